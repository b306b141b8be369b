import PyProof.Rows.All
import Wide.All
import OpenK.AllK
import Wide.FinOn
import HandS.ForMost
import HandS.Set
import KE.SortData
import HandS.ForExc
import HandS.ExcValue
import HandS.Flow
import HandS.Style
import HandS.Deep
import HandS.TupAny
import HandS.IsInst
import KE.DataMinMax
import HandS.Walk
import HandS.Zip
import KE.GoesMore
import PyProof.Draws
import PyProof.EnumMake
import HandS.NoneIn
import HandS.Small
import HandS.DictComp
import HandS.Conv
import HandS.RaiseMore
import KE.KExcSuper
import KE.KExcInit
import KE.KExcMake
import KE.KTryMore
import KE.KExcIs
import HandS.SetKeys
import HandS.SetFor
import KE.KDictList
import KE.KDictDisplayH
import HandS.Star
import PyProof.Rows.StrInSeq
import PySem.Challenge.RW_sameloops_k01_nodes_groups_and_rank
set_option Elab.async false
set_option linter.all false
set_option maxRecDepth 100000
/-! DS1: sorted of data, however they are gathered. -/
namespace DI
open PySem PySem.Spec PyProof.Rows PySem.W
section
variable {prog : Program} {w : World} {A : Around} {E : Value → Shared → Prop} {s : Shared}
/-- what was there stands -/
def OldH (h h' : Heap) : Prop := ∀ b o, h.get? b = some o → h'.get? b = some o
theorem OldH.refl (h : Heap) : OldH h h := fun _ _ e => e
theorem OldH.trans {h h' h'' : Heap} (a : OldH h h') (b : OldH h' h'') : OldH h h'' := fun x o e => b x o (a x o e)
/-- the items of a list or tuple gathered -/
theorem gather_sq {l : Addr} {o : Obj} {vs : List Value} {n : Nat} {Q : List Value → Shared → Prop} (ho : s.heap.get? l = some o) (hc : o.cls = .type "list" ∨ o.cls = .type "tuple") (hd : o.data = .seq vs.toArray n) (hz : vs.length ≤ sizeLine)
    (h : ∀ s1 : Shared, OldH s.heap s1.heap → s.heap.objs.size ≤ s1.heap.objs.size → s1.gens = s.gens → s1.os = s.os → Q vs s1) : wpAny (model prog w) A (collect (.ref l)) Q E s := by
  unfold collect
  refine wpAny_bind (wpAny_runValue (codeAny_builtin entry_proto_collect' ?_))
  show wpAny _ _ (do again (.builtin "list.__iadd__" ⟨[← newList [], .ref l], []⟩)) _ _ s
  refine wpAny_bind (wpAny_newList (wpAny_pure ⟨Code.quiet_builtin _ (by decide +kernel), codeAny_builtin entry_list_iadd' ?_⟩))
  show wpAny _ _ (Builtin.List.listExtendWith (.ref s.heap.objs.size) (.ref l) (.ref s.heap.objs.size)) _ _ { s with heap := s.heap.push (seqObj "list" #[] 0) }
  unfold Builtin.List.listExtendWith
  have k1 : (s.heap.push (seqObj "list" #[] 0)).get? l = some o := Heap.get?_push_of_some _ ho
  have hnl : s.heap.objs.size ≠ l := Nat.ne_of_gt (Heap.lt_size ho)
  obtain ⟨T, hT, hb⟩ : ∃ T : String, o.cls = .type T ∧ (Value.type T == Value.type "list" || Value.type T == Value.type "tuple") = true := by
    rcases hc with hc | hc
    · exact ⟨"list", hc, by rfl⟩
    · exact ⟨"tuple", hc, by rfl⟩
  refine wpAny_bind (wpAny_typeOf (T := T) ⟨o, k1, hT⟩ ?_)
  rw [if_pos (by rw [Bool.or_assoc, hb, Bool.or_true])]
  refine wpAny_bind (listItems_at k1 hd ?_)
  refine wpAny_bind (listItems_at (xs := #[]) (n := 0) (Heap.get?_push_size _ rfl) rfl ?_)
  rw [if_neg (by simp)]
  refine wpAny_bind (listUpdate_at (xs := #[]) (n := 0) (Heap.get?_push_size _ rfl) rfl ?_ (Nat.zero_le _) (by show (#[] ++ vs.toArray).size ≤ sizeLine + 1; simp only [Array.size_append, List.size_toArray, List.length_nil]; omega))
  refine wpAny_pure ?_
  show wpAny (model prog w) A (do
      let o ← load s.heap.objs.size
      match o.data with
      | .seq xs _ => pure xs.toList
      | _ => unsupported "internal:collect") Q E { s with heap := (s.heap.push (seqObj "list" #[] 0)).update s.heap.objs.size (Obj.mapSeq (· ++ vs.toArray)) }
  refine wpAny_bind (wpAny_load (get?_update_seq (Heap.get?_push_size _ rfl) _) ?_)
  show wpAny _ _ (pure ((#[] : Array Value) ++ vs.toArray).toList) Q E _
  rw [show ((#[] : Array Value) ++ vs.toArray).toList = vs by simp]
  refine wpAny_pure (h _ (fun b u e => ?_) ?_ rfl rfl)
  · have hb : b ≠ s.heap.objs.size := Nat.ne_of_lt (Heap.lt_size e)
    exact (Heap.get?_update_ne _ _ _ _ hb).trans (Heap.get?_push_of_some _ e)
  · show s.heap.objs.size ≤ ((s.heap.push (seqObj "list" #[] 0)).update s.heap.objs.size (Obj.mapSeq (· ++ vs.toArray))).objs.size
    rw [Heap.size_update, size_push']
    exact Nat.le_succ _

/-- sorted, the items gathered by col -/
theorem sorted_gen {l : Addr} {R : Value → PyData → Prop} {P : List PyData → Prop} {Q : Value → Shared → Prop}
    (hP : ∀ ds, P ds → AllAlike ds ∧ Sortable ds ∧ ds.length ≤ sizeLine ∧ ∀ d ∈ ds, A.units + 2 + d.depth < cLine)
    (col : ∀ (E' : Value → Shared → Prop) (Q' : List Value → Shared → Prop), (∀ (s1 : Shared) vs ds, OldH s.heap s1.heap → s.heap.objs.size ≤ s1.heap.objs.size → s1.gens = s.gens → s1.os = s.os → P ds → EachIs R vs ds → EachIs (fun v d => ∃ as, Reads s1.heap v d as) vs ds → Q' vs s1) → wpAny (model prog w) A.in1 (collect (.ref l)) Q' E' s)
    (h : ∀ (s' : Shared) p (out : List Value) c ds, OldH s.heap s'.heap → s.heap.objs.size ≤ p → s'.gens = s.gens → s'.os = s.os → s'.heap.get? p = some (seqObj "list" out.toArray c) → P ds → out.length = ds.length → EachIs R out (ds.mergeSort (dataLe false id)) → Q (.ref p) s') :
    wpAny (model prog w) A (call (.builtin "sorted") [.ref l]) Q E s := by
  refine Calls.call_function_entry kind_sorted plain_sorted entry_sorted (args_sorted1 _) ?_
  unfold Builtin.«sorted»
  refine wpAny_bind (m := checkCount "sorted" 1 1 _) (wpAny_pure ?_)
  refine wpAny_bind (col _ _ fun s1 vs ds k1 hz g1 o1 hp er ed => ?_)
  obtain ⟨hal, hk, hL, hu⟩ := hP ds hp
  have hlen : vs.length = ds.length := er.length
  refine wpAny_bind (wpAny_newList ?_ (by rw [hlen]; exact hL))
  have hoL : (s1.heap.push (seqObj "list" vs.toArray 0)).get? s1.heap.objs.size = some (seqObj "list" vs.toArray 0) := Heap.get?_push_size _ rfl
  have keep : OldH s1.heap (sortingHeap (s1.heap.push (seqObj "list" vs.toArray 0)) s1.heap.objs.size vs) := fun b o e =>
    sortingHeap_old (Nat.ne_of_lt (Heap.lt_size e)) (Heap.get?_push_of_some _ e)
  have ed' : EachIs (fun v d => ∃ as, Reads (sortingHeap (s1.heap.push (seqObj "list" vs.toArray 0)) s1.heap.objs.size vs) v d as) vs ds := ed.mono fun _ _ ⟨as, r⟩ => ⟨as, PyProof.Rows.Reads.keeps (fun b o e => keep b o e) r⟩
  have S := SortsAt.data (prog := prog) (w := w) (A := A.in1.in1) (s := { s1 with heap := sortingHeap (s1.heap.push (seqObj "list" vs.toArray 0)) s1.heap.objs.size vs }) ed' hal hk (fun d hd => by have := hu d hd; show A.units + 2 + d.depth < cLine; exact this)
  refine wpAny_bind (wpAny_holding (wpAny_call_entry slot_list_sort ⟨_, hoL, rfl⟩ entry_list_sort (list_sort_vals (s := { s1 with heap := s1.heap.push (seqObj "list" vs.toArray 0) }) hoL S (by rw [hlen]; exact hL) ⟨_, rfl, ?_⟩) (args_list_sort _)))
  have eo := sortVals_data (h' := sortingHeap (s1.heap.push (seqObj "list" vs.toArray 0)) s1.heap.objs.size vs) (R := R) (enc := id) (bs := ds) false er ed' (by rw [List.map_id]; exact hal)
  have eo' : EachIs R (sortVals (dataKind (sortingHeap (s1.heap.push (seqObj "list" vs.toArray 0)) s1.heap.objs.size vs) ds) false vs vs) (ds.mergeSort (dataLe false id)) := by
    rw [List.map_id] at eo
    exact eo
  obtain ⟨c, hc⟩ := sortedHeap_at (vs := vs) (out := (sortVals (dataKind (sortingHeap (s1.heap.push (seqObj "list" vs.toArray 0)) s1.heap.objs.size vs) ds) false vs vs).toArray) hoL
  refine wpAny_pure ⟨_, rfl, h _ s1.heap.objs.size _ c ds (fun b o e => ?_) hz g1 o1 hc hp (by rw [sortVals_length false rfl]; exact hlen) eo'⟩
  have q := k1 b o e
  have hlt := Heap.lt_size q
  show (sortedHeap (s1.heap.push (seqObj "list" vs.toArray 0)) s1.heap.objs.size vs _).get? b = some o
  rw [sortedHeap_old (Nat.ne_of_lt hlt) (by rw [size_push']; exact Nat.lt_succ_of_lt hlt)]
  exact Heap.get?_push_of_some _ q
end
end DI

set_option maxRecDepth 100000
/-! DI1: plain data, what stands for them in the heap, the small environments and their frames. -/
namespace DI
open PySem PySem.Spec PyProof.Rows L2

abbrev D := PyData
def kD : Key → D
  | .inl i => .int i
  | .inr s => .str s

/-- a caught exception at a: its class, its own dict -/
def ExT (cls : Value) (d : Option Addr) (a : Addr) : HO := .ext fun h => ∃ (oe : Obj) (vs : Array Value), h.get? a = some oe ∧ Zc cls d oe ∧ oe.data = .fields vs
/-- the class that the text calls c -/
def ClsAt (K : PySem.W.Frag) (c : Str) (C : Addr) : Prop := PySem.W.nsIn K mainGlobals c = some (some (.ref C))
mutual
inductive Rep (K : PySem.W.Frag) (F : Hp) : V → D → Prop
  | non : Rep K F .non .none
  | bl (b : Bool) : Rep K F (.bl b) (.bool b)
  | int (i : Int) : Rep K F (.int i) (.int i)
  | str (x : Str) : Rep K F (.str x) (.str x)
  | lst {a : Addr} {xs : List V} {ds : List D} : SqL K F a xs → Reps K F xs ds → Rep K F (.ref a) (.list ds)
  | tup {a : Addr} {xs : List V} {ds : List D} : F a = some (.tup xs) → Reps K F xs ds → Rep K F (.ref a) (.tuple ds)
  | dic {a : Addr} {kvs : List (Key × V)} {ds : List (D × D)} : Rd F a (.dK kvs) → RepKV K F kvs ds → Rep K F (.ref a) (.dict ds)
  | dicT {a : Addr} {kvs : List (List Key × V)} {ds : List (D × D)} : Rd F a (.dT kvs) → ds ≠ [] → RepTV K F kvs ds → Rep K F (.ref a) (.dict ds)
  | exc0 {a C : Addr} {c : Str} : ClsAt K c C → Rd F a (ExT (.ref C) none a) → Rep K F (.ref a) (.dict [(.none, .str c)])
  | exc1 {a C dd : Addr} {c n : Str} {w : V} {x : D} : ClsAt K c C → Rd F a (ExT (.ref C) (some dd) a) → Rd F dd (.xd [(n, w)]) → Rep K F w x → Rep K F (.ref a) (.dict [(.none, .str c), (.str n, x)])
inductive Reps (K : PySem.W.Frag) (F : Hp) : List V → List D → Prop
  | nil : Reps K F [] []
  | cons {v : V} {d : D} {vs : List V} {ds : List D} : Rep K F v d → Reps K F vs ds → Reps K F (v :: vs) (d :: ds)
inductive RepKV (K : PySem.W.Frag) (F : Hp) : List (Key × V) → List (D × D) → Prop
  | nil : RepKV K F [] []
  | cons {k : Key} {v : V} {d : D} {vs : List (Key × V)} {ds : List (D × D)} : Rep K F v d → RepKV K F vs ds → RepKV K F ((k, v) :: vs) ((kD k, d) :: ds)
/-- keys that are tuples of numbers and texts -/
inductive RepTV (K : PySem.W.Frag) (F : Hp) : List (List Key × V) → List (D × D) → Prop
  | nil : RepTV K F [] []
  | cons {k : List Key} {v : V} {d : D} {vs : List (List Key × V)} {ds : List (D × D)} : Rep K F v d → RepTV K F vs ds → RepTV K F ((k, v) :: vs) ((.tuple (k.map kD), d) :: ds)
end

/-- what is read in F is read in G -/
structure Le (F G : Hp) : Prop where
  rd : ∀ a u, Rd F a u → Rd G a u
  tp : ∀ a xs, F a = some (.tup xs) → G a = some (.tup xs)
instance {F G : Hp} : CoeFun (Le F G) fun _ => ∀ a u, Rd F a u → Rd G a u := ⟨Le.rd⟩
theorem Le.refl (F : Hp) : Le F F := ⟨fun _ _ h => h, fun _ _ h => h⟩
theorem Le.trans {F G H : Hp} (a : Le F G) (b : Le G H) : Le F H := ⟨fun x u h => b x u (a x u h), fun x u h => b.tp x u (a.tp x u h)⟩
section
variable {K : PySem.W.Frag} {F G : Hp}
theorem Le.sqL {a : Addr} {xs : List V} (e : Le F G) (h : SqL K F a xs) : SqL K G a xs := by
  rcases h with h | h
  · exact .inl (e _ _ h)
  · exact .inr h
theorem Le.sqT {a : Addr} {xs : List V} (e : Le F G) (h : SqT K F a xs) : SqT K G a xs := by
  rcases h with h | h
  · exact .inl (e _ _ h)
  · exact .inr h
mutual
theorem Rep.mono (e : Le F G) : ∀ {v : V} {d : D}, Rep K F v d → Rep K G v d
  | _, _, .non => .non
  | _, _, .bl b => .bl b
  | _, _, .int i => .int i
  | _, _, .str x => .str x
  | _, _, .lst h r => .lst (e.sqL h) (Reps.mono e r)
  | _, _, .tup h r => .tup (e.tp _ _ h) (Reps.mono e r)
  | _, _, .dic h r => .dic (e _ _ h) (RepKV.mono e r)
  | _, _, .dicT h n r => .dicT (e _ _ h) n (RepTV.mono e r)
  | _, _, .exc0 h r => .exc0 h (e _ _ r)
  | _, _, .exc1 h r q x => .exc1 h (e _ _ r) (e _ _ q) (Rep.mono e x)
theorem Reps.mono (e : Le F G) : ∀ {v : List V} {d : List D}, Reps K F v d → Reps K G v d
  | _, _, .nil => .nil
  | _, _, .cons h r => .cons (Rep.mono e h) (Reps.mono e r)
theorem RepKV.mono (e : Le F G) : ∀ {v : List (Key × V)} {d : List (D × D)}, RepKV K F v d → RepKV K G v d
  | _, _, .nil => .nil
  | _, _, .cons h r => .cons (Rep.mono e h) (RepKV.mono e r)
theorem RepTV.mono (e : Le F G) : ∀ {v : List (List Key × V)} {d : List (D × D)}, RepTV K F v d → RepTV K G v d
  | _, _, .nil => .nil
  | _, _, .cons h r => .cons (Rep.mono e h) (RepTV.mono e r)
end
theorem Reps.length : ∀ {v : List V} {d : List D}, Reps K F v d → v.length = d.length
  | _, _, .nil => rfl
  | _, _, .cons _ r => congrArg (· + 1) (Reps.length r)
theorem Reps.get : ∀ {v : List V} {d : List D} {i : Nat} {x : D}, Reps K F v d → d[i]? = some x → ∃ y, v[i]? = some y ∧ Rep K F y x
  | _, _, _, _, .nil, e => by simp at e
  | _, _, 0, _, .cons h _, e => by simp at e; subst e; exact ⟨_, rfl, h⟩
  | _, _, i + 1, x, .cons _ r, e => by
    obtain ⟨y, h1, h2⟩ := Reps.get (i := i) (x := x) r (by simpa using e)
    exact ⟨y, by simpa using h1, h2⟩
theorem Reps.getV : ∀ {v : List V} {d : List D} {i : Nat} {y : V}, Reps K F v d → v[i]? = some y → ∃ x, d[i]? = some x ∧ Rep K F y x
  | _, _, _, _, .nil, e => by simp at e
  | _, _, 0, _, .cons h _, e => by simp at e; subst e; exact ⟨_, rfl, h⟩
  | _, _, i + 1, x, .cons _ r, e => by
    obtain ⟨y, h1, h2⟩ := Reps.getV (i := i) (y := x) r (by simpa using e)
    exact ⟨y, by simpa using h1, h2⟩
theorem Reps.append : ∀ {v v' : List V} {d d' : List D}, Reps K F v d → Reps K F v' d' → Reps K F (v ++ v') (d ++ d')
  | _, _, _, _, .nil, s => s
  | _, _, _, _, .cons h r, s => .cons h (Reps.append r s)
theorem Reps.take : ∀ {v : List V} {d : List D} (n : Nat), Reps K F v d → Reps K F (v.take n) (d.take n)
  | _, _, 0, _ => .nil
  | _, _, _ + 1, .nil => .nil
  | _, _, n + 1, .cons h r => .cons h (Reps.take n r)
theorem Reps.drop : ∀ {v : List V} {d : List D} (n : Nat), Reps K F v d → Reps K F (v.drop n) (d.drop n)
  | _, _, 0, r => r
  | _, _, _ + 1, .nil => .nil
  | _, _, n + 1, .cons _ r => Reps.drop n r
theorem Reps.set {y : V} {x : D} (q : Rep K F y x) : ∀ {v : List V} {d : List D} (i : Nat), Reps K F v d → Reps K F (v.set i y) (d.set i x)
  | _, _, _, .nil => .nil
  | _, _, 0, .cons _ r => .cons q r
  | _, _, i + 1, .cons h r => .cons h (Reps.set q i r)
theorem Reps.reverse : ∀ {v : List V} {d : List D}, Reps K F v d → Reps K F v.reverse d.reverse
  | _, _, .nil => .nil
  | _, _, .cons h r => by
    rw [List.reverse_cons, List.reverse_cons]
    exact Reps.append (Reps.reverse r) (.cons h .nil)
theorem Reps.eraseIdx : ∀ {v : List V} {d : List D} (n : Nat), Reps K F v d → Reps K F (v.eraseIdx n) (d.eraseIdx n)
  | _, _, 0, .nil => .nil
  | _, _, _ + 1, .nil => .nil
  | _, _, 0, .cons _ r => r
  | _, _, n + 1, .cons h r => .cons h (Reps.eraseIdx n r)
end

/-! ### the heap without what is owned -/
open Classical in
noncomputable def er (S : Addr → Prop) (H : Hp) : Hp := fun a => if S a then none else H a
theorem er_of {S : Addr → Prop} {H : Hp} {a : Addr} (h : ¬ S a) : er S H a = H a := by
  unfold er
  rw [if_neg h]
theorem er_some {S : Addr → Prop} {H : Hp} {a : Addr} {o : HO} (h : er S H a = some o) : ¬ S a ∧ H a = some o := by
  unfold er at h
  by_cases hs : S a
  · rw [if_pos hs] at h
    cases h
  · rw [if_neg hs] at h
    exact ⟨hs, h⟩
theorem er_le {S S' : Addr → Prop} {H H' : Hp} (h : ∀ a o, ¬ S a → H a = some o → ¬ S' a ∧ H' a = some o) : Le (er S H) (er S' H') := by
  have key : ∀ a o, er S H a = some o → er S' H' a = some o := fun a o r => by
    obtain ⟨h1, h2⟩ := er_some r
    obtain ⟨h3, h4⟩ := h a _ h1 h2
    exact (er_of h3).trans h4
  exact ⟨fun a u r => r.elim (fun r => .inl (key a u r)) fun ⟨o, r⟩ => .inr ⟨o, key a _ r⟩, fun a xs r => key a _ r⟩
theorem er_full {S : Addr → Prop} {H : Hp} : Le (er S H) H :=
  ⟨fun a u r => r.elim (fun r => .inl (er_some r).2) fun ⟨o, r⟩ => .inr ⟨o, (er_some r).2⟩, fun a xs r => (er_some r).2⟩

/-! ### the small environments -/
/-- who owns a list or dict at a slot: the def itself; its caller; nobody may change it now -/
inductive Kd | own | bor | lck
  deriving DecidableEq
inductive Sl | un | im (d : D) | ow (k : Kd) (d : D)
abbrev Env := List Sl
/-- a value: shared data; a fresh list or dict; what slot i holds -/
inductive R | im (d : D) | fr (d : D) | al (i : Nat)
@[simp] def slD : Option Sl → Option D
  | some (.im d) => some d
  | some (.ow _ d) => some d
  | _ => none
@[simp] def R.val (env : Env) : R → Option D
  | .im d => some d
  | .fr d => some d
  | .al i => slD env[i]?

/-- a list or dict that is owned -/
def Own (K : PySem.W.Frag) (F H : Hp) (p : Addr) : D → Prop
  | .list ds => ∃ xs, Rd H p (.lst xs) ∧ Reps K F xs ds
  | .dict ds => (∃ kvs, Rd H p (.dK kvs) ∧ RepKV K F kvs ds) ∨ (ds ≠ [] ∧ ∃ kvs, Rd H p (.dT kvs) ∧ RepTV K F kvs ds)
  | _ => False
theorem Own.mono {K : PySem.W.Frag} {F F' H H' : Hp} {p : Addr} {d : D} (e : Le F F') (h : ∀ u, Rd H p u → Rd H' p u) (o : Own K F H p d) : Own K F' H' p d := by
  cases d with
  | list ds => obtain ⟨xs, h1, h2⟩ := o; exact ⟨xs, h _ h1, h2.mono e⟩
  | dict ds =>
    rcases o with ⟨xs, h1, h2⟩ | ⟨n, xs, h1, h2⟩
    · exact .inl ⟨xs, h _ h1, h2.mono e⟩
    · exact .inr ⟨n, xs, h _ h1, h2.mono e⟩
  | _ => exact o.elim
theorem Own.rep {K : PySem.W.Frag} {F H : Hp} {p : Addr} {d : D} (e : Le F H) (o : Own K F H p d) : Rep K H (.ref p) d := by
  cases d with
  | list ds => obtain ⟨xs, h1, h2⟩ := o; exact .lst (.inl h1) (h2.mono e)
  | dict ds =>
    rcases o with ⟨xs, h1, h2⟩ | ⟨n, xs, h1, h2⟩
    · exact .dic h1 (h2.mono e)
    · exact .dicT h1 n (h2.mono e)
  | _ => exact o.elim

def OwnsK (k : Kd) (σ : L2.St) (env : Env) (a : Addr) : Prop := ∃ (i : Nat) (d : D), env[i]? = some (.ow k d) ∧ σ[i]? = some (some (.ref a))
/-- what may be changed -/
def Ch (σ : L2.St) (env : Env) (a : Addr) : Prop := OwnsK .own σ env a ∨ OwnsK .bor σ env a

structure EnvOk (K : PySem.W.Frag) (S : Addr → Prop) (σ : L2.St) (H : Hp) (env : Env) : Prop where
  len : σ.length = env.length
  dom : ∀ a, S a → H a ≠ none
  im : ∀ (i : Nat) d, env[i]? = some (.im d) → ∃ v, σ[i]? = some (some v) ∧ Rep K (er S H) v d
  ow : ∀ (i : Nat) k d, env[i]? = some (.ow k d) → ∃ p, σ[i]? = some (some (.ref p)) ∧ S p ∧ Own K (er S H) H p d ∧ (k ≠ .lck → Mut (H p))
  inj : ∀ (i j : Nat) k l d e p, env[i]? = some (.ow k d) → env[j]? = some (.ow l e) → σ[i]? = some (some (.ref p)) → σ[j]? = some (some (.ref p)) → i = j
theorem EnvOk.owns {K : PySem.W.Frag} {S : Addr → Prop} {σ : L2.St} {H : Hp} {env : Env} (ok : EnvOk K S σ H env) {k : Kd} {a : Addr} (h : OwnsK k σ env a) : S a := by
  obtain ⟨i, d, h1, h2⟩ := h
  obtain ⟨p, h3, h4, _⟩ := ok.ow i k d h1
  rw [h2] at h3
  cases h3
  exact h4
theorem EnvOk.ch {K : PySem.W.Frag} {S : Addr → Prop} {σ : L2.St} {H : Hp} {env : Env} (ok : EnvOk K S σ H env) {a : Addr} (h : Ch σ env a) : S a := by
  rcases h with h | h
  · exact ok.owns h
  · exact ok.owns h

/-- from a state to a later one, within one expression (σ as it is) or a statement -/
structure Fw (S : Addr → Prop) (H : Hp) (σ : L2.St) (env : Env) (S' : Addr → Prop) (H' : Hp) (σ' : L2.St) (env' : Env) : Prop where
  sub : ∀ a, S' a → S a ∨ H a = none
  kp : ∀ a, S a → H a ≠ none → ¬ OwnsK .own σ env a → S' a
  fr : ∀ a o, H a = some o → ¬ Ch σ env a → H' a = some o
  own : ∀ a, OwnsK .own σ' env' a → OwnsK .own σ env a ∨ H a = none
  bo : ∀ (i : Nat) d, env[i]? = some (.ow .bor d) → ∃ d', env'[i]? = some (.ow .bor d') ∧ σ'[i]? = σ[i]?
  bo' : ∀ (i : Nat) d, env'[i]? = some (.ow .bor d) → ∃ d', env[i]? = some (.ow .bor d') ∧ σ'[i]? = σ[i]?
  lk : ∀ (i : Nat) d, env[i]? = some (.ow .lck d) → env'[i]? = some (.ow .lck d) ∧ σ'[i]? = σ[i]?
  lk' : ∀ (i : Nat) d, env'[i]? = some (.ow .lck d) → env[i]? = some (.ow .lck d) ∧ σ'[i]? = σ[i]?
  dm : ∀ a, H a ≠ none → H' a ≠ none
section
variable {S S' S'' : Addr → Prop} {H H' H'' : Hp} {σ σ' σ'' : L2.St} {env env' env'' : Env} {K : PySem.W.Frag}
theorem Fw.refl : Fw S H σ env S H σ env :=
  ⟨fun _ h => .inl h, fun _ h _ _ => h, fun _ _ h _ => h, fun _ h => .inl h, fun _ d h => ⟨d, h, rfl⟩, fun _ d h => ⟨d, h, rfl⟩, fun _ _ h => ⟨h, rfl⟩, fun _ _ h => ⟨h, rfl⟩, fun _ h => h⟩
theorem none_back {a : Addr} (dm : ∀ a, H a ≠ none → H' a ≠ none) (h : H' a = none) : H a = none := by
  by_cases e : H a = none
  · exact e
  · exact absurd h (dm a e)
theorem Fw.ch (f : Fw S H σ env S' H' σ' env') {a : Addr} (h : Ch σ' env' a) : Ch σ env a ∨ H a = none := by
  rcases h with h | h
  · rcases f.own a h with h | h
    · exact .inl (.inl h)
    · exact .inr h
  · obtain ⟨i, d, h1, h2⟩ := h
    obtain ⟨d', h3, h4⟩ := f.bo' i d h1
    exact .inl (.inr ⟨i, d', h3, h4.symm.trans h2⟩)
theorem Fw.trans (f : Fw S H σ env S' H' σ' env') (g : Fw S' H' σ' env' S'' H'' σ'' env'') : Fw S H σ env S'' H'' σ'' env'' where
  sub := fun a h => by
    rcases g.sub a h with h | h
    · exact f.sub a h
    · exact .inr (none_back f.dm h)
  kp := fun a h hn n => g.kp a (f.kp a h hn n) (f.dm a hn) fun q => by
    rcases f.own a q with q | q
    · exact n q
    · exact hn q
  fr := fun a o h n => g.fr a o (f.fr a o h n) fun q => by
    rcases f.ch q with q | q
    · exact n q
    · rw [h] at q; cases q
  own := fun a h => by
    rcases g.own a h with h | h
    · exact f.own a h
    · exact .inr (none_back f.dm h)
  bo := fun i d h => by
    obtain ⟨d1, h1, e1⟩ := f.bo i d h
    obtain ⟨d2, h2, e2⟩ := g.bo i d1 h1
    exact ⟨d2, h2, e2.trans e1⟩
  bo' := fun i d h => by
    obtain ⟨d1, h1, e1⟩ := g.bo' i d h
    obtain ⟨d2, h2, e2⟩ := f.bo' i d1 h1
    exact ⟨d2, h2, e1.trans e2⟩
  lk := fun i d h => by
    obtain ⟨h1, e1⟩ := f.lk i d h
    obtain ⟨h2, e2⟩ := g.lk i d h1
    exact ⟨h2, e2.trans e1⟩
  lk' := fun i d h => by
    obtain ⟨h1, e1⟩ := g.lk' i d h
    obtain ⟨h2, e2⟩ := f.lk' i d h1
    exact ⟨h2, e1.trans e2⟩
  dm := fun a h => g.dm a (f.dm a h)
/-- the shared part only grows -/
theorem Fw.le (ok : EnvOk K S σ H env) (f : Fw S H σ env S' H' σ' env') : Le (er S H) (er S' H') := er_le fun a o h1 h2 => by
  refine ⟨fun q => ?_, f.fr a o h2 fun q => h1 (ok.ch q)⟩
  rcases f.sub a q with q | q
  · exact h1 q
  · rw [h2] at q; cases q

/-- a value at hand; temporaries (fresh objects) are in S -/
def RV (K : PySem.W.Frag) (S : Addr → Prop) (H : Hp) (σ : L2.St) (env : Env) (r : R) (v : V) : Prop :=
  match r with
  | .im d => Rep K (er S H) v d
  | .al i => σ[i]? = some (some v)
  | .fr d => ∃ p, v = .ref p ∧ S p ∧ ¬ Ch σ env p ∧ ¬ OwnsK .lck σ env p ∧ Own K (er S H) H p d ∧ Mut (H p)
theorem RV.step {r : R} {v : V} (ok : EnvOk K S σ H env) (f : Fw S H σ env S' H' σ env') (h : RV K S H σ env r v) : RV K S' H' σ env' r v := by
  cases r with
  | im d => exact Rep.mono (f.le ok) h
  | al i => exact h
  | fr d =>
    obtain ⟨p, e, hs, hc, hl, ho, hm⟩ := h
    have hn := ok.dom p hs
    obtain ⟨o, ho'⟩ : ∃ o, H p = some o := by
      cases q : H p with
      | none => exact absurd q hn
      | some o => exact ⟨o, rfl⟩
    have e2 : H' p = H p := by rw [ho']; exact f.fr p o ho' hc
    refine ⟨p, e, f.kp p hs hn fun q => hc (.inl q), fun q => ?_, fun q => ?_, Own.mono (f.le ok) (fun u r => ?_) ho, by rw [e2]; exact hm⟩
    · rcases f.ch q with q | q
      · exact hc q
      · exact hn q
    · obtain ⟨i, d', h1, h2⟩ := q
      obtain ⟨h3, h4⟩ := f.lk' i d' h1
      exact hl ⟨i, d', h3, h2⟩
    · unfold Rd at r ⊢
      rw [e2]
      exact r
theorem slD_some {o : Option Sl} {d : D} (h : slD o = some d) : o = some (.im d) ∨ ∃ k, o = some (.ow k d) := by
  cases o with
  | none => cases h
  | some s =>
    cases s with
    | un => cases h
    | im e => cases h; exact .inl rfl
    | ow k e => cases h; exact .inr ⟨k, rfl⟩
/-- whatever it is, it stands for its data -/
theorem RV.rep {r : R} {v : V} {d : D} (ok : EnvOk K S σ H env) (h : RV K S H σ env r v) (hv : r.val env = some d) : Rep K H v d := by
  cases r with
  | im e => cases hv; exact Rep.mono er_full h
  | fr e =>
    cases hv
    obtain ⟨p, rfl, _, _, _, ho, _⟩ := h
    exact ho.rep er_full
  | al i =>
    rcases slD_some hv with e | ⟨k, e⟩
    · obtain ⟨w, h1, h2⟩ := ok.im i d e
      have h' : σ[i]? = some (some v) := h
      rw [h'] at h1
      cases h1
      exact h2.mono er_full
    · obtain ⟨p, h1, _, h2, _⟩ := ok.ow i k d e
      have h' : σ[i]? = some (some v) := h
      rw [h'] at h1
      cases h1
      exact h2.rep er_full
/-- leaves stand for themselves -/
def leaf : D → Bool
  | .none => true
  | .bool _ => true
  | .int _ => true
  | .str _ => true
  | _ => false
theorem Rep.leaf {F G : Hp} {v : V} {d : D} (h : Rep K F v d) (l : leaf d = true) : Rep K G v d := by
  cases h with
  | non => exact .non
  | bl b => exact .bl b
  | int i => exact .int i
  | str x => exact .str x
  | _ => cases l

/-- a value is stored: a fresh one, and one that a slot owned, becomes shared -/
@[simp] def sto : R → Env → Option (D × Env)
  | .im d, env => some (d, env)
  | .fr d, env => some (d, env)
  | .al i, env => match env[i]? with
    | some (.im d) => some (d, env)
    | some (.ow .own d) => some (d, env.set i (.im d))
    | _ => none
theorem EnvOk.shrink {p : Addr} (ok : EnvOk K S σ H env) (hc : ∀ k, ¬ OwnsK k σ env p) : EnvOk K (fun a => S a ∧ a ≠ p) σ H env := by
  have le : Le (er S H) (er (fun a => S a ∧ a ≠ p) H) := er_le fun a o h1 h2 => ⟨fun q => h1 q.1, h2⟩
  refine ⟨ok.len, fun a h => ok.dom a h.1, fun i d e => ?_, fun i k d e => ?_, ok.inj⟩
  · obtain ⟨v, h1, h2⟩ := ok.im i d e
    exact ⟨v, h1, h2.mono le⟩
  · obtain ⟨q, h1, h2, h3, h4⟩ := ok.ow i k d e
    refine ⟨q, h1, ⟨h2, fun z => ?_⟩, h3.mono le (fun _ h => h), h4⟩
    subst z
    exact hc k ⟨i, d, e, h1⟩
theorem getElem?_set_cases {α : Type} {l : List α} {i j : Nat} {x y : α} (h : (l.set i x)[j]? = some y) : (i = j ∧ y = x) ∨ (i ≠ j ∧ l[j]? = some y) := by
  by_cases e : i = j
  · subst e
    by_cases hl : i < l.length
    · rw [List.getElem?_set_self hl] at h
      cases h
      exact .inl ⟨rfl, rfl⟩
    · rw [List.getElem?_eq_none (by rw [List.length_set]; omega)] at h
      cases h
  · rw [List.getElem?_set_ne e] at h
    exact .inr ⟨e, h⟩
/-- slot i, which owned p, is shared from now on -/
theorem EnvOk.freeze {i : Nat} {d : D} {p : Addr} (ok : EnvOk K S σ H env) (e : env[i]? = some (.ow .own d)) (hp : σ[i]? = some (some (.ref p))) :
    EnvOk K (fun a => S a ∧ a ≠ p) σ H (env.set i (.im d)) ∧ Fw S H σ env (fun a => S a ∧ a ≠ p) H σ (env.set i (.im d)) ∧ Rep K (er (fun a => S a ∧ a ≠ p) H) (.ref p) d := by
  have le : Le (er S H) (er (fun a => S a ∧ a ≠ p) H) := er_le fun a o h1 h2 => ⟨fun q => h1 q.1, h2⟩
  obtain ⟨p', q1, q2, q3, q4⟩ := ok.ow i _ d e
  rw [hp] at q1
  cases q1
  have hi : i < env.length := (List.getElem?_eq_some_iff.mp e).1
  have rep : Rep K (er (fun a => S a ∧ a ≠ p) H) (.ref p) d := by
    have e2 : ∀ u, Rd H p u → Rd (er (fun a => S a ∧ a ≠ p) H) p u := fun u r => by
      unfold Rd at r ⊢
      rw [er_of (fun z => z.2 rfl)]
      exact r
    cases d with
    | list ds => obtain ⟨xs, h1, h2⟩ := q3; exact .lst (.inl (e2 _ h1)) (h2.mono le)
    | dict ds =>
      rcases q3 with ⟨xs, h1, h2⟩ | ⟨n, xs, h1, h2⟩
      · exact .dic (e2 _ h1) (h2.mono le)
      · exact .dicT (e2 _ h1) n (h2.mono le)
    | _ => exact q3.elim
  refine ⟨⟨by rw [List.length_set]; exact ok.len, fun a h => ok.dom a h.1, fun j d' e' => ?_, fun j k d' e' => ?_, fun j l k k' d1 d2 q h1 h2 => ?_⟩, ⟨fun a h => .inl h.1, fun a h _ n => ⟨h, fun z => ?_⟩, fun _ _ h _ => h, fun a h => ?_, fun j d' h => ?_, fun j d' h => ?_, fun j d' h => ?_, fun j d' h => ?_, fun _ h => h⟩, rep⟩
  · rcases getElem?_set_cases e' with ⟨rfl, z⟩ | ⟨_, z⟩
    · cases z
      exact ⟨_, hp, rep⟩
    · obtain ⟨v, h1, h2⟩ := ok.im j d' z
      exact ⟨v, h1, h2.mono le⟩
  · rcases getElem?_set_cases e' with ⟨rfl, z⟩ | ⟨ne, z⟩
    · cases z
    · obtain ⟨v, h1, h2, h3, h4⟩ := ok.ow j k d' z
      refine ⟨v, h1, ⟨h2, fun w => ?_⟩, h3.mono le (fun _ h => h), h4⟩
      subst w
      exact ne (ok.inj i j _ _ _ _ _ e z hp h1)
  · rcases getElem?_set_cases h1 with ⟨rfl, z⟩ | ⟨_, z⟩
    · cases z
    · rcases getElem?_set_cases h2 with ⟨rfl, z'⟩ | ⟨_, z'⟩
      · cases z'
      · exact ok.inj j l k k' d1 d2 q z z'
  · subst z
    exact n ⟨i, d, e, hp⟩
  · obtain ⟨j, d', h1, h2⟩ := h
    rcases getElem?_set_cases h1 with ⟨rfl, z⟩ | ⟨_, z⟩
    · cases z
    · exact .inl ⟨j, d', z, h2⟩
  · have ne : i ≠ j := fun z => by
      subst z
      rw [e] at h
      cases h
    exact ⟨d', by rw [List.getElem?_set_ne ne]; exact h, rfl⟩
  · rcases getElem?_set_cases h with ⟨rfl, z⟩ | ⟨_, z⟩
    · cases z
    · exact ⟨d', z, rfl⟩
  · have ne : i ≠ j := fun z => by
      subst z
      rw [e] at h
      cases h
    exact ⟨by rw [List.getElem?_set_ne ne]; exact h, rfl⟩
  · rcases getElem?_set_cases h with ⟨rfl, z⟩ | ⟨_, z⟩
    · cases z
    · exact ⟨z, rfl⟩
/-- what stands behind an expression: from S0, H0, env0 it came to S, H, env with the value v -/
structure Post (K : PySem.W.Frag) (S0 : Addr → Prop) (H0 : Hp) (σ : L2.St) (env0 : Env) (r : R) (env : Env) (v : V) (S : Addr → Prop) (H : Hp) : Prop where
  fw : Fw S0 H0 σ env0 S H σ env
  ok : EnvOk K S σ H env
  rv : RV K S H σ env r v
  new : ∀ d p, r = .fr d → v = .ref p → H0 p = none
/-- .. stored -/
theorem Post.sto {S0 : Addr → Prop} {H0 : Hp} {env0 : Env} {r : R} {v : V} {d : D} (P : Post K S0 H0 σ env0 r env v S H) (h : sto r env = some (d, env')) :
    ∃ S', Fw S0 H0 σ env0 S' H σ env' ∧ EnvOk K S' σ H env' ∧ Rep K (er S' H) v d := by
  cases r with
  | im e =>
    cases h
    exact ⟨S, P.fw, P.ok, P.rv⟩
  | fr e =>
    cases h
    obtain ⟨p, rfl, hs, hc, hl, ho, hm⟩ := P.rv
    have hn : H0 p = none := P.new _ _ rfl rfl
    have nk : ∀ k, ¬ OwnsK k σ env p := fun k => by
      cases k with
      | own => exact fun q => hc (.inl q)
      | bor => exact fun q => hc (.inr q)
      | lck => exact hl
    have f := P.fw
    refine ⟨fun a => S a ∧ a ≠ p, ⟨fun a q => f.sub a q.1, fun a q1 q2 q3 => ⟨f.kp a q1 q2 q3, fun z => ?_⟩, f.fr, f.own, f.bo, f.bo', f.lk, f.lk', f.dm⟩, P.ok.shrink nk, ?_⟩
    · subst z
      exact q2 hn
    · have le : Le (er S H) (er (fun a => S a ∧ a ≠ p) H) := er_le fun a o h1 h2 => ⟨fun q => h1 q.1, h2⟩
      have e2 : ∀ u, Rd H p u → Rd (er (fun a => S a ∧ a ≠ p) H) p u := fun u r => by
        unfold Rd at r ⊢
        rw [er_of (fun z => z.2 rfl)]
        exact r
      cases d with
      | list ds => obtain ⟨xs, h1, h2⟩ := ho; exact .lst (.inl (e2 _ h1)) (h2.mono le)
      | dict ds =>
        rcases ho with ⟨xs, h1, h2⟩ | ⟨n, xs, h1, h2⟩
        · exact .dic (e2 _ h1) (h2.mono le)
        · exact .dicT (e2 _ h1) n (h2.mono le)
      | _ => exact ho.elim
  | al i =>
    have hv : σ[i]? = some (some v) := P.rv
    dsimp only [DI.sto] at h
    cases q : env[i]? with
    | none => rw [q] at h; cases h
    | some s =>
      rw [q] at h
      cases s with
      | un => cases h
      | im e =>
        cases h
        obtain ⟨w, h1, h2⟩ := P.ok.im i _ q
        rw [hv] at h1
        cases h1
        exact ⟨S, P.fw, P.ok, h2⟩
      | ow k e =>
        cases k with
        | own =>
          cases h
          obtain ⟨p, h1, h2, h3, h4⟩ := P.ok.ow i _ _ q
          rw [hv] at h1
          cases h1
          obtain ⟨f1, f2, f3⟩ := P.ok.freeze q hv
          exact ⟨_, P.fw.trans f2, f1, f3⟩
        | bor => cases h
        | lck => cases h
end
end DI

set_option maxRecDepth 100000
/-! DI2: the small language and its evaluator. -/
namespace DI
open PySem PySem.Spec PyProof.Rows L2

/-- what a list may hold at most, here -/
def lim : Nat := 16000000

/-- a target: a name; names -/
inductive Tg | n (i : Nat) | t (is : List Nat)
/-- built-in functions of values -/
inductive B | len | abs | int | bool | list | tuple | sorted | sum | all | any | min | max | str | setSorted | lenSet | rng
  deriving DecidableEq
/-- methods of a list that only read it -/
inductive Mi | index | get
  deriving DecidableEq
/-- methods of a list that a slot holds -/
inductive Me | append | pop | popAt | reverse
  deriving DecidableEq
mutual
inductive Xp
  | c (d : D)
  | v (i : Nat)
  | tup (es : Xps)
  | lst (es : Xps)
  | bin (o : Operator) (a b : Xp)
  | rep (es : Xps) (n : Xp)
  | neg (a : Xp)
  | cmp (o : CmpOp) (a b : Xp)
  | cmp2 (o p : CmpOp) (a b c : Xp)
  | frz (a : Xp)
  | andX (a b : Xp)
  | orX (a b : Xp)
  | notX (a : Xp)
  | ite (t a b : Xp)
  | ix (a i : Xp)
  | sl (a : Xp) (lo hi : Xp)
  | rev (a : Xp)
  | nil
  | bi (f : B) (es : Xps)
  | isi (a : Xp) (tys : List String)
  | call (f : Str) (es : Xps)
  | calK (f : Str) (es : Xps) (pm : List Nat)
  | me (m : Me) (i : Nat) (es : Xps)
  | ext (i : Nat) (x : Xp)
  | sdf (i : Nat) (es : Xps)
  | get2 (a : Xp) (es : Xps)
  | mi (m : Mi) (a x : Xp)
  | dct (es : Xps)
  | dct1 (es : Xps)
  | vls (t : Bool) (a : Xp)
  | inv (a e : Xp)
  | xis (a : Xp) (tb : List (Str × Bool))
  | fld (a : Xp) (cs : List Str) (n : Str)
  | lc (vs : List Nat) (it : It) (tg : Tg) (tt : Xp) (e : Xp)
  | dc (vs : List Nat) (it : It) (tg : Tg) (tt : Xp) (k e : Xp)
  | disp (ks vs : Xps)
inductive Xps
  | nil
  | cons (x : Xp) (xs : Xps)
inductive It
  | x (a : Xp)
  | vl (a : Xp)
  | r1 (a : Xp)
  | r2 (a b : Xp)
  | e (a : Xp)
  | z (a b : Xp)
end

/-! ### data -/
@[simp] def truthD : D → Option Bool
  | .none => some false
  | .bool b => some b
  | .int i => some (i != 0)
  | .str s => if s.length ≤ lim then some ((s.length : Int) != 0) else none
  | .list xs => some (!xs.isEmpty)
  | .tuple xs => some (!xs.isEmpty)
  | .dict _ => none
def isKey : D → Bool
  | .int _ => true
  | .str _ => true
  | _ => false
/-- a dict, no exception -/
def plainK (kvs : List (D × D)) : Bool := kvs.all fun kv => isKey kv.1
/-- a key that is a tuple; a dict of such -/
def isKeyT : D → Bool
  | .tuple ks => ks.all isKey
  | _ => false
def tupK : List (D × D) → Bool
  | (.tuple _, _) :: _ => true
  | _ => false
@[simp] def plainD : D → Bool
  | .dict kvs => plainK kvs
  | _ => true
/-- the place of the first equal one -/
def firstIx (y : D) : List D → Option Nat
  | [] => none
  | z :: r => if PyData.eqv z y then some 0 else (firstIx y r).map (· + 1)
/-- what has such a method -/
@[simp] def miT : Mi → D → Bool
  | .index, .list _ => true
  | .get, .dict kvs => plainK kvs
  | _, _ => false
/-- what an operation makes: a new list or dict is fresh -/
@[simp] def newR : D → R
  | .list xs => .fr (.list xs)
  | .dict xs => .fr (.dict xs)
  | d => .im d
@[simp] def b2i (b : Bool) : Int := if b then 1 else 0
/-- bounds, so that nothing is computed of a number that isn't known -/
def inB (a b : Nat) : Int → Bool
  | .ofNat n => Nat.ble n a
  | .negSucc n => Nat.ble n b
theorem inB_iff {a b : Nat} {i : Int} : inB a b i = true ↔ (-(b : Int) ≤ i + 1 ∧ i ≤ a) := by
  cases i with
  | ofNat n =>
    show Nat.ble n a = true ↔ _
    rw [Nat.ble_eq]
    constructor
    · intro h
      exact ⟨by have : (Int.ofNat n) = (n : Int) := rfl; omega, by have : (Int.ofNat n) = (n : Int) := rfl; omega⟩
    · intro h
      have : (Int.ofNat n) = (n : Int) := rfl
      omega
  | negSucc n =>
    show Nat.ble n b = true ↔ _
    rw [Nat.ble_eq]
    omega
def small64 (i : Int) : Bool := inB 18446744073709551615 18446744073709551614 i
theorem small64_iff {i : Int} : small64 i = true ↔ (-(2 ^ 64) < i ∧ i < 2 ^ 64) := by
  unfold small64
  rw [inB_iff]
  omega
@[simp] def binD : Operator → D → D → Option D
  | .Add, .int i, .int j => some (.int (i + j))
  | .Add, .str i, .str j => if i.length + j.length ≤ lim then some (.str (i ++ j)) else none
  | .Add, .list i, .list j => if i.length + j.length ≤ lim then some (.list (i ++ j)) else none
  | .Add, .tuple i, .tuple j => if i.length + j.length ≤ lim then some (.tuple (i ++ j)) else none
  | .Add, .int i, .bool j => some (.int (i + b2i j))
  | .Sub, .int i, .int j => some (.int (i - j))
  | .Mult, .int i, .int j => if small64 i || small64 j then some (.int (i * j)) else none
  | .Mod, .int i, .int j => if 0 < j then some (.int (i % j)) else none
  | .FloorDiv, .int i, .int j => if decide (0 < j) && decide (j < 1073741824) then some (.int (i / j)) else none
  | .Pow, .int i, .int j => if decide (0 ≤ j) && decide (j ≤ 1000000) && decide (i.natAbs < 2 ^ 64) then some (.int (i ^ j.toNat)) else none
  | _, _, _ => none
/-- a text -/
def strD : D → Bool
  | .str _ => true
  | _ => false
def flatD : D → Bool
  | .none => true
  | .bool _ => true
  | .int _ => true
  | .str _ => true
  | _ => false
def strLt (a b : Str) : Bool := decide (a.cps.toList < b.cps.toList)
def inD (x : D) : D → Option Bool
  | .list ds => if SeqAt.shaped x && SeqAt.shaped (.list ds) then some (ds.any fun z => PyData.eqv z x) else none
  | .tuple ds => if flatD x && ds.all flatD then some (ds.any fun z => PyData.eqv z x) else if SeqAt.shaped x && SeqAt.shaped (.tuple ds) then some (ds.any fun z => PyData.eqv z x) else none
  | .str s => match x with
    | .str c => if c.length = 1 then some (decide (c.cps.getD 0 0 ∈ s.cps.toList)) else none
    | _ => none
  | .dict kvs => if plainK kvs && isKey x then some (kvs.any fun kv => PyData.eqv kv.1 x) else if tupK kvs && isKeyT x then some (kvs.any fun kv => PyData.eqv kv.1 x) else none
  | _ => none
@[simp] def cmpD : CmpOp → D → D → Option Bool
  | .Eq, x, y => if SeqAt.shaped x && SeqAt.shaped y then some (PyData.eqv x y) else none
  | .NotEq, x, y => if SeqAt.shaped x && SeqAt.shaped y then some (!PyData.eqv x y) else none
  | .Lt, .int i, .int j => some (decide (i < j))
  | .LtE, .int i, .int j => some (decide (i ≤ j))
  | .Gt, .int i, .int j => some (decide (j < i))
  | .GtE, .int i, .int j => some (decide (j ≤ i))
  | .Lt, .str i, .str j => some (strLt i j)
  | .Gt, .str i, .str j => some (strLt j i)
  | .In, x, y => inD x y
  | .NotIn, x, y => (inD x y).map (!·)
  | .Is, x, .none => some (match x with | .none => true | _ => false)
  | .IsNot, x, .none => some (match x with | .none => false | _ => true)
  | .Is, .bool a, .bool b => some (a == b)
  | .IsNot, .bool a, .bool b => some (!(a == b))
  | _, _, _ => none
def lookD : List (D × D) → D → Option D
  | [], _ => none
  | (k, v) :: r, x => if PyData.eqv k x then some v else lookD r x
@[simp] def miD : Mi → D → D → Option D
  | .index, .list xs, y => if SeqAt.shaped (.list xs) && SeqAt.shaped y then (firstIx y xs).map fun j => .int j else none
  | .get, .dict kvs, y => if plainK kvs && isKey y then some ((lookD kvs y).getD .none) else none
  | _, _, _ => none
def putD (kvs : List (D × D)) (x y : D) : List (D × D) :=
  if kvs.any (fun kv => PyData.eqv kv.1 x) then kvs.map (fun kv => if PyData.eqv kv.1 x then (kv.1, y) else kv) else kvs ++ [(x, y)]
/-- an error: is it of a class -/
@[simp] def xisD (tb : List (Str × Bool)) : D → Option Bool
  | .none => some false
  | .dict ((.none, .str c) :: _) => tb.lookup c
  | _ => none
/-- an error's field -/
@[simp] def fldD (cs : List Str) (n : Str) : D → Option D
  | .dict [(.none, .str c), (.str m, x)] => if m = n ∧ c ∈ cs then some x else none
  | _ => none
/-- keys and values, one behind another -/
@[simp] def pairsD : List D → Option (List (D × D))
  | [] => some []
  | k :: v :: r => if isKey k then (pairsD r).map ((k, v) :: ·) else none
  | _ => none
@[simp] def ixD : D → D → Option D
  | .list xs, .int i => atI xs i
  | .tuple xs, .int i => atI xs i
  | .str s, .int i => if s.length ≤ lim then (atI s.cps.toList i).map fun c => .str ⟨#[c]⟩ else none
  | .dict kvs, x => if plainK kvs && isKey x then lookD kvs x else none
  | _, _ => none
def cutL {α : Type} (xs : List α) (lo hi : Option Int) : List α := (xs.drop (HT.sIx xs.length 0 lo)).take (HT.sIx xs.length xs.length hi - HT.sIx xs.length 0 lo)
@[simp] def slcD : D → Option Int → Option Int → Option D
  | .list xs, lo, hi => some (.list (cutL xs lo hi))
  | .tuple xs, lo, hi => some (.tuple (cutL xs lo hi))
  | _, _, _ => none
@[simp] def revD : D → Option D
  | .list xs => some (.list xs.reverse)
  | .tuple xs => some (.tuple xs.reverse)
  | _ => none
@[simp] def optI : D → Option (Option Int)
  | .none => some none
  | .int i => some (some i)
  | _ => none
@[simp] def tyD : D → String
  | .none => "NoneType"
  | .bool _ => "bool"
  | .int _ => "int"
  | .str _ => "str"
  | .list _ => "list"
  | .tuple _ => "tuple"
  | .dict _ => "dict"
@[simp] def tyIs (a t : String) : Option Bool :=
  match t with
  | "int" => some (a == "int" || a == "bool")
  | "bool" => some (a == "bool")
  | "str" => some (a == "str")
  | "list" => some (a == "list")
  | "tuple" => some (a == "tuple")
  | "dict" => some (a == "dict")
  | _ => none
@[simp] def isTy (d : D) (t : String) : Option Bool := if plainD d then tyIs (tyD d) t else none
@[simp] def isTys (d : D) : List String → Option Bool
  | [] => some false
  | t :: ts => match isTy d t with
    | some true => some true
    | some false => isTys d ts
    | none => none
def intsD : List D → Option (List Int)
  | [] => some []
  | .int i :: r => (intsD r).map (i :: ·)
  | _ :: _ => none
def strsD : List D → Option (List Str)
  | [] => some []
  | .str i :: r => (strsD r).map (i :: ·)
  | _ :: _ => none
def blsD : List D → Option (List Bool)
  | [] => some []
  | .bool i :: r => (blsD r).map (i :: ·)
  | _ :: _ => none
/-- an order put in, behind its equals -/
def insBy {α : Type} (lt : α → α → Bool) (x : α) : List α → List α
  | [] => [x]
  | y :: r => if lt x y then x :: y :: r else y :: insBy lt x r
def sortBy {α : Type} (lt : α → α → Bool) : List α → List α
  | [] => []
  | x :: r => insBy' lt x (sortBy lt r)
where insBy' (lt : α → α → Bool) (x : α) : List α → List α
  | [] => [x]
  | y :: r => if lt y x then y :: insBy' lt x r else x :: y :: r
/-- what can be sorted: all alike, one kind -/
def tupNe : D → Bool
  | .tuple (_ :: _) => true
  | _ => false
def notTup : D → Bool
  | .none => false
  | .tuple _ => false
  | _ => true
def sortOkD (ds : List D) : Bool := (ds.all fun x => ds.all fun y => PySem.W.alike x y) && (ds.all tupNe || ds.all notTup) && ds.all fun d => d.canLay0 && decide (d.depth ≤ 50)
def sortedD (ds : List D) : Option (List D) := if sortOkD ds then some (sortBy PySem.W.dataLt ds) else none
/-- the keys put in one behind another -/
def gatherK {κ : Type} [DecidableEq κ] (ks : List κ) : List κ := ks.foldl (fun acc k => if k ∈ acc then acc else k :: acc) []
@[simp] def seqD : D → Option (List D)
  | .list xs => some xs
  | .tuple xs => some xs
  | _ => none
@[simp] def lstD : D → Option (List D)
  | .list xs => some xs
  | _ => none
def rangeL (lo : Int) : Nat → List D
  | 0 => []
  | n + 1 => .int lo :: rangeL (lo + 1) n
def in62 (i : Int) : Bool := inB 4611686018427387903 4611686018427387903 i
theorem in62_iff {i : Int} : in62 i = true ↔ (-(2 ^ 62) ≤ i ∧ i < 2 ^ 62) := by
  unfold in62
  rw [inB_iff]
  omega
def minL : List Int → Option Int
  | [] => none
  | x :: r => some (r.foldl (fun a b => if b < a then b else a) x)
def maxL : List Int → Option Int
  | [] => none
  | x :: r => some (r.foldl (fun a b => if a < b then b else a) x)
/-- the first of the least of data that are alike -/
def minFD : List D → Option R
  | [] => none
  | x :: r => if sortOkD (x :: r) then some (.im (r.foldl (fun a y => if PySem.W.dataLt y a then y else a) x)) else none
def biD : B → List D → Option R
  | .len, [.str s] => if s.length ≤ lim then some (.im (.int s.length)) else none
  | .len, [.list xs] => some (.im (.int xs.length))
  | .len, [.tuple xs] => some (.im (.int xs.length))
  | .abs, [.int i] => some (.im (.int (if i < 0 then -i else i)))
  | .int, [.int i] => some (.im (.int i))
  | .int, [.bool b] => some (.im (.int (b2i b)))
  | .list, [.list xs] => some (.fr (.list xs))
  | .list, [.tuple xs] => some (.fr (.list xs))
  | .tuple, [.list xs] => some (.im (.tuple xs))
  | .tuple, [.tuple xs] => some (.im (.tuple xs))
  | .sorted, [.list xs] => (sortedD xs).map fun ys => .fr (.list ys)
  | .sorted, [.tuple xs] => (sortedD xs).map fun ys => .fr (.list ys)
  | .setSorted, [.list xs] => match strsD xs with
    | some ss => if ss.all (fun s => SeqAt.shaped (.str s)) && decide (ss.length ≤ 1000) then some (.fr (.list ((sortBy strLt (gatherK ss)).map .str))) else none
    | none => none
  | .lenSet, [.list xs] => match strsD xs with
    | some ss => if decide (ss.length ≤ 1000) then some (.im (.int (gatherK ss).length)) else none
    | none => none
  | .setSorted, [.tuple xs] => match strsD xs with
    | some ss => if ss.all (fun s => SeqAt.shaped (.str s)) && decide (ss.length ≤ 1000) then some (.fr (.list ((sortBy strLt (gatherK ss)).map .str))) else none
    | none => none
  | .lenSet, [.tuple xs] => match strsD xs with
    | some ss => if decide (ss.length ≤ 1000) then some (.im (.int (gatherK ss).length)) else none
    | none => none
  | .sum, [.list xs] => (intsD xs).map fun ys => .im (.int ys.sum)
  | .all, [.list xs] => (blsD xs).map fun ys => .im (.bool (ys.all id))
  | .any, [.list xs] => (blsD xs).map fun ys => .im (.bool (ys.any id))
  | .min, [.int i, .int j] => some (.im (.int (if j < i then j else i)))
  | .min, [.str i, .str j] => some (.im (.str (if strLt j i then j else i)))
  | .min, [.list xs] => match intsD xs with
    | some is => (minL is).map fun m => .im (.int m)
    | none => minFD xs
  | .max, [.list xs] => match intsD xs with
    | some is => (maxL is).map fun m => .im (.int m)
    | none => none
  | .str, [.str s] => some (.im (.str s))
  | .str, [.int i] => if small64 i then some (.im (.str (toString i))) else none
  | .rng, [.int j] => if in62 j && decide (j ≤ 100000) then some (.fr (.list (rangeL 0 j.toNat))) else none
  | .max, [.int i, .int j] => some (.im (.int (if j > i then j else i)))
  | _, _ => none

/-! ### environments -/
@[simp] def setSl (env : Env) (i : Nat) (s : Sl) : Option Env :=
  match env[i]? with
  | some (.ow .bor _) => none
  | some (.ow .lck _) => none
  | some _ => some (env.set i s)
  | none => none
@[simp] def bindTs : List Nat → List D → Env → Option Env
  | [], [], env => some env
  | i :: is, d :: ds, env => (setSl env i (.im d)).bind (bindTs is ds)
  | _, _, _ => none
@[simp] def bindT : Tg → D → Env → Option Env
  | .n i, d, env => setSl env i (.im d)
  | .t is, .tuple ds, env => bindTs is ds env
  | .t is, .list ds, env => bindTs is ds env
  | _, _, _ => none
/-- the slots of a comprehension, ahead of a turn -/
def wipeE (env : Env) : List Nat → Env
  | [] => env
  | i :: is => (wipeE env is).set i .un
/-- .. and behind it: as they were -/
def backE (env0 env : Env) : List Nat → Env
  | [] => env
  | i :: is => match env0[i]? with
    | some s => (backE env0 env is).set i s
    | none => backE env0 env is
def freeE (env : Env) (vs : List Nat) : Bool := vs.all fun i => match env[i]? with
  | some (.ow .bor _) => false
  | some (.ow .lck _) => false
  | some _ => true
  | none => false
/-- a slot's list or dict is walked: it stays so long -/
def lockE (env : Env) : List Nat → Env
  | [] => env
  | i :: is => match (lockE env is)[i]? with
    | some (.ow _ d) => (lockE env is).set i (.ow .lck d)
    | _ => lockE env is
def unlockE (env0 env : Env) : List Nat → Env
  | [] => env
  | i :: is => match env0[i]? with
    | some (.ow k d) => (unlockE env0 env is).set i (.ow k d)
    | _ => unlockE env0 env is
@[simp] def itemsD : D → Option (List D)
  | .list xs => some xs
  | .tuple xs => some xs
  | .str s => some (s.cps.toList.map fun c => .str ⟨#[c]⟩)
  | _ => none
@[simp] def zipD : D → D → Option (List D)
  | .list xs, .list ys => some (List.zipWith (fun a b => .tuple [a, b]) xs ys)
  | .tuple xs, .tuple ys => some (List.zipWith (fun a b => .tuple [a, b]) xs ys)
  | .list xs, .tuple ys => some (List.zipWith (fun a b => .tuple [a, b]) xs ys)
  | .tuple xs, .list ys => some (List.zipWith (fun a b => .tuple [a, b]) xs ys)
  | _, _ => none
def enumFrom (n : Nat) : List D → List D
  | [] => []
  | x :: r => .tuple [.int n, x] :: enumFrom (n + 1) r
/-- the values of several results, where the environment stands now -/
@[simp] def valsR (env : Env) : List R → Option (List D)
  | [] => some []
  | r :: rs => match r.val env, valsR env rs with
    | some d, some ds => some (d :: ds)
    | _, _ => none
/-- a def's parameters from what is passed -/
@[simp] def parSl (env : Env) : R → Option Sl
  | .im d => some (.im d)
  | .fr d => some (.ow .bor d)
  | .al i => match env[i]? with
    | some (.im d) => some (.im d)
    | some (.ow .own d) => some (.ow .bor d)
    | some (.ow .bor d) => some (.ow .bor d)
    | some (.ow .lck d) => some (.ow .lck d)
    | _ => none
@[simp] def parSls (env : Env) : List R → Option (List Sl)
  | [] => some []
  | r :: rs => match parSl env r, parSls env rs with
    | some d, some ds => some (d :: ds)
    | _, _ => none
@[simp] def alsOf : List R → List Nat
  | [] => []
  | .al i :: rs => i :: alsOf rs
  | _ :: rs => alsOf rs
/-- what the callee left of what it was handed -/
@[simp] def backSl (env : Env) : List R → List Sl → Env
  | .al i :: rs, .ow .bor d :: ss => match env[i]? with
    | some (.ow k _) => backSl (env.set i (.ow k d)) rs ss
    | _ => backSl env rs ss
  | _ :: rs, _ :: ss => backSl env rs ss
  | _, _ => env
@[simp] def meD : Me → List D → List D → Option (D × List D)
  | .append, xs, [d] => if xs.length < lim then some (.none, xs ++ [d]) else none
  | .pop, xs, [] => match xs[xs.length - 1]? with
    | some y => some (y, xs.dropLast)
    | none => none
  | .popAt, xs, [.int i] => match ixN xs.length i with
    | some k => match xs[k]? with
      | some y => if decide (-(2 ^ 63) ≤ i) && decide (i < 2 ^ 63) then some (y, xs.eraseIdx k) else none
      | none => none
    | none => none
  | .reverse, xs, [] => some (.none, xs.reverse)
  | _, _, _ => none

/-- a dict of one's own, walked: it stays from now on -/
@[simp] def ownDct : R → Env → Option (List (D × D) × Env)
  | .fr (.dict kvs), env => if plainK kvs then some (kvs, env) else none
  | .al i, env => match env[i]? with
    | some (.ow .own (.dict kvs)) => if plainK kvs then some (kvs, env.set i (.im (.dict kvs))) else none
    | _ => none
  | _, _ => none
/-- in another order -/
@[simp] def permL {α : Type} : List Nat → List α → List α
  | [], _ => []
  | i :: is, l => match l[i]? with
    | some x => x :: permL is l
    | none => permL is l
/-- what a def answers to what it is handed: its result, its parameters' slots behind it -/
structure Fns where
  ok : Str → List Sl → Option (R × List Sl)
  ex : Str → List Sl → Option (D × List Sl)
instance : CoeFun Fns fun _ => Str → List Sl → Option (R × List Sl) := ⟨Fns.ok⟩

/-! ### the evaluator -/
/-- a comprehension's turns -/
def goL (f : D → Env → Option (Option D × Env)) : List D → Env → Option (List D × Env)
  | [], env => some ([], env)
  | d :: ds, env => match f d env with
    | some (o, env1) => match goL f ds env1 with
      | some (ys, env2) => some (match o with | some y => y :: ys | none => ys, env2)
      | none => none
    | none => none
def goD (f : D → Env → Option (Option (D × D) × Env)) : List D → List (D × D) → Env → Option (List (D × D) × Env)
  | [], acc, env => some (acc, env)
  | d :: ds, acc, env => match f d env with
    | some (some (k, y), env1) => goD f ds (putD acc k y) env1
    | some (none, env1) => goD f ds acc env1
    | none => none
/-- a list comprehension from what is walked and its turn -/
def lcRun (vs : List Nat) (o : Option (List Nat × List D × Env)) (f : D → Env → Option (Option D × Env)) : Option (R × Env) :=
  match o with
  | some (ls, ds, env1) => if freeE env1 vs && decide (ds.length ≤ lim) then
      match goL f ds (wipeE (lockE env1 ls) vs) with
      | some (ys, en) => some (.fr (.list ys), unlockE env1 (backE (lockE env1 ls) en vs) ls)
      | none => none
    else none
  | none => none
def dcRun (vs : List Nat) (o : Option (List Nat × List D × Env)) (f : D → Env → Option (Option (D × D) × Env)) : Option (R × Env) :=
  match o with
  | some (ls, ds, env1) => if freeE env1 vs && decide (ds.length ≤ lim) then
      match goD f ds [] (wipeE (lockE env1 ls) vs) with
      | some (ys, en) => some (.fr (.dict ys), unlockE env1 (backE (lockE env1 ls) en vs) ls)
      | none => none
    else none
  | none => none
mutual
@[simp] def ev (Φ : Fns) : Xp → Env → Option (R × Env)
  | .c d, env => some (.im d, env)
  | .v i, env => match env[i]? with
    | some (.im d) => some (.im d, env)
    | some (.ow _ _) => some (.al i, env)
    | _ => none
  | .tup es, env => match evS Φ es env with
    | some (ds, env1) => if ds.length ≤ lim then some (.im (.tuple ds), env1) else none
    | none => none
  | .lst es, env => match evS Φ es env with
    | some (ds, env1) => if ds.length ≤ lim then some (.fr (.list ds), env1) else none
    | none => none
  | .bin o a b, env => match ev Φ a env with
    | some (ra, env1) => match ev Φ b env1 with
      | some (rb, env2) => match ra.val env2, rb.val env2 with
        | some x, some y => match binD o x y with
          | some z => some (newR z, env2)
          | none => none
        | _, _ => none
      | none => none
    | none => none
  | .rep es n, env => match evS Φ es env with
    | some (ds, env1) => match ev Φ n env1 with
      | some (rn, env2) => match rn.val env2 with
        | some (.int j) => if decide (-(2 ^ 63) ≤ j) && decide (j < 2 ^ 63) && decide (ds.length * j.toNat ≤ lim) && decide (ds.length ≤ lim) then some (.fr (.list (List.replicate j.toNat ds).flatten), env2) else none
        | _ => none
      | none => none
    | none => none
  | .neg a, env => match ev Φ a env with
    | some (ra, env1) => match ra.val env1 with
      | some (.int i) => some (.im (.int (-i)), env1)
      | _ => none
    | none => none
  | .cmp o a b, env => match ev Φ a env with
    | some (ra, env1) => match ev Φ b env1 with
      | some (rb, env2) => match ra.val env2, rb.val env2 with
        | some x, some y => match cmpD o x y with
          | some z => some (.im (.bool z), env2)
          | none => none
        | _, _ => none
      | none => none
    | none => none
  | .frz a, env => match ev Φ a env with
    | some (r, env1) => match sto r env1 with
      | some (d, env2) => some (.im d, env2)
      | none => none
    | none => none
  | .cmp2 o p a b c, env => match ev Φ a env with
    | some (ra, env1) => match ev Φ b env1 with
      | some (rb, env2) => match ra.val env2, rb.val env2 with
        | some x, some y => match cmpD o x y with
          | some false => some (.im (.bool false), env2)
          | some true => match ev Φ c env2 with
            | some (rc, env3) => match rb.val env3, rc.val env3 with
              | some y', some w => match cmpD p y' w with
                | some z => some (.im (.bool z), env3)
                | none => none
              | _, _ => none
            | none => none
          | none => none
        | _, _ => none
      | none => none
    | none => none
  | .andX a b, env => match ev Φ a env with
    | some (ra, env1) => match (ra.val env1).bind truthD with
      | some true => ev Φ b env1
      | some false => some (ra, env1)
      | none => none
    | none => none
  | .orX a b, env => match ev Φ a env with
    | some (ra, env1) => match (ra.val env1).bind truthD with
      | some true => some (ra, env1)
      | some false => ev Φ b env1
      | none => none
    | none => none
  | .notX a, env => match ev Φ a env with
    | some (ra, env1) => match (ra.val env1).bind truthD with
      | some k => some (.im (.bool (!k)), env1)
      | none => none
    | none => none
  | .ite t a b, env => match ev Φ t env with
    | some (rt, env1) => match (rt.val env1).bind truthD with
      | some true => ev Φ a env1
      | some false => ev Φ b env1
      | none => none
    | none => none
  | .ix a b, env => match ev Φ a env with
    | some (ra, env1) => match ev Φ b env1 with
      | some (rb, env2) => match ra.val env2, rb.val env2 with
        | some x, some y => match ixD x y with
          | some z => some (.im z, env2)
          | none => none
        | _, _ => none
      | none => none
    | none => none
  | .sl a lo hi, env => match ev Φ a env with
    | some (ra, env1) => match ev Φ lo env1 with
      | some (rl, env2) => match ev Φ hi env2 with
        | some (rh, env3) => match ra.val env3, (rl.val env2).bind optI, (rh.val env3).bind optI with
          | some x, some l, some h => match slcD x l h with
            | some z => some (newR z, env3)
            | none => none
          | _, _, _ => none
        | none => none
      | none => none
    | none => none
  | .rev a, env => match ev Φ a env with
    | some (ra, env1) => match (ra.val env1).bind revD with
      | some z => some (newR z, env1)
      | none => none
    | none => none
  | .nil, env => some (.im .none, env)
  | .bi f es, env => match evR Φ es env with
    | some (rs, env1) => match valsR env1 rs with
      | some ds => match biD f ds with
        | some r => some (r, env1)
        | none => none
      | none => none
    | none => none
  | .isi a tys, env => match ev Φ a env with
    | some (ra, env1) => match ra.val env1 with
      | some d => match isTys d tys with
        | some k => some (.im (.bool k), env1)
        | none => none
      | none => none
    | none => none
  | .call f es, env => match evR Φ es env with
    | some (rs, env1) => if (alsOf rs).Nodup then match parSls env1 rs with
      | some ss => match Φ f ss with
        | some (r, ss') => some (r, backSl env1 rs ss')
        | none => none
      | none => none
      else none
    | none => none
  | .calK f es pm, env => match evR Φ es env with
    | some (rs, env1) => if (alsOf rs).Nodup && pm.isPerm (List.range rs.length) then match parSls env1 (permL pm rs) with
      | some ss => match Φ f ss with
        | some (r, ss') => some (r, backSl env1 (permL pm rs) ss')
        | none => none
      | none => none
      else none
    | none => none
  | .me m i es, env => match env[i]? with
    | some (.ow _ (.list _)) => match evS Φ es env with
      | some (ds, env1) => match env1[i]? with
        | some (.ow k (.list xs)) => if k = .lck then none else match meD m xs ds with
          | some (d, ys) => some (.im d, env1.set i (.ow k (.list ys)))
          | none => none
        | _ => none
      | none => none
    | _ => none
  | .mi m a x, env => match ev Φ a env with
    | some (ra, env1) => match ra.val env1 with
      | some d0 => if miT m d0 then match ev Φ x env1 with
        | some (rx, env2) => match ra.val env2, rx.val env2 with
          | some d, some y => match miD m d y with
            | some z => some (.im z, env2)
            | none => none
          | _, _ => none
        | none => none
        else none
      | none => none
    | none => none
  | .xis a tb, env => match ev Φ a env with
    | some (ra, env1) => match (ra.val env1).bind (xisD tb) with
      | some k => some (.im (.bool k), env1)
      | none => none
    | none => none
  | .fld a cs n, env => match ev Φ a env with
    | some (ra, env1) => match (ra.val env1).bind (fldD cs n) with
      | some z => some (.im z, env1)
      | none => none
    | none => none
  | .dct es, env => match evS Φ es env with
    | some (ds, env1) => match pairsD ds with
      | some kvs => if decide (kvs.length ≤ 15) then some (.fr (.dict (kvs.foldl (fun acc kv => putD acc kv.1 kv.2) [])), env1) else none
      | none => none
    | none => none
  | .dct1 es, env => match evS Φ es env with
    | some ([a, b], env1) => if isKeyT a then some (.fr (.dict [(a, b)]), env1) else none
    | _ => none
  | .vls t a, env => match ev Φ a env with
    | some (r, env1) => match ownDct r env1 with
      | some (kvs, env2) => if decide (kvs.length ≤ lim) then some (if t then .im (.tuple (kvs.map (·.2))) else .fr (.list (kvs.map (·.2))), env2) else none
      | none => none
    | none => none
  | .inv a e, env => match ev Φ a env with
    | some (ra, env1) => match ev Φ e env1 with
      | some (rb, env2) => match ra.val env2, rb.val env2 with
        | some (.str x), some (.dict kvs) => if plainK kvs && kvs.all (fun kv => strD kv.2) then some (.im (.bool (kvs.any fun kv => PyData.eqv kv.2 (.str x))), env2) else none
        | _, _ => none
      | none => none
    | none => none
  | .ext i x, env => match env[i]? with
    | some (.ow _ (.list _)) => match ev Φ x env with
      | some (.fr (.list ys), env1) => match env1[i]? with
        | some (.ow k (.list xs)) => if k = .lck then none else
          if xs.length + ys.length ≤ lim then some (.im .none, env1.set i (.ow k (.list (xs ++ ys)))) else none
        | _ => none
      | _ => none
    | _ => none
  | .sdf i es, env => match env[i]? with
    | some (.ow _ (.dict _)) => match evS Φ es env with
      | some ([kd, y], env1) => match env1[i]? with
        | some (.ow kk (.dict kvs)) => if kk = .lck then none else
          if isKey kd && plainK kvs && decide (kvs.length < lim) then match lookD kvs kd with
            | some z => some (.im z, env1)
            | none => some (.im y, env1.set i (.ow kk (.dict (putD kvs kd y))))
          else none
        | _ => none
      | _ => none
    | _ => none
  | .get2 a es, env => match ev Φ a env with
    | some (ra, env1) => match ra.val env1 with
      | some (.dict kvs0) => if plainK kvs0 then match evS Φ es env1 with
        | some ([kd, y], env2) => match ra.val env2 with
          | some (.dict kvs) => if plainK kvs && isKey kd then some (.im ((lookD kvs kd).getD y), env2) else none
          | _ => none
        | _ => none
        else none
      | _ => none
    | none => none
  | .lc vs it tg tt e, env => lcRun vs (evI Φ it env) fun d en => match bindT tg d en with
      | some en1 => match ev Φ tt en1 with
        | some (rt, en2) => match (rt.val en2).bind truthD with
          | some true => match ev Φ e en2 with
            | some (re, en3) => match sto re en3 with
              | some (y, en4) => some (some y, wipeE en4 vs)
              | none => none
            | none => none
          | some false => some (none, wipeE en2 vs)
          | none => none
        | none => none
      | none => none
  | .dc vs it tg tt k e, env => dcRun vs (evI Φ it env) fun d en => match bindT tg d en with
      | some en1 => match ev Φ tt en1 with
        | some (rt, en2) => match (rt.val en2).bind truthD with
          | some true => match ev Φ k en2 with
            | some (rk, en3) => match ev Φ e en3 with
              | some (re, en4) => match rk.val en4, sto re en4 with
                | some key, some (y, en5) => if isKey key then some (some (key, y), wipeE en5 vs) else none
                | _, _ => none
              | none => none
            | none => none
          | some false => some (none, wipeE en2 vs)
          | none => none
        | none => none
      | none => none
  | .disp ks vs, env => none
/-- stored, from the left -/
@[simp] def evS (Φ : Fns) : Xps → Env → Option (List D × Env)
  | .nil, env => some ([], env)
  | .cons x xs, env => match ev Φ x env with
    | some (r, env1) => match sto r env1 with
      | some (d, env2) => match evS Φ xs env2 with
        | some (ds, env3) => some (d :: ds, env3)
        | none => none
      | none => none
    | none => none
/-- as they are, from the left -/
@[simp] def evR (Φ : Fns) : Xps → Env → Option (List R × Env)
  | .nil, env => some ([], env)
  | .cons x xs, env => match ev Φ x env with
    | some (r, env1) => match evR Φ xs env1 with
      | some (rs, env2) => some (r :: rs, env2)
      | none => none
    | none => none
/-- what is walked: whose it is, the items -/
@[simp] def evI (Φ : Fns) : It → Env → Option (List Nat × List D × Env)
  | .x a, env => match ev Φ a env with
    | some (r, env1) => match (r.val env1).bind itemsD with
      | some ds => some (alsOf [r], ds, env1)
      | none => match ownDct r env1 with
        | some (kvs, env2) => some ([], kvs.map (·.1), env2)
        | none => none
    | none => none
  | .vl a, env => match ev Φ a env with
    | some (r, env1) => match ownDct r env1 with
      | some (kvs, env2) => some ([], kvs.map (·.2), env2)
      | none => none
    | none => none
  | .r1 a, env => match ev Φ a env with
    | some (r, env1) => match r.val env1 with
      | some (.int j) => if in62 j then some ([], rangeL 0 j.toNat, env1) else none
      | _ => none
    | none => none
  | .r2 a b, env => match ev Φ a env with
    | some (ra, env1) => match ev Φ b env1 with
      | some (rb, env2) => match ra.val env2, rb.val env2 with
        | some (.int i), some (.int j) => if in62 i && in62 j then some ([], rangeL i (j - i).toNat, env2) else none
        | _, _ => none
      | none => none
    | none => none
  | .e a, env => match ev Φ a env with
    | some (r, env1) => match (r.val env1).bind seqD with
      | some ds => some (alsOf [r], enumFrom 0 ds, env1)
      | none => none
    | none => none
  | .z a b, env => match ev Φ a env with
    | some (ra, env1) => match ev Φ b env1 with
      | some (rb, env2) => match ra.val env2, rb.val env2 with
        | some x, some y => match zipD x y with
          | some ds => some (alsOf [ra, rb], ds, env2)
          | none => none
        | _, _ => none
      | none => none
    | none => none
end

/-! ### expressions that raise: what flies -/
@[simp] def evX (Φ : Fns) : Xp → Env → Option (D × Env)
  | .call f es, env => match evR Φ es env with
    | some (rs, env1) => if (alsOf rs).Nodup then match parSls env1 rs with
      | some ss => match Φ.ex f ss with
        | some (y, ss') => some (y, backSl env1 rs ss')
        | none => none
      | none => none
      else none
    | none => none
  | .ite t a b, env => match ev Φ t env with
    | some (r, env1) => match (r.val env1).bind truthD with
      | some true => evX Φ a env1
      | some false => evX Φ b env1
      | none => none
    | none => none
  | _, _ => none

/-! ### statements -/
inductive Out | nx (env : Env) | rt (r : R) (env : Env) | bk (env : Env) | ct (env : Env) | ex (y : D) (env : Env)
mutual
inductive Sm
  | rse (c n : Str) (x : Xp)
  | rse0 (c : Str)
  | try (b : Sms) (tb : List (Str × Bool)) (i j : Nat)
  | set (i : Nat) (x : Xp)
  | setT (is : List Nat) (x : Xp)
  | par (is : List Nat) (xs : Xps)
  | setIx (i : Nat) (k x : Xp)
  | aug (i : Nat) (o : Operator) (x : Xp)
  | augIx (i : Nat) (k : Xp) (o : Operator) (x : Xp)
  | ex (x : Xp)
  | ret (x : Xp)
  | iff (t : Xp) (a b : Sms)
  | for (it : It) (tg : Tg) (b : Sms)
  | whl (t : Xp) (b : Sms)
  | brk | cnt | pas | nev
  | nat (f : Fns → Env → Option Out)
inductive Sms
  | nil
  | cons (s : Sm) (r : Sms)
end
@[simp] def xOut : Option (D × Env) → Option Out
  | some (y, env) => some (.ex y env)
  | none => none
/-- an error caught: it stands at j; the clause's own name, at i, is gone again -/
@[simp] def catchO (tb : List (Str × Bool)) (i j : Nat) : Option Out → Option Out
  | some (.ex y env) => match xisD tb y with
    | some true => match setSl env i (.im y) with
      | some env1 => match setSl env1 j (.im y) with
        | some env2 => some (.nx (env2.set i .un))
        | none => none
      | none => none
    | some false => some (.ex y env)
    | none => none
  | o => o
def forget : Env → Env → Env
  | .un :: p, _ :: e => .un :: forget p e
  | _ :: p, s :: e => s :: forget p e
  | _, e => e
/-- what goes into a slot -/
@[simp] def slotOf : R → Env → Option (Sl × Env)
  | .im d, env => some (.im d, env)
  | .fr d, env => some (.ow .own d, env)
  | .al i, env => match sto (.al i) env with
    | some (d, env1) => some (.im d, env1)
    | none => none
@[simp] def slotsOf : List R → Env → Option (List Sl × Env)
  | [], env => some ([], env)
  | r :: rs, env => match slotOf r env with
    | some (s, env1) => match slotsOf rs env1 with
      | some (ss, env2) => some (s :: ss, env2)
      | none => none
    | none => none
@[simp] def setAll : List Nat → List Sl → Env → Option Env
  | [], [], env => some env
  | i :: is, s :: ss, env => match setSl env i s with
    | some env1 => setAll is ss env1
    | none => none
  | _, _, _ => none
@[simp] def retR : R → Env → Option (R × Env)
  | .im d, env => some (.im d, env)
  | .fr d, env => some (.fr d, env)
  | .al i, env => match env[i]? with
    | some (.im d) => some (.im d, env)
    | some (.ow .own d) => some (.fr d, env.set i .un)
    | _ => none
def forS (f : D → Env → Option Out) (pre : Env) : List D → Env → Option Out
  | [], env => some (.nx env)
  | d :: ds, env => match f d env with
    | some (.nx env1) => forS f pre ds (forget pre env1)
    | some (.ct env1) => forS f pre ds (forget pre env1)
    | some (.bk env1) => some (.bk (forget pre env1))
    | some (.rt r env1) => some (.rt r env1)
    | some (.ex y env1) => some (.ex y env1)
    | none => none
/-- turns of a while, at most -/
def fuelW : Nat := 1000000000000000000000000000000000000000000000000
def whS (t : Env → Option (Bool × Env)) (b : Env → Option Out) (pre : Env) : Nat → Env → Option Out
  | 0, _ => none
  | n + 1, env => match t env with
    | some (true, env1) => match b env1 with
      | some (.nx env2) => whS t b pre n (forget pre env2)
      | some (.ct env2) => whS t b pre n (forget pre env2)
      | some (.bk env2) => some (.nx (forget pre env2))
      | some (.rt r env2) => some (.rt r env2)
      | some (.ex y env2) => some (.ex y env2)
      | none => none
    | some (false, env1) => some (.nx env1)
    | none => none
/-- a loop's end: the lists that it walked may be changed again -/
@[simp] def endFor (env0 : Env) (ls : List Nat) : Out → Out
  | .nx env => .nx (unlockE env0 env ls)
  | .bk env => .nx (unlockE env0 env ls)
  | .rt r env => .rt r (unlockE env0 env ls)
  | .ct env => .nx (unlockE env0 env ls)
  | .ex y env => .ex y (unlockE env0 env ls)
@[simp] def tstX (Φ : Fns) (t : Xp) (env : Env) : Option (Bool × Env) :=
  match ev Φ t env with
  | some (r, env1) => match (r.val env1).bind truthD with
    | some k => some (k, env1)
    | none => none
  | none => none
@[simp] def augD : Operator → D → D → Option D
  | .Add, .int i, .int j => some (.int (i + j))
  | .Add, .str i, .str j => if i.length + j.length ≤ lim then some (.str (i ++ j)) else none
  | .Sub, .int i, .int j => some (.int (i - j))
  | .Mult, .int i, .int j => if small64 i || small64 j then some (.int (i * j)) else none
  | .Mod, .int i, .int j => if 0 < j then some (.int (i % j)) else none
  | .FloorDiv, .int i, .int j => if decide (0 < j) && decide (j < 1073741824) then some (.int (i / j)) else none
  | _, _, _ => none
@[simp] def setIxD : D → D → D → Option D
  | .list xs, .int i, y => match ixN xs.length i with
    | some j => some (.list (xs.set j y))
    | none => none
  | .dict kvs, x, y => if isKey x && !tupK kvs && decide (kvs.length < lim) then some (.dict (putD kvs x y)) else if isKeyT x && tupK kvs && decide (kvs.length < lim) then some (.dict (putD kvs x y)) else none
  | _, _, _ => none
mutual
@[simp] def exec (Φ : Fns) : Sm → Env → Option Out
  | .set i x, env => match ev Φ x env with
    | some (r, env1) => match slotOf r env1 with
      | some (s, env2) => match setSl env2 i s with
        | some env3 => some (.nx env3)
        | none => none
      | none => none
    | none => xOut (evX Φ x env)
  | .setT is x, env => match ev Φ x env with
    | some (r, env1) => match (r.val env1).bind seqD with
      | some ds => match bindTs is ds env1 with
        | some env2 => some (.nx env2)
        | none => none
      | none => none
    | none => none
  | .par is xs, env => match evR Φ xs env with
    | some (rs, env1) => match slotsOf rs env1 with
      | some (ss, env2) => match setAll is ss env2 with
        | some env3 => some (.nx env3)
        | none => none
      | none => none
    | none => none
  | .setIx i k x, env => match ev Φ x env with
    | some (r, env1) => match sto r env1 with
      | some (d, env2) => match env2[i]? with
        | some (.ow _ _) => match ev Φ k env2 with
          | some (rk, env3) => match rk.val env3, env3[i]? with
            | some kd, some (.ow kk c) => if kk = .lck then none else match setIxD c kd d with
              | some c' => some (.nx (env3.set i (.ow kk c')))
              | none => none
            | _, _ => none
          | none => none
        | _ => none
      | none => none
    | none => none
  | .aug i o x, env => match env[i]? with
    | some (.im a) => match ev Φ x env with
      | some (r, env1) => match r.val env1 with
        | some b => match augD o a b with
          | some z => match setSl env1 i (.im z) with
            | some env2 => some (.nx env2)
            | none => none
          | none => none
        | none => none
      | none => none
    | some (.ow _ (.list _)) => match ev Φ x env with
      | some (.fr (.list ys), env1) => match env1[i]? with
        | some (.ow k (.list xs)) => if k = .lck then none else
          if o = .Add then (if xs.length + ys.length ≤ lim then some (.nx (env1.set i (.ow k (.list (xs ++ ys))))) else none) else none
        | _ => none
      | _ => none
    | _ => none
  | .augIx i k o x, env => match ev Φ k env with
    | some (rk, env1) => match rk.val env1, env1[i]? with
      | some (.int j), some (.ow _ (.list xs)) => match atI xs j with
        | some a => match ev Φ x env1 with
          | some (r, env2) => match r.val env2, env2[i]? with
            | some b, some (.ow kk (.list ys)) => match augD o a b with
              | some z => if kk = .lck then none else match ixN ys.length j with
                | some n => some (.nx (env2.set i (.ow kk (.list (ys.set n z)))))
                | none => none
              | none => none
            | _, _ => none
          | none => none
        | none => none
      | _, _ => none
    | none => none
  | .ex x, env => match ev Φ x env with
    | some (_, env1) => some (.nx env1)
    | none => xOut (evX Φ x env)
  | .ret x, env => match ev Φ x env with
    | some (r, env1) => match retR r env1 with
      | some (r', env2) => some (.rt r' env2)
      | none => none
    | none => xOut (evX Φ x env)
  | .iff t a b, env => match tstX Φ t env with
    | some (true, env1) => execs Φ a env1
    | some (false, env1) => execs Φ b env1
    | none => none
  | .for it tg b, env => match evI Φ it env with
    | some (ls, ds, env1) => match forS (fun d en => match bindT tg d en with
        | some en1 => execs Φ b en1
        | none => none) (lockE env1 ls) ds (lockE env1 ls) with
      | some o => some (endFor env1 ls o)
      | none => none
    | none => none
  | .whl t b, env => whS (tstX Φ t) (execs Φ b) env fuelW env
  | .brk, env => some (.bk env)
  | .cnt, env => some (.ct env)
  | .pas, env => some (.nx env)
  | .nev, _ => none
  | .nat f, env => f Φ env
  | .rse c n x, env => match ev Φ x env with
    | some (r, env1) => match sto r env1 with
      | some (d, env2) => some (.ex (.dict [(.none, .str c), (.str n, d)]) env2)
      | none => none
    | none => none
  | .rse0 c, env => some (.ex (.dict [(.none, .str c)]) env)
  | .try b tb i j, env => catchO tb i j (execs Φ b env)
@[simp] def execs (Φ : Fns) : Sms → Env → Option Out
  | .nil, env => some (.nx env)
  | .cons s r, env => match exec Φ s env with
    | some (.nx env1) => execs Φ r env1
    | some o => some o
    | none => none
end
/-- a def of the text: how many parameters, how many slots, its body -/
structure Dfn where
  np : Nat
  ns : Nat
  body : Sms
@[simp] def finSl : List Sl → Env → List Sl
  | [], _ => []
  | .ow .bor _ :: ss, e :: en => e :: finSl ss en
  | s :: ss, _ :: en => s :: finSl ss en
  | ss, [] => ss
/-- a def called -/
def Dfn.run (f : Dfn) (Φ : Fns) (args : List Sl) : Option (R × List Sl) :=
  if args.length = f.np then
    match execs Φ f.body (args ++ List.replicate (f.ns - f.np) .un) with
    | some (.rt (.im d) env) => some (.im d, finSl args env)
    | some (.rt (.fr d) env) => some (.fr d, finSl args env)
    | some (.nx env) => some (.im .none, finSl args env)
    | _ => none
  else none
/-- .. that raises -/
def Dfn.rux (f : Dfn) (Φ : Fns) (args : List Sl) : Option (D × List Sl) :=
  if args.length = f.np then
    match execs Φ f.body (args ++ List.replicate (f.ns - f.np) .un) with
    | some (.ex y env) => some (y, finSl args env)
    | _ => none
  else none
/-- the defs of a text, to a depth -/
def fns (tbl : List (Str × Dfn)) : Nat → Fns
  | 0 => ⟨fun _ _ => none, fun _ _ => none⟩
  | n + 1 => ⟨fun f args => match tbl.lookup f with
    | some d => d.run (fns tbl n) args
    | none => none, fun f args => match tbl.lookup f with
    | some d => d.rux (fns tbl n) args
    | none => none⟩
end DI

set_option maxRecDepth 100000
/-! DI3: what it is for an expression to do what the evaluator says; values, operators. -/
namespace DI
open PySem PySem.Spec PyProof.Rows L2

section
variable {K : PySem.W.Frag} {S S' : Addr → Prop} {H H' : Hp} {σ : L2.St} {env env' : Env}
/-! ### a new object -/
theorem upd_some {p a : Addr} {o u : HO} (hp : H p = none) (h : H a = some u) : upd H p o a = some u := by
  rw [upd_ne (ne_of_none h hp)]
  exact h
theorem upd_dom {p a : Addr} {o : HO} (h : H a ≠ none) : upd H p o a ≠ none := by
  unfold upd
  split
  · exact fun z => by cases z
  · exact h
theorem rd_upd {p a : Addr} {o u : HO} (hp : H p = none) (h : Rd H a u) : Rd (upd H p o) a u := by
  rcases h with h | ⟨w, h⟩
  · exact .inl (upd_some hp h)
  · exact .inr ⟨w, upd_some hp h⟩
theorem le_upd {p : Addr} {o : HO} (hp : H p = none) : Le H (upd H p o) := ⟨fun a u h => rd_upd hp h, fun a xs h => upd_some hp h⟩
theorem Fw.new {p : Addr} {o : HO} (hp : H p = none) : Fw S H σ env S (upd H p o) σ env :=
  ⟨fun _ h => .inl h, fun _ h _ _ => h, fun _ _ h _ => upd_some hp h, fun _ h => .inl h, fun _ d h => ⟨d, h, rfl⟩, fun _ d h => ⟨d, h, rfl⟩, fun _ _ h => ⟨h, rfl⟩, fun _ _ h => ⟨h, rfl⟩, fun _ h => upd_dom h⟩
theorem Fw.newS {p : Addr} {o : HO} (hp : H p = none) : Fw S H σ env (fun a => S a ∨ a = p) (upd H p o) σ env :=
  ⟨fun a h => h.elim .inl fun e => .inr (by rw [e]; exact hp), fun _ h _ _ => .inl h, fun _ _ h _ => upd_some hp h, fun _ h => .inl h, fun _ d h => ⟨d, h, rfl⟩, fun _ d h => ⟨d, h, rfl⟩, fun _ _ h => ⟨h, rfl⟩, fun _ _ h => ⟨h, rfl⟩, fun _ h => upd_dom h⟩
/-- the state moves on, the slots' data as they are -/
theorem EnvOk.move (ok : EnvOk K S σ H env) (le : Le (er S H) (er S' H')) (hS : ∀ k a, OwnsK k σ env a → S' a ∧ H' a = H a) (dom : ∀ a, S' a → H' a ≠ none) : EnvOk K S' σ H' env := by
  refine ⟨ok.len, dom, fun i d e => ?_, fun i k d e => ?_, ok.inj⟩
  · obtain ⟨v, h1, h2⟩ := ok.im i d e
    exact ⟨v, h1, h2.mono le⟩
  · obtain ⟨p, h1, h2, h3, h4⟩ := ok.ow i k d e
    obtain ⟨h5, h6⟩ := hS k p ⟨i, d, e, h1⟩
    refine ⟨p, h1, h5, h3.mono le (fun u r => ?_), fun z => by rw [h6]; exact h4 z⟩
    unfold Rd at r ⊢
    rw [h6]
    exact r
theorem EnvOk.new {p : Addr} {o : HO} (ok : EnvOk K S σ H env) (hp : H p = none) : EnvOk K S σ (upd H p o) env := by
  refine ok.move (Fw.le ok (Fw.new hp)) (fun k a h => ⟨ok.owns h, ?_⟩) fun a h => upd_dom (ok.dom a h)
  exact upd_ne fun z => ok.dom a (ok.owns h) (by rw [z]; exact hp)
theorem EnvOk.newS {p : Addr} {o : HO} (ok : EnvOk K S σ H env) (hp : H p = none) : EnvOk K (fun a => S a ∨ a = p) σ (upd H p o) env := by
  refine ok.move (Fw.le ok (Fw.newS hp)) (fun k a h => ⟨.inl (ok.owns h), ?_⟩) fun a h => ?_
  · exact upd_ne fun z => ok.dom a (ok.owns h) (by rw [z]; exact hp)
  · rcases h with h | h
    · exact upd_dom (ok.dom a h)
    · rw [h, upd_same]
      exact fun z => by cases z
/-! ### what stands behind a step -/
theorem Post.same {r : R} {v : V} (ok : EnvOk K S σ H env) (h : RV K S H σ env r v) (hr : ∀ d, r ≠ .fr d) : Post K S H σ env r env v S H := ⟨Fw.refl, ok, h, fun d p e _ => (hr d e).elim⟩
theorem Post.leaf {F : Hp} {v : V} {d : D} (ok : EnvOk K S σ H env) (h : Rep K F v d) (l : leaf d = true) : Post K S H σ env (.im d) env v S H := Post.same ok (h.leaf l) fun _ z => by cases z
theorem Post.lst {p : Addr} {xs : List V} {ds : List D} (ok : EnvOk K S σ H env) (hp : H p = none) (h : Reps K (er S H) xs ds) :
    Post K S H σ env (.fr (.list ds)) env (.ref p) (fun a => S a ∨ a = p) (upd H p (.lst xs)) := by
  refine ⟨Fw.newS hp, ok.newS hp, ⟨p, rfl, .inr rfl, fun q => ok.dom p (ok.ch q) hp, fun q => ok.dom p (ok.owns q) hp, ⟨xs, .inl upd_same, h.mono (Fw.le ok (Fw.newS hp))⟩, by rw [upd_same]; exact True.intro⟩, fun d q _ e => ?_⟩
  cases e
  exact hp
theorem Post.tup {p : Addr} {xs : List V} {ds : List D} (ok : EnvOk K S σ H env) (hp : H p = none) (h : Reps K (er S H) xs ds) :
    Post K S H σ env (.im (.tuple ds)) env (.ref p) S (upd H p (.tup xs)) := by
  have hs : ¬ S p := fun q => ok.dom p q hp
  refine ⟨Fw.new hp, ok.new hp, ?_, fun d q e _ => by cases e⟩
  exact Rep.tup ((er_of hs).trans upd_same) (h.mono (Fw.le ok (Fw.new hp)))
theorem Post.dic {p : Addr} {xs : List (Key × V)} {ds : List (D × D)} (ok : EnvOk K S σ H env) (hp : H p = none) (h : RepKV K (er S H) xs ds) :
    Post K S H σ env (.fr (.dict ds)) env (.ref p) (fun a => S a ∨ a = p) (upd H p (.dK xs)) := by
  refine ⟨Fw.newS hp, ok.newS hp, ⟨p, rfl, .inr rfl, fun q => ok.dom p (ok.ch q) hp, fun q => ok.dom p (ok.owns q) hp, (.inl ⟨xs, .inl upd_same, h.mono (Fw.le ok (Fw.newS hp))⟩), by rw [upd_same]; exact True.intro⟩, fun d q _ e => ?_⟩
  cases e
  exact hp
theorem Post.dicT {p : Addr} {xs : List (List Key × V)} {ds : List (D × D)} (ok : EnvOk K S σ H env) (hp : H p = none) (hn : ds ≠ []) (h : RepTV K (er S H) xs ds) :
    Post K S H σ env (.fr (.dict ds)) env (.ref p) (fun a => S a ∨ a = p) (upd H p (.dT xs)) := by
  refine ⟨Fw.newS hp, ok.newS hp, ⟨p, rfl, .inr rfl, fun q => ok.dom p (ok.ch q) hp, fun q => ok.dom p (ok.owns q) hp, (.inr ⟨hn, xs, .inl upd_same, h.mono (Fw.le ok (Fw.newS hp))⟩), by rw [upd_same]; exact True.intro⟩, fun d q _ e => ?_⟩
  cases e
  exact hp
/-- ahead of it something else happened -/
theorem Post.after {S0 : Addr → Prop} {H0 : Hp} {env0 : Env} {r : R} {v : V} (f : Fw S0 H0 σ env0 S H σ env) (P : Post K S H σ env r env' v S' H') : Post K S0 H0 σ env0 r env' v S' H' :=
  ⟨f.trans P.fw, P.ok, P.rv, fun d p e1 e2 => none_back f.dm (P.new d p e1 e2)⟩

/-! ### a value's own part: what it is, its contents shared -/
def RepC (K : PySem.W.Frag) (S : Addr → Prop) (H : Hp) (v : V) : D → Prop
  | .list ds => ∃ a xs, v = .ref a ∧ SqL K H a xs ∧ Reps K (er S H) xs ds
  | .dict ds => (∃ a kvs, v = .ref a ∧ Rd H a (.dK kvs) ∧ RepKV K (er S H) kvs ds) ∨ Rep K (er S H) v (.dict ds) ∨ (ds ≠ [] ∧ ∃ a kvs, v = .ref a ∧ Rd H a (.dT kvs) ∧ RepTV K (er S H) kvs ds)
  | d => Rep K (er S H) v d
theorem RepC.dic {v : V} {ds : List (D × D)} (h : RepC K S H v (.dict ds)) (p : plainK ds = true) : ∃ a kvs, v = .ref a ∧ Rd H a (.dK kvs) ∧ RepKV K (er S H) kvs ds := by
  have noT : ∀ {F : Hp} {kvs : List (List Key × V)}, ds ≠ [] → RepTV K F kvs ds → False := fun n r => by
    cases r with
    | nil => exact n rfl
    | cons _ _ => simp [plainK, isKey] at p
  rcases h with h | h | ⟨n, a, kvs, _, _, r⟩
  · exact h
  · cases h with
    | dic h1 h2 => exact ⟨_, _, rfl, er_full _ _ h1, h2⟩
    | dicT h1 n h2 => exact (noT n h2).elim
    | exc0 _ _ => simp [plainK, isKey] at p
    | exc1 _ _ _ _ => simp [plainK, isKey] at p
  · exact (noT n r).elim
theorem RepTV.noK {F : Hp} {kvs : List (List Key × V)} {ds : List (D × D)} (n : ds ≠ []) (r : RepTV K F kvs ds) (p : plainK ds = true) : False := by
  cases r with
  | nil => exact n rfl
  | cons _ _ => simp [plainK, isKey] at p
theorem RepTV.tupK {F : Hp} {kvs : List (List Key × V)} {ds : List (D × D)} (n : ds ≠ []) (r : RepTV K F kvs ds) : DI.tupK ds = true := by
  cases r with
  | nil => exact (n rfl).elim
  | cons _ _ => rfl
theorem RepKV.noT {F : Hp} {kvs : List (Key × V)} {ds : List (D × D)} (r : RepKV K F kvs ds) : DI.tupK ds = false := by
  cases r with
  | nil => rfl
  | @cons k v d vs ds _ _ => cases k <;> rfl
theorem Own.dK {F : Hp} {p : Addr} {ds : List (D × D)} (o : Own K F H p (.dict ds)) (h : plainK ds = true) : ∃ kvs, Rd H p (.dK kvs) ∧ RepKV K F kvs ds := by
  rcases o with o | ⟨n, kvs, _, r⟩
  · exact o
  · exact (r.noK n h).elim
theorem Own.nT {F : Hp} {p : Addr} {ds : List (D × D)} (o : Own K F H p (.dict ds)) (h : DI.tupK ds = false) : ∃ kvs, Rd H p (.dK kvs) ∧ RepKV K F kvs ds := by
  rcases o with o | ⟨n, kvs, _, r⟩
  · exact o
  · rw [r.tupK n] at h; cases h
theorem Own.dT {F : Hp} {p : Addr} {ds : List (D × D)} (o : Own K F H p (.dict ds)) (h : DI.tupK ds = true) : ∃ kvs, Rd H p (.dT kvs) ∧ RepTV K F kvs ds := by
  rcases o with ⟨kvs, _, r⟩ | ⟨_, o⟩
  · rw [r.noT] at h; cases h
  · exact o
theorem RepC.dicT {v : V} {ds : List (D × D)} (h : RepC K S H v (.dict ds)) (p : tupK ds = true) : ∃ a kvs, v = .ref a ∧ Rd H a (.dT kvs) ∧ RepTV K (er S H) kvs ds := by
  have noK : ∀ {F : Hp} {kvs : List (Key × V)}, RepKV K F kvs ds → False := fun r => by
    cases r with
    | nil => simp [tupK] at p
    | @cons k v d vs ds _ _ => cases k <;> simp [tupK, kD] at p
  rcases h with ⟨a, kvs, _, _, r⟩ | h | ⟨n, h⟩
  · exact (noK r).elim
  · cases h with
    | dic h1 h2 => exact (noK h2).elim
    | dicT h1 n h2 => exact ⟨_, _, rfl, er_full _ _ h1, h2⟩
    | exc0 _ _ => simp [tupK] at p
    | exc1 _ _ _ _ => simp [tupK] at p
  · exact h
theorem Rep.repC {v : V} {d : D} (h : Rep K (er S H) v d) : RepC K S H v d := by
  cases h with
  | non => exact Rep.non
  | bl b => exact Rep.bl b
  | int i => exact Rep.int i
  | str x => exact Rep.str x
  | lst h1 h2 => exact ⟨_, _, rfl, er_full.sqL h1, h2⟩
  | tup h1 h2 => exact Rep.tup h1 h2
  | dic h1 h2 => exact .inl ⟨_, _, rfl, er_full _ _ h1, h2⟩
  | dicT h1 n h2 => exact .inr (.inr ⟨n, _, _, rfl, er_full _ _ h1, h2⟩)
  | exc0 h1 h2 => exact .inr (.inl (.exc0 h1 h2))
  | exc1 h1 h2 h3 h4 => exact .inr (.inl (.exc1 h1 h2 h3 h4))
theorem Own.repC {p : Addr} {d : D} (o : Own K (er S H) H p d) : RepC K S H (.ref p) d := by
  cases d with
  | list ds => obtain ⟨xs, h1, h2⟩ := o; exact ⟨p, xs, rfl, .inl h1, h2⟩
  | dict ds =>
    rcases o with ⟨xs, h1, h2⟩ | ⟨n, xs, h1, h2⟩
    · exact .inl ⟨p, xs, rfl, h1, h2⟩
    · exact .inr (.inr ⟨n, p, xs, rfl, h1, h2⟩)
  | _ => exact o.elim
theorem RV.repC {r : R} {v : V} {d : D} (ok : EnvOk K S σ H env) (h : RV K S H σ env r v) (hv : r.val env = some d) : RepC K S H v d := by
  cases r with
  | im e => cases hv; exact Rep.repC h
  | fr e =>
    cases hv
    obtain ⟨p, rfl, _, _, _, ho, _⟩ := h
    exact ho.repC
  | al i =>
    rcases slD_some hv with e | ⟨k, e⟩
    · obtain ⟨w, h1, h2⟩ := ok.im i d e
      have h' : σ[i]? = some (some v) := h
      rw [h'] at h1
      cases h1
      exact h2.repC
    · obtain ⟨p, h1, _, h2, _⟩ := ok.ow i k d e
      have h' : σ[i]? = some (some v) := h
      rw [h'] at h1
      cases h1
      exact h2.repC
theorem RepC.rep {v : V} {d : D} (h : RepC K S H v d) : Rep K H v d := by
  cases d with
  | list ds => obtain ⟨a, xs, rfl, h1, h2⟩ := h; exact .lst h1 (h2.mono er_full)
  | tuple ds => exact Rep.mono er_full h
  | dict ds =>
    rcases h with ⟨a, xs, rfl, h1, h2⟩ | h | ⟨n, a, xs, rfl, h1, h2⟩
    · exact .dic h1 (h2.mono er_full)
    · exact h.mono er_full
    · exact .dicT h1 n (h2.mono er_full)
  | none => exact Rep.mono er_full h
  | bool b => exact Rep.mono er_full h
  | int i => exact Rep.mono er_full h
  | str s => exact Rep.mono er_full h
end

def notStar : Expr → Bool
  | .Starred _ _ => false
  | _ => true
theorem star_cons {e : Expr} {rest : List Expr} {env : PySem.Env} (h : notStar e = true) : starEach (e :: rest) env = (false, eval e env) :: starEach rest env := by
  cases e <;> first | (exact absurd h Bool.false_ne_true) | rw [starEach] <;> exact fun _ _ z => by cases z
/-! ### judgements -/
def AnyE (X : Cx) (e : Expr) : TE := fun σ H Q => ∀ (pins : List (Addr × Obj)) (s : Shared), Inv X pins σ H s → wpAny (model X.prog X.w) X.A (eval e X.env) (EP X pins σ Q) X.xe s
theorem pe_any {X : Cx} {e : Expr} : PE X e (AnyE X e) := ⟨fun pins s σ H Q I h => h pins s I⟩
theorem any_of {X : Cx} {e : Expr} {t : TE} (p : PE X e t) {σ : L2.St} {H : Hp} {Q : VK} (h : t σ H Q) : AnyE X e σ H Q := fun pins s I => p.run pins s σ H Q I h
def AnyT (X : Cx) (e : Expr) : TT := fun σ H Q => ∀ (pins : List (Addr × Obj)) (s : Shared), Inv X pins σ H s → wpAny (model X.prog X.w) X.A (isTrue e X.env (eval e X.env)) (TP X pins σ Q) X.xe s
theorem pt_any {X : Cx} {e : Expr} : PT X e (AnyT X e) := ⟨fun pins s σ H Q I h => h pins s I⟩
theorem anyT_of {X : Cx} {e : Expr} {t : TT} (p : PT X e t) {σ : L2.St} {H : Hp} {Q : Bool → Hp → Prop} (h : t σ H Q) : AnyT X e σ H Q := fun pins s I => p.run pins s σ H Q I h
def AnyW (X : Cx) (e : Expr) : TT := fun σ H Q => ∀ (whole : Sem Value) (pins : List (Addr × Obj)) (s : Shared), Inv X pins σ H s → wpAny (model X.prog X.w) X.A (isTrue e X.env whole) (TP X pins σ Q) X.xe s
theorem pw_any {X : Cx} {e : Expr} : PW X e (AnyW X e) := ⟨fun wh pins s σ H Q I h => h wh pins s I⟩
def AnyA (X : Cx) (es : List Expr) : TA := fun σ H Q => ∀ (pos : Pos) (pins : List (Addr × Obj)) (s : Shared), Inv X pins σ H s → wpAny (model X.prog X.w) X.A (spliced (backTo pos (starEach es X.env))) (AP X pins σ Q) X.xe s
theorem pa_any {X : Cx} {es : List Expr} : PA X es (AnyA X es) := ⟨fun pos pins s σ H Q I h => h pos pins s I⟩
theorem anyA_of {X : Cx} {es : List Expr} {t : TA} (p : PA X es t) {σ : L2.St} {H : Hp} {Q : List V → Hp → Prop} (h : t σ H Q) : AnyA X es σ H Q := fun pos pins s I => p.run pos pins s σ H Q I h

/-- e does what x says -/
structure Snd (Φ : Fns) (X : Cx) (e : Expr) (x : Xp) : Prop where
  run : ∀ env r env', ev Φ x env = some (r, env') → ∀ (S : Addr → Prop) (σ : L2.St) (H : Hp), EnvOk X.K S σ H env →
  ∀ Q : VK, (∀ v S' H', Post X.K S H σ env r env' v S' H' → Q v H') → AnyE X e σ H Q
instance {Φ : Fns} {X : Cx} {e : Expr} {x : Xp} : CoeFun (Snd Φ X e x) fun _ => ∀ env r env', ev Φ x env = some (r, env') → ∀ (S : Addr → Prop) (σ : L2.St) (H : Hp), EnvOk X.K S σ H env →
    ∀ Q : VK, (∀ v S' H', Post X.K S H σ env r env' v S' H' → Q v H') → AnyE X e σ H Q := ⟨Snd.run⟩
/-- .. as a test -/
structure SndT (Φ : Fns) (X : Cx) (e : Expr) (x : Xp) : Prop where
  run : ∀ env k env', tstX Φ x env = some (k, env') → ∀ (S : Addr → Prop) (σ : L2.St) (H : Hp), EnvOk X.K S σ H env →
  ∀ Q : Bool → Hp → Prop, (∀ S' H', Fw S H σ env S' H' σ env' → EnvOk X.K S' σ H' env' → Q k H') → AnyT X e σ H Q
instance {Φ : Fns} {X : Cx} {e : Expr} {x : Xp} : CoeFun (SndT Φ X e x) fun _ => ∀ env k env', tstX Φ x env = some (k, env') → ∀ (S : Addr → Prop) (σ : L2.St) (H : Hp), EnvOk X.K S σ H env →
    ∀ Q : Bool → Hp → Prop, (∀ S' H', Fw S H σ env S' H' σ env' → EnvOk X.K S' σ H' env' → Q k H') → AnyT X e σ H Q := ⟨SndT.run⟩
structure SndW (Φ : Fns) (X : Cx) (e : Expr) (x : Xp) : Prop where
  run : ∀ env k env', tstX Φ x env = some (k, env') → ∀ (S : Addr → Prop) (σ : L2.St) (H : Hp), EnvOk X.K S σ H env →
  ∀ Q : Bool → Hp → Prop, (∀ S' H', Fw S H σ env S' H' σ env' → EnvOk X.K S' σ H' env' → Q k H') → AnyW X e σ H Q
instance {Φ : Fns} {X : Cx} {e : Expr} {x : Xp} : CoeFun (SndW Φ X e x) fun _ => ∀ env k env', tstX Φ x env = some (k, env') → ∀ (S : Addr → Prop) (σ : L2.St) (H : Hp), EnvOk X.K S σ H env →
    ∀ Q : Bool → Hp → Prop, (∀ S' H', Fw S H σ env S' H' σ env' → EnvOk X.K S' σ H' env' → Q k H') → AnyW X e σ H Q := ⟨SndW.run⟩
/-- arguments, stored -/
structure SndS (Φ : Fns) (X : Cx) (es : List Expr) (xs : Xps) : Prop where
  run : ∀ env ds env', evS Φ xs env = some (ds, env') → ∀ (S : Addr → Prop) (σ : L2.St) (H : Hp), EnvOk X.K S σ H env →
  ∀ Q : List V → Hp → Prop, (∀ vs S' H', Fw S H σ env S' H' σ env' → EnvOk X.K S' σ H' env' → Reps X.K (er S' H') vs ds → Q vs H') → AnyA X es σ H Q
instance {Φ : Fns} {X : Cx} {es : List Expr} {xs : Xps} : CoeFun (SndS Φ X es xs) fun _ => ∀ env ds env', evS Φ xs env = some (ds, env') → ∀ (S : Addr → Prop) (σ : L2.St) (H : Hp), EnvOk X.K S σ H env →
    ∀ Q : List V → Hp → Prop, (∀ vs S' H', Fw S H σ env S' H' σ env' → EnvOk X.K S' σ H' env' → Reps X.K (er S' H') vs ds → Q vs H') → AnyA X es σ H Q := ⟨SndS.run⟩
/-- several values at hand -/
inductive RVs (K : PySem.W.Frag) (S : Addr → Prop) (H : Hp) (σ : L2.St) (env : Env) : List R → List V → Prop
  | nil : RVs K S H σ env [] []
  | cons {r : R} {v : V} {rs : List R} {vs : List V} : RV K S H σ env r v → RVs K S H σ env rs vs → RVs K S H σ env (r :: rs) (v :: vs)
/-- the fresh ones among them: new since H0, and each another one -/
def frsA (rs : List R) (vs : List V) : List Addr := (rs.zip vs).filterMap fun p => match p.1, p.2 with
  | .fr _, .ref a => some a
  | _, _ => none
structure PostR (K : PySem.W.Frag) (S0 : Addr → Prop) (H0 : Hp) (σ : L2.St) (env0 : Env) (rs : List R) (env : Env) (vs : List V) (S : Addr → Prop) (H : Hp) : Prop where
  fw : Fw S0 H0 σ env0 S H σ env
  ok : EnvOk K S σ H env
  rv : RVs K S H σ env rs vs
  new : ∀ a ∈ frsA rs vs, H0 a = none
  nd : (frsA rs vs).Nodup
structure SndR (Φ : Fns) (X : Cx) (es : List Expr) (xs : Xps) : Prop where
  run : ∀ env rs env', evR Φ xs env = some (rs, env') → ∀ (S : Addr → Prop) (σ : L2.St) (H : Hp), EnvOk X.K S σ H env →
  ∀ Q : List V → Hp → Prop, (∀ vs S' H', PostR X.K S H σ env rs env' vs S' H' → Q vs H') → AnyA X es σ H Q
instance {Φ : Fns} {X : Cx} {es : List Expr} {xs : Xps} : CoeFun (SndR Φ X es xs) fun _ => ∀ env rs env', evR Φ xs env = some (rs, env') → ∀ (S : Addr → Prop) (σ : L2.St) (H : Hp), EnvOk X.K S σ H env →
    ∀ Q : List V → Hp → Prop, (∀ vs S' H', PostR X.K S H σ env rs env' vs S' H' → Q vs H') → AnyA X es σ H Q := ⟨SndR.run⟩
section
variable {Φ : Fns} {X : Cx} {a b c e : Expr} {xa xb xc x : Xp} {pos : Pos}
theorem RVs.step {K : PySem.W.Frag} {S S' : Addr → Prop} {H H' : Hp} {σ : L2.St} {env env' : Env} (ok : EnvOk K S σ H env) (f : Fw S H σ env S' H' σ env') : ∀ {rs : List R} {vs : List V}, RVs K S H σ env rs vs → RVs K S' H' σ env' rs vs
  | _, _, .nil => .nil
  | _, _, .cons h r => .cons (h.step ok f) (RVs.step ok f r)

/-! ### constants, names -/
theorem snd_int {i j pos} : Snd Φ X (.Constant (.int i) j pos) (.c (.int i)) := .mk fun env r env' h S σ H ok Q q => by
  cases h
  exact any_of pe_int (q _ _ _ (Post.leaf (F := H) ok (.int i) rfl))
theorem snd_bool {b j pos} : Snd Φ X (.Constant (.bool b) j pos) (.c (.bool b)) := .mk fun env r env' h S σ H ok Q q => by
  cases h
  exact any_of pe_bl (q _ _ _ (Post.leaf (F := H) ok (.bl b) rfl))
theorem snd_none {j pos} : Snd Φ X (.Constant .none j pos) (.c .none) := .mk fun env r env' h S σ H ok Q q => by
  cases h
  exact any_of pe_non (q _ _ _ (Post.leaf (F := H) ok .non rfl))
theorem snd_str {x j pos} : Snd Φ X (.Constant (.str x) j pos) (.c (.str x)) := .mk fun env r env' h S σ H ok Q q => by
  cases h
  exact any_of pe_str (q _ _ _ (Post.leaf (F := H) ok (.str x) rfl))
/-- a constant of the module: a text, a number -/
theorem snd_glob {x : Str} {v : V} {u : Value} {d : D} {pos : Pos} (hg : Gl X x) (hm : X.mg x = some u) (r : RelV v u) (hd : Rep X.K (fun _ => none) v d) (l : leaf d = true) (hdb : (x == ("__debug__" : Str)) = false := by decide) : Snd Φ X (.Name x pos) (.c d) := .mk fun env r' env' h S σ H ok Q q => by
  cases h
  exact any_of (pe_glob hg hm r hdb) (q _ _ _ (Post.leaf ok hd l))
theorem snd_v (i : Nat) {x : Str} {pos : Pos} (hN : X.N[i]? = some x := by rfl) (hv : Vis X.env.scope x := by first | exact Or.inl rfl | exact Or.inr (Or.inl rfl) | exact Or.inr (Or.inr rfl)) (hd : (x == ("__debug__" : Str)) = false := by decide)
    (hcd : (x == ("__classdict__" : Str)) = false := by decide) : Snd Φ X (.Name x pos) (.v i) := .mk fun env r env' h S σ H ok Q q => by
  simp only [ev] at h
  cases e : env[i]? with
  | none => rw [e] at h; cases h
  | some s =>
    rw [e] at h
    cases s with
    | un => cases h
    | im d =>
      cases h
      obtain ⟨v, h1, h2⟩ := ok.im i d e
      exact any_of (pe_var hN hv hd hcd) ⟨v, h1, q _ _ _ (Post.same ok h2 fun _ z => by cases z)⟩
    | ow k d =>
      cases h
      obtain ⟨p, h1, h2⟩ := ok.ow i k d e
      exact any_of (pe_var hN hv hd hcd) ⟨_, h1, q _ _ _ (Post.same ok h1 fun _ z => by cases z)⟩

/-! ### operators -/
/-- an operation on values does what g says -/
def OpD (X : Cx) (f : Value → Value → Sem Value) (g : D → D → Option R) : Prop := ∀ dx dy r, g dx dy = some r → ∀ (pins : List (Addr × Obj)) (s : Shared) (σ : L2.St) (H : Hp) (S : Addr → Prop) (env : Env) (x y : V) (v u : Value) (Q : VK),
  Inv X pins σ H s → RelV x v → RelV y u → EnvOk X.K S σ H env → RepC X.K S H x dx → RepC X.K S H y dy → (∀ z S' H', Post X.K S H σ env r env z S' H' → Q z H') → wpAny (model X.prog X.w) X.A (f v u) (EP X pins σ Q) X.xe s
theorem seq2 {Q : VK} {r1 r2 : R} {x y : V} {σ : L2.St} {H : Hp} {S : Addr → Prop} {env en1 en2 : Env} (ha : Snd Φ X a xa) (hb : Snd Φ X b xb) (e1 : ev Φ xa env = some (r1, en1)) (e2 : ev Φ xb en1 = some (r2, en2)) (ok : EnvOk X.K S σ H env)
    {R : V → V → Hp → Prop} (k : ∀ x y S2 H2, Fw S H σ env S2 H2 σ en2 → EnvOk X.K S2 σ H2 en2 → RV X.K S2 H2 σ en2 r1 x → RV X.K S2 H2 σ en2 r2 y → R x y H2) : AnyE X a σ H fun x H1 => AnyE X b σ H1 fun y H2 => R x y H2 :=
  ha env r1 en1 e1 S σ H ok _ fun x S1 H1 P1 => hb en1 r2 en2 e2 S1 σ H1 P1.ok _ fun y S2 H2 P2 => k x y S2 H2 (P1.fw.trans P2.fw) P2.ok (P1.rv.step P1.ok P2.fw) P2.rv
theorem snd_bin {o : Operator} (hop : OpD X (binaryOp o) fun x y => (binD o x y).map newR) (ha : Snd Φ X a xa) (hb : Snd Φ X b xb) : Snd Φ X (.BinOp a o b pos) (.bin o xa xb) := .mk fun env r env' h S σ H ok Q q => by
  simp only [ev] at h
  cases e1 : ev Φ xa env with
  | none => rw [e1] at h; cases h
  | some p1 =>
    obtain ⟨r1, en1⟩ := p1
    rw [e1] at h
    dsimp only at h
    cases e2 : ev Φ xb en1 with
    | none => rw [e2] at h; cases h
    | some p2 =>
      obtain ⟨r2, en2⟩ := p2
      rw [e2] at h
      dsimp only at h
      cases f1 : r1.val en2 with
      | none => rw [f1] at h; cases h
      | some dx =>
        cases f2 : r2.val en2 with
        | none => rw [f1, f2] at h; cases h
        | some dy =>
          rw [f1, f2] at h
          dsimp only at h
          cases g : binD o dx dy with
          | none => rw [g] at h; cases h
          | some z =>
            rw [g] at h
            cases h
            intro pins s I
            refine wpAny_BinOp (binT pe_any pe_any I (seq2 (R := fun x y H2 => ∃ S2, Fw S H σ env S2 H2 σ env' ∧ EnvOk X.K S2 σ H2 env' ∧ RV X.K S2 H2 σ env' r1 x ∧ RV X.K S2 H2 σ env' r2 y) (x := .non) (y := .non) (Q := Q) ha hb e1 e2 ok fun x y S2 H2 h1 h2 h3 h4 => ⟨S2, h1, h2, h3, h4⟩) fun v u s2 x y H2 I2 rx ry hR => ?_)
            obtain ⟨S2, h1, h2, h3, h4⟩ := hR
            exact hop dx dy (newR z) (by simp only [g, Option.map_some]) pins s2 σ H2 S2 env' x y v u Q I2 rx ry h2 (h3.repC h2 f1) (h4.repC h2 f2) fun z S' H' P => q z S' H' (P.after h1)
theorem snd_cmp {o : CmpOp} (hop : OpD X (compareOp o) fun x y => (cmpD o x y).map fun b => .im (.bool b)) (hm : behindInMarks o b = false) (ha : Snd Φ X a xa) (hb : Snd Φ X b xb) : Snd Φ X (.Compare a [o] [b] pos) (.cmp o xa xb) := .mk fun env r env' h S σ H ok Q q => by
  simp only [ev] at h
  cases e1 : ev Φ xa env with
  | none => rw [e1] at h; cases h
  | some p1 =>
    obtain ⟨r1, en1⟩ := p1
    rw [e1] at h
    dsimp only at h
    cases e2 : ev Φ xb en1 with
    | none => rw [e2] at h; cases h
    | some p2 =>
      obtain ⟨r2, en2⟩ := p2
      rw [e2] at h
      dsimp only at h
      cases f1 : r1.val en2 with
      | none => rw [f1] at h; cases h
      | some dx =>
        cases f2 : r2.val en2 with
        | none => rw [f1, f2] at h; cases h
        | some dy =>
          rw [f1, f2] at h
          dsimp only at h
          cases g : cmpD o dx dy with
          | none => rw [g] at h; cases h
          | some z =>
            rw [g] at h
            cases h
            intro pins s I
            refine wpAny_Compare1 (binT pe_any pe_any I (seq2 (R := fun x y H2 => ∃ S2, Fw S H σ env S2 H2 σ env' ∧ EnvOk X.K S2 σ H2 env' ∧ RV X.K S2 H2 σ env' r1 x ∧ RV X.K S2 H2 σ env' r2 y) (x := .non) (y := .non) (Q := Q) ha hb e1 e2 ok fun x y S2 H2 h1 h2 h3 h4 => ⟨S2, h1, h2, h3, h4⟩) fun v u s2 x y H2 I2 rx ry hR => ?_) hm
            obtain ⟨S2, h1, h2, h3, h4⟩ := hR
            exact hop dx dy (.im (.bool z)) (by simp only [g, Option.map_some]) pins s2 σ H2 S2 env' x y v u Q I2 rx ry h2 (h3.repC h2 f1) (h4.repC h2 f2) fun z S' H' P => q z S' H' (P.after h1)
end
end DI

set_option maxRecDepth 100000
/-! DI4: the operators. -/
namespace DI
open PySem PySem.Spec PyProof.Rows L2
section
variable {K : PySem.W.Frag} {S S' : Addr → Prop} {H H' F : Hp} {σ : L2.St} {env env' : Env}
theorem lim_line {n : Nat} (h : n ≤ lim) : n ≤ sizeLine := by
  rw [sizeLine_eq]
  unfold lim at h
  omega
theorem Rep.int_inv {v : V} {i : Int} (h : Rep K F v (.int i)) : v = .int i := by cases h; rfl
theorem Rep.str_inv {v : V} {i : Str} (h : Rep K F v (.str i)) : v = .str i := by cases h; rfl
theorem Rep.bl_inv {v : V} {i : Bool} (h : Rep K F v (.bool i)) : v = .bl i := by cases h; rfl
theorem Rep.non_inv {v : V} (h : Rep K F v .none) : v = .non := by cases h; rfl
theorem Rep.tup_inv {v : V} {ds : List D} (h : Rep K F v (.tuple ds)) : ∃ a xs, v = .ref a ∧ SqT K F a xs ∧ Reps K F xs ds := by
  cases h with
  | tup h1 h2 => exact ⟨_, _, rfl, .inl (.inl h1), h2⟩
theorem Rep.tup_inv' {v : V} {ds : List D} (h : Rep K F v (.tuple ds)) : ∃ a xs, v = .ref a ∧ F a = some (.tup xs) ∧ Reps K F xs ds := by
  cases h with
  | tup h1 h2 => exact ⟨_, _, rfl, h1, h2⟩
mutual
theorem Rep.dp : ∀ {v : V} {d : D}, Rep K F v d → d.canLay0 = true → Dp K F v d
  | _, _, .non, _ => .non
  | _, _, .bl b, _ => .bl b
  | _, _, .int i, _ => .int i
  | _, _, .str x, _ => .str x
  | _, _, .lst h r, e => .lst h (Reps.dp r (by simpa [PyData.canLay0] using e))
  | _, _, .tup h r, e => .tup (.inl (.inl h)) (Reps.dp r (by simpa [PyData.canLay0] using e))
  | _, _, .dic h r, e => by simp [PyData.canLay0] at e
  | _, _, .dicT h _ r, e => by simp [PyData.canLay0] at e
  | _, _, .exc0 _ _, e => by simp [PyData.canLay0] at e
  | _, _, .exc1 _ _ _ _, e => by simp [PyData.canLay0] at e
theorem Reps.dp : ∀ {v : List V} {d : List D}, Reps K F v d → PyData.canLayAll0 d = true → DpAll K F v d
  | _, _, .nil, _ => .nil
  | _, _, .cons h r, e => by
    rw [PyData.canLayAll0, Bool.and_eq_true] at e
    have e' := e
    exact .cons (Rep.dp h e'.1) (Reps.dp r e'.2)
end
theorem flatV_of {v : V} {d : D} (h : Rep K F v d) (l : flatD d = true) : flatV v = true := by
  cases h <;> first | rfl | cases l
theorem eqV_of {G : Hp} {v w : V} {d e : D} (h : Rep K F v d) (h' : Rep K G w e) (l : flatD d = true) (l' : flatD e = true) : eqV v w = PyData.eqv d e := by
  cases h <;> cases h' <;> first | rfl | cases l | cases l' | simp [eqV, PyData.eqv]
theorem flat_all : ∀ {vs : List V} {ds : List D}, Reps K F vs ds → ds.all flatD = true → vs.all flatV = true
  | _, _, .nil, _ => rfl
  | _, _, .cons h r, l => by
    rw [List.all_cons, Bool.and_eq_true] at l ⊢
    exact ⟨flatV_of h l.1, flat_all r l.2⟩
theorem inV_of {G : Hp} {v : V} {d : D} (h : Rep K F v d) (l : flatD d = true) : ∀ {vs : List V} {ds : List D}, Reps K G vs ds → ds.all flatD = true → inV v vs = ds.any fun z => PyData.eqv z d
  | _, _, .nil, _ => rfl
  | _, _, .cons (v := w) (vs := vs) h' r, l' => by
    rw [List.all_cons, Bool.and_eq_true] at l'
    have ih := inV_of h l r l'.2
    unfold inV at ih ⊢
    rw [List.any_cons, List.any_cons, ih, eqV_of h' h l'.1 l]
end

section
variable {X : Cx}
/-! ### arithmetic -/
theorem opd_int {f : Value → Value → Sem Value} {C : Int → Int → Prop} {g : Int → Int → Int} (h : OpR X f (rI C fun i j => .int (g i j))) {pins : List (Addr × Obj)} {s : Shared} {σ : L2.St} {H : Hp} {S : Addr → Prop} {env : Env} {x y : V} {v u : Value} {Q : VK} {i j : Int}
    (I : Inv X pins σ H s) (rx : RelV x v) (ry : RelV y u) (ok : EnvOk X.K S σ H env) (hx : RepC X.K S H x (.int i)) (hy : RepC X.K S H y (.int j)) (hc : C i j) (q : ∀ z S' H', Post X.K S H σ env (.im (.int (g i j))) env z S' H' → Q z H') : wpAny (model X.prog X.w) X.A (f v u) (EP X pins σ Q) X.xe s :=
  h pins s σ H x y v u Q I rx ry ⟨i, j, Rep.int_inv hx, Rep.int_inv hy, hc, q _ _ _ (Post.leaf (F := H) ok (.int _) rfl)⟩
theorem opd_int0 {f : Value → Value → Sem Value} {g : Int → Int → Int} (h : OpR X f (rI0 fun i j => .int (g i j))) {pins : List (Addr × Obj)} {s : Shared} {σ : L2.St} {H : Hp} {S : Addr → Prop} {env : Env} {x y : V} {v u : Value} {Q : VK} {i j : Int}
    (I : Inv X pins σ H s) (rx : RelV x v) (ry : RelV y u) (ok : EnvOk X.K S σ H env) (hx : RepC X.K S H x (.int i)) (hy : RepC X.K S H y (.int j)) (q : ∀ z S' H', Post X.K S H σ env (.im (.int (g i j))) env z S' H' → Q z H') : wpAny (model X.prog X.w) X.A (f v u) (EP X pins σ Q) X.xe s :=
  h pins s σ H x y v u Q I rx ry ⟨i, j, Rep.int_inv hx, Rep.int_inv hy, q _ _ _ (Post.leaf (F := H) ok (.int _) rfl)⟩
theorem opd_sub : OpD X (binaryOp .Sub) fun x y => (binD .Sub x y).map newR := by
  intro dx dy r h pins s σ H S env x y v u Q I rx ry ok hx hy q
  cases dx <;> cases dy <;> first | cases h | skip
  exact opd_int0 op_sub I rx ry ok hx hy q
theorem opd_mod : OpD X (binaryOp .Mod) fun x y => (binD .Mod x y).map newR := by
  intro dx dy r h pins s σ H S env x y v u Q I rx ry ok hx hy q
  cases dx <;> cases dy <;> first | cases h | skip
  simp only [binD] at h
  split at h
  · rename_i hc
    cases h
    exact opd_int op_mod I rx ry ok hx hy hc q
  · cases h
theorem opd_fdiv : OpD X (binaryOp .FloorDiv) fun x y => (binD .FloorDiv x y).map newR := by
  intro dx dy r h pins s σ H S env x y v u Q I rx ry ok hx hy q
  cases dx <;> cases dy <;> first | cases h | skip
  simp only [binD] at h
  split at h
  · rename_i hc
    cases h
    rw [Bool.and_eq_true] at hc
    exact opd_int op_fdiv I rx ry ok hx hy ⟨of_decide_eq_true hc.1, of_decide_eq_true hc.2⟩ q
  · cases h
theorem opd_pow : OpD X (binaryOp .Pow) fun x y => (binD .Pow x y).map newR := by
  intro dx dy r h pins s σ H S env x y v u Q I rx ry ok hx hy q
  cases dx <;> cases dy <;> first | cases h | skip
  simp only [binD] at h
  split at h
  · rename_i hc
    cases h
    rw [Bool.and_eq_true, Bool.and_eq_true] at hc
    exact opd_int op_pow I rx ry ok hx hy ⟨of_decide_eq_true hc.1.1, of_decide_eq_true hc.1.2, of_decide_eq_true hc.2⟩ q
  · cases h
theorem list_isList {pins : List (Addr × Obj)} {s : Shared} {σ : L2.St} {H : Hp} {a : Addr} {xs : List V} (I : Inv X pins σ H s) (h : SqL X.K H a xs) : ∃ its : List Value, Vals xs its ∧ s.heap.IsList a its.toArray ∧ xs.length ≤ sizeLine := by
  obtain ⟨its, r, p, z⟩ := I.list h
  exact ⟨its, r, p.isList, z⟩
/-- a list's copies one behind another -/
theorem flatten_replicate_length {α : Type} (xs : List α) (n : Nat) : ((List.replicate n xs).flatten).length = xs.length * n := by
  induction n with
  | zero => simp
  | succ n ih => rw [List.replicate_succ, List.flatten_cons, List.length_append, ih, Nat.mul_succ, Nat.add_comm]
theorem Reps.rep {K : PySem.W.Frag} {F : Hp} {v : List V} {d : List D} (h : Reps K F v d) : ∀ n : Nat, Reps K F (List.replicate n v).flatten (List.replicate n d).flatten
  | 0 => .nil
  | n + 1 => by
    rw [List.replicate_succ, List.replicate_succ, List.flatten_cons, List.flatten_cons]
    exact h.append (Reps.rep h n)
theorem opd_add : OpD X (binaryOp .Add) fun x y => (binD .Add x y).map newR := by
  intro dx dy r h pins s σ H S env x y v u Q I rx ry ok hx hy q
  cases dx with
  | int i =>
    cases dy <;> first | cases h | skip
    · rename_i b
      cases (Rep.bl_inv hy)
      cases (Rep.int_inv hx)
      refine op_add_ib pins s σ H _ _ v u Q I rx ry ⟨i, b, rfl, rfl, ?_⟩
      exact q _ _ _ (Post.leaf (F := H) ok (.int _) rfl)
    · exact opd_int0 op_add I rx ry ok hx hy q
  | str i =>
    cases dy <;> first | cases h | skip
    rename_i j
    simp only [binD] at h
    split at h
    · rename_i hc
      cases h
      cases (Rep.str_inv hx)
      cases (Rep.str_inv hy)
      exact op_add_str pins s σ H _ _ v u Q I rx ry ⟨i, j, rfl, rfl, lim_line hc, q _ _ _ (Post.leaf (F := H) ok (.str _) rfl)⟩
    · cases h
  | list xs =>
    cases dy <;> first | cases h | skip
    rename_i ys
    simp only [binD] at h
    split at h
    · rename_i hc
      cases h
      obtain ⟨a, vs, rfl, h1, h2⟩ := hx
      obtain ⟨b, ws, rfl, h3, h4⟩ := hy
      cases rx
      cases ry
      obtain ⟨its, r1, l1, z1⟩ := list_isList I h1
      obtain ⟨its2, r2, l2, z2⟩ := list_isList I h3
      have hl := h2.length
      have hl' := h4.length
      have hr := r1.length
      have hr' := r2.length
      have hz : vs.length + ws.length ≤ sizeLine := lim_line (by omega)
      obtain ⟨⟨cls, dd, data, sl⟩, ho, hc1, n, hd⟩ := id l1
      obtain ⟨⟨cls2, dd2, data2, sl2⟩, ho2, hc2, n2, hd2⟩ := id l2
      simp only at hc1 hd hc2 hd2
      subst hc1 hd hc2 hd2
      refine concat_meets ⟨_, ho, rfl⟩ ⟨_, ho2, rfl⟩ noFill_list_add seq_list_add PySem.F.slot_list_add PySem.F.entry_list_add (PySem.F.args_list_add_2 _ _) (list_addW a b its.toArray its2.toArray n n2 dd dd2 sl sl2 (by simp only [List.size_toArray]; omega)) ⟨ho, ho2, ?_⟩
      have ea : its.toArray ++ its2.toArray = (its ++ its2).toArray := by simp
      rw [ea]
      exact ⟨.ref _, _, I.lnew (t' := s.toks) (r1.append r2) (by rw [List.length_append]; omega), rfl, q _ _ _ (Post.lst ok I.fresh (h2.append h4))⟩
    · cases h
  | tuple xs =>
    cases dy <;> first | cases h | skip
    rename_i ys
    simp only [binD] at h
    split at h
    · rename_i hc
      cases h
      obtain ⟨a, vs, rfl, h1', h2⟩ := Rep.tup_inv' hx
      obtain ⟨b, ws, rfl, h3', h4⟩ := Rep.tup_inv' hy
      have h1 : SqT X.K (er S H) a vs := .inl (.inl h1')
      have h3 : SqT X.K (er S H) b ws := .inl (.inl h3')
      have hl := h2.length
      have hl' := h4.length
      refine op_catA pins s σ H _ _ v u Q I rx ry ⟨a, b, vs, ws, rfl, rfl, er_full.sqT h1, er_full.sqT h3, lim_line (by omega), fun e => ?_, fun _ e => ?_, fun _ _ p hp => ?_⟩
      · subst e
        cases h2
        exact q _ _ _ (Post.same ok (show Rep _ _ _ _ from .tup h3' h4) fun _ z => by cases z)
      · subst e
        cases h4
        exact q _ _ _ (Post.same ok (show Rep _ _ _ _ from .tup h1' (by rw [List.append_nil]; exact h2)) fun _ z => by cases z)
      · exact q _ _ _ (Post.tup ok hp (h2.append h4))
    · cases h
  | _ => cases dy <;> cases h
theorem opd_mul : OpD X (binaryOp .Mult) fun x y => (binD .Mult x y).map newR := by
  intro dx dy r h pins s σ H S env x y v u Q I rx ry ok hx hy q
  cases dx with
  | int i =>
    cases dy <;> first | cases h | skip
    rename_i j
    simp only [binD] at h
    split at h
    · rename_i hc
      cases h
      refine opd_int op_mul I rx ry ok hx hy ?_ q
      rw [Bool.or_eq_true, small64_iff, small64_iff] at hc
      exact hc
    · cases h
  | _ => cases dy <;> cases h

/-! ### comparisons -/
theorem opd_bl {f : Value → Value → Sem Value} {r : R2} (h : OpR X f r) {pins : List (Addr × Obj)} {s : Shared} {σ : L2.St} {H : Hp} {S : Addr → Prop} {env : Env} {x y : V} {v u : Value} {Q : VK} {b : Bool}
    (I : Inv X pins σ H s) (rx : RelV x v) (ry : RelV y u) (ok : EnvOk X.K S σ H env) (q : ∀ z S' H', Post X.K S H σ env (.im (.bool b)) env z S' H' → Q z H') (hr : Q (.bl b) H → r x y H Q) : wpAny (model X.prog X.w) X.A (f v u) (EP X pins σ Q) X.xe s :=
  h pins s σ H x y v u Q I rx ry (hr (q _ _ _ (Post.leaf (F := H) ok (.bl _) rfl)))
abbrev mkB (o : CmpOp) : D → D → Option R := fun x y => (cmpD o x y).map fun b => .im (.bool b)
theorem opd_eq (hu : X.A.units + 65 < cLine) : OpD X (compareOp .Eq) (mkB .Eq) := by
  intro dx dy r h pins s σ H S env x y v u Q I rx ry ok hx hy q
  simp only [mkB, cmpD] at h
  split at h
  · rename_i hc
    cases h
    rw [Bool.and_eq_true] at hc
    exact opd_bl (op_eqD (by omega)) I rx ry ok q fun h => ⟨dx, dy, hx.rep.dp (SeqAt.canLay_of_shaped hc.1), hy.rep.dp (SeqAt.canLay_of_shaped hc.2), hc.1, hc.2, h⟩
  · cases h
theorem opd_ne (hu : X.A.units + 65 < cLine) : OpD X (compareOp .NotEq) (mkB .NotEq) := by
  intro dx dy r h pins s σ H S env x y v u Q I rx ry ok hx hy q
  simp only [mkB, cmpD] at h
  split at h
  · rename_i hc
    cases h
    rw [Bool.and_eq_true] at hc
    exact opd_bl (op_neD (by omega)) I rx ry ok q fun h => ⟨dx, dy, hx.rep.dp (SeqAt.canLay_of_shaped hc.1), hy.rep.dp (SeqAt.canLay_of_shaped hc.2), hc.1, hc.2, h⟩
  · cases h
theorem opd_lt : OpD X (compareOp .Lt) (mkB .Lt) := by
  intro dx dy r h pins s σ H S env x y v u Q I rx ry ok hx hy q
  cases dx <;> cases dy <;> first | cases h | skip
  · exact opd_bl op_lt I rx ry ok q fun h => ⟨_, _, Rep.int_inv hx, Rep.int_inv hy, h⟩
  · exact opd_bl op_lt_str I rx ry ok q fun h => ⟨_, _, Rep.str_inv hx, Rep.str_inv hy, h⟩
theorem opd_gt : OpD X (compareOp .Gt) (mkB .Gt) := by
  intro dx dy r h pins s σ H S env x y v u Q I rx ry ok hx hy q
  cases dx <;> cases dy <;> first | cases h | skip
  · exact opd_bl op_gt I rx ry ok q fun h => ⟨_, _, Rep.int_inv hx, Rep.int_inv hy, h⟩
  · exact opd_bl op_gt_str I rx ry ok q fun h => ⟨_, _, Rep.str_inv hx, Rep.str_inv hy, h⟩
theorem opd_le : OpD X (compareOp .LtE) (mkB .LtE) := by
  intro dx dy r h pins s σ H S env x y v u Q I rx ry ok hx hy q
  cases dx <;> cases dy <;> first | cases h | skip
  exact opd_bl op_le I rx ry ok q fun h => ⟨_, _, Rep.int_inv hx, Rep.int_inv hy, h⟩
theorem opd_ge : OpD X (compareOp .GtE) (mkB .GtE) := by
  intro dx dy r h pins s σ H S env x y v u Q I rx ry ok hx hy q
  cases dx <;> cases dy <;> first | cases h | skip
  exact opd_bl op_ge I rx ry ok q fun h => ⟨_, _, Rep.int_inv hx, Rep.int_inv hy, h⟩
theorem isN_of {K : PySem.W.Frag} {F : Hp} {x : V} {d : D} (h : Rep K F x d) : decide (x = .non) = match d with | .none => true | _ => false := by
  cases h <;> rfl
theorem opd_is : OpD X (compareOp .Is) (mkB .Is) := by
  intro dx dy r h pins s σ H S env x y v u Q I rx ry ok hx hy q
  cases dy with
  | none =>
    cases (Rep.non_inv hy)
    have e := isN_of hx.rep
    refine opd_bl op_isN I rx ry ok (b := decide (x = .non)) (fun z S' H' P => q z S' H' ?_) fun h => ⟨rfl, h⟩
    cases h
    rw [e] at P
    cases dx <;> exact P
  | bool b =>
    cases dx <;> first | cases h | skip
    rename_i a
    refine opd_bl op_isBl I rx ry ok q fun h => ⟨a, b, Rep.bl_inv hx, Rep.bl_inv hy, ?_⟩
    rw [show decide (a = b) = (a == b) by cases a <;> cases b <;> rfl]
    exact h
  | _ => cases dx <;> cases h
theorem opd_isnot : OpD X (compareOp .IsNot) (mkB .IsNot) := by
  intro dx dy r h pins s σ H S env x y v u Q I rx ry ok hx hy q
  cases dy with
  | none =>
    cases (Rep.non_inv hy)
    have e := isN_of hx.rep
    refine opd_bl op_notN I rx ry ok (b := !decide (x = .non)) (fun z S' H' P => q z S' H' ?_) fun h => ⟨rfl, h⟩
    cases h
    rw [e] at P
    cases dx <;> exact P
  | bool b =>
    cases dx <;> first | cases h | skip
    rename_i a
    refine opd_bl op_notBl I rx ry ok q fun h => ⟨a, b, Rep.bl_inv hx, Rep.bl_inv hy, ?_⟩
    rw [show decide (a = b) = (a == b) by cases a <;> cases b <;> rfl]
    exact h
  | _ => cases dx <;> cases h
/-- one sign -/
theorem sign_of {c : Str} (h : c.length = 1) : c = ⟨#[c.cps.getD 0 0]⟩ := by
  obtain ⟨⟨l⟩⟩ := c
  have h' : l.length = 1 := h
  match l, h' with
  | [k], _ => rfl
/-- in, of anything but a dict -/
theorem in_seq (hu : X.A.units + 65 < cLine) {dx dy : D} {b : Bool} (h : inD dx dy = some b) (hd : ∀ kvs, dy ≠ .dict kvs) {pins : List (Addr × Obj)} {s : Shared} {σ : L2.St} {H : Hp} {S : Addr → Prop} {x y : V} {v u : Value} {Q : VK}
    (I : Inv X pins σ H s) (rx : RelV x v) (ry : RelV y u) (hx : RepC X.K S H x dx) (hy : RepC X.K S H y dy) (q : Q (.bl b) H) : wpAny (model X.prog X.w) X.A (compareOp .In v u) (EP X pins σ Q) X.xe s := by
  cases dy with
  | list ds =>
    simp only [inD] at h
    split at h
    · rename_i hc
      cases h
      rw [Bool.and_eq_true] at hc
      exact op_inD hu pins s σ H x y v u Q I rx ry ⟨dx, ds, hx.rep.dp (SeqAt.canLay_of_shaped hc.1), hy.rep.dp (SeqAt.canLay_of_shaped hc.2), hc.1, hc.2, q⟩
    · cases h
  | tuple ds =>
    simp only [inD] at h
    split at h
    · rename_i hc
      cases h
      rw [Bool.and_eq_true] at hc
      obtain ⟨a, vs, rfl, h1, h2⟩ := Rep.tup_inv hy
      refine op_in_seq pins s σ H x _ v u Q I rx ry ⟨a, vs, rfl, .inr (er_full.sqT h1), flatV_of hx.rep hc.1, flat_all h2 hc.2, ?_⟩
      rw [if_neg Bool.false_ne_true, inV_of hx.rep hc.1 h2 hc.2]
      exact q
    · split at h
      · rename_i hc
        cases h
        rw [Bool.and_eq_true] at hc
        obtain ⟨as, r1⟩ := Dp.reads I dx x v (hx.rep.dp (SeqAt.canLay_of_shaped hc.1)) rx
        obtain ⟨bs, r2⟩ := Dp.reads I (.tuple ds) y u (hy.rep.dp (SeqAt.canLay_of_shaped hc.2)) ry
        exact SeqAt.in_tuple_reads r2 r1 (SeqAt.canLay_of_shaped hc.2) (SeqAt.canLay_of_shaped hc.1) (room_in_shaped hc.1 hu) ⟨.bl _, H, I, rfl, q⟩
      · cases h
  | str z =>
    cases dx <;> first | cases h | skip
    rename_i c
    simp only [inD] at h
    split at h
    · rename_i hc
      cases h
      cases (Rep.str_inv hx)
      cases (Rep.str_inv hy)
      have e := sign_of hc
      refine op_in_sign pins s σ H _ _ v u Q I rx ry ⟨c.cps.getD 0 0, z, ?_, rfl, q⟩
      rw [← e]
    · cases h
  | dict kvs => exact absurd rfl (hd kvs)
  | _ => cases h
theorem notIn_seq (hu : X.A.units + 65 < cLine) {dx dy : D} {b : Bool} (h : inD dx dy = some b) (hd : ∀ kvs, dy ≠ .dict kvs) {pins : List (Addr × Obj)} {s : Shared} {σ : L2.St} {H : Hp} {S : Addr → Prop} {x y : V} {v u : Value} {Q : VK}
    (I : Inv X pins σ H s) (rx : RelV x v) (ry : RelV y u) (hx : RepC X.K S H x dx) (hy : RepC X.K S H y dy) (q : Q (.bl (!b)) H) : wpAny (model X.prog X.w) X.A (compareOp .NotIn v u) (EP X pins σ Q) X.xe s := by
  cases dy with
  | list ds =>
    simp only [inD] at h
    split at h
    · rename_i hc
      cases h
      rw [Bool.and_eq_true] at hc
      exact op_notInD hu pins s σ H x y v u Q I rx ry ⟨dx, ds, hx.rep.dp (SeqAt.canLay_of_shaped hc.1), hy.rep.dp (SeqAt.canLay_of_shaped hc.2), hc.1, hc.2, q⟩
    · cases h
  | tuple ds =>
    simp only [inD] at h
    split at h
    · rename_i hc
      cases h
      rw [Bool.and_eq_true] at hc
      obtain ⟨a, vs, rfl, h1, h2⟩ := Rep.tup_inv hy
      refine op_notIn_seq pins s σ H x _ v u Q I rx ry ⟨a, vs, rfl, .inr (er_full.sqT h1), flatV_of hx.rep hc.1, flat_all h2 hc.2, ?_⟩
      rw [if_pos rfl, inV_of hx.rep hc.1 h2 hc.2]
      exact q
    · split at h
      · rename_i hc
        cases h
        rw [Bool.and_eq_true] at hc
        obtain ⟨as, r1⟩ := Dp.reads I dx x v (hx.rep.dp (SeqAt.canLay_of_shaped hc.1)) rx
        obtain ⟨bs, r2⟩ := Dp.reads I (.tuple ds) y u (hy.rep.dp (SeqAt.canLay_of_shaped hc.2)) ry
        exact SeqAt.notIn_tuple_reads r2 r1 (SeqAt.canLay_of_shaped hc.2) (SeqAt.canLay_of_shaped hc.1) (room_in_shaped hc.1 hu) ⟨.bl _, H, I, rfl, q⟩
      · cases h
  | str z =>
    cases dx <;> first | cases h | skip
    rename_i c
    simp only [inD] at h
    split at h
    · rename_i hc
      cases h
      cases (Rep.str_inv hx)
      cases (Rep.str_inv hy)
      have e := sign_of hc
      refine op_notIn_sign pins s σ H _ _ v u Q I rx ry ⟨c.cps.getD 0 0, z, ?_, rfl, q⟩
      rw [← e]
    · cases h
  | dict kvs => exact absurd rfl (hd kvs)
  | _ => cases h
end
end DI

set_option maxRecDepth 100000
/-! DI5: expressions: displays, tests, subscripts, slices, built-in functions. -/
namespace DI
open PySem PySem.Spec PyProof.Rows L2
section
variable {Φ : Fns} {X : Cx} {a b c e lo hi : Expr} {es rest : List Expr} {xa xb xc x xl xh : Xp} {xs : Xps} {pos p2 : Pos}
/-! ### the evaluator, opened -/
theorem ev_inv1 {env env' : Env} {r : R} {f : R → Env → Option (R × Env)} (h : (match ev Φ xa env with
    | some (ra, env1) => f ra env1
    | none => none) = some (r, env')) : ∃ ra env1, ev Φ xa env = some (ra, env1) ∧ f ra env1 = some (r, env') := by
  cases e1 : ev Φ xa env with
  | none => rw [e1] at h; cases h
  | some p1 => exact ⟨p1.1, p1.2, rfl, by rw [e1] at h; exact h⟩
theorem tru_of {K : PySem.W.Frag} {S : Addr → Prop} {H : Hp} {v : V} {d : D} {k : Bool} (h : RepC K S H v d) (ht : truthD d = some k) : TruV K v H k := by
  cases d with
  | none => cases (Rep.non_inv h); cases ht; rfl
  | bool b => cases (Rep.bl_inv h); cases ht; rfl
  | int i => cases (Rep.int_inv h); cases ht; rfl
  | str s =>
    cases (Rep.str_inv h)
    simp only [truthD] at ht
    split at ht
    · rename_i hc
      cases ht
      exact ⟨lim_line hc, rfl⟩
    · cases ht
  | list ds =>
    obtain ⟨a, xs, rfl, h1, h2⟩ := h
    cases ht
    refine .inl ⟨xs, h1, ?_⟩
    cases h2 <;> rfl
  | tuple ds =>
    obtain ⟨a, xs, rfl, h1, h2⟩ := Rep.tup_inv h
    cases ht
    refine .inr (.inl ⟨xs, er_full.sqT h1, ?_⟩)
    cases h2 <;> rfl
  | dict ds => cases ht

/-! ### displays -/
theorem sndS_nil : SndS Φ X [] .nil := .mk fun env ds env' h S σ H ok Q q => by
  simp only [evS] at h
  cases h
  exact anyA_of pa_nil (q _ _ _ Fw.refl ok .nil)
theorem sndS_cons (he : Snd Φ X e x) (hes : SndS Φ X es xs) (hs : starEach (e :: es) X.env = (false, eval e X.env) :: starEach es X.env := by exact star_cons rfl) : SndS Φ X (e :: es) (.cons x xs) := .mk fun env ds env' h S σ H ok Q q => by
  simp only [evS] at h
  cases e1 : ev Φ x env with
  | none => rw [e1] at h; cases h
  | some p1 =>
    obtain ⟨r, en1⟩ := p1
    rw [e1] at h
    dsimp only at h
    cases e2 : sto r en1 with
    | none => rw [e2] at h; cases h
    | some p2 =>
      obtain ⟨d, en2⟩ := p2
      rw [e2] at h
      dsimp only at h
      cases e3 : evS Φ xs en2 with
      | none => rw [e3] at h; cases h
      | some p3 =>
        obtain ⟨ds', en3⟩ := p3
        rw [e3] at h
        cases h
        refine anyA_of (pa_cons pe_any pa_any hs) (he env r en1 e1 S σ H ok _ fun v S1 H1 P => ?_)
        obtain ⟨S2, f2, ok2, rp⟩ := P.sto e2
        exact hes en2 ds' env' e3 S2 σ H1 ok2 _ fun vs S3 H3 f3 ok3 rs => q _ _ _ (f2.trans f3) ok3 (.cons (rp.mono (f3.le ok2)) rs)
theorem sndR_nil : SndR Φ X [] .nil := .mk fun env ds env' h S σ H ok Q q => by
  simp only [evR] at h
  cases h
  exact anyA_of pa_nil (q _ _ _ ⟨Fw.refl, ok, .nil, fun _ h => (by cases h), .nil⟩)
theorem RV.fr_addr {K : PySem.W.Frag} {S : Addr → Prop} {H : Hp} {σ : L2.St} {env : Env} {r : R} {v : V} {rs : List R} {vs : List V} (h : RV K S H σ env r v) : frsA (r :: rs) (v :: vs) = (match r, v with | .fr _, .ref a => [a] | _, _ => []) ++ frsA rs vs := by
  cases r with
  | im d => rfl
  | al i => rfl
  | fr d =>
    obtain ⟨p, rfl, _⟩ := h
    rfl
theorem frsA_dom {K : PySem.W.Frag} {S : Addr → Prop} {H : Hp} {σ : L2.St} {env : Env} (ok : EnvOk K S σ H env) : ∀ {rs : List R} {vs : List V}, RVs K S H σ env rs vs → ∀ a ∈ frsA rs vs, S a
  | _, _, .nil, _, h => by cases h
  | _, _, .cons (r := r) (v := v) (rs := rs) (vs := vs) h t, a, ha => by
    rw [h.fr_addr] at ha
    rcases List.mem_append.mp ha with ha | ha
    · cases r with
      | im d => cases ha
      | al i => cases ha
      | fr d =>
        obtain ⟨p, rfl, hs, _⟩ := h
        have e : a = p := by simpa using ha
        rw [e]
        exact hs
    · exact frsA_dom ok t a ha
theorem sndR_cons (he : Snd Φ X e x) (hes : SndR Φ X es xs) (hs : starEach (e :: es) X.env = (false, eval e X.env) :: starEach es X.env := by exact star_cons rfl) : SndR Φ X (e :: es) (.cons x xs) := .mk fun env ds env' h S σ H ok Q q => by
  simp only [evR] at h
  cases e1 : ev Φ x env with
  | none => rw [e1] at h; cases h
  | some p1 =>
    obtain ⟨r, en1⟩ := p1
    rw [e1] at h
    dsimp only at h
    cases e3 : evR Φ xs en1 with
    | none => rw [e3] at h; cases h
    | some p3 =>
      obtain ⟨rs, en3⟩ := p3
      rw [e3] at h
      cases h
      refine anyA_of (pa_cons pe_any pa_any hs) (he env r en1 e1 S σ H ok _ fun v S1 H1 P => ?_)
      refine hes en1 rs env' e3 S1 σ H1 P.ok _ fun vs S3 H3 P3 => q _ S3 H3 ?_
      have rv' := P.rv.step P.ok P3.fw
      refine ⟨P.fw.trans P3.fw, P3.ok, .cons rv' P3.rv, fun a ha => ?_, ?_⟩
      · rw [rv'.fr_addr] at ha
        rcases List.mem_append.mp ha with ha | ha
        · cases r with
          | im d => cases ha
          | al i => cases ha
          | fr d =>
            obtain ⟨p, rfl, _⟩ := rv'
            have ea : a = p := by simpa using ha
            rw [ea]
            exact P.new _ _ rfl rfl
        · exact none_back P.fw.dm (P3.new a ha)
      · rw [rv'.fr_addr]
        refine List.nodup_append.mpr ⟨?_, P3.nd, fun a ha b hb => ?_⟩
        · cases r with
          | im d => exact .nil
          | al i => exact .nil
          | fr d => obtain ⟨p, rfl, _⟩ := rv'; exact List.nodup_cons.mpr ⟨by simp, .nil⟩
        · cases r with
          | im d => cases ha
          | al i => cases ha
          | fr d =>
            obtain ⟨p, hp, hs1, _⟩ := P.rv
            subst hp
            have ea : a = p := by simpa using ha
            intro z
            subst z
            have := P3.new a hb
            rw [ea] at this
            exact P.ok.dom p hs1 this
theorem snd_tup {k : Nat} (h : SndS Φ X es xs) : Snd Φ X (.Tuple es k pos) (.tup xs) := .mk fun env r env' hv S σ H ok Q q => by
  simp only [ev] at hv
  cases e1 : evS Φ xs env with
  | none => rw [e1] at hv; cases hv
  | some p1 =>
    obtain ⟨ds, en1⟩ := p1
    rw [e1] at hv
    dsimp only at hv
    split at hv
    · rename_i hc
      cases hv
      refine any_of (pe_tup pa_any) (h env ds env' e1 S σ H ok _ fun vs S1 H1 f1 ok1 rs => ⟨lim_line (by rw [rs.length]; exact hc), fun p hp => ?_⟩)
      exact q _ _ _ ((Post.tup ok1 hp rs).after f1)
    · cases hv
theorem snd_lst (h : SndS Φ X es xs) : Snd Φ X (.List es pos) (.lst xs) := .mk fun env r env' hv S σ H ok Q q => by
  simp only [ev] at hv
  cases e1 : evS Φ xs env with
  | none => rw [e1] at hv; cases hv
  | some p1 =>
    obtain ⟨ds, en1⟩ := p1
    rw [e1] at hv
    dsimp only at hv
    split at hv
    · rename_i hc
      cases hv
      refine any_of (pe_lst pa_any) (h env ds env' e1 S σ H ok _ fun vs S1 H1 f1 ok1 rs => ⟨lim_line (by rw [rs.length]; exact hc), fun p hp => ?_⟩)
      exact q _ _ _ ((Post.lst ok1 hp rs).after f1)
    · cases hv
/-- [..] * n -/
theorem snd_rep (h : SndS Φ X es xs) (hb : Snd Φ X b xb) : Snd Φ X (.BinOp (.List es p2) .Mult b pos) (.rep xs xb) := .mk fun env r env' hv S σ H ok Q q => by
  simp only [ev] at hv
  cases e1 : evS Φ xs env with
  | none => rw [e1] at hv; cases hv
  | some p1 =>
    obtain ⟨ds, en1⟩ := p1
    rw [e1] at hv
    dsimp only at hv
    obtain ⟨rn, en2, e2, hv⟩ := ev_inv1 hv
    cases e3 : rn.val en2 with
    | none => rw [e3] at hv; cases hv
    | some d =>
      rw [e3] at hv
      cases d <;> first | cases hv | skip
      rename_i j
      dsimp only at hv
      split at hv
      · rename_i hc
        cases hv
        rw [Bool.and_eq_true, Bool.and_eq_true, Bool.and_eq_true, decide_eq_true_iff, decide_eq_true_iff, decide_eq_true_iff, decide_eq_true_iff] at hc
        obtain ⟨⟨⟨c1, c2⟩, c3⟩, c4⟩ := hc
        refine any_of (pe_op op_rep (pe_lst pa_any) pe_any) (h env ds en1 e1 S σ H ok _ fun vs S1 H1 f1 ok1 rs => ⟨lim_line (by rw [rs.length]; exact c4), fun p hp => ?_⟩)
        have P1 := Post.lst ok1 hp rs
        refine hb en1 rn env' e2 _ σ _ P1.ok _ fun v S2 H2 P2 => ?_
        have rv1 := P1.rv.step P1.ok P2.fw
        obtain ⟨p', ep, hs, hc1, hl1, ho, hm⟩ := rv1
        cases ep
        obtain ⟨ws, hr, hw⟩ := ho
        have hr' : H2 p = some (.lst ws) := by
          rcases hr with hr | ⟨o, hr⟩
          · exact hr
          · rw [hr] at hm; exact hm.elim
        refine ⟨p, j, ws, rfl, Rep.int_inv (P2.rv.rep P2.ok e3), hr', c1, c2, lim_line (by rw [hw.length]; exact c3), fun p3 hp3 => ?_⟩
        exact q _ _ _ ((Post.lst P2.ok hp3 (hw.rep _)).after ((f1.trans P1.fw).trans P2.fw))
      · cases hv

/-! ### tests -/
theorem tst_inv {env env' : Env} {k : Bool} (h : tstX Φ x env = some (k, env')) : ∃ r d, ev Φ x env = some (r, env') ∧ r.val env' = some d ∧ truthD d = some k := by
  simp only [tstX] at h
  cases e1 : ev Φ x env with
  | none => rw [e1] at h; cases h
  | some p1 =>
    obtain ⟨r, en1⟩ := p1
    rw [e1] at h
    dsimp only at h
    cases e2 : r.val en1 with
    | none => rw [e2] at h; cases h
    | some d =>
      rw [e2] at h
      dsimp only [Option.bind] at h
      cases e3 : truthD d with
      | none => rw [e3] at h; cases h
      | some k' =>
        rw [e3] at h
        cases h
        exact ⟨r, d, rfl, e2, e3⟩
theorem tst_of {env env' : Env} {k : Bool} {r : R} {d : D} (h1 : ev Φ x env = some (r, env')) (h2 : r.val env' = some d) (h3 : truthD d = some k) : tstX Φ x env = some (k, env') := by
  simp only [tstX, h1, h2, Option.bind, h3]
/-- any expression whose test is its value's truth -/
theorem sndT_v (h : Snd Φ X e x) (he : ∀ whole, isTrue e X.env whole = (do let v ← whole; standAt e.pos; holding [v] (truthy v)) := by intro _; rfl) : SndT Φ X e x := .mk fun env k env' hv S σ H ok Q q => by
  obtain ⟨r, d, h1, h2, h3⟩ := tst_inv hv
  exact anyT_of (pt_truth pe_any he) (h env r env' h1 S σ H ok _ fun v S1 H1 P => ⟨k, tru_of (P.rv.repC P.ok h2) h3, q _ _ P.fw P.ok⟩)
theorem sndT_w (h : SndW Φ X e x) : SndT Φ X e x := .mk fun env k env' hv S σ H ok Q q => by
  intro pins s I
  exact h env k env' hv S σ H ok Q q _ pins s I
theorem sndT_cmp {o : CmpOp} (hop : OpD X (compareOp o) fun x y => (cmpD o x y).map fun b => .im (.bool b)) (hm : behindInMarks o b = false) (ha : Snd Φ X a xa) (hb : Snd Φ X b xb) : SndT Φ X (.Compare a [o] [b] pos) (.cmp o xa xb) := .mk fun env k env' hv S σ H ok Q q => by
  obtain ⟨r, d, h, h2, h3⟩ := tst_inv hv
  simp only [ev] at h
  obtain ⟨r1, en1, e1, h⟩ := ev_inv1 h
  obtain ⟨r2, en2, e2, h⟩ := ev_inv1 h
  cases f1 : r1.val en2 with
  | none => rw [f1] at h; cases h
  | some dx =>
    cases f2 : r2.val en2 with
    | none => rw [f1, f2] at h; cases h
    | some dy =>
      rw [f1, f2] at h
      dsimp only at h
      cases g : cmpD o dx dy with
      | none => rw [g] at h; cases h
      | some z =>
        rw [g] at h
        cases h
        cases h2
        cases h3
        intro pins s I
        refine wpAny_isTrue_Compare1 ?_ hm
        have sq := seq2 (R := fun x y H2 => ∃ S2, Fw S H σ env S2 H2 σ env' ∧ EnvOk X.K S2 σ H2 env' ∧ RV X.K S2 H2 σ env' r1 x ∧ RV X.K S2 H2 σ env' r2 y) (x := .non) (y := .non) (Q := fun _ _ => True) ha hb e1 e2 ok fun x y S2 H2 h1 h2 h3 h4 => ⟨S2, h1, h2, h3, h4⟩
        refine thn (sq pins s I) fun v s1 ⟨x, H1, I1, rx, q1⟩ => thn (q1 pins s1 I1) fun u s2 ⟨y, H2, I2, ry, S2, h1, h2, h3, h4⟩ => ?_
        refine thn (hop dx dy (.im (.bool k)) (by simp only [g, Option.map_some]) pins s2 σ H2 S2 env' x y v u (fun z H3 => z = .bl k ∧ ∃ S3, Fw S2 H2 σ env' S3 H3 σ env' ∧ EnvOk X.K S3 σ H3 env') I2 rx ry h2 (h3.repC h2 f1) (h4.repC h2 f2) fun z S' H' P => ⟨Rep.bl_inv P.rv, S', P.fw, P.ok⟩) fun c s3 ⟨z, H3, I3, r3, ez, S3, f3, ok3⟩ => ?_
        subst ez
        cases r3
        exact wpAny_truthy_bool ⟨H3, I3, q _ _ (h1.trans f3) ok3⟩
theorem tst_not {env env' : Env} {k : Bool} (h : tstX Φ (.notX xa) env = some (k, env')) : tstX Φ xa env = some (!k, env') := by
  obtain ⟨r, d, h1, h2, h3⟩ := tst_inv h
  simp only [ev] at h1
  obtain ⟨r1, en1, e1, h1⟩ := ev_inv1 h1
  cases f1 : (r1.val en1).bind truthD with
  | none => rw [f1] at h1; cases h1
  | some b =>
    rw [f1] at h1
    cases h1
    cases h2
    cases h3
    simp only [tstX, e1, f1, Bool.not_not]
theorem sndT_not (h : SndT Φ X a xa) : SndT Φ X (.UnaryOp .Not a pos) (.notX xa) := .mk fun env k env' hv S σ H ok Q q => by
  refine anyT_of (pt_not pt_any) (h env (!k) env' (tst_not hv) S σ H ok _ fun S1 H1 f1 ok1 => ?_)
  rw [Bool.not_not]
  exact q _ _ f1 ok1
theorem tst_and {env env' : Env} {k : Bool} (h : tstX Φ (.andX xa xb) env = some (k, env')) : (∃ en1, tstX Φ xa env = some (true, en1) ∧ tstX Φ xb en1 = some (k, env')) ∨ (tstX Φ xa env = some (false, env') ∧ k = false) := by
  obtain ⟨r, d, h1, h2, h3⟩ := tst_inv h
  simp only [ev] at h1
  obtain ⟨r1, en1, e1, h1⟩ := ev_inv1 h1
  cases f1 : (r1.val en1).bind truthD with
  | none => rw [f1] at h1; cases h1
  | some b =>
    rw [f1] at h1
    cases b with
    | true => exact .inl ⟨en1, by simp only [tstX, e1, f1], tst_of h1 h2 h3⟩
    | false =>
      cases h1
      rw [h2] at f1
      have : truthD d = some false := f1
      rw [h3] at this
      cases this
      exact .inr ⟨by simp only [tstX, e1, h2, Option.bind, h3], rfl⟩
theorem tst_or {env env' : Env} {k : Bool} (h : tstX Φ (.orX xa xb) env = some (k, env')) : (∃ en1, tstX Φ xa env = some (false, en1) ∧ tstX Φ xb en1 = some (k, env')) ∨ (tstX Φ xa env = some (true, env') ∧ k = true) := by
  obtain ⟨r, d, h1, h2, h3⟩ := tst_inv h
  simp only [ev] at h1
  obtain ⟨r1, en1, e1, h1⟩ := ev_inv1 h1
  cases f1 : (r1.val en1).bind truthD with
  | none => rw [f1] at h1; cases h1
  | some b =>
    rw [f1] at h1
    cases b with
    | false => exact .inl ⟨en1, by simp only [tstX, e1, f1], tst_of h1 h2 h3⟩
    | true =>
      cases h1
      rw [h2] at f1
      have : truthD d = some true := f1
      rw [h3] at this
      cases this
      exact .inr ⟨by simp only [tstX, e1, h2, Option.bind, h3], rfl⟩
theorem sndW_and1 (h : SndT Φ X a xa) : SndW Φ X (.BoolOp .And [a] pos) xa := .mk fun env k env' hv S σ H ok Q q => by
  intro wh pins s I
  exact (pw_and1 pt_any).run wh pins s σ H Q I (h env k env' hv S σ H ok Q q)
theorem sndW_or1 (h : SndT Φ X a xa) : SndW Φ X (.BoolOp .Or [a] pos) xa := .mk fun env k env' hv S σ H ok Q q => by
  intro wh pins s I
  exact (pw_or1 pt_any).run wh pins s σ H Q I (h env k env' hv S σ H ok Q q)
theorem sndW_and (ha : SndT Φ X a xa) (hb : SndW Φ X (.BoolOp .And (b :: rest) pos) xb) : SndW Φ X (.BoolOp .And (a :: b :: rest) pos) (.andX xa xb) := .mk fun env k env' hv S σ H ok Q q => by
  intro wh pins s I
  refine (pw_and pt_any pw_any).run wh pins s σ H Q I ?_
  rcases tst_and hv with ⟨en1, h1, h2⟩ | ⟨h1, h2⟩
  · refine ha env true en1 h1 S σ H ok _ fun S1 H1 f1 ok1 => ?_
    rw [if_pos rfl]
    exact hb en1 k env' h2 S1 σ H1 ok1 Q fun S2 H2 f2 ok2 => q _ _ (f1.trans f2) ok2
  · subst h2
    refine ha env false env' h1 S σ H ok _ fun S1 H1 f1 ok1 => ?_
    rw [if_neg Bool.false_ne_true]
    exact q _ _ f1 ok1
theorem sndW_or (ha : SndT Φ X a xa) (hb : SndW Φ X (.BoolOp .Or (b :: rest) pos) xb) : SndW Φ X (.BoolOp .Or (a :: b :: rest) pos) (.orX xa xb) := .mk fun env k env' hv S σ H ok Q q => by
  intro wh pins s I
  refine (pw_or pt_any pw_any).run wh pins s σ H Q I ?_
  rcases tst_or hv with ⟨en1, h1, h2⟩ | ⟨h1, h2⟩
  · refine ha env false en1 h1 S σ H ok _ fun S1 H1 f1 ok1 => ?_
    rw [if_neg Bool.false_ne_true]
    exact hb en1 k env' h2 S1 σ H1 ok1 Q fun S2 H2 f2 ok2 => q _ _ (f1.trans f2) ok2
  · subst h2
    refine ha env true env' h1 S σ H ok _ fun S1 H1 f1 ok1 => ?_
    rw [if_pos rfl]
    exact q _ _ f1 ok1
/-! ### .. as values -/
theorem snd_and1 (h : Snd Φ X a xa) : Snd Φ X (.BoolOp .And [a] pos) xa := .mk fun env r env' hv S σ H ok Q q => any_of (pe_one pe_any) (h env r env' hv S σ H ok Q q)
theorem snd_or1 (h : Snd Φ X a xa) : Snd Φ X (.BoolOp .Or [a] pos) xa := .mk fun env r env' hv S σ H ok Q q => any_of (pe_one pe_any) (h env r env' hv S σ H ok Q q)
theorem bind_inv {o : Option D} {k : Bool} (h : o.bind truthD = some k) : ∃ d, o = some d ∧ truthD d = some k := by
  cases o with
  | none => cases h
  | some d => exact ⟨d, rfl, h⟩
theorem snd_and (ha : Snd Φ X a xa) (hb : Snd Φ X (.BoolOp .And (b :: rest) pos) xb) : Snd Φ X (.BoolOp .And (a :: b :: rest) pos) (.andX xa xb) := .mk fun env r env' hv S σ H ok Q q => by
  simp only [ev] at hv
  obtain ⟨r1, en1, e1, hv⟩ := ev_inv1 hv
  cases f1 : (r1.val en1).bind truthD with
  | none => rw [f1] at hv; cases hv
  | some k =>
    obtain ⟨d, g1, g2⟩ := bind_inv f1
    rw [f1] at hv
    refine any_of (pe_andT pe_any pe_any) (ha env r1 en1 e1 S σ H ok _ fun v S1 H1 P => ⟨k, tru_of (P.rv.repC P.ok g1) g2, ?_⟩)
    cases k with
    | true =>
      rw [if_pos rfl]
      exact hb en1 r env' hv S1 σ H1 P.ok Q fun v2 S2 H2 P2 => q _ _ _ (P2.after P.fw)
    | false =>
      rw [if_neg Bool.false_ne_true]
      cases hv
      exact q _ _ _ P
theorem snd_or (ha : Snd Φ X a xa) (hb : Snd Φ X (.BoolOp .Or (b :: rest) pos) xb) : Snd Φ X (.BoolOp .Or (a :: b :: rest) pos) (.orX xa xb) := .mk fun env r env' hv S σ H ok Q q => by
  simp only [ev] at hv
  obtain ⟨r1, en1, e1, hv⟩ := ev_inv1 hv
  cases f1 : (r1.val en1).bind truthD with
  | none => rw [f1] at hv; cases hv
  | some k =>
    obtain ⟨d, g1, g2⟩ := bind_inv f1
    rw [f1] at hv
    refine any_of (pe_orT pe_any pe_any) (ha env r1 en1 e1 S σ H ok _ fun v S1 H1 P => ⟨k, tru_of (P.rv.repC P.ok g1) g2, ?_⟩)
    cases k with
    | false =>
      rw [if_neg Bool.false_ne_true]
      exact hb en1 r env' hv S1 σ H1 P.ok Q fun v2 S2 H2 P2 => q _ _ _ (P2.after P.fw)
    | true =>
      rw [if_pos rfl]
      cases hv
      exact q _ _ _ P
theorem snd_not (ha : Snd Φ X a xa) : Snd Φ X (.UnaryOp .Not a pos) (.notX xa) := .mk fun env r env' hv S σ H ok Q q => by
  simp only [ev] at hv
  obtain ⟨r1, en1, e1, hv⟩ := ev_inv1 hv
  cases f1 : (r1.val en1).bind truthD with
  | none => rw [f1] at hv; cases hv
  | some k =>
    obtain ⟨d, g1, g2⟩ := bind_inv f1
    rw [f1] at hv
    cases hv
    exact any_of (pe_notT pe_any) (ha env r1 env' e1 S σ H ok _ fun v S1 H1 P => ⟨k, tru_of (P.rv.repC P.ok g1) g2, q _ _ _ ((Post.leaf (F := H1) P.ok (.bl _) rfl).after P.fw)⟩)
theorem snd_ite (ht : SndT Φ X c xc) (ha : Snd Φ X a xa) (hb : Snd Φ X b xb) : Snd Φ X (.IfExp c a b pos) (.ite xc xa xb) := .mk fun env r env' hv S σ H ok Q q => by
  simp only [ev] at hv
  obtain ⟨r1, en1, e1, hv⟩ := ev_inv1 hv
  cases f1 : (r1.val en1).bind truthD with
  | none => rw [f1] at hv; cases hv
  | some k =>
    have ts : tstX Φ xc env = some (k, en1) := by simp only [tstX, e1, f1]
    rw [f1] at hv
    refine any_of (pe_ifExp pt_any pe_any pe_any) (ht env k en1 ts S σ H ok _ fun S1 H1 g1 ok1 => ?_)
    cases k with
    | true =>
      rw [if_pos rfl]
      exact ha en1 r env' hv S1 σ H1 ok1 Q fun v2 S2 H2 P2 => q _ _ _ (P2.after g1)
    | false =>
      rw [if_neg Bool.false_ne_true]
      exact hb en1 r env' hv S1 σ H1 ok1 Q fun v2 S2 H2 P2 => q _ _ _ (P2.after g1)
theorem snd_neg (ha : Snd Φ X a xa) : Snd Φ X (.UnaryOp .USub a pos) (.neg xa) := .mk fun env r env' hv S σ H ok Q q => by
  simp only [ev] at hv
  obtain ⟨r1, en1, e1, hv⟩ := ev_inv1 hv
  cases f1 : r1.val en1 with
  | none => rw [f1] at hv; cases hv
  | some d =>
    rw [f1] at hv
    cases d <;> first | cases hv | skip
    exact any_of (pe_un un_neg pe_any) (ha env r1 env' e1 S σ H ok _ fun v S1 H1 P => ⟨_, Rep.int_inv (P.rv.rep P.ok f1), q _ _ _ ((Post.leaf (F := H1) P.ok (.int _) rfl).after P.fw)⟩)
end
end DI

set_option maxRecDepth 100000
/-! DI6: subscripts, slices, built-in functions, methods of lists, calls. -/
namespace DI
open PySem PySem.Spec PyProof.Rows L2
section
variable {Φ : Fns} {X : Cx} {a b c e lo hi : Expr} {es rest : List Expr} {xa xb xc x xl xh : Xp} {xs : Xps} {pos p2 : Pos}
theorem atI_reps {K : PySem.W.Frag} {F : Hp} {vs : List V} {ds : List D} {i : Int} {d : D} (h : Reps K F vs ds) (e : atI ds i = some d) : ∃ v, atI vs i = some v ∧ Rep K F v d := by
  unfold atI at e ⊢
  rw [h.length]
  cases q : ixN ds.length i with
  | none => rw [q] at e; cases e
  | some j =>
    rw [q] at e
    exact h.get e
theorem ixd_list {K : PySem.W.Frag} {dx dy dz : D} {S : Addr → Prop} {H : Hp} {x y : V} {Q : VK} (h : ixD dx dy = some dz) (hd : ∀ kvs, dx ≠ .dict kvs) (hx : RepC K S H x dx) (hy : RepC K S H y dy) (q : ∀ z, Rep K (er S H) z dz → Q z H) : rIx K x y H Q := by
  cases dx with
  | list ds =>
    cases dy <;> first | cases h | skip
    obtain ⟨a, vs, rfl, h1, h2⟩ := hx
    obtain ⟨v, e1, e2⟩ := atI_reps h2 h
    exact .inl ⟨a, vs, _, v, rfl, Rep.int_inv hy, h1, e1, q v e2⟩
  | tuple ds =>
    cases dy <;> first | cases h | skip
    obtain ⟨a, vs, rfl, h1, h2⟩ := Rep.tup_inv hx
    obtain ⟨v, e1, e2⟩ := atI_reps h2 h
    exact .inr (.inl ⟨a, vs, _, v, rfl, Rep.int_inv hy, er_full.sqT h1, e1, q v e2⟩)
  | str s =>
    cases dy <;> first | cases h | skip
    simp only [ixD] at h
    split at h
    · rename_i hc
      cases e : atI s.cps.toList _ with
      | none => rw [e] at h; cases h
      | some k =>
        rw [e] at h
        cases h
        exact .inr (.inr ⟨s, _, k, Rep.str_inv hx, Rep.int_inv hy, lim_line hc, e, q _ (.str _)⟩)
    · cases h
  | dict kvs => exact absurd rfl (hd kvs)
  | _ => cases h
/-- a[b], a no dict -/
theorem ev_ix_inv {env env' : Env} {r : R} (h : ev Φ (.ix xa xb) env = some (r, env')) : ∃ r1 en1 r2 dx dy dz, ev Φ xa env = some (r1, en1) ∧ ev Φ xb en1 = some (r2, env') ∧ r1.val env' = some dx ∧ r2.val env' = some dy ∧ ixD dx dy = some dz ∧ r = .im dz := by
  simp only [ev] at h
  obtain ⟨r1, en1, e1, h⟩ := ev_inv1 h
  obtain ⟨r2, en2, e2, h⟩ := ev_inv1 h
  cases f1 : r1.val en2 with
  | none => rw [f1] at h; cases h
  | some dx =>
    cases f2 : r2.val en2 with
    | none => rw [f1, f2] at h; cases h
    | some dy =>
      rw [f1, f2] at h
      dsimp only at h
      cases g : ixD dx dy with
      | none => rw [g] at h; cases h
      | some z =>
        rw [g] at h
        cases h
        exact ⟨r1, en1, r2, dx, dy, z, e1, e2, f1, f2, g, rfl⟩
/-! ### dicts that are read -/
theorem key_of {K : PySem.W.Frag} {F : Hp} {v : V} {d : D} (h : Rep K F v d) (hk : isKey d = true) : ∃ k, d = kD k ∧ v = kV k := by
  cases h <;> first | cases hk | skip
  · rename_i i
    exact ⟨.inl i, rfl, rfl⟩
  · rename_i s
    exact ⟨.inr s, rfl, rfl⟩
theorem eqv_key (k j : Key) : PyData.eqv (kD k) (kD j) = decide (k = j) := by
  cases k <;> cases j
  · rename_i a b
    rw [key_ll]
    rfl
  · rw [key_lr]
    rfl
  · rw [key_rl]
    rfl
  · rename_i a b
    rw [key_rr]
    simp only [kD, PyData.eqv]
    by_cases e : a = b <;> simp [e]
theorem look_rep {K : PySem.W.Frag} {F : Hp} {k : Key} : ∀ {kvs : List (Key × V)} {ds : List (D × D)}, RepKV K F kvs ds → ∀ {d : D}, lookD ds (kD k) = some d → ∃ v, valV kvs k = some v ∧ Rep K F v d
  | _, _, .nil, d, h => by cases h
  | _, _, .cons (k := j) (v := w) (d := e) (vs := vs) (ds := ds) h r, d, hl => by
    simp only [lookD] at hl
    rw [eqv_key] at hl
    by_cases q : j = k
    · rw [if_pos (decide_eq_true q)] at hl
      cases hl
      refine ⟨w, ?_, h⟩
      unfold valV
      rw [List.find?_cons_of_pos (by simpa using q)]
      rfl
    · rw [if_neg (by simpa using q)] at hl
      obtain ⟨v, h1, h2⟩ := look_rep r hl
      refine ⟨v, ?_, h2⟩
      unfold valV at h1 ⊢
      rw [List.find?_cons_of_neg (by simpa using q)]
      exact h1
/-! tuple keys -/
theorem keys_of {K : PySem.W.Frag} {F : Hp} : ∀ {vs : List V} {ds : List D}, Reps K F vs ds → ds.all isKey = true → ∃ ks : List Key, ds = ks.map kD ∧ vs = ks.map kV
  | _, _, .nil, _ => ⟨[], rfl, rfl⟩
  | _, _, .cons h r, hk => by
    rw [List.all_cons, Bool.and_eq_true] at hk
    obtain ⟨k, rfl, rfl⟩ := key_of h hk.1
    obtain ⟨ks, rfl, rfl⟩ := keys_of r hk.2
    exact ⟨k :: ks, rfl, rfl⟩
theorem keyT_of {K : PySem.W.Frag} {F : Hp} {v : V} {d : D} (h : Rep K F v d) (hk : isKeyT d = true) : ∃ (b : Addr) (ks : List Key), d = .tuple (ks.map kD) ∧ v = .ref b ∧ F b = some (.tup (ks.map kV)) := by
  cases h <;> first | (simp [isKeyT] at hk; done) | skip
  rename_i a xs ds h1 h2
  obtain ⟨ks, rfl, rfl⟩ := keys_of h2 hk
  exact ⟨a, ks, rfl, rfl, h1⟩
theorem eqv_keyT : ∀ j k : List Key, PyData.eqv (.tuple (j.map kD)) (.tuple (k.map kD)) = decide (j = k) := by
  have all : ∀ j k : List Key, PyData.eqvAll (j.map kD) (k.map kD) = decide (j = k) := by
    intro j
    induction j with
    | nil => intro k; cases k <;> simp [PyData.eqvAll]
    | cons a j ih =>
      intro k
      cases k with
      | nil => simp [PyData.eqvAll]
      | cons b k =>
        simp only [List.map_cons, PyData.eqvAll, ih, eqv_key, List.cons.injEq, Bool.decide_and]
  intro j k
  simp only [PyData.eqv, all]
theorem any_repT {K : PySem.W.Frag} {F : Hp} {k : List Key} : ∀ {kvs : List (List Key × V)} {ds : List (D × D)}, RepTV K F kvs ds → (ds.any fun kv => PyData.eqv kv.1 (.tuple (k.map kD))) = (valV kvs k).isSome
  | _, _, .nil => rfl
  | _, _, .cons (k := j) (v := w) (d := e) (vs := vs) (ds := ds) h r => by
    rw [List.any_cons, any_repT r, eqv_keyT]
    unfold valV
    by_cases q : j = k
    · rw [List.find?_cons_of_pos (by simpa using q), decide_eq_true q]
      rfl
    · rw [List.find?_cons_of_neg (by simpa using q), decide_eq_false q]
      rfl
/-- a[b] -/
theorem snd_ix (hu : X.A.units + 65 < cLine) (hs : PlainIx b) (ha : Snd Φ X a xa) (hb : Snd Φ X b xb) : Snd Φ X (.Subscript a b pos) (.ix xa xb) := .mk fun env r env' h S σ H ok Q q => by
  obtain ⟨r1, en1, r2, dx, dy, dz, e1, e2, f1, f2, g, rfl⟩ := ev_ix_inv h
  by_cases hd : ∃ kvs, dx = .dict kvs
  · obtain ⟨kvs, rfl⟩ := hd
    refine any_of (pe_dget (by omega) pe_any pe_any hs) (seq2 (x := .non) (y := .non) (Q := Q) ha hb e1 e2 ok fun x y S2 H2 h1 h2 h3 h4 => ?_)
    simp only [ixD] at g
    split at g
    · rename_i hc
      rw [Bool.and_eq_true] at hc
      obtain ⟨p, ks, rfl, hr, hk⟩ := RepC.dic (h3.repC h2 f1) hc.1
      obtain ⟨k, rfl, ey⟩ := key_of (h4.rep h2 f2) hc.2
      subst ey
      obtain ⟨v, g1, g2⟩ := look_rep hk g
      exact ⟨p, v, rfl, .inl ⟨ks, k, hr, rfl, g1.symm⟩, q _ _ _ ((Post.same h2 (show RV _ _ _ _ _ (.im dz) v from g2) fun _ z => by cases z).after h1)⟩
    · cases g
  · exact any_of (pe_ix ix_seq pe_any pe_any hs) (seq2 (x := .non) (y := .non) (Q := Q) ha hb e1 e2 ok fun x y S2 H2 h1 h2 h3 h4 =>
      ixd_list g (fun kvs z => hd ⟨kvs, z⟩) (h3.repC h2 f1) (h4.repC h2 f2) fun z hz => q _ _ _ ((Post.same h2 (show RV _ _ _ _ _ (.im dz) z from hz) fun _ z => by cases z).after h1))
/-! ### in, not in -/
theorem any_rep {K : PySem.W.Frag} {F : Hp} {k : Key} : ∀ {kvs : List (Key × V)} {ds : List (D × D)}, RepKV K F kvs ds → (ds.any fun kv => PyData.eqv kv.1 (kD k)) = (valV kvs k).isSome
  | _, _, .nil => rfl
  | _, _, .cons (k := j) (v := w) (d := e) (vs := vs) (ds := ds) h r => by
    rw [List.any_cons, any_rep r, eqv_key]
    unfold valV
    by_cases q : j = k
    · rw [List.find?_cons_of_pos (by simpa using q), decide_eq_true q]
      rfl
    · rw [List.find?_cons_of_neg (by simpa using q), decide_eq_false q]
      rfl
theorem ev_cmp_inv {o : CmpOp} {env env' : Env} {r : R} (h : ev Φ (.cmp o xa xb) env = some (r, env')) : ∃ r1 en1 r2 dx dy z, ev Φ xa env = some (r1, en1) ∧ ev Φ xb en1 = some (r2, env') ∧ r1.val env' = some dx ∧ r2.val env' = some dy ∧ cmpD o dx dy = some z ∧ r = .im (.bool z) := by
  simp only [ev] at h
  obtain ⟨r1, en1, e1, h⟩ := ev_inv1 h
  obtain ⟨r2, en2, e2, h⟩ := ev_inv1 h
  cases f1 : r1.val en2 with
  | none => rw [f1] at h; cases h
  | some dx =>
    cases f2 : r2.val en2 with
    | none => rw [f1, f2] at h; cases h
    | some dy =>
      rw [f1, f2] at h
      dsimp only at h
      cases g : cmpD o dx dy with
      | none => rw [g] at h; cases h
      | some z =>
        rw [g] at h
        cases h
        exact ⟨r1, en1, r2, dx, dy, z, e1, e2, f1, f2, g, rfl⟩
/-- the rule of in, for what a comparison wants of both sides -/
theorem in_any (hu : X.A.units + 65 < cLine) (neg : Bool) (ha : Snd Φ X a xa) (hb : Snd Φ X b xb) {env env' : Env} {dx dy : D} {z : Bool} {r1 r2 : R} {en1 : Env} (e1 : ev Φ xa env = some (r1, en1)) (e2 : ev Φ xb en1 = some (r2, env')) (f1 : r1.val env' = some dx) (f2 : r2.val env' = some dy) (g : inD dx dy = some z)
    {S : Addr → Prop} {σ : L2.St} {H : Hp} (ok : EnvOk X.K S σ H env) {Q : VK} (q : ∀ v S' H', Post X.K S H σ env (.im (.bool (if neg then !z else z))) env' v S' H' → Q v H') {pins : List (Addr × Obj)} {s : Shared} (I : Inv X pins σ H s) :
    wpAny (model X.prog X.w) X.A (eval a X.env) (fun v s₁ => wpAny (model X.prog X.w) X.A (eval b X.env) (fun u s₂ => wpAny (model X.prog X.w) X.A (compareOp (if neg then .NotIn else .In) v u) (EP X pins σ Q) X.xe s₂) X.xe s₁) X.xe s := by
  have sq := seq2 (R := fun x y H2 => ∃ S2, Fw S H σ env S2 H2 σ env' ∧ EnvOk X.K S2 σ H2 env' ∧ RV X.K S2 H2 σ env' r1 x ∧ RV X.K S2 H2 σ env' r2 y) (x := .non) (y := .non) (Q := Q) ha hb e1 e2 ok fun x y S2 H2 h1 h2 h3 h4 => ⟨S2, h1, h2, h3, h4⟩
  have fin : ∀ S2 H2, Fw S H σ env S2 H2 σ env' → EnvOk X.K S2 σ H2 env' → Q (.bl (if neg then !z else z)) H2 := fun S2 H2 h1 h2 => q _ _ _ ((Post.leaf (F := H2) h2 (.bl _) rfl).after h1)
  by_cases hd : ∃ kvs, dy = .dict kvs
  · obtain ⟨kvs, rfl⟩ := hd
    have main : ∀ x y S2 H2, Fw S H σ env S2 H2 σ env' → EnvOk X.K S2 σ H2 env' → RV X.K S2 H2 σ env' r1 x → RV X.K S2 H2 σ env' r2 y → ∃ p ov, y = .ref p ∧ DGet H2 p x ov ∧ ov.isSome = z := fun x y S2 H2 h1 h2 h3 h4 => by
      simp only [inD] at g
      split at g
      · rename_i hc
        cases g
        rw [Bool.and_eq_true] at hc
        obtain ⟨p, ks, rfl, hr, hk⟩ := RepC.dic (h4.repC h2 f2) hc.1
        obtain ⟨k, rfl, ey⟩ := key_of (h3.rep h2 f1) hc.2
        subst ey
        exact ⟨p, _, rfl, .inl ⟨ks, k, hr, rfl, rfl⟩, (any_rep hk).symm⟩
      · split at g
        · rename_i hc
          cases g
          rw [Bool.and_eq_true] at hc
          obtain ⟨p, ks, rfl, hr, hk⟩ := RepC.dicT (h4.repC h2 f2) hc.1
          obtain ⟨b, k, rfl, rfl, eb⟩ := keyT_of (h3.rep h2 f1) hc.2
          exact ⟨p, _, rfl, .inr ⟨ks, k, b, hr, rfl, eb, rfl⟩, (any_repT hk).symm⟩
        · cases g
    cases neg with
    | false =>
      refine (pc_din (by omega) pe_any pe_any).run pins s σ H Q I (seq2 (x := .non) (y := .non) (Q := Q) ha hb e1 e2 ok fun x y S2 H2 h1 h2 h3 h4 => ?_)
      obtain ⟨p, ov, rfl, g1, g2⟩ := main x y S2 H2 h1 h2 h3 h4
      refine ⟨p, ov, rfl, g1, ?_⟩
      rw [g2]
      exact fin S2 H2 h1 h2
    | true =>
      refine (pc_dnotin (by omega) pe_any pe_any).run pins s σ H Q I (seq2 (x := .non) (y := .non) (Q := Q) ha hb e1 e2 ok fun x y S2 H2 h1 h2 h3 h4 => ?_)
      obtain ⟨p, ov, rfl, g1, g2⟩ := main x y S2 H2 h1 h2 h3 h4
      refine ⟨p, ov, rfl, g1, ?_⟩
      rw [g2]
      exact fin S2 H2 h1 h2
  · refine thn (sq pins s I) fun v s1 ⟨x, H1, I1, rx, q1⟩ => thn (q1 pins s1 I1) fun u s2 ⟨y, H2, I2, ry, S2, h1, h2, h3, h4⟩ => ?_
    cases neg with
    | false => exact in_seq hu g (fun kvs e => hd ⟨kvs, e⟩) I2 rx ry (h3.repC h2 f1) (h4.repC h2 f2) (fin S2 H2 h1 h2)
    | true => exact notIn_seq hu g (fun kvs e => hd ⟨kvs, e⟩) I2 rx ry (h3.repC h2 f1) (h4.repC h2 f2) (fin S2 H2 h1 h2)
theorem snd_in (hu : X.A.units + 65 < cLine) (hm : behindInMarks .In b = false) (ha : Snd Φ X a xa) (hb : Snd Φ X b xb) : Snd Φ X (.Compare a [.In] [b] pos) (.cmp .In xa xb) := .mk fun env r env' h S σ H ok Q q => by
  obtain ⟨r1, en1, r2, dx, dy, z, e1, e2, f1, f2, g, rfl⟩ := ev_cmp_inv h
  intro pins s I
  exact wpAny_Compare1 (in_any hu false ha hb e1 e2 f1 f2 g ok q I) hm
theorem snd_notin (hu : X.A.units + 65 < cLine) (hm : behindInMarks .NotIn b = false) (ha : Snd Φ X a xa) (hb : Snd Φ X b xb) : Snd Φ X (.Compare a [.NotIn] [b] pos) (.cmp .NotIn xa xb) := .mk fun env r env' h S σ H ok Q q => by
  obtain ⟨r1, en1, r2, dx, dy, z, e1, e2, f1, f2, g, rfl⟩ := ev_cmp_inv h
  intro pins s I
  simp only [cmpD] at g
  cases g' : inD dx dy with
  | none => rw [g'] at g; cases g
  | some z' =>
    rw [g'] at g
    cases g
    exact wpAny_Compare1 (in_any hu true ha hb e1 e2 f1 f2 g' ok q I) hm
theorem tst_cmp_inv {o : CmpOp} {env env' : Env} {k : Bool} (h : tstX Φ (.cmp o xa xb) env = some (k, env')) : ∃ r1 en1 r2 dx dy, ev Φ xa env = some (r1, en1) ∧ ev Φ xb en1 = some (r2, env') ∧ r1.val env' = some dx ∧ r2.val env' = some dy ∧ cmpD o dx dy = some k := by
  obtain ⟨r, d, h1, h2, h3⟩ := tst_inv h
  obtain ⟨r1, en1, r2, dx, dy, z, e1, e2, f1, f2, g, rfl⟩ := ev_cmp_inv h1
  cases h2
  cases h3
  exact ⟨r1, en1, r2, dx, dy, e1, e2, f1, f2, g⟩
theorem sndT_in (hu : X.A.units + 65 < cLine) (hm : behindInMarks .In b = false) (ha : Snd Φ X a xa) (hb : Snd Φ X b xb) : SndT Φ X (.Compare a [.In] [b] pos) (.cmp .In xa xb) := .mk fun env k env' h S σ H ok Q q => by
  obtain ⟨r1, en1, r2, dx, dy, e1, e2, f1, f2, g⟩ := tst_cmp_inv h
  intro pins s I
  refine wpAny_isTrue_Compare1 (thn (in_any hu false ha hb e1 e2 f1 f2 g ok (Q := fun v H' => v = .bl k ∧ ∃ S', Fw S H σ env S' H' σ env' ∧ EnvOk X.K S' σ H' env') (fun v S' H' P => ⟨Rep.bl_inv P.rv, S', P.fw, P.ok⟩) I) fun v s1 h1 => thn h1 fun u s2 h2 => thn h2 fun c s3 ⟨zv, H3, I3, r3, ez, S3, f3, ok3⟩ => ?_) hm
  subst ez
  cases r3
  exact wpAny_truthy_bool ⟨H3, I3, q _ _ f3 ok3⟩
theorem sndT_notin (hu : X.A.units + 65 < cLine) (hm : behindInMarks .NotIn b = false) (ha : Snd Φ X a xa) (hb : Snd Φ X b xb) : SndT Φ X (.Compare a [.NotIn] [b] pos) (.cmp .NotIn xa xb) := .mk fun env k env' h S σ H ok Q q => by
  obtain ⟨r1, en1, r2, dx, dy, e1, e2, f1, f2, g⟩ := tst_cmp_inv h
  intro pins s I
  simp only [cmpD] at g
  cases g' : inD dx dy with
  | none => rw [g'] at g; cases g
  | some z' =>
    rw [g'] at g
    cases g
    refine wpAny_isTrue_Compare1 (thn (in_any hu true ha hb e1 e2 f1 f2 g' ok (Q := fun v H' => v = .bl (!z') ∧ ∃ S', Fw S H σ env S' H' σ env' ∧ EnvOk X.K S' σ H' env') (fun v S' H' P => ⟨Rep.bl_inv P.rv, S', P.fw, P.ok⟩) I) fun v s1 h1 => thn h1 fun u s2 h2 => thn h2 fun c s3 ⟨zv, H3, I3, r3, ez, S3, f3, ok3⟩ => ?_) hm
    subst ez
    cases r3
    exact wpAny_truthy_bool ⟨H3, I3, q _ _ f3 ok3⟩
end
end DI

set_option maxRecDepth 100000
/-! DI7: slices, built-in functions, methods of lists. -/
namespace DI
open PySem PySem.Spec PyProof.Rows L2
/-! min of two texts -/
theorem cmpOf_strs {prog : Program} {w : World} {A : Around} (x y : Str) (t u : Tok) :
    CmpOf prog w A .Lt (fun i v => (#[Value.str x t, Value.str y u] : Array Value)[i]? = some v) (fun i j => strLt (if i = 0 then x else y) (if j = 0 then x else y)) := fun i j vi vj s Q E hi hj h => by
  have key : ∀ (i : Nat) (v : Value), (#[Value.str x t, Value.str y u] : Array Value)[i]? = some v → ∃ t', v = .str (if i = 0 then x else y) t' := fun i v hv => by
    match i, hv with
    | 0, hv => simp at hv; exact ⟨t, by simp [hv]⟩
    | 1, hv => simp at hv; exact ⟨u, by simp [hv]⟩
    | i + 2, hv => simp at hv
  obtain ⟨t1, rfl⟩ := key i vi hi
  obtain ⟨t2, rfl⟩ := key j vj hj
  exact (PyProof.Rows.lt_str h : wpAny (model prog w) A (compareOp .Lt (.str _ t1) (.str _ t2)) Q E s)
theorem min_two_strs {prog : Program} {w : World} {A : Around} {E : Value → Shared → Prop} {s : Shared} {Q : Value → Shared → Prop} {x y : Str} {t u : Tok} (hh : A.handled = none)
    (h : ∀ h' tk, (∀ c o, s.heap.get? c = some o → h'.get? c = some o) → Q (if strLt y x then .str y u else .str x t) { s with heap := h', toks := tk }) :
    wpAny (model prog w) A (call (.builtin "min") [.str x t, .str y u]) Q E s := by
  have hT : (s.heap.push { cls := .type "tuple", data := .seq #[.str x t, .str y u] }).IsTuple s.heap.objs.size #[.str x t, .str y u] := ⟨_, Heap.get?_push_size _ rfl, rfl, 0, rfl⟩
  refine call_min_two (wpAny_pyIter_tuple hT ?_)
  have hsz : (s.heap.push { cls := .type "tuple", data := .seq #[.str x t, .str y u] }).objs.size = s.heap.objs.size + 1 := Heap.size_push ..
  refine ⟨_, [_, s.heap.objs.size], [_], _, _, _, _, rfl, Walks.tuple (A := A.in1) hh _ s.heap.objs.size (by rw [hsz]; exact Nat.ne_of_lt (Nat.lt_succ_self _)) #[.str x t, .str y u],
    ⟨⟨_, Heap.get?_push_size _ rfl, rfl, rfl⟩, hT.push _⟩, fun c hc => ?_, by simp, cmpOf_strs x y t u, fun v h' tk hP hk => ?_⟩
  · show c < ((s.heap.push _).push _).objs.size
    rw [Heap.size_push, hsz]
    rcases List.mem_cons.mp hc with rfl | hc
    · rw [hsz]; exact Nat.lt_succ_self _
    · rcases List.mem_cons.mp hc with rfl | hc
      · exact Nat.lt_succ_of_lt (Nat.lt_succ_self _)
      · cases hc
  · have hold : ∀ c o, s.heap.get? c = some o → h'.get? c = some o := fun c o e => by
      refine hk c o (fun hm => ?_) (Heap.get?_push_of_some _ (Heap.get?_push_of_some _ e))
      rcases List.mem_cons.mp hm with e1 | hm
      · have := Heap.lt_size e; rw [e1, hsz] at this; exact Nat.lt_irrefl _ (Nat.lt_of_succ_lt this)
      · cases hm
    have := h h' tk hold
    have hv : v = if strLt y x then Value.str y u else Value.str x t := by
      cases hc : strLt y x <;> simp [argBest, hc] at hP <;> simp [hP]
    rw [hv]; exact this
theorem call_min2S {X : Cx} (hc : X.calm = true) : CallR X (.builtin "min") (fun xs H Q => ∃ i j, xs = [.str i, .str j] ∧ Q (.str (if strLt j i then j else i)) H) := by
  intro pins s σ H xs us Q I r h
  obtain ⟨i, j, rfl, q⟩ := h
  obtain ⟨u, w', rfl, ⟨t, rfl⟩, ⟨t', rfl⟩⟩ := vals2 r
  refine min_two_strs (I.ok.hd hc) fun h' tk k => ⟨_, H, I.kept k, ?_, q⟩
  cases hj : strLt j i
  · exact ⟨_, rfl⟩
  · exact ⟨_, rfl⟩
section
variable {Φ : Fns} {X : Cx} {a b c e : Expr} {es rest : List Expr} {xa xb xc x xl xh : Xp} {xs : Xps} {pos p2 : Pos}
/-! ### slices -/
/-- a slice's end: an expression, or left out -/
structure SndO (Φ : Fns) (X : Cx) (o : Option Expr) (x : Xp) : Prop where
  run : ∀ env r env' oi d, ev Φ x env = some (r, env') → r.val env' = some d → optI d = some oi → ∀ (S : Addr → Prop) (σ : L2.St) (H : Hp), EnvOk X.K S σ H env →
  ∀ Q : Option Int → Hp → Prop, (∀ S' H', Fw S H σ env S' H' σ env' → EnvOk X.K S' σ H' env' → Q oi H') →
  ∀ (pins : List (Addr × Obj)) (s : Shared), Inv X pins σ H s → wpAny (model X.prog X.w) X.A (evalPart o X.env) (fun u s' => ∃ o' H', Inv X pins σ H' s' ∧ IsPart u o' ∧ Q o' H') X.xe s
instance {Φ : Fns} {X : Cx} {o : Option Expr} {x : Xp} : CoeFun (SndO Φ X o x) fun _ => ∀ env r env' oi d, ev Φ x env = some (r, env') → r.val env' = some d → optI d = some oi → ∀ (S : Addr → Prop) (σ : L2.St) (H : Hp), EnvOk X.K S σ H env →
    ∀ Q : Option Int → Hp → Prop, (∀ S' H', Fw S H σ env S' H' σ env' → EnvOk X.K S' σ H' env' → Q oi H') →
    ∀ (pins : List (Addr × Obj)) (s : Shared), Inv X pins σ H s → wpAny (model X.prog X.w) X.A (evalPart o X.env) (fun u s' => ∃ o' H', Inv X pins σ H' s' ∧ IsPart u o' ∧ Q o' H') X.xe s := ⟨SndO.run⟩
theorem sndO_none : SndO Φ X none .nil := .mk fun env r env' oi d h h2 h3 S σ H ok Q q pins s I => by
  simp only [ev] at h
  cases h
  cases h2
  cases h3
  exact po_none.run pins s σ H Q I (q S H Fw.refl ok)
theorem sndO_some (h : Snd Φ X e x) (hi : ∀ env r env' d, ev Φ x env = some (r, env') → r.val env' = some d → d ≠ .none) : SndO Φ X (some e) x := .mk fun env r env' oi d h1 h2 h3 S σ H ok Q q pins s I => by
  cases d with
  | none => exact absurd rfl (hi env r env' _ h1 h2)
  | int i =>
    cases h3
    exact (po_some pe_any).run pins s σ H Q I (h env r env' h1 S σ H ok _ fun v S1 H1 P => ⟨i, Rep.int_inv (P.rv.rep P.ok h2), q _ _ P.fw P.ok⟩)
  | _ => cases h3
theorem Reps.cut {K : PySem.W.Frag} {F : Hp} {v : List V} {d : List D} (h : Reps K F v d) (lo hi : Option Int) : Reps K F (cutV v lo hi) (cutL d lo hi) := by
  unfold cutV cutL
  rw [h.length]
  exact (h.drop _).take _
theorem cut_whole {α : Type} (xs : List α) (lo hi : Option Int) (h : HT.sIx xs.length 0 lo = 0 ∧ HT.sIx xs.length xs.length hi = xs.length) : cutL xs lo hi = xs := by
  unfold cutL
  rw [h.1, h.2, List.drop_zero, Nat.sub_zero, List.take_length]
theorem snd_sl {lo hi : Option Expr} (ha : Snd Φ X a xa) (hl : SndO Φ X lo xl) (hh : SndO Φ X hi xh) : Snd Φ X (.Subscript a (.Slice lo hi none p2) pos) (.sl xa xl xh) := .mk fun env r env' h S σ H ok Q q => by
  simp only [ev] at h
  obtain ⟨r1, en1, e1, h⟩ := ev_inv1 h
  obtain ⟨r2, en2, e2, h⟩ := ev_inv1 h
  obtain ⟨r3, en3, e3, h⟩ := ev_inv1 h
  cases f1 : r1.val en3 with
  | none => rw [f1] at h; cases h
  | some dx =>
    cases f2 : r2.val en2 with
    | none => rw [f1, f2] at h; cases h
    | some dl =>
      cases g2 : optI dl with
      | none => rw [f1, f2] at h; dsimp only [Option.bind] at h; rw [g2] at h; cases h
      | some ol =>
        cases f3 : r3.val en3 with
        | none => rw [f1, f2, f3] at h; dsimp only [Option.bind] at h; rw [g2] at h; cases h
        | some dh =>
          cases g3 : optI dh with
          | none => rw [f1, f2, f3] at h; dsimp only [Option.bind] at h; rw [g2, g3] at h; cases h
          | some oh =>
            rw [f1, f2, f3] at h
            dsimp only [Option.bind] at h
            rw [g2, g3] at h
            dsimp only at h
            cases g : slcD dx ol oh with
            | none => rw [g] at h; cases h
            | some dz =>
              rw [g] at h
              cases h
              -- the three parts in a row
              let tl : TO := fun σ H Q => ∀ (pins : List (Addr × Obj)) (s : Shared), Inv X pins σ H s → wpAny (model X.prog X.w) X.A (evalPart lo X.env) (fun u s' => ∃ o' H', Inv X pins σ H' s' ∧ IsPart u o' ∧ Q o' H') X.xe s
              let th : TO := fun σ H Q => ∀ (pins : List (Addr × Obj)) (s : Shared), Inv X pins σ H s → wpAny (model X.prog X.w) X.A (evalPart hi X.env) (fun u s' => ∃ o' H', Inv X pins σ H' s' ∧ IsPart u o' ∧ Q o' H') X.xe s
              have pl : PO X lo tl := ⟨fun pins s σ H Q I h => h pins s I⟩
              have ph : PO X hi th := ⟨fun pins s σ H Q I h => h pins s I⟩
              have run : ∀ {r : V → Option Int → Option Int → Hp → VK → Prop}, (∀ v S3 H3, Fw S H σ env S3 H3 σ env' → EnvOk X.K S3 σ H3 env' → RV X.K S3 H3 σ env' r1 v → r v ol oh H3 Q) → tSl r (AnyE X a) tl th σ H Q := fun {r} k => by
                refine ha env r1 en1 e1 S σ H ok _ fun v S1 H1 P1 => ?_
                refine hl en1 r2 en2 ol dl e2 f2 g2 S1 σ H1 P1.ok _ fun S2 H2 w2 ok2 => ?_
                refine hh en2 r3 env' oh dh e3 f3 g3 S2 σ H2 ok2 _ fun S3 H3 w3 ok3 => ?_
                exact k v S3 H3 ((P1.fw.trans w2).trans w3) ok3 ((P1.rv.step P1.ok w2).step ok2 w3)
              cases dx with
              | list ds =>
                cases g
                refine any_of (pe_slice sl_list pe_any pl ph) (run fun v S3 H3 w ok3 rv => ?_)
                obtain ⟨p, vs, rfl, h1, h2⟩ := rv.repC ok3 f1
                exact ⟨p, vs, rfl, h1, fun p hp => q _ _ _ ((Post.lst ok3 hp (h2.cut ol oh)).after w)⟩
              | tuple ds =>
                cases g
                refine any_of (pe_slice sl_tupA pe_any pl ph) (run fun v S3 H3 w ok3 rv => ?_)
                obtain ⟨p, vs, rfl, h1, h2⟩ := Rep.tup_inv' (rv.repC ok3 f1)
                refine ⟨p, vs, rfl, er_full.sqT (.inl (.inl h1)), fun hw => ?_, fun hw p hp => ?_⟩
                · rw [h2.length] at hw
                  refine q _ _ _ ((Post.same ok3 (show RV _ _ _ _ _ (.im (.tuple (cutL ds ol oh))) (.ref p) from ?_) fun _ z => by cases z).after w)
                  rw [cut_whole ds ol oh hw]
                  exact Rep.tup h1 h2
                · exact q _ _ _ ((Post.tup ok3 hp (h2.cut ol oh)).after w)
              | _ => cases g

/-! ### built-in functions -/
def RepCs (K : PySem.W.Frag) (S : Addr → Prop) (H : Hp) : List V → List D → Prop := Paired (RepC K S H)
/-- a call of a known value does what g says -/
def CalD (X : Cx) (f : Value) (g : List D → Option R) : Prop := ∀ ds r, g ds = some r → ∀ (pins : List (Addr × Obj)) (s : Shared) (σ1 σ : L2.St) (H : Hp) (S : Addr → Prop) (env : Env) (vs : List V) (us : List Value) (Q : VK),
  Inv X pins σ1 H s → Vals vs us → EnvOk X.K S σ H env → RepCs X.K S H vs ds → (∀ z S' H', Post X.K S H σ env r env z S' H' → Q z H') → wpAny (model X.prog X.w) X.A (call f us) (EP X pins σ1 Q) X.xe s
theorem RVs.repCs {K : PySem.W.Frag} {S : Addr → Prop} {H : Hp} {σ : L2.St} {env : Env} (ok : EnvOk K S σ H env) : ∀ {rs : List R} {vs : List V} {ds : List D}, RVs K S H σ env rs vs → valsR env rs = some ds → RepCs K S H vs ds
  | _, _, _, .nil, h => by
    cases h
    exact .nil
  | _, _, _, .cons (r := r) (v := v) (rs := rs) (vs := vs) h t, hv => by
    simp only [valsR] at hv
    cases e1 : r.val env with
    | none => rw [e1] at hv; cases hv
    | some d =>
      cases e2 : valsR env rs with
      | none => rw [e1, e2] at hv; cases hv
      | some ds =>
        rw [e1, e2] at hv
        cases hv
        exact .cons (h.repC ok e1) (RVs.repCs ok t e2)
theorem ev_bi_inv {f : B} {env env' : Env} {r : R} (h : ev Φ (.bi f xs) env = some (r, env')) : ∃ rs ds, evR Φ xs env = some (rs, env') ∧ valsR env' rs = some ds ∧ biD f ds = some r := by
  simp only [ev] at h
  cases e1 : evR Φ xs env with
  | none => rw [e1] at h; cases h
  | some p =>
    obtain ⟨rs, en1⟩ := p
    rw [e1] at h
    dsimp only at h
    cases e2 : valsR en1 rs with
    | none => rw [e2] at h; cases h
    | some ds =>
      rw [e2] at h
      dsimp only at h
      cases e3 : biD f ds with
      | none => rw [e3] at h; cases h
      | some r' =>
        rw [e3] at h
        cases h
        exact ⟨rs, ds, rfl, e2, e3⟩
/-- what a call wants of its values, whatever the slots are -/
def rCal (X : Cx) (f : Value) : List V → Hp → VK → Prop := fun vs H Q => ∀ (pins : List (Addr × Obj)) (s : Shared) (σ1 : L2.St) (us : List Value), Inv X pins σ1 H s → Vals vs us → wpAny (model X.prog X.w) X.A (call f us) (EP X pins σ1 Q) X.xe s
theorem rCal_ok {f : Value} : CallR X f (rCal X f) := fun pins s σ H xs us Q I r h => h pins s σ us I r
theorem bi_run {f : B} {fv : Value} (hc : CalD X fv (biD f)) (ha : SndR Φ X es xs) {env env' : Env} {r : R} (h : ev Φ (.bi f xs) env = some (r, env')) {S : Addr → Prop} {σ : L2.St} {H : Hp} (ok : EnvOk X.K S σ H env) {Q : VK} (q : ∀ v S' H', Post X.K S H σ env r env' v S' H' → Q v H') :
    tCB (rCal X fv) (AnyA X es) σ H Q := by
  obtain ⟨rs, ds, e1, e2, e3⟩ := ev_bi_inv h
  exact ha env rs env' e1 S σ H ok _ fun vs S1 H1 P pins s σ1 us I rv => hc ds r e3 pins s σ1 σ H1 S1 env' vs us Q I rv P.ok (P.rv.repCs P.ok e2) fun z S' H' P' => q z S' H' (P'.after P.fw)
theorem snd_biB {f : B} {id : String} {y : Str} {p : Pos} (hc : CalD X (.builtin id) (biD f)) (hg : Gl X y) (hm : X.mg y = none) (hv : bootBuiltins y = some (.builtin id)) (ha : SndR Φ X (e :: es) xs) (hn : y ≠ "__name__" := by decide) (hdb : (y == ("__debug__" : Str)) = false := by decide)
    (he : starEach (e :: es) X.env = (false, eval e X.env) :: starEach es X.env := by exact star_cons rfl) (hpl : (backTo pos (starEach es X.env)).any (·.1) = false := by rfl) : Snd Φ X (.Call (.Name y p) (e :: es) [] pos) (.bi f xs) := .mk fun env r env' h S σ H ok Q q =>
  any_of (pe_callB rCal_ok hg hm hv pa_any hn hdb he hpl) (bi_run hc ha h ok q)
theorem snd_biT {f : B} {T : String} {y : Str} {p : Pos} (hc : CalD X (.type T) (biD f)) (hg : Gl X y) (hm : X.mg y = none) (hv : bootBuiltins y = some (.type T)) (ha : SndR Φ X (e :: es) xs) (hn : y ≠ "__name__" := by decide) (hdb : (y == ("__debug__" : Str)) = false := by decide)
    (he : starEach (e :: es) X.env = (false, eval e X.env) :: starEach es X.env := by exact star_cons rfl) (hpl : (backTo pos (starEach es X.env)).any (·.1) = false := by rfl) : Snd Φ X (.Call (.Name y p) (e :: es) [] pos) (.bi f xs) := .mk fun env r env' h S σ H ok Q q =>
  any_of (pe_callTy rCal_ok hg hm hv pa_any hn hdb he hpl) (bi_run hc ha h ok q)
theorem one_of {K : PySem.W.Frag} {S : Addr → Prop} {H : Hp} {vs : List V} {d : D} (h : RepCs K S H vs [d]) : ∃ v, vs = [v] ∧ RepC K S H v d := by
  cases h with
  | cons h t => cases t; exact ⟨_, rfl, h⟩
theorem two_of {K : PySem.W.Frag} {S : Addr → Prop} {H : Hp} {vs : List V} {d e : D} (h : RepCs K S H vs [d, e]) : ∃ v w, vs = [v, w] ∧ RepC K S H v d ∧ RepC K S H w e := by
  cases h with
  | cons h t =>
    cases t with
    | cons h' t => cases t; exact ⟨_, _, rfl, h, h'⟩
theorem cal_len : CalD X (.builtin "len") (biD .len) := by
  intro ds r h pins s σ1 σ H S env vs us Q I rv ok hr q
  match ds, h with
  | [.str z], h =>
    simp only [biD] at h
    split at h
    · rename_i hc
      cases h
      obtain ⟨v, rfl, hv⟩ := one_of hr
      cases (Rep.str_inv hv)
      exact call_len pins s σ1 H _ us Q I rv ⟨_, z.length, rfl, ⟨lim_line hc, rfl⟩, q _ _ _ (Post.leaf (F := H) ok (.int _) rfl)⟩
    · cases h
  | [.list xs], h =>
    cases h
    obtain ⟨v, rfl, hv⟩ := one_of hr
    obtain ⟨a, vs, rfl, h1, h2⟩ := hv
    exact call_len pins s σ1 H _ us Q I rv ⟨_, xs.length, rfl, .inl ⟨vs, h1, h2.length.symm⟩, q _ _ _ (Post.leaf (F := H) ok (.int _) rfl)⟩
  | [.tuple xs], h =>
    cases h
    obtain ⟨v, rfl, hv⟩ := one_of hr
    obtain ⟨a, vs, rfl, h1, h2⟩ := Rep.tup_inv hv
    exact call_len pins s σ1 H _ us Q I rv ⟨_, xs.length, rfl, .inr ⟨vs, er_full.sqT h1, h2.length.symm⟩, q _ _ _ (Post.leaf (F := H) ok (.int _) rfl)⟩
theorem cal_abs : CalD X (.builtin "abs") (biD .abs) := by
  intro ds r h pins s σ1 σ H S env vs us Q I rv ok hr q
  match ds, h with
  | [.int i], h =>
    cases h
    obtain ⟨v, rfl, hv⟩ := one_of hr
    cases (Rep.int_inv hv)
    exact call_abs pins s σ1 H _ us Q I rv ⟨i, rfl, q _ _ _ (Post.leaf (F := H) ok (.int _) rfl)⟩
theorem cal_int : CalD X (.type "int") (biD .int) := by
  intro ds r h pins s σ1 σ H S env vs us Q I rv ok hr q
  match ds, h with
  | [.int i], h =>
    cases h
    obtain ⟨v, rfl, hv⟩ := one_of hr
    cases (Rep.int_inv hv)
    exact call_int1 pins s σ1 H _ us Q I rv (.inl ⟨i, rfl, q _ _ _ (Post.leaf (F := H) ok (.int _) rfl)⟩)
  | [.bool i], h =>
    cases h
    obtain ⟨v, rfl, hv⟩ := one_of hr
    cases (Rep.bl_inv hv)
    exact call_int1 pins s σ1 H _ us Q I rv (.inr ⟨i, rfl, q _ _ _ (Post.leaf (F := H) ok (.int _) rfl)⟩)
theorem cal_list : CalD X (.type "list") (biD .list) := by
  intro ds r h pins s σ1 σ H S env vs us Q I rv ok hr q
  match ds, h with
  | [.list xs], h =>
    cases h
    obtain ⟨v, rfl, hv⟩ := one_of hr
    obtain ⟨a, vs, rfl, h1, h2⟩ := hv
    exact call_list_of pins s σ1 H _ us Q I rv ⟨a, vs, rfl, .inl h1, fun l hl => q _ _ _ (Post.lst ok hl h2)⟩
  | [.tuple xs], h =>
    cases h
    obtain ⟨v, rfl, hv⟩ := one_of hr
    obtain ⟨a, vs, rfl, h1, h2⟩ := Rep.tup_inv hv
    exact call_list_of pins s σ1 H _ us Q I rv ⟨a, vs, rfl, .inr (er_full.sqT h1), fun l hl => q _ _ _ (Post.lst ok hl h2)⟩
theorem cal_tuple : CalD X (.type "tuple") (biD .tuple) := by
  intro ds r h pins s σ1 σ H S env vs us Q I rv ok hr q
  match ds, h with
  | [.list xs], h =>
    cases h
    obtain ⟨v, rfl, hv⟩ := one_of hr
    obtain ⟨a, vs, rfl, h1, h2⟩ := hv
    exact call_tuple_of pins s σ1 H _ us Q I rv ⟨a, vs, rfl, .inl ⟨h1, fun l hl => q _ _ _ (Post.tup ok hl h2)⟩⟩
  | [.tuple xs], h =>
    cases h
    obtain ⟨v, rfl, hv⟩ := one_of hr
    obtain ⟨a, vs, rfl, h1, h2⟩ := Rep.tup_inv' hv
    exact call_tuple_of pins s σ1 H _ us Q I rv ⟨a, vs, rfl, .inr ⟨er_full.sqT (.inl (.inl h1)), q _ _ _ (Post.same ok (show RV _ _ _ _ _ (.im (.tuple xs)) (.ref a) from .tup h1 h2) fun _ z => by cases z)⟩⟩
theorem ints_of {K : PySem.W.Frag} {F : Hp} : ∀ {vs : List V} {ds : List D} {is : List Int}, Reps K F vs ds → intsD ds = some is → vs = is.map V.int ∧ ds = is.map PyData.int
  | _, _, _, .nil, h => by cases h; exact ⟨rfl, rfl⟩
  | _, _, _, .cons (d := d) (ds := ds) h t, e => by
    cases d <;> first | (cases e; done) | skip
    rename_i i
    simp only [intsD] at e
    cases q : intsD ds with
    | none => rw [q] at e; cases e
    | some js =>
      rw [q] at e
      cases e
      obtain ⟨e1, e2⟩ := ints_of t q
      rw [e1, e2, h.int_inv]
      exact ⟨rfl, rfl⟩
theorem strs_of {K : PySem.W.Frag} {F : Hp} : ∀ {vs : List V} {ds : List D} {is : List Str}, Reps K F vs ds → strsD ds = some is → vs = is.map V.str ∧ ds = is.map PyData.str
  | _, _, _, .nil, h => by cases h; exact ⟨rfl, rfl⟩
  | _, _, _, .cons (d := d) (ds := ds) h t, e => by
    cases d <;> first | (cases e; done) | skip
    rename_i i
    simp only [strsD] at e
    cases q : strsD ds with
    | none => rw [q] at e; cases e
    | some js =>
      rw [q] at e
      cases e
      obtain ⟨e1, e2⟩ := strs_of t q
      rw [e1, e2, h.str_inv]
      exact ⟨rfl, rfl⟩
theorem bls_of {K : PySem.W.Frag} {F : Hp} : ∀ {vs : List V} {ds : List D} {is : List Bool}, Reps K F vs ds → blsD ds = some is → vs = is.map V.bl ∧ ds = is.map PyData.bool
  | _, _, _, .nil, h => by cases h; exact ⟨rfl, rfl⟩
  | _, _, _, .cons (d := d) (ds := ds) h t, e => by
    cases d <;> first | (cases e; done) | skip
    rename_i i
    simp only [blsD] at e
    cases q : blsD ds with
    | none => rw [q] at e; cases e
    | some js =>
      rw [q] at e
      cases e
      obtain ⟨e1, e2⟩ := bls_of t q
      rw [e1, e2, h.bl_inv]
      exact ⟨rfl, rfl⟩
theorem ints_reps {K : PySem.W.Frag} {F : Hp} : ∀ is : List Int, Reps K F (is.map V.int) (is.map PyData.int)
  | [] => .nil
  | i :: is => .cons (.int i) (ints_reps is)
theorem strs_reps {K : PySem.W.Frag} {F : Hp} : ∀ is : List Str, Reps K F (is.map V.str) (is.map PyData.str)
  | [] => .nil
  | i :: is => .cons (.str i) (strs_reps is)
theorem cal_sum (hc : X.calm = true) : CalD X (.builtin "sum") (biD .sum) := by
  intro ds r h pins s σ1 σ H S env vs us Q I rv ok hr q
  match ds, h with
  | [.list xs], h =>
    simp only [biD] at h
    cases e : intsD xs with
    | none => rw [e] at h; cases h
    | some is =>
      rw [e] at h
      cases h
      obtain ⟨v, rfl, hv⟩ := one_of hr
      obtain ⟨a, vs, rfl, h1, h2⟩ := hv
      obtain ⟨e1, e2⟩ := ints_of h2 e
      subst e1
      exact cr_sum hc pins s σ1 H _ us Q I rv ⟨a, is, rfl, h1, q _ _ _ (Post.leaf (F := H) ok (.int _) rfl)⟩
theorem cal_all (hc : X.calm = true) : CalD X (.builtin "all") (biD .all) := by
  intro ds r h pins s σ1 σ H S env vs us Q I rv ok hr q
  match ds, h with
  | [.list xs], h =>
    simp only [biD] at h
    cases e : blsD xs with
    | none => rw [e] at h; cases h
    | some is =>
      rw [e] at h
      cases h
      obtain ⟨v, rfl, hv⟩ := one_of hr
      obtain ⟨a, vs, rfl, h1, h2⟩ := hv
      obtain ⟨e1, e2⟩ := bls_of h2 e
      subst e1
      exact cr_all hc pins s σ1 H _ us Q I rv ⟨a, is, rfl, h1, q _ _ _ (Post.leaf (F := H) ok (.bl _) rfl)⟩
theorem cal_any (hc : X.calm = true) : CalD X (.builtin "any") (biD .any) := by
  intro ds r h pins s σ1 σ H S env vs us Q I rv ok hr q
  match ds, h with
  | [.list xs], h =>
    simp only [biD] at h
    cases e : blsD xs with
    | none => rw [e] at h; cases h
    | some is =>
      rw [e] at h
      cases h
      obtain ⟨v, rfl, hv⟩ := one_of hr
      obtain ⟨a, vs, rfl, h1, h2⟩ := hv
      obtain ⟨e1, e2⟩ := bls_of h2 e
      subst e1
      exact cr_any hc pins s σ1 H _ us Q I rv ⟨a, is, rfl, h1, q _ _ _ (Post.leaf (F := H) ok (.bl _) rfl)⟩
theorem minL_spec : ∀ {l : List Int} {m : Int}, minL l = some m → m ∈ l ∧ ∀ y ∈ l, m ≤ y
  | [], m, h => by cases h
  | x :: r, m, h => by
    have key : ∀ (r : List Int) (a : Int), (r.foldl (fun a b => if b < a then b else a) a ∈ a :: r) ∧ ∀ y ∈ a :: r, r.foldl (fun a b => if b < a then b else a) a ≤ y := by
      intro r
      induction r with
      | nil => intro a; exact ⟨by simp, fun y hy => by rw [List.mem_singleton.mp hy]; exact Int.le_refl _⟩
      | cons z r ih =>
        intro a
        rw [List.foldl_cons]
        obtain ⟨h1, h2⟩ := ih (if z < a then z else a)
        refine ⟨?_, fun y hy => ?_⟩
        · rcases List.mem_cons.mp h1 with e | e
          · rw [e]
            split
            · simp
            · simp
          · exact List.mem_cons_of_mem _ (List.mem_cons_of_mem _ e)
        · have hb := h2 _ List.mem_cons_self
          have lz : (if z < a then z else a) ≤ z ∧ (if z < a then z else a) ≤ a := by split <;> omega
          rcases List.mem_cons.mp hy with rfl | hy
          · omega
          · rcases List.mem_cons.mp hy with rfl | hy
            · omega
            · exact h2 y (List.mem_cons_of_mem _ hy)
    cases h
    exact key r x
theorem maxL_spec : ∀ {l : List Int} {m : Int}, maxL l = some m → m ∈ l ∧ ∀ y ∈ l, y ≤ m
  | [], m, h => by cases h
  | x :: r, m, h => by
    have key : ∀ (r : List Int) (a : Int), (r.foldl (fun a b => if a < b then b else a) a ∈ a :: r) ∧ ∀ y ∈ a :: r, y ≤ r.foldl (fun a b => if a < b then b else a) a := by
      intro r
      induction r with
      | nil => intro a; exact ⟨by simp, fun y hy => by rw [List.mem_singleton.mp hy]; exact Int.le_refl _⟩
      | cons z r ih =>
        intro a
        rw [List.foldl_cons]
        obtain ⟨h1, h2⟩ := ih (if a < z then z else a)
        refine ⟨?_, fun y hy => ?_⟩
        · rcases List.mem_cons.mp h1 with e | e
          · rw [e]
            split
            · simp
            · simp
          · exact List.mem_cons_of_mem _ (List.mem_cons_of_mem _ e)
        · have hb := h2 _ List.mem_cons_self
          have lz : z ≤ (if a < z then z else a) ∧ a ≤ (if a < z then z else a) := by split <;> omega
          rcases List.mem_cons.mp hy with rfl | hy
          · omega
          · rcases List.mem_cons.mp hy with rfl | hy
            · omega
            · exact h2 y (List.mem_cons_of_mem _ hy)
    cases h
    exact key r x
theorem cal_max (hc : X.calm = true) : CalD X (.builtin "max") (biD .max) := by
  intro ds r h pins s σ1 σ H S env vs us Q I rv ok hr q
  match ds, h with
  | [.int i, .int j], h =>
    cases h
    obtain ⟨v, w, rfl, hv, hw⟩ := two_of hr
    cases (Rep.int_inv hv)
    cases (Rep.int_inv hw)
    exact call_max2 hc pins s σ1 H _ us Q I rv ⟨i, j, rfl, q _ _ _ (Post.leaf (F := H) ok (.int _) rfl)⟩
  | [.list xs], h =>
    simp only [biD] at h
    cases e : intsD xs with
    | none => rw [e] at h; cases h
    | some is =>
      rw [e] at h
      dsimp only at h
      cases e0 : maxL is with
      | none => rw [e0] at h; cases h
      | some m0 =>
      rw [e0] at h
      cases h
      obtain ⟨v, rfl, hv⟩ := one_of hr
      obtain ⟨a, vs, rfl, h1, h2⟩ := hv
      obtain ⟨e1, e2⟩ := ints_of h2 e
      subst e1
      obtain ⟨g1, g2⟩ := maxL_spec e0
      refine cr_max hc pins s σ1 H _ us Q I rv ⟨a, is, rfl, h1, List.length_pos_of_mem g1, fun m k1 k2 => ?_⟩
      have z1 := g2 m k1
      have z2 := k2 m0 g1
      have : m = m0 := by omega
      subst this
      exact q _ _ _ (Post.leaf (F := H) ok (.int _) rfl)
end
end DI

set_option maxRecDepth 100000
/-! DI8: sorted, isinstance, methods of lists. -/
namespace DI
open PySem PySem.Spec PyProof.Rows L2
/-! ### sorting: one order of its own -/
section
variable {α : Type} {lt : α → α → Bool}
theorem insBy_perm (x : α) : ∀ l : List α, (sortBy.insBy' lt x l).Perm (x :: l)
  | [] => .refl _
  | y :: r => by
    unfold sortBy.insBy'
    split
    · exact (List.Perm.cons y (insBy_perm x r)).trans (List.Perm.swap x y r)
    · exact .refl _
theorem sortBy_perm : ∀ l : List α, (sortBy lt l).Perm l
  | [] => .refl _
  | x :: r => (insBy_perm x _).trans ((sortBy_perm r).cons x)
theorem insBy_sorted (tr : ∀ a b c, lt b a = false → lt c b = false → lt c a = false) (as : ∀ a b, lt a b = true → lt b a = false) (x : α) : ∀ l : List α, l.Pairwise (fun a b => lt b a = false) → (sortBy.insBy' lt x l).Pairwise (fun a b => lt b a = false)
  | [], _ => List.pairwise_singleton _ _
  | y :: r, h => by
    unfold sortBy.insBy'
    obtain ⟨h1, h2⟩ := List.pairwise_cons.mp h
    split
    · rename_i hc
      refine List.pairwise_cons.mpr ⟨fun z hz => ?_, insBy_sorted tr as x r h2⟩
      rcases List.mem_cons.mp ((insBy_perm (lt := lt) x r).mem_iff.mp hz) with rfl | hz
      · exact as _ _ hc
      · exact h1 z hz
    · rename_i hc
      have hc' : lt y x = false := by simpa using hc
      refine List.pairwise_cons.mpr ⟨fun z hz => ?_, h⟩
      rcases List.mem_cons.mp hz with rfl | hz
      · exact hc'
      · exact tr _ _ _ hc' (h1 z hz)
theorem sortBy_sorted (tr : ∀ a b c, lt b a = false → lt c b = false → lt c a = false) (as : ∀ a b, lt a b = true → lt b a = false) : ∀ l : List α, (sortBy lt l).Pairwise (fun a b => lt b a = false)
  | [] => .nil
  | x :: r => insBy_sorted tr as x _ (sortBy_sorted tr as r)
theorem sorted_eq (an : ∀ a b, lt a b = false → lt b a = false → a = b) : ∀ {l m : List α}, l.Perm m → l.Pairwise (fun a b => lt b a = false) → m.Pairwise (fun a b => lt b a = false) → l = m
  | [], m, p, _, _ => by
    rw [List.nil_perm.mp p]
  | x :: r, [], p, _, _ => by
    have := p.length_eq
    simp at this
  | x :: r, y :: t, p, h, g => by
    obtain ⟨h1, h2⟩ := List.pairwise_cons.mp h
    obtain ⟨g1, g2⟩ := List.pairwise_cons.mp g
    have e : x = y := by
      rcases List.mem_cons.mp (p.mem_iff.mp List.mem_cons_self) with e | hx
      · exact e
      · rcases List.mem_cons.mp (p.mem_iff.mpr List.mem_cons_self) with e | hy
        · exact e.symm
        · exact an x y (g1 x hx) (h1 y hy)
    subst e
    rw [sorted_eq an (List.Perm.cons_inv p) h2 g2]
end
theorem intLt_an : ∀ a b : Int, decide (a < b) = false → decide (b < a) = false → a = b := fun a b h1 h2 => by
  have h1 := of_decide_eq_false h1
  have h2 := of_decide_eq_false h2
  omega
theorem listNat_lt_irrefl (a : List Nat) : ¬ a < a := List.lt_irrefl a
theorem strLt_an : ∀ a b : Str, strLt a b = false → strLt b a = false → a = b := fun a b h1 h2 => by
  have h1 : ¬ a.cps.toList < b.cps.toList := of_decide_eq_false h1
  have h2 : ¬ b.cps.toList < a.cps.toList := of_decide_eq_false h2
  have e : a.cps.toList = b.cps.toList := List.le_antisymm (List.not_lt.mp h2) (List.not_lt.mp h1)
  obtain ⟨⟨la⟩⟩ := a
  obtain ⟨⟨lb⟩⟩ := b
  cases (show la = lb from e)
  rfl
theorem strLt_as : ∀ a b : Str, strLt a b = true → strLt b a = false := fun a b h1 => by
  have h1 : a.cps.toList < b.cps.toList := of_decide_eq_true h1
  exact decide_eq_false fun h2 => List.lt_irrefl _ (List.lt_trans h1 h2)
theorem strLt_tr : ∀ a b c : Str, strLt b a = false → strLt c b = false → strLt c a = false := fun a b c h1 h2 => by
  have h1 : ¬ b.cps.toList < a.cps.toList := of_decide_eq_false h1
  have h2 : ¬ c.cps.toList < b.cps.toList := of_decide_eq_false h2
  exact decide_eq_false (List.not_lt.mpr (List.le_trans (List.not_lt.mp h1) (List.not_lt.mp h2)))
/-! ### the kit's order on data -/
theorem dat_tot (ds : List D) : PySem.W.TotalLe (PySem.W.dataLe false (id : D → D)) := PySem.W.sortLe_total _ _ _
theorem dle_eq (a b : D) : PySem.W.dataLe false id a b = !PySem.W.dataLt b a := rfl
theorem dlt_as (a b : D) (h : PySem.W.dataLt a b = true) : PySem.W.dataLt b a = false := by
  have t := (dat_tot []).total a b
  rw [dle_eq, dle_eq, h] at t
  simpa using t
theorem dlt_tr (a b c : D) (h1 : PySem.W.dataLt b a = false) (h2 : PySem.W.dataLt c b = false) : PySem.W.dataLt c a = false := by
  have t := (dat_tot []).trans a b c (by rw [dle_eq, h1]; rfl) (by rw [dle_eq, h2]; rfl)
  rw [dle_eq] at t
  simpa using t
theorem ins_filter {c : D} (x : D) : ∀ l : List D, (sortBy.insBy' PySem.W.dataLt x l).filter (PySem.W.sameRank (PySem.W.dataLe false id) c) = (x :: l).filter (PySem.W.sameRank (PySem.W.dataLe false id) c)
  | [] => rfl
  | y :: r => by
    unfold sortBy.insBy'
    split
    · rename_i h
      rw [List.filter_cons, ins_filter x r]
      simp only [List.filter_cons]
      by_cases px : PySem.W.sameRank (PySem.W.dataLe false id) c x = true
      · have py : ¬ PySem.W.sameRank (PySem.W.dataLe false id) c y = true := fun py => by
          unfold PySem.W.sameRank at px py
          rw [Bool.and_eq_true, dle_eq, dle_eq] at px py
          have a : PySem.W.dataLt c x = false := by simpa using px.2
          have b : PySem.W.dataLt x c = false := by simpa using px.1
          have d : PySem.W.dataLt y c = false := by simpa using py.1
          have := dlt_tr x c y a d
          rw [this] at h
          cases h
        simp [px, py]
      · simp [px]
    · rfl
theorem srt_filter {c : D} : ∀ l : List D, (sortBy PySem.W.dataLt l).filter (PySem.W.sameRank (PySem.W.dataLe false id) c) = l.filter (PySem.W.sameRank (PySem.W.dataLe false id) c)
  | [] => rfl
  | x :: r => by
    unfold sortBy
    rw [ins_filter, List.filter_cons, srt_filter r, ← List.filter_cons]
theorem msort_eq (ds : List D) : ds.mergeSort (PySem.W.dataLe false id) = sortBy PySem.W.dataLt ds :=
  (PySem.W.sort_unique (dat_tot []) ((sortBy_sorted dlt_tr dlt_as ds).imp fun {a b} h => by rw [dle_eq, h]; rfl) fun c => srt_filter ds).symm
section
variable {Φ : Fns} {X : Cx} {a b c e : Expr} {es rest : List Expr} {xa xb xc x xl xh : Xp} {xs : Xps} {pos p2 : Pos}
/-- a value that stands for data -/
def VRep (K : PySem.W.Frag) (F : Hp) (u : Value) (d : D) : Prop := ∃ x : V, RelV x u ∧ Rep K F x d
theorem each_of {K : PySem.W.Frag} {F : Hp} : ∀ {ws : List V} {us : List Value} {ds : List D}, Vals ws us → Reps K F ws ds → PySem.W.EachIs (VRep K F) us ds
  | _, _, _, .nil, .nil => .nil
  | _, _, _, .cons r t, .cons h s => .cons ⟨_, r, h⟩ (each_of t s)
theorem each_back {K : PySem.W.Frag} {F : Hp} : ∀ {us : List Value} {ds : List D}, PySem.W.EachIs (VRep K F) us ds → ∃ ws, Vals ws us ∧ Reps K F ws ds
  | _, _, .nil => ⟨[], .nil, .nil⟩
  | _, _, .cons ⟨x, r, h⟩ t => by
    obtain ⟨ws, r', h'⟩ := each_back t
    exact ⟨x :: ws, .cons r r', .cons h h'⟩
theorem each_rd {pins : List (Addr × Obj)} {σ : L2.St} {H F : Hp} {s : Shared} (I : Inv X pins σ H s) (le : Le F H) : ∀ {us : List Value} {ds : List D}, (∀ d ∈ ds, d.canLay0 = true) → PySem.W.EachIs (VRep X.K F) us ds → PySem.W.EachIs (fun v d => ∃ as, Reads s.heap v d as) us ds
  | _, _, _, .nil => .nil
  | _, _, hl, .cons ⟨x, r, h⟩ t => .cons (Dp.reads I _ _ _ ((h.mono le).dp (hl _ List.mem_cons_self)) r) (each_rd I le (fun d hd => hl d (List.mem_cons_of_mem _ hd)) t)
theorem sortOk_of {ds : List D} (h : sortOkD ds = true) : PySem.W.AllAlike ds ∧ PySem.W.Sortable ds ∧ ∀ d ∈ ds, d.canLay0 = true ∧ d.depth ≤ 50 := by
  unfold sortOkD at h
  rw [Bool.and_eq_true, Bool.and_eq_true] at h
  obtain ⟨⟨h1, h2⟩, h3⟩ := h
  refine ⟨fun d hd e he => List.all_eq_true.mp (List.all_eq_true.mp h1 d hd) e he, ?_, fun d hd => ?_⟩
  · rw [Bool.or_eq_true] at h2
    rcases h2 with h2 | h2
    · refine .inl fun d hd => ?_
      have := List.all_eq_true.mp h2 d hd
      unfold tupNe at this
      split at this
      · exact ⟨_, _, rfl⟩
      · cases this
    · refine .inr fun d hd => ?_
      have := List.all_eq_true.mp h2 d hd
      unfold notTup at this
      split at this
      · cases this
      · cases this
      · rename_i h1 h2
        exact ⟨fun z => h1 z, fun xs z => h2 xs z⟩
  · have := List.all_eq_true.mp h3 d hd
    rw [Bool.and_eq_true, decide_eq_true_iff] at this
    exact this
theorem sorted_seq (hu : X.A.units + 65 < cLine) {pins : List (Addr × Obj)} {s : Shared} {σ1 σ : L2.St} {H : Hp} {S : Addr → Prop} {env : Env} {Q : VK} {l : Addr} {o : Obj} {its : List Value} {n : Nat} {ws : List V} {ds ys : List D}
    (I : Inv X pins σ1 H s) (ok : EnvOk X.K S σ H env) (ho : s.heap.get? l = some o) (hc : o.cls = .type "list" ∨ o.cls = .type "tuple") (hd : o.data = .seq its.toArray n) (hz : ws.length ≤ sizeLine) (rv : Vals ws its) (rp : Reps X.K (er S H) ws ds) (hs : sortedD ds = some ys)
    (q : ∀ z S' H', Post X.K S H σ env (.fr (.list ys)) env z S' H' → Q z H') : wpAny (model X.prog X.w) X.A (call (.builtin "sorted") [.ref l]) (EP X pins σ1 Q) X.xe s := by
  unfold sortedD at hs
  split at hs
  · rename_i hk
    cases hs
    obtain ⟨k1, k2, k3⟩ := sortOk_of hk
    have hlen : its.length = ds.length := by rw [← rv.length, rp.length]
    have hz2 : its.length ≤ sizeLine := by rw [← rv.length]; exact hz
    have er1 := each_of rv rp
    have er2 := each_rd I er_full (fun d hd => (k3 d hd).1) er1
    refine sorted_gen (R := VRep X.K (er S H)) (P := fun d => d = ds) (fun d hd => by subst hd; exact ⟨k1, k2, by rw [← hlen]; exact hz2, fun d hd => by have := (k3 d hd).2; omega⟩)
      (fun E' Q' h => gather_sq ho hc hd hz2 fun s1 b1 b2 b3 b4 => h s1 its ds b1 b2 b3 b4 rfl er1 (er2.mono fun _ _ ⟨as, r⟩ => ⟨as, PyProof.Rows.Reads.keeps (fun b o e => b1 b o e) r⟩)) fun s' p out c ds' b1 b2 b3 b4 b5 b6 b7 b8 => ?_
    subst b6
    rw [msort_eq] at b8
    obtain ⟨zs, r3, r4⟩ := each_back b8
    have hn : H p = none := I.hok.fresh b2
    have hlz : zs.length ≤ sizeLine := by rw [r3.length, b7, ← hlen]; exact hz2
    have J : Inv X pins σ1 (upd H p (.lst zs)) { s with heap := s'.heap, gens := s'.gens, drawn := s'.drawn, toks := s'.toks } :=
      I.call (ch := []) (Un.laid b1 b2 hn) (I.hok.laid b1 b2 ⟨hlz, out, c, r3, b5⟩) (by rw [b3]; exact I.bare) (fun _ z => nomatch z)
    have e : s' = { s with heap := s'.heap, gens := s'.gens, drawn := s'.drawn, toks := s'.toks } := by
      cases s'
      cases s
      cases b4
      rfl
    rw [e]
    exact ⟨.ref p, _, J, rfl, q _ _ _ (Post.lst ok hn r4)⟩
  · cases hs
theorem cal_sorted (hu : X.A.units + 65 < cLine) : CalD X (.builtin "sorted") (biD .sorted) := by
  intro ds r h pins s σ1 σ H S env vs us Q I rv ok hr q
  match ds, h with
  | [.list xs], h =>
    obtain ⟨v, rfl, hv⟩ := one_of hr
    obtain ⟨a, ws, rfl, h1, h2⟩ := hv
    simp only [biD] at h
    cases e : sortedD xs with
    | none => rw [e] at h; cases h
    | some ys =>
      rw [e] at h
      cases h
      obtain ⟨its, rv2, ⟨o, n, ho, hc, _, hd⟩, hz⟩ := I.list h1
      rw [Vals.ref1 rv]
      exact sorted_seq hu I ok ho (.inl hc) hd hz rv2 h2 e q
  | [.tuple xs], h =>
    obtain ⟨v, rfl, hv⟩ := one_of hr
    obtain ⟨a, ws, rfl, h1, h2⟩ := Rep.tup_inv hv
    simp only [biD] at h
    cases e : sortedD xs with
    | none => rw [e] at h; cases h
    | some ys =>
      rw [e] at h
      cases h
      obtain ⟨its, rv2, ⟨o, ho, hc, n, hd⟩, hz⟩ := I.tuple (er_full.sqT h1)
      rw [Vals.ref1 rv]
      exact sorted_seq hu I ok ho (.inr hc) hd hz rv2 h2 e q

/-! ### isinstance -/
theorem tyx_of {K : PySem.W.Frag} {H : Hp} {v : V} {d : D} (h : Rep K H v d) (p : plainD d = true) : TyX K H v (.type (tyD d)) := by
  cases h with
  | exc0 _ _ => simp [plainD, plainK, isKey] at p
  | exc1 _ _ _ _ => simp [plainD, plainK, isKey] at p
  | non => exact .base .non
  | bl b => exact .base (.bl b)
  | int i => exact .base (.int i)
  | str x => exact .base (.str x)
  | lst h1 h2 =>
    rcases h1 with (h1 | ⟨o, h1⟩) | ⟨o, its, n, hk, hc, _⟩
    · exact .base (.lst h1)
    · exact .base (.frz h1)
    · exact .kList hk hc
  | tup h1 h2 => exact .base (.tup h1)
  | dicT h1 n h2 =>
    cases h2 with
    | nil => exact (n rfl).elim
    | cons _ _ => simp [plainD, plainK, isKey] at p
  | dic h1 h2 =>
    rcases h1 with h1 | ⟨o, h1⟩
    · exact .base (.dK h1)
    · exact .fDict h1
theorem tyIs_kit {a t : String} {k : Bool} (ha : a ∈ ["NoneType", "bool", "int", "str", "list", "tuple", "dict"]) (h : tyIs a t = some k) : kitB a t = some k := by
  have all : ∀ a ∈ ["NoneType", "bool", "int", "str", "list", "tuple", "dict"], ∀ t ∈ ["int", "bool", "str", "list", "tuple", "dict"], kitB a t = tyIs a t := by decide +kernel
  by_cases ht : t ∈ ["int", "bool", "str", "list", "tuple", "dict"]
  · rw [all a ha t ht]
    exact h
  · unfold tyIs at h
    split at h <;> first | (exact absurd (by decide) ht) | cases h
theorem isTy_kit {d : D} {t : String} {k : Bool} (h : isTy d t = some k) : kitB (tyD d) t = some k := by
  unfold isTy at h
  split at h
  · refine tyIs_kit ?_ h
    cases d <;> simp [tyD]
  · cases h
theorem isTys_plain {d : D} {t : String} {ts : List String} {k : Bool} (h : isTys d (t :: ts) = some k) : plainD d = true := by
  cases e : plainD d with
  | true => rfl
  | false =>
    unfold isTys isTy at h
    rw [e, if_neg Bool.false_ne_true] at h
    cases h
theorem isTys_kit {K : PySem.W.Frag} {d : D} : ∀ {ts : List String} {k : Bool}, isTys d ts = some k → PySem.W.kitAny K (.type (tyD d)) (ts.map Value.type) = some k
  | [], k, h => by
    cases h
    exact kitAny_nil
  | t :: ts, k, h => by
    simp only [isTys] at h
    cases e : isTy d t with
    | none => rw [e] at h; cases h
    | some b =>
      rw [e] at h
      cases b with
      | true =>
        cases h
        exact kitAny_cons (kit_ty (isTy_kit e)) (fun z => by cases z) fun _ => rfl
      | false => exact kitAny_cons (kit_ty (isTy_kit e)) (fun _ => isTys_kit h) fun z => by cases z
theorem ev_isi_inv {tys : List String} {env env' : Env} {r : R} (h : ev Φ (.isi xa tys) env = some (r, env')) : ∃ r1 d k, ev Φ xa env = some (r1, env') ∧ r1.val env' = some d ∧ isTys d tys = some k ∧ r = .im (.bool k) := by
  simp only [ev] at h
  obtain ⟨r1, en1, e1, h⟩ := ev_inv1 h
  cases f1 : r1.val en1 with
  | none => rw [f1] at h; cases h
  | some d =>
    rw [f1] at h
    dsimp only at h
    cases g : isTys d tys with
    | none => rw [g] at h; cases h
    | some k =>
      rw [g] at h
      cases h
      exact ⟨r1, d, k, e1, f1, g, rfl⟩
/-- names of built-in classes, as arguments -/
def PTys (X : Cx) (es : List Expr) (tys : List String) : Prop := PA X es (fun _ H Q => Q (tys.map V.ty) H)
theorem ptys_nil : PTys X [] [] := pa_nil
theorem ptys_cons {y T : String} {p : Pos} {tys : List String} (hg : Gl X (y : Str)) (hm : X.mg (y : Str) = none) (hv : bootBuiltins (y : Str) = some (.type T)) (h : PTys X es tys) (hn : (y : Str) ≠ "__name__" := by decide) (hdb : ((y : Str) == ("__debug__" : Str)) = false := by decide)
    (hs : starEach (.Name (y : Str) p :: es) X.env = (false, eval (.Name (y : Str) p) X.env) :: starEach es X.env := by rfl) : PTys X (.Name (y : Str) p :: es) (T :: tys) :=
  ⟨fun pos pins s σ H Q I hq => (pa_cons (pe_bltn (v := .ty T) hg hm hv rfl hn hdb) h hs).run pos pins s σ H Q I hq⟩
theorem snd_isi1 {T : String} {t : Expr} {y : Str} {p : Pos} (hg : Gl X y) (hm : X.mg y = none) (hv : bootBuiltins y = some (.builtin "isinstance")) (ha : Snd Φ X a xa) (ht : PTys X [t] [T]) (hn : y ≠ "__name__" := by decide) (hdb : (y == ("__debug__" : Str)) = false := by decide)
    (hs : starEach [a, t] X.env = (false, eval a X.env) :: starEach [t] X.env := by exact star_cons rfl) (hpl : (backTo pos (starEach [t] X.env)).any (·.1) = false := by rfl) : Snd Φ X (.Call (.Name y p) [a, t] [] pos) (.isi xa [T]) := .mk fun env r env' h S σ H ok Q q => by
  obtain ⟨r1, d, k, e1, f1, g, rfl⟩ := ev_isi_inv h
  refine any_of (pe_callB call_isi hg hm hv (pa_cons pe_any ht hs) hn hdb hs hpl) (ha env r1 env' e1 S σ H ok _ fun v S1 H1 P => ?_)
  have g' : PySem.W.kitOne X.K (.type (tyD d)) (.type T) = some k := by
    simp only [isTys] at g
    cases e : isTy d T with
    | none => rw [e] at g; cases g
    | some b =>
      rw [e] at g
      cases b <;> (cases g; exact kit_ty (isTy_kit e))
  exact ⟨v, .ty T, _, _, k, rfl, .ty T, tyx_of (P.rv.rep P.ok f1) (isTys_plain g), g', q _ _ _ ((Post.leaf (F := H1) P.ok (.bl _) rfl).after P.fw)⟩
theorem paired_ty : ∀ tys : List String, Paired ClsV (tys.map V.ty) (tys.map Value.type)
  | [] => .nil
  | t :: ts => .cons (.ty t) (paired_ty ts)
theorem snd_isiT {tys : List String} {ts : List Expr} {y : Str} {p p3 : Pos} {k3 : Nat} (hg : Gl X y) (hm : X.mg y = none) (hv : bootBuiltins y = some (.builtin "isinstance")) (ha : Snd Φ X a xa) (ht : PTys X ts tys) (hl : tys.length ≤ lim := by decide) (h0 : tys ≠ [] := by exact List.cons_ne_nil _ _) (hn : y ≠ "__name__" := by decide) (hdb : (y == ("__debug__" : Str)) = false := by decide)
    (hs : starEach [a, .Tuple ts k3 p3] X.env = (false, eval a X.env) :: starEach [.Tuple ts k3 p3] X.env := by exact star_cons rfl) (hs2 : starEach [.Tuple ts k3 p3] X.env = (false, eval (.Tuple ts k3 p3) X.env) :: starEach [] X.env := by exact star_cons rfl) (hpl : (backTo pos (starEach [.Tuple ts k3 p3] X.env)).any (·.1) = false := by rfl) : Snd Φ X (.Call (.Name y p) [a, .Tuple ts k3 p3] [] pos) (.isi xa tys) := .mk fun env r env' h S σ H ok Q q => by
  obtain ⟨r1, d, k, e1, f1, g, rfl⟩ := ev_isi_inv h
  refine any_of (pe_callB call_isiT hg hm hv (pa_cons pe_any (pa_cons (pe_tup ht) pa_nil hs2) hs) hn hdb hs hpl) (ha env r1 env' e1 S σ H ok _ fun v S1 H1 P => ?_)
  refine ⟨lim_line (by rw [List.length_map]; exact hl), fun tp htp => ?_⟩
  have hpl : plainD d = true := by
    cases tys with
    | nil => exact absurd rfl h0
    | cons t ts => exact isTys_plain g
  refine ⟨v, tp, _, _, _, k, rfl, upd_same, paired_ty tys, tyx_of ((P.rv.rep P.ok f1).mono (le_upd htp)) hpl, isTys_kit g, ?_⟩
  exact q _ _ _ ((Post.leaf (F := H1) (P.ok.new htp) (.bl _) rfl).after (P.fw.trans (Fw.new htp)))

/-! ### methods of a list that a slot owns -/
/-- a method of a list does what meD says -/
def MeD (X : Cx) (id : String) (m : Me) : Prop := ∀ xs ds d ys, meD m xs ds = some (d, ys) → ∀ (pins : List (Addr × Obj)) (s : Shared) (σ1 : L2.St) (H F : Hp) (l : Addr) (vs ws : List V) (v : Value) (us : List Value) (Q : VK),
  Inv X pins σ1 H s → RelV (.ref l) v → Vals ws us → H l = some (.lst vs) → Reps X.K F vs xs → Reps X.K F ws ds → (∀ y vs', Rep X.K F y d → Reps X.K F vs' ys → Q y (upd H l (.lst vs'))) → wpAny (model X.prog X.w) X.A (call (.builtin id) (v :: us)) (EP X pins σ1 Q) X.xe s
theorem med_append : MeD X "list.append" .append := by
  intro xs ds d ys h pins s σ1 H F l vs ws v us Q I rx rv hl h1 h2 q
  match ds, h with
  | [y], h =>
    simp only [meD] at h
    split at h
    · rename_i hc
      cases h
      cases h2 with
      | cons g1 g2 =>
        cases g2
        exact mt_append pins s σ1 H _ _ v us Q I rx rv ⟨l, vs, _, rfl, rfl, hl, by rw [h1.length, sizeLine_eq]; unfold lim at hc; omega, q _ _ .non (h1.append (.cons g1 .nil))⟩
    · cases h
theorem Reps.dropLast {K : PySem.W.Frag} {F : Hp} {v : List V} {d : List D} (h : Reps K F v d) : Reps K F v.dropLast d.dropLast := by
  rw [List.dropLast_eq_take, List.dropLast_eq_take, h.length]
  exact h.take _
theorem med_pop : MeD X "list.pop" .pop := by
  intro xs ds d ys h pins s σ1 H F l vs ws v us Q I rx rv hl h1 h2 q
  match ds, h with
  | [], h =>
    simp only [meD] at h
    cases e : xs[xs.length - 1]? with
    | none => rw [e] at h; cases h
    | some y =>
      rw [e] at h
      cases h
      cases h2
      obtain ⟨w, g1, g2⟩ := h1.get e
      rw [← h1.length] at g1
      exact mt_pop pins s σ1 H _ _ v us Q I rx rv ⟨l, vs, w, rfl, rfl, hl, g1, q _ _ g2 h1.dropLast⟩
theorem med_popAt : MeD X "list.pop" .popAt := by
  intro xs ds d ys h pins s σ1 H F l vs ws v us Q I rx rv hl h1 h2 q
  match ds, h with
  | [.int i], h =>
    simp only [meD] at h
    cases e : ixN xs.length i with
    | none => rw [e] at h; cases h
    | some k =>
      rw [e] at h
      dsimp only at h
      cases e2 : xs[k]? with
      | none => rw [e2] at h; cases h
      | some y =>
        rw [e2] at h
        dsimp only at h
        split at h
        · rename_i hc
          cases h
          rw [Bool.and_eq_true, decide_eq_true_iff, decide_eq_true_iff] at hc
          obtain ⟨w, g1, g2⟩ := h1.get e2
          cases h2 with
          | cons g3 g4 =>
            cases g4
            cases (g3.int_inv)
            exact mt_popAt pins s σ1 H _ _ v us Q I rx rv ⟨l, vs, i, k, w, rfl, rfl, hl, hc.1, hc.2, (by rw [h1.length]; exact (ixN_seq e).1), g1, q _ _ g2 (h1.eraseIdx k)⟩
        · cases h
theorem med_reverse : MeD X "list.reverse" .reverse := by
  intro xs ds d ys h pins s σ1 H F l vs ws v us Q I rx rv hl h1 h2 q
  match ds, h with
  | [], h =>
    cases h
    cases h2
    exact mt_reverse pins s σ1 H _ _ v us Q I rx rv ⟨l, vs, rfl, rfl, hl, q _ _ .non h1.reverse⟩
end
end DI

set_option maxRecDepth 100000
/-! DM: min of data that are alike. -/
namespace DI
open PySem PySem.Spec PyProof.Rows L2
section
variable {Φ : Fns} {X : Cx}
theorem depthAll_mx {m : Nat} : ∀ {ds : List D}, (∀ d ∈ ds, d.depth ≤ m) → PyData.depthAll ds ≤ m
  | [], _ => Nat.zero_le _
  | d :: ds, h => Nat.max_le.mpr ⟨h d List.mem_cons_self, depthAll_mx fun e he => h e (List.mem_cons_of_mem _ he)⟩
theorem readsAll_each {h : Heap} : ∀ {us : List Value} {ds : List D}, PySem.W.EachIs (fun v d => ∃ as, Reads h v d as) us ds → ∃ as, ReadsAll h us ds as
  | _, _, .nil => ⟨_, .nil⟩
  | _, _, .cons ⟨_, r⟩ t => by
    obtain ⟨_, q⟩ := readsAll_each t
    exact ⟨_, .cons r q⟩
theorem each_ix {α : Type} {R : Value → α → Prop} : ∀ {us : List Value} {ds : List α}, PySem.W.EachIs R us ds → ∀ {i : Nat} {v : Value}, us[i]? = some v → ∃ d, ds[i]? = some d ∧ R v d
  | _, _, .nil, _, _, h => by simp at h
  | _, _, .cons r _, 0, _, h => by
    rw [List.getElem?_cons_zero] at h
    cases h
    exact ⟨_, by simp, r⟩
  | _, _, .cons _ t, i + 1, _, h => by
    rw [List.getElem?_cons_succ] at h
    obtain ⟨d, e, q⟩ := each_ix t h
    exact ⟨d, by simpa using e, q⟩
theorem no_none {ds : List D} (h : sortOkD ds = true) : ∀ d ∈ ds, d ≠ .none := fun d hd z => by
  subst z
  unfold sortOkD at h
  rw [Bool.and_eq_true, Bool.and_eq_true, Bool.or_eq_true] at h
  rcases h.1.2 with h | h
  · have := List.all_eq_true.mp h _ hd
    cases this
  · have := List.all_eq_true.mp h _ hd
    cases this
theorem min_seq (hc : X.calm = true) (hu : X.A.units + 65 < cLine) {pins : List (Addr × Obj)} {s : Shared} {σ1 σ : L2.St} {H : Hp} {S : Addr → Prop} {env : Env} {Q : VK} {l : Addr} {its : List Value} {ws : List V} {x : D} {xs : List D}
    (I : Inv X pins σ1 H s) (ok : EnvOk X.K S σ H env) (hl : s.heap.IsList l its.toArray) (rv : Vals ws its) (rp : Reps X.K (er S H) ws (x :: xs)) (hk : sortOkD (x :: xs) = true)
    (q : ∀ z, Post X.K S H σ env (.im (PySem.W.minD x xs)) env z S H → Q z H) : wpAny (model X.prog X.w) X.A (call (.builtin "min") [.ref l]) (EP X pins σ1 Q) X.xe s := by
  obtain ⟨k1, k2, k3⟩ := sortOk_of hk
  have er1 := each_of rv rp
  have er2 := each_rd I er_full (fun d hd => (k3 d hd).1) er1
  obtain ⟨as, ra⟩ := readsAll_each er2
  have hd := depthAll_mx fun d hd => (k3 d hd).2
  refine PySem.W.min_list_data (I.ok.hd hc) hl ra ⟨k1, no_none hk⟩ (by omega) fun i v h' tk bs hi hr hkp => ?_
  have hi' : its[i]? = some v := by simpa using hi
  obtain ⟨d, e1, x0, rel, rep⟩ := each_ix er1 hi'
  obtain ⟨d', e2, bs', rd⟩ := each_ix er2 hi'
  rw [e1] at e2
  cases e2
  have : PySem.W.minD x xs = d := (PyProof.Rows.reads_det (fun b o e _ => hkp b o e) rd hr).1
  rw [this] at q
  exact ⟨x0, H, I.kept hkp, rel, q _ (Post.same ok rep fun _ z => by cases z)⟩
theorem cal_min (hu : X.A.units + 65 < cLine) (hc : X.calm = true) : CalD X (.builtin "min") (biD .min) := by
  intro ds r h pins s σ1 σ H S env vs us Q I rv ok hr q
  match ds, h with
  | [.int i, .int j], h =>
    cases h
    obtain ⟨v, w, rfl, hv, hw⟩ := two_of hr
    cases (Rep.int_inv hv)
    cases (Rep.int_inv hw)
    exact call_min2 hc pins s σ1 H _ us Q I rv ⟨i, j, rfl, q _ _ _ (Post.leaf (F := H) ok (.int _) rfl)⟩
  | [.str i, .str j], h =>
    cases h
    obtain ⟨v, w, rfl, hv, hw⟩ := two_of hr
    cases hv
    cases hw
    exact call_min2S hc pins s σ1 H _ us Q I rv ⟨i, j, rfl, q _ _ _ (Post.leaf (F := H) ok (.str _) rfl)⟩
  | [.list xs], h =>
    simp only [biD] at h
    cases e : intsD xs with
    | none =>
      rw [e] at h
      dsimp only at h
      obtain ⟨v, rfl, hv⟩ := one_of hr
      obtain ⟨a, ws, rfl, h1, h2⟩ := hv
      cases xs with
      | nil => cases h
      | cons x xs =>
        unfold minFD at h
        dsimp only at h
        by_cases hk : sortOkD (x :: xs) = true
        · rw [if_pos hk] at h
          cases h
          obtain ⟨its, rv2, hl, _⟩ := I.list h1
          rw [Vals.ref1 rv]
          exact min_seq hc hu I ok hl.isList rv2 h2 hk fun z P => q _ _ _ P
        · rw [if_neg hk] at h
          cases h
    | some is =>
      rw [e] at h
      dsimp only at h
      cases e0 : minL is with
      | none => rw [e0] at h; cases h
      | some m0 =>
      rw [e0] at h
      cases h
      obtain ⟨v, rfl, hv⟩ := one_of hr
      obtain ⟨a, vs, rfl, h1, h2⟩ := hv
      obtain ⟨e1, e2⟩ := ints_of h2 e
      subst e1
      obtain ⟨g1, g2⟩ := minL_spec e0
      refine cr_min hc pins s σ1 H _ us Q I rv ⟨a, is, rfl, h1, List.length_pos_of_mem g1, fun m k1 k2 => ?_⟩
      have z1 := g2 m k1
      have z2 := k2 m0 g1
      have : m = m0 := by omega
      subst this
      exact q _ _ _ (Post.leaf (F := H) ok (.int _) rfl)
end
end DI

set_option maxRecDepth 100000
/-! DI9: methods and calls in an expression. -/
namespace DI
open PySem PySem.Spec PyProof.Rows L2
section
variable {K : PySem.W.Frag} {S S' : Addr → Prop} {H H' : Hp} {σ : L2.St} {env env' : Env}
theorem mut_not_frz {p : Addr} {u : HO} (h : Rd H p u) (m : Mut (H p)) : H p = some u := by
  rcases h with h | ⟨o, h⟩
  · exact h
  · rw [h] at m; exact m.elim
theorem er_upd {p : Addr} {o : HO} (hs : S p) : er S (upd H p o) = er S H := by
  funext a
  unfold er
  by_cases ha : S a
  · rw [if_pos ha, if_pos ha]
  · rw [if_neg ha, if_neg ha, upd_ne (fun z => ha (by rw [z]; exact hs))]
/-- a list or dict that a slot owns is changed -/
theorem EnvOk.mutate {i : Nat} {k : Kd} {d d' : D} {p : Addr} {o : HO} (ok : EnvOk K S σ H env) (e : env[i]? = some (.ow k d)) (hk : k ≠ .lck) (hp : σ[i]? = some (some (.ref p))) (ho : Own K (er S H) (upd H p o) p d') (hm : Mut (some o)) :
    EnvOk K S σ (upd H p o) (env.set i (.ow k d')) ∧ Fw S H σ env S (upd H p o) σ (env.set i (.ow k d')) := by
  obtain ⟨p', q1, hs, q3, q4⟩ := ok.ow i _ d e
  rw [hp] at q1
  cases q1
  have hi : i < env.length := (List.getElem?_eq_some_iff.mp e).1
  have get : ∀ (j : Nat) (s : Sl), (env.set i (.ow k d'))[j]? = some s → (i = j ∧ s = .ow k d') ∨ (i ≠ j ∧ env[j]? = some s) := fun j s h => getElem?_set_cases h
  refine ⟨⟨by rw [List.length_set]; exact ok.len, fun a h => upd_dom (ok.dom a h), fun j d1 e1 => ?_, fun j l d1 e1 => ?_, fun j1 j2 l1 l2 d1 d2 q h1 h2 h3 h4 => ?_⟩, ⟨fun a h => .inl h, fun a h _ _ => h, fun a u h n => ?_, fun a h => ?_, fun j d1 h => ?_, fun j d1 h => ?_, fun j d1 h => ?_, fun j d1 h => ?_, fun a h => upd_dom h⟩⟩
  · rw [er_upd hs]
    rcases get j _ e1 with ⟨_, z⟩ | ⟨_, z⟩
    · cases z
    · exact ok.im j d1 z
  · rw [er_upd hs]
    rcases get j _ e1 with ⟨rfl, z⟩ | ⟨ne, z⟩
    · cases z
      exact ⟨p, hp, hs, ho, fun _ => by rw [upd_same]; exact hm⟩
    · obtain ⟨q, h1, h2, h3, h4⟩ := ok.ow j l d1 z
      have nq : q ≠ p := fun w => by
        subst w
        exact ne (ok.inj i j _ _ _ _ _ e z hp h1)
      refine ⟨q, h1, h2, h3.mono (Le.refl _) (fun u r => ?_), fun w => by rw [upd_ne nq]; exact h4 w⟩
      unfold Rd at r ⊢
      rw [upd_ne nq]
      exact r
  · have f : ∀ (j : Nat) l d1, (env.set i (.ow k d'))[j]? = some (.ow l d1) → ∃ l' d', env[j]? = some (.ow l' d') := fun j l d1 h => by
      rcases get j _ h with ⟨rfl, _⟩ | ⟨_, z⟩
      · exact ⟨_, _, e⟩
      · exact ⟨_, _, z⟩
    obtain ⟨_, _, g1⟩ := f j1 _ _ h1
    obtain ⟨_, _, g2⟩ := f j2 _ _ h2
    exact ok.inj j1 j2 _ _ _ _ q g1 g2 h3 h4
  · have np : a ≠ p := fun z => by
      subst z
      cases k with
      | own => exact n (.inl ⟨i, d, e, hp⟩)
      | bor => exact n (.inr ⟨i, d, e, hp⟩)
      | lck => exact hk rfl
    rw [upd_ne np]
    exact h
  · obtain ⟨j, d1, h1, h2⟩ := h
    rcases get j _ h1 with ⟨rfl, z⟩ | ⟨_, z⟩
    · cases z
      exact .inl ⟨i, d, e, h2⟩
    · exact .inl ⟨j, d1, z, h2⟩
  · by_cases q : i = j
    · subst q
      rw [e] at h
      cases h
      exact ⟨d', by rw [List.getElem?_set_self hi], rfl⟩
    · exact ⟨d1, by rw [List.getElem?_set_ne q]; exact h, rfl⟩
  · rcases get j _ h with ⟨rfl, z⟩ | ⟨_, z⟩
    · cases z
      exact ⟨d, e, rfl⟩
    · exact ⟨d1, z, rfl⟩
  · have q : i ≠ j := fun q => by
      subst q
      rw [e] at h
      cases h
      exact hk rfl
    exact ⟨by rw [List.getElem?_set_ne q]; exact h, rfl⟩
  · rcases get j _ h with ⟨rfl, z⟩ | ⟨_, z⟩
    · cases z
      exact absurd rfl hk
    · exact ⟨z, rfl⟩
end
section
variable {Φ : Fns} {X : Cx} {a b c e : Expr} {es rest : List Expr} {xa xb xc x xl xh : Xp} {xs : Xps} {pos apos cpos p2 : Pos}
/-- what a method wants of its values, whatever the slots are -/
def rMet (X : Cx) (id : String) : V → List V → Hp → VK → Prop := fun x xs H Q => ∀ (pins : List (Addr × Obj)) (s : Shared) (σ1 : L2.St) (v : Value) (us : List Value), Inv X pins σ1 H s → RelV x v → Vals xs us → wpAny (model X.prog X.w) X.A (call (.builtin id) (v :: us)) (EP X pins σ1 Q) X.xe s
theorem rMet_ok {id : String} : MtR X id (rMet X id) := fun pins s σ H x xs v us Q I rx r h => h pins s σ v us I rx r
theorem ev_me_inv {m : Me} {i : Nat} {env env' : Env} {r : R} (h : ev Φ (.me m i xs) env = some (r, env')) : ∃ k0 xs0 ds en1 k zs d ys, env[i]? = some (.ow k0 (.list xs0)) ∧ evS Φ xs env = some (ds, en1) ∧ en1[i]? = some (.ow k (.list zs)) ∧ k ≠ .lck ∧ meD m zs ds = some (d, ys) ∧ r = .im d ∧ env' = en1.set i (.ow k (.list ys)) := by
  simp only [ev] at h
  cases e0 : env[i]? with
  | none => rw [e0] at h; cases h
  | some s0 =>
    rw [e0] at h
    cases s0 with
    | un => cases h
    | im d => cases h
    | ow k0 d0 =>
      cases d0 <;> first | cases h | skip
      rename_i xs0
      dsimp only at h
      cases e1 : evS Φ xs env with
      | none => rw [e1] at h; cases h
      | some p1 =>
        obtain ⟨ds, en1⟩ := p1
        rw [e1] at h
        dsimp only at h
        cases e2 : en1[i]? with
        | none => rw [e2] at h; cases h
        | some s1 =>
          rw [e2] at h
          cases s1 with
          | un => cases h
          | im d => cases h
          | ow k d1 =>
            cases d1 <;> first | cases h | skip
            rename_i zs
            dsimp only at h
            by_cases hk : k = .lck
            · rw [if_pos hk] at h; cases h
            · rw [if_neg hk] at h
              cases e3 : meD m zs ds with
              | none => rw [e3] at h; cases h
              | some p3 =>
                obtain ⟨d, ys⟩ := p3
                rw [e3] at h
                cases h
                exact ⟨k0, xs0, ds, en1, k, zs, d, ys, rfl, rfl, e2, hk, e3, rfl, rfl⟩
theorem me_run {m : Me} {id : String} {i : Nat} (hm : MeD X id m) (hv : Snd Φ X a (.v i)) (ha : SndS Φ X es xs) {env env' : Env} {r : R} (h : ev Φ (.me m i xs) env = some (r, env')) {S : Addr → Prop} {σ : L2.St} {H : Hp} (ok : EnvOk X.K S σ H env) {Q : VK} (q : ∀ v S' H', Post X.K S H σ env r env' v S' H' → Q v H') :
    tBM X.K "list" (rMet X id) (AnyE X a) (AnyA X es) σ H Q := by
  obtain ⟨k0, xs0, ds, en1, k, zs, d, ys, e0, e1, e2, hk, e3, rfl, rfl⟩ := ev_me_inv h
  have ev0 : ev Φ (.v i) env = some (.al i, env) := by simp only [ev, e0]
  refine hv env (.al i) env ev0 S σ H ok _ fun v S1 H1 P => ?_
  have hσ : σ[i]? = some (some v) := P.rv
  obtain ⟨p, g1, _, g2, _⟩ := P.ok.ow i _ _ e0
  rw [hσ] at g1
  cases g1
  obtain ⟨ws, g3, _⟩ := g2
  refine ⟨.inl ⟨rfl, ws, .inl g3⟩, ha env ds en1 e1 S1 σ H1 P.ok _ fun vs S2 H2 f2 ok2 rs pins s σ1 v us I rx rv => ?_⟩
  obtain ⟨p', g1', g4, g5, g6⟩ := ok2.ow i _ _ e2
  rw [hσ] at g1'
  cases g1'
  obtain ⟨ws', g7, g8⟩ := g5
  have hl := mut_not_frz g7 (g6 hk)
  refine hm zs ds d ys e3 pins s σ1 H2 (er S2 H2) p ws' vs v us Q I rx rv hl g8 rs fun y vs' r1 r2 => ?_
  obtain ⟨m1, m2⟩ := ok2.mutate (d' := .list ys) (o := .lst vs') e2 hk hσ ⟨vs', .inl upd_same, r2⟩ True.intro
  refine q _ _ _ ⟨(P.fw.trans f2).trans m2, m1, ?_, fun _ _ z => by cases z⟩
  show Rep X.K (er S2 (upd H2 p (.lst vs'))) y d
  rw [er_upd g4]
  exact r1
theorem snd_me {m : Me} {id : String} {nm : Str} {i : Nat} (slot : Slot "list" nm id) (hty : typeOf (.builtin id) = pure (.type "method_descriptor")) (hm : MeD X id m) (hv : Snd Φ X a (.v i)) (ha : SndS Φ X (e :: es) xs)
    (hbase : attributeBase a nm X.env (eval a X.env) = eval a X.env := by rfl)
    (hfew : ((backTo cpos (starEach (e :: es) X.env)).all (fun x => !x.1) && (backToKw cpos (keywordEach [] X.env)).all (fun x => x.1.isSome)
      && decide ((e :: es).length + ([] : List Keyword).length + (if ([] : List Keyword).isEmpty then 0 else 1) < 30)) = true := by rfl)
    (hline : (apos.endLine == cpos.line) = true := by rfl) (hs : starEach (e :: es) X.env = (false, eval e X.env) :: starEach es X.env := by exact star_cons rfl) (hplain : (backTo cpos (starEach es X.env)).any (·.1) = false := by rfl) :
    Snd Φ X (.Call (.Attribute a nm apos) (e :: es) [] cpos) (.me m i xs) := .mk fun env r env' h S σ H ok Q q =>
  any_of (pe_bm PySem.F.plainAttrs_list slot hty rMet_ok pe_any pa_any hbase hfew hline hs hplain) (me_run hm hv ha h ok q)
theorem snd_me0 {m : Me} {id : String} {nm : Str} {i : Nat} (slot : Slot "list" nm id) (hty : typeOf (.builtin id) = pure (.type "method_descriptor")) (hm : MeD X id m) (hv : Snd Φ X a (.v i))
    (hbase : attributeBase a nm X.env (eval a X.env) = eval a X.env := by rfl) (hline : (apos.endLine == cpos.line) = true := by rfl) :
    Snd Φ X (.Call (.Attribute a nm apos) [] [] cpos) (.me m i .nil) := .mk fun env r env' h S σ H ok Q q => by
  have t := me_run hm hv sndS_nil h ok q
  refine any_of (pe_bm0 PySem.F.plainAttrs_list slot hty rMet_ok pe_any hbase hline) ?_
  obtain ⟨k0, xs0, ds, en1, k, zs, d, ys, e0, e1, e2, hk, e3, rfl, rfl⟩ := ev_me_inv h
  simp only [evS] at e1
  cases e1
  have ev0 : ev Φ (.v i) env = some (.al i, env) := by simp only [ev, e0]
  refine hv env (.al i) env ev0 S σ H ok _ fun v S1 H1 P => ?_
  have hσ : σ[i]? = some (some v) := P.rv
  obtain ⟨p, g1, g4, g2, g6⟩ := P.ok.ow i _ _ e2
  rw [hσ] at g1
  cases g1
  obtain ⟨ws', g7, g8⟩ := g2
  have hl := mut_not_frz g7 (g6 hk)
  refine ⟨.inl ⟨rfl, ws', .inl g7⟩, fun pins s σ1 v us I rx rv => ?_⟩
  refine hm zs [] d ys e3 pins s σ1 H1 (er S1 H1) p ws' [] v us Q I rx rv hl g8 .nil fun y vs' r1 r2 => ?_
  obtain ⟨m1, m2⟩ := P.ok.mutate (d' := .list ys) (o := .lst vs') e2 hk hσ ⟨vs', .inl upd_same, r2⟩ True.intro
  refine q _ _ _ ⟨P.fw.trans m2, m1, ?_, fun _ _ z => by cases z⟩
  show Rep X.K (er S1 (upd H1 p (.lst vs'))) y d
  rw [er_upd g4]
  exact r1

/-! ### calls of defs -/
/-- a def's promise: it does what g says of its parameters' slots -/
def spD (K : PySem.W.Frag) (g : List Sl → Option (R × List Sl)) : Sp := fun vs H Q _ => ∃ (S : Addr → Prop) (args : List Sl) (r : R) (fin : List Sl), g args = some (r, fin) ∧ EnvOk K S (vs.map some) H args ∧
  (∀ (i : Nat) d, args[i]? ≠ some (.ow .own d)) ∧ ∀ v S2 H2, Post K S H (vs.map some) args r fin v S2 H2 → Q v H2
/-- an error of the class cls with the dict d: its data -/
def ExR (K : PySem.W.Frag) (F : Hp) (cls : Value) (d : Option Addr) (y : D) : Prop := ∃ (C : Addr) (c : Str), cls = .ref C ∧ ClsAt K c C ∧ ((d = none ∧ y = .dict [(.none, .str c)]) ∨ ∃ (dd : Addr) (n : Str) (w : V) (x : D), d = some dd ∧ Rd F dd (.xd [(n, w)]) ∧ Rep K F w x ∧ y = .dict [(.none, .str c), (.str n, x)])
/-- .. or that it raises what g says -/
def spE (K : PySem.W.Frag) (g : List Sl → Option (D × List Sl)) (vs : List V) (H : Hp) (E : XK) : Prop := ∃ (S : Addr → Prop) (args : List Sl) (y : D) (fin : List Sl), g args = some (y, fin) ∧ EnvOk K S (vs.map some) H args ∧
  (∀ (i : Nat) d, args[i]? ≠ some (.ow .own d)) ∧ ∀ cls d S2 H2, Post K S H (vs.map some) args (.im .none) fin .non S2 H2 → ExR K (er S2 H2) cls d y → E cls d H2
def spX (K : PySem.W.Frag) (g : List Sl → Option (R × List Sl)) (gx : List Sl → Option (D × List Sl)) : Sp := fun vs H Q E => spD K g vs H Q E ∨ spE K gx vs H E
theorem back_cases : ∀ (rs : List R) (fin : List Sl) (env : Env) (i : Nat) (s : Sl), (alsOf rs).Nodup → (backSl env rs fin)[i]? = some s →
    (∃ (n : Nat) (k : Kd) (d0 d : D), rs[n]? = some (.al i) ∧ fin[n]? = some (.ow .bor d) ∧ env[i]? = some (.ow k d0) ∧ s = .ow k d) ∨ (env[i]? = some s ∧ ¬ ∃ (n : Nat) (d : D) (k : Kd) (d0 : D), rs[n]? = some (.al i) ∧ fin[n]? = some (.ow .bor d) ∧ env[i]? = some (.ow k d0))
  | [], fin, env, i, s, _, h => by
    have h' : env[i]? = some s := by
      cases fin <;> exact h
    exact .inr ⟨h', fun ⟨n, d, k, d0, q, _⟩ => by simp at q⟩
  | r :: rs, [], env, i, s, _, h => by
    have h' : env[i]? = some s := by
      cases r <;> exact h
    exact .inr ⟨h', fun ⟨n, d, k, d0, _, q, _⟩ => by simp at q⟩
  | r :: rs, f :: fin, env, i, s, nd, h => by
    -- the plain step: nothing is done at this place
    have plain : (alsOf rs).Nodup → (backSl env rs fin)[i]? = some s → (∀ d k d0, ¬ (r = .al i ∧ f = .ow .bor d ∧ env[i]? = some (.ow k d0))) →
        (∃ (n : Nat) (k : Kd) (d0 d : D), (r :: rs)[n]? = some (.al i) ∧ (f :: fin)[n]? = some (.ow .bor d) ∧ env[i]? = some (.ow k d0) ∧ s = .ow k d) ∨ (env[i]? = some s ∧ ¬ ∃ (n : Nat) (d : D) (k : Kd) (d0 : D), (r :: rs)[n]? = some (.al i) ∧ (f :: fin)[n]? = some (.ow .bor d) ∧ env[i]? = some (.ow k d0)) := fun nd' h' no => by
      rcases back_cases rs fin env i s nd' h' with ⟨n, k, d0, d, h1, h2, h3, h4⟩ | ⟨h1, h2⟩
      · exact .inl ⟨n + 1, k, d0, d, by simpa using h1, by simpa using h2, h3, h4⟩
      · refine .inr ⟨h1, fun ⟨n, d, k, d0, q1, q2, q3⟩ => ?_⟩
        cases n with
        | zero => exact no d k d0 ⟨by simpa using q1, by simpa using q2, q3⟩
        | succ n => exact h2 ⟨n, d, k, d0, by simpa using q1, by simpa using q2, q3⟩
    cases r with
    | im d => exact plain nd (by cases f <;> exact h) fun d k d0 q => by cases q.1
    | fr d => exact plain nd (by cases f <;> exact h) fun d k d0 q => by cases q.1
    | al j =>
      have nd' : (alsOf rs).Nodup := (List.nodup_cons.mp nd).2
      have nj : j ∉ alsOf rs := (List.nodup_cons.mp nd).1
      have jn : ∀ n : Nat, rs[n]? ≠ some (.al j) := fun n q => by
        have : ∀ (rs : List R) (n : Nat), rs[n]? = some (.al j) → j ∈ alsOf rs := fun rs => by
          induction rs with
          | nil => intro n q; simp at q
          | cons r rs ih =>
            intro n q
            cases n with
            | zero =>
              have e : r = .al j := by simpa using q
              subst e
              exact List.mem_cons_self
            | succ n =>
              have m := ih n (by simpa using q)
              cases r with
              | im d => exact m
              | fr d => exact m
              | al l => exact List.mem_cons_of_mem _ m
        exact nj (this rs n q)
      cases f with
      | un => exact plain nd' h fun d k d0 q => by cases q.2.1
      | im d => exact plain nd' h fun d k d0 q => by cases q.2.1
      | ow kf df =>
        cases kf with
        | own => exact plain nd' h fun d k d0 q => by cases q.2.1
        | lck => exact plain nd' h fun d k d0 q => by cases q.2.1
        | bor =>
          simp only [backSl] at h
          cases q : env[j]? with
          | none =>
            rw [q] at h
            exact plain nd' h fun d k d0 z => by
              have e : j = i := by simpa using z.1
              rw [← e, q] at z
              cases z.2.2
          | some sj =>
            rw [q] at h
            cases sj with
            | un =>
              exact plain nd' h fun d k d0 z => by
                have e : j = i := by simpa using z.1
                rw [← e, q] at z
                cases z.2.2
            | im dj =>
              exact plain nd' h fun d k d0 z => by
                have e : j = i := by simpa using z.1
                rw [← e, q] at z
                cases z.2.2
            | ow k dj =>
              dsimp only at h
              have hj : j < env.length := (List.getElem?_eq_some_iff.mp q).1
              rcases back_cases rs fin _ i s nd' h with ⟨n, k', d0, d, h1, h2, h3, h4⟩ | ⟨h1, h2⟩
              · have ne : j ≠ i := fun z => by
                  subst z
                  exact jn n h1
                rw [List.getElem?_set_ne ne] at h3
                exact .inl ⟨n + 1, k', d0, d, by simpa using h1, by simpa using h2, h3, h4⟩
              · by_cases e : j = i
                · subst e
                  rw [List.getElem?_set_self hj] at h1
                  cases h1
                  exact .inl ⟨0, k, dj, df, rfl, rfl, q, rfl⟩
                · rw [List.getElem?_set_ne e] at h1 h2
                  refine .inr ⟨h1, fun ⟨n, d, k', d0, q1, q2, q3⟩ => ?_⟩
                  cases n with
                  | zero =>
                    have z : j = i := by simpa using q1
                    exact e z
                  | succ n => exact h2 ⟨n, d, k', d0, by simpa using q1, by simpa using q2, q3⟩
theorem back_len : ∀ (rs : List R) (fin : List Sl) (env : Env), (backSl env rs fin).length = env.length
  | [], fin, env => by cases fin <;> rfl
  | r :: rs, [], env => by cases r <;> rfl
  | r :: rs, f :: fin, env => by
    cases r with
    | im d => cases f <;> exact back_len rs fin env
    | fr d => cases f <;> exact back_len rs fin env
    | al j =>
      cases f with
      | un => exact back_len rs fin env
      | im d => exact back_len rs fin env
      | ow kf df =>
        cases kf with
        | own => exact back_len rs fin env
        | lck => exact back_len rs fin env
        | bor =>
          simp only [backSl]
          split
          · rw [back_len rs fin _, List.length_set]
          · exact back_len rs fin env
end
end DI

set_option maxRecDepth 100000
/-! DI10: calls of defs. -/
namespace DI
open PySem PySem.Spec PyProof.Rows L2
section
variable {K : PySem.W.Frag} {S S' S0 : Addr → Prop} {H H' H0 : Hp} {σ : L2.St} {env env' env0 : Env}
theorem RVs.length : ∀ {rs : List R} {vs : List V}, RVs K S H σ env rs vs → rs.length = vs.length
  | _, _, .nil => rfl
  | _, _, .cons _ t => congrArg (· + 1) (RVs.length t)
theorem RVs.get : ∀ {rs : List R} {vs : List V} {n : Nat} {r : R}, RVs K S H σ env rs vs → rs[n]? = some r → ∃ v, vs[n]? = some v ∧ RV K S H σ env r v
  | _, _, _, _, .nil, h => by simp at h
  | _, _, 0, _, .cons h _, e => by simp at e; subst e; exact ⟨_, rfl, h⟩
  | _, _, n + 1, r, .cons _ t, e => by
    obtain ⟨v, h1, h2⟩ := RVs.get (n := n) t (by simpa using e)
    exact ⟨v, by simpa using h1, h2⟩
theorem par_len : ∀ {rs : List R} {ss : List Sl}, parSls env rs = some ss → ss.length = rs.length
  | [], ss, h => by cases h; rfl
  | r :: rs, ss, h => by
    simp only [parSls] at h
    cases e1 : parSl env r with
    | none => rw [e1] at h; cases h
    | some s =>
      cases e2 : parSls env rs with
      | none => rw [e1, e2] at h; cases h
      | some t =>
        rw [e1, e2] at h
        cases h
        exact congrArg (· + 1) (par_len e2)
theorem par_get : ∀ {rs : List R} {ss : List Sl} {n : Nat} {s : Sl}, parSls env rs = some ss → ss[n]? = some s → ∃ r, rs[n]? = some r ∧ parSl env r = some s
  | [], ss, n, s, h, e => by cases h; simp at e
  | r :: rs, ss, n, s, h, e => by
    simp only [parSls] at h
    cases e1 : parSl env r with
    | none => rw [e1] at h; cases h
    | some s1 =>
      cases e2 : parSls env rs with
      | none => rw [e1, e2] at h; cases h
      | some t =>
        rw [e1, e2] at h
        cases h
        cases n with
        | zero =>
          have e' : s1 = s := by simpa using e
          subst e'
          exact ⟨r, rfl, e1⟩
        | succ n =>
          obtain ⟨r', h1, h2⟩ := par_get e2 (n := n) (by simpa using e)
          exact ⟨r', by simpa using h1, h2⟩
theorem als_inj {a : Nat} : ∀ {rs : List R} {i j : Nat}, (alsOf rs).Nodup → rs[i]? = some (.al a) → rs[j]? = some (.al a) → i = j := by
  intro rs
  have mem : ∀ (rs : List R) (n : Nat), rs[n]? = some (.al a) → a ∈ alsOf rs := fun rs => by
    induction rs with
    | nil => intro n q; simp at q
    | cons r rs ih =>
      intro n q
      cases n with
      | zero =>
        have e : r = .al a := by simpa using q
        subst e
        exact List.mem_cons_self
      | succ n =>
        have m := ih n (by simpa using q)
        cases r with
        | im d => exact m
        | fr d => exact m
        | al l => exact List.mem_cons_of_mem _ m
  induction rs with
  | nil => intro i j _ h; simp at h
  | cons r rs ih =>
    intro i j nd h1 h2
    have nd' : (alsOf rs).Nodup := by
      cases r with
      | im d => exact nd
      | fr d => exact nd
      | al l => exact (List.nodup_cons.mp nd).2
    cases i with
    | zero =>
      cases j with
      | zero => rfl
      | succ j =>
        have e : r = .al a := by simpa using h1
        subst e
        exact absurd (mem rs j (by simpa using h2)) (List.nodup_cons.mp nd).1
    | succ i =>
      cases j with
      | zero =>
        have e : r = .al a := by simpa using h2
        subst e
        exact absurd (mem rs i (by simpa using h1)) (List.nodup_cons.mp nd).1
      | succ j => rw [ih nd' (i := i) (j := j) (by simpa using h1) (by simpa using h2)]
theorem frs_mem {p : Addr} : ∀ {rs : List R} {vs : List V} {n : Nat} {d : D}, rs[n]? = some (.fr d) → vs[n]? = some (.ref p) → p ∈ frsA rs vs
  | [], _, n, _, h, _ => by simp at h
  | r :: rs, [], n, _, _, h => by simp at h
  | r :: rs, v :: vs, 0, d, h1, h2 => by
    have e1 : r = .fr d := by simpa using h1
    have e2 : v = .ref p := by simpa using h2
    subst e1 e2
    simp [frsA]
  | r :: rs, v :: vs, n + 1, d, h1, h2 => by
    have m := frs_mem (rs := rs) (vs := vs) (n := n) (d := d) (by simpa using h1) (by simpa using h2)
    unfold frsA at m ⊢
    rw [List.zip_cons_cons, List.filterMap_cons]
    split
    · exact m
    · exact List.mem_cons_of_mem _ m
theorem frs_inj {p : Addr} : ∀ {rs : List R} {vs : List V} {i j : Nat} {d e : D}, (frsA rs vs).Nodup → rs[i]? = some (.fr d) → rs[j]? = some (.fr e) → vs[i]? = some (.ref p) → vs[j]? = some (.ref p) → i = j
  | [], _, i, _, _, _, _, h, _, _, _ => by simp at h
  | r :: rs, [], i, _, _, _, _, _, _, h, _ => by simp at h
  | r :: rs, v :: vs, i, j, d, e, nd, h1, h2, h3, h4 => by
    have nd' : (frsA rs vs).Nodup := by
      unfold frsA at nd ⊢
      rw [List.zip_cons_cons, List.filterMap_cons] at nd
      split at nd
      · exact nd
      · exact (List.nodup_cons.mp nd).2
    have hd : ∀ {d : D}, r = .fr d → v = .ref p → p ∉ frsA rs vs := fun {d} e1 e2 => by
      subst e1 e2
      unfold frsA at nd ⊢
      rw [List.zip_cons_cons, List.filterMap_cons] at nd
      exact (List.nodup_cons.mp nd).1
    cases i with
    | zero =>
      cases j with
      | zero => rfl
      | succ j => exact absurd (frs_mem (n := j) (by simpa using h2) (by simpa using h4)) (hd (by simpa using h1) (by simpa using h3))
    | succ i =>
      cases j with
      | zero => exact absurd (frs_mem (n := i) (by simpa using h1) (by simpa using h3)) (hd (by simpa using h2) (by simpa using h4))
      | succ j => rw [frs_inj nd' (i := i) (j := j) (by simpa using h1) (by simpa using h2) (by simpa using h3) (by simpa using h4)]
/-- where a slot of a call's comes from -/
theorem arg_ow {rs : List R} {vs : List V} {ss : List Sl} (P : PostR K S0 H0 σ env0 rs env vs S H) (hp : parSls env rs = some ss) {i : Nat} {k : Kd} {d : D} (h : ss[i]? = some (.ow k d)) :
    ∃ p, vs[i]? = some (.ref p) ∧ S p ∧ Own K (er S H) H p d ∧ (k ≠ .lck → Mut (H p)) ∧
      ((∃ j k', rs[i]? = some (.al j) ∧ env[j]? = some (.ow k' d) ∧ σ[j]? = some (some (.ref p)) ∧ (k = .lck ↔ k' = .lck)) ∨ (rs[i]? = some (.fr d) ∧ k = .bor ∧ ¬ Ch σ env p ∧ ¬ OwnsK .lck σ env p)) ∧ k ≠ .own := by
  obtain ⟨r, h1, h2⟩ := par_get hp h
  obtain ⟨v, g1, g2⟩ := P.rv.get h1
  cases r with
  | im e => cases h2
  | fr e =>
    cases h2
    obtain ⟨p, rfl, q1, q2, q3, q4, q5⟩ := g2
    exact ⟨p, g1, q1, q4, fun _ => q5, .inr ⟨h1, rfl, q2, q3⟩, fun z => by cases z⟩
  | al j =>
    simp only [parSl] at h2
    cases q : env[j]? with
    | none => rw [q] at h2; cases h2
    | some s =>
      rw [q] at h2
      have gv : σ[j]? = some (some v) := g2
      cases s with
      | un => cases h2
      | im e => cases h2
      | ow k' e =>
        obtain ⟨p, q1, q2, q3, q4⟩ := P.ok.ow j _ _ q
        rw [gv] at q1
        cases q1
        cases k' with
        | own => cases h2; exact ⟨p, g1, q2, q3, fun _ => q4 (fun z => by cases z), .inl ⟨j, _, h1, q, gv, ⟨fun z => (by cases z), fun z => (by cases z)⟩⟩, fun z => by cases z⟩
        | bor => cases h2; exact ⟨p, g1, q2, q3, fun _ => q4 (fun z => by cases z), .inl ⟨j, _, h1, q, gv, ⟨fun z => (by cases z), fun z => (by cases z)⟩⟩, fun z => by cases z⟩
        | lck => cases h2; exact ⟨p, g1, q2, q3, q4, .inl ⟨j, _, h1, q, gv, ⟨fun _ => rfl, fun _ => rfl⟩⟩, fun z => by cases z⟩
theorem args_ok {rs : List R} {vs : List V} {ss : List Sl} (P : PostR K S0 H0 σ env0 rs env vs S H) (nd : (alsOf rs).Nodup) (hp : parSls env rs = some ss) : EnvOk K S (vs.map some) H ss := by
  refine ⟨by rw [List.length_map, par_len hp, P.rv.length], P.ok.dom, fun i d h => ?_, fun i k d h => ?_, fun i j k l d e p h1 h2 h3 h4 => ?_⟩
  · obtain ⟨r, h1, h2⟩ := par_get hp h
    obtain ⟨v, g1, g2⟩ := P.rv.get h1
    refine ⟨v, by rw [List.getElem?_map, g1]; rfl, ?_⟩
    cases r with
    | im e => cases h2; exact g2
    | fr e => cases h2
    | al j =>
      simp only [parSl] at h2
      cases q : env[j]? with
      | none => rw [q] at h2; cases h2
      | some s =>
        rw [q] at h2
        have gv : σ[j]? = some (some v) := g2
        cases s with
        | un => cases h2
        | im e =>
          cases h2
          obtain ⟨w, q1, q2⟩ := P.ok.im j _ q
          rw [gv] at q1
          cases q1
          exact q2
        | ow k e => cases k <;> cases h2
  · obtain ⟨p, g1, g2, g3, g4, _⟩ := arg_ow P hp h
    exact ⟨p, by rw [List.getElem?_map, g1]; rfl, g2, g3, g4⟩
  · obtain ⟨p1, a1, _, _, _, a5, _⟩ := arg_ow P hp h1
    obtain ⟨p2, b1, _, _, _, b5, _⟩ := arg_ow P hp h2
    rw [List.getElem?_map, a1] at h3
    rw [List.getElem?_map, b1] at h4
    cases h3
    cases h4
    rcases a5 with ⟨x, k', c1, c2, c3, _⟩ | ⟨c1, c2, c3, c4⟩
    · rcases b5 with ⟨y, l', d1, d2, d3, _⟩ | ⟨d1, d2, d3, d4⟩
      · have e := P.ok.inj x y _ _ _ _ p c2 d2 c3 d3
        subst e
        exact als_inj nd c1 d1
      · exfalso
        cases k' with
        | own => exact d3 (.inl ⟨x, _, c2, c3⟩)
        | bor => exact d3 (.inr ⟨x, _, c2, c3⟩)
        | lck => exact d4 ⟨x, _, c2, c3⟩
    · rcases b5 with ⟨y, l', d1, d2, d3, _⟩ | ⟨d1, d2, d3, d4⟩
      · exfalso
        cases l' with
        | own => exact c3 (.inl ⟨y, _, d2, d3⟩)
        | bor => exact c3 (.inr ⟨y, _, d2, d3⟩)
        | lck => exact c4 ⟨y, _, d2, d3⟩
      · exact frs_inj P.nd c1 d1 a1 b1
/-- behind a call: the caller's slots -/
theorem call_post {rs : List R} {vs : List V} {ss fin : List Sl} {S2 : Addr → Prop} {H2 : Hp} {v : V} {r : R} (P : PostR K S0 H0 σ env0 rs env vs S H) (ok0 : EnvOk K S0 σ H0 env0) (nd : (alsOf rs).Nodup) (hp : parSls env rs = some ss) (C : Post K S H (vs.map some) ss r fin v S2 H2) (hr : ∀ i, r ≠ .al i) :
    Post K S0 H0 σ env0 r (backSl env rs fin) v S2 H2 := by
  have cf := C.fw
  have A := args_ok P nd hp
  -- an address that changes in the callee
  have ch : ∀ a, Ch (vs.map some) ss a → Ch σ env a ∨ a ∈ frsA rs vs := fun a h => by
    have go : ∀ k, k ≠ .lck → OwnsK k (vs.map some) ss a → Ch σ env a ∨ a ∈ frsA rs vs := fun k hk h => by
      obtain ⟨i, d, h1, h2⟩ := h
      obtain ⟨p, g1, _, _, _, g5, _⟩ := arg_ow P hp h1
      rw [List.getElem?_map, g1] at h2
      cases h2
      rcases g5 with ⟨j, k', c1, c2, c3, c4⟩ | ⟨c1, _⟩
      · cases k' with
        | own => exact .inl (.inl ⟨j, d, c2, c3⟩)
        | bor => exact .inl (.inr ⟨j, d, c2, c3⟩)
        | lck => exact absurd (c4.mpr rfl) hk
      · exact .inr (frs_mem c1 g1)
    rcases h with h | h
    · exact go _ (fun z => by cases z) h
    · exact go _ (fun z => by cases z) h
  -- what stays
  have stay : ∀ a o, H0 a = some o → ¬ Ch σ env0 a → H2 a = some o := fun a o h n => by
    refine cf.fr a o (P.fw.fr a o h n) fun q => ?_
    rcases ch a q with q | q
    · rcases P.fw.ch q with q | q
      · exact n q
      · rw [h] at q; cases q
    · rw [P.new a q] at h; cases h
  have kinds : ∀ (i : Nat) k d, (backSl env rs fin)[i]? = some (.ow k d) → ∃ d', env[i]? = some (.ow k d') := fun i k d h => by
    rcases back_cases rs fin env i _ nd h with ⟨n, k', d0, d1, h1, h2, h3, h4⟩ | ⟨h1, _⟩
    · cases h4
      exact ⟨d0, h3⟩
    · exact ⟨d, h1⟩
  have kinds' : ∀ (i : Nat) k d, env[i]? = some (.ow k d) → ∃ d', (backSl env rs fin)[i]? = some (.ow k d') := fun i k d h => by
    have hi : i < (backSl env rs fin).length := by rw [back_len]; exact (List.getElem?_eq_some_iff.mp h).1
    obtain ⟨s, hs⟩ : ∃ s, (backSl env rs fin)[i]? = some s := ⟨_, List.getElem?_eq_getElem hi⟩
    rcases back_cases rs fin env i s nd hs with ⟨n, k', d0, d1, h1, h2, h3, h4⟩ | ⟨h1, _⟩
    · rw [h] at h3
      cases h3
      exact ⟨d1, by rw [hs, h4]⟩
    · rw [h] at h1
      cases h1
      exact ⟨d, hs⟩
  -- a locked slot is not bor in fin
  have lckfin : ∀ (i : Nat) d, env[i]? = some (.ow .lck d) → (backSl env rs fin)[i]? = some (.ow .lck d) := fun i d h => by
    have hi : i < (backSl env rs fin).length := by rw [back_len]; exact (List.getElem?_eq_some_iff.mp h).1
    obtain ⟨s, hs⟩ : ∃ s, (backSl env rs fin)[i]? = some s := ⟨_, List.getElem?_eq_getElem hi⟩
    rcases back_cases rs fin env i s nd hs with ⟨n, k', d0, d1, h1, h2, h3, h4⟩ | ⟨h1, _⟩
    · exfalso
      -- ss at n is lck, so fin at n is lck
      have hn : n < ss.length := by rw [par_len hp]; exact (List.getElem?_eq_some_iff.mp h1).1
      obtain ⟨sn, hsn⟩ : ∃ sn, ss[n]? = some sn := ⟨_, List.getElem?_eq_getElem hn⟩
      obtain ⟨rn, hr1, hr2⟩ := par_get hp hsn
      rw [h1] at hr1
      cases hr1
      simp only [parSl] at hr2
      rw [h] at hr2
      cases hr2
      obtain ⟨z, _⟩ := cf.lk n _ hsn
      rw [h2] at z
      cases z
    · rw [h] at h1
      cases h1
      exact hs
  have leC : Le (er S H) (er S2 H2) := Fw.le A cf
  refine ⟨⟨fun a h => ?_, fun a h1 h2 h3 => ?_, stay, fun a h => ?_, fun i d h => ?_, fun i d h => ?_, fun i d h => ?_, fun i d h => ?_, fun a h => cf.dm a (P.fw.dm a h)⟩,
    ⟨by rw [back_len]; exact P.ok.len, C.ok.dom, fun i d h => ?_, fun i k d h => ?_, fun i j k l d e p h1 h2 h3 h4 => ?_⟩, ?_, fun d p e1 e2 => none_back P.fw.dm (C.new d p e1 e2)⟩
  · rcases cf.sub a h with h | h
    · exact P.fw.sub a h
    · exact .inr (none_back P.fw.dm h)
  · refine cf.kp a (P.fw.kp a h1 h2 h3) (P.fw.dm a h2) fun q => ?_
    obtain ⟨i, d, q1, q2⟩ := q
    obtain ⟨_, _, _, _, _, _, q3⟩ := arg_ow P hp q1
    exact q3 rfl
  · obtain ⟨i, d, h1, h2⟩ := h
    obtain ⟨d', h3⟩ := kinds i _ _ h1
    exact P.fw.own a ⟨i, d', h3, h2⟩
  · obtain ⟨d1, h1, _⟩ := P.fw.bo i d h
    obtain ⟨d2, h2⟩ := kinds' i _ _ h1
    exact ⟨d2, h2, rfl⟩
  · obtain ⟨d1, h1⟩ := kinds i _ _ h
    obtain ⟨d2, h2, _⟩ := P.fw.bo' i d1 h1
    exact ⟨d2, h2, rfl⟩
  · obtain ⟨h1, _⟩ := P.fw.lk i d h
    exact ⟨lckfin i d h1, rfl⟩
  · obtain ⟨d1, h1⟩ := kinds i _ _ h
    have h2 := lckfin i d1 h1
    rw [h2] at h
    cases h
    obtain ⟨h3, _⟩ := P.fw.lk' i d h1
    exact ⟨h3, rfl⟩
  · rcases back_cases rs fin env i _ nd h with ⟨n, k', d0, d1, h1, h2, h3, h4⟩ | ⟨h1, _⟩
    · cases h4
    · obtain ⟨w, g1, g2⟩ := P.ok.im i d h1
      exact ⟨w, g1, g2.mono leC⟩
  · rcases back_cases rs fin env i _ nd h with ⟨n, k', d0, d1, h1, h2, h3, h4⟩ | ⟨h1, hno⟩
    · cases h4
      -- handed over as n
      obtain ⟨p, q1, q2, q3, q4⟩ := P.ok.ow i _ _ h3
      obtain ⟨v', g1, g2⟩ := P.rv.get h1
      have gv : σ[i]? = some (some v') := g2
      rw [q1] at gv
      cases gv
      obtain ⟨p', c1, c2, c3, c4⟩ := C.ok.ow n _ _ h2
      rw [List.getElem?_map, g1] at c1
      cases c1
      exact ⟨p, q1, c2, c3, fun _ => c4 fun z => by cases z⟩
    · obtain ⟨p, q1, q2, q3, q4⟩ := P.ok.ow i _ _ h1
      have np : ¬ Ch (vs.map some) ss p := fun z => by
        have go : ∀ k', k' ≠ .lck → OwnsK k' (vs.map some) ss p → False := fun k' hk' z => by
          obtain ⟨n, dn, z1, z2⟩ := z
          obtain ⟨p', g1, _, _, _, g5, g6⟩ := arg_ow P hp z1
          rw [List.getElem?_map, g1] at z2
          cases z2
          rcases g5 with ⟨j, kj, c1, c2, c3, c4⟩ | ⟨_, _, c3, c4⟩
          · have e := P.ok.inj i j _ _ _ _ p h1 c2 q1 c3
            subst e
            cases k' with
            | own => exact g6 rfl
            | lck => exact hk' rfl
            | bor =>
              obtain ⟨d', e1, _⟩ := cf.bo n _ z1
              exact hno ⟨n, d', _, _, c1, e1, h1⟩
          · cases k with
            | own => exact c3 (.inl ⟨i, d, h1, q1⟩)
            | bor => exact c3 (.inr ⟨i, d, h1, q1⟩)
            | lck => exact c4 ⟨i, d, h1, q1⟩
        rcases z with z | z
        · exact go _ (fun w => by cases w) z
        · exact go _ (fun w => by cases w) z
      have hdom := P.ok.dom p q2
      have e2 : H2 p = H p := by
        cases q : H p with
        | none => exact absurd q hdom
        | some o => exact cf.fr p o q np
      refine ⟨p, q1, cf.kp p q2 hdom fun z => ?_, q3.mono leC (fun u r => by unfold Rd at r ⊢; rw [e2]; exact r), fun z => by rw [e2]; exact q4 z⟩
      obtain ⟨n, dn, z1, z2⟩ := z
      obtain ⟨_, _, _, _, _, _, q3'⟩ := arg_ow P hp z1
      exact q3' rfl
  · obtain ⟨d', g1⟩ := kinds i _ _ h1
    obtain ⟨e', g2⟩ := kinds j _ _ h2
    exact P.ok.inj i j _ _ _ _ p g1 g2 h3 h4
  · cases r with
    | al i => exact absurd rfl (hr i)
    | im d => exact C.rv
    | fr d =>
      obtain ⟨p, rfl, c1, c2, c3, c4, c5⟩ := C.rv
      have hn : H p = none := C.new _ _ rfl rfl
      refine ⟨p, rfl, c1, fun z => ?_, fun z => ?_, c4, c5⟩
      · have go : ∀ k, OwnsK k σ (backSl env rs fin) p → False := fun k z => by
          obtain ⟨i, d', z1, z2⟩ := z
          obtain ⟨d2, z3⟩ := kinds i _ _ z1
          obtain ⟨p', y1, y2, _⟩ := P.ok.ow i _ _ z3
          rw [z2] at y1
          cases y1
          exact P.ok.dom p y2 hn
        rcases z with z | z
        · exact go _ z
        · exact go _ z
      · obtain ⟨i, d', z1, z2⟩ := z
        obtain ⟨d2, z3⟩ := kinds i _ _ z1
        obtain ⟨p', y1, y2, _⟩ := P.ok.ow i _ _ z3
        rw [z2] at y1
        cases y1
        exact P.ok.dom p y2 hn
end
section
variable {Φ : Fns} {X : Cx} {a b c e : Expr} {es rest : List Expr} {x xa xb xc : Xp} {xs : Xps} {pos : Pos}
/-- what a def answers is no slot of its own -/
def NoAl (Φ : Fns) : Prop := ∀ f args r fin, Φ f args = some (r, fin) → ∀ i, r ≠ .al i
theorem ev_call_inv {f : Str} {env env' : Env} {r : R} (h : ev Φ (.call f xs) env = some (r, env')) : ∃ rs en1 ss fin, evR Φ xs env = some (rs, en1) ∧ (alsOf rs).Nodup ∧ parSls en1 rs = some ss ∧ Φ f ss = some (r, fin) ∧ env' = backSl en1 rs fin := by
  simp only [ev] at h
  cases e1 : evR Φ xs env with
  | none => rw [e1] at h; cases h
  | some p1 =>
    obtain ⟨rs, en1⟩ := p1
    rw [e1] at h
    dsimp only at h
    split at h
    · rename_i nd
      cases e2 : parSls en1 rs with
      | none => rw [e2] at h; cases h
      | some ss =>
        rw [e2] at h
        dsimp only at h
        cases e3 : Φ f ss with
        | none => rw [e3] at h; cases h
        | some p3 =>
          obtain ⟨r', fin⟩ := p3
          rw [e3] at h
          cases h
          exact ⟨rs, en1, ss, fin, rfl, nd, e2, e3, rfl⟩
    · cases h
/-- a def that stands behind a name of the module does what Φ says -/
structure Has (Φ : Fns) (X : Cx) (x : Str) (k : Nat) (ps : List Str) : Prop where
  fn : ∃ f fd, FnOk X.prog X.w X.K X.mg X.base (L2.CX X.prog X.w) k f fd ps (spX X.K (Φ x) (Φ.ex x)) ∧ X.mg x = some (.ref f) ∧ PySem.W.keepIn X.K (.ref f) = true ∧ Binds X.K fd ps []
  room : Room k X.A
theorem call_run {f : Str} (na : NoAl Φ) (ha : SndR Φ X es xs) {env env' : Env} {r : R} (h : ev Φ (.call f xs) env = some (r, env')) {S : Addr → Prop} {σ : L2.St} {H : Hp} (ok : EnvOk X.K S σ H env) {Q : VK} (q : ∀ v S' H', Post X.K S H σ env r env' v S' H' → Q v H') {E : XK} :
    tCall (spX X.K (Φ f) (Φ.ex f)) [] E (AnyA X es) σ H Q := by
  obtain ⟨rs, en1, ss, fin, e1, nd, e2, e3, rfl⟩ := ev_call_inv h
  refine ha env rs en1 e1 S σ H ok _ fun vs S1 H1 P => ?_
  rw [List.append_nil]
  refine .inl ⟨S1, ss, r, fin, e3, args_ok P nd e2, fun i d z => ?_, fun v S2 H2 C => q _ _ _ (call_post P ok nd e2 C (na f ss r fin e3))⟩
  obtain ⟨_, _, _, _, _, _, z3⟩ := arg_ow P e2 z
  exact z3 rfl
theorem snd_call {f : Str} {p : Pos} {k : Nat} {ps : List Str} (F : Has Φ X f k ps) (na : NoAl Φ) (hg : Gl X f) (ha : SndR Φ X (e :: es) xs) (hdb : (f == ("__debug__" : Str)) = false := by decide) (he : starEach (e :: es) X.env = (false, eval e X.env) :: starEach es X.env := by exact star_cons rfl) (hpl : (backTo pos (starEach es X.env)).any (·.1) = false := by rfl) :
    Snd Φ X (.Call (.Name f p) (e :: es) [] pos) (.call f xs) := .mk fun env r env' h S σ H ok Q q => by
  obtain ⟨fa, fd, F1, F2, F3, F4⟩ := F.fn
  exact any_of (pe_call F1 F.room hg F2 F3 F4 .nil passL pa_any hdb he hpl) (call_run (E := E0) na ha h ok q)
theorem snd_call0 {f : Str} {p : Pos} {k : Nat} {ps : List Str} (F : Has Φ X f k ps) (na : NoAl Φ) (hg : Gl X f) (hdb : (f == ("__debug__" : Str)) = false := by decide) :
    Snd Φ X (.Call (.Name f p) [] [] pos) (.call f .nil) := .mk fun env r env' h S σ H ok Q q => by
  obtain ⟨fa, fd, F1, F2, F3, F4⟩ := F.fn
  refine any_of (pe_call0 F1 F.room hg F2 F3 F4 .nil passL hdb) ?_
  have t := call_run (E := E0) na sndR_nil h ok q
  obtain ⟨rs, en1, ss, fin, e1, nd, e2, e3, rfl⟩ := ev_call_inv h
  simp only [evR] at e1
  cases e1
  have P : PostR X.K S H σ env [] env [] S H := ⟨Fw.refl, ok, .nil, fun _ h => (by cases h), .nil⟩
  refine .inl ⟨S, ss, r, fin, e3, args_ok P nd e2, fun i d z => ?_, fun v S2 H2 C => q _ _ _ (call_post P ok nd e2 C (na f ss r fin e3))⟩
  obtain ⟨_, _, _, _, _, _, z3⟩ := arg_ow P e2 z
  exact z3 rfl
/-- an expression that raises -/
structure SndX (Φ : Fns) (X : Cx) (e : Expr) (x : Xp) : Prop where
  run : ∀ env y env', evX Φ x env = some (y, env') → ∀ (S : Addr → Prop) (σ : L2.St) (H : Hp), EnvOk X.K S σ H env → ∀ W : WX, Takes X W →
    (∀ cls d S' H', Fw S H σ env S' H' σ env' → EnvOk X.K S' σ H' env' → ExR X.K (er S' H') cls d y → W cls d σ H') → ∀ Q : VK, AnyE X e σ H Q
theorem sndX_no (h : ∀ env, evX Φ x env = none := by intro _; rfl) : SndX Φ X e x := ⟨fun env y env' h1 => by rw [h] at h1; cases h1⟩
theorem sndX_call {f : Str} {p : Pos} {k : Nat} {ps : List Str} (F : Has Φ X f k ps) (hg : Gl X f) (ha : SndR Φ X (e :: es) xs) (hdb : (f == ("__debug__" : Str)) = false := by decide) (he : starEach (e :: es) X.env = (false, eval e X.env) :: starEach es X.env := by exact star_cons rfl) (hpl : (backTo pos (starEach es X.env)).any (·.1) = false := by rfl) :
    SndX Φ X (.Call (.Name f p) (e :: es) [] pos) (.call f xs) := ⟨fun env y env' h S σ H ok W tk q Q => by
  obtain ⟨fa, fd, F1, F2, F3, F4⟩ := F.fn
  refine any_of (pe_callS F1 F.room hg F2 F3 F4 (E := WE W) (fun σ => passAt tk σ) pa_any hdb he hpl) ?_
  simp only [evX] at h
  cases e1 : evR Φ xs env with
  | none => rw [e1] at h; cases h
  | some p1 =>
    obtain ⟨rs, en1⟩ := p1
    rw [e1] at h
    dsimp only at h
    split at h
    · rename_i nd
      cases e2 : parSls en1 rs with
      | none => rw [e2] at h; cases h
      | some ss =>
        rw [e2] at h
        dsimp only at h
        cases e3 : Φ.ex f ss with
        | none => rw [e3] at h; cases h
        | some p3 =>
          obtain ⟨y', fin⟩ := p3
          rw [e3] at h
          cases h
          refine ha env rs en1 e1 S σ H ok _ fun vs S1 H1 P => ?_
          refine .inr ⟨S1, ss, y, fin, e3, args_ok P nd e2, fun i d z => ?_, fun cls d S2 H2 C hx => ?_⟩
          · obtain ⟨_, _, _, _, _, _, z3⟩ := arg_ow P e2 z
            exact z3 rfl
          · have PP := call_post P ok nd e2 C (fun i z => by cases z)
            exact q cls d S2 H2 PP.fw PP.ok hx
    · cases h⟩
theorem sndX_ite (ht : SndT Φ X c xc) (ha : SndX Φ X a xa) (hb : SndX Φ X b xb) : SndX Φ X (.IfExp c a b pos) (.ite xc xa xb) := ⟨fun env y env' hv S σ H ok W tk q Q => by
  simp only [evX] at hv
  cases e1 : ev Φ xc env with
  | none => rw [e1] at hv; cases hv
  | some p1 =>
    obtain ⟨r1, en1⟩ := p1
    rw [e1] at hv
    dsimp only at hv
    cases f1 : (r1.val en1).bind truthD with
    | none => rw [f1] at hv; cases hv
    | some k =>
      have ts : tstX Φ xc env = some (k, en1) := by simp only [tstX, e1, f1]
      rw [f1] at hv
      refine any_of (pe_ifExp pt_any pe_any pe_any) (ht env k en1 ts S σ H ok _ fun S1 H1 g1 ok1 => ?_)
      cases k with
      | true =>
        rw [if_pos rfl]
        exact ha.run en1 y env' hv S1 σ H1 ok1 W tk (fun cls d S' H' f' ok' x' => q cls d S' H' (g1.trans f') ok' x') Q
      | false =>
        rw [if_neg Bool.false_ne_true]
        exact hb.run en1 y env' hv S1 σ H1 ok1 W tk (fun cls d S' H' f' ok' x' => q cls d S' H' (g1.trans f') ok' x') Q⟩
end
end DI

set_option maxRecDepth 100000
/-! DI11: what is walked, targets, list comprehensions. -/
namespace DI
open PySem PySem.Spec PyProof.Rows L2
/-! ### slots locked, wiped, put back -/
theorem lock_len (env : Env) : ∀ ls : List Nat, (lockE env ls).length = env.length
  | [] => rfl
  | i :: is => by
    simp only [lockE]
    split
    · rw [List.length_set]; exact lock_len env is
    · exact lock_len env is
theorem lock_cases (env : Env) : ∀ (ls : List Nat) (j : Nat) (s : Sl), (lockE env ls)[j]? = some s → (∃ k d, j ∈ ls ∧ env[j]? = some (.ow k d) ∧ s = .ow .lck d) ∨ (env[j]? = some s ∧ (j ∈ ls → ∀ k d, s ≠ .ow k d))
  | [], j, s, h => .inr ⟨h, fun z => by cases z⟩
  | i :: is, j, s, h => by
    simp only [lockE] at h
    cases q : (lockE env is)[i]? with
    | none =>
      rw [q] at h
      rcases lock_cases env is j s h with ⟨k, d, h1, h2, h3⟩ | ⟨h1, h2⟩
      · exact .inl ⟨k, d, List.mem_cons_of_mem _ h1, h2, h3⟩
      · refine .inr ⟨h1, fun m => ?_⟩
        rcases List.mem_cons.mp m with rfl | m
        · rw [q] at h; cases h
        · exact h2 m
    | some si =>
      rw [q] at h
      cases si with
      | un =>
        rcases lock_cases env is j s h with ⟨k, d, h1, h2, h3⟩ | ⟨h1, h2⟩
        · exact .inl ⟨k, d, List.mem_cons_of_mem _ h1, h2, h3⟩
        · refine .inr ⟨h1, fun m => ?_⟩
          rcases List.mem_cons.mp m with rfl | m
          · rw [q] at h; cases h; exact fun k d z => by cases z
          · exact h2 m
      | im di =>
        rcases lock_cases env is j s h with ⟨k, d, h1, h2, h3⟩ | ⟨h1, h2⟩
        · exact .inl ⟨k, d, List.mem_cons_of_mem _ h1, h2, h3⟩
        · refine .inr ⟨h1, fun m => ?_⟩
          rcases List.mem_cons.mp m with rfl | m
          · rw [q] at h; cases h; exact fun k d z => by cases z
          · exact h2 m
      | ow ki di =>
        dsimp only at h
        rcases getElem?_set_cases h with ⟨rfl, e⟩ | ⟨ne, h'⟩
        · subst e
          rcases lock_cases env is i _ q with ⟨k, d, h1, h2, h3⟩ | ⟨h1, h2⟩
          · cases h3
            exact .inl ⟨k, _, List.mem_cons_self, h2, rfl⟩
          · exact .inl ⟨ki, di, List.mem_cons_self, h1, rfl⟩
        · rcases lock_cases env is j s h' with ⟨k, d, h1, h2, h3⟩ | ⟨h1, h2⟩
          · exact .inl ⟨k, d, List.mem_cons_of_mem _ h1, h2, h3⟩
          · refine .inr ⟨h1, fun m => ?_⟩
            rcases List.mem_cons.mp m with rfl | m
            · exact absurd rfl ne
            · exact h2 m
theorem unlock_len (env0 env : Env) : ∀ ls : List Nat, (unlockE env0 env ls).length = env.length
  | [] => rfl
  | i :: is => by
    simp only [unlockE]
    split
    · rw [List.length_set]; exact unlock_len env0 env is
    · exact unlock_len env0 env is
theorem unlock_cases (env0 env : Env) : ∀ (ls : List Nat) (j : Nat) (s : Sl), (unlockE env0 env ls)[j]? = some s → (∃ k d, j ∈ ls ∧ env0[j]? = some (.ow k d) ∧ s = .ow k d) ∨ (env[j]? = some s ∧ (j ∈ ls → ∀ k d, env0[j]? ≠ some (.ow k d)))
  | [], j, s, h => .inr ⟨h, fun z => by cases z⟩
  | i :: is, j, s, h => by
    simp only [unlockE] at h
    have skip : (unlockE env0 env is)[j]? = some s → (∀ k d, env0[i]? ≠ some (.ow k d)) → (∃ k d, j ∈ i :: is ∧ env0[j]? = some (.ow k d) ∧ s = .ow k d) ∨ (env[j]? = some s ∧ (j ∈ i :: is → ∀ k d, env0[j]? ≠ some (.ow k d))) := fun h no => by
      rcases unlock_cases env0 env is j s h with ⟨k, d, h1, h2, h3⟩ | ⟨h1, h2⟩
      · exact .inl ⟨k, d, List.mem_cons_of_mem _ h1, h2, h3⟩
      · refine .inr ⟨h1, fun m => ?_⟩
        rcases List.mem_cons.mp m with rfl | m
        · exact no
        · exact h2 m
    cases q : env0[i]? with
    | none => rw [q] at h; exact skip h fun k d z => by rw [q] at z; cases z
    | some si =>
      rw [q] at h
      cases si with
      | un => exact skip h fun k d z => by rw [q] at z; cases z
      | im di => exact skip h fun k d z => by rw [q] at z; cases z
      | ow ki di =>
        dsimp only at h
        rcases getElem?_set_cases h with ⟨rfl, e⟩ | ⟨ne, h'⟩
        · exact .inl ⟨ki, di, List.mem_cons_self, q, e⟩
        · rcases unlock_cases env0 env is j s h' with ⟨k, d, h1, h2, h3⟩ | ⟨h1, h2⟩
          · exact .inl ⟨k, d, List.mem_cons_of_mem _ h1, h2, h3⟩
          · refine .inr ⟨h1, fun m => ?_⟩
            rcases List.mem_cons.mp m with rfl | m
            · exact absurd rfl ne
            · exact h2 m
theorem wipeE_len (env : Env) : ∀ vs : List Nat, (wipeE env vs).length = env.length
  | [] => rfl
  | i :: is => by
    simp only [wipeE]
    rw [List.length_set, wipeE_len env is]
theorem wipeE_cases (env : Env) : ∀ (vs : List Nat) (j : Nat) (s : Sl), (wipeE env vs)[j]? = some s → (j ∈ vs ∧ s = .un) ∨ (j ∉ vs ∧ env[j]? = some s)
  | [], j, s, h => .inr ⟨by simp, h⟩
  | i :: is, j, s, h => by
    simp only [wipeE] at h
    rcases getElem?_set_cases h with ⟨rfl, e⟩ | ⟨ne, h'⟩
    · exact .inl ⟨List.mem_cons_self, e⟩
    · rcases wipeE_cases env is j s h' with ⟨h1, h2⟩ | ⟨h1, h2⟩
      · exact .inl ⟨List.mem_cons_of_mem _ h1, h2⟩
      · refine .inr ⟨fun m => ?_, h2⟩
        rcases List.mem_cons.mp m with rfl | m
        · exact ne rfl
        · exact h1 m
theorem wipeE_out (env : Env) : ∀ (vs : List Nat) (j : Nat), j ∉ vs → (wipeE env vs)[j]? = env[j]?
  | [], j, _ => rfl
  | i :: is, j, h => by
    simp only [wipeE]
    rw [List.getElem?_set_ne fun e => h (by rw [e]; exact List.mem_cons_self)]
    exact wipeE_out env is j fun m => h (List.mem_cons_of_mem _ m)
theorem backE_len (env0 env : Env) : ∀ vs : List Nat, (backE env0 env vs).length = env.length
  | [] => rfl
  | i :: is => by
    simp only [backE]
    split
    · rw [List.length_set]; exact backE_len env0 env is
    · exact backE_len env0 env is
theorem backE_cases (env0 env : Env) (hl : env0.length = env.length) : ∀ (vs : List Nat) (j : Nat) (s : Sl), (backE env0 env vs)[j]? = some s → (j ∈ vs ∧ env0[j]? = some s) ∨ (j ∉ vs ∧ env[j]? = some s)
  | [], j, s, h => .inr ⟨by simp, h⟩
  | i :: is, j, s, h => by
    simp only [backE] at h
    cases q : env0[i]? with
    | none =>
      rw [q] at h
      rcases backE_cases env0 env hl is j s h with ⟨h1, h2⟩ | ⟨h1, h2⟩
      · exact .inl ⟨List.mem_cons_of_mem _ h1, h2⟩
      · refine .inr ⟨fun m => ?_, h2⟩
        rcases List.mem_cons.mp m with rfl | m
        · have := (List.getElem?_eq_some_iff.mp h2).1
          rw [List.getElem?_eq_none_iff] at q
          omega
        · exact h1 m
    | some si =>
      rw [q] at h
      dsimp only at h
      rcases getElem?_set_cases h with ⟨rfl, e⟩ | ⟨ne, h'⟩
      · subst e
        exact .inl ⟨List.mem_cons_self, q⟩
      · rcases backE_cases env0 env hl is j s h' with ⟨h1, h2⟩ | ⟨h1, h2⟩
        · exact .inl ⟨List.mem_cons_of_mem _ h1, h2⟩
        · refine .inr ⟨fun m => ?_, h2⟩
          rcases List.mem_cons.mp m with rfl | m
          · exact ne rfl
          · exact h1 m
section
variable {K : PySem.W.Frag} {S S' S0 : Addr → Prop} {H H' H0 : Hp} {σ σ' : L2.St} {env env' env0 : Env}
theorem lock_kind {ls : List Nat} {i : Nat} {k : Kd} {d : D} (h : (lockE env ls)[i]? = some (.ow k d)) : ∃ k', env[i]? = some (.ow k' d) ∧ (k ≠ .lck → k' = k) := by
  rcases lock_cases env ls i _ h with ⟨k', d', _, h2, h3⟩ | ⟨h1, _⟩
  · cases h3
    exact ⟨k', h2, fun z => absurd rfl z⟩
  · exact ⟨k, h1, fun _ => rfl⟩
theorem EnvOk.lock (ok : EnvOk K S σ H env) (ls : List Nat) : EnvOk K S σ H (lockE env ls) := by
  refine ⟨by rw [lock_len]; exact ok.len, ok.dom, fun i d h => ?_, fun i k d h => ?_, fun i j k l d e p h1 h2 h3 h4 => ?_⟩
  · rcases lock_cases env ls i _ h with ⟨k', d', _, h2, h3⟩ | ⟨h1, _⟩
    · cases h3
    · exact ok.im i d h1
  · obtain ⟨k', h1, h2⟩ := lock_kind h
    obtain ⟨p, g1, g2, g3, g4⟩ := ok.ow i k' d h1
    exact ⟨p, g1, g2, g3, fun z => g4 (by rw [h2 z]; exact z)⟩
  · obtain ⟨k', g1, _⟩ := lock_kind h1
    obtain ⟨l', g2, _⟩ := lock_kind h2
    exact ok.inj i j _ _ _ _ p g1 g2 h3 h4
theorem lock_ch {ls : List Nat} {a : Addr} (h : Ch σ (lockE env ls) a) : Ch σ env a := by
  rcases h with ⟨i, d, h1, h2⟩ | ⟨i, d, h1, h2⟩
  · obtain ⟨k', g1, g2⟩ := lock_kind h1
    rw [g2 (fun z => by cases z)] at g1
    exact .inl ⟨i, d, g1, h2⟩
  · obtain ⟨k', g1, g2⟩ := lock_kind h1
    rw [g2 (fun z => by cases z)] at g1
    exact .inr ⟨i, d, g1, h2⟩

/-! ### what is walked -/
/-- a walk over what stands for ds, from S, H on, as long as what may not change does not -/
def WalkD (K : PySem.W.Frag) (J : L2.It) (ds : List D) (S : Addr → Prop) (H : Hp) (σ : L2.St) (env : Env) : Prop :=
  ∃ (G : Hp → Prop) (Y : Nat → Hp → V → Hp → Prop), Walk J ds.length G Y ∧ (∀ H', (∀ a o, H a = some o → ¬ Ch σ env a → H' a = some o) → G H') ∧
    ∀ i H1 x H2, i < ds.length → G H1 → Y i H1 x H2 → ∃ d, ds[i]? = some d ∧ (H2 = H1 ∨ ∃ T o, H1 T = none ∧ H2 = upd H1 T o) ∧ ∀ S' : Addr → Prop, Le (er S H) (er S' H1) → (∀ a, S' a → H1 a ≠ none) → Rep K (er S' H2) x d
theorem keepRd {a : Addr} {u : HO} (h : Rd H a u) (hc : ¬ Ch σ env a) (k : ∀ a o, H a = some o → ¬ Ch σ env a → H' a = some o) : Rd H' a u := by
  rcases h with h | ⟨o, h⟩
  · exact .inl (k a _ h hc)
  · exact .inr ⟨o, k a _ h hc⟩
theorem walkd_list {a : Addr} {xs : List V} {ds : List D} (h : (∀ H', (∀ a o, H a = some o → ¬ Ch σ env a → H' a = some o) → SqL K H' a xs)) (r : Reps K (er S H) xs ds) : WalkD K (Itl K a) ds S H σ env := by
  refine ⟨fun H' => SqL K H' a xs, YAt xs, by rw [← r.length]; exact walk_list, h, fun i H1 x H2 hi g y => ?_⟩
  · obtain ⟨rfl, hx⟩ := y
    obtain ⟨d, h1, h2⟩ := r.getV hx
    exact ⟨d, h1, .inl rfl, fun S' le _ => h2.mono le⟩
theorem walkd_tup {a : Addr} {xs : List V} {ds : List D} (ok : EnvOk K S σ H env) (h : SqT K (er S H) a xs) (r : Reps K (er S H) xs ds) : WalkD K (Itt K a) ds S H σ env := by
  refine ⟨fun H' => SqT K H' a xs, YAt xs, by rw [← r.length]; exact walk_tup, fun H' k => ?_, fun i H1 x H2 hi g y => ?_⟩
  · rcases h with h | h
    · refine .inl (keepRd (σ := σ) (env := env) (er_full _ _ h) (fun z => ?_) k)
      have hs := ok.ch z
      rcases h with h | ⟨o, h⟩
      · exact (er_some h).1 hs
      · exact (er_some h).1 hs
    · exact .inr h
  · obtain ⟨rfl, hx⟩ := y
    obtain ⟨d, h1, h2⟩ := r.getV hx
    exact ⟨d, h1, .inl rfl, fun S' le _ => h2.mono le⟩
theorem walkd_str {z : Str} : WalkD K (Its z) (z.cps.toList.map fun c => .str ⟨#[c]⟩) S H σ env := by
  refine ⟨fun _ => True, _, by rw [List.length_map, Array.length_toList]; exact walk_str, fun _ _ => True.intro, fun i H1 x H2 hi g y => ?_⟩
  obtain ⟨rfl, c, h1, rfl⟩ := y
  refine ⟨.str ⟨#[c]⟩, ?_, .inl rfl, fun _ _ _ => .str _⟩
  rw [List.getElem?_map, Array.getElem?_toList, h1]
  rfl
theorem rangeL_len : ∀ (n : Nat) (lo : Int), (rangeL lo n).length = n
  | 0, _ => rfl
  | n + 1, lo => congrArg (· + 1) (rangeL_len n (lo + 1))
theorem rangeL_get : ∀ (n : Nat) (lo : Int) (i : Nat), i < n → (rangeL lo n)[i]? = some (.int (lo + i))
  | n + 1, lo, 0, _ => by
    show some _ = some _
    simp
  | n + 1, lo, i + 1, h => by
    show (rangeL (lo + 1) n)[i]? = _
    rw [rangeL_get n (lo + 1) i (by omega)]
    congr 2
    omega
theorem walkd_range {lo : Int} {n : Nat} : WalkD K (Itr lo n) (rangeL lo n) S H σ env := by
  refine ⟨fun _ => True, YFn fun i => .int (lo + i), by rw [rangeL_len]; exact walk_range, fun _ _ => True.intro, fun i H1 x H2 hi g y => ?_⟩
  obtain ⟨rfl, rfl⟩ := y
  rw [rangeL_len] at hi
  exact ⟨_, rangeL_get n lo i hi, .inl rfl, fun _ _ _ => .int _⟩
theorem rep_pair {S' : Addr → Prop} {H1 : Hp} {T : Addr} {x y : V} {dx dy : D} (hT : H1 T = none) (dom : ∀ a, S' a → H1 a ≠ none) (hx : Rep K (er S' H1) x dx) (hy : Rep K (er S' H1) y dy) : Rep K (er S' (upd H1 T (.tup [x, y]))) (.ref T) (.tuple [dx, dy]) := by
  have hs : ¬ S' T := fun z => dom T z hT
  have le : Le (er S' H1) (er S' (upd H1 T (.tup [x, y]))) := er_le fun a o h1 h2 => ⟨h1, upd_some hT h2⟩
  exact .tup ((er_of hs).trans upd_same) (.cons (hx.mono le) (.cons (hy.mono le) .nil))
theorem zipw_get {xs ys : List D} {i : Nat} {x y : D} (h1 : xs[i]? = some x) (h2 : ys[i]? = some y) : (List.zipWith (fun a b => PyData.tuple [a, b]) xs ys)[i]? = some (.tuple [x, y]) := by
  rw [List.getElem?_zipWith, h1, h2]
theorem walkd_zipL {a b : Addr} {xs ys : List V} {ds es : List D} (h : (∀ H', (∀ a o, H a = some o → ¬ Ch σ env a → H' a = some o) → SqL K H' a xs)) (h' : (∀ H', (∀ a o, H a = some o → ¬ Ch σ env a → H' a = some o) → SqL K H' b ys)) (r : Reps K (er S H) xs ds) (r' : Reps K (er S H) ys es) : WalkD K (Itz K a b) (List.zipWith (fun a b => .tuple [a, b]) ds es) S H σ env := by
  refine ⟨fun H' => SqL K H' a xs ∧ SqL K H' b ys, _, by rw [List.length_zipWith, ← r.length, ← r'.length]; exact walk_zip rfl, fun H' k => ⟨h H' k, h' H' k⟩, fun i H1 x H2 hi g y => ?_⟩
  · obtain ⟨T, v, w, rfl, hT, rfl, h1, h2⟩ := y
    obtain ⟨d, e1, e2⟩ := r.getV h1
    obtain ⟨e, f1, f2⟩ := r'.getV h2
    exact ⟨_, zipw_get e1 f1, .inr ⟨T, _, hT, rfl⟩, fun S' le dom => rep_pair hT dom (e2.mono le) (f2.mono le)⟩
theorem enum_len : ∀ (n : Nat) (ds : List D), (enumFrom n ds).length = ds.length
  | _, [] => rfl
  | n, _ :: r => congrArg (· + 1) (enum_len (n + 1) r)
theorem enum_get : ∀ (n : Nat) (ds : List D) (i : Nat) (d : D), ds[i]? = some d → (enumFrom n ds)[i]? = some (.tuple [.int ((n + i : Nat) : Int), d])
  | _, [], _, _, h => by simp at h
  | n, x :: r, 0, d, h => by
    have e : x = d := by simpa using h
    subst e
    rfl
  | n, x :: r, i + 1, d, h => by
    show (enumFrom (n + 1) r)[i]? = _
    rw [enum_get (n + 1) r i d (by simpa using h)]
    have e : n + 1 + i = n + (i + 1) := by omega
    rw [e]
theorem walkd_enumL {a : Addr} {xs : List V} {ds : List D} (h : (∀ H', (∀ a o, H a = some o → ¬ Ch σ env a → H' a = some o) → SqL K H' a xs)) (r : Reps K (er S H) xs ds) : WalkD K (Ite K a) (enumFrom 0 ds) S H σ env := by
  refine ⟨fun H' => SqL K H' a xs, _, by rw [enum_len, ← r.length]; exact walk_enum, h, fun i H1 x H2 hi g y => ?_⟩
  · obtain ⟨T, v, w, rfl, hT, rfl, h1, h2⟩ := y
    obtain ⟨d, e1, e2⟩ := r.getV h2
    have ev : v = .int (i : Nat) := (Option.some.inj h1).symm
    subst ev
    have eg := enum_get 0 ds i d e1
    rw [Nat.zero_add] at eg
    exact ⟨_, eg, .inr ⟨T, _, hT, rfl⟩, fun S' le dom => rep_pair hT dom (.int _) (e2.mono le)⟩
/-- a list at hand, and that it is not changed while its slot is locked -/
theorem rv_list {r : R} {v : V} {ds : List D} {ls : List Nat} (ok : EnvOk K S σ H env) (h : RV K S H σ env r v) (hv : r.val env = some (.list ds)) (hl : ∀ i, r = .al i → i ∈ ls) :
    ∃ a xs, v = .ref a ∧ SqL K H a xs ∧ Reps K (er S H) xs ds ∧ (∀ H', (∀ a o, H a = some o → ¬ Ch σ (lockE env ls) a → H' a = some o) → SqL K H' a xs) := by
  have im : ∀ {v : V}, Rep K (er S H) v (.list ds) → ∃ a xs, v = .ref a ∧ SqL K H a xs ∧ Reps K (er S H) xs ds ∧ (∀ H', (∀ a o, H a = some o → ¬ Ch σ (lockE env ls) a → H' a = some o) → SqL K H' a xs) := fun {v} h => by
    cases h with
    | @lst a xs _ h1 h2 =>
      rcases h1 with h1 | h1
      · refine ⟨a, xs, rfl, .inl (er_full _ _ h1), h2, fun H' k => .inl (keepRd (er_full _ _ h1) (fun hc => ?_) k)⟩
        have hs := ok.ch (lock_ch hc)
        rcases h1 with h1 | ⟨o, h1⟩
        · exact (er_some h1).1 hs
        · exact (er_some h1).1 hs
      · exact ⟨a, xs, rfl, .inr h1, h2, fun _ _ => .inr h1⟩
  cases r with
  | im d => cases hv; exact im h
  | fr d =>
    cases hv
    obtain ⟨p, rfl, _, q, _, ⟨xs, g1, g2⟩, _⟩ := h
    exact ⟨p, xs, rfl, .inl g1, g2, fun H' k => .inl (keepRd g1 (fun hc => q (lock_ch hc)) k)⟩
  | al i =>
    have hσ : σ[i]? = some (some v) := h
    rcases slD_some hv with e | ⟨k, e⟩
    · obtain ⟨w, h1, h2⟩ := ok.im i _ e
      rw [hσ] at h1
      cases h1
      exact im h2
    · obtain ⟨p, h1, hs, ⟨xs, g1, g2⟩, _⟩ := ok.ow i k _ e
      rw [hσ] at h1
      cases h1
      refine ⟨p, xs, rfl, .inl g1, g2, fun H' k => .inl (keepRd g1 (fun hc => ?_) k)⟩
      have go : ∀ k', k' ≠ .lck → OwnsK k' σ (lockE env ls) p → False := fun k' hk z => by
        obtain ⟨j, d, z1, z2⟩ := z
        rcases lock_cases env ls j _ z1 with ⟨k2, d', m, y1, y2⟩ | ⟨y1, y2⟩
        · cases y2
          exact hk rfl
        · have e2 := ok.inj i j _ _ _ _ p e y1 hσ z2
          subst e2
          exact y2 (hl i rfl) k' d rfl
      rcases hc with hc | hc
      · exact go _ (fun z => by cases z) hc
      · exact go _ (fun z => by cases z) hc
end
end DI

set_option maxRecDepth 100000
/-! DE: enumerate of a tuple. -/
namespace DI
open PySem PySem.Spec PyProof.Rows L2 RZ
open AutoSeq1 (wpAny_loadPart')
theorem meets_enumT (l : Addr) (items : Array Value) (n : Nat) (dct : Option Addr) (sl : Array (Option Value)) :
    Meets (Builtin.«enumerate.__new__» ⟨[.type "enumerate", .ref l], []⟩) (fun _ R s => s.heap.get? l = some { cls := .type "tuple", dict := dct, data := .seq items n, slots := sl } ∧
      R (.ok (.ret (.ref (s.heap.push { cls := .type "tuple_iterator", data := .fields #[.ref l, .int 0 0] }).objs.size)))
        { s with heap := (s.heap.push { cls := .type "tuple_iterator", data := .fields #[.ref l, .int 0 0] }).push { cls := .type "enumerate", data := .fields #[.none, .bool false, .ref s.heap.objs.size, rawInt 0, .none, .none] } }) :=
  .of_wp fun prog w A R s h => by
    obtain ⟨hp, g, d, tk, os⟩ := s; obtain ⟨hl, h⟩ := h
    have hsub := sub_enumerate
    have hL : Heap.IsTuple (Shared.heap ⟨hp, g, d, tk, os⟩) l items := ⟨_, hl, rfl, n, rfl⟩
    wp_walk using wpAny_loadPart' hl
    refine wpAny_stack_any fun st => wpAny_pure ?_
    split
    · rename_i c _ _ _ _ _
      cases (c == Value.type "enumerate")
      · wp_walk using wpAny_loadPart' hl, wpAny_pyIter_tuple hL
        exact ⟨_, rfl, h⟩
      · wp_walk using wpAny_loadPart' hl, wpAny_pyIter_tuple hL
        exact ⟨_, rfl, h⟩
    · wp_walk using wpAny_loadPart' hl, wpAny_pyIter_tuple hL
      exact ⟨_, rfl, h⟩
section
variable {prog : Program} {w : World} {A : Around} {E : Value → Shared → Prop} {s : Shared}
theorem call_enumT {l : Addr} {items : Array Value} {Q : Value → Shared → Prop} (hL : s.heap.IsTuple l items)
    (h : ∀ h', IsEnum h' (s.heap.objs.size + 1) s.heap.objs.size 0 .none → h'.IsTupleIter s.heap.objs.size l 0 → h'.objs.size = s.heap.objs.size + 2 →
      (∀ b o, s.heap.get? b = some o → h'.get? b = some o) → Q (.ref (s.heap.objs.size + 1)) { s with heap := h' }) :
    wpAny (model prog w) A (call (.type "enumerate") [.ref l]) Q E s := by
  obtain ⟨⟨c, dct, dt, sl⟩, hl, hc, n, hd⟩ := hL
  replace hc : c = .type "tuple" := hc
  replace hd : dt = .seq items n := hd
  subst hc hd
  refine callType_new PySem.F.called_enumerate (by decide) (PySem.F.typeCall_enumerate_1 _) (PySem.F.newCall_enumerate_1 _) (fun obj => PySem.F.args_object_init_2 obj _) PySem.F.entry_enumerate_new
    (meets_enumT l items n dct sl) ⟨hl, ?_⟩
  have hz : (s.heap.push { cls := .type "tuple_iterator", data := .fields #[.ref l, .int 0 0] }).objs.size = s.heap.objs.size + 1 := Heap.size_push ..
  show _ ∧ _
  rw [hz]
  have he : IsEnum ((s.heap.push { cls := .type "tuple_iterator", data := .fields #[.ref l, .int 0 0] }).push
      { cls := .type "enumerate", data := .fields #[.none, .bool false, .ref s.heap.objs.size, rawInt 0, .none, .none] }) (s.heap.objs.size + 1) s.heap.objs.size 0 .none := by
    have := Heap.get?_push_size (s.heap.push { cls := .type "tuple_iterator", data := .fields #[.ref l, .int 0 0] })
      (o := { cls := .type "enumerate", data := .fields #[.none, .bool false, .ref s.heap.objs.size, rawInt 0, .none, .none] }) rfl
    rw [hz] at this; exact this
  refine ⟨⟨_, he, rfl⟩, h _ he ⟨_, Heap.get?_push_of_some _ (Heap.get?_push_size _ rfl), rfl, rfl⟩ (by rw [Heap.size_push, hz]) fun b o x => Heap.get?_push_of_some _ (Heap.get?_push_of_some _ x)⟩
end
section
variable {prog : Program} {w : World} {A : Around} {E : Value → Shared → Prop} {s : Shared}
theorem enum_endT {e it l : Addr} {i : Nat} {items : Array Value} {old : Value} {Q : Option Value → Shared → Prop} (hh : A.handled = none)
    (he : IsEnum s.heap e it i old) (hit : s.heap.IsTupleIter it l i) (hl : s.heap.IsTuple l items) (hx : items[i]? = none)
    (hQ : ∀ h', Heap.ExtBut it s.heap h' → Q none { s with heap := h' }) : wpAny (model prog w) A (pyNext (.ref e)) Q E s := by
  have hT : s.TypeIs (.ref e) "enumerate" := ⟨_, he, rfl⟩
  unfold pyNext
  refine wpAny_bind (wpAny_attempt (wpAny_callSpecial?_slot (name := Str.ofString "__next__") hT PySem.F.slot_enumerate_next
    (wpAny_call_entry PySem.F.slot_enumerate_next hT PySem.F.entry_enumerate_next ?_ (PySem.F.args_enumerate_next_1 _))))
  show wpAny _ _ (field (.ref e) 2 >>= _) _ _ _
  refine wpAny_bind (wpAny_field he rfl (x := .ref it) rfl ?_)
  refine wpAny_bind (RZ.nextOf_tuple_end hh hit hl hx fun h' x he' hx' => ?_)
  obtain ⟨o, ho, hc⟩ := hx'
  refine wpAny_bind (wpAny_isInstance (T := "StopIteration") (b := true) ⟨o, ho, hc⟩ isSubtype_stop ?_)
  exact wpAny_pure (hQ _ he')
end
/-- the tuple at a, each item in a new pair -/
def IteT (K : PySem.W.Frag) (a : Addr) : L2.It :=
  ⟨fun i H => ∃ (xs : List V) (x : V), SqT K H a xs ∧ xs[i]? = some x, fun i H v H' => ∃ T x, v = .ref T ∧ H T = none ∧ H' = upd H T (.tup [.int (i : Nat), x]) ∧ ∀ xs, SqT K H a xs → xs[i]? = some x, fun i H => ∃ xs : List V, SqT K H a xs ∧ xs.length ≤ i⟩
theorem turn_enumT {P : Program} {w : World} {K : PySem.W.Frag} {elts : List Expr} {kk : Nat} {tpos : Pos} (a e it : Addr) :
    Turn P w K (.Tuple elts kk tpos) (IteT K a) [e, it] e (fun i h => (∃ old, IsEnum h e it ((i : Nat) : Int) old) ∧ h.IsTupleIter it a i ∧ e ≠ it ∧ a ≠ it ∧ e ≠ a) where
  mem := by simp
  obj := fun i h st b hb => by
    obtain ⟨⟨old, he⟩, ⟨o, ho, hc, hd⟩, _⟩ := st
    have e' : b = e ∨ b = it := by simpa using hb
    rcases e' with z | z
    · rw [z]; exact ⟨_, he, fun v q => nomatch q⟩
    · rw [z]; exact ⟨o, ho, fun v q => by rw [hd] at q; cases q⟩
  keep := fun i h h' st k => let ⟨⟨old, he⟩, hi, hne⟩ := st; ⟨⟨old, k e (by simp) _ he⟩, hi.at fun o q => k it (by simp) o q, hne⟩
  item := by
    intro X hP hw hK hc i pins s σ H E I hf st hg
    subst hP hw hK
    obtain ⟨⟨old, he⟩, hit, hne, hai, hea⟩ := st
    obtain ⟨xs, x, hq, hx⟩ := hg
    obtain ⟨its, rv, p, hz⟩ := I.tuple hq
    obtain ⟨u, hu, ru⟩ := rv.get hx
    have hel : e < s.heap.objs.size := Heap.lt_size he
    have hil : it < s.heap.objs.size := by obtain ⟨_, q, _⟩ := hit; exact Heap.lt_size q
    have hlt : i < its.toArray.size := by
      have := (List.getElem?_eq_some_iff.mp hu).1
      simpa using this
    refine wpAny_pyNext_enum_itemD (Draws.tuple (prog := X.prog) (w := X.w) (A := X.A.in1) (I.ok.hd hc) it a hai its.toArray) he ⟨hit, p⟩ hlt hne (by simp [hne, hea]) fun y h' tk hy ho hst hT hsz hk => ?_
    have ey : y = u := by
      have e2 : its.toArray[i]? = some u := by simpa using hu
      rw [e2] at hy
      exact (Option.some.inj hy).symm
    subst ey
    obtain ⟨hit', _⟩ := hst
    refine ⟨_, rfl, wpAny_letOwnedTupleGo_enum (s := { s with heap := h', toks := tk + 1 }) ho fun h'' he' sb => ?_⟩
    have hT2 : h''.get? s.heap.objs.size = some { cls := .type "tuple", data := .seq #[.int i tk, y] } := (sb.2 _ (Nat.ne_of_gt hel)).trans hT
    have new : ObjOk X.prog X.w (upd H s.heap.objs.size (.tup [.int (i : Nat), x])) h'' s.heap.objs.size (.tup [.int (i : Nat), x]) :=
      ⟨by show 2 ≤ sizeLine; decide, [.int i tk, y], .cons ⟨_, rfl⟩ (.cons ru .nil), ⟨_, hT2, rfl, _, rfl⟩⟩
    have I1 : Inv X pins σ (upd H s.heap.objs.size (.tup [.int (i : Nat), x])) { s with heap := h'', toks := tk + 1 } :=
      I.turnedNew (ch := [e, it]) (fun b ob hb q => (sb.2 b (fun z => hb (by simp [z]))).trans (hk b ob (fun z => hb (by simp [z])) (fun z => hb (by simp [z])) q)) hf (Nat.le_refl _) new
    refine ⟨.ref s.heap.objs.size, _, I1, rfl, ⟨_, x, rfl, I.hok.fresh (Nat.le_refl _), rfl, fun ys hy => by rw [I.tuple_inj hy hq]; exact hx⟩, ⟨⟨y, ?_⟩, hit'.at fun o q => (sb.2 it (Ne.symm hne)).trans q, hne, hai, hea⟩, fun b hb => ?_⟩
    · have e1 : ((i + 1 : Nat) : Int) = (i : Int) + 1 := by omega
      rw [e1]; exact he'
    · have hb' : b < s.heap.objs.size := by
        have e' : b = e ∨ b = it := by simpa using hb
        rcases e' with z | z
        · rw [z]; exact hel
        · rw [z]; exact hil
      rw [upd_ne (Nat.ne_of_lt hb')]
      exact (hf b hb).1
  done := by
    intro X hP hw hK hc i pins s σ H E I hf st hg
    subst hP hw hK
    obtain ⟨⟨old, he⟩, hit, hne, hai, hea⟩ := st
    obtain ⟨xs, hq, hx⟩ := hg
    obtain ⟨its, rv, p, hz⟩ := I.tuple hq
    obtain ⟨f0, f1, f2, f3, f4, f5⟩ := hf it (by simp)
    have hl := rv.length
    exact enum_endT (I.ok.hd hc) he hit (show s.heap.IsTuple a its.toArray from p) (by simp; omega) fun h' eb => ⟨rfl, I.turned (t' := s.toks) (fun b o hb q => eb b o hb q) f0 f1 f3 f4 f5⟩
  self := fun A i s Q E st h => let ⟨⟨_, he⟩, _⟩ := st; wpAny_pyIter_enum he h
def iEnumT (K : PySem.W.Frag) (ta : L2.TA) : L2.TI := fun σ H R => ta σ H fun vs H1 => ∃ a xs, vs = [.ref a] ∧ SqT K H1 a xs ∧ R (IteT K a) H1
theorem pi_enumT {X : Cx} {e : Expr} {ta : L2.TA} {p pos tpos : Pos} {elts : List Expr} {kk : Nat} (hg : Gl X "enumerate") (hm : X.mg "enumerate" = none) (ha : PA X [e] ta) (hs : starEach [e] X.env = [(false, eval e X.env)]) :
    PI X (.Tuple elts kk tpos) (.Call (.Name "enumerate" p) [e] [] pos) (iEnumT X.K ta) := by
  refine ⟨fun pins s σ H R I h => ?_⟩
  refine Call_ (ld_blt I hg hm boot_enumerate (PyProof.Rows.callWith_type1 (thn (ha.run pos pins s σ H _ I h) fun us s1 ⟨vs, H1, I1, r1, q1⟩ => ?_) hs rfl))
  obtain ⟨a, xs, ex, hq, q⟩ := q1
  subst ex
  cases r1 with
  | cons r rr =>
    cases rr
    cases r
    obtain ⟨its, rv, p', hz⟩ := I1.tuple hq
    have hla : a < s1.heap.objs.size := by obtain ⟨_, z, _⟩ := p'; exact Heap.lt_size z
    refine call_enumT (show s1.heap.IsTuple a its.toArray from p') fun h' he hit hsz hk => wpAny_pyIter_enum he ?_
    have I2 : Inv X pins σ H1 { s1 with heap := h' } := I1.kept (t' := s1.toks) hk
    refine ⟨s1.heap.objs.size + 1, [s1.heap.objs.size + 1, s1.heap.objs.size], _, _, H1, rfl, I2, turn_enumT a (s1.heap.objs.size + 1) s1.heap.objs.size, ⟨⟨.none, he⟩, hit, Nat.succ_ne_self _, Nat.ne_of_lt hla, Ne.symm (Nat.ne_of_lt (Nat.lt_succ_of_lt hla))⟩, fun b hb => ?_, q⟩
    have e' : b = s1.heap.objs.size + 1 ∨ b = s1.heap.objs.size := by simpa using hb
    have hle : s1.heap.objs.size ≤ b := by
      rcases e' with z | z
      · rw [z]; exact Nat.le_add_right _ _
      · rw [z]; exact Nat.le_refl _
    exact I1.fpOk hle (I1.hok.fresh hle)
section
variable {K : PySem.W.Frag} {S : Addr → Prop} {H : Hp} {σ : L2.St} {env : Env}
theorem walk_enumT {a : Addr} {xs : List V} : Walk (IteT K a) xs.length (fun H => SqT K H a xs) (YPair (fun i => some (.int (i : Nat))) (fun i => xs[i]?)) := by
  refine ⟨fun i _ hi q => ⟨xs, xs[i], q, by simp [hi]⟩, fun _ q => ⟨xs, q, Nat.le_refl _⟩, fun i H v H' _ q y => ?_⟩
  obtain ⟨T, x, h1, h2, h3, h4⟩ := y
  exact ⟨T, .int (i : Nat), x, h1, h2, h3, rfl, h4 xs q⟩
theorem walkd_enumT {a : Addr} {xs : List V} {ds : List D} (ok : EnvOk K S σ H env) (h : SqT K (er S H) a xs) (r : Reps K (er S H) xs ds) : WalkD K (IteT K a) (enumFrom 0 ds) S H σ env := by
  have kp : ∀ H', (∀ a o, H a = some o → ¬ Ch σ env a → H' a = some o) → SqT K H' a xs := fun H' k => by
    rcases h with h | h
    · refine .inl (keepRd (σ := σ) (env := env) (er_full _ _ h) (fun z => ?_) k)
      have hs := ok.ch z
      rcases h with h | ⟨o, h⟩
      · exact (er_some h).1 hs
      · exact (er_some h).1 hs
    · exact .inr h
  refine ⟨fun H' => SqT K H' a xs, _, by rw [enum_len, ← r.length]; exact walk_enumT, kp, fun i H1 x H2 hi g y => ?_⟩
  obtain ⟨T, v, w, rfl, hT, rfl, h1, h2⟩ := y
  obtain ⟨d, e1, e2⟩ := r.getV h2
  have ev : v = .int (i : Nat) := (Option.some.inj h1).symm
  subst ev
  have eg := enum_get 0 ds i d e1
  rw [Nat.zero_add] at eg
  exact ⟨_, eg, .inr ⟨T, _, hT, rfl⟩, fun S' le dom => rep_pair hT dom (.int _) (e2.mono le)⟩
end
end DI

set_option maxRecDepth 100000
/-! DZ: zip of a list with a tuple, either way about. -/
namespace DI
open PySem PySem.Spec PyProof.Rows L2
/-- a tuple (true) or a list (false) -/
def SqG (k : Bool) (K : PySem.W.Frag) (H : Hp) (a : Addr) (xs : List V) : Prop := match k with
  | true => SqT K H a xs
  | false => SqL K H a xs
def ItG (k : Bool) (h : Heap) (it l : Addr) (i : Nat) : Prop := match k with
  | true => h.IsTupleIter it l i
  | false => h.IsListIter it l i
def IsG (k : Bool) (h : Heap) (l : Addr) (items : Array Value) : Prop := match k with
  | true => h.IsTuple l items
  | false => h.IsList l items
def obG (k : Bool) (l : Addr) : Obj := ⟨.type (if k then "tuple_iterator" else "list_iterator"), none, .fields #[.ref l, .int 0 0], #[]⟩
section
variable {X : Cx} {pins : List (Addr × Obj)} {σ : L2.St} {H : Hp} {s : Shared} {k k2 : Bool} {a b : Addr} {xs ys : List V}
theorem sqg_is (I : Inv X pins σ H s) (h : SqG k X.K H a xs) : ∃ its : List Value, Vals xs its ∧ IsG k s.heap a its.toArray := by
  cases k with
  | true => exact let ⟨its, r, p, _⟩ := I.tuple h; ⟨its, r, p⟩
  | false => exact let ⟨its, r, p, _⟩ := I.list h; ⟨its, r, p.isList⟩
theorem sqg_one (I : Inv X pins σ H s) (h : SqG k X.K H a xs) (h' : SqG k X.K H a ys) : xs = ys := by
  cases k with
  | true => exact I.tuple_inj h h'
  | false => exact I.list_inj h h'
theorem isg_at {h h' : Heap} {items : Array Value} (x : IsG k h a items) (q : ∀ o, h.get? a = some o → h'.get? a = some o) : IsG k h' a items := by
  cases k with
  | true => exact Heap.IsTuple.at x q
  | false => exact Heap.IsList.at x q
theorem itg_at {h h' : Heap} {it : Addr} {i : Nat} (x : ItG k h it a i) (q : ∀ o, h.get? it = some o → h'.get? it = some o) : ItG k h' it a i := by
  cases k with
  | true => exact Heap.IsTupleIter.at x q
  | false => exact Heap.IsListIter.at x q
theorem itg_obj {h : Heap} {it : Addr} {i : Nat} (x : ItG k h it a i) : ∃ o, h.get? it = some o ∧ ∀ v, o.data ≠ .cell v := by
  cases k with
  | true => obtain ⟨o, e, _, d⟩ := x; exact ⟨o, e, fun v q => by rw [d] at q; cases q⟩
  | false => obtain ⟨o, e, _, d⟩ := x; exact ⟨o, e, fun v q => by rw [d] at q; cases q⟩
theorem isg_lt {h : Heap} {items : Array Value} (x : IsG k h a items) : a < h.objs.size := by
  cases k with
  | true => obtain ⟨o, e, _⟩ := id x; exact Heap.lt_size e
  | false => obtain ⟨o, e, _⟩ := id x; exact Heap.lt_size e
theorem drawsG {prog : Program} {w : World} {A : Around} (hh : A.handled = none) {it l : Addr} (ne : l ≠ it) (items : Array Value) :
    Draws prog w A it [it, l] items.size (fun i v => items[i]? = some v) (fun i h => ItG k h it l i ∧ IsG k h l items) := by
  cases k with
  | true => exact .tuple hh it l ne items
  | false => exact .list hh it l ne items
theorem beginsG (l : Addr) (items : Array Value) : Begins (.ref l) (obG k l) fun h => IsG k h l items := by
  cases k with
  | true => exact begins_tuple l items
  | false => exact begins_list l items
theorem itg_new {h : Heap} {it l : Addr} (e : h.get? it = some (obG k l)) : ItG k h it l 0 := by
  cases k with
  | true => exact ⟨_, e, rfl, rfl⟩
  | false => exact ⟨_, e, rfl, rfl⟩
theorem sepG {z TI TO i1 i2 : Addr} (D : ZipApart z TI TO i1 i2 a b) : ZipSep2 z TI TO i1 i2 [i1, a] [i2, b] where
  TIz := D.TIz
  TOz := D.TOz
  TITO := D.TITO
  TIi1 := D.TIi1
  TIi2 := D.TIi2
  mem1 := .head _
  mem2 := .head _
  zf1 := fun q => by simp at q; exact q.elim D.i1z.symm D.l1z.symm
  zf2 := fun q => by simp at q; exact q.elim D.i2z.symm D.l2z.symm
  Tf1 := fun q => by simp at q; exact q.elim D.TOi1 D.l1TO.symm
  Tf2 := fun q => by simp at q; exact q.elim D.TOi2 D.l2TO.symm
  sep1_2 := fun q => by simp at q; exact q.elim D.i12 D.l2i1.symm
  sep2_1 := fun q => by simp at q; exact q.elim D.i12.symm D.l1i2.symm
end
/-- pairs of what stands at a and at b, turn by turn -/
def ItzG (k k2 : Bool) (K : PySem.W.Frag) (a b : Addr) : L2.It where
  go i H := ∃ (xs ys : List V) (x y : V), (SqG k K H a xs ∧ xs[i]? = some x) ∧ SqG k2 K H b ys ∧ ys[i]? = some y
  yld i H v H' := ∃ (T : Addr) (x y : V), (v = .ref T ∧ H T = none ∧ H' = upd H T (.tup [x, y])) ∧ (∀ l, SqG k K H a l → l[i]? = some x) ∧ ∀ l, SqG k2 K H b l → l[i]? = some y
  stop i H := ∃ xs ys : List V, (SqG k K H a xs ∧ SqG k2 K H b ys) ∧ i ≤ xs.length ∧ i ≤ ys.length ∧ (i = xs.length ∨ i = ys.length)
def stG (k k2 : Bool) (z TI TO i1 i2 a b : Addr) (i : Nat) (h : Heap) : Prop :=
  IsZip h z TI TO .none ∧ (IsTupOf2 h TI (.ref i1) (.ref i2) ∧ ∃ x y, IsTupOf2 h TO x y) ∧ ItG k h i1 a i ∧ ItG k2 h i2 b i
theorem in5 {p : Addr → Prop} {z TI TO i1 i2 : Addr} (h1 : p z) (h2 : p TI) (h3 : p TO) (h4 : p i1) (h5 : p i2) : ∀ c ∈ [z, TI, TO, i1, i2], p c := fun c hc => by
  simp only [List.mem_cons, List.not_mem_nil, or_false] at hc
  rcases hc with q | q | q | q | q <;> subst q <;> assumption
theorem turnG {P : Program} {w : World} {K : PySem.W.Frag} {k k2 : Bool} {els : List Expr} {kk : Nat} {tpos : Pos} {a b z TI TO i1 i2 : Addr} (D : ZipApart z TI TO i1 i2 a b) :
    Turn P w K (.Tuple els kk tpos) (ItzG k k2 K a b) [z, TI, TO, i1, i2] z (stG k k2 z TI TO i1 i2 a b) := by
  have off : ∀ {q q' : Heap}, (∀ c o, c ≠ z → c ≠ TO → c ≠ i1 → c ≠ i2 → q.get? c = some o → q'.get? c = some o) → ∀ c o, c ∉ [z, TI, TO, i1, i2] → q.get? c = some o → q'.get? c = some o := fun h c o hc e => by
    simp only [List.mem_cons, List.not_mem_nil, or_false, not_or] at hc
    exact h c o hc.1 hc.2.2.1 hc.2.2.2.1 hc.2.2.2.2 e
  refine ⟨.head _, fun i h st => ?_, fun i h h' st q => ?_, ?_, ?_, fun A i s Q E st h => wpAny_pyIter_zip st.1 h⟩
  · obtain ⟨hz, ⟨hT, x, y, hO⟩, t1, t2⟩ := st
    exact in5 ⟨_, hz, fun v q => nomatch q⟩ ⟨_, hT, fun v q => nomatch q⟩ ⟨_, hO, fun v q => nomatch q⟩ (itg_obj t1) (itg_obj t2)
  · obtain ⟨hz, ⟨hT, x, y, hO⟩, t1, t2⟩ := st
    exact ⟨q _ (by simp) _ hz, ⟨q _ (by simp) _ hT, x, y, q _ (by simp) _ hO⟩, itg_at t1 fun o => q _ (by simp) o, itg_at t2 fun o => q _ (by simp) o⟩
  · intro X p1 p2 p3 hc i pins s σ H E I hf st g
    subst p1 p2 p3
    obtain ⟨hz, ⟨hT, x0, y0, hO⟩, t1, t2⟩ := st
    obtain ⟨xs, ys, x, y, ⟨hqx, hx⟩, hqy, hy⟩ := g
    obtain ⟨as, ra, pa⟩ := sqg_is I hqx
    obtain ⟨bs, rb, pb⟩ := sqg_is I hqy
    obtain ⟨u, hu, ru⟩ := ra.get hx
    obtain ⟨v, hv, rv⟩ := rb.get hy
    have la : i < as.toArray.size := by simpa using (List.getElem?_eq_some_iff.mp hu).1
    have lb : i < bs.toArray.size := by simpa using (List.getElem?_eq_some_iff.mp hv).1
    have hh : X.A.in1.handled = none := I.ok.hd hc
    refine wpAny_pyNext_zipD2_item (sepG D) (drawsG hh D.l1i1 as.toArray) (drawsG hh D.l2i2 bs.toArray) hz hT hO ⟨t1, pa⟩ ⟨t2, pb⟩ la lb fun u' v' h' tk hu' hv' z1 O1 d1 d2 T1 hs hk => ?_
    have e1 : u' = u := by
      simp only [List.getElem?_toArray] at hu'
      rw [hu] at hu'
      exact (Option.some.inj hu').symm
    have e2 : v' = v := by
      simp only [List.getElem?_toArray] at hv'
      rw [hv] at hv'
      exact (Option.some.inj hv').symm
    subst e1 e2
    have lz := Heap.lt_size hz
    refine ⟨_, rfl, ?_⟩
    refine wpAny_letOwnedTupleGo_zip (s := { s with heap := h', toks := tk }) z1 fun q zq sb => ?_
    replace sb : Heap.SameBut z h' q := sb
    have Tq : q.get? s.heap.objs.size = some ⟨.type "tuple", none, .seq #[u', v'], #[]⟩ := (sb.2 _ (Nat.ne_of_gt lz)).trans T1
    have nw : ObjOk X.prog X.w (upd H s.heap.objs.size (.tup [x, y])) q s.heap.objs.size (.tup [x, y]) :=
      ⟨show 2 ≤ sizeLine by decide, [u', v'], .cons ru (.cons rv .nil), ⟨_, Tq, rfl, _, rfl⟩⟩
    have J : Inv X pins σ (upd H s.heap.objs.size (.tup [x, y])) { s with heap := q, toks := tk } :=
      I.turnedNew (t' := tk) (ch := [z, TI, TO, i1, i2]) (fun c o hn e => (sb.2 c (fun e' => hn (by simp [e']))).trans (off hk c o hn e)) hf (Nat.le_refl _) nw
    refine ⟨.ref s.heap.objs.size, _, J, rfl, ⟨_, x, y, ⟨rfl, I.hok.fresh (Nat.le_refl _), rfl⟩, fun l hl => by rw [sqg_one I hl hqx]; exact hx, fun l hl => by rw [sqg_one I hl hqy]; exact hy⟩, ⟨zq, ⟨?_, u', v', ?_⟩, ?_, ?_⟩, ?_⟩
    · exact (sb.2 _ D.TIz).trans (hk _ _ D.TIz D.TITO D.TIi1 D.TIi2 hT)
    · exact (sb.2 _ D.TOz).trans O1
    · exact itg_at d1.1 fun o e => (sb.2 _ D.i1z).trans e
    · exact itg_at d2.1 fun o e => (sb.2 _ D.i2z).trans e
    · intro c hcm
      have lt : c < s.heap.objs.size := by
        obtain ⟨o1, g1, _⟩ := itg_obj t1
        obtain ⟨o2, g2, _⟩ := itg_obj t2
        exact in5 (p := fun c => c < s.heap.objs.size) lz (Heap.lt_size hT) (Heap.lt_size hO) (Heap.lt_size g1) (Heap.lt_size g2) c hcm
      rw [upd_ne (Nat.ne_of_lt lt)]
      exact (hf c hcm).1
  · intro X p1 p2 p3 hc i pins s σ H E I hf st g
    subst p1 p2 p3
    obtain ⟨hz, ⟨hT, x0, y0, hO⟩, t1, t2⟩ := st
    obtain ⟨xs, ys, ⟨hqx, hqy⟩, l1, l2, l3⟩ := g
    obtain ⟨as, ra, pa⟩ := sqg_is I hqx
    obtain ⟨bs, rb, pb⟩ := sqg_is I hqy
    have n1 := ra.length
    have n2 := rb.length
    have hh : X.A.in1.handled = none := I.ok.hd hc
    refine wpAny_pyNext_zipD2_end (i := i) (sepG D) (drawsG hh D.l1i1 as.toArray) (drawsG hh D.l2i2 bs.toArray) hz hT hO ⟨t1, pa⟩ ⟨t2, pb⟩ (by simp; omega) (by simp; omega) (by simp; omega) fun h' tk hk => ?_
    exact ⟨rfl, I.turnedL (t' := tk) (off hk) hf⟩
/-- zip of two rows of any two of these kinds -/
def iZipG (K : PySem.W.Frag) (ta : TA) : TI := fun σ H R => ta σ H fun vs H1 => ∃ (k k2 : Bool) (a b : Addr) (xs ys : List V), vs = [.ref a, .ref b] ∧ (SqG k K H1 a xs ∧ SqG k2 K H1 b ys) ∧ R (ItzG k k2 K a b) H1
theorem pi_zipG {X : Cx} {e e2 : Expr} {ta : TA} {p pos tpos : Pos} {els : List Expr} {kk : Nat} (hg : Gl X "zip") (hm : X.mg "zip" = none) (ha : PA X [e, e2] ta)
    (hs : starEach [e, e2] X.env = (false, eval e X.env) :: starEach [e2] X.env) (hpl : (backTo pos (starEach [e2] X.env)).any (·.1) = false) : PI X (.Tuple els kk tpos) (.Call (.Name "zip" p) [e, e2] [] pos) (iZipG X.K ta) := by
  constructor
  intro pins s σ H R I h
  refine Call_ (ld_blt I hg hm PyProof.Rows.boot_zip ?_)
  refine PyProof.Rows.callWith_type1 (thn (ha.run pos pins s σ H _ I h) fun us s1 ⟨vs, H1, I1, r1, q1⟩ => ?_) hs hpl
  obtain ⟨k, k2, a, b, xs, ys, rfl, ⟨hqx, hqy⟩, q⟩ := q1
  obtain ⟨as, ra, pa⟩ := sqg_is I1 hqx
  obtain ⟨bs, rb, pb⟩ := sqg_is I1 hqy
  cases r1 with
  | cons r rr =>
  cases rr with
  | cons r' rr =>
  cases rr
  cases r
  cases r'
  refine zip_begins2 (beginsG (k := k) a as.toArray) (beginsG (k := k2) b bs.toArray) pa pb fun h' hz hT hO g1 g2 hsz hk => wpAny_pyIter_zip hz ?_
  have I2 : Inv X pins σ H1 { s1 with heap := h' } := I1.kept (t' := s1.toks) hk
  have fr : ∀ j, FpOk X pins H1 (s1.heap.objs.size + j) := fun j => I1.fpOk (Nat.le_add_right _ _) (I1.hok.fresh (Nat.le_add_right _ _))
  exact ⟨_, [s1.heap.objs.size + 4, s1.heap.objs.size + 2, s1.heap.objs.size + 3, s1.heap.objs.size, s1.heap.objs.size + 1], _, _, H1, rfl, I2, turnG (PySem.W.ktu_apart s1.heap.objs.size a b (isg_lt pa) (isg_lt pb)), ⟨hz, ⟨hT, _, _, hO⟩, itg_new g1, itg_new g2⟩, in5 (fr 4) (fr 2) (fr 3) (fr 0) (fr 1), q⟩
theorem walk_zipG {k k2 : Bool} {K : PySem.W.Frag} {a b : Addr} {xs ys : List V} {n : Nat} (hn : n = min xs.length ys.length) : Walk (ItzG k k2 K a b) n (fun H => SqG k K H a xs ∧ SqG k2 K H b ys) (YPair (fun i => xs[i]?) (fun i => ys[i]?)) := by
  subst hn
  refine ⟨fun i H hi g => ?_, fun H g => ?_, fun i H x H' _ g y => ?_⟩
  · have h1 : i < xs.length := by omega
    have h2 : i < ys.length := by omega
    exact ⟨xs, ys, _, _, ⟨g.1, List.getElem?_eq_getElem h1⟩, g.2, List.getElem?_eq_getElem h2⟩
  · exact ⟨xs, ys, g, by omega, by omega, by omega⟩
  · obtain ⟨T, x1, x2, ⟨rfl, nT, rfl⟩, f1, f2⟩ := y
    exact ⟨T, x1, x2, rfl, nT, rfl, f1 _ g.1, f2 _ g.2⟩
end DI

set_option maxRecDepth 100000
/-! DI12: walks, targets, list comprehensions. -/
namespace DI
open PySem PySem.Spec PyProof.Rows L2 RZ
def AnyI (X : Cx) (tg iter : Expr) : L2.TI := fun σ H R => ∀ (pins : List (Addr × Obj)) (s : Shared), Inv X pins σ H s →
  wpAny (model X.prog X.w) X.A (eval iter X.env) (fun v s1 => wpAny (model X.prog X.w) X.A (pyIter v) (PIE X pins σ tg R) X.xe s1) X.xe s
theorem pi_any {X : Cx} {tg iter : Expr} : PI X tg iter (AnyI X tg iter) := ⟨fun pins s σ H R I h => h pins s I⟩
theorem anyI_of {X : Cx} {tg iter : Expr} {wi : L2.TI} (p : PI X tg iter wi) {σ : L2.St} {H : Hp} {R : L2.It → Hp → Prop} (h : wi σ H R) : AnyI X tg iter σ H R := fun pins s I => p.run pins s σ H R I h
structure SndI (Φ : Fns) (X : Cx) (tg iter : Expr) (it : It) : Prop where
  run : ∀ env ls ds env', evI Φ it env = some (ls, ds, env') → ∀ (S : Addr → Prop) (σ : L2.St) (H : Hp), EnvOk X.K S σ H env →
  ∀ R : L2.It → Hp → Prop, (∀ J S' H', Fw S H σ env S' H' σ env' → EnvOk X.K S' σ H' env' → WalkD X.K J ds S' H' σ (lockE env' ls) → R J H') → AnyI X tg iter σ H R
instance {Φ : Fns} {X : Cx} {tg iter : Expr} {it : It} : CoeFun (SndI Φ X tg iter it) fun _ => ∀ env ls ds env', evI Φ it env = some (ls, ds, env') → ∀ (S : Addr → Prop) (σ : L2.St) (H : Hp), EnvOk X.K S σ H env →
    ∀ R : L2.It → Hp → Prop, (∀ J S' H', Fw S H σ env S' H' σ env' → EnvOk X.K S' σ H' env' → WalkD X.K J ds S' H' σ (lockE env' ls) → R J H') → AnyI X tg iter σ H R := ⟨SndI.run⟩
section
variable {Φ : Fns} {X : Cx} {a b c e tg iter : Expr} {xa xb xc x : Xp} {xs : Xps} {it : It} {pos p p2 : Pos}
theorem bindD_inv {o : Option D} {f : D → Option (List D)} {ds : List D} (h : o.bind f = some ds) : ∃ d, o = some d ∧ f d = some ds := by
  cases o with
  | none => cases h
  | some d => exact ⟨d, rfl, h⟩
theorem rv_str {K : PySem.W.Frag} {S : Addr → Prop} {H : Hp} {σ : L2.St} {env : Env} {r : R} {v : V} {d : D} (ok : EnvOk K S σ H env) (h : RV K S H σ env r v) (hv : r.val env = some d) : RepC K S H v d := h.repC ok hv
/-- a dict is locked from now on -/
theorem pe_frzD {te : TE} (he : PE X e te) : PE X e (fun σ H Q => te σ H fun x H1 => ∃ d kvs, x = .ref d ∧ H1 d = some (.dK kvs) ∧ ∀ od, Q x (upd H1 d (.frz od (.dK kvs)))) := ⟨fun pins s σ H Q I h =>
  wpAny_mono (he.run pins s σ H _ I h) (fun u s1 hu => by
    obtain ⟨x, H1, I1, rx, d, kvs, ex, hd, q⟩ := hu
    obtain ⟨od, I2⟩ := I1.lock hd (by exact True.intro)
    exact ⟨x, _, I2, rx, q od⟩) fun _ _ x => x⟩
theorem ownD_ok {K : PySem.W.Frag} {S S1 : Addr → Prop} {H H1 : Hp} {σ : L2.St} {env en1 en2 : Env} {r : R} {v : V} {kvs : List (D × D)} (P : Post K S H σ env r en1 v S1 H1) (h : ownDct r en1 = some (kvs, en2)) :
    ∃ a ws, v = .ref a ∧ H1 a = some (.dK ws) ∧ ∀ od, ∃ S2, Fw S H σ env S2 (upd H1 a (.frz od (.dK ws))) σ en2 ∧ EnvOk K S2 σ (upd H1 a (.frz od (.dK ws))) en2 ∧ upd H1 a (.frz od (.dK ws)) a = some (.frz od (.dK ws)) ∧ ¬ S2 a ∧ RepKV K (er S2 (upd H1 a (.frz od (.dK ws)))) ws kvs := by
  have key : ∃ a ws, v = .ref a ∧ H1 a = some (.dK ws) ∧ (∀ o, H a = some o → Ch σ env a) ∧ DI.sto r en1 = some (.dict kvs, en2) ∧ plainK kvs = true := by
    cases r with
    | im d => cases h
    | fr d =>
      cases d <;> first | cases h | skip
      rename_i kv
      simp only [ownDct] at h
      split at h
      · rename_i hp
        cases h
        obtain ⟨p, rfl, hs, hc, hl, ho, hm⟩ := P.rv
        obtain ⟨ws, g1, g2⟩ := ho.dK hp
        have g3 : H1 p = some (.dK ws) := by
          rcases g1 with g1 | ⟨o, g1⟩
          · exact g1
          · rw [g1] at hm
            exact hm.elim
        exact ⟨p, ws, rfl, g3, fun o z => (by rw [P.new _ _ rfl rfl] at z; cases z), rfl, hp⟩
      · cases h
    | al i =>
      simp only [ownDct] at h
      cases e : en1[i]? with
      | none => rw [e] at h; cases h
      | some sl =>
        rw [e] at h
        cases sl with
        | un => cases h
        | im d => cases h
        | ow k d =>
          cases k <;> first | cases h | skip
          cases d <;> first | cases h | skip
          rename_i kv
          dsimp only at h
          split at h
          · rename_i hp
            cases h
            obtain ⟨p, h1, h2, h3, h4⟩ := P.ok.ow i _ _ e
            have hv : σ[i]? = some (some v) := P.rv
            rw [hv] at h1
            cases h1
            obtain ⟨ws, g1, g2⟩ := h3.dK hp
            have hm := h4 (fun z => by cases z)
            have g3 : H1 p = some (.dK ws) := by
              rcases g1 with g1 | ⟨o, g1⟩
              · exact g1
              · rw [g1] at hm
                exact hm.elim
            refine ⟨p, ws, rfl, g3, fun o z => ?_, by simp only [DI.sto, e], hp⟩
            rcases P.fw.own p ⟨i, _, e, hv⟩ with q | q
            · exact .inl q
            · rw [q] at z; cases z
          · cases h
  obtain ⟨a, ws, rfl, hd, hch, hst, hpl⟩ := key
  refine ⟨a, ws, rfl, hd, fun od => ?_⟩
  obtain ⟨S2, f2, ok2, rp⟩ := P.sto hst
  have rd : Rd (er S2 H1) a (.dK ws) ∧ RepKV K (er S2 H1) ws kvs := by
    cases rp with
    | dic g1 g2 =>
      rename_i kv
      have e : kv = ws := by
        rcases er_full _ _ g1 with g | ⟨o, g⟩
        · rw [hd] at g; cases g; rfl
        · rw [hd] at g; cases g
      subst e
      exact ⟨g1, g2⟩
    | dicT g1 n g2 => exact (g2.noK n hpl).elim
    | exc0 g1 g2 => simp [plainK, isKey] at hpl
    | exc1 g1 g2 g3 g4 => simp [plainK, isKey] at hpl
  have nS : ¬ S2 a := by
    rcases rd.1 with g | ⟨o, g⟩
    · exact (er_some g).1
    · exact (er_some g).1
  have le : Le (er S2 H1) (er S2 (upd H1 a (.frz od (.dK ws)))) := by
   refine ⟨fun b u g => ?_, fun b xs g => ?_⟩
   · by_cases hb : b = a
     · subst hb
       have eu : u = .dK ws := by
         rcases er_full _ _ g with g | ⟨o, g⟩
         · rw [hd] at g; cases g; rfl
         · rw [hd] at g; cases g
       subst eu
       exact .inr ⟨od, (er_of nS).trans upd_same⟩
     · rcases g with g | ⟨o, g⟩
       · obtain ⟨g1, g2⟩ := er_some g
         exact .inl ((er_of g1).trans ((upd_ne hb).trans g2))
       · obtain ⟨g1, g2⟩ := er_some g
         exact .inr ⟨o, (er_of g1).trans ((upd_ne hb).trans g2)⟩
   · obtain ⟨g1, g2⟩ := er_some g
     have hb : b ≠ a := fun z => by
       subst z
       rw [hd] at g2
       cases g2
     exact (er_of g1).trans ((upd_ne hb).trans g2)
  have neS : ∀ b, S2 b → b ≠ a := fun b hb z => nS (z ▸ hb)
  refine ⟨S2, ⟨f2.sub, f2.kp, fun b o g1 g2 => ?_, f2.own, f2.bo, f2.bo', f2.lk, f2.lk', fun b g => ?_⟩, ok2.move le (fun k b hb => ⟨ok2.owns hb, upd_ne (neS b (ok2.owns hb))⟩) (fun b hb => ?_), upd_same, nS, rd.2.mono le⟩
  · have hb : b ≠ a := fun z => by
      subst z
      exact g2 (hch o g1)
    rw [upd_ne hb]
    exact f2.fr b o g1 g2
  · by_cases hb : b = a
    · subst hb
      rw [upd_same]
      exact fun z => by cases z
    · rw [upd_ne hb]
      exact f2.dm b g
  · rw [upd_ne (neS b hb)]
    exact ok2.dom b hb
theorem kvs_get {K : PySem.W.Frag} {F : Hp} : ∀ {ws : List (Key × V)} {kvs : List (D × D)} {i : Nat} {k : Key} {x : V}, RepKV K F ws kvs → ws[i]? = some (k, x) → ∃ d, kvs[i]? = some (kD k, d) ∧ Rep K F x d
  | _, _, _, _, _, .nil, h => by simp at h
  | _, _, 0, k, x, .cons h r, e => by
    simp at e
    obtain ⟨rfl, rfl⟩ := e
    exact ⟨_, rfl, h⟩
  | _, _, i + 1, k, x, .cons h r, e => by
    obtain ⟨d, h1, h2⟩ := kvs_get (i := i) r (by simpa using e)
    exact ⟨d, by simpa using h1, h2⟩
theorem kvs_len {K : PySem.W.Frag} {F : Hp} : ∀ {ws : List (Key × V)} {kvs : List (D × D)}, RepKV K F ws kvs → ws.length = kvs.length
  | _, _, .nil => rfl
  | _, _, .cons _ r => congrArg (· + 1) (kvs_len r)
theorem walkd_keys {K : PySem.W.Frag} {S : Addr → Prop} {H : Hp} {σ : L2.St} {env : Env} {a : Addr} {od : Obj} {ws : List (Key × V)} {kvs : List (D × D)} (h : H a = some (.frz od (.dK ws))) (hc : ¬ Ch σ env a) (r : RepKV K (er S H) ws kvs) : WalkD K (Itk a od ws) (kvs.map (·.1)) S H σ env := by
  refine ⟨_, _, by rw [List.length_map, ← kvs_len r]; exact walk_keys, fun H' k => k a _ h hc, fun i H1 x H2 hi g y => ?_⟩
  obtain ⟨rfl, k, w, h1, rfl⟩ := y
  obtain ⟨d, h2, _⟩ := kvs_get r h1
  refine ⟨kD k, by rw [List.getElem?_map, h2]; rfl, .inl rfl, fun S' _ _ => ?_⟩
  cases k with
  | inl i => exact .int i
  | inr x => exact .str x
theorem walkd_vals {K : PySem.W.Frag} {S : Addr → Prop} {H : Hp} {σ : L2.St} {env : Env} {a : Addr} {od : Obj} {ws : List (Key × V)} {kvs : List (D × D)} (h : H a = some (.frz od (.dK ws))) (hc : ¬ Ch σ env a) (r : RepKV K (er S H) ws kvs) : WalkD K (Itd a od ws) (kvs.map (·.2)) S H σ env := by
  refine ⟨_, _, by rw [List.length_map, ← kvs_len r]; exact walk_values, fun H' k => k a _ h hc, fun i H1 x H2 hi g y => ?_⟩
  obtain ⟨rfl, k, h1⟩ := y
  obtain ⟨d, h2, h3⟩ := kvs_get r h1
  exact ⟨d, by rw [List.getElem?_map, h2]; rfl, .inl rfl, fun S' le _ => h3.mono le⟩
theorem sndI_x (he : Snd Φ X e x) : SndI Φ X tg e (.x x) := .mk fun env ls ds env' h S σ H ok R q => by
  simp only [evI] at h
  cases e1 : ev Φ x env with
  | none => rw [e1] at h; cases h
  | some p1 =>
    obtain ⟨r, en1⟩ := p1
    rw [e1] at h
    dsimp only at h
    cases e2 : (r.val en1).bind itemsD with
    | none =>
      rw [e2] at h
      dsimp only at h
      cases e3 : ownDct r en1 with
      | none => rw [e3] at h; cases h
      | some p3 =>
        obtain ⟨kvs, en2⟩ := p3
        rw [e3] at h
        cases h
        refine anyI_of (pi_keys (pe_frzD pe_any)) (he env r en1 e1 S σ H ok _ fun v S1 H1 P => ?_)
        obtain ⟨a, ws, rfl, hd, go⟩ := ownD_ok P e3
        refine ⟨a, ws, rfl, hd, fun od => ?_⟩
        obtain ⟨S2, f2, ok2, hf, nS, rk⟩ := go od
        exact ⟨a, od, rfl, .inl ⟨ws, hf, q _ S2 _ f2 ok2 (walkd_keys hf (fun z => nS (ok2.ch z)) rk)⟩⟩
    | some ds' =>
      rw [e2] at h
      cases h
      obtain ⟨d, f1, f2⟩ := bindD_inv e2
      have hl : ∀ i, r = .al i → i ∈ alsOf [r] := fun i z => by subst z; exact List.mem_cons_self
      cases d with
      | list xs =>
        cases f2
        refine anyI_of (pi_list pe_any) (he env r env' e1 S σ H ok _ fun v S1 H1 P => ?_)
        obtain ⟨a, vs, rfl, h1, h2, h3⟩ := rv_list (ls := alsOf [r]) P.ok P.rv f1 hl
        exact ⟨a, rfl, ⟨vs, h1⟩, q _ S1 H1 P.fw P.ok (walkd_list h3 h2)⟩
      | tuple xs =>
        cases f2
        refine anyI_of (pi_tup pe_any) (he env r env' e1 S σ H ok _ fun v S1 H1 P => ?_)
        obtain ⟨a, vs, rfl, h1, h2⟩ := Rep.tup_inv (P.rv.repC P.ok f1)
        exact ⟨a, rfl, ⟨vs, er_full.sqT h1⟩, q _ S1 H1 P.fw P.ok (walkd_tup (P.ok.lock _) h1 h2)⟩
      | str z =>
        cases f2
        refine anyI_of (pi_str pe_any) (he env r env' e1 S σ H ok _ fun v S1 H1 P => ?_)
        exact ⟨z, Rep.str_inv (P.rv.repC P.ok f1), q _ S1 H1 P.fw P.ok walkd_str⟩
      | _ => cases f2
theorem sndI_vl {apos cpos : Pos} (he : Snd Φ X e x) (hbase : attributeBase e "values" X.env (eval e X.env) = eval e X.env := by rfl) (hline : (apos.endLine == cpos.line) = true := by rfl) : SndI Φ X tg (.Call (.Attribute e "values" apos) [] [] cpos) (.vl x) := .mk fun env ls ds env' h S σ H ok R q => by
  simp only [evI] at h
  cases e1 : ev Φ x env with
  | none => rw [e1] at h; cases h
  | some p1 =>
    obtain ⟨r, en1⟩ := p1
    rw [e1] at h
    dsimp only at h
    cases e3 : ownDct r en1 with
    | none => rw [e3] at h; cases h
    | some p3 =>
      obtain ⟨kvs, en2⟩ := p3
      rw [e3] at h
      cases h
      refine anyI_of (pi_values (pe_frzD pe_any) hbase hline) (he env r en1 e1 S σ H ok _ fun v S1 H1 P => ?_)
      obtain ⟨a, ws, rfl, hd, go⟩ := ownD_ok P e3
      refine ⟨a, ws, rfl, hd, fun od => ?_⟩
      obtain ⟨S2, f2, ok2, hf, nS, rk⟩ := go od
      exact ⟨a, od, ws, rfl, hf, q _ S2 _ f2 ok2 (walkd_vals hf (fun z => nS (ok2.ch z)) rk)⟩
theorem sndI_r1 (hg : Gl X "range") (hm : X.mg "range" = none) (ha : Snd Φ X a xa) (hs : starEach [a] X.env = [(false, eval a X.env)] := by exact star_cons rfl) : SndI Φ X tg (.Call (.Name "range" p) [a] [] pos) (.r1 xa) := .mk fun env ls ds env' h S σ H ok R q => by
  simp only [evI] at h
  cases e1 : ev Φ xa env with
  | none => rw [e1] at h; cases h
  | some p1 =>
    obtain ⟨r, en1⟩ := p1
    rw [e1] at h
    dsimp only at h
    cases f1 : r.val en1 with
    | none => rw [f1] at h; cases h
    | some d =>
      rw [f1] at h
      cases d <;> first | cases h | skip
      rename_i j
      dsimp only at h
      split at h
      · rename_i hc
        cases h
        obtain ⟨c1, c2⟩ := in62_iff.mp hc
        refine anyI_of (pi_range1 hg hm (pa_cons pe_any pa_nil hs) hs) (ha env r env' e1 S σ H ok _ fun v S1 H1 P => ?_)
        exact ⟨j, by rw [Rep.int_inv (P.rv.rep P.ok f1)], c1, c2, q _ S1 H1 P.fw P.ok walkd_range⟩
      · cases h
theorem sndI_r2 (hg : Gl X "range") (hm : X.mg "range" = none) (ha : Snd Φ X a xa) (hb : Snd Φ X b xb) (hs : starEach [a, b] X.env = [(false, eval a X.env), (false, eval b X.env)] := by exact star_cons rfl) (hs2 : starEach [b] X.env = [(false, eval b X.env)] := by exact star_cons rfl) : SndI Φ X tg (.Call (.Name "range" p) [a, b] [] pos) (.r2 xa xb) := .mk fun env ls ds env' h S σ H ok R q => by
  simp only [evI] at h
  cases e1 : ev Φ xa env with
  | none => rw [e1] at h; cases h
  | some p1 =>
    obtain ⟨r1, en1⟩ := p1
    rw [e1] at h
    dsimp only at h
    cases e2 : ev Φ xb en1 with
    | none => rw [e2] at h; cases h
    | some p2 =>
      obtain ⟨r2, en2⟩ := p2
      rw [e2] at h
      dsimp only at h
      cases f1 : r1.val en2 with
      | none => rw [f1] at h; cases h
      | some d1 =>
        cases f2 : r2.val en2 with
        | none => rw [f1, f2] at h; cases d1 <;> cases h
        | some d2 =>
          rw [f1, f2] at h
          cases d1 <;> first | cases h | skip
          cases d2 <;> first | cases h | skip
          rename_i i j
          dsimp only at h
          split at h
          · rename_i hc
            cases h
            rw [Bool.and_eq_true, in62_iff, in62_iff] at hc
            refine anyI_of (pi_range2 hg hm (pa_cons pe_any (pa_cons pe_any pa_nil hs2) (by rw [hs, hs2])) hs hs2) (seq2 (x := .non) (y := .non) (Q := fun _ _ => True) ha hb e1 e2 ok fun v w S2 H2 h1 h2 h3 h4 => ?_)
            exact ⟨i, j, by rw [Rep.int_inv (h3.rep h2 f1), Rep.int_inv (h4.rep h2 f2)], ⟨hc.1.1, hc.1.2, hc.2.1, hc.2.2⟩, q _ S2 H2 h1 h2 walkd_range⟩
          · cases h
theorem sndI_e {elts : List Expr} {kk : Nat} {tpos : Pos} (hg : Gl X "enumerate") (hm : X.mg "enumerate" = none) (ha : Snd Φ X a xa) (hs : starEach [a] X.env = [(false, eval a X.env)] := by exact star_cons rfl) : SndI Φ X (.Tuple elts kk tpos) (.Call (.Name "enumerate" p) [a] [] pos) (.e xa) := .mk fun env ls ds env' h S σ H ok R q => by
  simp only [evI] at h
  cases e1 : ev Φ xa env with
  | none => rw [e1] at h; cases h
  | some p1 =>
    obtain ⟨r, en1⟩ := p1
    rw [e1] at h
    dsimp only at h
    cases e2 : (r.val en1).bind seqD with
    | none => rw [e2] at h; cases h
    | some ds' =>
      rw [e2] at h
      cases h
      obtain ⟨d, f1, f2⟩ := bindD_inv e2
      have hl : ∀ i, r = .al i → i ∈ alsOf [r] := fun i z => by subst z; exact List.mem_cons_self
      cases d with
      | list xs =>
        cases f2
        refine anyI_of (pi_enum hg hm (pa_cons pe_any pa_nil hs) hs) (ha env r env' e1 S σ H ok _ fun v S1 H1 P => ?_)
        obtain ⟨a, vs, rfl, h1, h2, h3⟩ := rv_list (ls := alsOf [r]) P.ok P.rv f1 hl
        exact ⟨a, vs, rfl, h1, q _ S1 H1 P.fw P.ok (walkd_enumL h3 h2)⟩
      | tuple xs =>
        cases f2
        refine anyI_of (pi_enumT hg hm (pa_cons pe_any pa_nil hs) hs) (ha env r env' e1 S σ H ok _ fun v S1 H1 P => ?_)
        obtain ⟨a, vs, rfl, h1, h2⟩ := Rep.tup_inv (P.rv.repC P.ok f1)
        exact ⟨a, vs, rfl, er_full.sqT h1, q _ S1 H1 P.fw P.ok (walkd_enumT (P.ok.lock _) h1 h2)⟩
      | _ => cases f2
theorem als_two_l {r1 r2 : R} : ∀ i, r1 = .al i → i ∈ alsOf [r1, r2] := fun i z => by subst z; exact List.mem_cons_self
theorem als_two_r {r1 r2 : R} : ∀ i, r2 = .al i → i ∈ alsOf [r1, r2] := fun i z => by
  subst z
  cases r1 with
  | im d => exact List.mem_cons_self
  | fr d => exact List.mem_cons_self
  | al j => exact List.mem_cons_of_mem _ List.mem_cons_self
theorem tup_stay {K : PySem.W.Frag} {S : Addr → Prop} {H : Hp} {σ : L2.St} {env : Env} {a : Addr} {xs : List V} (ok : EnvOk K S σ H env) (h : SqT K (er S H) a xs) (H' : Hp) (k : ∀ a o, H a = some o → ¬ Ch σ env a → H' a = some o) : SqT K H' a xs := by
  rcases h with h | h
  · refine .inl (keepRd (σ := σ) (env := env) (er_full _ _ h) (fun z => ?_) k)
    have hs := ok.ch z
    rcases h with h | ⟨o, h⟩
    · exact (er_some h).1 hs
    · exact (er_some h).1 hs
  · exact .inr h
theorem rv_seq {K : PySem.W.Frag} {S : Addr → Prop} {H : Hp} {σ : L2.St} {env : Env} {r : R} {v : V} {d : D} {ds : List D} {ls : List Nat} (ok : EnvOk K S σ H env) (h : RV K S H σ env r v) (hv : r.val env = some d) (hs : seqD d = some ds) (hl : ∀ i, r = .al i → i ∈ ls) :
    ∃ k a xs, v = .ref a ∧ SqG k K H a xs ∧ Reps K (er S H) xs ds ∧ (∀ H', (∀ a o, H a = some o → ¬ Ch σ (lockE env ls) a → H' a = some o) → SqG k K H' a xs) := by
  cases d with
  | list xs =>
    cases hs
    obtain ⟨a, vs, e, g1, g2, g3⟩ := rv_list ok h hv hl
    exact ⟨false, a, vs, e, g1, g2, g3⟩
  | tuple xs =>
    cases hs
    obtain ⟨a, vs, e, g1, g2⟩ := Rep.tup_inv (h.repC ok hv)
    exact ⟨true, a, vs, e, er_full.sqT g1, g2, tup_stay (ok.lock ls) g1⟩
  | _ => cases hs
theorem walkd_zipG {K : PySem.W.Frag} {S : Addr → Prop} {H : Hp} {σ : L2.St} {env : Env} {k k2 : Bool} {a b : Addr} {xs ys : List V} {ds es : List D} (h : (∀ H', (∀ a o, H a = some o → ¬ Ch σ env a → H' a = some o) → SqG k K H' a xs)) (h' : (∀ H', (∀ a o, H a = some o → ¬ Ch σ env a → H' a = some o) → SqG k2 K H' b ys)) (r : Reps K (er S H) xs ds) (r' : Reps K (er S H) ys es) : WalkD K (ItzG k k2 K a b) (List.zipWith (fun a b => .tuple [a, b]) ds es) S H σ env := by
  refine ⟨fun H' => SqG k K H' a xs ∧ SqG k2 K H' b ys, _, by rw [List.length_zipWith, ← r.length, ← r'.length]; exact walk_zipG rfl, fun H' q => ⟨h H' q, h' H' q⟩, fun i H1 x H2 hi g y => ?_⟩
  obtain ⟨T, v, w, rfl, hT, rfl, h1, h2⟩ := y
  obtain ⟨d, e1, e2⟩ := r.getV h1
  obtain ⟨e, f1, f2⟩ := r'.getV h2
  exact ⟨_, zipw_get e1 f1, .inr ⟨T, _, hT, rfl⟩, fun S' le dom => rep_pair hT dom (e2.mono le) (f2.mono le)⟩
theorem zipD_inv {x y : D} {ds : List D} (h : zipD x y = some ds) : ∃ xs ys, seqD x = some xs ∧ seqD y = some ys ∧ ds = List.zipWith (fun a b => .tuple [a, b]) xs ys := by
  cases x <;> cases y <;> first | (simp only [zipD] at h; cases h; exact ⟨_, _, rfl, rfl, rfl⟩) | cases h
theorem sndI_z {elts : List Expr} {kk : Nat} {tpos : Pos} (hg : Gl X "zip") (hm : X.mg "zip" = none) (ha : Snd Φ X a xa) (hb : Snd Φ X b xb) (hs : starEach [a, b] X.env = (false, eval a X.env) :: starEach [b] X.env := by exact star_cons rfl) (hs2 : starEach [b] X.env = (false, eval b X.env) :: starEach [] X.env := by exact star_cons rfl) (hpl : (backTo pos (starEach [b] X.env)).any (·.1) = false := by rfl) : SndI Φ X (.Tuple elts kk tpos) (.Call (.Name "zip" p) [a, b] [] pos) (.z xa xb) := .mk fun env ls ds env' h S σ H ok R q => by
  simp only [evI] at h
  cases e1 : ev Φ xa env with
  | none => rw [e1] at h; cases h
  | some p1 =>
    obtain ⟨r1, en1⟩ := p1
    rw [e1] at h
    dsimp only at h
    cases e2 : ev Φ xb en1 with
    | none => rw [e2] at h; cases h
    | some p2 =>
      obtain ⟨r2, en2⟩ := p2
      rw [e2] at h
      dsimp only at h
      cases f1 : r1.val en2 with
      | none => rw [f1] at h; cases h
      | some d1 =>
        cases f2 : r2.val en2 with
        | none => rw [f1, f2] at h; cases h
        | some d2 =>
          rw [f1, f2] at h
          dsimp only at h
          cases g : zipD d1 d2 with
          | none => rw [g] at h; cases h
          | some ds' =>
            rw [g] at h
            cases h
            obtain ⟨xs, ys, s1, s2, rfl⟩ := zipD_inv g
            refine anyI_of (pi_zipG hg hm (pa_cons pe_any (pa_cons pe_any pa_nil hs2) hs) hs hpl) (seq2 (x := .non) (y := .non) (Q := fun _ _ => True) ha hb e1 e2 ok fun v w S2 H2 h1 h2 h3 h4 => ?_)
            obtain ⟨k, a1, vs1, rfl, g1, g2, g3⟩ := rv_seq (ls := alsOf [r1, r2]) h2 h3 f1 s1 als_two_l
            obtain ⟨k', a2, vs2, rfl, g4, g5, g6⟩ := rv_seq (ls := alsOf [r1, r2]) h2 h4 f2 s2 als_two_r
            exact ⟨k, k', a1, a2, vs1, vs2, rfl, ⟨g1, g4⟩, q _ S2 H2 h1 h2 (walkd_zipG g3 g6 g2 g5)⟩
end
/-! ### a slot is set -/
section
variable {K : PySem.W.Frag} {S S0 : Addr → Prop} {H H0 : Hp} {σ σ0 : L2.St} {env env' env0 : Env}
theorem setSl_inv {i : Nat} {s : Sl} (h : setSl env i s = some env') : i < env.length ∧ env' = env.set i s ∧ (∀ d, env[i]? ≠ some (.ow .bor d)) ∧ (∀ d, env[i]? ≠ some (.ow .lck d)) := by
  unfold setSl at h
  cases q : env[i]? with
  | none => rw [q] at h; cases h
  | some t =>
    have hi := (List.getElem?_eq_some_iff.mp q).1
    rw [q] at h
    cases t with
    | un => cases h; exact ⟨hi, rfl, (fun d z => by cases z), (fun d z => by cases z)⟩
    | im e => cases h; exact ⟨hi, rfl, (fun d z => by cases z), (fun d z => by cases z)⟩
    | ow k e =>
      cases k with
      | own => cases h; exact ⟨hi, rfl, (fun d z => by cases z), (fun d z => by cases z)⟩
      | bor => cases h
      | lck => cases h
/-- what may be put into a slot -/
def SlOk (K : PySem.W.Frag) (S : Addr → Prop) (H : Hp) (σ : L2.St) (env : Env) (H0 : Hp) (s : Sl) (v : V) : Prop :=
  match s with
  | .im d => Rep K (er S H) v d
  | .ow .own d => ∃ p, v = .ref p ∧ S p ∧ H0 p = none ∧ (∀ k, ¬ OwnsK k σ env p) ∧ Own K (er S H) H p d ∧ Mut (H p)
  | _ => False
theorem set_ok {i : Nat} {s : Sl} {v : V} (F : Fw S0 H0 σ0 env0 S H σ env) (ok : EnvOk K S σ H env) (h : setSl env i s = some env') (hv : SlOk K S H σ env H0 s v) : EnvOk K S (σ.set i (some v)) H env' ∧ Fw S0 H0 σ0 env0 S H (σ.set i (some v)) env' := by
  obtain ⟨hi, rfl, nb, nl⟩ := setSl_inv h
  have hiσ : i < σ.length := by rw [ok.len]; exact hi
  have sne : ∀ {j : Nat}, i ≠ j → (σ.set i (some v))[j]? = σ[j]? := fun ne => List.getElem?_set_ne ne
  -- an owned slot behind it: the new one, or another one as it was
  have ow : ∀ (j : Nat) k d, (env.set i s)[j]? = some (.ow k d) → (i = j ∧ k = .own ∧ s = .ow .own d) ∨ (i ≠ j ∧ env[j]? = some (.ow k d)) := fun j k d z => by
    rcases getElem?_set_cases z with ⟨e, z⟩ | ⟨ne, z⟩
    · subst z
      cases k with
      | own => exact .inl ⟨e, rfl, rfl⟩
      | bor => exact hv.elim
      | lck => exact hv.elim
    · exact .inr ⟨ne, z⟩
  refine ⟨⟨by rw [List.length_set, List.length_set]; exact ok.len, ok.dom, fun j d z => ?_, fun j k d z => ?_, fun j1 j2 k l d e p h1 h2 h3 h4 => ?_⟩, ⟨F.sub, F.kp, F.fr, fun a z => ?_, fun j d z => ?_, fun j d z => ?_, fun j d z => ?_, fun j d z => ?_, F.dm⟩⟩
  · rcases getElem?_set_cases z with ⟨rfl, z'⟩ | ⟨ne, z⟩
    · subst z'
      exact ⟨v, List.getElem?_set_self hiσ, hv⟩
    · obtain ⟨w, g1, g2⟩ := ok.im j d z
      exact ⟨w, by rw [sne ne]; exact g1, g2⟩
  · rcases ow j k d z with ⟨rfl, rfl, rfl⟩ | ⟨ne, z⟩
    · obtain ⟨p, rfl, g1, g2, g3, g4, g5⟩ := hv
      exact ⟨p, List.getElem?_set_self hiσ, g1, g4, fun _ => g5⟩
    · obtain ⟨p, g1, g2, g3, g4⟩ := ok.ow j k d z
      exact ⟨p, by rw [sne ne]; exact g1, g2, g3, g4⟩
  · rcases ow j1 k d h1 with ⟨rfl, rfl, rfl⟩ | ⟨ne1, z1⟩
    · rcases ow j2 l e h2 with ⟨rfl, _, _⟩ | ⟨ne2, z2⟩
      · rfl
      · exfalso
        obtain ⟨p', rfl, g1, g2, g3, g4, g5⟩ := hv
        rw [List.getElem?_set_self hiσ] at h3
        cases h3
        rw [sne ne2] at h4
        exact g3 l ⟨j2, e, z2, h4⟩
    · rcases ow j2 l e h2 with ⟨rfl, rfl, rfl⟩ | ⟨ne2, z2⟩
      · exfalso
        obtain ⟨p', rfl, g1, g2, g3, g4, g5⟩ := hv
        rw [List.getElem?_set_self hiσ] at h4
        cases h4
        rw [sne ne1] at h3
        exact g3 k ⟨j1, d, z1, h3⟩
      · rw [sne ne1] at h3
        rw [sne ne2] at h4
        exact ok.inj j1 j2 k l d e p z1 z2 h3 h4
  · obtain ⟨j, d, z1, z2⟩ := z
    rcases ow j .own d z1 with ⟨rfl, _, rfl⟩ | ⟨ne, z1⟩
    · obtain ⟨p', rfl, g1, g2, g3, g4, g5⟩ := hv
      rw [List.getElem?_set_self hiσ] at z2
      cases z2
      exact .inr g2
    · rw [sne ne] at z2
      exact F.own a ⟨j, d, z1, z2⟩
  · obtain ⟨d', g1, g2⟩ := F.bo j d z
    have ne : i ≠ j := fun e => by subst e; exact nb _ g1
    exact ⟨d', by rw [List.getElem?_set_ne ne]; exact g1, by rw [sne ne]; exact g2⟩
  · rcases ow j .bor d z with ⟨_, e, _⟩ | ⟨ne, z⟩
    · cases e
    · obtain ⟨d', g1, g2⟩ := F.bo' j d z
      exact ⟨d', g1, by rw [sne ne]; exact g2⟩
  · obtain ⟨g1, g2⟩ := F.lk j d z
    have ne : i ≠ j := fun e => by subst e; exact nl _ g1
    exact ⟨by rw [List.getElem?_set_ne ne]; exact g1, by rw [sne ne]; exact g2⟩
  · rcases ow j .lck d z with ⟨_, e, _⟩ | ⟨ne, z⟩
    · cases e
    · obtain ⟨g1, g2⟩ := F.lk' j d z
      exact ⟨g1, by rw [sne ne]; exact g2⟩

/-! ### targets -/
def gNames : List Nat → L2.TGs
  | [] => gNil
  | i :: is => gCons (gName i) (gNames is)
def gSeq (K : PySem.W.Frag) (n : Nat) (t : L2.TGs) : L2.TG := fun v σ H Q => gTup K n t v σ H Q ∨ gUnl K n t v σ H Q
theorem pg_seq {X : Cx} {pos : Pos} {es : List Expr} {k : Nat} {t : L2.TGs} {n : Nat} (hc : X.calm = true) (h : PGs X es t) (hn : (assignEach es X.env).length = n := by rfl) (hst : (assignEach es X.env).findIdx? (·.1) = none := by rfl) : PG X (.Tuple es k pos) (gSeq X.K n t) :=
  ⟨fun pins s σ H v u Q I r hw => by
    rcases hw with hw | hw
    · exact (pg_tup hc h hn hst).run pins s σ H v u Q I r hw
    · exact (pg_unl hc h hn hst).run pins s σ H v u Q I r hw⟩
def gOf (K : PySem.W.Frag) : Tg → L2.TG
  | .n i => gName i
  | .t is => gSeq K is.length (gNames is)
def Tg.ixs : Tg → List Nat
  | .n i => [i]
  | .t is => is
theorem wipe_set {σ : L2.St} {i : Nat} {x : Option V} : ∀ {vs : List Nat}, i ∈ vs → wipe (σ.set i x) vs = wipe σ vs
  | [], h => by cases h
  | v :: vs, h => by
    unfold wipe
    by_cases e : v = i
    · subst e
      by_cases m : v ∈ vs
      · rw [wipe_set m]
      · have com : ∀ (vs : List Nat), v ∉ vs → wipe (σ.set v x) vs = (wipe σ vs).set v x := fun vs => by
          induction vs with
          | nil => intro _; rfl
          | cons w ws ih =>
            intro m
            unfold wipe
            rw [ih fun z => m (List.mem_cons_of_mem _ z)]
            rw [List.set_comm _ _ fun z => m (by rw [z]; exact List.mem_cons_self)]
        rw [com vs m, List.set_set]
    · rcases List.mem_cons.mp h with z | m
      · exact absurd z.symm e
      · rw [wipe_set m]
/-- what holds of the frame ahead of a store holds behind it -/
def FwTo (S : Addr → Prop) (H : Hp) (σ : L2.St) (env : Env) (σ' : L2.St) (env' : Env) : Prop := ∀ (S0 : Addr → Prop) (H0 : Hp) (σ0 : L2.St) (env0 : Env), Fw S0 H0 σ0 env0 S H σ env → Fw S0 H0 σ0 env0 S H σ' env'
theorem set_im {i : Nat} {d : D} {v : V} (ok : EnvOk K S σ H env) (h : setSl env i (.im d) = some env') (hv : Rep K (er S H) v d) : EnvOk K S (σ.set i (some v)) H env' ∧ FwTo S H σ env (σ.set i (some v)) env' :=
  ⟨(set_ok (s := .im d) (S0 := S) (H0 := H) (σ0 := σ) (env0 := env) Fw.refl ok h hv).1, fun S0 H0 σ0 env0 F => (set_ok (s := .im d) F ok h hv).2⟩
theorem binds_ok (ok : EnvOk K S σ H env) : ∀ {is : List Nat} {ds : List D} {xs : List V}, bindTs is ds env = some env' → Reps K (er S H) xs ds →
    ∀ {Q : L2.St → Hp → Prop}, (∀ σ', EnvOk K S σ' H env' → FwTo S H σ env σ' env' → (∀ vs : List Nat, (∀ i ∈ is, i ∈ vs) → wipe σ' vs = wipe σ vs) → Q σ' H) → gNames is xs σ H Q := by
  intro is
  induction is generalizing σ env with
  | nil =>
    intro ds xs h r Q q
    cases ds with
    | nil =>
      cases h
      cases r
      exact ⟨rfl, q σ ok (fun _ _ _ _ F => F) fun _ _ => rfl⟩
    | cons d ds => cases h
  | cons i is ih =>
    intro ds xs h r Q q
    cases ds with
    | nil => cases h
    | cons d ds =>
      cases r with
      | cons r1 r2 =>
        simp only [bindTs] at h
        cases e : setSl env i (.im d) with
        | none => rw [e] at h; cases h
        | some en1 =>
          rw [e] at h
          obtain ⟨ok1, F1⟩ := set_im ok e r1
          refine ⟨_, _, rfl, ih ok1 h r2 fun σ' ok' F' hw => q σ' ok' (fun S0 H0 σ0 env0 F => F' _ _ _ _ (F1 _ _ _ _ F)) fun vs hv => ?_⟩
          rw [hw vs fun j hj => hv j (List.mem_cons_of_mem _ hj), wipe_set (hv i List.mem_cons_self)]
theorem bind_len : ∀ {is : List Nat} {ds : List D} {env env' : Env}, bindTs is ds env = some env' → ds.length = is.length
  | [], [], _, _, _ => rfl
  | [], _ :: _, _, _, h => by cases h
  | _ :: _, [], _, _, h => by cases h
  | i :: is, d :: ds, env, env', h => by
    simp only [bindTs] at h
    cases e : setSl env i (.im d) with
    | none => rw [e] at h; cases h
    | some en1 =>
      rw [e] at h
      exact congrArg (· + 1) (bind_len h)
theorem bind_ok {tg : Tg} {d : D} {v : V} (ok : EnvOk K S σ H env) (h : bindT tg d env = some env') (r : Rep K (er S H) v d)
    {Q : L2.St → Hp → Prop} (q : ∀ σ', EnvOk K S σ' H env' → FwTo S H σ env σ' env' → (∀ vs : List Nat, (∀ i ∈ tg.ixs, i ∈ vs) → wipe σ' vs = wipe σ vs) → Q σ' H) : gOf K tg v σ H Q := by
  cases tg with
  | n i =>
    obtain ⟨ok1, F1⟩ := set_im ok h r
    exact q _ ok1 F1 fun vs hv => wipe_set (hv i List.mem_cons_self)
  | t is =>
    cases d <;> first | cases h | skip
    · cases r with
      | lst h1 h2 => exact .inr ⟨_, _, rfl, er_full.sqL h1, by rw [h2.length]; exact bind_len h, binds_ok ok h h2 q⟩
    · obtain ⟨a, xs, rfl, h1, h2⟩ := Rep.tup_inv r
      exact .inl ⟨a, xs, rfl, er_full.sqT h1, by rw [h2.length]; exact bind_len h, binds_ok ok h h2 q⟩
theorem wipe_wipe (σ : L2.St) (vs : List Nat) : wipe (wipe σ vs) vs = wipe σ vs := by
  have go : ∀ ws : List Nat, (∀ i ∈ ws, i ∈ vs) → wipe (wipe σ ws) vs = wipe σ vs := fun ws => by
    induction ws with
    | nil => intro _; rfl
    | cons w ws ih =>
      intro h
      show wipe ((wipe σ ws).set w none) vs = wipe σ vs
      rw [wipe_set (h w List.mem_cons_self)]
      exact ih fun i hi => h i (List.mem_cons_of_mem _ hi)
  exact go vs fun _ h => h
end
end DI

set_option maxRecDepth 100000
/-! DI13: list comprehensions. -/
namespace DI
open PySem PySem.Spec PyProof.Rows L2
section
variable {K : PySem.W.Frag} {S S' S0 S1 : Addr → Prop} {H H' H0 H1 : Hp} {σ σ' : L2.St} {env env' env0 env1 en : Env}
theorem EnvOk.wipe (ok : EnvOk K S σ H env) (vs : List Nat) : EnvOk K S (L2.wipe σ vs) H (wipeE env vs) := by
  have ow : ∀ (i : Nat) s, s ≠ .un → (wipeE env vs)[i]? = some s → i ∉ vs ∧ env[i]? = some s := fun i s hs h => by
    rcases wipeE_cases env vs i s h with ⟨_, e⟩ | h
    · exact absurd e hs
    · exact h
  refine ⟨by rw [wipe_length, wipeE_len]; exact ok.len, ok.dom, fun i d h => ?_, fun i k d h => ?_, fun i j k l d e p h1 h2 h3 h4 => ?_⟩
  · obtain ⟨h1, h2⟩ := ow i _ (fun z => by cases z) h
    obtain ⟨v, g1, g2⟩ := ok.im i d h2
    exact ⟨v, by rw [wipe_out h1]; exact g1, g2⟩
  · obtain ⟨h1, h2⟩ := ow i _ (fun z => by cases z) h
    obtain ⟨p, g1, g2⟩ := ok.ow i k d h2
    exact ⟨p, by rw [wipe_out h1]; exact g1, g2⟩
  · obtain ⟨a1, a2⟩ := ow i _ (fun z => by cases z) h1
    obtain ⟨b1, b2⟩ := ow j _ (fun z => by cases z) h2
    rw [wipe_out a1] at h3
    rw [wipe_out b1] at h4
    exact ok.inj i j k l d e p a2 b2 h3 h4
theorem ownsK_wipe {k : Kd} {vs : List Nat} {a : Addr} (h : OwnsK k (L2.wipe σ vs) (wipeE env vs) a) : OwnsK k σ env a := by
  obtain ⟨i, d, h1, h2⟩ := h
  rcases wipeE_cases env vs i _ h1 with ⟨_, e⟩ | ⟨g1, g2⟩
  · cases e
  · rw [wipe_out g1] at h2
    exact ⟨i, d, g2, h2⟩
theorem ch_wipe {vs : List Nat} {a : Addr} (h : Ch (L2.wipe σ vs) (wipeE env vs) a) : Ch σ env a := by
  rcases h with h | h
  · exact .inl (ownsK_wipe h)
  · exact .inr (ownsK_wipe h)
/-- the slots of a block wiped again -/
theorem Fw.wipe {vs : List Nat} {σw : L2.St} {envB : Env} (F : Fw S0 H0 σw (wipeE envB vs) S H σ env) : Fw S0 H0 σw (wipeE envB vs) S H (L2.wipe σ vs) (wipeE env vs) := by
  have nv : ∀ (i : Nat) s, s ≠ .un → (wipeE envB vs)[i]? = some s → i ∉ vs := fun i s hs h => by
    rcases wipeE_cases envB vs i s h with ⟨_, e⟩ | ⟨h, _⟩
    · exact absurd e hs
    · exact h
  refine ⟨F.sub, F.kp, F.fr, fun a h => F.own a (ownsK_wipe h), fun i d h => ?_, fun i d h => ?_, fun i d h => ?_, fun i d h => ?_, F.dm⟩
  · obtain ⟨d', g1, g2⟩ := F.bo i d h
    have hi := nv i _ (fun z => by cases z) h
    exact ⟨d', by rw [wipeE_out env vs i hi]; exact g1, by rw [wipe_out hi]; exact g2⟩
  · rcases wipeE_cases env vs i _ h with ⟨_, e⟩ | ⟨h1, h2⟩
    · cases e
    · obtain ⟨d', g1, g2⟩ := F.bo' i d h2
      exact ⟨d', g1, by rw [wipe_out h1]; exact g2⟩
  · obtain ⟨g1, g2⟩ := F.lk i d h
    have hi := nv i _ (fun z => by cases z) h
    exact ⟨by rw [wipeE_out env vs i hi]; exact g1, by rw [wipe_out hi]; exact g2⟩
  · rcases wipeE_cases env vs i _ h with ⟨_, e⟩ | ⟨h1, h2⟩
    · cases e
    · obtain ⟨g1, g2⟩ := F.lk' i d h2
      exact ⟨g1, by rw [wipe_out h1]; exact g2⟩
theorem free_at {vs : List Nat} (h : freeE env vs = true) {i : Nat} (hi : i ∈ vs) : (∀ d, env[i]? ≠ some (.ow .bor d)) ∧ ∀ d, env[i]? ≠ some (.ow .lck d) := by
  unfold freeE at h
  have h' := List.all_eq_true.mp h i hi
  constructor
  · intro d e
    rw [e] at h'
    cases h'
  · intro d e
    rw [e] at h'
    cases h'
/-- behind a block: the slots as they were, what was walked open again -/
theorem lc_end {vs ls : List Nat} (ok1 : EnvOk K S1 σ H1 env1) (free : freeE env1 vs = true) (F : Fw S1 H1 (L2.wipe σ vs) (wipeE (lockE env1 ls) vs) S' H' (L2.wipe σ vs) en) (okE : EnvOk K S' (L2.wipe σ vs) H' en) :
    EnvOk K S' σ H' (unlockE env1 (backE (lockE env1 ls) en vs) ls) ∧ Fw S1 H1 σ env1 S' H' σ (unlockE env1 (backE (lockE env1 ls) en vs) ls) ∧
      ∀ k a, OwnsK k σ (unlockE env1 (backE (lockE env1 ls) en vs) ls) a → OwnsK k σ env1 a ∨ OwnsK k (L2.wipe σ vs) en a := by
  have okL := ok1.lock ls
  have okW := okL.wipe vs
  have le : Le (er S1 H1) (er S' H') := Fw.le okW F
  have hlen : (lockE env1 ls).length = en.length := by
    rw [lock_len, ← ok1.len, ← wipe_length σ vs, okE.len]
  -- where a slot comes from
  have src : ∀ (j : Nat) (s : Sl), (unlockE env1 (backE (lockE env1 ls) en vs) ls)[j]? = some s → (env1[j]? = some s ∧ ((∃ k d, s = .ow k d ∧ j ∈ ls) ∨ j ∈ vs)) ∨ (en[j]? = some s ∧ j ∉ vs ∧ (j ∈ ls → ∀ k d, env1[j]? ≠ some (.ow k d))) := fun j s h => by
    rcases unlock_cases env1 _ ls j s h with ⟨k, d, h1, h2, h3⟩ | ⟨h1, h2⟩
    · subst h3
      exact .inl ⟨h2, .inl ⟨k, d, rfl, h1⟩⟩
    · rcases backE_cases (lockE env1 ls) en hlen vs j s h1 with ⟨g1, g2⟩ | ⟨g1, g2⟩
      · rcases lock_cases env1 ls j s g2 with ⟨k, d, q1, q2, _⟩ | ⟨q1, _⟩
        · exact absurd q2 (h2 q1 k d)
        · exact .inl ⟨q1, .inr g1⟩
      · exact .inr ⟨g2, g1, h2⟩
  -- a slot of env1 that is locked or wiped owns nothing that changes
  have quiet : ∀ (j : Nat) k d p, env1[j]? = some (.ow k d) → σ[j]? = some (some (.ref p)) → (j ∈ ls ∨ j ∈ vs) → ¬ Ch (L2.wipe σ vs) (wipeE (lockE env1 ls) vs) p := fun j k d p h1 h2 h3 hc => by
    have go : ∀ k', k' ≠ .lck → OwnsK k' (L2.wipe σ vs) (wipeE (lockE env1 ls) vs) p → False := fun k' hk z => by
      obtain ⟨i, d', z1, z2⟩ := z
      rcases wipeE_cases _ vs i _ z1 with ⟨_, e⟩ | ⟨z3, z4⟩
      · cases e
      · rw [wipe_out z3] at z2
        obtain ⟨k2, y1, y2⟩ := lock_kind z4
        have e := ok1.inj j i _ _ _ _ p h1 y1 h2 z2
        subst e
        rcases h3 with h3 | h3
        · rcases lock_cases env1 ls j _ z4 with ⟨_, _, _, _, x⟩ | ⟨_, x⟩
          · cases x
            exact hk rfl
          · exact x h3 k' d' rfl
        · exact z3 h3
    rcases hc with hc | hc
    · exact go _ (fun z => by cases z) hc
    · exact go _ (fun z => by cases z) hc
  have ownW : ∀ {k a}, OwnsK k (L2.wipe σ vs) (wipeE (lockE env1 ls) vs) a → k ≠ .lck → OwnsK k σ env1 a := fun {k a} h hk => by
    obtain ⟨i, d, h1, h2⟩ := ownsK_wipe h
    obtain ⟨k', g1, g2⟩ := lock_kind h1
    rw [g2 hk] at g1
    exact ⟨i, d, g1, h2⟩
  have same : ∀ (j : Nat) k d p, env1[j]? = some (.ow k d) → σ[j]? = some (some (.ref p)) → (j ∈ ls ∨ j ∈ vs) → S' p ∧ H' p = H1 p := fun j k d p h1 h2 h3 => by
    have q := quiet j k d p h1 h2 h3
    obtain ⟨p', g1, g2, _⟩ := ok1.ow j k d h1
    rw [h2] at g1
    cases g1
    have hd := ok1.dom p g2
    refine ⟨F.kp p g2 hd fun z => q (.inl z), ?_⟩
    cases e : H1 p with
    | none => exact absurd e hd
    | some o => exact F.fr p o e q
  have nv_bor : ∀ (i : Nat) d, env1[i]? = some (.ow .bor d) → i ∉ vs := fun i d h m => (free_at free m).1 d h
  have nv_lck : ∀ (i : Nat) d, env1[i]? = some (.ow .lck d) → i ∉ vs := fun i d h m => (free_at free m).2 d h
  have there : ∀ (i : Nat) s, env1[i]? = some s → ∃ t, (unlockE env1 (backE (lockE env1 ls) en vs) ls)[i]? = some t := fun i s h => by
    have hi := (List.getElem?_eq_some_iff.mp h).1
    exact ⟨_, List.getElem?_eq_getElem (by rw [unlock_len, backE_len, ← hlen, lock_len]; exact hi)⟩
  refine ⟨⟨by rw [unlock_len, backE_len, ← hlen, lock_len]; exact ok1.len, okE.dom, fun j d h => ?_, fun j k d h => ?_, fun i j k l d e p h1 h2 h3 h4 => ?_⟩, ⟨F.sub, fun a h1 h2 h3 => F.kp a h1 h2 fun z => h3 (ownW z (fun w => by cases w)), fun a o h n => F.fr a o h fun z => n (lock_ch (ch_wipe z)), fun a h => ?_, fun i d h => ?_, fun i d h => ?_, fun i d h => ?_, fun i d h => ?_, F.dm⟩, fun k a h => ?_⟩
  · rcases src j _ h with ⟨h1, _⟩ | ⟨h1, h2, _⟩
    · obtain ⟨v, g1, g2⟩ := ok1.im j d h1
      exact ⟨v, g1, g2.mono le⟩
    · obtain ⟨v, g1, g2⟩ := okE.im j d h1
      exact ⟨v, by rw [← wipe_out h2]; exact g1, g2⟩
  · rcases src j _ h with ⟨h1, h2⟩ | ⟨h1, h2, _⟩
    · have h2' : j ∈ ls ∨ j ∈ vs := h2.elim (fun ⟨_, _, _, m⟩ => .inl m) .inr
      obtain ⟨p, g1, g2, g3, g4⟩ := ok1.ow j k d h1
      obtain ⟨q1, q2⟩ := same j k d p h1 g1 h2'
      exact ⟨p, g1, q1, g3.mono le (fun u r => by unfold Rd at r ⊢; rw [q2]; exact r), fun z => by rw [q2]; exact g4 z⟩
    · obtain ⟨p, g1, g2⟩ := okE.ow j k d h1
      exact ⟨p, by rw [← wipe_out h2]; exact g1, g2⟩
  · -- no two slots own one object
    have mixed : ∀ (i j : Nat) k l d e, env1[i]? = some (.ow k d) → (i ∈ ls ∨ i ∈ vs) → en[j]? = some (.ow l e) → j ∉ vs → σ[i]? = some (some (.ref p)) → σ[j]? = some (some (.ref p)) → i = j := fun i j k l d e a1 a2 b1 b2 c1 c2 => by
      have q := quiet i k d p a1 c1 a2
      have hd : H1 p ≠ none := by
        obtain ⟨p', g1, g2, _⟩ := ok1.ow i k d a1
        rw [c1] at g1
        cases g1
        exact ok1.dom p g2
      have c2' : (L2.wipe σ vs)[j]? = some (some (.ref p)) := by rw [wipe_out b2]; exact c2
      cases l with
      | own =>
        rcases F.own p ⟨j, e, b1, c2'⟩ with z | z
        · exact absurd (.inl z) q
        · exact absurd z hd
      | bor =>
        obtain ⟨e', z1, z2⟩ := F.bo' j e b1
        exact absurd (.inr ⟨j, e', z1, by rw [← z2]; exact c2'⟩) q
      | lck =>
        obtain ⟨z1, _⟩ := F.lk' j e b1
        rcases wipeE_cases _ vs j _ z1 with ⟨m, _⟩ | ⟨_, z3⟩
        · exact absurd m b2
        · obtain ⟨k', y1, _⟩ := lock_kind z3
          exact ok1.inj i j _ _ _ _ p a1 y1 c1 c2
    have ors : ∀ {j : Nat} {s : Sl}, (∃ k d, s = .ow k d ∧ j ∈ ls) ∨ j ∈ vs → j ∈ ls ∨ j ∈ vs := fun h => h.elim (fun ⟨_, _, _, m⟩ => .inl m) .inr
    rcases src i _ h1 with ⟨a1, a2⟩ | ⟨a1, a2, _⟩
    · rcases src j _ h2 with ⟨b1, b2⟩ | ⟨b1, b2, _⟩
      · exact ok1.inj i j _ _ _ _ p a1 b1 h3 h4
      · exact mixed i j _ _ _ _ a1 (ors a2) b1 b2 h3 h4
    · rcases src j _ h2 with ⟨b1, b2⟩ | ⟨b1, b2, _⟩
      · exact (mixed j i _ _ _ _ b1 (ors b2) a1 a2 h4 h3).symm
      · exact okE.inj i j _ _ _ _ p a1 b1 (by rw [wipe_out a2]; exact h3) (by rw [wipe_out b2]; exact h4)
  · obtain ⟨j, d, h1, h2⟩ := h
    rcases src j _ h1 with ⟨a1, _⟩ | ⟨a1, a2, _⟩
    · exact .inl ⟨j, d, a1, h2⟩
    · rcases F.own a ⟨j, d, a1, by rw [wipe_out a2]; exact h2⟩ with z | z
      · exact .inl (ownW z (fun w => by cases w))
      · exact .inr z
  · obtain ⟨t, ht⟩ := there i _ h
    have hv := nv_bor i d h
    rcases src i t ht with ⟨a1, _⟩ | ⟨a1, a2, a3⟩
    · rw [h] at a1
      cases a1
      exact ⟨d, ht, rfl⟩
    · have hl : i ∉ ls := fun m => a3 m _ _ h
      have hL : (lockE env1 ls)[i]? = some (.ow .bor d) := by
        obtain ⟨s', hs'⟩ : ∃ s', (lockE env1 ls)[i]? = some s' := ⟨_, List.getElem?_eq_getElem (by rw [lock_len]; exact (List.getElem?_eq_some_iff.mp h).1)⟩
        rcases lock_cases env1 ls i s' hs' with ⟨_, _, m, _⟩ | ⟨q, _⟩
        · exact absurd m hl
        · rw [h] at q
          cases q
          exact hs'
      obtain ⟨d', g1, _⟩ := F.bo i d (by rw [wipeE_out _ vs i hv]; exact hL)
      rw [a1] at g1
      cases g1
      exact ⟨d', ht, rfl⟩
  · rcases src i _ h with ⟨a1, _⟩ | ⟨a1, a2, _⟩
    · exact ⟨d, a1, rfl⟩
    · obtain ⟨d', g1, _⟩ := F.bo' i d a1
      rcases wipeE_cases _ vs i _ g1 with ⟨m, _⟩ | ⟨_, z3⟩
      · exact absurd m a2
      · obtain ⟨k', y1, y2⟩ := lock_kind z3
        rw [y2 (fun z => by cases z)] at y1
        exact ⟨d', y1, rfl⟩
  · obtain ⟨t, ht⟩ := there i _ h
    have hv := nv_lck i d h
    rcases src i t ht with ⟨a1, _⟩ | ⟨a1, a2, a3⟩
    · rw [h] at a1
      cases a1
      exact ⟨ht, rfl⟩
    · have hl : i ∉ ls := fun m => a3 m _ _ h
      have hL : (lockE env1 ls)[i]? = some (.ow .lck d) := by
        obtain ⟨s', hs'⟩ : ∃ s', (lockE env1 ls)[i]? = some s' := ⟨_, List.getElem?_eq_getElem (by rw [lock_len]; exact (List.getElem?_eq_some_iff.mp h).1)⟩
        rcases lock_cases env1 ls i s' hs' with ⟨_, _, m, _⟩ | ⟨q, _⟩
        · exact absurd m hl
        · rw [h] at q
          cases q
          exact hs'
      obtain ⟨g1, _⟩ := F.lk i d (by rw [wipeE_out _ vs i hv]; exact hL)
      rw [a1] at g1
      cases g1
      exact ⟨ht, rfl⟩
  · rcases src i _ h with ⟨a1, _⟩ | ⟨a1, a2, a3⟩
    · exact ⟨a1, rfl⟩
    · obtain ⟨g1, _⟩ := F.lk' i d a1
      rcases wipeE_cases _ vs i _ g1 with ⟨m, _⟩ | ⟨_, z3⟩
      · exact absurd m a2
      · rcases lock_cases env1 ls i _ z3 with ⟨k', d', m, q, z⟩ | ⟨q, _⟩
        · exact absurd q (a3 m k' d')
        · exact ⟨q, rfl⟩
  · obtain ⟨j, d, h1, h2⟩ := h
    rcases src j _ h1 with ⟨a1, _⟩ | ⟨a1, a2, _⟩
    · exact .inl ⟨j, d, a1, h2⟩
    · exact .inr ⟨j, d, a1, by rw [wipe_out a2]; exact h2⟩
/-- a temporary object is changed -/
theorem EnvOk.temp {p : Addr} {o : HO} (ok : EnvOk K S σ H env) (hs : S p) (hn : ∀ k, ¬ OwnsK k σ env p) : EnvOk K S σ (upd H p o) env := by
  refine ok.move (by rw [er_upd hs]; exact Le.refl _) (fun k a h => ⟨ok.owns h, upd_ne fun z => hn k (by rw [← z]; exact h)⟩) fun a h => upd_dom (ok.dom a h)
end
end DI

set_option maxRecDepth 100000
/-! DI14: list comprehensions do what the evaluator says. -/
namespace DI
open PySem PySem.Spec PyProof.Rows L2
/-- a clause's tests -/
def AnyF (X : Cx) (ifs : List Expr) : TT := fun σ H Q => ∀ (pins : List (Addr × Obj)) (s : Shared), Inv X pins σ H s →
  wpAny (model X.prog X.w) X.A (forIn ifs true fun c r => if r = true then do let ok ← isTrue c X.env (eval c X.env); pure (ForInStep.yield ok) else pure (ForInStep.yield r)) (TP X pins σ Q) X.xe s
structure SndF (Φ : Fns) (X : Cx) (ifs : List Expr) (x : Xp) : Prop where
  run : ∀ env k env', tstX Φ x env = some (k, env') → ∀ (S : Addr → Prop) (σ : L2.St) (H : Hp), EnvOk X.K S σ H env →
  ∀ Q : Bool → Hp → Prop, (∀ S' H', Fw S H σ env S' H' σ env' → EnvOk X.K S' σ H' env' → Q k H') → AnyF X ifs σ H Q
instance {Φ : Fns} {X : Cx} {ifs : List Expr} {x : Xp} : CoeFun (SndF Φ X ifs x) fun _ => ∀ env k env', tstX Φ x env = some (k, env') → ∀ (S : Addr → Prop) (σ : L2.St) (H : Hp), EnvOk X.K S σ H env →
    ∀ Q : Bool → Hp → Prop, (∀ S' H', Fw S H σ env S' H' σ env' → EnvOk X.K S' σ H' env' → Q k H') → AnyF X ifs σ H Q := ⟨SndF.run⟩
section
variable {Φ : Fns} {X : Cx} {a b c e tg iter elt : Expr} {xa xb xc x xe xt : Xp} {xs : Xps} {it : It} {pos p p2 : Pos} {ifs : List Expr}
theorem sndF_nil : SndF Φ X [] (.c (.bool true)) := .mk fun env k env' h S σ H ok Q q pins s I => by
  simp only [tstX, ev, R.val, Option.bind, truthD] at h
  cases h
  exact pts_nil.run pins s σ H Q I (q S H Fw.refl ok)
theorem sndF_one (h : SndT Φ X c x) : SndF Φ X [c] x := .mk fun env k env' hv S σ H ok Q q pins s I =>
  (pts_one pt_any).run pins s σ H Q I (h env k env' hv S σ H ok Q q)
/-- the contexts of a comprehension's block -/
def Blk (X : Cx) (scope : Scope) (P : Cx → Prop) : Prop := ∀ (s : Shared) (H : Hp) (C : Addr) (cl : List (Str × Addr)) (fp : List Addr), P (X.blk s H scope (compEnvC scope cl C X.env) fp)
/-- a comprehension's turn -/
def lcTurn (Φ : Fns) (vs : List Nat) (tg : Tg) (tt e : Xp) : D → Env → Option (Option D × Env) := fun d en => match bindT tg d en with
  | some en1 => match ev Φ tt en1 with
    | some (rt, en2) => match (rt.val en2).bind truthD with
      | some true => match ev Φ e en2 with
        | some (re, en3) => match sto re en3 with
          | some (y, en4) => some (some y, wipeE en4 vs)
          | none => none
        | none => none
      | some false => some (none, wipeE en2 vs)
      | none => none
    | none => none
  | none => none
theorem lcTurn_inv {vs : List Nat} {tg : Tg} {tt e : Xp} {d : D} {en en' : Env} {o : Option D} (h : lcTurn Φ vs tg tt e d en = some (o, en')) :
    ∃ en1 en2 k, bindT tg d en = some en1 ∧ tstX Φ tt en1 = some (k, en2) ∧ ((k = true ∧ ∃ re en3 y en4, ev Φ e en2 = some (re, en3) ∧ sto re en3 = some (y, en4) ∧ o = some y ∧ en' = wipeE en4 vs) ∨ (k = false ∧ o = none ∧ en' = wipeE en2 vs)) := by
  unfold lcTurn at h
  cases e1 : bindT tg d en with
  | none => rw [e1] at h; cases h
  | some en1 =>
    rw [e1] at h
    dsimp only at h
    cases e2 : ev Φ tt en1 with
    | none => rw [e2] at h; cases h
    | some p2 =>
      obtain ⟨rt, en2⟩ := p2
      rw [e2] at h
      dsimp only at h
      cases e3 : (rt.val en2).bind truthD with
      | none => rw [e3] at h; cases h
      | some k =>
        rw [e3] at h
        have ts : tstX Φ tt en1 = some (k, en2) := by simp only [tstX, e2, e3]
        cases k with
        | false =>
          cases h
          exact ⟨en1, en2, false, rfl, ts, .inr ⟨rfl, rfl, rfl⟩⟩
        | true =>
          dsimp only at h
          cases e4 : ev Φ e en2 with
          | none => rw [e4] at h; cases h
          | some p4 =>
            obtain ⟨re, en3⟩ := p4
            rw [e4] at h
            dsimp only at h
            cases e5 : sto re en3 with
            | none => rw [e5] at h; cases h
            | some p5 =>
              obtain ⟨y, en4⟩ := p5
              rw [e5] at h
              cases h
              exact ⟨en1, en2, true, rfl, ts, .inl ⟨rfl, re, en3, y, en4, e4, e5, rfl, rfl⟩⟩
theorem ev_lc_inv {vs : List Nat} {tg : Tg} {tt e : Xp} {env env' : Env} {r : R} (h : ev Φ (.lc vs it tg tt e) env = some (r, env')) :
    ∃ ls ds env1 ys en, evI Φ it env = some (ls, ds, env1) ∧ freeE env1 vs = true ∧ ds.length ≤ lim ∧ goL (lcTurn Φ vs tg tt e) ds (wipeE (lockE env1 ls) vs) = some (ys, en) ∧ r = .fr (.list ys) ∧ env' = unlockE env1 (backE (lockE env1 ls) en vs) ls := by
  simp only [ev, lcRun] at h
  cases e1 : evI Φ it env with
  | none => rw [e1] at h; cases h
  | some p1 =>
    obtain ⟨ls, ds, env1⟩ := p1
    rw [e1] at h
    dsimp only at h
    split at h
    · rename_i hc
      rw [Bool.and_eq_true, decide_eq_true_iff] at hc
      change (match goL (lcTurn Φ vs tg tt e) ds (wipeE (lockE env1 ls) vs) with
        | some (ys, en) => some (R.fr (.list ys), unlockE env1 (backE (lockE env1 ls) en vs) ls)
        | none => none) = some (r, env') at h
      cases e2 : goL (lcTurn Φ vs tg tt e) ds (wipeE (lockE env1 ls) vs) with
      | none => rw [e2] at h; cases h
      | some p2 =>
        obtain ⟨ys, en⟩ := p2
        rw [e2] at h
        cases h
        exact ⟨ls, ds, env1, ys, en, rfl, hc.1, hc.2, e2, rfl, rfl⟩
    · cases h
theorem goL_cons {f : D → Env → Option (Option D × Env)} {d : D} {ds : List D} {en en' : Env} {ys : List D} (h : goL f (d :: ds) en = some (ys, en')) : ∃ o en1 zs, f d en = some (o, en1) ∧ goL f ds en1 = some (zs, en') ∧ ys = (match o with | some y => y :: zs | none => zs) := by
  simp only [goL] at h
  cases e1 : f d en with
  | none => rw [e1] at h; cases h
  | some p1 =>
    obtain ⟨o, en1⟩ := p1
    rw [e1] at h
    dsimp only at h
    cases e2 : goL f ds en1 with
    | none => rw [e2] at h; cases h
    | some p2 =>
      obtain ⟨zs, en2⟩ := p2
      rw [e2] at h
      cases h
      exact ⟨o, en1, zs, rfl, e2, rfl⟩
/-- the block's readings, whatever its context -/
def ttB (X : Cx) (scope : Scope) (ifs : List Expr) : TT := fun σ H Q => ∀ (s : Shared) (H0 : Hp) (C : Addr) (cl : List (Str × Addr)) (fp : List Addr), AnyF (X.blk s H0 scope (compEnvC scope cl C X.env) fp) ifs σ H Q
def teB (X : Cx) (scope : Scope) (elt : Expr) : TE := fun σ H Q => ∀ (s : Shared) (H0 : Hp) (C : Addr) (cl : List (Str × Addr)) (fp : List Addr), AnyE (X.blk s H0 scope (compEnvC scope cl C X.env) fp) elt σ H Q
theorem pt_B {scope : Scope} (s : Shared) (H : Hp) (C : Addr) (cl : List (Str × Addr)) (fp : List Addr) : PTs (X.blk s H scope (compEnvC scope cl C X.env) fp) ifs (ttB X scope ifs) := ⟨fun pins s1 σ1 H1 Q1 I hw => hw s H C cl fp pins s1 I⟩
theorem pe_B {scope : Scope} (s : Shared) (H : Hp) (C : Addr) (cl : List (Str × Addr)) (fp : List Addr) : PE (X.blk s H scope (compEnvC scope cl C X.env) fp) elt (teB X scope elt) := ⟨fun pins s1 σ1 H1 Q1 I hw => hw s H C cl fp pins s1 I⟩
theorem lc_run {scope : Scope} {own : List (Str × Nat)} {tgE : Expr} {tg : Tg} (hi : SndI Φ X tgE iter it)
    (ht : Blk X scope fun X' => SndF Φ X' ifs xt) (he : Blk X scope fun X' => Snd Φ X' elt xe) (hv : ∀ i ∈ tg.ixs, i ∈ own.map (·.2)) {env env' : Env} {r : R} (h : ev Φ (.lc (own.map (·.2)) it tg xt xe) env = some (r, env')) {S : Addr → Prop} {σ : L2.St} {H : Hp} (okE : EnvOk X.K S σ H env) {Q : VK} (q : ∀ v S' H', Post X.K S H σ env r env' v S' H' → Q v H') :
    tLc (AnyI X tgE iter) (gOf X.K tg) (ttB X scope ifs) (teB X scope elt) (own.map (·.2)) σ H Q := by
  obtain ⟨ls, ds, env1, ys, en, e1, free, hlen, e2, rfl, rfl⟩ := ev_lc_inv h
  refine hi env ls ds env1 e1 S σ H okE _ fun J S1 H1 f1 ok1 wd => ?_
  obtain ⟨G, Y, w, keep, yl⟩ := wd
  intro Dd hD
  have okW := (ok1.lock ls).wipe (own.map (·.2))
  have hDS : ¬ S1 Dd := fun z => ok1.dom Dd z hD
  refine lc_it w (fun i H' => ∃ (S' : Addr → Prop) (en' : Env) (vacc : List V) (acc rest : List D), goL (lcTurn Φ (own.map (·.2)) tg xt xe) (ds.drop i) en' = some (rest, en) ∧ ys = acc ++ rest ∧ acc.length ≤ i ∧
      EnvOk X.K S' (L2.wipe σ (own.map (·.2))) H' en' ∧ Fw S1 H1 (L2.wipe σ (own.map (·.2))) (wipeE (lockE env1 ls) (own.map (·.2))) S' H' (L2.wipe σ (own.map (·.2))) en' ∧ S' Dd ∧ (∀ k, ¬ OwnsK k (L2.wipe σ (own.map (·.2))) en' Dd) ∧ H' Dd = some (.lst vacc) ∧ Reps X.K (er S' H') vacc acc)
    ⟨_, _, [], [], ys, by rw [List.drop_zero]; exact e2, rfl, Nat.le_refl _, okW.newS hD, Fw.newS hD, .inr rfl, fun k z => hDS (okW.owns z), upd_same, .nil⟩ (fun i H' _ hp => ?_) (fun i x Ha Hb hi' hp hy => ?_) (fun H' hp => ?_)
  · obtain ⟨S', en', vacc, acc, rest, _, _, _, okI, fI, _⟩ := hp
    exact keep H' fun a o h1 h2 => fI.fr a o h1 fun z => h2 (ch_wipe z)
  · obtain ⟨S', en', vacc, acc, rest, g1, g2, g3, okI, fI, sD, nD, hl, hr⟩ := hp
    have hG : G Ha := keep Ha fun a o h1 h2 => fI.fr a o h1 fun z => h2 (ch_wipe z)
    obtain ⟨d, y1, y2, y3⟩ := yl i Ha x Hb hi' hG hy
    have hdrop : ds.drop i = d :: ds.drop (i + 1) := by
      obtain ⟨hlt, hd⟩ := List.getElem?_eq_some_iff.mp y1
      rw [List.drop_eq_getElem_cons hlt, hd]
    rw [hdrop] at g1
    obtain ⟨o, en1', zs, t1, t2, t3⟩ := goL_cons g1
    obtain ⟨en1, en2, k, b1, b2, b3⟩ := lcTurn_inv t1
    -- the item
    have le1 : Le (er S1 H1) (er S' Ha) := Fw.le okW fI
    have rx : Rep X.K (er S' Hb) x d := y3 S' le1 okI.dom
    have fb : Fw S' Ha (L2.wipe σ (own.map (·.2))) en' S' Hb (L2.wipe σ (own.map (·.2))) en' := by
      rcases y2 with rfl | ⟨T, ob, hT, rfl⟩
      · exact Fw.refl
      · exact Fw.new hT
    have okB : EnvOk X.K S' (L2.wipe σ (own.map (·.2))) Hb en' := by
      rcases y2 with rfl | ⟨T, ob, hT, rfl⟩
      · exact okI
      · exact okI.new hT
    refine bind_ok okB b1 rx fun σ2 ok2 f2 hw2 => ⟨by rw [hw2 _ hv]; exact (wipe_wipe σ _), ?_⟩
    have hσ2 : L2.wipe σ2 (own.map (·.2)) = L2.wipe σ (own.map (·.2)) := by rw [hw2 _ hv]; exact (wipe_wipe σ _)
    -- from the turn's beginning; from the loop's
    have fT := f2 _ _ _ _ fb
    have fL := f2 _ _ _ _ (fI.trans fb)
    have hDa : Ha Dd ≠ none := by rw [hl]; exact fun z => by cases z
    -- the new list is nobody's, whatever comes within the turn
    have nobody : ∀ {S3 : Addr → Prop} {H3 : Hp} {en3 : Env}, Fw S' Ha (L2.wipe σ (own.map (·.2))) en' S3 H3 σ2 en3 → (∀ k, ¬ OwnsK k σ2 en3 Dd) ∧ S3 Dd ∧ H3 Dd = some (.lst vacc) := fun {S3 H3 en3} F => by
      have nc : ¬ Ch (L2.wipe σ (own.map (·.2))) en' Dd := fun z => z.elim (nD _) (nD _)
      refine ⟨fun k z => ?_, F.kp Dd sD hDa (nD _), F.fr Dd _ hl nc⟩
      cases k with
      | own =>
        rcases F.own Dd z with z | z
        · exact nD _ z
        · exact hDa z
      | bor =>
        obtain ⟨i', d', z1, z2⟩ := z
        obtain ⟨d2, z3, z4⟩ := F.bo' i' d' z1
        exact nD .bor ⟨i', d2, z3, by rw [← z4]; exact z2⟩
      | lck =>
        obtain ⟨i', d', z1, z2⟩ := z
        obtain ⟨z3, z4⟩ := F.lk' i' d' z1
        exact nD .lck ⟨i', d', z3, by rw [← z4]; exact z2⟩
    intro s0 H00 C0 cl0 fp0
    refine (ht s0 H00 C0 cl0 fp0) en1 k en2 b2 S' σ2 Hb ok2 _ fun S3 H3 f3 ok3 => ?_
    have fT3 := fT.trans f3
    have fL3 := fL.trans f3
    rcases b3 with ⟨rfl, re, en3, y, en4, c1, c2, rfl, rfl⟩ | ⟨rfl, rfl, rfl⟩
    · rw [if_pos rfl]
      intro s0 H00 C0 cl0 fp0
      refine (he s0 H00 C0 cl0 fp0) en2 re en3 c1 S3 σ2 H3 ok3 _ fun v S4 H4 P4 => ?_
      obtain ⟨S5, f5, ok5, r5⟩ := P4.sto c2
      have fT5 := fT3.trans f5
      have fL5 := fL3.trans f5
      obtain ⟨n5, s5, l5⟩ := nobody fT5
      refine ⟨vacc, l5, by rw [hr.length, sizeLine_eq]; unfold lim at hlen; omega, S5, wipeE en4 (own.map (·.2)), vacc ++ [v], acc ++ [y], zs, t2, by rw [g2, t3, List.append_assoc]; rfl, by rw [List.length_append]; simp only [List.length_cons, List.length_nil]; omega, ?_, ?_, s5, fun k z => n5 k (ownsK_wipe (by rw [hσ2]; exact z)), upd_same, ?_⟩
      · rw [← hσ2]
        exact (ok5.temp s5 n5).wipe _
      · have F6 : Fw S1 H1 (L2.wipe σ (own.map (·.2))) (wipeE (lockE env1 ls) (own.map (·.2))) S5 (upd H4 Dd (.lst (vacc ++ [v]))) σ2 en4 := by
          refine ⟨fL5.sub, fL5.kp, fun a o h1 h2 => ?_, fL5.own, fL5.bo, fL5.bo', fL5.lk, fL5.lk', fun a h => upd_dom (fL5.dm a h)⟩
          have na : a ≠ Dd := fun z => by rw [z, hD] at h1; cases h1
          rw [upd_ne na]
          exact fL5.fr a o h1 h2
        have W := Fw.wipe F6
        rw [hσ2] at W
        exact W
      · rw [er_upd s5]
        exact (hr.mono (Fw.le okI fT5)).append (.cons r5 .nil)
    · rw [if_neg Bool.false_ne_true]
      obtain ⟨n3, s3, l3⟩ := nobody fT3
      refine ⟨S3, wipeE en2 (own.map (·.2)), vacc, acc, zs, t2, by rw [g2, t3], by omega, ?_, ?_, s3, fun k z => n3 k (ownsK_wipe (by rw [hσ2]; exact z)), l3, hr.mono (Fw.le okI fT3)⟩
      · rw [← hσ2]
        exact ok3.wipe _
      · have := Fw.wipe fL3
        rw [hσ2] at this
        exact this
  · obtain ⟨S', en', vacc, acc, rest, g1, g2, g3, okI, fI, sD, nD, hl, hr⟩ := hp
    rw [List.drop_length] at g1
    cases g1
    rw [List.append_nil] at g2
    subst g2
    obtain ⟨z1, z2, z3⟩ := lc_end ok1 free fI okI
    have nn : ∀ k, ¬ OwnsK k σ (unlockE env1 (backE (lockE env1 ls) en (own.map (·.2))) ls) Dd := fun k z => by
      rcases z3 k Dd z with z | z
      · exact hDS (ok1.owns z)
      · exact nD k z
    refine q _ _ _ ⟨f1.trans z2, z1, ⟨Dd, rfl, sD, fun z => z.elim (nn _) (nn _), nn _, ⟨vacc, .inl hl, hr⟩, by rw [hl]; exact True.intro⟩, fun d p e1 e2 => ?_⟩
    cases e2
    exact none_back f1.dm hD
theorem snd_lc {scope : Scope} {own : List (Str × Nat)} {tgE : Expr} {tg : Tg} (hc : X.calm = true) (hN : X.N.Nodup) (hi : SndI Φ X tgE iter it) (ok : BlkOk X.N X.env.scope scope own)
    (hg : Blk X scope fun X' => PG X' tgE (gOf X.K tg)) (ht : Blk X scope fun X' => SndF Φ X' ifs xt) (he : Blk X scope fun X' => Snd Φ X' elt xe) (hv : ∀ i ∈ tg.ixs, i ∈ own.map (·.2)) (hs : ∀ x, foldedSetIterable iter X.env x = pure x := by intro _; rfl) :
    Snd Φ X (.ListComp elt [⟨tgE, iter, ifs, 0⟩] scope pos) (.lc (own.map (·.2)) it tg xt xe) := .mk fun env r env' h S σ H okE Q q =>
  any_of (pe_lc hc hN pi_any ok hg pt_B pe_B hs) (lc_run hi ht he hv h okE q)
end
end DI

set_option maxRecDepth 100000
/-! DI15: statements do what the evaluator says. -/
namespace DI
open PySem PySem.Spec PyProof.Rows L2
def AnyS (X : Cx) (st : Stmt) : TS := fun D σ H => ∀ (pins : List (Addr × Obj)) (s : Shared), Inv X pins σ H s → wpAny (model X.prog X.w) X.A (PySem.exec st X.env) (SP X pins D) X.xe s
theorem ps_any {X : Cx} {st : Stmt} : PS X st (AnyS X st) := ⟨fun pins s σ H D I h => h pins s I⟩
theorem anyS_of {X : Cx} {st : Stmt} {t : TS} (p : PS X st t) {D : Ends} {σ : L2.St} {H : Hp} (h : t D σ H) : AnyS X st D σ H := fun pins s I => p.run pins s σ H D I h
def AnySs (X : Cx) (st : List Stmt) : TS := fun D σ H => ∀ (pins : List (Addr × Obj)) (s : Shared), Inv X pins σ H s → wpAny (model X.prog X.w) X.A (PySem.execs st X.env) (SP X pins D) X.xe s
theorem pss_any {X : Cx} {st : List Stmt} : PSs X st (AnySs X st) := ⟨fun pins s σ H D I h => h pins s I⟩
theorem anySs_of {X : Cx} {st : List Stmt} {t : TS} (p : PSs X st t) {D : Ends} {σ : L2.St} {H : Hp} (h : t D σ H) : AnySs X st D σ H := fun pins s I => p.run pins s σ H D I h
/-- what the ends are to take -/
def EndsOk (K : PySem.W.Frag) (S0 : Addr → Prop) (H0 : Hp) (σ0 : L2.St) (env0 : Env) (D : Ends) (W : WX) : Out → Prop
  | .nx env => ∀ σ' S' H', Fw S0 H0 σ0 env0 S' H' σ' env → EnvOk K S' σ' H' env → D.nx σ' H'
  | .bk env => ∀ σ' S' H', Fw S0 H0 σ0 env0 S' H' σ' env → EnvOk K S' σ' H' env → D.bk σ' H'
  | .ct env => ∀ σ' S' H', Fw S0 H0 σ0 env0 S' H' σ' env → EnvOk K S' σ' H' env → D.ct σ' H'
  | .rt r env => ∀ v σ' S' H', Fw S0 H0 σ0 env0 S' H' σ' env → EnvOk K S' σ' H' env → RV K S' H' σ' env r v → (∀ d p, r = .fr d → v = .ref p → OwnsK .own σ0 env0 p ∨ H0 p = none) → (∀ i, r ≠ .al i) → D.rt v H'
  | .ex y env => ∀ cls d σ' S' H', Fw S0 H0 σ0 env0 S' H' σ' env → EnvOk K S' σ' H' env → ExR K (er S' H') cls d y → W cls d σ' H'
structure SndSt (Φ : Fns) (X : Cx) (st : Stmt) (sm : Sm) : Prop where
  run : ∀ env o, exec Φ sm env = some o → ∀ (S : Addr → Prop) (σ : L2.St) (H : Hp), EnvOk X.K S σ H env → ∀ (D : Ends) (W : WX), Takes X W → EndsOk X.K S H σ env D W o → AnyS X st D σ H
instance {Φ : Fns} {X : Cx} {st : Stmt} {sm : Sm} : CoeFun (SndSt Φ X st sm) fun _ => ∀ env o, exec Φ sm env = some o → ∀ (S : Addr → Prop) (σ : L2.St) (H : Hp), EnvOk X.K S σ H env → ∀ (D : Ends) (W : WX), Takes X W → EndsOk X.K S H σ env D W o → AnyS X st D σ H := ⟨SndSt.run⟩
structure SndSts (Φ : Fns) (X : Cx) (st : List Stmt) (sm : Sms) : Prop where
  run : ∀ env o, execs Φ sm env = some o → ∀ (S : Addr → Prop) (σ : L2.St) (H : Hp), EnvOk X.K S σ H env → ∀ (D : Ends) (W : WX), Takes X W → EndsOk X.K S H σ env D W o → AnySs X st D σ H
instance {Φ : Fns} {X : Cx} {st : List Stmt} {sm : Sms} : CoeFun (SndSts Φ X st sm) fun _ => ∀ env o, execs Φ sm env = some o → ∀ (S : Addr → Prop) (σ : L2.St) (H : Hp), EnvOk X.K S σ H env → ∀ (D : Ends) (W : WX), Takes X W → EndsOk X.K S H σ env D W o → AnySs X st D σ H := ⟨SndSts.run⟩
section
variable {K : PySem.W.Frag} {S S' S0 S1 S2 : Addr → Prop} {H H' H0 H1 H2 : Hp} {σ σ' σ0 σ1 : L2.St} {env env' env0 env1 env2 en pre : Env}
theorem EndsOk.shift (F : Fw S0 H0 σ0 env0 S1 H1 σ1 env1) {D : Ends} {W : WX} {o : Out} (h : EndsOk K S0 H0 σ0 env0 D W o) : EndsOk K S1 H1 σ1 env1 D W o := by
  cases o with
  | nx e => exact fun σ' S' H' f ok => h σ' S' H' (F.trans f) ok
  | bk e => exact fun σ' S' H' f ok => h σ' S' H' (F.trans f) ok
  | ex y e => exact fun cls d σ' S' H' f ok => h cls d σ' S' H' (F.trans f) ok
  | ct e => exact fun σ' S' H' f ok => h σ' S' H' (F.trans f) ok
  | rt r e =>
    refine fun v σ' S' H' f ok rv new na => h v σ' S' H' (F.trans f) ok rv (fun d p e1 e2 => ?_) na
    rcases new d p e1 e2 with q | q
    · exact F.own p q
    · exact .inr (none_back F.dm q)
/-- slots given up -/
theorem EnvOk.drop (ok : EnvOk K S σ H env) (len : env'.length = env.length) (hd : ∀ (j : Nat) s, env'[j]? = some s → s = .un ∨ env[j]? = some s) : EnvOk K S σ H env' := by
  have ow : ∀ (j : Nat) s, s ≠ .un → env'[j]? = some s → env[j]? = some s := fun j s hs h => (hd j s h).resolve_left hs
  exact ⟨by rw [len]; exact ok.len, ok.dom, fun i d h => ok.im i d (ow i _ (fun z => by cases z) h), fun i k d h => ok.ow i k d (ow i _ (fun z => by cases z) h),
    fun i j k l d e p h1 h2 => ok.inj i j k l d e p (ow i _ (fun z => by cases z) h1) (ow j _ (fun z => by cases z) h2)⟩
theorem drop_owns (hd : ∀ (j : Nat) s, env'[j]? = some s → s = .un ∨ env[j]? = some s) {k : Kd} {a : Addr} (h : OwnsK k σ env' a) : OwnsK k σ env a := by
  obtain ⟨i, d, h1, h2⟩ := h
  exact ⟨i, d, (hd i _ h1).resolve_left (fun z => by cases z), h2⟩
theorem Fw.drop (F : Fw S0 H0 σ0 env0 S H σ env) (hd : ∀ (j : Nat) s, env'[j]? = some s → s = .un ∨ env[j]? = some s) (hk : ∀ (j : Nat) k d, k ≠ .own → env[j]? = some (.ow k d) → env'[j]? = env[j]?) : Fw S0 H0 σ0 env0 S H σ env' := by
  refine ⟨F.sub, F.kp, F.fr, fun a h => F.own a (drop_owns hd h), fun i d h => ?_, fun i d h => ?_, fun i d h => ?_, fun i d h => ?_, F.dm⟩
  · obtain ⟨d', h1, h2⟩ := F.bo i d h
    exact ⟨d', by rw [hk i _ _ (fun z => by cases z) h1]; exact h1, h2⟩
  · exact F.bo' i d ((hd i _ h).resolve_left (fun z => by cases z))
  · obtain ⟨h1, h2⟩ := F.lk i d h
    exact ⟨by rw [hk i _ _ (fun z => by cases z) h1]; exact h1, h2⟩
  · exact F.lk' i d ((hd i _ h).resolve_left (fun z => by cases z))
theorem forget_len : ∀ (pre env : Env), (forget pre env).length = env.length
  | [], env => by cases env <;> rfl
  | p :: pre, [] => by cases p <;> rfl
  | p :: pre, s :: env => by
    have ih := forget_len pre env
    cases p <;> exact congrArg (· + 1) ih
theorem forget_cases : ∀ (pre env : Env) (j : Nat) (s : Sl), (forget pre env)[j]? = some s → s = .un ∨ env[j]? = some s
  | [], env, j, s, h => by
    have e : forget [] env = env := by cases env <;> rfl
    rw [e] at h
    exact .inr h
  | p :: pre, [], j, s, h => by
    have e : forget (p :: pre) [] = [] := by cases p <;> rfl
    rw [e] at h
    exact .inr h
  | p :: pre, t :: env, j, s, h => by
    cases j with
    | zero =>
      cases p with
      | un => exact .inl (Option.some.inj h).symm
      | im d => exact .inr h
      | ow k d => exact .inr h
    | succ j =>
      have h' : (forget pre env)[j]? = some s := by cases p <;> simpa [forget] using h
      rcases forget_cases pre env j s h' with z | z
      · exact .inl z
      · exact .inr (by simpa using z)
theorem forget_keep : ∀ (pre env : Env) (j : Nat), pre[j]? ≠ some .un → (forget pre env)[j]? = env[j]?
  | [], env, j, h => by
    have e : forget [] env = env := by cases env <;> rfl
    rw [e]
  | p :: pre, [], j, h => by
    have e : forget (p :: pre) [] = [] := by cases p <;> rfl
    rw [e]
  | p :: pre, t :: env, j, h => by
    cases j with
    | zero =>
      cases p with
      | un => exact absurd rfl h
      | im d => rfl
      | ow k d => rfl
    | succ j =>
      have ih := forget_keep pre env j (by simpa using h)
      cases p <;> simpa [forget] using ih
theorem forget_fw (F : Fw S0 H0 σ0 pre S H σ env) : Fw S0 H0 σ0 pre S H σ (forget pre env) := by
  refine F.drop (forget_cases pre env) fun j k d hk h => forget_keep pre env j fun z => ?_
  cases k with
  | own => exact hk rfl
  | bor =>
    obtain ⟨d', h1, _⟩ := F.bo' j d h
    rw [z] at h1
    cases h1
  | lck =>
    obtain ⟨h1, _⟩ := F.lk' j d h
    rw [z] at h1
    cases h1
theorem forget_ok (ok : EnvOk K S σ H env) : EnvOk K S σ H (forget pre env) := ok.drop (forget_len pre env) (forget_cases pre env)
/-- behind a loop: what it walked is open again -/
theorem for_end {ls : List Nat} (ok1 : EnvOk K S1 σ H1 env1) (F : Fw S1 H1 σ (lockE env1 ls) S' H' σ' en) (ok' : EnvOk K S' σ' H' en) :
    EnvOk K S' σ' H' (unlockE env1 en ls) ∧ Fw S1 H1 σ env1 S' H' σ' (unlockE env1 en ls) ∧ ∀ k a, OwnsK k σ' (unlockE env1 en ls) a → ∃ k', OwnsK k' σ' en a := by
  -- a slot that was locked is locked still
  have was : ∀ (i : Nat) k d, i ∈ ls → env1[i]? = some (.ow k d) → en[i]? = some (.ow .lck d) ∧ σ'[i]? = σ[i]? := fun i k d m h => by
    refine F.lk i d ?_
    obtain ⟨s', hs'⟩ : ∃ s', (lockE env1 ls)[i]? = some s' := ⟨_, List.getElem?_eq_getElem (by rw [lock_len]; exact (List.getElem?_eq_some_iff.mp h).1)⟩
    rcases lock_cases env1 ls i s' hs' with ⟨k', d', _, q, z⟩ | ⟨q, z⟩
    · rw [h] at q
      cases q
      rw [hs', z]
    · rw [h] at q
      cases q
      exact absurd rfl (z m k d)
  have src : ∀ (j : Nat) (s : Sl), (unlockE env1 en ls)[j]? = some s → (∃ k d, j ∈ ls ∧ env1[j]? = some (.ow k d) ∧ s = .ow k d ∧ en[j]? = some (.ow .lck d) ∧ σ'[j]? = σ[j]?) ∨ (en[j]? = some s ∧ (j ∈ ls → ∀ k d, env1[j]? ≠ some (.ow k d))) := fun j s h => by
    rcases unlock_cases env1 en ls j s h with ⟨k, d, m, q, z⟩ | q
    · obtain ⟨a, b⟩ := was j k d m q
      exact .inl ⟨k, d, m, q, z, a, b⟩
    · exact .inr q
  have there : ∀ (j : Nat) (s : Sl), en[j]? = some s → ∃ t, (unlockE env1 en ls)[j]? = some t := fun j s h => ⟨_, List.getElem?_eq_getElem (by rw [unlock_len]; exact (List.getElem?_eq_some_iff.mp h).1)⟩
  have lock_there : ∀ (i : Nat) k d, k ≠ .lck → (lockE env1 ls)[i]? = some (.ow k d) → env1[i]? = some (.ow k d) := fun i k d hk h => by
    rcases lock_cases env1 ls i _ h with ⟨k', d', _, q, z⟩ | ⟨q, _⟩
    · cases z
      exact absurd rfl hk
    · exact q
  have out_lock : ∀ (i : Nat) s, (i ∈ ls → ∀ k d, env1[i]? ≠ some (.ow k d)) → env1[i]? = some s → (lockE env1 ls)[i]? = some s := fun i s n h => by
    obtain ⟨s', hs'⟩ : ∃ s', (lockE env1 ls)[i]? = some s' := ⟨_, List.getElem?_eq_getElem (by rw [lock_len]; exact (List.getElem?_eq_some_iff.mp h).1)⟩
    rcases lock_cases env1 ls i s' hs' with ⟨k', d', m, q, z⟩ | ⟨q, z⟩
    · exact absurd q (n m k' d')
    · rw [h] at q
      cases q
      exact hs'
  refine ⟨⟨by rw [unlock_len]; exact ok'.len, ok'.dom, fun i d h => ?_, fun i k d h => ?_, fun i j k l d e p h1 h2 h3 h4 => ?_⟩, ⟨F.sub, fun a h1 h2 h3 => F.kp a h1 h2 fun z => h3 ?_, fun a o h1 h2 => F.fr a o h1 fun z => h2 (lock_ch z), fun a h => ?_, fun i d h => ?_, fun i d h => ?_, fun i d h => ?_, fun i d h => ?_, F.dm⟩, fun k a h => ?_⟩
  · rcases src i _ h with ⟨k, d', m, q, z, _⟩ | ⟨q, _⟩
    · cases z
    · exact ok'.im i d q
  · rcases src i _ h with ⟨k', d', m, q, z, a, b⟩ | ⟨q, _⟩
    · cases z
      obtain ⟨p, g1, g2, g3, g4⟩ := ok'.ow i _ _ a
      refine ⟨p, g1, g2, g3, fun hk => ?_⟩
      obtain ⟨p', e1, e2, e3, e4⟩ := ok1.ow i _ _ q
      rw [b, e1] at g1
      cases g1
      -- it was locked: as it was
      have nc : ¬ Ch σ (lockE env1 ls) p := fun w => by
        have go : ∀ kk, kk ≠ .lck → OwnsK kk σ (lockE env1 ls) p → False := fun kk hkk w => by
          obtain ⟨j, dj, w1, w2⟩ := w
          have w3 := lock_there j kk dj hkk w1
          have e := ok1.inj i j _ _ _ _ p q w3 e1 w2
          subst e
          rcases lock_cases env1 ls i _ w1 with ⟨k2, d2, _, _, z2⟩ | ⟨_, z2⟩
          · cases z2
            exact hkk rfl
          · exact z2 m _ _ rfl
        rcases w with w | w
        · exact go _ (fun z => by cases z) w
        · exact go _ (fun z => by cases z) w
      have e5 := e4 hk
      cases hq : H1 p with
      | none => exact absurd hq (ok1.dom p e2)
      | some o =>
        rw [F.fr p o hq nc, ← hq]
        exact e5
    · exact ok'.ow i k d q
  · have f : ∀ (j : Nat) k d, (unlockE env1 en ls)[j]? = some (.ow k d) → ∃ k' d', en[j]? = some (.ow k' d') := fun j k d h => by
      rcases src j _ h with ⟨_, _, _, _, _, a, _⟩ | ⟨q, _⟩
      · exact ⟨_, _, a⟩
      · exact ⟨_, _, q⟩
    obtain ⟨_, _, a1⟩ := f i _ _ h1
    obtain ⟨_, _, a2⟩ := f j _ _ h2
    exact ok'.inj i j _ _ _ _ p a1 a2 h3 h4
  · obtain ⟨i, d, w1, w2⟩ := z
    exact ⟨i, d, lock_there i _ _ (fun z => by cases z) w1, w2⟩
  · obtain ⟨i, d, w1, w2⟩ := h
    rcases src i _ w1 with ⟨k', d', m, q, z, x, y⟩ | ⟨q, _⟩
    · cases z
      exact .inl ⟨i, d, q, by rw [← y]; exact w2⟩
    · rcases F.own a ⟨i, d, q, w2⟩ with ⟨j, dj, z1, z2⟩ | z
      · exact .inl ⟨j, dj, lock_there j _ _ (fun z => by cases z) z1, z2⟩
      · exact .inr z
  · by_cases m : i ∈ ls
    · obtain ⟨a, b⟩ := was i _ _ m h
      obtain ⟨t, ht⟩ := there i _ a
      rcases src i _ ht with ⟨k', d', _, q, z, _, _⟩ | ⟨_, q⟩
      · rw [h] at q
        cases q
        exact ⟨d, by rw [ht, z], b⟩
      · exact absurd h (q m _ _)
    · obtain ⟨d', a, b⟩ := F.bo i d (out_lock i _ (fun z => absurd z m) h)
      obtain ⟨t, ht⟩ := there i _ a
      rcases src i _ ht with ⟨k', _, z, _⟩ | ⟨q, _⟩
      · exact absurd z m
      · rw [a] at q
        cases q
        exact ⟨d', ht, b⟩
  · rcases src i _ h with ⟨k', d', m, q, z, x, y⟩ | ⟨q, _⟩
    · cases z
      exact ⟨d, q, y⟩
    · obtain ⟨d', z1, z2⟩ := F.bo' i d q
      exact ⟨d', lock_there i _ _ (fun z => by cases z) z1, z2⟩
  · by_cases m : i ∈ ls
    · obtain ⟨a, b⟩ := was i _ _ m h
      obtain ⟨t, ht⟩ := there i _ a
      rcases src i _ ht with ⟨k', d', _, q, z, _, _⟩ | ⟨_, q⟩
      · rw [h] at q
        cases q
        exact ⟨by rw [ht, z], b⟩
      · exact absurd h (q m _ _)
    · obtain ⟨a, b⟩ := F.lk i d (out_lock i _ (fun z => absurd z m) h)
      obtain ⟨t, ht⟩ := there i _ a
      rcases src i _ ht with ⟨k', _, z, _⟩ | ⟨q, _⟩
      · exact absurd z m
      · rw [a] at q
        cases q
        exact ⟨ht, b⟩
  · rcases src i _ h with ⟨k', d', m, q, z, x, y⟩ | ⟨q, n⟩
    · cases z
      exact ⟨q, y⟩
    · obtain ⟨z1, z2⟩ := F.lk' i d q
      rcases lock_cases env1 ls i _ z1 with ⟨k2, d2, m2, q2, _⟩ | ⟨q2, _⟩
      · exact absurd q2 (n m2 _ _)
      · exact ⟨q2, z2⟩
  · obtain ⟨i, d, w1, w2⟩ := h
    rcases src i _ w1 with ⟨_, _, _, _, _, x, _⟩ | ⟨q, _⟩
    · exact ⟨_, i, _, x, w2⟩
    · exact ⟨_, i, _, q, w2⟩
theorem slot_ok {r : R} {v : V} {s : Sl} (P : Post K S0 H0 σ env0 r env1 v S1 H1) (h : slotOf r env1 = some (s, env2)) : ∃ S2, Fw S0 H0 σ env0 S2 H1 σ env2 ∧ EnvOk K S2 σ H1 env2 ∧ SlOk K S2 H1 σ env2 H0 s v := by
  cases r with
  | im d => cases h; exact ⟨S1, P.fw, P.ok, P.rv⟩
  | fr d =>
    cases h
    obtain ⟨p, rfl, hs, hc, hl, ho, hm⟩ := P.rv
    refine ⟨S1, P.fw, P.ok, p, rfl, hs, P.new _ _ rfl rfl, fun k => ?_, ho, hm⟩
    cases k with
    | own => exact fun q => hc (.inl q)
    | bor => exact fun q => hc (.inr q)
    | lck => exact hl
  | al i =>
    simp only [slotOf] at h
    cases e : DI.sto (.al i) env1 with
    | none => rw [e] at h; cases h
    | some q =>
      obtain ⟨d, en⟩ := q
      rw [e] at h
      cases h
      obtain ⟨S', f, ok, rp⟩ := P.sto e
      exact ⟨S', f, ok, rp⟩
theorem ret_ok {r r' : R} {v : V} (P : Post K S0 H0 σ env0 r env1 v S1 H1) (h : retR r env1 = some (r', env2)) :
    Fw S0 H0 σ env0 S1 H1 σ env2 ∧ EnvOk K S1 σ H1 env2 ∧ RV K S1 H1 σ env2 r' v ∧ (∀ d p, r' = .fr d → v = .ref p → OwnsK .own σ env0 p ∨ H0 p = none) ∧ ∀ i, r' ≠ .al i := by
  cases r with
  | im d => cases h; exact ⟨P.fw, P.ok, P.rv, fun _ _ z => (by cases z), fun _ z => (by cases z)⟩
  | fr d => cases h; exact ⟨P.fw, P.ok, P.rv, fun d p e1 e2 => .inr (P.new d p e1 e2), fun _ z => (by cases z)⟩
  | al i =>
    simp only [retR] at h
    have hv : σ[i]? = some (some v) := P.rv
    cases q : env1[i]? with
    | none => rw [q] at h; cases h
    | some s =>
      rw [q] at h
      cases s with
      | un => cases h
      | im d =>
        cases h
        obtain ⟨w, h1, h2⟩ := P.ok.im i _ q
        rw [hv] at h1
        cases h1
        exact ⟨P.fw, P.ok, h2, fun _ _ z => (by cases z), fun _ z => (by cases z)⟩
      | ow k d =>
        cases k with
        | bor => cases h
        | lck => cases h
        | own =>
          cases h
          obtain ⟨p, h1, h2, h3, h4⟩ := P.ok.ow i _ _ q
          rw [hv] at h1
          cases h1
          have hd : ∀ (j : Nat) s, (env1.set i .un)[j]? = some s → s = .un ∨ env1[j]? = some s := fun j s z => by
            rcases getElem?_set_cases z with ⟨_, e⟩ | ⟨_, e⟩
            · exact .inl e
            · exact .inr e
          have hk : ∀ (j : Nat) k d, k ≠ .own → env1[j]? = some (.ow k d) → (env1.set i .un)[j]? = env1[j]? := fun j k d' hk z => by
            refine List.getElem?_set_ne fun e => ?_
            subst e
            rw [q] at z
            cases z
            exact hk rfl
          have no : ∀ k, ¬ OwnsK k σ (env1.set i .un) p := fun k z => by
            obtain ⟨j, d', z1, z2⟩ := z
            rcases getElem?_set_cases z1 with ⟨_, e⟩ | ⟨ne, e⟩
            · cases e
            · exact ne (P.ok.inj i j _ _ _ _ p q e hv z2)
          exact ⟨P.fw.drop hd hk, P.ok.drop (by rw [List.length_set]) hd, ⟨p, rfl, h2, fun z => z.elim (no _) (no _), no _, h3, h4 (fun z => by cases z)⟩, fun d' p' _ e => by
            cases e
            exact P.fw.own p ⟨i, d, q, hv⟩, fun _ z => by cases z⟩
end
section
variable {Φ : Fns} {X : Cx} {a b c e tgE iter elt : Expr} {es : List Expr} {xa xb xc x xe xt : Xp} {xs : Xps} {it : It} {pos p p2 : Pos} {st : Stmt} {sts body body2 : List Stmt} {sm : Sm} {sms smb smb2 : Sms}
theorem xOut_inv {p : Option (D × Env)} {o : Out} (h : xOut p = some o) : ∃ y en, p = some (y, en) ∧ o = .ex y en := by
  cases p with
  | none => cases h
  | some p => obtain ⟨y, en⟩ := p; cases h; exact ⟨y, en, rfl, rfl⟩
theorem snds_nil : SndSts Φ X [] .nil := .mk fun env o h S σ H ok D W tk q => by
  cases h
  exact anySs_of pss_nil (q σ S H Fw.refl ok)
theorem snds_cons (h1 : SndSt Φ X st sm) (h2 : SndSts Φ X sts sms) : SndSts Φ X (st :: sts) (.cons sm sms) := .mk fun env o h S σ H ok D W tk q => by
  simp only [execs] at h
  cases e1 : exec Φ sm env with
  | none => rw [e1] at h; cases h
  | some o1 =>
    rw [e1] at h
    refine anySs_of (pss_cons ps_any pss_any) (h1 env o1 e1 S σ H ok _ W tk ?_)
    cases o1 with
    | nx env1 => exact fun σ' S' H' f ok' => h2 env1 o h S' σ' H' ok' D W tk (q.shift f)
    | ex y env1 => cases h; exact q
    | bk env1 => cases h; exact q
    | ct env1 => cases h; exact q
    | rt r env1 => cases h; exact q
theorem snd_nev : SndSt Φ X st .nev := .mk fun env o h => by cases h
theorem snd_pas : SndSt Φ X (.Pass pos) .pas := .mk fun env o h S σ H ok D W tk q => by cases h; exact anyS_of ps_pass (q σ S H Fw.refl ok)
theorem snd_doc {x : Str} {j : Nat} {pos pos' : Pos} : SndSt Φ X (.Expr (.Constant (.str x) j pos) pos') .pas := .mk fun env o h S σ H ok D W tk q => by cases h; exact anyS_of ps_doc (q σ S H Fw.refl ok)
theorem snd_brk : SndSt Φ X (.Break pos) .brk := .mk fun env o h S σ H ok D W tk q => by cases h; exact anyS_of ps_break (q σ S H Fw.refl ok)
theorem snd_cnt : SndSt Φ X (.Continue pos) .cnt := .mk fun env o h S σ H ok D W tk q => by cases h; exact anyS_of ps_continue (q σ S H Fw.refl ok)
theorem snd_ex (he : Snd Φ X e x) (hX : SndX Φ X e x) (hs : swapsWith e none pos.line X.env = pure false := by rfl) : SndSt Φ X (.Expr e pos) (.ex x) := .mk fun env o h S σ H ok D W tk q => by
  simp only [exec] at h
  cases e1 : ev Φ x env with
  | none =>
    rw [e1] at h
    obtain ⟨y, en1, e2, rfl⟩ := xOut_inv h
    exact anyS_of (ps_expr pe_any hs) (hX.run env y en1 e2 S σ H ok W tk (fun cls d S' H' f' ok' x' => q cls d σ S' H' f' ok' x') _)
  | some p1 =>
    rw [e1] at h
    cases h
    exact anyS_of (ps_expr pe_any hs) (he env p1.1 p1.2 e1 S σ H ok _ fun v S1 H1 P => q σ S1 H1 P.fw P.ok)
theorem snd_ret (he : Snd Φ X e x) (hX : SndX Φ X e x) : SndSt Φ X (.Return (some e) pos) (.ret x) := .mk fun env o h S σ H ok D W tk q => by
  simp only [exec] at h
  cases e1 : ev Φ x env with
  | none =>
    rw [e1] at h
    obtain ⟨y, en1, e2, rfl⟩ := xOut_inv h
    exact anyS_of (ps_ret pe_any) (hX.run env y en1 e2 S σ H ok W tk (fun cls d S' H' f' ok' x' => q cls d σ S' H' f' ok' x') _)
  | some p1 =>
    obtain ⟨r, en1⟩ := p1
    rw [e1] at h
    dsimp only at h
    cases e2 : retR r en1 with
    | none => rw [e2] at h; cases h
    | some p2 =>
      obtain ⟨r', en2⟩ := p2
      rw [e2] at h
      cases h
      refine anyS_of (ps_ret pe_any) (he env r en1 e1 S σ H ok _ fun v S1 H1 P => ?_)
      obtain ⟨f, ok2, rv, new, na⟩ := ret_ok P e2
      exact q v σ S1 H1 f ok2 rv new na
theorem snd_retN : SndSt Φ X (.Return none pos) (.ret (.c .none)) := .mk fun env o h S σ H ok D W tk q => by
  simp only [exec, ev, retR] at h
  cases h
  exact anyS_of ps_retN (q .non σ S H Fw.refl ok Rep.non (fun _ _ z => by cases z) fun _ z => by cases z)
theorem snd_iff (ht : SndT Φ X c xc) (ha : SndSts Φ X body smb) (hb : SndSts Φ X body2 smb2) : SndSt Φ X (.If c body body2 pos) (.iff xc smb smb2) := .mk fun env o h S σ H ok D W tk q => by
  simp only [exec] at h
  cases e1 : tstX Φ xc env with
  | none => rw [e1] at h; cases h
  | some p1 =>
    obtain ⟨k, en1⟩ := p1
    rw [e1] at h
    refine anyS_of (ps_if pt_any pss_any pss_any) (ht env k en1 e1 S σ H ok _ fun S1 H1 f1 ok1 => ?_)
    cases k with
    | true =>
      rw [if_pos rfl]
      exact ha en1 o h S1 σ H1 ok1 D W tk (q.shift f1)
    | false =>
      rw [if_neg Bool.false_ne_true]
      exact hb en1 o h S1 σ H1 ok1 D W tk (q.shift f1)
theorem set_inv {i : Nat} {env : Env} {o : Out} (h : exec Φ (.set i x) env = some o) : (∃ r en1 s en2 en3, ev Φ x env = some (r, en1) ∧ slotOf r en1 = some (s, en2) ∧ setSl en2 i s = some en3 ∧ o = .nx en3) ∨ ∃ y en, evX Φ x env = some (y, en) ∧ o = .ex y en := by
  simp only [exec] at h
  cases e1 : ev Φ x env with
  | none => rw [e1] at h; exact .inr (xOut_inv h)
  | some p1 =>
    obtain ⟨r, en1⟩ := p1
    rw [e1] at h
    dsimp only at h
    cases e2 : slotOf r en1 with
    | none => rw [e2] at h; cases h
    | some p2 =>
      obtain ⟨s, en2⟩ := p2
      rw [e2] at h
      dsimp only at h
      cases e3 : setSl en2 i s with
      | none => rw [e3] at h; cases h
      | some en3 =>
        rw [e3] at h
        cases h
        exact .inl ⟨r, en1, s, en2, en3, rfl, e2, e3, rfl⟩
theorem snd_set {i : Nat} {x : Str} {pos' : Pos} (hN : X.N.Nodup) (hi : X.N[i]? = some x) (hx : Loc X.env.scope x) (he : Snd Φ X e xe) (hX : SndX Φ X e xe) (hs : swapsWith e (some (.Name x pos')) pos.line X.env = pure false := by rfl) (hf : X.fn x = true ∨ X.env.scope.names.lookup x = some .local := by first | exact .inl rfl | exact .inr rfl | assumption) :
    SndSt Φ X (.Assign [.Name x pos'] e pos) (.set i xe) := .mk fun env o h S σ H ok D W tk q => by
  rcases set_inv h with ⟨r, en1, s, en2, en3, e1, e2, e3, rfl⟩ | ⟨y, en1, e2, rfl⟩
  case inr => exact anyS_of (ps_set hN hi hx pe_any hs hf) (hX.run env y en1 e2 S σ H ok W tk (fun cls d S' H' f' ok' x' => q cls d σ S' H' f' ok' x') _)
  refine anyS_of (ps_set hN hi hx pe_any hs hf) (he env r en1 e1 S σ H ok _ fun v S1 H1 P => ?_)
  obtain ⟨S2, f2, ok2, sl⟩ := slot_ok P e2
  obtain ⟨ok3, f3⟩ := set_ok f2 ok2 e3 sl
  exact q _ S2 H1 f3 ok3
theorem snd_setLc {i : Nat} {y : Str} {py spos : Pos} {ifs : List Expr} {scope : Scope} {own : List (Str × Nat)} {tg : Tg} (hc : X.calm = true) (hN : X.N.Nodup) (hy : X.N[i]? = some y) (hyl : X.env.scope.names.lookup y = some .local)
    (hsw : swapsWith (.ListComp elt [⟨tgE, iter, ifs, 0⟩] scope pos) (some (.Name y py)) spos.line X.env = pure true) (hi : SndI Φ X tgE iter it) (ok : BlkOk X.N X.env.scope scope own)
    (hg : Blk X scope fun X' => PG X' tgE (gOf X.K tg)) (ht : Blk X scope fun X' => SndF Φ X' ifs xt) (he : Blk X scope fun X' => Snd Φ X' elt xe) (hv : ∀ i ∈ tg.ixs, i ∈ own.map (·.2)) (hs : ∀ x, foldedSetIterable iter X.env x = pure x := by intro _; rfl) :
    SndSt Φ X (.Assign [.Name y py] (.ListComp elt [⟨tgE, iter, ifs, 0⟩] scope pos) spos) (.set i (.lc (own.map (·.2)) it tg xt xe)) := .mk fun env o h S σ H okE D W tk q => by
  rcases set_inv h with ⟨r, en1, s, en2, en3, e1, e2, e3, rfl⟩ | ⟨_, _, e2, _⟩
  case inr => cases e2
  refine anyS_of (ps_setLc hc hN hy hyl hsw pi_any ok hg pt_B pe_B hs) (lc_run hi ht he hv e1 okE fun v S1 H1 P => ?_)
  obtain ⟨S2, f2, ok2, sl⟩ := slot_ok P e2
  obtain ⟨ok3, f3⟩ := set_ok f2 ok2 e3 sl
  exact q _ S2 H1 f3 ok3
/-- a for's turn -/
def forTurn (Φ : Fns) (tg : Tg) (b : Sms) : D → Env → Option Out := fun d en => match bindT tg d en with
  | some en1 => execs Φ b en1
  | none => none
theorem snd_for {tg : Tg} (hp : PassesOwn (model X.prog X.w) X.A X.env X.xe) (hc : X.calm = true) (hi : SndI Φ X tgE iter it) (hg : PG X tgE (gOf X.K tg)) (hb : SndSts Φ X body smb) (hs : ∀ x, foldedSetIterable iter X.env x = pure x := by intro _; rfl) :
    SndSt Φ X (.For tgE iter body [] pos) (.for it tg smb) := .mk fun env o h S σ H ok D W tk q => by
  simp only [exec] at h
  cases e1 : evI Φ it env with
  | none => rw [e1] at h; cases h
  | some p1 =>
    obtain ⟨ls, ds, env1⟩ := p1
    rw [e1] at h
    change (match forS (forTurn Φ tg smb) (lockE env1 ls) ds (lockE env1 ls) with
      | some o => some (endFor env1 ls o)
      | none => none) = some o at h
    cases e2 : forS (forTurn Φ tg smb) (lockE env1 ls) ds (lockE env1 ls) with
    | none => rw [e2] at h; cases h
    | some o' =>
      rw [e2] at h
      cases h
      refine anyS_of (ps_for hp hc pi_any hg pss_any hs) (hi env ls ds env1 e1 S σ H ok _ fun J S1 H1 f1 ok1 wd => ?_)
      obtain ⟨G, Y, w, keep, yl⟩ := wd
      have q1 := q.shift f1
      refine for_it w (fun i σ' H' => ∃ (S' : Addr → Prop) (en' : Env), forS (forTurn Φ tg smb) (lockE env1 ls) (ds.drop i) en' = some o' ∧ EnvOk X.K S' σ' H' en' ∧ Fw S1 H1 σ (lockE env1 ls) S' H' σ' en')
        ⟨S1, lockE env1 ls, by rw [List.drop_zero]; exact e2, ok1.lock ls, Fw.refl⟩ (fun i σ' H' _ hp => ?_) (fun i x σ' Ha Hb hi' hp hy => ?_) (fun σ' H' hp => ?_)
      · obtain ⟨S', en', _, _, fI⟩ := hp
        exact keep H' fun a o h1 h2 => fI.fr a o h1 h2
      · obtain ⟨S', en', g1, okI, fI⟩ := hp
        have hG : G Ha := keep Ha fun a o h1 h2 => fI.fr a o h1 h2
        obtain ⟨d, y1, y2, y3⟩ := yl i Ha x Hb hi' hG hy
        have hdrop : ds.drop i = d :: ds.drop (i + 1) := by
          obtain ⟨hlt, hd⟩ := List.getElem?_eq_some_iff.mp y1
          rw [List.drop_eq_getElem_cons hlt, hd]
        rw [hdrop] at g1
        simp only [forS] at g1
        cases e3 : forTurn Φ tg smb d en' with
        | none => rw [e3] at g1; cases g1
        | some o1 =>
          rw [e3] at g1
          unfold forTurn at e3
          cases e4 : bindT tg d en' with
          | none => rw [e4] at e3; cases e3
          | some en1 =>
            rw [e4] at e3
            dsimp only at e3
            have le1 : Le (er S1 H1) (er S' Ha) := Fw.le (ok1.lock ls) fI
            have rx : Rep X.K (er S' Hb) x d := y3 S' le1 okI.dom
            have fb : Fw S' Ha σ' en' S' Hb σ' en' := by
              rcases y2 with rfl | ⟨T, ob, hT, rfl⟩
              · exact Fw.refl
              · exact Fw.new hT
            have okB : EnvOk X.K S' σ' Hb en' := by
              rcases y2 with rfl | ⟨T, ob, hT, rfl⟩
              · exact okI
              · exact okI.new hT
            refine bind_ok okB e4 rx fun σ2 ok2 f2 _ => ?_
            have fL := f2 _ _ _ _ (fI.trans fb)
            refine hb en1 o1 e3 S' σ2 Hb ok2 _ W tk ?_
            cases o1 with
            | ex y en3 =>
              cases g1
              intro cls d σ3 S3 H3 f3 ok3 x3
              obtain ⟨z1, z2, _⟩ := for_end ok1 (fL.trans f3) ok3
              exact q1 _ _ _ _ _ z2 z1 x3
            | nx en3 => exact fun σ3 S3 H3 f3 ok3 => ⟨S3, forget (lockE env1 ls) en3, g1, forget_ok ok3, forget_fw (fL.trans f3)⟩
            | ct en3 => exact fun σ3 S3 H3 f3 ok3 => ⟨S3, forget (lockE env1 ls) en3, g1, forget_ok ok3, forget_fw (fL.trans f3)⟩
            | bk en3 =>
              cases g1
              intro σ3 S3 H3 f3 ok3
              obtain ⟨z1, z2, _⟩ := for_end ok1 (forget_fw (fL.trans f3)) (forget_ok ok3)
              exact q1 _ _ _ z2 z1
            | rt r en3 =>
              cases g1
              intro v σ3 S3 H3 f3 ok3 rv new na
              obtain ⟨z1, z2, z3⟩ := for_end ok1 (fL.trans f3) ok3
              refine q1 v _ _ _ z2 z1 ?_ (fun d p h1 h2 => ?_) na
              · cases r with
                | im d => exact rv
                | al i => exact absurd rfl (na i)
                | fr d =>
                  obtain ⟨p, rfl, r1, r2, r3, r4, r5⟩ := rv
                  have no : ∀ k, ¬ OwnsK k σ3 (unlockE env1 en3 ls) p := fun k z => by
                    obtain ⟨k', z⟩ := z3 k p z
                    cases k' with
                    | own => exact r2 (.inl z)
                    | bor => exact r2 (.inr z)
                    | lck => exact r3 z
                  exact ⟨p, rfl, r1, fun z => z.elim (no _) (no _), no _, r4, r5⟩
              · rcases new d p h1 h2 with z | z
                · rcases fL.own p z with z | z
                  · obtain ⟨i', d', w1, w2⟩ := z
                    rcases lock_cases env1 ls i' _ w1 with ⟨_, _, _, _, z2⟩ | ⟨z2, _⟩
                    · cases z2
                    · exact .inl ⟨i', d', z2, w2⟩
                  · exact .inr z
                · exact .inr (none_back fL.dm z)
      · obtain ⟨S', en', g1, okI, fI⟩ := hp
        rw [List.drop_length] at g1
        cases g1
        obtain ⟨z1, z2, _⟩ := for_end ok1 fI okI
        exact q1 _ _ _ z2 z1
theorem snd_whl (hp : PassesOwn (model X.prog X.w) X.A X.env X.xe) (ht : SndT Φ X c xc) (hb : SndSts Φ X body smb) : SndSt Φ X (.While c body [] pos) (.whl xc smb) := .mk fun env o h S σ H ok D W tk q => by
  simp only [exec] at h
  refine anyS_of (ps_while hp pt_any pss_any) ?_
  refine ⟨fun m σ' H' => ∃ (S' : Addr → Prop) (en' : Env), whS (tstX Φ xc) (execs Φ smb) env m en' = some o ∧ EnvOk X.K S' σ' H' en' ∧ Fw S H σ env S' H' σ' en', ⟨fuelW, S, env, h, ok, Fw.refl⟩, ?_⟩
  rintro m σ' H' ⟨S', en', g, okI, fI⟩
  cases m with
  | zero => cases g
  | succ m =>
    simp only [whS] at g
    cases e1 : tstX Φ xc en' with
    | none => rw [e1] at g; cases g
    | some p1 =>
      obtain ⟨k, en1⟩ := p1
      rw [e1] at g
      refine ht en' k en1 e1 S' σ' H' okI _ fun S2 H2 f2 ok2 => ?_
      cases k with
      | false =>
        rw [if_neg Bool.false_ne_true]
        cases g
        exact q _ _ _ (fI.trans f2) ok2
      | true =>
        rw [if_pos rfl]
        dsimp only at g
        cases e2 : execs Φ smb en1 with
        | none => rw [e2] at g; cases g
        | some o1 =>
          rw [e2] at g
          refine ⟨fun σ3 H3 => ∃ (S3 : Addr → Prop) (en3 : Env), whS (tstX Φ xc) (execs Φ smb) env m en3 = some o ∧ EnvOk X.K S3 σ3 H3 en3 ∧ Fw S H σ env S3 H3 σ3 en3, fun σ3 H3 hN => ⟨m, Nat.lt_succ_self m, hN⟩, hb en1 o1 e2 S2 σ' H2 ok2 _ W tk ?_⟩
          have fL := fI.trans f2
          cases o1 with
          | ex y en3 =>
            cases g
            exact q.shift fL
          | nx en3 => exact fun σ3 S3 H3 f3 ok3 => ⟨S3, forget env en3, g, forget_ok ok3, forget_fw (fL.trans f3)⟩
          | ct en3 => exact fun σ3 S3 H3 f3 ok3 => ⟨S3, forget env en3, g, forget_ok ok3, forget_fw (fL.trans f3)⟩
          | bk en3 =>
            cases g
            exact fun σ3 S3 H3 f3 ok3 => q _ _ _ (forget_fw (fL.trans f3)) (forget_ok ok3)
          | rt r en3 =>
            cases g
            exact q.shift fL
end
end DI

set_option maxRecDepth 100000
/-! DI16: more statements; reversed slices; calls by keyword. -/
namespace DI
open PySem PySem.Spec PyProof.Rows L2
/-! ### several names at once -/
section
variable {K : PySem.W.Frag} {S S' S0 S1 S2 : Addr → Prop} {H H' H0 H1 H2 : Hp} {σ σ' σ0 σ1 : L2.St} {env env' env0 env1 env2 en : Env}
inductive SlOks (K : PySem.W.Frag) (S : Addr → Prop) (H : Hp) (σ : L2.St) (env : Env) (H0 : Hp) : List Sl → List V → Prop
  | nil : SlOks K S H σ env H0 [] []
  | cons {s : Sl} {v : V} {ss : List Sl} {vs : List V} : SlOk K S H σ env H0 s v → SlOks K S H σ env H0 ss vs → SlOks K S H σ env H0 (s :: ss) (v :: vs)
def ownA (s : Sl) (v : V) : List Addr := match s, v with
  | .ow _ _, .ref a => [a]
  | _, _ => []
def ownsA : List Sl → List V → List Addr
  | s :: ss, v :: vs => ownA s v ++ ownsA ss vs
  | _, _ => []
theorem fw_nob {p : Addr} (F : Fw S H σ env S' H' σ env') (hp : H p ≠ none) (h : ∀ k, ¬ OwnsK k σ env p) : ∀ k, ¬ OwnsK k σ env' p := fun k z => by
  cases k with
  | own =>
    rcases F.own p z with z | z
    · exact h _ z
    · exact hp z
  | bor =>
    obtain ⟨i, d, z1, z2⟩ := z
    obtain ⟨d', z3, z4⟩ := F.bo' i d z1
    exact h .bor ⟨i, d', z3, z2⟩
  | lck =>
    obtain ⟨i, d, z1, z2⟩ := z
    obtain ⟨z3, z4⟩ := F.lk' i d z1
    exact h .lck ⟨i, d, z3, z2⟩
theorem SlOk.step {s : Sl} {v : V} (ok : EnvOk K S σ H env) (F : Fw S H σ env S' H' σ env') (h : SlOk K S H σ env H0 s v) : SlOk K S' H' σ env' H0 s v := by
  cases s with
  | un => exact h
  | im d => exact Rep.mono (F.le ok) h
  | ow k d =>
    cases k with
    | bor => exact h
    | lck => exact h
    | own =>
      obtain ⟨p, rfl, h1, h2, h3, h4, h5⟩ := h
      have hn := ok.dom p h1
      have e2 : H' p = H p := by
        cases q : H p with
        | none => exact absurd q hn
        | some o => exact F.fr p o q fun z => z.elim (h3 _) (h3 _)
      exact ⟨p, rfl, F.kp p h1 hn (h3 _), h2, fw_nob F hn h3, h4.mono (F.le ok) (fun u r => by unfold Rd at r ⊢; rw [e2]; exact r), by rw [e2]; exact h5⟩
theorem slot_ok2 {r : R} {v : V} {s : Sl} (F : Fw S0 H0 σ env0 S1 H1 σ env1) (ok : EnvOk K S1 σ H1 env1) (rv : RV K S1 H1 σ env1 r v) (new : ∀ d p, r = .fr d → v = .ref p → H0 p = none) (h : slotOf r env1 = some (s, env2)) :
    ∃ S2, Fw S1 H1 σ env1 S2 H1 σ env2 ∧ EnvOk K S2 σ H1 env2 ∧ SlOk K S2 H1 σ env2 H0 s v ∧ ownA s v = frsA [r] [v] := by
  cases r with
  | im d => cases h; exact ⟨S1, Fw.refl, ok, rv, rfl⟩
  | fr d =>
    cases h
    obtain ⟨p, rfl, hs, hc, hl, ho, hm⟩ := rv
    refine ⟨S1, Fw.refl, ok, ⟨p, rfl, hs, new _ _ rfl rfl, fun k => ?_, ho, hm⟩, rfl⟩
    cases k with
    | own => exact fun q => hc (.inl q)
    | bor => exact fun q => hc (.inr q)
    | lck => exact hl
  | al i =>
    simp only [slotOf] at h
    cases e : DI.sto (.al i) env1 with
    | none => rw [e] at h; cases h
    | some q =>
      obtain ⟨d, en⟩ := q
      rw [e] at h
      cases h
      obtain ⟨S', f, ok', rp⟩ := (Post.same ok rv fun _ z => by cases z).sto e
      exact ⟨S', f, ok', rp, by cases v <;> rfl⟩
theorem frsA_cons {r : R} {v : V} {rs : List R} {vs : List V} : frsA (r :: rs) (v :: vs) = frsA [r] [v] ++ frsA rs vs := by
  unfold frsA
  rw [List.zip_cons_cons, List.zip_cons_cons, List.zip_nil_right, ← List.singleton_append, List.filterMap_append]
theorem slots_ok : ∀ {rs : List R} {ss : List Sl} {vs : List V} {S1 : Addr → Prop} {env1 env2 : Env}, slotsOf rs env1 = some (ss, env2) → Fw S0 H0 σ env0 S1 H1 σ env1 → EnvOk K S1 σ H1 env1 → RVs K S1 H1 σ env1 rs vs → (∀ a ∈ frsA rs vs, H0 a = none) →
    ∃ S2, Fw S1 H1 σ env1 S2 H1 σ env2 ∧ EnvOk K S2 σ H1 env2 ∧ SlOks K S2 H1 σ env2 H0 ss vs ∧ ownsA ss vs = frsA rs vs
  | [], ss, vs, S1, env1, env2, h, F, ok, rv, new => by
    cases h
    cases rv
    exact ⟨S1, Fw.refl, ok, .nil, rfl⟩
  | r :: rs, ss, vs, S1, env1, env2, h, F, ok, rv, new => by
    cases rv with
    | cons r1 r2 =>
      rename_i v vs
      simp only [slotsOf] at h
      cases e1 : slotOf r env1 with
      | none => rw [e1] at h; cases h
      | some p1 =>
        obtain ⟨s, en1⟩ := p1
        rw [e1] at h
        dsimp only at h
        cases e2 : slotsOf rs en1 with
        | none => rw [e2] at h; cases h
        | some p2 =>
          obtain ⟨ss', en2⟩ := p2
          rw [e2] at h
          cases h
          rw [frsA_cons] at new
          obtain ⟨S2, f2, ok2, sl, ea⟩ := slot_ok2 F ok r1 (fun d p q1 q2 => new p (List.mem_append_left _ (by subst q1; subst q2; exact List.mem_singleton.mpr rfl))) e1
          obtain ⟨S3, f3, ok3, sls, eb⟩ := slots_ok e2 (F.trans f2) ok2 (r2.step ok f2) fun a ha => new a (List.mem_append_right _ ha)
          exact ⟨S3, f2.trans f3, ok3, .cons (sl.step ok2 f3) sls, by show ownA s v ++ ownsA ss' vs = _; rw [ea, eb]; exact frsA_cons.symm⟩
def setsV (σ : L2.St) : List Nat → List V → L2.St
  | i :: is, v :: vs => setsV (σ.set i (some v)) is vs
  | _, _ => σ
theorem set_step {i : Nat} {s : Sl} {v : V} (h : setSl env i s = some env') {t : Sl} {w : V} (hw : SlOk K S H σ env H0 t w) (nd : ∀ a ∈ ownA s v, a ∉ ownA t w) : SlOk K S H (σ.set i (some v)) env' H0 t w := by
  cases t with
  | un => exact hw
  | im d => exact hw
  | ow k d =>
    cases k with
    | bor => exact hw
    | lck => exact hw
    | own =>
      obtain ⟨p, rfl, h1, h2, h3, h4, h5⟩ := hw
      obtain ⟨hi, rfl, _, _⟩ := setSl_inv h
      refine ⟨p, rfl, h1, h2, fun k z => ?_, h4, h5⟩
      obtain ⟨j, d', z1, z2⟩ := z
      rcases getElem?_set_cases z1 with ⟨rfl, e⟩ | ⟨ne, e⟩
      · subst e
        have e3 : v = .ref p := by
          rcases getElem?_set_cases z2 with ⟨_, e⟩ | ⟨ne, _⟩
          · exact (Option.some.inj e).symm
          · exact absurd rfl ne
        subst e3
        exact nd p (List.mem_singleton.mpr rfl) (List.mem_singleton.mpr rfl)
      · rw [List.getElem?_set_ne ne] at z2
        exact h3 k ⟨j, d', e, z2⟩
theorem sets_ok : ∀ {is : List Nat} {ss : List Sl} {vs : List V} {σ : L2.St} {env env' : Env}, setAll is ss env = some env' → Fw S0 H0 σ0 env0 S H σ env → EnvOk K S σ H env → SlOks K S H σ env H0 ss vs → (ownsA ss vs).Nodup →
    is.length = vs.length ∧ EnvOk K S (setsV σ is vs) H env' ∧ Fw S0 H0 σ0 env0 S H (setsV σ is vs) env'
  | [], [], vs, σ, env, env', h, F, ok, sl, nd => by
    cases h
    cases sl
    exact ⟨rfl, ok, F⟩
  | [], _ :: _, vs, σ, env, env', h, F, ok, sl, nd => by cases h
  | _ :: _, [], vs, σ, env, env', h, F, ok, sl, nd => by cases h
  | i :: is, s :: ss, vs, σ, env, env', h, F, ok, sl, nd => by
    cases sl with
    | cons s1 s2 =>
      rename_i v vs
      simp only [setAll] at h
      cases e1 : setSl env i s with
      | none => rw [e1] at h; cases h
      | some en1 =>
        rw [e1] at h
        obtain ⟨ok1, F1⟩ := set_ok F ok e1 s1
        have nd' : (ownA s v ++ ownsA ss vs).Nodup := nd
        rw [List.nodup_append] at nd'
        have st : ∀ {ts : List Sl} {ws : List V}, SlOks K S H σ env H0 ts ws → (∀ a ∈ ownA s v, a ∉ ownsA ts ws) → SlOks K S H (σ.set i (some v)) en1 H0 ts ws := fun {ts ws} q => by
          induction q with
          | nil => exact fun _ => .nil
          | cons q1 q2 ih => exact fun n => .cons (set_step e1 q1 fun a ha z => n a ha (List.mem_append_left _ z)) (ih fun a ha z => n a ha (List.mem_append_right _ z))
        obtain ⟨l, ok2, F2⟩ := sets_ok h F1 ok1 (st s2 fun a ha hb => nd'.2.2 a ha a hb rfl) nd'.2.1
        exact ⟨congrArg (· + 1) l, ok2, F2⟩
end
section
variable {Φ : Fns} {X : Cx} {a b c e o i : Expr} {es : List Expr} {xa xb xc x xe xt xi : Xp} {xs : Xps} {it : It} {pos p p2 : Pos}
theorem par_inv {is : List Nat} {env : Env} {o : Out} (h : exec Φ (.par is xs) env = some o) : ∃ rs en1 ss en2 en3, evR Φ xs env = some (rs, en1) ∧ slotsOf rs en1 = some (ss, en2) ∧ setAll is ss en2 = some en3 ∧ o = .nx en3 := by
  simp only [exec] at h
  cases e1 : evR Φ xs env with
  | none => rw [e1] at h; cases h
  | some p1 =>
    obtain ⟨r, en1⟩ := p1
    rw [e1] at h
    dsimp only at h
    cases e2 : slotsOf r en1 with
    | none => rw [e2] at h; cases h
    | some p2 =>
      obtain ⟨s, en2⟩ := p2
      rw [e2] at h
      dsimp only at h
      cases e3 : setAll is s en2 with
      | none => rw [e3] at h; cases h
      | some en3 =>
        rw [e3] at h
        cases h
        exact ⟨r, en1, s, en2, en3, rfl, e2, e3, rfl⟩
theorem snd_par2 {i j : Nat} {x y : Str} {px py pt : Pos} {kt k2 pt2} (hc : X.calm = true) (hN : X.N.Nodup) (hi : X.N[i]? = some x) (hj : X.N[j]? = some y) (hij : i ≠ j)
    (hx : X.env.scope.names.lookup x = some .local) (hy : X.env.scope.names.lookup y = some .local) (ha : SndR Φ X [a, b] xs)
    (hw : swappedStores [.Tuple [.Name x px, .Name y py] kt pt] (.Tuple [a, b] k2 pt2) X.env = pure (some [x, y]))
    (hs : swapsWithSole [.Tuple [.Name x px, .Name y py] kt pt] (.Tuple [a, b] k2 pt2) pos.line X.env = pure false := by rfl) :
    SndSt Φ X (.Assign [.Tuple [.Name x px, .Name y py] kt pt] (.Tuple [a, b] k2 pt2) pos) (.par [i, j] xs) := .mk fun env o h S σ H ok D W tk q => by
  obtain ⟨rs, en1, ss, en2, en3, e1, e2, e3, rfl⟩ := par_inv h
  refine anyS_of (ps_par hc hN hi hj hij hx hy pa_any hw hs) (ha env rs en1 e1 S σ H ok _ fun vs S1 H1 P => ?_)
  obtain ⟨S2, f2, ok2, sl, eo⟩ := slots_ok e2 P.fw P.ok P.rv P.new
  obtain ⟨l, ok3, f3⟩ := sets_ok e3 (P.fw.trans f2) ok2 sl (by rw [eo]; exact P.nd)
  match vs, l, ok3, f3 with
  | [v, w], _, ok3, f3 => exact ⟨v, w, rfl, q _ S2 H1 f3 ok3⟩
theorem snd_par3 {i j l : Nat} {x y z : Str} {px py pz pt : Pos} {kt k2 pt2} (hc : X.calm = true) (hN : X.N.Nodup) (hi : X.N[i]? = some x) (hj : X.N[j]? = some y) (hl : X.N[l]? = some z) (hij : i ≠ j) (hil : i ≠ l) (hjl : j ≠ l)
    (hx : X.env.scope.names.lookup x = some .local) (hy : X.env.scope.names.lookup y = some .local) (hz : X.env.scope.names.lookup z = some .local) (ha : SndR Φ X [a, b, c] xs)
    (hw : swappedStores [.Tuple [.Name x px, .Name y py, .Name z pz] kt pt] (.Tuple [a, b, c] k2 pt2) X.env = pure (some [x, y, z]))
    (hs : swapsWithSole [.Tuple [.Name x px, .Name y py, .Name z pz] kt pt] (.Tuple [a, b, c] k2 pt2) pos.line X.env = pure false := by rfl) :
    SndSt Φ X (.Assign [.Tuple [.Name x px, .Name y py, .Name z pz] kt pt] (.Tuple [a, b, c] k2 pt2) pos) (.par [i, j, l] xs) := .mk fun env o h S σ H ok D W tk q => by
  obtain ⟨rs, en1, ss, en2, en3, e1, e2, e3, rfl⟩ := par_inv h
  refine anyS_of (ps_par3 hc hN hi hj hl hij hil hjl hx hy hz pa_any hw hs) (ha env rs en1 e1 S σ H ok _ fun vs S1 H1 P => ?_)
  obtain ⟨S2, f2, ok2, sl, eo⟩ := slots_ok e2 P.fw P.ok P.rv P.new
  obtain ⟨l, ok3, f3⟩ := sets_ok e3 (P.fw.trans f2) ok2 sl (by rw [eo]; exact P.nd)
  match vs, l, ok3, f3 with
  | [v, w, u], _, ok3, f3 => exact ⟨v, w, u, rfl, q _ S2 H1 f3 ok3⟩
theorem snd_setT {is : List Nat} {tg : Expr} (hg : PG X tg (gSeq X.K is.length (gNames is))) (he : Snd Φ X e xe) (hs : swapsWithSole [tg] e pos.line X.env = pure false := by rfl) (hw : swappedStores [tg] e X.env = pure none := by rfl)
    (h1 : (assignEach [tg] X.env).map (·.2) = [assign tg X.env] := by rfl) : SndSt Φ X (.Assign [tg] e pos) (.setT is xe) := .mk fun env o h S σ H ok D W tk q => by
  simp only [exec] at h
  cases e1 : ev Φ xe env with
  | none => rw [e1] at h; cases h
  | some p1 =>
    obtain ⟨r, en1⟩ := p1
    rw [e1] at h
    dsimp only at h
    cases e2 : r.val en1 with
    | none => rw [e2] at h; cases h
    | some d =>
      rw [e2] at h
      dsimp only [Option.bind] at h
      refine anyS_of (ps_asg pe_any hg hs hw h1) (he env r en1 e1 S σ H ok _ fun v S1 H1 P => ?_)
      have rc := P.rv.repC P.ok e2
      have fin : ∀ {ds : List DI.D} {xs : List V}, (match bindTs is ds en1 with
          | some env2 => some (Out.nx env2)
          | none => none) = some o → Reps X.K (er S1 H1) xs ds → gNames is xs σ H1 D.nx ∧ xs.length = is.length := fun {ds xs} h r => by
        cases e3 : bindTs is ds en1 with
        | none => rw [e3] at h; cases h
        | some en2 =>
          rw [e3] at h
          cases h
          exact ⟨binds_ok P.ok e3 r fun σ' ok' F' _ => q σ' S1 H1 (F' _ _ _ _ P.fw) ok', by rw [r.length]; exact bind_len e3⟩
      cases d with
      | list ds =>
        obtain ⟨a, xs, rfl, g1, g2⟩ := rc
        obtain ⟨z1, z2⟩ := fin h g2
        exact .inr ⟨a, xs, rfl, g1, z2, z1⟩
      | tuple ds =>
        obtain ⟨a, xs, rfl, g1, g2⟩ := Rep.tup_inv rc
        obtain ⟨z1, z2⟩ := fin h g2
        exact .inl ⟨a, xs, rfl, er_full.sqT g1, z2, z1⟩
      | _ => cases h
/-! ### o[i] = e -/
theorem set_any (hu : X.A.units + 1 < cLine) : PSet X fun o i v H Q => rSetL o i v H Q ∨ rSetD o i v H Q := by
  intro pins s σ H o i v ov iv u Q I ro ri rv h
  rcases h with h | h
  · exact set_list pins s σ H o i v ov iv u Q I ro ri rv h
  · exact set_dict hu pins s σ H o i v ov iv u Q I ro ri rv h
theorem RepKV.length {K : PySem.W.Frag} {F : Hp} : ∀ {ws : List (Key × V)} {ds : List (D × D)}, RepKV K F ws ds → ws.length = ds.length
  | _, _, .nil => rfl
  | _, _, .cons _ r => congrArg (· + 1) (RepKV.length r)
theorem key_eqv (k j : Key) : PyData.eqv (kD k) (kD j) = decide (k = j) := by
  cases k with
  | inl a =>
    cases j with
    | inl b =>
      by_cases e : a = b
      · subst e; simp [kD, PyData.eqv]
      · have : (Sum.inl a : Key) ≠ Sum.inl b := fun z => e (Sum.inl.inj z)
        simp [kD, PyData.eqv, e, this]
    | inr b => simp [kD, PyData.eqv]
  | inr a =>
    cases j with
    | inl b => simp [kD, PyData.eqv]
    | inr b =>
      by_cases e : a = b
      · subst e; simp [kD, PyData.eqv]
      · have : (Sum.inr a : Key) ≠ Sum.inr b := fun z => e (Sum.inr.inj z)
        simp [kD, PyData.eqv, e, this]
theorem RepKV.anyK {K : PySem.W.Frag} {F : Hp} {key : Key} : ∀ {ws : List (Key × V)} {ds : List (D × D)}, RepKV K F ws ds → (ws.any fun kv => decide (kv.1 = key)) = ds.any fun kv => PyData.eqv kv.1 (kD key)
  | _, _, .nil => rfl
  | _, _, .cons h1 h2 => by rw [List.any_cons, List.any_cons, RepKV.anyK h2, key_eqv]
theorem RepKV.mapK {K : PySem.W.Frag} {F : Hp} {key : Key} {v : V} {d : D} (r : Rep K F v d) : ∀ {ws : List (Key × V)} {ds : List (D × D)}, RepKV K F ws ds → RepKV K F (ws.map fun kv => if kv.1 = key then (kv.1, v) else kv) (ds.map fun kv => if PyData.eqv kv.1 (kD key) then (kv.1, d) else kv)
  | _, _, .nil => .nil
  | _, _, .cons (k := k) h1 h2 => by
    rw [List.map_cons, List.map_cons, key_eqv]
    by_cases c : k = key
    · rw [if_pos c, if_pos (decide_eq_true c)]
      exact .cons r (RepKV.mapK r h2)
    · rw [if_neg c, if_neg (fun z => c (of_decide_eq_true z))]
      exact .cons h1 (RepKV.mapK r h2)
theorem RepKV.snoc {K : PySem.W.Frag} {F : Hp} {key : Key} {v : V} {d : D} (r : Rep K F v d) : ∀ {ws : List (Key × V)} {ds : List (D × D)}, RepKV K F ws ds → RepKV K F (ws ++ [(key, v)]) (ds ++ [(kD key, d)])
  | _, _, .nil => .cons r .nil
  | _, _, .cons h1 h2 => .cons h1 (RepKV.snoc r h2)
theorem RepKV.put {K : PySem.W.Frag} {F : Hp} {key : Key} {v : V} {d : D} (r : Rep K F v d) {ws : List (Key × V)} {ds : List (D × D)} (h : RepKV K F ws ds) : RepKV K F (putK ws key v) (putD ds (kD key) d) := by
  unfold putK putD
  rw [h.anyK]
  split
  · exact h.mapK r
  · exact h.snoc r
theorem RepTV.length {K : PySem.W.Frag} {F : Hp} : ∀ {ws : List (List Key × V)} {ds : List (D × D)}, RepTV K F ws ds → ws.length = ds.length
  | _, _, .nil => rfl
  | _, _, .cons _ r => congrArg (· + 1) (RepTV.length r)
theorem RepTV.anyT {K : PySem.W.Frag} {F : Hp} {key : List Key} : ∀ {ws : List (List Key × V)} {ds : List (D × D)}, RepTV K F ws ds → (ws.any fun kv => decide (kv.1 = key)) = ds.any fun kv => PyData.eqv kv.1 (.tuple (key.map kD))
  | _, _, .nil => rfl
  | _, _, .cons h r => by rw [List.any_cons, List.any_cons, RepTV.anyT r, eqv_keyT]
theorem RepTV.mapT {K : PySem.W.Frag} {F : Hp} {key : List Key} {v : V} {d : D} (r : Rep K F v d) : ∀ {ws : List (List Key × V)} {ds : List (D × D)}, RepTV K F ws ds → RepTV K F (ws.map fun kv => if kv.1 = key then (kv.1, v) else kv) (ds.map fun kv => if PyData.eqv kv.1 (.tuple (key.map kD)) then (kv.1, d) else kv)
  | _, _, .nil => .nil
  | _, _, .cons (k := k) h t => by
    rw [List.map_cons, List.map_cons]
    dsimp only
    by_cases e : k = key
    · rw [if_pos e, if_pos (by rw [eqv_keyT, decide_eq_true e])]
      exact .cons r (RepTV.mapT r t)
    · rw [if_neg e, if_neg (by rw [eqv_keyT, decide_eq_false e]; exact Bool.false_ne_true)]
      exact .cons h (RepTV.mapT r t)
theorem RepTV.snoc {K : PySem.W.Frag} {F : Hp} {key : List Key} {v : V} {d : D} (r : Rep K F v d) : ∀ {ws : List (List Key × V)} {ds : List (D × D)}, RepTV K F ws ds → RepTV K F (ws ++ [(key, v)]) (ds ++ [(.tuple (key.map kD), d)])
  | _, _, .nil => .cons r .nil
  | _, _, .cons h t => .cons h (RepTV.snoc r t)
theorem RepTV.put {K : PySem.W.Frag} {F : Hp} {key : List Key} {v : V} {d : D} (r : Rep K F v d) {ws : List (List Key × V)} {ds : List (D × D)} (h : RepTV K F ws ds) : RepTV K F (putK ws key v) (putD ds (.tuple (key.map kD)) d) := by
  unfold putK putD
  rw [h.anyT]
  split
  · exact h.mapT r
  · exact h.snoc r
theorem putD_ne {kvs : List (D × D)} {x y : D} : putD kvs x y ≠ [] := fun z => by
  unfold putD at z
  split at z
  · rename_i h
    have : kvs = [] := by simpa using z
    subst this
    simp at h
  · simp at z
theorem snd_setIx {n : Nat} {tpos : Pos} (hu : X.A.units + 1 < cLine) (ho : Snd Φ X o (.v n)) (hi : Snd Φ X i xi) (he : Snd Φ X e xe) (hs : swapsWithSole [.Subscript o i tpos] e pos.line X.env = pure false := by rfl) (hw : swappedStores [.Subscript o i tpos] e X.env = pure none := by rfl)
    (h1 : (assignEach [.Subscript o i tpos] X.env).map (·.2) = [assign (.Subscript o i tpos) X.env] := by rfl)
    (ha : ∀ v, assign (.Subscript o i tpos) X.env v = (do
      let ov ← holding [v] (eval o X.env)
      let iv ← holding [v, ov] (eval i X.env)
      standAt tpos
      holding [v, ov, iv] (setItem ov iv v)
      release [v, ov, iv] []) := by intro _; rfl) : SndSt Φ X (.Assign [.Subscript o i tpos] e pos) (.setIx n xi xe) := .mk fun env ot h S σ H ok D W tk q => by
  simp only [exec] at h
  cases e1 : ev Φ xe env with
  | none => rw [e1] at h; cases h
  | some p1 =>
    obtain ⟨r, en1⟩ := p1
    rw [e1] at h
    dsimp only at h
    cases e2 : DI.sto r en1 with
    | none => rw [e2] at h; cases h
    | some p2 =>
      obtain ⟨d, en2⟩ := p2
      rw [e2] at h
      dsimp only at h
      cases e0 : en2[n]? with
      | none => rw [e0] at h; cases h
      | some sl0 =>
        rw [e0] at h
        cases sl0 with
        | un => cases h
        | im z => cases h
        | ow k0 c0 =>
          have ev0 : ev Φ (.v n) en2 = some (.al n, en2) := by simp only [ev, e0]
          cases e3 : ev Φ xi en2 with
          | none => rw [e3] at h; cases h
          | some p3 =>
            obtain ⟨rk, en3⟩ := p3
            rw [e3] at h
            dsimp only at h
            cases e4 : rk.val en3 with
            | none => rw [e4] at h; cases h
            | some kd =>
              rw [e4] at h
              cases e5 : en3[n]? with
              | none => rw [e5] at h; cases h
              | some sl =>
                rw [e5] at h
                cases sl with
                | un => cases h
                | im z => cases h
                | ow kk cc =>
                  dsimp only at h
                  by_cases hk : kk = .lck
                  · rw [if_pos hk] at h; cases h
                  · rw [if_neg hk] at h
                    cases e6 : setIxD cc kd d with
                    | none => rw [e6] at h; cases h
                    | some c' =>
                      rw [e6] at h
                      cases h
                      refine anyS_of (ps_asg pe_any (pg_sub pe_any pe_any (set_any hu) ha) hs hw h1) (he env r en1 e1 S σ H ok _ fun v S1 H1 P => ?_)
                      obtain ⟨S2, f2, ok2, rp⟩ := P.sto e2
                      refine ho en2 _ _ ev0 S2 σ H1 ok2 _ fun w S3 H3 P3 => ?_
                      refine hi en2 rk en3 e3 S3 σ H3 P3.ok _ fun u S4 H4 P4 => ?_
                      have hσ : σ[n]? = some (some w) := P3.rv
                      obtain ⟨p', g1, g4, g5, g6⟩ := P4.ok.ow n _ _ e5
                      rw [hσ] at g1
                      cases g1
                      have le : Le (er S2 H1) (er S4 H4) := (Fw.le ok2 P3.fw).trans (Fw.le P3.ok P4.fw)
                      cases cc with
                      | list ys =>
                        cases kd <;> first | cases e6 | skip
                        rename_i j
                        simp only [setIxD] at e6
                        cases e7 : ixN ys.length j with
                        | none => rw [e7] at e6; cases e6
                        | some m =>
                          rw [e7] at e6
                          cases e6
                          obtain ⟨ws, g7, g8⟩ := g5
                          have hl := mut_not_frz g7 (g6 hk)
                          have ek := Rep.int_inv (P4.rv.rep P4.ok e4)
                          obtain ⟨m1, m2⟩ := P4.ok.mutate (d' := .list (ys.set m d)) (o := .lst (ws.set m v)) e5 hk hσ ⟨ws.set m v, .inl upd_same, g8.set (rp.mono le) m⟩ True.intro
                          exact .inl ⟨p', ws, j, m, rfl, ek, hl, by rw [g8.length]; exact e7, q _ _ _ (((f2.trans P3.fw).trans P4.fw).trans m2) m1⟩
                      | dict kvs =>
                        simp only [setIxD] at e6
                        split at e6
                        · rename_i hc
                          cases e6
                          rw [Bool.and_eq_true, Bool.and_eq_true, decide_eq_true_iff, Bool.not_eq_true'] at hc
                          obtain ⟨ws, g7, g8⟩ := g5.nT hc.1.2
                          have hl := mut_not_frz g7 (g6 hk)
                          obtain ⟨key, ek, ev⟩ := key_of (P4.rv.rep P4.ok e4) hc.1.1
                          subst ek
                          obtain ⟨m1, m2⟩ := P4.ok.mutate (d' := .dict (putD kvs (kD key) d)) (o := .dK (putK ws key v)) e5 hk hσ (.inl ⟨putK ws key v, .inl upd_same, g8.put (rp.mono le)⟩) True.intro
                          exact .inr ⟨p', _, rfl, .inl ⟨ws, key, hl, ev, by rw [g8.length, sizeLine_eq]; have := hc.2; unfold lim at this; omega, rfl⟩, q _ _ _ (((f2.trans P3.fw).trans P4.fw).trans m2) m1⟩
                        · split at e6
                          · rename_i hc
                            cases e6
                            rw [Bool.and_eq_true, Bool.and_eq_true, decide_eq_true_iff] at hc
                            obtain ⟨ws, g7, g8⟩ := g5.dT hc.1.2
                            have hl := mut_not_frz g7 (g6 hk)
                            obtain ⟨b, key, ek, ev, eb⟩ := keyT_of (P4.rv.rep P4.ok e4) hc.1.1
                            subst ek
                            obtain ⟨m1, m2⟩ := P4.ok.mutate (d' := .dict (putD kvs (.tuple (key.map kD)) d)) (o := .dT (putK ws key v)) e5 hk hσ (.inr ⟨putD_ne, putK ws key v, .inl upd_same, g8.put (rp.mono le)⟩) True.intro
                            exact .inr ⟨p', _, rfl, .inr ⟨ws, key, b, hl, ev, eb, by rw [g8.length, sizeLine_eq]; have := hc.2; unfold lim at this; omega, rfl⟩, q _ _ _ (((f2.trans P3.fw).trans P4.fw).trans m2) m1⟩
                          · cases e6
                      | _ => cases e6
end
end DI

set_option maxRecDepth 100000
/-! DI17: a def, called. -/
namespace DI
open PySem PySem.Spec PyProof.Rows L2
theorem finSl_len : ∀ (args env : Env), (finSl args env).length = args.length
  | [], env => by cases env <;> rfl
  | a :: args, [] => by
    cases a with
    | ow k d => cases k <;> rfl
    | _ => rfl
  | a :: args, e :: env => by
    have ih := finSl_len args env
    cases a with
    | ow k d => cases k <;> exact congrArg (· + 1) ih
    | _ => exact congrArg (· + 1) ih
theorem finSl_cases : ∀ (args env : Env) (j : Nat) (s : Sl), (finSl args env)[j]? = some s →
    ∃ a, args[j]? = some a ∧ (((∃ d, a = .ow .bor d) ∧ env[j]? = some s) ∨ (((∀ d, a ≠ .ow .bor d) ∨ env[j]? = none) ∧ s = a))
  | [], env, j, s, h => by
    have e : finSl [] env = [] := by cases env <;> rfl
    rw [e] at h
    simp at h
  | a :: args, [], j, s, h => by
    have e : finSl (a :: args) [] = a :: args := by
      cases a with
      | ow k d => cases k <;> rfl
      | _ => rfl
    rw [e] at h
    exact ⟨s, h, .inr ⟨.inr rfl, rfl⟩⟩
  | a :: args, e :: env, 0, s, h => by
    refine ⟨a, rfl, ?_⟩
    cases a with
    | ow k d =>
      cases k with
      | bor => exact .inl ⟨⟨d, rfl⟩, h⟩
      | own => exact .inr ⟨.inl fun _ z => (by cases z), (Option.some.inj h).symm⟩
      | lck => exact .inr ⟨.inl fun _ z => (by cases z), (Option.some.inj h).symm⟩
    | un => exact .inr ⟨.inl fun _ z => (by cases z), (Option.some.inj h).symm⟩
    | im d => exact .inr ⟨.inl fun _ z => (by cases z), (Option.some.inj h).symm⟩
  | a :: args, e :: env, j + 1, s, h => by
    have h' : (finSl args env)[j]? = some s := by
      cases a with
      | ow k d => cases k <;> simpa [finSl] using h
      | un => simpa [finSl] using h
      | im d => simpa [finSl] using h
    obtain ⟨b, h1, h2⟩ := finSl_cases args env j s h'
    exact ⟨b, by simpa using h1, by simpa using h2⟩
section
variable {K : PySem.W.Frag} {S S' : Addr → Prop} {H H' : Hp} {σ' : L2.St} {env' args : Env} {vs : List V} {N : List Str} {m : Nat}
theorem start_in {i : Nat} (h : i < vs.length) : (start N vs)[i]? = (vs.map some)[i]? := by
  unfold L2.start
  rw [List.getElem?_append_left (by rw [List.length_map]; exact h)]
theorem ent_in {i : Nat} (h : i < args.length) : (args ++ List.replicate m Sl.un)[i]? = args[i]? := List.getElem?_append_left h
theorem ent_ow {i : Nat} {s : Sl} (hs : s ≠ .un) (h : (args ++ List.replicate m Sl.un)[i]? = some s) : i < args.length ∧ args[i]? = some s := by
  by_cases hi : i < args.length
  · exact ⟨hi, by rw [← ent_in (m := m) hi]; exact h⟩
  · rw [List.getElem?_append_right (by omega)] at h
    have := List.mem_of_getElem? h
    rw [List.mem_replicate] at this
    exact absurd this.2 hs
theorem ent_ok (ok : EnvOk K S (vs.map some) H args) (hm : m = N.length - vs.length) : EnvOk K S (start N vs) H (args ++ List.replicate m .un) := by
  have hl : vs.length = args.length := by
    have := ok.len
    rw [List.length_map] at this
    exact this
  have st : ∀ {i : Nat}, i < args.length → (start N vs)[i]? = (vs.map some)[i]? := fun h => start_in (by rw [hl]; exact h)
  refine ⟨?_, ok.dom, fun i d h => ?_, fun i k d h => ?_, fun i j k l d e p h1 h2 h3 h4 => ?_⟩
  · unfold L2.start
    rw [List.length_append, List.length_append, List.length_map, List.length_replicate, List.length_replicate, hm, hl]
  · obtain ⟨hi, h'⟩ := ent_ow (fun z => by cases z) h
    rw [st hi]
    exact ok.im i d h'
  · obtain ⟨hi, h'⟩ := ent_ow (fun z => by cases z) h
    rw [st hi]
    exact ok.ow i k d h'
  · obtain ⟨hi, h1'⟩ := ent_ow (fun z => by cases z) h1
    obtain ⟨hj, h2'⟩ := ent_ow (fun z => by cases z) h2
    rw [st hi] at h3
    rw [st hj] at h4
    exact ok.inj i j k l d e p h1' h2' h3 h4
theorem ent_owns {k : Kd} {a : Addr} (hl : vs.length = args.length) (h : OwnsK k (start N vs) (args ++ List.replicate m .un) a) : OwnsK k (vs.map some) args a := by
  obtain ⟨i, d, h1, h2⟩ := h
  obtain ⟨hi, h1'⟩ := ent_ow (fun z => by cases z) h1
  rw [start_in (by rw [hl]; exact hi)] at h2
  exact ⟨i, d, h1', h2⟩
theorem fin_post {r : R} {v : V} (ok : EnvOk K S (vs.map some) H args) (nown : ∀ (i : Nat) d, args[i]? ≠ some (.ow .own d)) (hm : m = N.length - vs.length)
    (F : Fw S H (start N vs) (args ++ List.replicate m .un) S' H' σ' env') (ok' : EnvOk K S' σ' H' env') (rv : RV K S' H' σ' env' r v) (new : ∀ d p, r = .fr d → v = .ref p → OwnsK .own (start N vs) (args ++ List.replicate m .un) p ∨ H p = none) (na : ∀ i, r ≠ .al i) :
    Post K S H (vs.map some) args r (finSl args env') v S' H' := by
  have hl : vs.length = args.length := by
    have := ok.len
    rw [List.length_map] at this
    exact this
  have st : ∀ {i : Nat}, i < args.length → (start N vs)[i]? = (vs.map some)[i]? := fun h => start_in (by rw [hl]; exact h)
  have le : Le (er S H) (er S' H') := Fw.le (ent_ok ok hm) F
  have lt : ∀ {i : Nat} {s : Sl}, args[i]? = some s → i < args.length := fun h => (List.getElem?_eq_some_iff.mp h).1
  have bor : ∀ (i : Nat) d, args[i]? = some (.ow .bor d) → ∃ d', env'[i]? = some (.ow .bor d') ∧ σ'[i]? = (vs.map some)[i]? := fun i d h => by
    obtain ⟨d', h1, h2⟩ := F.bo i d (by rw [ent_in (lt h)]; exact h)
    exact ⟨d', h1, by rw [h2]; exact st (lt h)⟩
  have lck : ∀ (i : Nat) d, args[i]? = some (.ow .lck d) → env'[i]? = some (.ow .lck d) ∧ σ'[i]? = (vs.map some)[i]? := fun i d h => by
    obtain ⟨h1, h2⟩ := F.lk i d (by rw [ent_in (lt h)]; exact h)
    exact ⟨h1, by rw [h2]; exact st (lt h)⟩
  -- a slot behind it
  have src : ∀ (i : Nat) s, (finSl args env')[i]? = some s → (∃ d d', args[i]? = some (.ow .bor d) ∧ s = .ow .bor d' ∧ env'[i]? = some s ∧ σ'[i]? = (vs.map some)[i]?) ∨ (args[i]? = some s ∧ ∀ d, s ≠ .ow .bor d) := fun i s h => by
    obtain ⟨a, h1, h2⟩ := finSl_cases args env' i s h
    rcases h2 with ⟨⟨d, rfl⟩, h3⟩ | ⟨h3, rfl⟩
    · obtain ⟨d', h4, h5⟩ := bor i d h1
      rw [h3] at h4
      cases h4
      exact .inl ⟨d, d', h1, rfl, h3, h5⟩
    · refine .inr ⟨h1, fun d z => ?_⟩
      subst z
      rcases h3 with h3 | h3
      · exact h3 d rfl
      · obtain ⟨d', h4, _⟩ := bor i d h1
        rw [h3] at h4
        cases h4
  have fow : ∀ (i : Nat) k d, (finSl args env')[i]? = some (.ow k d) → env'[i]? = some (.ow k d) ∧ σ'[i]? = (vs.map some)[i]? ∧ k ≠ .own := fun i k d h => by
    rcases src i _ h with ⟨d0, d', h1, h2, h3, h4⟩ | ⟨h1, h2⟩
    · cases h2
      exact ⟨h3, h4, fun z => by cases z⟩
    · cases k with
      | own => exact absurd h1 (nown i d)
      | bor => exact absurd rfl (h2 d)
      | lck =>
        obtain ⟨h3, h4⟩ := lck i d h1
        exact ⟨h3, h4, fun z => by cases z⟩
  have fowns : ∀ k a, OwnsK k (vs.map some) (finSl args env') a → OwnsK k σ' env' a := fun k a h => by
    obtain ⟨i, d, h1, h2⟩ := h
    obtain ⟨h3, h4, _⟩ := fow i k d h1
    exact ⟨i, d, h3, by rw [h4]; exact h2⟩
  have there : ∀ {i : Nat} {s : Sl}, args[i]? = some s → ∃ t, (finSl args env')[i]? = some t := fun h => ⟨_, List.getElem?_eq_getElem (by rw [finSl_len]; exact lt h)⟩
  have no : ∀ a, OwnsK .own (vs.map some) args a → False := fun a ⟨i, d, h, _⟩ => nown i d h
  refine ⟨⟨F.sub, fun a h1 h2 h3 => F.kp a h1 h2 fun z => no a (ent_owns hl z), fun a o h1 h2 => F.fr a o h1 fun z => h2 ?_, fun a h => ?_, fun i d h => ?_, fun i d h => ?_, fun i d h => ?_, fun i d h => ?_, F.dm⟩,
    ⟨by rw [finSl_len]; exact ok.len, ok'.dom, fun i d h => ?_, fun i k d h => ?_, fun i j k l d e p h1 h2 h3 h4 => ?_⟩, ?_, fun d p e1 e2 => ?_⟩
  · rcases z with z | z
    · exact .inl (ent_owns hl z)
    · exact .inr (ent_owns hl z)
  · obtain ⟨i, d, h1, _⟩ := h
    exact absurd rfl (fow i _ d h1).2.2
  · obtain ⟨t, ht⟩ := there h
    rcases src i t ht with ⟨d0, d', h1, h2, h3, h4⟩ | ⟨h1, h2⟩
    · subst h2
      exact ⟨d', ht, rfl⟩
    · rw [h] at h1
      cases h1
      exact absurd rfl (h2 d)
  · rcases src i _ h with ⟨d0, d', h1, h2, h3, h4⟩ | ⟨h1, h2⟩
    · exact ⟨d0, h1, rfl⟩
    · exact absurd rfl (h2 d)
  · obtain ⟨t, ht⟩ := there h
    rcases src i t ht with ⟨d0, d', h1, h2, h3, h4⟩ | ⟨h1, h2⟩
    · rw [h] at h1
      cases h1
    · rw [h] at h1
      cases h1
      exact ⟨ht, rfl⟩
  · rcases src i _ h with ⟨d0, d', h1, h2, h3, h4⟩ | ⟨h1, h2⟩
    · cases h2
    · exact ⟨h1, rfl⟩
  · rcases src i _ h with ⟨d0, d', h1, h2, h3, h4⟩ | ⟨h1, h2⟩
    · cases h2
    · obtain ⟨w, g1, g2⟩ := ok.im i d h1
      exact ⟨w, g1, g2.mono le⟩
  · obtain ⟨h1, h2, _⟩ := fow i k d h
    rw [← h2]
    exact ok'.ow i k d h1
  · obtain ⟨a1, a2, _⟩ := fow i k d h1
    obtain ⟨b1, b2, _⟩ := fow j l e h2
    exact ok'.inj i j k l d e p a1 b1 (by rw [a2]; exact h3) (by rw [b2]; exact h4)
  · cases r with
    | im d => exact rv
    | al i => exact absurd rfl (na i)
    | fr d =>
      obtain ⟨p, rfl, r1, r2, r3, r4, r5⟩ := rv
      refine ⟨p, rfl, r1, fun z => r2 ?_, fun z => r3 (fowns _ p z), r4, r5⟩
      rcases z with z | z
      · exact .inl (fowns _ p z)
      · exact .inr (fowns _ p z)
  · rcases new d p e1 e2 with z | z
    · exact absurd (ent_owns hl z) (no p)
    · exact z
end
section
variable {P : Program} {w : World} {K : PySem.W.Frag} {mg : Str → Option Value} {base : Heap} {Φ : Fns}
/-- what execs answers, as a result -/
def outR (args : List Sl) : Option Out → Option (R × List Sl)
  | some (.rt (.im d) env) => some (.im d, finSl args env)
  | some (.rt (.fr d) env) => some (.fr d, finSl args env)
  | some (.nx env) => some (.im .none, finSl args env)
  | _ => none
theorem run_eq (d : Dfn) (args : List Sl) : d.run Φ args = if args.length = d.np then outR args (execs Φ d.body (args ++ List.replicate (d.ns - d.np) .un)) else none := by
  unfold Dfn.run
  split
  · cases execs Φ d.body (args ++ List.replicate (d.ns - d.np) .un) with
    | none => rfl
    | some o =>
      cases o with
      | rt r e => cases r <;> rfl
      | _ => rfl
  · rfl
theorem rux_eq (d : Dfn) (args : List Sl) {y : D} {fin : List Sl} (h : d.rux Φ args = some (y, fin)) : args.length = d.np ∧ ∃ env, execs Φ d.body (args ++ List.replicate (d.ns - d.np) .un) = some (.ex y env) ∧ fin = finSl args env := by
  unfold Dfn.rux at h
  split at h
  · rename_i e
    refine ⟨e, ?_⟩
    cases e2 : execs Φ d.body (args ++ List.replicate (d.ns - d.np) .un) with
    | none => rw [e2] at h; cases h
    | some o =>
      rw [e2] at h
      cases o with
      | ex y' env => cases h; exact ⟨env, rfl, rfl⟩
      | _ => cases h
  · cases h
theorem fn_ok {x qual : Str} {st : Stmt} {f : Addr} {fd : FuncData} {N ps : List Str} {n : Nat} {d : Dfn} (F : Fun K x qual st f fd) (Sc : FnScope N ps (defScope st)) (hnp : d.np = ps.length) (hns : d.ns = N.length)
    (body : ∀ (cdv : Value) (A : Around) (outer : List PySem.Env) (s : Shared) (H : Hp) (E : XK), Room n (A.deeper (envOfC qual (defScope st) s.heap.objs.size f cdv)) → SndSts Φ (cxOf (L2.CX P w) P w K mg base N qual (defScope st) f cdv A outer s H E) (defBody st) d.body) :
    FnOk P w K mg base (L2.CX P w) (n + 1) f fd ps (spX K (d.run Φ) (d.rux Φ)) := by
  have arr : ∀ {vs : List V} {S : Addr → Prop} {H : Hp} {args : List Sl}, args.length = d.np → EnvOk K S (vs.map some) H args → vs.length = ps.length := fun {vs S H args} e ok => by
    have := ok.len
    rw [List.length_map] at this
    rw [this, e, hnp]
  have lr : ∀ {args : List Sl} {r : R} {fin : List Sl}, d.run Φ args = some (r, fin) → args.length = d.np := fun {args r fin} h => by
    rw [run_eq] at h
    split at h
    · rename_i e
      exact e
    · cases h
  refine F.okX Sc (fun vs H Q E h => ?_) (fun cdv A outer s H vs Q E hr h => ?_)
  · rcases h with ⟨S, args, r, fin, h1, h2, _⟩ | ⟨S, args, y, fin, h1, h2, _⟩
    · exact arr (lr h1) h2
    · exact arr (rux_eq _ _ h1).1 h2
  · have tk : Takes (cxOf (L2.CX P w) P w K mg base N qual (defScope st) f cdv A outer s H E) (fun cls d _ H => E cls d H) := takes_of rfl rfl rfl rfl
    rcases h with ⟨S, args, r, fin, h1, h2, h3, h4⟩ | ⟨S, args, y, fin, h1, h2, h3, h4⟩
    · have l2 := lr h1
      have hm : d.ns - d.np = N.length - vs.length := by rw [hns, hnp, arr l2 h2]
      rw [run_eq, if_pos l2] at h1
      cases e : execs Φ d.body (args ++ List.replicate (d.ns - d.np) .un) with
      | none => rw [e] at h1; cases h1
      | some o =>
        rw [e] at h1
        refine ⟨_, pss_any, body cdv A outer s H E hr _ o e S (start N vs) H (ent_ok h2 hm) _ _ tk ?_⟩
        cases o with
        | nx env' =>
          cases h1
          exact fun σ' S' H' f ok' => h4 .non S' H' (fin_post (r := .im .none) h2 h3 hm f ok' Rep.non (fun _ _ z => by cases z) fun _ z => by cases z)
        | rt r' env' =>
          cases r' with
          | al i => cases h1
          | im d =>
            cases h1
            exact fun v σ' S' H' f ok' rv new na => h4 v S' H' (fin_post h2 h3 hm f ok' rv new na)
          | fr d =>
            cases h1
            exact fun v σ' S' H' f ok' rv new na => h4 v S' H' (fin_post h2 h3 hm f ok' rv new na)
        | bk env' => cases h1
        | ct env' => cases h1
        | ex y env' => cases h1
    · obtain ⟨l2, env', e, rfl⟩ := rux_eq _ _ h1
      have hm : d.ns - d.np = N.length - vs.length := by rw [hns, hnp, arr l2 h2]
      refine ⟨_, pss_any, body cdv A outer s H E hr _ _ e S (start N vs) H (ent_ok h2 hm) _ _ tk ?_⟩
      exact fun cls dd σ' S' H' f ok' x' => h4 cls dd S' H' (fin_post (r := .im .none) h2 h3 hm f ok' Rep.non (fun _ _ z => by cases z) fun _ z => by cases z) x'
/-- a def at work that raises nothing -/
theorem fn_0 {k : Nat} {f : Addr} {fd : FuncData} {ps : List Str} {g : List Sl → Option (R × List Sl)} {gx : List Sl → Option (D × List Sl)} (F : FnOk P w K mg base (L2.CX P w) k f fd ps (spX K g gx)) : FnOk P w K mg base CX0 k f fd ps (spD K g) :=
  ⟨fun vs H Q E h => F.len vs H Q E (.inl h), fun A outer s H args us vs Q E hr he hb hv h => codeAny_mono (F.run A outer s H args us vs Q E0 hr he hb hv (.inl h)) fun r s' hq => by
    cases r with
    | error e =>
      obtain ⟨_, _, _, _, _, _, _, _, _, _, _, _, z⟩ := hq
      exact z.elim
    | ok fl => cases fl <;> exact hq⟩
/-! ### the defs of a text -/
/-- all but the room -/
def HasG (Φ : Fns) (P : Program) (w : World) (K : PySem.W.Frag) (mg : Str → Option Value) (base : Heap) (k : Nat) (x : Str) (ps : List Str) : Prop :=
  ∃ f fd, FnOk P w K mg base (L2.CX P w) k f fd ps (spX K (Φ x) (Φ.ex x)) ∧ mg x = some (.ref f) ∧ PySem.W.keepIn K (.ref f) = true ∧ Binds K fd ps []
theorem has_of {X : Cx} {k : Nat} {x : Str} {ps : List Str} (h : HasG Φ X.prog X.w X.K X.mg X.base k x ps) (r : Room k X.A) : Has Φ X x k ps := ⟨h, r⟩
theorem run_noal {d : Dfn} {args : List Sl} {r : R} {fin : List Sl} (h : d.run Φ args = some (r, fin)) (i : Nat) : r ≠ .al i := fun z => by
  subst z
  rw [run_eq] at h
  split at h
  · cases e : execs Φ d.body (args ++ List.replicate (d.ns - d.np) .un) with
    | none => rw [e] at h; cases h
    | some o =>
      rw [e] at h
      cases o with
      | rt r e => cases r <;> cases h
      | _ => cases h
  · cases h
theorem fns_noal (tbl : List (Str × Dfn)) : ∀ n, NoAl (fns tbl n)
  | 0 => fun f args r fin h => by cases h
  | n + 1 => fun f args r fin h => by
    simp only [fns] at h
    cases e : tbl.lookup f with
    | none => rw [e] at h; cases h
    | some d => rw [e] at h; exact run_noal h
/-- to no depth: nothing is promised -/
theorem has0 {tbl : List (Str × Dfn)} {x : Str} {ps : List Str} {f : Addr} {fd : FuncData} (hm : mg x = some (.ref f)) (hk : PySem.W.keepIn K (.ref f) = true) (hb : Binds K fd ps []) : HasG (fns tbl 0) P w K mg base 0 x ps :=
  ⟨f, fd, ⟨(fun vs H Q E h => by rcases h with ⟨S, args, r, fin, h1, _⟩ | ⟨S, args, r, fin, h1, _⟩ <;> cases h1), (fun A outer s H args us vs Q E _ _ _ _ h => by rcases h with ⟨S, args, r, fin, h1, _⟩ | ⟨S, args, r, fin, h1, _⟩ <;> cases h1)⟩, hm, hk, hb⟩
theorem hasS {tbl : List (Str × Dfn)} {x : Str} {ps : List Str} {f : Addr} {fd : FuncData} {n : Nat} {d : Dfn} (hm : mg x = some (.ref f)) (hk : PySem.W.keepIn K (.ref f) = true) (hb : Binds K fd ps []) (hd : tbl.lookup x = some d)
    (h : FnOk P w K mg base (L2.CX P w) (n + 1) f fd ps (spX K (d.run (fns tbl n)) (d.rux (fns tbl n)))) : HasG (fns tbl (n + 1)) P w K mg base (n + 1) x ps := by
  have e : fns tbl (n + 1) x = d.run (fns tbl n) := by
    funext args
    simp only [fns, hd]
  have e' : (fns tbl (n + 1)).ex x = d.rux (fns tbl n) := by
    funext args
    simp only [fns, hd]
  exact ⟨f, fd, by rw [e, e']; exact h, hm, hk, hb⟩
end
end DI

set_option maxRecDepth 100000
/-! DI18: t[::-1]; f(k = e). -/
namespace DI
open PySem PySem.Spec PyProof.Rows L2
section
variable {prog : Program} {w : World} {A : Around} {E : Value → Shared → Prop} {s : Shared}
theorem places_rev (n : Nat) : Builtin.Slice.slicePlaces ((n : Int) - 1) (-1) (-1) = n := by
  unfold Builtin.Slice.slicePlaces
  rw [if_neg (by decide)]
  split
  · rw [show (-(-1 : Int)) = 1 by decide, Int.ediv_one]
    omega
  · omega
theorem fm_congr {α β : Type} {f g : α → Option β} : ∀ l : List α, (∀ x ∈ l, f x = g x) → l.filterMap f = l.filterMap g
  | [], _ => rfl
  | x :: l, h => by
    rw [List.filterMap_cons, List.filterMap_cons, h x List.mem_cons_self, fm_congr l fun y hy => h y (List.mem_cons_of_mem _ hy)]
theorem pick_rev (xs : Array Value) : ((List.range xs.size).filterMap fun (m : Nat) => xs[(((xs.size : Int) - 1) + (m : Int) * (-1)).toNat]?) = xs.toList.reverse := by
  have e : (List.range xs.size).filterMap (fun (m : Nat) => xs[(((xs.size : Int) - 1) + (m : Int) * (-1)).toNat]?) = ((List.range xs.size).map fun k => xs.size - 1 - k).filterMap (xs[·]?) := by
    rw [List.filterMap_map]
    refine fm_congr _ fun m hm => ?_
    have := List.mem_range.mp hm
    show xs[(((xs.size : Int) - 1) + (m : Int) * (-1)).toNat]? = xs[xs.size - 1 - m]?
    rw [show (((xs.size : Int) - 1) + (m : Int) * (-1)).toNat = xs.size - 1 - m by omega]
  rw [e, PySem.W.krv_range, List.filterMap_reverse, PySem.W.krv_all]
theorem get_tup_rev {t sl : Addr} {its : Array Value} {x : Value} {Q : Value → Shared → Prop} (ht : IsTup s.heap t its) (hs : s.heap.IsSliceOf sl .none .none x) (px : IsPart x (some (-1))) (hz : its.size ≤ sizeLine)
    (q : Q (.ref s.heap.objs.size) { s with heap := s.heap.push { cls := .type "tuple", data := .seq its.toList.reverse.toArray } }) : wpAny (model prog w) A (getItem (.ref t) (.ref sl)) Q E s := by
  obtain ⟨so, g1, g2, g3⟩ := id hs
  have fits : sizeOk (.seq its.toList.reverse.toArray) := by
    show its.toList.reverse.toArray.size ≤ sizeLine
    rw [List.size_toArray, List.length_reverse, Array.length_toList]
    exact hz
  unfold getItem
  refine wpAny_holding (wpAny_bind (wpAny_sequenceKey ht.typeIs (by decide) (wpAny_bind (wpAny_callSpecial?_slot (name := Str.ofString "__getitem__") ht.typeIs slot_tuple_getitem (wpAny_call_entry slot_tuple_getitem ht.typeIs entry_tuple_getitem ?_ (args_tuple_getitem _ _))))))
  show wpAny _ _ (Builtin.Tuple.tupleItemsOf (.ref t) >>= _) _ _ s
  refine wpAny_bind (tupleItemsOf_ ht (wpAny_bind (wpAny_typeOf (show s.TypeIs (.ref sl) "slice" from ⟨so, g1, g2⟩) ?_)))
  rw [if_pos (by decide)]
  refine wpAny_bind ?_
  unfold Builtin.Slice.sliceApplied Builtin.Slice.sliceFields
  refine wpAny_bind (wpAny_bind (wpAny_field g1 g3 (x := .none) rfl (wpAny_bind (wpAny_field g1 g3 (x := .none) rfl (wpAny_bind (wpAny_field g1 g3 (x := x) rfl (wpAny_pure ?_)))))))
  refine wpAny_bind (HT.slicePart_ px ?_)
  show wpAny _ _ (if ((-1 : Int) == 0) = true then _ else _) _ _ s
  rw [if_neg (by decide)]
  refine wpAny_bind (HT.slicePart_ .none (wpAny_bind (HT.slicePart_ .none (wpAny_bind (wpAny_pure ?_)))))
  show wpAny _ _ (pure (((its.size : Int) - 1), (-1 : Int), Builtin.Slice.slicePlaces ((its.size : Int) - 1) (-1) (-1))) _ _ s
  rw [places_rev]
  refine wpAny_pure ?_
  show wpAny _ _ (if (((its.size : Int) - 1) == 0 && (-1 : Int) == 1 && its.size == its.size) = true then _ else _) _ _ s
  rw [show ((-1 : Int) == 1) = false by decide, Bool.and_false, Bool.false_and, if_neg Bool.false_ne_true, pick_rev]
  first
    | exact wpAny_bind (m := Builtin.Tuple.tupleExact _) (wpAny_newObj_type (wpAny_pure ⟨_, rfl, wpAny_pure q⟩) fits)
    | exact wpAny_bind (m := Builtin.Tuple.tupleExact _) (wpAny_newObj_type (wpAny_bind (wpAny_pure (wpAny_pure ⟨_, rfl, wpAny_pure q⟩))) fits)
    | exact wpAny_bind (wpAny_bind (m := Builtin.Tuple.tupleExact _) (wpAny_newObj_type (wpAny_pure (wpAny_pure ⟨_, rfl, wpAny_pure q⟩)) fits))
    | exact wpAny_bind (wpAny_bind (m := Builtin.Tuple.tupleExact _) (wpAny_newObj_type (wpAny_pure ⟨_, rfl, wpAny_pure q⟩) fits))
end
section
variable {Φ : Fns} {X : Cx} {a b c e o i : Expr} {es : List Expr} {xa xb xc x xe xt xi : Xp} {xs : Xps} {pos p p1 p2 p3 : Pos} {te : TE} {k : Nat}
def tRevT (K : PySem.W.Frag) (te : TE) : TE := fun σ H Q => te σ H fun x H1 => ∃ a xs, x = .ref a ∧ SqT K H1 a xs ∧ ∀ p, H1 p = none → Q (.ref p) (upd H1 p (.tup xs.reverse))
theorem pe_revT (he : PE X e te) : PE X (.Subscript e (.Slice none none (some (.UnaryOp .USub (.Constant (.int 1) k p1) p2)) p3) pos) (tRevT X.K te) := ⟨fun pins s σ H Q I h => by
  refine Subscript_ (thn (he.run pins s σ H _ I h) fun v s1 ⟨x, H1, I1, r1, a, xs, ex, hx, q⟩ => ?_)
  subst ex
  cases r1
  have hst : PO X (some (.UnaryOp .USub (.Constant (.int 1) k p1) p2)) (tPart (tUn (rU fun i => .int (-i)) (tC (.int 1)))) := po_some (pe_un un_neg pe_int)
  refine wpAny_Slice (thn (po_none.run pins s1 σ H1 (fun o H2 => o = none ∧ H2 = H1) I1 ⟨rfl, rfl⟩) fun v1 s2 ⟨o1, H2, I2, g1, eo1, eh1⟩ => ?_)
  subst eo1 eh1
  refine thn (po_none.run pins s2 σ H2 (fun o H3 => o = none ∧ H3 = H2) I2 ⟨rfl, rfl⟩) fun v2 s3 ⟨o2, H3, I3, g2, eo2, eh2⟩ => ?_
  subst eo2 eh2
  refine thn (hst.run pins s3 σ H3 (fun o H4 => o = some (-1) ∧ H4 = H3) I3 ⟨1, rfl, -1, rfl, rfl, rfl⟩) fun v3 s4 ⟨o3, H4, I4, g3, eo3, eh3⟩ => ?_
  subst eo3 eh3
  cases g1
  cases g2
  have I5 : Inv X pins σ H4 { s4 with heap := s4.heap.push { cls := .type "slice", data := .fields #[.none, .none, v3] } } := I4.kept (t' := s4.toks) fun b ob q => Heap.get?_push_of_some _ q
  obtain ⟨its, r, ht, hz⟩ := I5.tuple hx
  have hl := r.length
  show wpAny (model X.prog X.w) X.A (subscriptTail e (.Slice none none (some (.UnaryOp .USub (.Constant (.int 1) k p1) p2)) p3) (.ref a) (.ref s4.heap.objs.size)) (EP X pins σ Q) X.xe { s4 with heap := s4.heap.push { cls := .type "slice", data := .fields #[.none, .none, v3] } }
  refine tail_any (ops := [.ref a, .ref s4.heap.objs.size]) ht.typeIs slot_tuple_getitem.lookup (get_tup_rev ht (Heap.IsSliceOf.new _ _ _ v3) g3 (by rw [List.size_toArray, ← hl]; exact hz) ?_) (by with_unfolding_all rfl)
  exact ⟨.ref _, _, I5.laid (t' := s4.toks) (o := .tup xs.reverse) (fun b ob q => Heap.get?_push_of_some _ q) (Nat.le_refl _) ⟨by rw [List.length_reverse]; exact hz, _, r.reverse, IsTup.new _ _⟩, rfl, q _ (I5.hok.fresh (Nat.le_refl _))⟩⟩
theorem snd_rev (ha : Snd Φ X e x) : Snd Φ X (.Subscript e (.Slice none none (some (.UnaryOp .USub (.Constant (.int 1) k p1) p2)) p3) pos) (.rev x) := .mk fun env r env' h S σ H ok Q q => by
  simp only [ev] at h
  obtain ⟨r1, en1, e1, h⟩ := ev_inv1 h
  cases e2 : r1.val en1 with
  | none => rw [e2] at h; cases h
  | some d =>
    rw [e2] at h
    cases d <;> first | cases h | skip
    · refine any_of (pe_revL pe_any) (ha env r1 _ e1 S σ H ok _ fun v S1 H1 P => ?_)
      obtain ⟨a, vs, rfl, g1, g2⟩ := P.rv.repC P.ok e2
      exact ⟨a, vs, rfl, g1, fun p hp => q _ _ _ ((Post.lst P.ok hp g2.reverse).after P.fw)⟩
    · refine any_of (pe_revT pe_any) (ha env r1 _ e1 S σ H ok _ fun v S1 H1 P => ?_)
      obtain ⟨a, vs, rfl, g1, g2⟩ := Rep.tup_inv (P.rv.repC P.ok e2)
      exact ⟨a, vs, rfl, er_full.sqT g1, fun p hp => q _ _ _ ((Post.tup P.ok hp g2.reverse).after P.fw)⟩
/-! ### calls by keyword -/
def AnyK (X : Cx) (kws : List Keyword) : TA := fun σ H Q => ∀ (pos : Pos) (pins : List (Addr × Obj)) (s : Shared), Inv X pins σ H s → wpAny (model X.prog X.w) X.A (evalAll ((backToKw pos (keywordEach kws X.env)).map (·.2))) (AP X pins σ Q) X.xe s
theorem pk_any {kws : List Keyword} : PK X kws (AnyK X kws) := ⟨fun pos pins s σ H Q I h => h pos pins s I⟩
/-- how a def's keywords bind: in the parameters' order behind what is given by place -/
def HasK (Φ : Fns) (P : Program) (w : World) (K : PySem.W.Frag) (mg : Str → Option Value) (base : Heap) (k : Nat) (x : Str) (ps ks : List Str) : Prop :=
  ∃ f fd, FnOk P w K mg base (L2.CX P w) k f fd ps (spX K (Φ x) (Φ.ex x)) ∧ mg x = some (.ref f) ∧ PySem.W.keepIn K (.ref f) = true ∧ KBinds K fd ps ks (fun us ws => us ++ ws) (fun vs zs => vs ++ zs)
theorem pe_callK0 {kk : Nat} {f : Addr} {fd : FuncData} {ps ks : List Str} {sp : Sp} {E : XK} {y : Str} {kws : List Keyword} {tk : TA} {CX : CXT} {g : List Value → List Value → List Value} {gV : List V → List V → List V} (F : FnOk X.prog X.w X.K X.mg X.base CX kk f fd ps sp) (hr : Room kk X.A) (hg : Gl X y) (hm : X.mg y = some (.ref f)) (hk : PySem.W.keepIn X.K (.ref f) = true) (hb : KBinds X.K fd ps ks g gV) (hx : Passes CX X E)
    (hkw : PK X kws tk) (hall : (backToKw pos (keywordEach kws X.env)).all (·.1.isSome) = true := by rfl) (hks : (backToKw pos (keywordEach kws X.env)).filterMap (·.1) = ks := by rfl) (hdb : (y == ("__debug__" : Str)) = false := by decide)
    (hpl : ((backTo pos (starEach [] X.env)).any (·.1) || (backToKw pos (keywordEach kws X.env)).any (·.1.isNone)) = false := by rfl) : PE X (.Call (.Name y p) [] kws pos) (fun σ H Q => tk σ H fun zs H1 => sp (gV [] zs) H1 Q E) := ⟨fun pins s σ H Q I h => by
  refine wpAny_Call_Name_kw (ld_glob I hg hm ?_ hdb)
  refine PySem.W.callWith_KW0 (h₀ := X.base) I.ok.mod.kin hk hall (thn (hkw.run pos pins s σ H _ I h) fun ws s1 ⟨zs, H1, I1, rz, q⟩ => ⟨I1.kIn, ?_⟩) hpl
  rw [hks]
  exact run_fnk (us := []) (vs := []) F hr hb hx I1 .nil rz q⟩
/-- keywords' values, as they are -/
structure SndK (Φ : Fns) (X : Cx) (kws : List Keyword) (xs : Xps) : Prop where
  run : ∀ env rs env', evR Φ xs env = some (rs, env') → ∀ (S : Addr → Prop) (σ : L2.St) (H : Hp), EnvOk X.K S σ H env →
  ∀ Q : List V → Hp → Prop, (∀ vs S' H', PostR X.K S H σ env rs env' vs S' H' → Q vs H') → AnyK X kws σ H Q
instance {Φ : Fns} {X : Cx} {kws : List Keyword} {xs : Xps} : CoeFun (SndK Φ X kws xs) fun _ => ∀ env rs env', evR Φ xs env = some (rs, env') → ∀ (S : Addr → Prop) (σ : L2.St) (H : Hp), EnvOk X.K S σ H env →
    ∀ Q : List V → Hp → Prop, (∀ vs S' H', PostR X.K S H σ env rs env' vs S' H' → Q vs H') → AnyK X kws σ H Q := ⟨SndK.run⟩
theorem sndK_one {nm : Option Str} {kpos : Pos} (he : Snd Φ X e x) : SndK Φ X [⟨nm, e, kpos⟩] (.cons x .nil) := .mk fun env rs env' h S σ H ok Q q => by
  simp only [evR] at h
  cases e1 : ev Φ x env with
  | none => rw [e1] at h; cases h
  | some p1 =>
    obtain ⟨r, en1⟩ := p1
    rw [e1] at h
    cases h
    intro pos pins s I
    refine (pk_cons pe_any pk_nil).run pos pins s σ H Q I (he env r _ e1 S σ H ok _ fun v S1 H1 P => q [v] S1 H1 ⟨P.fw, P.ok, .cons P.rv .nil, ?_, ?_⟩)
    · intro a ha
      cases r with
      | im d => cases ha
      | al i => cases ha
      | fr d =>
        obtain ⟨p, rfl, _⟩ := P.rv
        have ea : a = p := List.mem_singleton.mp ha
        rw [ea]
        exact P.new _ _ rfl rfl
    · cases r with
      | im d => exact .nil
      | al i => exact .nil
      | fr d => obtain ⟨p, rfl, _⟩ := P.rv; exact List.nodup_cons.mpr ⟨by simp, .nil⟩
theorem snd_callK0 {f : Str} {kk : Nat} {ps ks : List Str} {kws : List Keyword} (F : HasK Φ X.prog X.w X.K X.mg X.base kk f ps ks) (hr : Room kk X.A) (na : NoAl Φ) (hg : Gl X f) (ha : SndK Φ X kws xs) (hall : (backToKw pos (keywordEach kws X.env)).all (·.1.isSome) = true := by rfl) (hks : (backToKw pos (keywordEach kws X.env)).filterMap (·.1) = ks := by rfl) (hdb : (f == ("__debug__" : Str)) = false := by decide)
    (hpl : ((backTo pos (starEach [] X.env)).any (·.1) || (backToKw pos (keywordEach kws X.env)).any (·.1.isNone)) = false := by rfl) :
    Snd Φ X (.Call (.Name f p) [] kws pos) (.call f xs) := .mk fun env r env' h S σ H ok Q q => by
  obtain ⟨fa, fd, F1, F2, F3, F4⟩ := F
  refine any_of (pe_callK0 (E := E0) F1 hr hg F2 F3 F4 passL pk_any hall hks hdb hpl) ?_
  obtain ⟨rs, en1, ss, fin, e1, nd, e2, e3, rfl⟩ := ev_call_inv h
  refine ha env rs en1 e1 S σ H ok _ fun vs S1 H1 P => ?_
  refine .inl ⟨S1, ss, r, fin, e3, args_ok P nd e2, fun i d z => ?_, fun v S2 H2 C => q _ _ _ (call_post P ok nd e2 C (na f ss r fin e3))⟩
  obtain ⟨_, _, _, _, _, _, z3⟩ := arg_ow P e2 z
  exact z3 rfl
section
variable {P : Program} {w : World} {K : PySem.W.Frag} {mg : Str → Option Value} {base : Heap}
theorem fns_at {tbl : List (Str × Dfn)} {x : Str} {d : Dfn} {n : Nat} (hd : tbl.lookup x = some d) : fns tbl (n + 1) x = d.run (fns tbl n) := by
  funext args
  simp only [fns, hd]
theorem fns_ax {tbl : List (Str × Dfn)} {x : Str} {d : Dfn} {n : Nat} (hd : tbl.lookup x = some d) : (fns tbl (n + 1)).ex x = d.rux (fns tbl n) := by
  funext args
  simp only [fns, hd]
theorem hasK0 {tbl : List (Str × Dfn)} {x : Str} {ps ks : List Str} {f : Addr} {fd : FuncData} (hm : mg x = some (.ref f)) (hk : PySem.W.keepIn K (.ref f) = true) (hb : KBinds K fd ps ks (fun us ws => us ++ ws) (fun vs zs => vs ++ zs)) : HasK (fns tbl 0) P w K mg base 0 x ps ks :=
  ⟨f, fd, ⟨(fun vs H Q E h => by rcases h with ⟨S, args, r, fin, h1, _⟩ | ⟨S, args, r, fin, h1, _⟩ <;> cases h1), (fun A outer s H args us vs Q E _ _ _ _ h => by rcases h with ⟨S, args, r, fin, h1, _⟩ | ⟨S, args, r, fin, h1, _⟩ <;> cases h1)⟩, hm, hk, hb⟩
theorem hasKS {tbl : List (Str × Dfn)} {x : Str} {ps ks : List Str} {f : Addr} {fd : FuncData} {n : Nat} {d : Dfn} (hm : mg x = some (.ref f)) (hk : PySem.W.keepIn K (.ref f) = true) (hb : KBinds K fd ps ks (fun us ws => us ++ ws) (fun vs zs => vs ++ zs)) (hd : tbl.lookup x = some d)
    (h : FnOk P w K mg base (L2.CX P w) (n + 1) f fd ps (spX K (d.run (fns tbl n)) (d.rux (fns tbl n)))) : HasK (fns tbl (n + 1)) P w K mg base (n + 1) x ps ks :=
  ⟨f, fd, by rw [fns_at hd, fns_ax hd]; exact h, hm, hk, hb⟩
end
/-- a slice's end, any expression -/
theorem sndO_any (h : Snd Φ X e x) : SndO Φ X (some e) x := .mk fun env r env' oi d h1 h2 h3 S σ H ok Q q pins s I => by
  rw [evalPart_some]
  refine thn ((pe_any).run pins s σ H (fun v H1 => ∃ o, optI d = some o ∧ Q o H1 ∧ ((d = .none ∧ v = .non) ∨ ∃ i, d = .int i ∧ v = .int i)) I (h env r env' h1 S σ H ok _ fun v S1 H1 P => ?_)) fun u s1 ⟨v, H1, I1, r1, o, g1, g2, g3⟩ => ?_
  · refine ⟨oi, h3, q _ _ P.fw P.ok, ?_⟩
    have rp := P.rv.rep P.ok h2
    cases rp with
    | non => exact .inl ⟨rfl, rfl⟩
    | int i => exact .inr ⟨i, rfl, rfl⟩
    | _ => cases h3
  · refine ⟨o, H1, I1, ?_, g2⟩
    rcases g3 with ⟨rfl, rfl⟩ | ⟨i, rfl, rfl⟩
    · cases g1
      cases r1
      exact .none
    · cases g1
      obtain ⟨t, rfl⟩ := r1
      exact .int i t
/-- an expression that is never come to -/
theorem snd_dis {ks vs : Xps} : Snd Φ X e (.disp ks vs) := .mk fun env r env' h => by cases h
/-- a constant of the module -/
theorem snd_gc {y : Str} {v : V} {d : D} (h : ∃ u, X.mg y = some u ∧ RelV v u) (hg : Gl X y) (hd : Rep X.K (fun _ => none) v d) (l : leaf d = true) (hdb : (y == ("__debug__" : Str)) = false := by decide) : Snd Φ X (.Name y pos) (.c d) := by
  obtain ⟨u, h1, h2⟩ := h
  exact snd_glob hg h1 h2 hd l hdb
/-- the law's own promise -/
theorem spD_of {K : PySem.W.Frag} {H : Hp} {a : Addr} {ns : List Int} {g : List Sl → Option (R × List Sl)} (hS : SqL K H a (ns.map V.int)) (h : ∃ fin, g [.im (.list (ns.map .int))] = some (.im (.bool true), fin)) : spD K g [.ref a] H (fun v _ => v = .bl true) fun _ _ _ => False := by
  obtain ⟨fin, h⟩ := h
  have e : er (fun _ => False) H = H := by
    funext b
    exact er_of fun z => z
  refine ⟨fun _ => False, _, _, fin, h, ⟨rfl, fun _ z => z.elim, fun i d z => ?_, fun i k d z => ?_, fun i j k l d e p z => ?_⟩, fun i d z => ?_, fun v S2 H2 P => Rep.bl_inv P.rv⟩
  · cases i with
    | zero =>
      cases z
      exact ⟨_, rfl, .lst (by rw [e]; exact hS) (ints_reps ns)⟩
    | succ i => simp at z
  · cases i with
    | zero => cases z
    | succ i => simp at z
  · cases i with
    | zero => cases z
    | succ i => simp at z
  · cases i with
    | zero => cases z
    | succ i => simp at z
theorem u65 {k : Nat} {A : Around} (r : Room k A) : A.units + 65 < cLine := by have := r.un; omega
theorem u1 {k : Nat} {A : Around} (r : Room k A) : A.units + 1 < cLine := by have := r.un; omega
end
end DI

set_option maxRecDepth 100000
/-! DI19: list.extend. -/
namespace DI
open PySem PySem.Spec PyProof.Rows L2
section
variable {Φ : Fns} {X : Cx} {a b c e o i : Expr} {es : List Expr} {xa xb xc x xe xt xi : Xp} {xs : Xps} {pos p p1 p2 p3 apos cpos : Pos} {te : TE} {k : Nat}
theorem ev_ext_inv {i : Nat} {env env' : Env} {r : R} (h : ev Φ (.ext i x) env = some (r, env')) : ∃ k0 xs0 ys en1 k zs, env[i]? = some (.ow k0 (.list xs0)) ∧ ev Φ x env = some (.fr (.list ys), en1) ∧ en1[i]? = some (.ow k (.list zs)) ∧ k ≠ .lck ∧ zs.length + ys.length ≤ lim ∧ r = .im .none ∧ env' = en1.set i (.ow k (.list (zs ++ ys))) := by
  simp only [ev] at h
  cases e0 : env[i]? with
  | none => rw [e0] at h; cases h
  | some s0 =>
    rw [e0] at h
    cases s0 with
    | un => cases h
    | im d => cases h
    | ow k0 d0 =>
      cases d0 <;> first | cases h | skip
      rename_i xs0
      dsimp only at h
      cases e1 : ev Φ x env with
      | none => rw [e1] at h; cases h
      | some p1 =>
        obtain ⟨r1, en1⟩ := p1
        rw [e1] at h
        cases r1 with
        | im d => cases h
        | al j => cases h
        | fr d =>
          cases d <;> first | cases h | skip
          rename_i ys
          dsimp only at h
          cases e2 : en1[i]? with
          | none => rw [e2] at h; cases h
          | some s1 =>
            rw [e2] at h
            cases s1 with
            | un => cases h
            | im d => cases h
            | ow k d1 =>
              cases d1 <;> first | cases h | skip
              rename_i zs
              dsimp only at h
              by_cases hk : k = .lck
              · rw [if_pos hk] at h; cases h
              · rw [if_neg hk] at h
                split at h
                · rename_i hc
                  cases h
                  exact ⟨k0, xs0, ys, en1, k, zs, rfl, rfl, e2, hk, hc, rfl, rfl⟩
                · cases h
theorem snd_ext {i : Nat} (hv : Snd Φ X a (.v i)) (he : Snd Φ X e x) (hbase : attributeBase a "extend" X.env (eval a X.env) = eval a X.env := by rfl)
    (hfew : ((backTo cpos (starEach [e] X.env)).all (fun x => !x.1) && (backToKw cpos (keywordEach [] X.env)).all (fun x => x.1.isSome)
      && decide ([e].length + ([] : List Keyword).length + (if ([] : List Keyword).isEmpty then 0 else 1) < 30)) = true := by rfl)
    (hline : (apos.endLine == cpos.line) = true := by rfl) (hs : starEach [e] X.env = (false, eval e X.env) :: starEach [] X.env := by exact star_cons rfl) (hplain : (backTo cpos (starEach [] X.env)).any (·.1) = false := by rfl) :
    Snd Φ X (.Call (.Attribute a "extend" apos) [e] [] cpos) (.ext i x) := .mk fun env r env' h S σ H ok Q q => by
  obtain ⟨k0, xs0, ys, en1, k, zs, e0, e1, e2, hk, hc, rfl, rfl⟩ := ev_ext_inv h
  refine any_of (pe_bm PySem.F.plainAttrs_list PySem.F.slot_list_extend PySem.F.type_list_extend mt_extend pe_any pa_any hbase hfew hline hs hplain) ?_
  have ev0 : ev Φ (.v i) env = some (.al i, env) := by simp only [ev, e0]
  refine hv env (.al i) env ev0 S σ H ok _ fun v S1 H1 P => ?_
  have hσ : σ[i]? = some (some v) := P.rv
  obtain ⟨p, g1, _, g2, _⟩ := P.ok.ow i _ _ e0
  rw [hσ] at g1
  cases g1
  obtain ⟨ws, g3, _⟩ := g2
  refine ⟨.inl ⟨rfl, ws, .inl g3⟩, anyA_of (pa_cons pe_any pa_nil hs) (he env _ en1 e1 S1 σ H1 P.ok _ fun u S2 H2 P2 => ?_)⟩
  obtain ⟨p', g1', g4, g5, g6⟩ := P2.ok.ow i _ _ e2
  rw [hσ] at g1'
  cases g1'
  obtain ⟨ws', g7, g8⟩ := g5
  have hl := mut_not_frz g7 (g6 hk)
  obtain ⟨pb, rfl, b1, b2, b3, ⟨us, b4, b5⟩, b6⟩ := P2.rv
  have hb := mut_not_frz b4 b6
  obtain ⟨m1, m2⟩ := P2.ok.mutate (d' := .list (zs ++ ys)) (o := .lst (ws' ++ us)) e2 hk hσ ⟨ws' ++ us, .inl upd_same, g8.append b5⟩ True.intro
  exact ⟨p, pb, ws', us, rfl, rfl, hl, hb, by rw [g8.length, b5.length, sizeLine_eq]; unfold lim at hc; omega, q _ _ _ ⟨(P.fw.trans P2.fw).trans m2, m1, Rep.non, fun _ _ z => by cases z⟩⟩
end
end DI

set_option maxRecDepth 100000
/-! DI20: dict comprehensions. -/
namespace DI
open PySem PySem.Spec PyProof.Rows L2
theorem dc_it {J : L2.It} {n : Nat} {G : Hp → Prop} {Y : Nat → Hp → V → Hp → Prop} (w : Walk J n G Y) {g : TG} {tt : TT} {tk tv : TE} {vs : List Nat} {σ : L2.St} {H1 : Hp} {D : Addr} {Qd : Hp → Prop} (Pv : Nat → Hp → Prop) (h0 : Pv 0 (upd H1 D (.dK []))) (hG : ∀ i H, i ≤ n → Pv i H → G H)
    (hs : ∀ i x H H', i < n → Pv i H → Y i H x H' → g x (wipe σ vs) H' fun σ2 H2 => wipe σ2 vs = wipe σ vs ∧ tt σ2 H2 fun b H3 =>
      if b = true then tk σ2 H3 fun y H4 => tv σ2 H4 fun z H5 => ∃ kvs k, y = kV k ∧ H5 D = some (.dK kvs) ∧ kvs.length < sizeLine ∧ Pv (i + 1) (upd H5 D (.dK (putK kvs k z))) else Pv (i + 1) H3) (hd : ∀ H, Pv n H → Qd H) :
    ∃ W : Nat → Nat → Hp → Prop, (∃ m, W 0 m (upd H1 D (.dK []))) ∧ ∀ i m H, W i m H →
      (J.stop i H ∧ Qd H) ∨ (J.go i H ∧ ∃ Nx : Hp → Prop, (∀ H', Nx H' → ∃ m', m' < m ∧ W (i + 1) m' H') ∧ ∀ x H', J.yld i H x H' → g x (wipe σ vs) H' fun σ2 H2 => wipe σ2 vs = wipe σ vs ∧ tt σ2 H2 fun b H3 =>
        if b = true then tk σ2 H3 fun y H4 => tv σ2 H4 fun z H5 => ∃ kvs k, y = kV k ∧ H5 D = some (.dK kvs) ∧ kvs.length < sizeLine ∧ Nx (upd H5 D (.dK (putK kvs k z))) else Nx H3) := by
  refine ⟨fun i m H => (m + i = n) ∧ Pv i H, ⟨n, Nat.add_zero n, h0⟩, fun i m H hw => ?_⟩
  obtain ⟨em, p⟩ := hw
  have gh := hG i H (by omega) p
  cases m with
  | zero =>
    have ei : i = n := by omega
    subst ei
    exact .inl ⟨w.stops H gh, hd H p⟩
  | succ m =>
    have lt : i < n := by omega
    exact .inr ⟨w.goes i H lt gh, Pv (i + 1), fun H' p' => ⟨m, by omega, by omega, p'⟩, fun x H' y => hs i x H H' lt p (w.yields i H x H' lt gh y)⟩
section
variable {Φ : Fns} {X : Cx} {a b c e tg iter elt kx : Expr} {xa xb xc x xe xt xk : Xp} {xs : Xps} {it : It} {pos p p2 : Pos} {ifs : List Expr}
def dcTurn (Φ : Fns) (vs : List Nat) (tg : Tg) (tt k e : Xp) : D → Env → Option (Option (D × D) × Env) := fun d en => match bindT tg d en with
  | some en1 => match ev Φ tt en1 with
    | some (rt, en2) => match (rt.val en2).bind truthD with
      | some true => match ev Φ k en2 with
        | some (rk, en3) => match ev Φ e en3 with
          | some (re, en4) => match rk.val en4, sto re en4 with
            | some key, some (y, en5) => if isKey key then some (some (key, y), wipeE en5 vs) else none
            | _, _ => none
          | none => none
        | none => none
      | some false => some (none, wipeE en2 vs)
      | none => none
    | none => none
  | none => none
theorem dcTurn_inv {vs : List Nat} {tg : Tg} {tt kk e : Xp} {d : D} {en en' : Env} {o : Option (D × D)} (h : dcTurn Φ vs tg tt kk e d en = some (o, en')) :
    ∃ en1 en2 k, bindT tg d en = some en1 ∧ tstX Φ tt en1 = some (k, en2) ∧ ((k = true ∧ ∃ rk en3 re en4 key y en5, ev Φ kk en2 = some (rk, en3) ∧ ev Φ e en3 = some (re, en4) ∧ rk.val en4 = some key ∧ sto re en4 = some (y, en5) ∧ isKey key = true ∧ o = some (key, y) ∧ en' = wipeE en5 vs) ∨ (k = false ∧ o = none ∧ en' = wipeE en2 vs)) := by
  unfold dcTurn at h
  cases e1 : bindT tg d en with
  | none => rw [e1] at h; cases h
  | some en1 =>
    rw [e1] at h
    dsimp only at h
    cases e2 : ev Φ tt en1 with
    | none => rw [e2] at h; cases h
    | some p2 =>
      obtain ⟨rt, en2⟩ := p2
      rw [e2] at h
      dsimp only at h
      cases e3 : (rt.val en2).bind truthD with
      | none => rw [e3] at h; cases h
      | some k =>
        rw [e3] at h
        have ts : tstX Φ tt en1 = some (k, en2) := by simp only [tstX, e2, e3]
        cases k with
        | false =>
          cases h
          exact ⟨en1, en2, false, rfl, ts, .inr ⟨rfl, rfl, rfl⟩⟩
        | true =>
          dsimp only at h
          cases e4 : ev Φ kk en2 with
          | none => rw [e4] at h; cases h
          | some p4 =>
            obtain ⟨rk, en3⟩ := p4
            rw [e4] at h
            dsimp only at h
            cases e5 : ev Φ e en3 with
            | none => rw [e5] at h; cases h
            | some p5 =>
              obtain ⟨re, en4⟩ := p5
              rw [e5] at h
              dsimp only at h
              cases e6 : rk.val en4 with
              | none => rw [e6] at h; cases h
              | some key =>
                cases e7 : sto re en4 with
                | none => rw [e6, e7] at h; cases h
                | some p7 =>
                  obtain ⟨y, en5⟩ := p7
                  rw [e6, e7] at h
                  dsimp only at h
                  split at h
                  · rename_i hk
                    cases h
                    exact ⟨en1, en2, true, rfl, ts, .inl ⟨rfl, rk, en3, re, en4, key, y, en5, e4, e5, e6, e7, hk, rfl, rfl⟩⟩
                  · cases h
theorem ev_dc_inv {vs : List Nat} {tg : Tg} {tt kk e : Xp} {env env' : Env} {r : R} (h : ev Φ (.dc vs it tg tt kk e) env = some (r, env')) :
    ∃ ls ds env1 ys en, evI Φ it env = some (ls, ds, env1) ∧ freeE env1 vs = true ∧ ds.length ≤ lim ∧ goD (dcTurn Φ vs tg tt kk e) ds [] (wipeE (lockE env1 ls) vs) = some (ys, en) ∧ r = .fr (.dict ys) ∧ env' = unlockE env1 (backE (lockE env1 ls) en vs) ls := by
  simp only [ev, dcRun] at h
  cases e1 : evI Φ it env with
  | none => rw [e1] at h; cases h
  | some p1 =>
    obtain ⟨ls, ds, env1⟩ := p1
    rw [e1] at h
    dsimp only at h
    split at h
    · rename_i hc
      rw [Bool.and_eq_true, decide_eq_true_iff] at hc
      change (match goD (dcTurn Φ vs tg tt kk e) ds [] (wipeE (lockE env1 ls) vs) with
        | some (ys, en) => some (R.fr (.dict ys), unlockE env1 (backE (lockE env1 ls) en vs) ls)
        | none => none) = some (r, env') at h
      cases e2 : goD (dcTurn Φ vs tg tt kk e) ds [] (wipeE (lockE env1 ls) vs) with
      | none => rw [e2] at h; cases h
      | some p2 =>
        obtain ⟨ys, en⟩ := p2
        rw [e2] at h
        cases h
        exact ⟨ls, ds, env1, ys, en, rfl, hc.1, hc.2, e2, rfl, rfl⟩
    · cases h
def putO (acc : List (D × D)) : Option (D × D) → List (D × D)
  | some (k, y) => putD acc k y
  | none => acc
theorem goD_cons {f : D → Env → Option (Option (D × D) × Env)} {d : D} {ds : List D} {acc : List (D × D)} {en en' : Env} {ys : List (D × D)} (h : goD f (d :: ds) acc en = some (ys, en')) : ∃ o en1, f d en = some (o, en1) ∧ goD f ds (putO acc o) en1 = some (ys, en') := by
  simp only [goD] at h
  cases e1 : f d en with
  | none => rw [e1] at h; cases h
  | some p1 =>
    obtain ⟨o, en1⟩ := p1
    rw [e1] at h
    cases o with
    | none => exact ⟨none, en1, rfl, h⟩
    | some q => exact ⟨some q, en1, rfl, h⟩
theorem putD_len (acc : List (D × D)) (k y : D) : (putD acc k y).length ≤ acc.length + 1 := by
  unfold putD
  split
  · rw [List.length_map]; omega
  · rw [List.length_append]; exact Nat.le_refl _
theorem dc_run {scope : Scope} {own : List (Str × Nat)} {tgE : Expr} {tg : Tg} (hi : SndI Φ X tgE iter it)
    (ht : Blk X scope fun X' => SndF Φ X' ifs xt) (hk : Blk X scope fun X' => Snd Φ X' kx xk) (he : Blk X scope fun X' => Snd Φ X' elt xe) (hv : ∀ i ∈ tg.ixs, i ∈ own.map (·.2)) {env env' : Env} {r : R} (h : ev Φ (.dc (own.map (·.2)) it tg xt xk xe) env = some (r, env')) {S : Addr → Prop} {σ : L2.St} {H : Hp} (okE : EnvOk X.K S σ H env) {Q : VK} (q : ∀ v S' H', Post X.K S H σ env r env' v S' H' → Q v H') :
    tDc (AnyI X tgE iter) (gOf X.K tg) (ttB X scope ifs) (teB X scope kx) (teB X scope elt) (own.map (·.2)) σ H Q := by
  obtain ⟨ls, ds, env1, ys, en, e1, free, hlen, e2, rfl, rfl⟩ := ev_dc_inv h
  refine hi env ls ds env1 e1 S σ H okE _ fun J S1 H1 f1 ok1 wd => ?_
  obtain ⟨G, Y, w, keep, yl⟩ := wd
  intro Dd hD
  have okW := (ok1.lock ls).wipe (own.map (·.2))
  have hDS : ¬ S1 Dd := fun z => ok1.dom Dd z hD
  refine dc_it w (fun i H' => ∃ (S' : Addr → Prop) (en' : Env) (vacc : List (Key × V)) (acc : List (D × D)), goD (dcTurn Φ (own.map (·.2)) tg xt xk xe) (ds.drop i) acc en' = some (ys, en) ∧ acc.length ≤ i ∧
      EnvOk X.K S' (L2.wipe σ (own.map (·.2))) H' en' ∧ Fw S1 H1 (L2.wipe σ (own.map (·.2))) (wipeE (lockE env1 ls) (own.map (·.2))) S' H' (L2.wipe σ (own.map (·.2))) en' ∧ S' Dd ∧ (∀ k, ¬ OwnsK k (L2.wipe σ (own.map (·.2))) en' Dd) ∧ H' Dd = some (.dK vacc) ∧ RepKV X.K (er S' H') vacc acc)
    ⟨_, _, [], [], by rw [List.drop_zero]; exact e2, Nat.le_refl _, okW.newS hD, Fw.newS hD, .inr rfl, fun k z => hDS (okW.owns z), upd_same, .nil⟩ (fun i H' _ hp => ?_) (fun i x Ha Hb hi' hp hy => ?_) (fun H' hp => ?_)
  · obtain ⟨S', en', vacc, acc, _, _, okI, fI, _⟩ := hp
    exact keep H' fun a o h1 h2 => fI.fr a o h1 fun z => h2 (ch_wipe z)
  · obtain ⟨S', en', vacc, acc, g1, g3, okI, fI, sD, nD, hl, hr⟩ := hp
    have hG : G Ha := keep Ha fun a o h1 h2 => fI.fr a o h1 fun z => h2 (ch_wipe z)
    obtain ⟨d, y1, y2, y3⟩ := yl i Ha x Hb hi' hG hy
    have hdrop : ds.drop i = d :: ds.drop (i + 1) := by
      obtain ⟨hlt, hd⟩ := List.getElem?_eq_some_iff.mp y1
      rw [List.drop_eq_getElem_cons hlt, hd]
    rw [hdrop] at g1
    obtain ⟨o, en1', t1, t2⟩ := goD_cons g1
    obtain ⟨en1, en2, k, b1, b2, b3⟩ := dcTurn_inv t1
    have le1 : Le (er S1 H1) (er S' Ha) := Fw.le okW fI
    have rx : Rep X.K (er S' Hb) x d := y3 S' le1 okI.dom
    have fb : Fw S' Ha (L2.wipe σ (own.map (·.2))) en' S' Hb (L2.wipe σ (own.map (·.2))) en' := by
      rcases y2 with rfl | ⟨T, ob, hT, rfl⟩
      · exact Fw.refl
      · exact Fw.new hT
    have okB : EnvOk X.K S' (L2.wipe σ (own.map (·.2))) Hb en' := by
      rcases y2 with rfl | ⟨T, ob, hT, rfl⟩
      · exact okI
      · exact okI.new hT
    refine bind_ok okB b1 rx fun σ2 ok2 f2 hw2 => ⟨by rw [hw2 _ hv]; exact (wipe_wipe σ _), ?_⟩
    have hσ2 : L2.wipe σ2 (own.map (·.2)) = L2.wipe σ (own.map (·.2)) := by rw [hw2 _ hv]; exact (wipe_wipe σ _)
    have fT := f2 _ _ _ _ fb
    have fL := f2 _ _ _ _ (fI.trans fb)
    have hDa : Ha Dd ≠ none := by rw [hl]; exact fun z => by cases z
    have nobody : ∀ {S3 : Addr → Prop} {H3 : Hp} {en3 : Env}, Fw S' Ha (L2.wipe σ (own.map (·.2))) en' S3 H3 σ2 en3 → (∀ k, ¬ OwnsK k σ2 en3 Dd) ∧ S3 Dd ∧ H3 Dd = some (.dK vacc) := fun {S3 H3 en3} F => by
      have nc : ¬ Ch (L2.wipe σ (own.map (·.2))) en' Dd := fun z => z.elim (nD _) (nD _)
      refine ⟨fun k z => ?_, F.kp Dd sD hDa (nD _), F.fr Dd _ hl nc⟩
      cases k with
      | own =>
        rcases F.own Dd z with z | z
        · exact nD _ z
        · exact hDa z
      | bor =>
        obtain ⟨i', d', z1, z2⟩ := z
        obtain ⟨d2, z3, z4⟩ := F.bo' i' d' z1
        exact nD .bor ⟨i', d2, z3, by rw [← z4]; exact z2⟩
      | lck =>
        obtain ⟨i', d', z1, z2⟩ := z
        obtain ⟨z3, z4⟩ := F.lk' i' d' z1
        exact nD .lck ⟨i', d', z3, by rw [← z4]; exact z2⟩
    intro s0 H00 C0 cl0 fp0
    refine (ht s0 H00 C0 cl0 fp0) en1 k en2 b2 S' σ2 Hb ok2 _ fun S3 H3 f3 ok3 => ?_
    have fT3 := fT.trans f3
    have fL3 := fL.trans f3
    rcases b3 with ⟨rfl, rk, en3, re, en4, key, y, en5, c0, c1, cv, c2, ck, rfl, rfl⟩ | ⟨rfl, rfl, rfl⟩
    · rw [if_pos rfl]
      intro s0 H00 C0 cl0 fp0
      refine (hk s0 H00 C0 cl0 fp0) en2 rk en3 c0 S3 σ2 H3 ok3 _ fun kv S4 H4 P4 => ?_
      intro s0 H00 C0 cl0 fp0
      refine (he s0 H00 C0 cl0 fp0) en3 re en4 c1 S4 σ2 H4 P4.ok _ fun v S5 H5 P5 => ?_
      have rvk := P4.rv.step P4.ok P5.fw
      obtain ⟨key', ekd, ekv⟩ := key_of (rvk.rep P5.ok cv) ck
      obtain ⟨S6, f6, ok6, r6⟩ := P5.sto c2
      have fT6 := (fT3.trans P4.fw).trans f6
      have fL6 := (fL3.trans P4.fw).trans f6
      obtain ⟨n6, s6, l6⟩ := nobody fT6
      have t3 : goD (dcTurn Φ (own.map (·.2)) tg xt xk xe) (ds.drop (i + 1)) (putD acc key y) (wipeE en5 (own.map (·.2))) = some (ys, en) := t2
      refine ⟨vacc, key', ekv, l6, by rw [hr.length, sizeLine_eq]; unfold lim at hlen; omega, S6, wipeE en5 (own.map (·.2)), putK vacc key' v, putD acc key y, t3, Nat.le_trans (putD_len _ _ _) (by omega), ?_, ?_, s6, fun k z => n6 k (ownsK_wipe (by rw [hσ2]; exact z)), upd_same, ?_⟩
      · rw [← hσ2]
        exact (ok6.temp s6 n6).wipe _
      · have F7 : Fw S1 H1 (L2.wipe σ (own.map (·.2))) (wipeE (lockE env1 ls) (own.map (·.2))) S6 (upd H5 Dd (.dK (putK vacc key' v))) σ2 en5 := by
          refine ⟨fL6.sub, fL6.kp, fun a o h1 h2 => ?_, fL6.own, fL6.bo, fL6.bo', fL6.lk, fL6.lk', fun a h => upd_dom (fL6.dm a h)⟩
          have na : a ≠ Dd := fun z => by rw [z, hD] at h1; cases h1
          rw [upd_ne na]
          exact fL6.fr a o h1 h2
        have W := Fw.wipe F7
        rw [hσ2] at W
        exact W
      · rw [er_upd s6, ekd]
        exact (hr.mono (Fw.le okI fT6)).put r6
    · rw [if_neg Bool.false_ne_true]
      obtain ⟨n3, s3, l3⟩ := nobody fT3
      have t3 : goD (dcTurn Φ (own.map (·.2)) tg xt xk xe) (ds.drop (i + 1)) acc (wipeE en2 (own.map (·.2))) = some (ys, en) := t2
      refine ⟨S3, wipeE en2 (own.map (·.2)), vacc, acc, t3, by omega, ?_, ?_, s3, fun k z => n3 k (ownsK_wipe (by rw [hσ2]; exact z)), l3, hr.mono (Fw.le okI fT3)⟩
      · rw [← hσ2]
        exact ok3.wipe _
      · have := Fw.wipe fL3
        rw [hσ2] at this
        exact this
  · obtain ⟨S', en', vacc, acc, g1, g3, okI, fI, sD, nD, hl, hr⟩ := hp
    rw [List.drop_length] at g1
    cases g1
    obtain ⟨z1, z2, z3⟩ := lc_end ok1 free fI okI
    have nn : ∀ k, ¬ OwnsK k σ (unlockE env1 (backE (lockE env1 ls) en (own.map (·.2))) ls) Dd := fun k z => by
      rcases z3 k Dd z with z | z
      · exact hDS (ok1.owns z)
      · exact nD k z
    refine q _ _ _ ⟨f1.trans z2, z1, ⟨Dd, rfl, sD, fun z => z.elim (nn _) (nn _), nn _, (.inl ⟨vacc, .inl hl, hr⟩), by rw [hl]; exact True.intro⟩, fun d p e1 e2 => ?_⟩
    cases e2
    exact none_back f1.dm hD
theorem snd_dc {scope : Scope} {own : List (Str × Nat)} {tgE : Expr} {tg : Tg} (hc : X.calm = true) (hN : X.N.Nodup) (hi : SndI Φ X tgE iter it) (ok : BlkOk X.N X.env.scope scope own)
    (hg : Blk X scope fun X' => PG X' tgE (gOf X.K tg)) (ht : Blk X scope fun X' => SndF Φ X' ifs xt) (hk : Blk X scope fun X' => Snd Φ X' kx xk) (he : Blk X scope fun X' => Snd Φ X' elt xe) (hv : ∀ i ∈ tg.ixs, i ∈ own.map (·.2)) (hs : ∀ x, foldedSetIterable iter X.env x = pure x := by intro _; rfl) :
    Snd Φ X (.DictComp kx elt [⟨tgE, iter, ifs, 0⟩] scope pos) (.dc (own.map (·.2)) it tg xt xk xe) := .mk fun env r env' h S σ H okE Q q =>
  any_of (pe_dc hc hN pi_any ok hg pt_B pe_B pe_B hs) (dc_run hi ht hk he hv h okE q)
end
end DI

set_option maxRecDepth 100000
/-! DI21: name = {k: e for ..}. -/
namespace DI
open PySem PySem.Spec PyProof.Rows L2
section
variable {Φ : Fns} {X : Cx} {a b c e tg iter elt kx vx : Expr} {xa xb xc x xe xt xk : Xp} {xs : Xps} {it : It} {pos p p2 spos py : Pos} {ifs : List Expr}
theorem ps_setDc {i : Nat} {y : Str} {scope : Scope} {own : List (Str × Nat)} {wi : L2.TI} {g : TG} {tt : TT} {tk tv : TE} (hc : X.calm = true) (hN : X.N.Nodup) (hy : X.N[i]? = some y) (hyl : X.env.scope.names.lookup y = some .local)
    (hsw : swapsWith (.DictComp kx vx [⟨tg, iter, ifs, 0⟩] scope pos) (some (.Name y py)) spos.line X.env = pure true) (hi : PI X tg iter wi) (ok : BlkOk X.N X.env.scope scope own)
    (hg : Blk X scope fun X' => PG X' tg g) (ht : Blk X scope fun X' => PTs X' ifs tt) (hk : Blk X scope fun X' => PE X' kx tk) (he : Blk X scope fun X' => PE X' vx tv) (hs : ∀ x, foldedSetIterable iter X.env x = pure x := by intro _; rfl) :
    PS X (.Assign [.Name y py] (.DictComp kx vx [⟨tg, iter, ifs, 0⟩] scope pos) spos) (tAsg (tDc wi g tt tk tv (own.map (·.2))) (gName i)) := ⟨fun pins s σ H D I hw => by
  rw [exec_Assign_Name_used _ _ _ _ hsw]
  refine wpAny_bind (wpAny_standAt (wpAny_bind ?_))
  show wpAny _ X.A (do let _ ← comprehension (.DictComp kx vx [⟨tg, iter, ifs, 0⟩] scope pos) scope X.env (firstIterPos [⟨tg, iter, ifs, 0⟩] pos) newDict false (eval iter X.env) (some (assign (.Name y py) X.env))) _ _ s
  have hw' : tDc wi g tt tk tv (own.map (·.2)) σ H (fun v H1 => gName i v σ H1 D.nx) := hw
  refine wpAny_bind (thn (dc_core (Qf := fun _ s' => SP X pins D .next s') hc hN I hi ok hg ht hk he hs hw' fun L C s' m H' I' q hn f => ?_) fun _ s' hq => wpAny_pure (wpAny_pure hq))
  show wpAny _ _ (assign (.Name y py) X.env (.ref L)) _ _ _
  refine wpAny_assign_Name (store_ok2 (v := V.ref L) I' hN hy (.inl hyl) rfl (fun s2 I2 ⟨b, same, hb⟩ => ?_) (.inr hyl))
  obtain ⟨f0, f1, f2, f3, f4, f5⟩ := f
  have ne : C ≠ b := by
    rcases hb with z | z
    · exact fun w => f1 (w.trans z)
    · exact fun w => f4 y b z w.symm
  exact ⟨m, hn.sameBut same ne, fun h3 sb3 => ⟨_, H', I2.turned (t' := s2.toks) (fun b o hb e => (sb3.2 b hb).trans e) f0 f1 f3 f4 f5, q⟩⟩⟩
theorem snd_setDc {i : Nat} {y : Str} {scope : Scope} {own : List (Str × Nat)} {tgE : Expr} {tg : Tg} (hc : X.calm = true) (hN : X.N.Nodup) (hy : X.N[i]? = some y) (hyl : X.env.scope.names.lookup y = some .local)
    (hsw : swapsWith (.DictComp kx elt [⟨tgE, iter, ifs, 0⟩] scope pos) (some (.Name y py)) spos.line X.env = pure true) (hi : SndI Φ X tgE iter it) (ok : BlkOk X.N X.env.scope scope own)
    (hg : Blk X scope fun X' => PG X' tgE (gOf X.K tg)) (ht : Blk X scope fun X' => SndF Φ X' ifs xt) (hk : Blk X scope fun X' => Snd Φ X' kx xk) (he : Blk X scope fun X' => Snd Φ X' elt xe) (hv : ∀ i ∈ tg.ixs, i ∈ own.map (·.2)) (hs : ∀ x, foldedSetIterable iter X.env x = pure x := by intro _; rfl) :
    SndSt Φ X (.Assign [.Name y py] (.DictComp kx elt [⟨tgE, iter, ifs, 0⟩] scope pos) spos) (.set i (.dc (own.map (·.2)) it tg xt xk xe)) := .mk fun env o h S σ H okE D W tk q => by
  rcases set_inv h with ⟨r, en1, s, en2, en3, e1, e2, e3, rfl⟩ | ⟨_, _, e2, _⟩
  case inr => cases e2
  refine anyS_of (ps_setDc hc hN hy hyl hsw pi_any ok hg pt_B pe_B pe_B hs) (dc_run hi ht hk he hv e1 okE fun v S1 H1 P => ?_)
  obtain ⟨S2, f2, ok2, sl⟩ := slot_ok P e2
  obtain ⟨ok3, f3⟩ := set_ok f2 ok2 e3 sl
  exact q _ S2 H1 f3 ok3
theorem sw_dict {gs : List Comprehension} {scope : Scope} {y : Str} {l : Nat} {env : PySem.Env} (hk : env.scope.kind = .function) (hy : env.scope.names.lookup y = some .local) (hl : (py.line == pos.line) = true)
    (ha : (scope.names.any fun (n, k) => n == y && (k == .local || k == .cell)) = false) : swapsWith (.DictComp kx vx gs scope pos) (some (.Name y py)) l env = pure true := by
  have k1 : env.kindOf y = some .local := hy
  have k2 : env.blockKind = .function := by unfold Env.blockKind; rw [hk]; rfl
  unfold swapsWith
  simp only [k2, k1, ha, Expr.pos, hl]
  rfl
end
end DI

set_option maxRecDepth 100000
/-! DI22: name op= e. -/
namespace DI
open PySem PySem.Spec PyProof.Rows L2
def AugD (X : Cx) (op : Operator) : Prop := ∀ dx dy z, augD op dx dy = some z → ∀ (pins : List (Addr × Obj)) (s : Shared) (σ : L2.St) (H F G : Hp) (x y : V) (v u : Value) (Q : VK),
  Inv X pins σ H s → RelV x v → RelV y u → Rep X.K F x dx → Rep X.K G y dy → (∀ w, (∀ F', Rep X.K F' w z) → Q w H) → wpAny (model X.prog X.w) X.A (inplaceOp op v u) (EP X pins σ Q) X.xe s
section
variable {Φ : Fns} {X : Cx} {a b c e : Expr} {xa xb xc x xe xt xk : Xp} {pos p p2 : Pos}
theorem aug_add : AugD X .Add := by
  intro dx dy z h pins s σ H F G x y v u Q I rx ry hx hy q
  cases dx <;> cases dy <;> first | cases h | skip
  · cases hx
    cases hy
    exact augR iop_add I rx ry ⟨_, _, rfl, rfl, q _ fun _ => .int _⟩
  · simp only [augD] at h
    split at h
    · rename_i hc
      cases h
      cases hx
      cases hy
      exact augR iop_add_str I rx ry ⟨_, _, rfl, rfl, by rw [sizeLine_eq]; unfold lim at hc; omega, q _ fun _ => .str _⟩
    · cases h
theorem aug_sub : AugD X .Sub := by
  intro dx dy z h pins s σ H F G x y v u Q I rx ry hx hy q
  cases dx <;> cases dy <;> first | cases h | skip
  cases hx
  cases hy
  exact augR iop_sub I rx ry ⟨_, _, rfl, rfl, q _ fun _ => .int _⟩
theorem aug_mul : AugD X .Mult := by
  intro dx dy z h pins s σ H F G x y v u Q I rx ry hx hy q
  cases dx <;> cases dy <;> first | cases h | skip
  simp only [augD] at h
  split at h
  · rename_i hc
    cases h
    cases hx
    cases hy
    rw [Bool.or_eq_true, small64_iff, small64_iff] at hc
    exact augR iop_mul I rx ry ⟨_, _, rfl, rfl, hc, q _ fun _ => .int _⟩
  · cases h
theorem aug_mod : AugD X .Mod := by
  intro dx dy z h pins s σ H F G x y v u Q I rx ry hx hy q
  cases dx <;> cases dy <;> first | cases h | skip
  simp only [augD] at h
  split at h
  · rename_i hc
    cases h
    cases hx
    cases hy
    exact augR iop_mod I rx ry ⟨_, _, rfl, rfl, hc, q _ fun _ => .int _⟩
  · cases h
theorem aug_fdiv : AugD X .FloorDiv := by
  intro dx dy z h pins s σ H F G x y v u Q I rx ry hx hy q
  cases dx <;> cases dy <;> first | cases h | skip
  simp only [augD] at h
  split at h
  · rename_i hc
    cases h
    cases hx
    cases hy
    rw [Bool.and_eq_true] at hc
    exact augR iop_fdiv I rx ry ⟨_, _, rfl, rfl, ⟨of_decide_eq_true hc.1, of_decide_eq_true hc.2⟩, q _ fun _ => .int _⟩
  · cases h
def anyIp (X : Cx) (op : Operator) : TIp := fun x y H Q => ∀ (pins : List (Addr × Obj)) (s : Shared) (σ : L2.St) (v u : Value), Inv X pins σ H s → RelV x v → RelV y u → wpAny (model X.prog X.w) X.A (inplaceOp op v u) (EP X pins σ Q) X.xe s
theorem pip_any {op : Operator} : PIp X op (anyIp X op) := fun pins s σ H x y v u Q I rx ry h => h pins s σ v u I rx ry
theorem snd_aug {i : Nat} {y : Str} {op : Operator} {pos' : Pos} (hop : AugD X op) (hN : X.N.Nodup) (hi : X.N[i]? = some y) (hx : Loc X.env.scope y) (he : Snd Φ X e xe) (hf : X.fn y = true ∨ X.env.scope.names.lookup y = some .local := by first | exact .inl rfl | exact .inr rfl | assumption) :
    SndSt Φ X (.AugAssign (.Name y pos') op e pos) (.aug i op xe) := .mk fun env o h S σ H ok D W tk q => by
  simp only [exec] at h
  cases e0 : env[i]? with
  | none => rw [e0] at h; cases h
  | some sl =>
    rw [e0] at h
    cases sl with
    | un => cases h
    | im da =>
      dsimp only at h
      obtain ⟨w, hw, rw0⟩ := ok.im i da e0
      cases e1 : ev Φ xe env with
      | none => rw [e1] at h; cases h
      | some p1 =>
        obtain ⟨r, en1⟩ := p1
        rw [e1] at h
        dsimp only at h
        cases e2 : r.val en1 with
        | none => rw [e2] at h; cases h
        | some db =>
          rw [e2] at h
          dsimp only at h
          cases e3 : augD op da db with
          | none => rw [e3] at h; cases h
          | some z =>
            rw [e3] at h
            dsimp only at h
            cases e4 : setSl en1 i (.im z) with
            | none => rw [e4] at h; cases h
            | some en2 =>
              rw [e4] at h
              cases h
              refine anyS_of (ps_aug hN hi hx pe_any pip_any hf) ⟨w, hw, he env r en1 e1 S σ H ok _ fun v S1 H1 P => fun pins s σ' v1 u1 I rx ry => ?_⟩
              refine hop da db z e3 pins s σ' H1 _ _ w v v1 u1 _ I rx ry rw0 (P.rv.rep P.ok e2) fun z' hz => ?_
              obtain ⟨ok3, f3⟩ := set_ok (s := .im z) P.fw P.ok e4 (hz _)
              exact q _ S1 H1 f3 ok3
    | ow k0 d0 =>
      cases d0 <;> first | cases h | skip
      rename_i xs0
      dsimp only at h
      cases e1 : ev Φ xe env with
      | none => rw [e1] at h; cases h
      | some p1 =>
        obtain ⟨r, en1⟩ := p1
        rw [e1] at h
        cases r with
        | im d => cases h
        | al j => cases h
        | fr d =>
          cases d <;> first | cases h | skip
          rename_i ys
          dsimp only at h
          cases e2 : en1[i]? with
          | none => rw [e2] at h; cases h
          | some s1 =>
            rw [e2] at h
            cases s1 with
            | un => cases h
            | im d => cases h
            | ow k d1 =>
              cases d1 <;> first | cases h | skip
              rename_i zs
              dsimp only at h
              by_cases hk : k = .lck
              · rw [if_pos hk] at h; cases h
              · rw [if_neg hk] at h
                by_cases ho : op = .Add
                · rw [if_pos ho] at h
                  subst ho
                  split at h
                  · rename_i hc
                    cases h
                    obtain ⟨p, g1, _⟩ := ok.ow i _ _ e0
                    refine anyS_of (ps_aug hN hi hx pe_any pip_any hf) ⟨.ref p, g1, he env _ en1 e1 S σ H ok _ fun v S1 H1 P => fun pins s σ' v1 u1 I rx ry => ?_⟩
                    obtain ⟨p', g1', g4, g5, g6⟩ := P.ok.ow i _ _ e2
                    rw [g1] at g1'
                    cases g1'
                    obtain ⟨ws', g7, g8⟩ := g5
                    have hl := mut_not_frz g7 (g6 hk)
                    obtain ⟨pb, rfl, b1, b2, b3, ⟨us, b4, b5⟩, b6⟩ := P.rv
                    have hb := mut_not_frz b4 b6
                    obtain ⟨m1, m2⟩ := P.ok.mutate (d' := .list (zs ++ ys)) (o := .lst (ws' ++ us)) e2 hk g1 ⟨ws' ++ us, .inl upd_same, g8.append b5⟩ True.intro
                    refine augR iop_ext I rx ry ⟨p, pb, ws', us, rfl, rfl, hl, hb, by rw [g8.length, b5.length, sizeLine_eq]; unfold lim at hc; omega, ?_⟩
                    have es : σ.set i (some (.ref p)) = σ := by
                      refine List.ext_getElem? fun j => ?_
                      by_cases ej : i = j
                      · subst ej
                        rw [List.getElem?_set_self (List.getElem?_eq_some_iff.mp g1).1]
                        exact g1.symm
                      · rw [List.getElem?_set_ne ej]
                    show D.nx (σ.set i (some (.ref p))) _
                    rw [es]
                    exact q _ _ _ (P.fw.trans m2) m1
                  · cases h
                · rw [if_neg ho] at h; cases h
end
end DI

set_option maxRecDepth 100000
/-! DI23: str(an int), list(range(n)). -/
namespace DI
open PySem PySem.Spec PyProof.Rows L2
section
variable {Φ : Fns} {X : Cx} {a b c e : Expr} {xa xb xc x xe xt xk : Xp} {pos p p2 pos2 : Pos}
theorem log_small {i : Int} (h : small64 i = true) : i.natAbs.log2 < 1920 := by
  rw [small64_iff] at h
  by_cases z : i.natAbs = 0
  · rw [z]; decide
  · have : i.natAbs < 2 ^ 64 := by omega
    have := (Nat.log2_lt z).mpr this
    omega
theorem cal_str : CalD X (.type "str") (biD .str) := by
  intro ds r h pins s σ1 σ H S env vs us Q I rv ok hr q
  match ds, h with
  | [.int i], h =>
    simp only [biD] at h
    split at h
    · rename_i hc
      cases h
      obtain ⟨v, rfl, hv⟩ := one_of hr
      have ev : v = .int i := Rep.int_inv hv
      subst ev
      exact call_str_int pins s σ1 H _ us Q I rv ⟨i, rfl, log_small hc, q _ _ _ (Post.leaf (F := H) ok (.str _) rfl)⟩
    · cases h
  | [.str x], h =>
    cases h
    obtain ⟨v, rfl, hv⟩ := one_of hr
    have ev : v = .str x := Rep.str_inv hv
    subst ev
    exact SkE.call_str_str pins s σ1 H _ us Q I rv ⟨x, rfl, q _ _ _ (Post.leaf (F := H) ok (.str _) rfl)⟩
theorem reps_rg {K : PySem.W.Frag} {F : Hp} : ∀ (n : Nat) (lo : Int), Reps K F ((List.range n).map fun i => V.int (lo + (i : Nat))) (rangeL lo n)
  | 0, lo => .nil
  | n + 1, lo => by
    rw [List.range_succ_eq_map, List.map_cons, List.map_map]
    have ih := reps_rg (K := K) (F := F) n (lo + 1)
    have e : ((fun i : Nat => V.int (lo + (i : Nat))) ∘ Nat.succ) = fun i : Nat => V.int (lo + 1 + (i : Nat)) := by
      funext i
      show V.int (lo + ((i + 1 : Nat) : Int)) = V.int (lo + 1 + i)
      congr 1
      omega
    rw [e]
    have z : lo + ((0 : Nat) : Int) = lo := by omega
    rw [z]
    exact .cons (.int lo) ih
theorem snd_rng (hcalm : X.calm = true) (hg : Gl X "list") (hm : X.mg "list" = none) (hg2 : Gl X "range") (hm2 : X.mg "range" = none) (ha : Snd Φ X a xa) (na : starEach [.Call (.Name "range" p2) [a] [] pos2] X.env = (false, eval (.Call (.Name "range" p2) [a] [] pos2) X.env) :: starEach [] X.env := by exact star_cons rfl)
    (nb : starEach [a] X.env = (false, eval a X.env) :: starEach [] X.env := by exact star_cons rfl) : Snd Φ X (.Call (.Name "list" p) [.Call (.Name "range" p2) [a] [] pos2] [] pos) (.bi .rng (.cons xa .nil)) := .mk fun env r env' h S σ H ok Q q => by
  obtain ⟨rs, ds, e1, e2, e3⟩ := ev_bi_inv h
  simp only [evR] at e1
  cases g1 : ev Φ xa env with
  | none => rw [g1] at e1; cases e1
  | some p1 =>
    obtain ⟨r1, en1⟩ := p1
    rw [g1] at e1
    cases e1
    simp only [valsR] at e2
    cases g2 : r1.val env' with
    | none => rw [g2] at e2; cases e2
    | some d =>
      rw [g2] at e2
      cases e2
      cases d <;> first | cases e3 | skip
      rename_i j
      simp only [biD] at e3
      split at e3
      · rename_i hc
        cases e3
        rw [Bool.and_eq_true, decide_eq_true_iff] at hc
        obtain ⟨c1, c2⟩ := in62_iff.mp hc.1
        refine any_of (pe_listRg hcalm hg hm (prg_1 hg2 hm2 pe_any nb) na) (ha env r1 _ g1 S σ H ok _ fun v S1 H1 P => ?_)
        refine ⟨j, Rep.int_inv (P.rv.rep P.ok g2), ⟨by omega, by omega, c1, c2, by omega⟩, fun p hp => ?_⟩
        have er : rgV 0 j = (List.range j.toNat).map fun i => V.int (0 + (i : Nat)) := by
          unfold rgV
          rw [Int.sub_zero]
        rw [er]
        exact q _ _ _ ((Post.lst P.ok hp (reps_rg j.toNat 0)).after P.fw)
      · cases e3
end
end DI

set_option maxRecDepth 100000
set_option maxHeartbeats 2000000
/-! DX1: an own error whose __init__ says super().__init__(f); self.f = f, made. -/
namespace PySem
namespace DX
open PySem.W PySem.Calls PyProof.Rows PySem.HandSPX Builtin Builtin.ObjectAttr
/-! ### the text of __init__ -/
def iA (f : Str) (p1 p2 : Pos) : Arguments := { posonlyargs := [], args := [{ arg := "self", annotation := none, pos := p1 }, { arg := f, annotation := none, pos := p2 }], vararg := none, kwonlyargs := [], kw_defaults := [], kwarg := none, defaults := [] }
def iB (f : Str) (q1 q2 q3 q4 q5 q6 r1 r2 r3 r4 : Pos) : List Stmt :=
  [.Expr (.Call (.Attribute (.Call (.Name "super" q1) [] [] q2) "__init__" q3) [.Name f q4] [] q5) q6, .Assign [.Attribute (.Name "self" r1) f r2] (.Name f r3) r4]
def iS (f : Str) : Scope := { kind := .function, names := [(PySem.Str.ofString "self", .local), (f, .local), (PySem.Str.ofString "__class__", .free), (PySem.Str.ofString "super", .globalImplicit)], isGenerator := false, isCoroutine := false, more := [] }
/-- what a base is -/
structure BaseX (B i newId : String) (bmB : List Value) : Prop where
  fb : ExcBaseFacts B newId i bmB
  kx : KxsFacts B i
  st : StoreFacts B bmB "object.__setattr__" "object"
  ob : bmB.contains (.type "object") = true
  ini : ∀ K : Frag, alongIn K "__init__" bmB = some (some (.builtin i))
theorem base_VE : BaseX "ValueError" "ValueError.__init__" "ValueError.__new__" [.type "ValueError", .type "Exception", .type "BaseException", .type "object"] :=
  ⟨F.excBase_ValueError, kxs_ValueError, F.store_ValueError, by decide +kernel, fun K => by kernel_rfl⟩
theorem base_LE : BaseX "LookupError" "LookupError.__init__" "LookupError.__new__" [.type "LookupError", .type "Exception", .type "BaseException", .type "object"] :=
  ⟨F.excBase_LookupError, kxs_LookupError, F.store_LookupError, by decide +kernel, fun K => by kernel_rfl⟩
/-- what the written part says of the class at C, of its __init__, at fI -/
structure ECls (P : Program) (K : Frag) (f : Str) (B i newId : String) (bmB : List Value) (C fI : Addr) : Prop where
  bx : BaseX B i newId bmB
  cls : ∃ nm q N bs sn sub ab col dd k0 k1 k2 k3 k5, K.lookup C = some (excClassObj nm q C N bs bmB true sn sub ab col dd k0 k1 k2 k3 k5 newId)
  sa : findIn K (.ref C) "__setattr__" = some (some (.builtin "object.__setattr__"))
  noN : findIn K (.ref C) f = some none
  iC : findIn K (.ref C) "__init__" = some (some (.ref fI))
  tC : typeIn K (.ref fI) = some (.type "function")
  mB : subIn K (.ref C) (.type B) = some true
  mC : mroIn K C (.ref C) = some true
  opq : nsIn K cStatics "thirdparty.any" = some none
  sup : nsIn K mainGlobals "super" = some none
  top : (P.main.scope.names.lookup ("super" : Str)).isSome = false
  fn : ∃ (oc : Value) (od : Option Addr) (doc pm : Value) (an : Option Addr) (ct : Value) (osl : Array (Option Value)) (cda cc : Addr) (ccl cl : Value) (cdd cld : Option Addr) (ccs csl : Array (Option Value)) (vs : Array Value) (qual : Str)
    (p1 p2 q1 q2 q3 q4 q5 q6 r1 r2 r3 r4 : Pos), K.lookup fI = some ⟨oc, od, .func (fnX "__init__" qual (iA f p1 p2) (iB f q1 q2 q3 q4 q5 q6 r1 r2 r3 r4) (iS f) [("__class__", cc)] .none .none doc pm an (.ref cda) ct), osl⟩ ∧ codeIn K (.ref cda) qual = true ∧
      (q3.endLine == q5.line) = true ∧ K.lookup cc = some ⟨cl, cld, .cell (some (.ref C)), csl⟩ ∧ K.lookup cda = some ⟨ccl, cdd, .fields vs, ccs⟩ ∧ ∃ file tf, vs[2]? = some (.str file tf) ∧ ((P.main.file : Str) == file) = true
/-! ### self.f = v on a new exception -/
section
variable {prog : Program} {w : World} {A : Around} {E : Value → Shared → Prop} {R : Result → Shared → Prop} {hp : Heap} {g : Array GenState} {d : Drawn} {t : Nat} {os : OsState}
theorem mro_hasB {K : Frag} {C : Addr} {cd : ClassData} {bmB : List Value} (hcd : clsIn K C = some cd) (hm : cd.mro = .ref C :: bmB) {b : Value} (hb : bmB.contains b = true) : mroIn K C b = some true := by
  unfold mroIn
  rw [hcd, Option.bind_some, hm, if_neg (show ¬ (List.isEmpty (Value.ref C :: bmB) = true) from Bool.false_ne_true), List.contains_cons, hb, Bool.or_true]
theorem osa_excB {K : Frag} {name : Str} {tk : Tok} {v : Value} {x C : Addr} {ox : Obj} {od : Option Obj} {cd : ClassData} {B : String} {bmB : List Value} (SB : StoreFacts B bmB "object.__setattr__" "object") (hob : bmB.contains (.type "object") = true)
    (X : K.In hp) (I : InstAt hp x ox C od) (hcd : clsIn K C = some cd) (hm : cd.mro = .ref C :: bmB) (ha : findIn K (.ref C) name = some none)
    (hq : wpAny (model prog w) A.in1 (storeInOwnDict (.ref x) (.ref C) (.str name tk) name v false)
      (fun fin s' => match fin with | .done f => R (.ok f) s' | .again c' => c'.quiet = true ∧ codeAny (model prog w) A c' R s') (fun e s' => R (.error e) s') ⟨hp, g, d, t, os⟩) :
    codeAny (model prog w) A (.call (.builtin "object.__setattr__") ⟨[.ref x, .str name tk, v], []⟩) R ⟨hp, g, d, t, os⟩ := by
  have SF := F.store_object
  have sub : Looks (model prog w) hp (isInstance (.ref x) (.type "object")) true := I.type.andThen (looks_mroIn X (mro_hasB hcd hm hob))
  refine codeAny_call_builtin SF.slot.plain SF.entry (@W.check_slot (model prog w) _ _ ⟨hp, g, d, t, os⟩ "object.__setattr__" "object" "__setattr__" (.ref x) [.str name tk, v] [] _ SF.kind SF.split sub (SF.args (.ref x) (.str name tk) v) ?_)
  have hmr : Looks (model prog w) hp (mroOf (.ref C)) cd.mro := (looks_clsIn X hcd).andThen .now
  have L3 : Looks (model prog w) hp (storeTaker? none) none := .now
  have hpass : refuseLoop (.ref x) "__setattr__" cd.mro = pure () := by
    rw [hm, refuseLoop_ref]
    exact SB.passes _
  rw [osa_eq, refuse_eq]
  refine wpAny_bind (wpAny_bind (I.type.at (wpAny_bind (hmr.at ?_))))
  rw [hpass]
  refine wpAny_pure (wpAny_bind (I.type.at (wpAny_bind ((looks_findIn X ha).at (wpAny_bind (L3.at ?_))))))
  exact hq
theorem osa_newB {K : Frag} {name : Str} {tk : Tok} {v : Value} {x C : Addr} {fv : Array Value} {cd : ClassData} {B : String} {bmB : List Value} (SB : StoreFacts B bmB "object.__setattr__" "object") (hob : bmB.contains (.type "object") = true)
    (X : K.In hp) (hx : hp.get? x = some { cls := .ref C, data := .fields fv }) (hcd : clsIn K C = some cd) (hm : cd.mro = .ref C :: bmB) (hh : cd.hasDict = true) (ha : findIn K (.ref C) name = some none)
    (hq : ∀ h' tk' dx, (∀ b o, b ≠ x → hp.get? b = some o → h'.get? b = some o) → hp.objs.size ≤ dx → dx ≠ x → h'.get? x = some { cls := .ref C, dict := some dx, data := .fields fv } →
      h'.Ns1 dx (fun y => if y = name then some v else none) → R (.ok (.ret .none)) ⟨h', g, d, tk', os⟩) :
    codeAny (model prog w) A (.call (.builtin "object.__setattr__") ⟨[.ref x, .str name tk, v], []⟩) R ⟨hp, g, d, t, os⟩ := by
  have I : InstAt hp x { cls := .ref C, data := .fields fv } C none := ⟨hx, rfl, rfl, trivial⟩
  have hxs : x ≠ hp.objs.size := Nat.ne_of_lt (Heap.lt_size hx)
  refine osa_excB SB hob X I hcd hm ha ?_
  have hcls : Looks (model prog w) hp (classData C) cd := looks_clsIn X hcd
  obtain ⟨nm, bs, mro, ns, qn, hd, sn, sb, ab, col, del⟩ := cd
  dsimp only at hh
  subst hh
  unfold storeInOwnDict ownDictForStores
  repeat (first | with_reducible refine HandSPX.store_in_new ?_ ?_ | with_reducible refine wpAny_loadPart_at hx ?_ | with_reducible refine hcls.at ?_ | wp_step)
  · exact ⟨_, #[], _, (Heap.get?_update_ne _ _ _ _ hxs.symm).trans (Heap.get?_push_at rfl rfl), rfl, fun e he => absurd he (by simp), fun _ => rfl⟩
  · intro h' tk' hn' hs
    have hx₁ : (hp.push { cls := .type "dict", data := .dict #[] }).get? x = some { cls := .ref C, data := .fields fv } := Heap.get?_push_of_some _ hx
    refine hq h' tk' hp.objs.size (fun b o hb ho => ?_) (Nat.le_refl _) hxs.symm ?_ hn'
    · exact (hs.2 b (Nat.ne_of_lt (Heap.lt_size ho))).trans ((Heap.get?_update_ne _ _ _ _ hb).trans (Heap.get?_push_of_some _ ho))
    · exact (hs.2 x hxs).trans (Heap.get?_update_self _ hx₁ rfl)
/-- super().__init__(..), the wrapper called -/
theorem call_bwB {B i newId : String} {bmB : List Value} {nm q : Str} {C N : Addr} {bs : List Value} {hdct : Bool} {sn : List Str} {sub : List Value} {ab : Bool} {col : Option Bool} {dd : Option Addr} {k0 k1 k2 k3 k5 : Option Value} (FB : ExcBaseFacts B newId i bmB)
    {u e t0 : Addr} {rest : List Value} {Q : Value → Shared → Prop} (hC : hp.get? C = some (excClassObj nm q C N bs bmB hdct sn sub ab col dd k0 k1 k2 k3 k5 newId)) (he : hp.get? e = some (HandSPX.excO C t0)) (hu : hp.get? u = some (kxs_mw i e)) (hrest : rest.length ≤ sizeLine)
    (hq : ∀ h' t1, (∀ b o, b ≠ e → hp.get? b = some o → h'.get? b = some o) → h'.get? e = some (HandSPX.excO C t1) → Q .none ⟨h', g, d, t, os⟩) :
    wpAny (model prog w) A (call (.ref u) rest) Q E ⟨hp, g, d, t, os⟩ := by
  refine wpAny_call (codeAny_of_tree ?_)
  show wpAny _ A.in1 (callAny (.ref u) ⟨rest, []⟩) _ _ _
  simp only [callAny]
  refine wpAny_bind (wpAny_load hu ?_)
  simp only [kxs_mw, show (Value.type "method-wrapper" == Value.type "method" || Value.type "method-wrapper" == Value.type "builtin_function_or_method" || Value.type "method-wrapper" == Value.type "method-wrapper") = true by decide, if_true]
  refine KFB.if_so (by decide) ?_
  refine wpAny_bind (check_bound_init FB.toExcCallFacts hC he rfl ?_)
  refine wpAny_bind (wpAny_pure (wpAny_pure ?_))
  refine ⟨plainId_quiet FB.init.plain _, codeAny_builtin FB.initEntry ?_⟩
  rw [Around.under_plainId FB.init.plain _]
  exact exc_init_tree (cls := .ref C) (t0 := t0) (dv := none) (c2 := .none) (c3 := .none) (b4 := .bool false) he hrest fun h' k1 k2 _ => hq h' _ k1 k2
end
/-- what __init__ leaves of a fresh exception at x -/
structure InitEnd (h h' : Heap) (x C dx t1 : Addr) (f : Str) (v : Value) : Prop where
  keep : ∀ b o, b ≠ x → h.get? b = some o → h'.get? b = some o
  obj : h'.get? x = some { cls := .ref C, dict := some dx, data := .fields #[.ref t1, .none, .none, .none, .bool false, .none] }
  dbig : h.objs.size ≤ dx
  dne : dx ≠ x
  ns : h'.Ns1 dx (fun y => if y = f then some v else none)
/-- a made one -/
structure OwnMade (h h' : Heap) (e C d : Addr) (f : Str) (v : Value) : Prop where
  keep : ∀ b o, h.get? b = some o → h'.get? b = some o
  new : h.objs.size ≤ e
  obj : ∃ oe vs, h'.get? e = some oe ∧ oe.cls = .ref C ∧ oe.dict = some d ∧ oe.data = .fields vs ∧ vs[1]? = some .none
  dbig : h.objs.size ≤ d
  dne : d ≠ e
  ns : h'.Ns1 d (fun y => if y = f then some v else none)
theorem one_size (v : Value) : [v].length ≤ sizeLine := by
  rw [sizeLine_eq]
  exact (by decide : 1 ≤ 16777216)
end DX
end PySem

set_option maxRecDepth 100000
set_option maxHeartbeats 2000000
/-! DX2: .. its __init__ walked. -/
namespace PySem
namespace DX
open PySem.W PySem.Calls PyProof.Rows PySem.HandSPX Builtin Builtin.ObjectAttr
section
variable {prog : Program} {w : World} {A : Around} {E : Value → Shared → Prop} {R : Result → Shared → Prop} {s : Shared} {K : Frag} {mg : Str → Option Value} {f : Str} {B i newId : String} {bmB : List Value} {C fI : Addr}
/-- the names of a function's frame -/
theorem ldF {M : Model} {env : Env} {m : Str → Option Value} {x : Str} {pos : Pos} {v : Value} {Q : Value → Shared → Prop} (hn : s.heap.Ns env.locals m) (hv : m x = some v) (h : Q v s)
    (hk : env.scope.kind = .function := by rfl) (hl : env.kindOf x = some .local := by rfl) (hd : (x == ("__debug__" : Str)) = false := by decide) : wpAny M A (eval (.Name x pos) env) Q E s := wpAny_Name (wpAny_loadName_local hk hl hn hv h) hd
theorem kept_but {h h' : Heap} {x : Addr} (X : K.In h) (hx : K.lookup x = none) (k : ∀ b o, b ≠ x → h.get? b = some o → h'.get? b = some o) : K.In h' := fun a o e =>
  k a o (fun z => by rw [z, hx] at e; cases e) (X a o e)
theorem mc_eq {q1 q2 q3 q4 q5 : Pos} {env : Env} (hl : (q3.endLine == q5.line) = true) :
    eval (.Call (.Attribute (.Call (.Name "super" q1) [] [] q2) "__init__" q3) [.Name f q4] [] q5) env = (do
      let ov ← attributeBase (.Call (.Name "super" q1) [] [] q2) "__init__" env (eval (.Call (.Name "super" q1) [] [] q2) env)
      standAt q3.atName
      let (fn, first) ← holding [ov] (getMethod ov "__init__" (do return (← importBound (.Call (.Name "super" q1) [] [] q2) env).getD true))
      callWith q5 fn first (backTo q5 (starEach [.Name f q4] env)) []) := by
  have hfew : methodCallForm (([.Name f q4] : List Expr).length + ([] : List Keyword).length) (backTo q5 (starEach [.Name f q4] env)) (backToKw q5 (keywordEach [] env)) = true := by rfl
  rw [arm_eval_Call]
  unfold methodCall methodCallPos calleeOf
  rw [hfew]
  simp only [hl, Bool.not_true, Bool.false_or, if_true, pure_bind]
  rfl
theorem esup_init (T : ECls prog K f B i newId bmB C fI) (hf : f = "part" ∨ f = "node" ∨ f = "block" ∨ f = "place" ∨ f = "number" ∨ f = "note") {x t0 : Addr} {v : Value} (X : K.In s.heap) (hlim : s.heap.NoLimit) (hx : s.heap.get? x = some (excO C t0)) (hnx : K.lookup x = none) (hroom : A.depth < recursionLimit)
    (hglob : s.heap.Ns mainGlobals mg) (hsup : mg "super" = none) (hb : ∃ mb, s.heap.Ns builtinsNs mb ∧ ∀ x : Str, x ≠ "__name__" → mb x = bootBuiltins x)
    (hq : ∀ h' tk dx t1, InitEnd s.heap h' x C dx t1 f v → R (.ok (.ret .none)) { s with heap := h', toks := tk }) :
    codeAny (model prog w) A (.call (.ref fI) ⟨[.ref x, v], []⟩) R s := by
  obtain ⟨oc, od, doc, pm, an, ct, osl, cda, cc, ccl, cl, cdd, cld, ccs, csl, vs, qual, p1, p2, q1, q2, q3, q4, q5, q6, r1, r2, r3, r4, ho, hcd, hql, hcc, hcda, file, tf, hvs, hfile⟩ := T.fn
  obtain ⟨nm, q, N, bs, sn, sub, ab, col, dd, k0, k1, k2, k3, k5, hC⟩ := T.cls
  have hcl : clsIn K C = some { name := nm, bases := bs, mro := .ref C :: bmB, ns := N, qualname := q, hasDict := true, slotNames := sn, subclasses := sub, abstract := ab, collection := col, hasDel := false } := by unfold clsIn; rw [hC] <;> rfl
  have hxC : x ≠ C := fun z => by rw [z, hC] at hnx; cases hnx
  obtain ⟨mb, hb1, hb2⟩ := hb
  have hkf : (iS f).names.lookup f = some .local := by rcases hf with rfl | rfl | rfl | rfl | rfl | rfl <;> rfl
  have hdf : (f == ("__debug__" : Str)) = false := by rcases hf with rfl | rfl | rfl | rfl | rfl | rfl <;> decide
  have hself : (("self" : Str) == f) = false := by rcases hf with rfl | rfl | rfl | rfl | rfl | rfl <;> decide
  have hkc : (iS f).names.lookup ("__class__" : Str) = some .free := by rcases hf with rfl | rfl | rfl | rfl | rfl | rfl <;> rfl
  have hks : (iS f).names.lookup ("super" : Str) = some .globalImplicit := by rcases hf with rfl | rfl | rfl | rfl | rfl | rfl <;> rfl
  refine ks_codeAny_call_defAt (fd := fnX "__init__" qual (iA f p1 p2) (iB f q1 q2 q3 q4 q5 q6 r1 r2 r3 r4) (iS f) [("__class__", cc)] .none .none doc pm an (.ref cda) ct) (body := iB f q1 q2 q3 q4 q5 q6 r1 r2 r3 r4) (binds := [("self", .ref x), (f, v)])
    hroom (X _ _ ho) rfl hlim (codeRec_of X hcd) rfl ?_ ?_ ?_ (fun h₁ hns k => ?_)
  · exact BindsTo.of_eq (by rcases hf with rfl | rfl | rfl | rfl | rfl | rfl <;> first | rfl | with_unfolding_all rfl)
  · intro y hy
    simp [iS] at hy
    rcases hy with rfl | rfl | rfl | rfl <;> simp
  · intro y hy
    simp at hy
    rcases hy with rfl | rfl
    · rfl
    · exact hkf
  · have hm_self : (List.reverse [(("self" : Str), Value.ref x), (f, v)]).lookup ("self" : Str) = some (.ref x) := by
      show List.lookup ("self" : Str) [(f, v), ("self", .ref x)] = _
      rw [List.lookup_cons, hself]
      rfl
    have hm_f : (List.reverse [(("self" : Str), Value.ref x), (f, v)]).lookup f = some v := by
      show List.lookup f [(f, v), ("self", .ref x)] = _
      rw [List.lookup_cons, beq_self_eq_true]
    have X₁ : K.In h₁ := X.keeps k
    have hx₁ := k _ _ hx
    have I₁ : InstAt h₁ x (excO C t0) C none := ⟨hx₁, rfl, rfl, trivial⟩
    obtain ⟨oL, es, ep, hL, hns'⟩ := id hns
    have hxL : s.heap.objs.size ≠ x := Nat.ne_of_gt (Heap.lt_size hx)
    obtain ⟨oD, hD1, hD2⟩ : ∃ oD, h₁.get? C = some oD ∧ oD.data = .cls { name := nm, bases := bs, mro := .ref C :: bmB, ns := N, qualname := q, hasDict := true, slotNames := sn, subclasses := sub, abstract := ab, collection := col, hasDel := false } := ⟨_, X₁ _ _ hC, rfl⟩
    show _root_.PySem.wpAt _ (A.deeper (ksEnv qual (iS f) s.heap.objs.size fI (.ref cda) cc)) (.func (iB f q1 q2 q3 q4 q5 q6 r1 r2 r3 r4) (ksEnv qual (iS f) s.heap.objs.size fI (.ref cda) cc)) (execs (iB f q1 q2 q3 q4 q5 q6 r1 r2 r3 r4) (ksEnv qual (iS f) s.heap.objs.size fI (.ref cda) cc)) _ _ _
    refine ks_wpAt_execs_cons (ks_wpAt_Expr_any (ks_wpAt_MethodCall (he := mc_eq hql) ?_))
    refine ks_wpAt_super_base (env := ksEnv qual (iS f) s.heap.objs.size fI (.ref cda) cc) hks hkc (by decide) rfl (X₁ _ _ ho) rfl rfl rfl (X₁ _ _ hcda) rfl hvs hfile T.top ?_
    refine ks_loadName_global rfl hks (loadGlobal_builtin (env := ksEnv qual (iS f) s.heap.objs.size fI (.ref cda) cc) (mg := mg) (mb := mb) (hglob.keeps k) hsup (hb1.keeps k) ((hb2 _ (by decide)).trans (by kernel_rfl)) ⟨rfl, ?_⟩)
    refine wpAny_loadName_free rfl hkc rfl ⟨_, X₁ _ _ hcc, rfl⟩ ?_
    refine wpAny_loadName_local rfl rfl hns hm_self ?_
    refine ks_wpAny_isType_cls hD1 hD2 ⟨rfl, ?_⟩
    refine ks_wpAny_call_super hD1 hD2 hx₁ rfl (fun c e => by cases e) (looks_mroIn X₁ T.mC) (fun h₂ e₂ k₂ => ?_)
    have X₂ : K.In h₂ := X₁.keeps k₂
    have hx₂ := k₂ _ _ hx₁
    have I₂ : InstAt h₂ x (excO C t0) C none := ⟨hx₂, rfl, rfl, trivial⟩
    have hmro : Looks (model prog w) h₂ (mroOf (.ref C)) (.ref C :: bmB) := (looks_clsIn X₂ hcl).andThen .now
    refine kxs_getMethod T.bx.kx e₂ (looks_opaque X₂ T.opq) (l₀ := .ref C :: bmB) hmro (by simp [List.dropWhile_cons]) X₂ (T.bx.ini K) (I₂.type.andThen (looks_subIn X₂ T.mB)) hxC (by decide) ?_
    have k₃ : ∀ b o, h₂.get? b = some o → (h₂.push (kxs_mw i x)).get? b = some o := fun b o e => Heap.get?_push_of_some _ e
    have hns₃ : (h₂.push (kxs_mw i x)).Ns s.heap.objs.size (fun y => (List.reverse [(("self" : Str), Value.ref x), (f, v)]).lookup y) := hns.at fun o e => k₃ _ _ (k₂ _ _ e)
    have he : starEach [.Name f q4] (ksEnv qual (iS f) s.heap.objs.size fI (.ref cda) cc) = (false, eval (.Name f q4) (ksEnv qual (iS f) s.heap.objs.size fI (.ref cda) cc)) :: starEach [] (ksEnv qual (iS f) s.heap.objs.size fI (.ref cda) cc) := rfl
    refine kxs_callWith (i := i) (x := x) (by rfl) (evalArgs_plain (spliced_more (env := ksEnv qual (iS f) s.heap.objs.size fI (.ref cda) cc) (ldF (m := fun y => (List.reverse [(("self" : Str), Value.ref x), (f, v)]).lookup y) hns₃ hm_f (spliced_none ⟨Heap.get?_push_at rfl rfl, ?_⟩) rfl hkf hdf)))
    refine call_bwB T.bx.fb (k₃ _ _ (X₂ _ _ hC)) (k₃ _ _ hx₂) (Heap.get?_push_at rfl rfl) (one_size v) fun h₄ t1 k₄ e₄ => ?_
    have X₄ : K.In h₄ := kept_but (X₂.keeps k₃) hnx k₄
    refine wpAt_of_wpAny (wpAny_execs_cons (plainObj_wpAny_Assign_Attribute ?_))
    have hns₄ : h₄.Ns s.heap.objs.size (fun y => (List.reverse [(("self" : Str), Value.ref x), (f, v)]).lookup y) := hns₃.at fun o e => k₄ _ _ hxL e
    refine ldF hns₄ hm_f (ldF hns₄ hm_self ?_) rfl hkf hdf
    refine set_plain X₄ (ox := excO C t1) (od := none) ⟨e₄, rfl, rfl, trivial⟩ T.sa ?_
    refine osa_newB T.bx.st T.bx.ob X₄ e₄ hcl rfl rfl T.noN (fun h₅ tk₅ dx k₅ dn dne hx₅ hn₅ => ?_)
    show wpAny _ _ (execs _ _) _ _ _
    have kk : ∀ b o, b ≠ x → s.heap.get? b = some o → h₄.get? b = some o := fun b o hb e => k₄ b o hb (k₃ _ _ (k₂ _ _ (k _ _ e)))
    have z : s.heap.objs.size < h₄.objs.size := hns₄.lt
    exact wpAny_execs_nil (hq h₅ tk₅ dx t1 ⟨fun b o hb e => k₅ b o hb (kk b o hb e), hx₅, Nat.le_of_lt (Nat.lt_of_lt_of_le z dn), dne, hn₅⟩)
theorem esup_made (T : ECls prog K f B i newId bmB C fI) (hf : f = "part" ∨ f = "node" ∨ f = "block" ∨ f = "place" ∨ f = "number" ∨ f = "note") {v : Value} (X : K.In s.heap) (hlim : s.heap.NoLimit) (hroom : A.depth + 1 < recursionLimit)
    (hglob : s.heap.Ns mainGlobals mg) (hsup : mg "super" = none) (hb : ∃ mb, s.heap.Ns builtinsNs mb ∧ ∀ x : Str, x ≠ "__name__" → mb x = bootBuiltins x)
    (hq : ∀ h' tk e d, OwnMade s.heap h' e C d f v → R (.ok (.ret (.ref e))) { s with heap := h', toks := tk }) :
    codeAny (model prog w) A (.call (.ref C) ⟨[v], []⟩) R s := by
  obtain ⟨nm, q, N, bs, sn, sub, ab, col, dd, k0, k1, k2, k3, k5, hC⟩ := T.cls
  obtain ⟨hp, g, dr, tk, os⟩ := s
  have k : ∀ b o, hp.get? b = some o → ((hp.push (kdv_tup [v])).push (excO C hp.objs.size)).get? b = some o := fun b o e => Heap.get?_push_of_some _ (Heap.get?_push_of_some _ e)
  have hget : ((hp.push (kdv_tup [v])).push (excO C hp.objs.size)).get? (hp.objs.size + 1) = some (excO C hp.objs.size) := by heap_get
  have hnx : K.lookup (hp.objs.size + 1) = none := by
    cases e : K.lookup (hp.objs.size + 1) with
    | none => rfl
    | some o =>
      have z : hp.get? (hp.objs.size + 1) = some o := X _ _ e
      exact absurd (Nat.lt_of_succ_lt (Heap.lt_size z)) (Nat.lt_irrefl _)
  refine call_own T.bx.fb (fun X => rfl) (X _ _ hC) (looks_findIn X T.iC) (fun self => bind_fn X self T.tC) (one_size v) ?_
  obtain ⟨mb, hb1, hb2⟩ := hb
  refine esup_init (s := ⟨(hp.push (kdv_tup [v])).push (excO C hp.objs.size), g, dr, tk, os⟩) T hf (X.keeps k) (hlim.keeps k) hget hnx ?_ (hglob.keeps k) hsup ⟨mb, hb1.keeps k, hb2⟩ fun h' tk' dx t1 ⟨k', hx, dn, dne, hns⟩ => ?_
  · show A.depth + 1 < recursionLimit
    exact hroom
  · have old : ∀ b o, hp.get? b = some o → h'.get? b = some o := fun b o e => k' b o (Nat.ne_of_lt (Nat.lt_succ_of_lt (Heap.lt_size e))) (k b o e)
    have z : hp.objs.size + 1 + 1 ≤ dx := by
      first
        | (simpa only [Heap.size_push] using dn)
        | exact dn
        | (have q := dn; rw [Heap.size_push, Heap.size_push] at q; exact q)
    exact ⟨rfl, hq h' tk' (hp.objs.size + 1) dx ⟨old, Nat.le_succ _, ⟨_, _, hx, rfl, rfl, rfl, rfl⟩, Nat.le_trans (Nat.le_trans (Nat.le_succ _) (Nat.le_succ _)) z, dne, hns⟩⟩
end
end DX
end PySem

set_option maxRecDepth 100000
set_option maxHeartbeats 2000000
/-! DX3: raise C(e), raise C(). -/
namespace DI
open PySem PySem.Spec PyProof.Rows L2
theorem relO_f {f : Str} {v : V} {v' : Value} (r : RelV v v') (g : Str) : RelO (List.lookup g [(f, v)]) (if g = f then some v' else none) := by
  by_cases hw : g = f
  · subst hw
    rw [if_pos rfl]
    have q : List.lookup g [(g, v)] = some v := by simp [List.lookup]
    rw [q]
    exact r
  · rw [if_neg hw]
    have qw : (g == f) = false := by simpa using hw
    have q2 : List.lookup g [(f, v)] = none := by simp [List.lookup, qw]
    rw [q2]
    trivial
section
variable {X : Cx} {f : Str} {B i newId : String} {bmB : List Value} {C fI : Addr}
/-- C(e) -/
def tMkF (C : Addr) (f : Str) (ta : TA) : L2.St → Hp → XK → Prop := fun σ H Q => ta σ H fun vs H1 => ∃ v, vs = [v] ∧ ∀ d, H1 d = none → Q (.ref C) (some d) (upd H1 d (.xd [(f, v)]))
/-- what is asked of a class that is raised -/
structure ERs (K : PySem.W.Frag) (C : Addr) : Prop where
  kC : PySem.W.keepIn K (.ref C) = true
  eC : PySem.W.subIn K (.ref C) (.type "BaseException") = some true
  tC : PySem.W.typeIn K (.ref C) = some (.type "type")
theorem pmk_sup {cn : Str} {a : Expr} {ta : TA} {p pos : Pos} {k : Nat} (T : PySem.DX.ECls X.prog X.K f B i newId bmB C fI) (hf : f = "part" ∨ f = "node" ∨ f = "block" ∨ f = "place" ∨ f = "number" ∨ f = "note") (R : ERs X.K C) (gC : X.mg cn = some (.ref C)) (hsup : X.mg "super" = none)
    (hr : Room k X.A) (hd : (cn == ("__debug__" : Str)) = false) (ha : PA X [a] ta) (hg : Gl X cn)
    (he : starEach (a :: []) X.env = (false, eval a X.env) :: starEach [] X.env := by rfl) (hpl : (backTo pos (starEach [] X.env)).any (·.1) = false := by rfl) :
    PMk X (.Call (.Name cn p) [a] [] pos) (tMkF C f ta) := by
  intro pins s σ H Q I h
  refine wpAny_Call_Name_kw (ld_glob I hg gC ?_ hd)
  refine PySem.W.callWith_K (h₀ := X.base) I.ok.mod.kin R.kC (thn (ha.run pos pins s σ H _ I h) fun us s1 hh => ?_) he hpl
  obtain ⟨vs, H1, I1, r1, v, ev, q1⟩ := hh
  subst ev
  refine ⟨I1.kIn, ?_⟩
  cases r1 with
  | cons rv rn =>
    rename_i v' us'
    cases rn
    show wpAny _ _ (call (.ref C) [v']) _ _ _
    have hlim := I1.nolimit
    have hgl := I1.mod.glob.keeps I1.bk
    obtain ⟨mb, hb1, hb2⟩ := I1.mod.blt
    have hbl := hb1.keeps I1.bk
    obtain ⟨hp, g, dr, tk, os⟩ := s1
    refine wpAny_call (PySem.DX.esup_made T hf I1.kIn hlim (by have := hr.dp; omega) hgl hsup ⟨mb, hbl, hb2⟩ fun h' tk' e d M => ?_)
    show MkP X pins σ Q (.ref e) ⟨h', g, dr, tk', os⟩
    obtain ⟨oe, fv, hoe, hc, hd, hdat, h1⟩ := M.obj
    have hns := M.ns
    obtain ⟨G', g1, g2⟩ := restrict h' fun b => decide (b ≠ e)
    have gk : ∀ b, b ≠ e → G'.get? b = h'.get? b := fun b hb => g1 b (decide_eq_true hb)
    have ge : G'.get? e = none := g2 e (by simp)
    have old : ∀ b o, hp.get? b = some o → G'.get? b = some o := fun b o q => (gk b (Nat.ne_of_lt (Nat.lt_of_lt_of_le (Heap.lt_size q) M.new))).trans (M.keep b o q)
    have ob : ObjOk X.prog X.w (upd H1 d (.xd [(f, v)])) G' d (.xd [(f, v)]) :=
      ⟨_, hns.at (fun o q => (gk d M.dne).trans q), fun g => relO_f rv g⟩
    have J : Inv X pins σ (upd H1 d (.xd [(f, v)])) ⟨G', g, dr, tk', os⟩ := I1.laid (t' := tk') old M.dbig ob
    refine ⟨e, oe, fv, ⟨G', g, dr, tk', os⟩, _, .ref C, some d, rfl, J, fun b o q => ?_, ge, hoe, ⟨hc, hd⟩, hdat, h1, ?_, rfl, I1.bare, raises_own R.eC R.tC, q1 d (I1.hok.fresh M.dbig)⟩
    · by_cases hb : b = e
      · have q' : G'.get? b = some o := q
        rw [hb, ge] at q'; cases q'
      · exact (gk b hb).symm.trans q
    · rw [upd_ne (Ne.symm M.dne)]
      exact I1.hok.fresh M.new
/-- raise C(e) -/
theorem ps_raiseF {cn : Str} {a : Expr} {ta : TA} {W : WX} {p pos pos2 : Pos} {k : Nat} (hc : X.calm = true) (T : PySem.DX.ECls X.prog X.K f B i newId bmB C fI) (hf : f = "part" ∨ f = "node" ∨ f = "block" ∨ f = "place" ∨ f = "number" ∨ f = "note") (R : ERs X.K C) (gC : X.mg cn = some (.ref C)) (hsup : X.mg "super" = none)
    (hr : Room k X.A) (hd : (cn == ("__debug__" : Str)) = false) (tk : Takes X W) (ha : PA X [a] ta) (hg : Gl X cn)
    (he : starEach (a :: []) X.env = (false, eval a X.env) :: starEach [] X.env := by rfl) (hpl : (backTo pos (starEach [] X.env)).any (·.1) = false := by rfl) :
    PS X (.Raise (some (.Call (.Name cn p) [a] [] pos)) none pos2) (fun _ σ H => tMkF C f ta σ H fun cls d H' => W cls d σ H') := ps_raise hc tk (pmk_sup T hf R gC hsup hr hd ha hg he hpl)
/-- C(), a class without own __init__ -/
theorem pmk_own0 {cn : Str} {p pos : Pos} (F : ExcBaseFacts B newId i bmB) (q : PySem.W.excIn X.K C bmB newId = true) (gC : X.mg cn = some (.ref C)) (R : ERs X.K C) (hg : Gl X cn)
    (hdb : (cn == ("__debug__" : Str)) = false := by decide) : PMk X (.Call (.Name cn p) [] [] pos) (fun _ H Q => Q (.ref C) none H) := by
  intro pins s σ H Q I h
  refine wpAny_Call_Name_kw (ld_glob I hg gC ?_ hdb)
  refine PySem.W.callWith_K0 I.kIn R.kC ?_
  show wpAny _ _ (call (.ref C) []) _ _ _
  obtain ⟨bm, N, nm, qn, bs, hdct, sn, sub, ab, col, dd, k0, k1, k2, k3, k5, mN, hC, hN, hni, T⟩ := exc_obj I.kIn q
  refine wpAny_call_exc_subT F T hC hN hni (fun h' e hm => ?_) (by show 0 ≤ sizeLine; exact Nat.zero_le _)
  exact mk_of I hm (raises_own R.eC R.tC) h (I.hok.gone hm.new)
theorem ps_raise0 {cn : Str} {W : WX} {p pos pos2 : Pos} (hc : X.calm = true) (F : ExcBaseFacts B newId i bmB) (q : PySem.W.excIn X.K C bmB newId = true) (gC : X.mg cn = some (.ref C)) (R : ERs X.K C) (tk : Takes X W) (hg : Gl X cn)
    (hdb : (cn == ("__debug__" : Str)) = false := by decide) : PS X (.Raise (some (.Call (.Name cn p) [] [] pos)) none pos2) (fun _ σ H => W (.ref C) none σ H) := ps_raise hc tk (pmk_own0 F q gC R hg hdb)
end
end DI

set_option maxRecDepth 100000
set_option maxHeartbeats 2000000
/-! DX4: try: body except (C, ..) as n: y = n; what is caught is tracked. -/
namespace DI
open PySem PySem.Spec PyProof.Rows L2
theorem exT_ok {P : Program} {w : World} {H : Hp} {h : Heap} {a : Addr} {cls : Value} {d : Option Addr} {oe : Obj} {vs : Array Value} (e : h.get? a = some oe) (z : Zc cls d oe) (hd : oe.data = .fields vs) : ObjOk P w H h a (ExT cls d a) :=
  ⟨⟨oe, vs, e, z, hd⟩, ⟨oe, e⟩, fun _ _ ⟨o, v, q, r⟩ k => ⟨o, v, k o q, r⟩⟩
section
variable {X : Cx} {pins : List (Addr × Obj)} {σ : L2.St} {H : Hp} {s : Shared}
theorem track_ok (I : Inv X pins σ H s) {a : Addr} {oe : Obj} {vs : Array Value} {cls : Value} {d : Option Addr} (ha : s.heap.get? a = some oe) (hd : oe.data = .fields vs) (z : Zc cls d oe) (na : H a = none) (nL : a ≠ X.env.locals)
    (n0 : X.s_0.heap.get? a = none) (np : ∀ p ∈ X.pn ++ pins, p.1 ≠ a) : Inv X pins σ (upd H a (ExT cls d a)) s := by
  refine ⟨I.ok, I.os, I.bare, ⟨I.base.keep, I.base.slot, fun b o e n hx => ?_, I.base.there, fun b xs e => ?_, fun b o u e => ?_, fun b ps e => ?_⟩, I.loc, I.cell, ?_, fun x c e => ?_, fun p hp => ?_, I.hok.laidN (fun _ _ q => q) na (exT_ok ha z hd), I.len⟩
  · rw [upd_ne (fun w => by rw [w, n0] at e; cases e)]
    exact I.base.free b o e n hx
  · have q := I.base.tups b xs e
    rw [upd_ne (ne_of_none q na)]
    exact q
  · have q := I.base.frzs b o u e
    rw [upd_ne (ne_of_none q na)]
    exact q
  · obtain ⟨more, q⟩ := I.base.tbls b ps e
    exact ⟨more, by rw [upd_ne (ne_of_none q na)]; exact q⟩
  · rw [upd_ne (Ne.symm nL)]
    exact I.free
  · have q := I.freeC x c e
    rw [upd_ne (fun w => ?_)]
    · exact q
    · subst w
      obtain ⟨v, o, hc1, hc2⟩ := I.cell x c e
      rw [ha] at hc1
      cases hc1
      rw [hd] at hc2
      cases hc2
  · obtain ⟨h1, h2, h3⟩ := I.pin p hp
    exact ⟨h1, by rw [upd_ne (np p hp)]; exact h2, h3⟩
/-- what stands behind except -/
def TestOk (X : Cx) (t : Expr) (m : Value → Option Bool) : Prop := ∀ (a : Addr) (pn pins : List (Addr × Obj)) (σ : L2.St) (H : Hp) (s : Shared) (cls : Value) (b : Bool) (oe : Obj), Inv (X.suite a pn) pins σ H s → s.heap.get? a = some oe → oe.cls = cls → m cls = some b →
  ∀ {Q : Value → Shared → Prop} {E : Value → Shared → Prop}, (∀ c h', (∀ b o, s.heap.get? b = some o → h'.get? b = some o) → PySem.W.Looks (model X.prog X.w) h' (excMatches (.ref a) c) b → Q c { s with heap := h' }) →
    wpAny (model X.prog X.w) (X.A.mark (some (.ref a))) (eval t X.env) Q E s
theorem test_name {x : Str} {c : Value} {np : Pos} (hc : Names X x c) : TestOk X (.Name x np) (fun cls => PySem.W.exmOne X.K cls c) := by
  intro a pn pins σ H s cls b oe I ha hcl hm Q E q
  have LT : PySem.W.Looks (model X.prog X.w) s.heap (typeOf (.ref a)) cls := fun A Q E s' k q => wpAny_typeOf_ref (k _ _ ha) (by rw [hcl]; exact q)
  have LM := PySem.W.exm_one (M := model X.prog X.w) I.kIn LT hm
  obtain ⟨hg, hdbg, hm | ⟨hm, hv, hnn⟩⟩ := hc
  · exact ld_glob (X := X.suite a pn) I hg hm (q c s.heap (fun _ _ z => z) LM) hdbg
  · exact ld_blt (X := X.suite a pn) I hg hm hv (q c s.heap (fun _ _ z => z) LM) hnn hdbg
theorem fl_keeps {B h h' : Heap} {l : List PySem.Env} {a : Addr} {Z : Obj → Prop} (f : HandSPX.FlyingZ B l a Z h) (k : ∀ b o, h.get? b = some o → h'.get? b = some o) : HandSPX.FlyingZ B l a Z h' := by
  obtain ⟨f1, f2, f3, oe, vs, T, oT, ts, he, hz, hd, h1, hnT, hTe, hT, hdT, h3⟩ := f
  exact ⟨fun b o e => k b o (f1 b o e), f2, f3.of_keeps fun b o e _ => ⟨o, k b o e, rfl⟩, oe, vs, T, oT, ts, k _ _ he, hz, hd, h1, hnT, hTe, k _ _ hT, hdT, h3⟩
end
/-- the clause takes it: it stands at slot j; else it flies on -/
def wKeep (m : Value → Option Bool) (i j : Nat) (Wout : WX) (D : Ends) : WX := fun cls d σ H => ∃ b, m cls = some b ∧ (b = true → ∀ a, H a = none → D.nx (((σ.set i (some (.ref a))).set j (some (.ref a))).set i none) (upd H a (ExT cls d a))) ∧ (b = false → Wout cls d σ H)
section
variable {X : Cx} {n y : Str} {t : Expr} {m : Value → Option Bool} {i j : Nat} {body : List Stmt} {pos pos' p1 p2 p3 : Pos} {tb : WX → TS} {Wout : WX}
theorem ps_try_keep (hs : X.stack = X.env :: X.outer) (hf : X.env.frame = some X.env.locals) (hex : X.ex = []) (hN : X.N.Nodup) (hi : X.N[i]? = some n) (hln : X.env.kindOf n = some .local) (hj : X.N[j]? = some y) (hij : i ≠ j) (ht : TestOk X t m) (tk : Takes X Wout)
    (hb : ∀ (W : WX) (pn : List (Addr × Obj)) (xe : Value → Shared → Prop), Takes (X.tr pn xe) W → PassesOwn (model X.prog X.w) X.A X.env xe → PSs (X.tr pn xe) body (tb W))
    (hsu : ∀ (a : Addr) (pn : List (Addr × Obj)), PSs (X.suite a pn) [.Assign [.Name y p1] (.Name n p2) p3] (tAsg (tVar i) (gName j))) :
    PS X (.Try body [.ExceptHandler (some t) (some n) [.Assign [.Name y p1] (.Name n p2) p3] pos'] [] [] pos) (fun D σ H => tb (wKeep m i j Wout D) D σ H) := by
  refine ⟨fun pins s σ H D I h => ?_⟩
  have ok := I.ok
  have hfr : X.A.frames = some (X.env :: X.outer) := by rw [ok.frames, hs]
  have hloc : Loc X.env.scope n := .inl hln
  refine wpAny_Try_except ?_
  refine wpAny_mono ((hb (wKeep m i j Wout D) (X.pn ++ pins) (fun e s₁ => wpAny (model X.prog X.w) X.A (noteFrame e X.env) (fun _ s₂ => wpAny (model X.prog X.w) X.A (setFlight e none) (fun _ s₃ =>
    wpAny (model X.prog X.w) X.A (handleBy e X.env [.ExceptHandler (some t) (some n) [.Assign [.Name y p1] (.Name n p2) p3] pos']) (SP X pins D) X.xe s₃) X.xe s₂) X.xe s₁) (fun u s' xx => ?_) PassesOwn.looking).run [] s σ H D (I.toTry _) h) (fun f s1 hsp => ?_) (fun e s1 he => he)
  · -- the catch
    obtain ⟨a, B, sI, pins', σ', H', cls, d, rfl, J', nb, up, sky, na, os, ag, b, hb1, hyes, hno⟩ := xx
    have J : Inv X pins σ' H' sI := J'.ofTry ok
    have sky' : Sky B (X.env :: X.outer) a (Zc cls d) X.env.locals s'.heap := by rw [← hs]; exact sky
    show wpAny (model X.prog X.w) X.A (noteFrame (.ref a) X.env) _ _ _
    refine Sky.land Zc.steady hfr hf sky' fun h3 fl3 up3 => ?_
    have J3 : Inv X pins σ' H' { s' with heap := h3 } := J.landed nb fl3.1 (up.trans up3) os ag
    obtain ⟨oe3, vs3, he3, hz3, hd3⟩ := fl3.there
    have notFr : ∀ {h : Heap} {o : Obj} {vs : Array Value}, h.FunFrames B (X.env :: X.outer) → h.get? a = some o → o.data = .fields vs → a ∉ frs (X.env :: X.outer) := fun {h o vs} ff e dd hm => by
      obtain ⟨_, o', e', hnf⟩ := ff.mem hm
      rw [e] at e'; cases e'
      exact hnf _ dd
    have nfr := notFr fl3.2.2.1 he3 hd3
    have nL : a ≠ X.env.locals := fun z => nfr (List.mem_filterMap.mpr ⟨X.env, List.mem_cons_self, by rw [hf, z]⟩)
    have nF : a ∉ X.fs := fun hm => by
      obtain ⟨e, he, q⟩ := List.mem_filterMap.mp hm
      exact nfr (List.mem_filterMap.mpr ⟨e, List.mem_cons_of_mem _ he, q⟩)
    have nI : sI.heap.get? a = none := by
      cases q : sI.heap.get? a with
      | none => rfl
      | some o =>
        have z := nb a o q (by rw [hs]; exact nfr)
        rw [fl3.2.1] at z
        cases z
    have n0 : X.s_0.heap.get? a = none := by
      cases q : X.s_0.heap.get? a with
      | none => rfl
      | some o =>
        obtain ⟨o', e'⟩ := J.base.there a o q (by rw [hex]; exact List.not_mem_nil)
        rw [nI] at e'
        cases e'
    have np : ∀ p ∈ X.pn ++ pins, p.1 ≠ a := fun p hp z => by
      have q := (J.pin p hp).1
      rw [z, nI] at q
      cases q
    have S3 := J3.suite he3 hd3 na nL nF
    refine wpAny_handleBy_cons (codeAny_handlers_test ?_) (by intro q; cases q)
    refine ht a _ _ σ' H' _ cls b oe3 S3 he3 hz3.1 hb1 fun c h3' k3 LM => ?_
    have fl3' : HandSPX.FlyingZ B (X.env :: X.outer) a (Zc cls d) h3' := fl_keeps fl3 k3
    have up3' : s'.heap.UpToSlots h3' := up3.trans (Heap.UpToSlots.of_keeps k3)
    refine LM.here ?_
    cases b with
    | true =>
      refine codeAny_handlers_suite_as ?_
      refine HandSPX.lands_againZ fl3' fun h4 fl4 up4 => ?_
      have J4 : Inv X pins σ' H' { s' with heap := h4 } := J.landed nb fl4.1 ((up.trans up3').trans up4) os ag
      obtain ⟨oe4, vs4, he4, hz4, hd4⟩ := fl4.there
      have S4 := J4.suite he4 hd4 na nL nF
      refine store_ok (X := X.suite a ((a, oe4) :: (X.pn ++ pins))) (v := .ref a) S4 hN hi hloc rfl (fun s5 S5 => ?_) (.inr hln)
      have hil : i < σ'.length := by rw [J.len]; exact (List.getElem?_eq_some_iff.mp hi).1
      refine wpAny_mono ((hsu a ((a, oe4) :: (X.pn ++ pins))).run [] s5 _ H' { nx := fun σ6 H6 => σ6 = (σ'.set i (some (.ref a))).set j (some (.ref a)) ∧ H6 = H', rt := fun _ _ => False, bk := fun _ _ => False, ct := fun _ _ => False } S5 ?_) (fun f s6 hsp => ?_) (fun _ _ z => False.elim z)
      · exact ⟨.ref a, List.getElem?_set_self hil, rfl, rfl⟩
      · cases f with
        | next =>
          obtain ⟨σ6, H6, S6, rfl, rfl⟩ := hsp
          obtain ⟨ha6, na6, _⟩ := S6.pin (a, oe4) (List.mem_append_left _ List.mem_cons_self)
          have T6 := track_ok (S6.unsuite ok) ha6 hd4 hz4 na6 nL n0 np
          exact gone_ok T6 hN hi hln fun s7 J7 => ⟨_, _, J7, hyes rfl a na⟩
        | brk =>
          obtain ⟨_, _, _, q6⟩ := hsp
          exact q6.elim
        | cont =>
          obtain ⟨_, _, _, q6⟩ := hsp
          exact q6.elim
        | ret u =>
          obtain ⟨_, _, _, _, _, q6⟩ := hsp
          exact q6.elim
    | false =>
      show wpAny _ X.A (handleBy (.ref a) X.env []) _ _ _
      refine wpAny_handleBy_nil ?_
      obtain ⟨k1, k2, k3, oe, vs, T, oT, ts', he, hz, hd, h1, hr⟩ := id fl3'
      unfold PySem.passOn
      refine wpAny_bind (wpAny_field he hd h1 ?_)
      rw [if_neg (show ¬ ((Value.ref T == Value.none) = true) from by simp)]
      have fin : wpAny (model X.prog X.w) X.A (setFlight (.ref a) X.env.frame) (fun _ s4 => wpAny (model X.prog X.w) X.A (throw (.ref a) : Sem Flow) (SP X pins D) X.xe s4) X.xe { s' with heap := h3' } := by
        rw [hf]
        refine HandSPX.setFlight_upZ fl3' fun h4 hh4 up4 => wpAny_throw (tk _ _ ?_)
        exact ⟨a, B, sI, pins, σ', H', cls, d, rfl, J, nb, (up.trans up3').trans up4, .inr (.inr (by rw [hs]; exact hh4)), na, os, ag, hno rfl⟩
      first
        | exact wpAny_bind (wpAny_pure (wpAny_bind fin))
        | exact wpAny_bind fin
  · cases f with
    | next =>
      obtain ⟨σ', H', J', q⟩ := hsp
      exact wpAny_execs_nil ⟨σ', H', J'.ofTry ok, q⟩
    | brk =>
      obtain ⟨σ', H', J', q⟩ := hsp
      exact ⟨σ', H', J'.ofTry ok, q⟩
    | cont =>
      obtain ⟨σ', H', J', q⟩ := hsp
      exact ⟨σ', H', J'.ofTry ok, q⟩
    | ret u =>
      obtain ⟨v, σ', H', J', r, q⟩ := hsp
      exact ⟨v, σ', H', J'.ofTry ok, r, q⟩
end
end DI

set_option maxRecDepth 100000
set_option maxHeartbeats 2000000
/-! DX5: isinstance(x, C), x.f of what was caught. -/
namespace DI
open PySem PySem.Spec PyProof.Rows L2
/-- what the class at C must say, so that its instances are asked rightly -/
structure ExcQ (K : PySem.W.Frag) (C : Addr) : Prop where
  hcl : (PySem.W.clsIn K C).isSome = true
  hga : PySem.W.findIn K (.ref C) "__getattribute__" = some (some (.builtin "BaseException.__getattribute__"))
  hgt : PySem.W.findIn K (.ref C) "__getattr__" = some none
  hsub : PySem.W.subIn K (.ref C) (.type "BaseException") = some true
  ha : PySem.W.findIn K (.ref C) "__class__" = some (some (.builtin "object.__class__"))
  hn : PySem.W.specialIn K (.builtin "object.__class__") "__get__" = some (some (.builtin "getset_descriptor.__get__"))
  htk : PySem.W.takesIn K (.builtin "object.__class__") = some true
  hm : PySem.W.mroIn K C (.type "object") = some true
section
variable {X : Cx} {pins : List (Addr × Obj)} {σ : L2.St} {H : Hp} {s : Shared}
/-- a tracked thing, frozen or not -/
theorem ext_rd (I : Inv X pins σ H s) {a : Addr} {u : HO} (h : Rd H a u) : ObjOk X.prog X.w H s.heap a u := by
  rcases h with h | ⟨o, h⟩
  · exact I.hok a _ h
  · exact (I.hok a _ h).2
/-- the tracked exception, in the heap -/
theorem exT_at (I : Inv X pins σ H s) {a C : Addr} {d : Option Addr} (ha : Rd H a (ExT (.ref C) d a)) (hd : ∀ dd, d = some dd → ∃ fs, Rd H dd (.xd fs)) : ∃ oe od, PySem.W.InstAt s.heap a oe C od ∧ oe.dict = d ∧ ∃ vs, oe.data = .fields vs := by
  obtain ⟨⟨oe, vs, e, z, hv⟩, _⟩ := ext_rd I ha
  have nc : PySem.W.notCls oe = true := by unfold PySem.W.notCls; rw [hv] <;> rfl
  cases d with
  | none => exact ⟨oe, none, ⟨e, z.1, nc, by rw [z.2]; trivial⟩, z.2, vs, hv⟩
  | some dd =>
    obtain ⟨fs, hf⟩ := hd dd rfl
    have hx : ObjOk X.prog X.w H s.heap dd (.xd fs) := ext_rd I hf
    obtain ⟨mA, hns, hr⟩ := hx
    obtain ⟨od, ho, hl⟩ := lookIn_ns hns
    exact ⟨oe, some od, ⟨e, z.1, nc, by rw [z.2]; exact ho⟩, z.2, vs, hv⟩
end
def rIsX (K : PySem.W.Frag) : List V → Hp → VK → Prop := fun xs H Q => ∃ (a C : Addr) (d : Option Addr) (c : V) (cv : Value) (b : Bool), xs = [.ref a, c] ∧ Rd H a (ExT (.ref C) d a) ∧ (∀ dd, d = some dd → ∃ fs, Rd H dd (.xd fs)) ∧ ExcQ K C ∧
  (∀ u, RelV c u → u = cv) ∧ PySem.W.kitOne K (.ref C) cv = some b ∧ Q (.bl b) H
theorem call_isX {X : Cx} : CallR X (.builtin "isinstance") (rIsX X.K) := by
  intro pins s σ H xs us Q I r h
  obtain ⟨a, C, d, c, cv, b, rfl, ha, hd, T, hcv, e, q⟩ := h
  cases r with
  | cons rx rr =>
    cases rr with
    | cons rt rr =>
      cases rr
      cases rx
      have ec := hcv _ rt
      subst ec
      obtain ⟨oe, od, J, _⟩ := exT_at I ha hd
      exact PySem.W.kia_one (PySem.W.kitx_exc T.hcl T.hga T.hgt T.hsub T.ha T.hn T.htk T.hm) I.kIn J e (fun z => nomatch z) fun tk => ⟨.bl b, H, I.kept (t' := tk) fun _ _ z => z, rfl, q⟩
def rIsXT (K : PySem.W.Frag) : List V → Hp → VK → Prop := fun xs H Q => ∃ (a C : Addr) (d : Option Addr) (tp : Addr) (cs : List V) (ws : List Value) (b : Bool), xs = [.ref a, .ref tp] ∧ Rd H a (ExT (.ref C) d a) ∧ (∀ dd, d = some dd → ∃ fs, Rd H dd (.xd fs)) ∧ ExcQ K C ∧
  H tp = some (.tup cs) ∧ Paired ClsV cs ws ∧ PySem.W.kitAny K (.ref C) ws = some b ∧ Q (.bl b) H
theorem call_isXT {X : Cx} : CallR X (.builtin "isinstance") (rIsXT X.K) := by
  intro pins s σ H xs us Q I r h
  obtain ⟨a, C, d, tp, cs, ws, b, rfl, ha, hd, T, hT, k, e, q⟩ := h
  obtain ⟨u1, u2, rfl, r1, r2⟩ := vals2 r
  cases (show u1 = Value.ref a from r1)
  cases (show u2 = Value.ref tp from r2)
  obtain ⟨oe, od, J, _⟩ := exT_at I ha hd
  obtain ⟨_, its, rv, o, h1, h2, n, h3⟩ := (show ObjOk X.prog X.w H s.heap tp (.tup cs) from I.hok tp _ hT)
  have e3 := ClsV.all k rv
  subst e3
  obtain ⟨oc, odd, dt, sl⟩ := o
  simp only at h2 h3
  subst h2 h3
  exact PySem.W.kia_tup (PySem.W.kitx_exc T.hcl T.hga T.hgt T.hsub T.ha T.hn T.htk T.hm) I.kIn J h1 e (fun z => nomatch z) fun tk => ⟨.bl b, H, I.tok tk, rfl, q⟩
/-- x.f -/
theorem pe_xfT {X : Cx} {e : Expr} {te : TE} {pos : Pos} {n : Str} (he : PE X e te) (hb : attributeBase e n X.env (eval e X.env) = eval e X.env := by rfl) :
    PE X (.Attribute e n pos) (fun σ H Q => te σ H fun x H1 => ∃ (a C dd : Addr) (fs : List (Str × V)) (v : V), x = .ref a ∧ Rd H1 a (ExT (.ref C) (some dd) a) ∧ Rd H1 dd (.xd fs) ∧ fs.lookup n = some v ∧ ExcQ X.K C ∧ PySem.W.hasDictIn X.K C = true ∧ PySem.W.findIn X.K (.ref C) n = some none ∧ Q v H1) := by
  refine ⟨fun pins s σ H Q I h => ?_⟩
  refine attr_of hb (thn (he.run pins s σ H _ I h) fun u s1 hh => ?_)
  obtain ⟨x, H1, I1, rx, a, C, dd, fs, v, ex, ha, hf, hl0, T, hdC, hno, q⟩ := hh
  subst ex
  obtain rfl : u = Value.ref a := rx
  obtain ⟨⟨oe, vs, e1, z, hv⟩, _⟩ := ext_rd I1 ha
  have hx : ObjOk X.prog X.w H1 s1.heap dd (.xd fs) := ext_rd I1 hf
  obtain ⟨mA, hns, hr⟩ := hx
  obtain ⟨od, ho, hl⟩ := lookIn_ns hns
  obtain ⟨u, hu, ru⟩ := RelO.some_of (v := v) (o := mA n) (by rw [← hl0]; exact hr n)
  have J : PySem.W.InstAt s1.heap a oe C (some od) := ⟨e1, z.1, by unfold PySem.W.notCls; rw [hv] <;> rfl, by rw [z.2]; exact ho⟩
  exact HandSPX.exc_get I1.kIn J T.hga T.hgt T.hsub (PySem.W.findObj_own hdC hno rfl (by rw [hl, hu])) (handed_of ru) ⟨v, H1, I1.tok _, ru, q⟩
/-! ### except (C1, C2, ..) -/
section
variable {X : Cx}
/-- the names, loaded one by one -/
theorem spl_names {a : Addr} {pn pins : List (Addr × Obj)} {σ : L2.St} {H : Hp} {s : Shared} {pos : Pos} (I : Inv (X.suite a pn) pins σ H s) : ∀ (l : List (Str × Pos × Value)), (∀ e ∈ l, Names X e.1 e.2.2) → ∀ {Q : List Value → Shared → Prop} {E : Value → Shared → Prop}, Q (l.map fun e => e.2.2) s →
    wpAny (model X.prog X.w) (X.A.mark (some (.ref a))) (spliced (backTo pos (starEach (l.map fun e => Expr.Name e.1 e.2.1) X.env))) Q E s
  | [], _, Q, E, q => spliced_none q
  | e :: l, hl, Q, E, q => by
    refine spliced_more ?_ rfl
    have go : wpAny (model X.prog X.w) (X.A.mark (some (.ref a))) (spliced (backTo pos (starEach (l.map fun e => Expr.Name e.1 e.2.1) X.env))) (fun vs s₂ => Q (e.2.2 :: vs) s₂) E s := spl_names I l (fun e' h => hl e' (List.mem_cons_of_mem _ h)) q
    obtain ⟨hg, hdbg, hm | ⟨hm, hv, hnn⟩⟩ := hl e List.mem_cons_self
    · exact ld_glob (X := X.suite a pn) I hg hm go hdbg
    · exact ld_blt (X := X.suite a pn) I hg hm hv go hnn hdbg
theorem test_tup {l : List (Str × Pos × Value)} {k : Nat} {tp : Pos} (hl : ∀ e ∈ l, Names X e.1 e.2.2) (hz : l.length ≤ sizeLine)
    (hx : ∀ {h : Heap} {cls : Value} {e t : Addr} {b : Bool}, X.K.In h → PySem.W.Looks (model X.prog X.w) h (typeOf (.ref e)) cls → h.get? t = some { cls := .type "tuple", data := .seq (l.map fun e => e.2.2).toArray } → PySem.W.exmAny X.K cls (l.map fun e => e.2.2) = some b → PySem.W.Looks (model X.prog X.w) h (excMatches (.ref e) (.ref t)) b) :
    TestOk X (.Tuple (l.map fun e => Expr.Name e.1 e.2.1) k tp) (fun cls => PySem.W.exmAny X.K cls (l.map fun e => e.2.2)) := by
  intro a pn pins σ H s cls b oe I ha hcl hm Q E q
  refine wpAny_Tuple_spliced (spl_names I l hl ⟨by rw [List.length_map]; exact hz, ?_⟩)
  have kk : ∀ b o, s.heap.get? b = some o → (s.heap.push { cls := .type "tuple", data := .seq (l.map fun e => e.2.2).toArray }).get? b = some o := fun b o e => Heap.get?_push_of_some _ e
  refine q _ _ kk (hx (I.kIn.keeps kk) (fun A Q E s' k q => wpAny_typeOf_ref (k _ _ (kk _ _ ha)) (by rw [hcl]; exact q)) (Heap.get?_push_at rfl rfl) hm)
end
end DI

set_option maxRecDepth 100000
/-! DI24: xs.index(x), d.get(k), {k: v, ..}. -/
namespace DI
open PySem PySem.Spec PyProof.Rows L2
theorem firstIx_some {y : D} : ∀ {xs : List D} {j : Nat}, firstIx y xs = some j → ∃ z, xs[j]? = some z ∧ PyData.eqv z y = true ∧ ∀ (m : Nat) (z' : D), m < j → xs[m]? = some z' → PyData.eqv z' y = false
  | [], j, h => by cases h
  | z :: r, j, h => by
    simp only [firstIx] at h
    cases e : PyData.eqv z y with
    | true =>
      rw [if_pos e] at h
      cases h
      exact ⟨z, rfl, e, fun m z' hm _ => absurd hm (Nat.not_lt_zero _)⟩
    | false =>
      rw [e, if_neg Bool.false_ne_true] at h
      cases e2 : firstIx y r with
      | none => rw [e2] at h; cases h
      | some k =>
        rw [e2] at h
        cases h
        obtain ⟨z1, g1, g2, g3⟩ := firstIx_some e2
        refine ⟨z1, by simpa using g1, g2, fun m z' hm hz => ?_⟩
        cases m with
        | zero =>
          have : z = z' := by simpa using hz
          rw [← this]
          exact e
        | succ m => exact g3 m z' (Nat.lt_of_succ_lt_succ hm) (by simpa using hz)
section
variable {X : Cx} {Φ : Fns} {a e : Expr} {xa xe : Xp} {apos cpos pos : Pos}
theorem ev_mi_inv {m : Mi} {env env' : Env} {r : R} (h : ev Φ (.mi m xa xe) env = some (r, env')) :
    ∃ r1 en1 r2 d0 d y z, ev Φ xa env = some (r1, en1) ∧ r1.val en1 = some d0 ∧ miT m d0 = true ∧ ev Φ xe en1 = some (r2, env') ∧ r1.val env' = some d ∧ r2.val env' = some y ∧ miD m d y = some z ∧ r = .im z := by
  simp only [ev] at h
  obtain ⟨r1, en1, e1, h⟩ := ev_inv1 h
  cases f1 : r1.val en1 with
  | none => rw [f1] at h; cases h
  | some d0 =>
    rw [f1] at h
    dsimp only at h
    split at h
    · rename_i ht
      obtain ⟨r2, en2, e2, h⟩ := ev_inv1 h
      cases f2 : r1.val en2 with
      | none => rw [f2] at h; cases h
      | some d =>
        rw [f2] at h
        cases f3 : r2.val en2 with
        | none => rw [f3] at h; cases h
        | some y =>
          rw [f3] at h
          dsimp only at h
          cases g : miD m d y with
          | none => rw [g] at h; cases h
          | some z =>
            rw [g] at h
            cases h
            exact ⟨r1, en1, r2, d0, d, y, z, e1, f1, ht, e2, f2, f3, g, rfl⟩
    · cases h
theorem snd_index (hu : X.A.units + 65 < cLine) (ha : Snd Φ X a xa) (he : Snd Φ X e xe) (ns : notStar e = true := by rfl)
    (hbase : attributeBase a "index" X.env (eval a X.env) = eval a X.env := by rfl)
    (hfew : ((backTo cpos (starEach [e] X.env)).all (fun x => !x.1) && (backToKw cpos (keywordEach [] X.env)).all (fun x => x.1.isSome)
      && decide ([e].length + ([] : List Keyword).length + (if ([] : List Keyword).isEmpty then 0 else 1) < 30)) = true := by rfl)
    (hline : (apos.endLine == cpos.line) = true := by rfl) (hplain : (backTo cpos (starEach [] X.env)).any (·.1) = false := by rfl) :
    Snd Φ X (.Call (.Attribute a "index" apos) [e] [] cpos) (.mi .index xa xe) := .mk fun env r env' h S σ H ok Q q => by
  obtain ⟨r1, en1, r2, d0, d, y, z, e1, f1, ht, e2, f2, f3, g, rfl⟩ := ev_mi_inv h
  refine any_of (pe_bm PySem.F.plainAttrs_list PySem.F.slot_list_index PySem.F.type_list_index (mt_indexD hu) pe_any (pa_cons pe_any pa_nil (star_cons ns)) hbase hfew hline (star_cons ns) hplain) ?_
  refine ha env r1 en1 e1 S σ H ok _ fun v S1 H1 P => ?_
  have rc := P.rv.repC P.ok f1
  cases d0 <;> first | cases ht | skip
  obtain ⟨p, ws, rfl, g1, _⟩ := rc
  refine ⟨.inl ⟨rfl, ws, g1⟩, he en1 r2 env' e2 S1 σ H1 P.ok _ fun v2 S2 H2 P2 => ?_⟩
  cases d <;> first | cases g | skip
  rename_i xs
  simp only [miD] at g
  split at g
  · rename_i hc
    rw [Bool.and_eq_true] at hc
    cases e3 : firstIx y xs with
    | none => rw [e3] at g; cases g
    | some j =>
      rw [e3] at g
      cases g
      obtain ⟨z1, k1, k2, k3⟩ := firstIx_some e3
      have h1 := (P.rv.step P.ok P2.fw).rep P2.ok f2
      have h2 := P2.rv.rep P2.ok f3
      exact ⟨p, v2, y, xs, j, z1, rfl, rfl, h1.dp (SeqAt.canLay_of_shaped hc.1), h2.dp (SeqAt.canLay_of_shaped hc.2), hc.1, hc.2, k1, k2, k3,
        q _ _ _ ((Post.leaf (F := H2) P2.ok (.int _) rfl).after (P.fw.trans P2.fw))⟩
  · cases g
theorem look_none {K : PySem.W.Frag} {F : Hp} {k : Key} : ∀ {kvs : List (Key × V)} {ds : List (D × D)}, RepKV K F kvs ds → lookD ds (kD k) = none → valV kvs k = none
  | _, _, .nil, _ => rfl
  | _, _, .cons (k := j) (v := w) (d := e) (vs := vs) (ds := ds) h r, g => by
    simp only [lookD, eqv_key] at g
    unfold valV
    by_cases q : j = k
    · rw [decide_eq_true q, if_pos rfl] at g
      cases g
    · rw [decide_eq_false q, if_neg Bool.false_ne_true] at g
      rw [List.find?_cons_of_neg (by simpa using q)]
      exact look_none r g
theorem snd_get (hu : X.A.units + 65 < cLine) (ha : Snd Φ X a xa) (he : Snd Φ X e xe) (ns : notStar e = true := by rfl)
    (hbase : attributeBase a "get" X.env (eval a X.env) = eval a X.env := by rfl)
    (hfew : ((backTo cpos (starEach [e] X.env)).all (fun x => !x.1) && (backToKw cpos (keywordEach [] X.env)).all (fun x => x.1.isSome)
      && decide (([e] : List Expr).length + ([] : List Keyword).length + (if ([] : List Keyword).isEmpty then 0 else 1) < 30)) = true := by rfl)
    (hline : (apos.endLine == cpos.line) = true := by rfl) (htrees : backTo cpos (starEach [e] X.env) = [(false, eval e X.env)] := by rfl) :
    Snd Φ X (.Call (.Attribute a "get" apos) [e] [] cpos) (.mi .get xa xe) := .mk fun env r env' h S σ H ok Q q => by
  obtain ⟨r1, en1, r2, d0, d, y, z, e1, f1, ht, e2, f2, f3, g, rfl⟩ := ev_mi_inv h
  refine any_of (pe_dget1 (by omega) pe_any pe_any ⟨hbase, hfew, hline, htrees⟩) ?_
  refine ha env r1 en1 e1 S σ H ok _ fun v S1 H1 P => ?_
  have rc := P.rv.repC P.ok f1
  cases d0 <;> first | cases ht | skip
  obtain ⟨p, ws, rfl, g1, _⟩ := RepC.dic rc ht
  refine ⟨p, rfl, .inl ⟨ws, g1⟩, he en1 r2 env' e2 S1 σ H1 P.ok _ fun v2 S2 H2 P2 => ?_⟩
  cases d <;> first | cases g | skip
  rename_i kvs
  simp only [miD] at g
  split at g
  · rename_i hc
    cases g
    rw [Bool.and_eq_true] at hc
    obtain ⟨p', ks, e4, hr, hk⟩ := RepC.dic ((P.rv.step P.ok P2.fw).repC P2.ok f2) hc.1
    cases e4
    obtain ⟨k, rfl, ey⟩ := key_of (P2.rv.rep P2.ok f3) hc.2
    subst ey
    refine ⟨valV ks k, .inl ⟨ks, k, hr, rfl, rfl⟩, ?_⟩
    cases e5 : lookD kvs (kD k) with
    | none =>
      rw [look_none hk e5]
      rw [e5] at q
      exact q _ _ _ ((Post.leaf (F := H2) P2.ok .non rfl).after (P.fw.trans P2.fw))
    | some d =>
      obtain ⟨w, g1, g2⟩ := look_rep hk e5
      rw [g1]
      rw [e5] at q
      exact q _ _ _ ((Post.same P2.ok (show RV _ _ _ _ _ (.im d) w from g2) fun _ z => by cases z).after (P.fw.trans P2.fw))
  · cases g
/-! ### {k: v, ..} -/
/-- the pairs of a display -/
structure SndPs (Φ : Fns) (X : Cx) (pos : Pos) (ks : List (Option Expr)) (vs : List Expr) (xs : Xps) (trs : List (TE × TE)) : Prop where
  pps : PPs X pos ks vs trs
  run : ∀ env ds env', evS Φ xs env = some (ds, env') → ∀ kvs, pairsD ds = some kvs → ∀ (S : Addr → Prop) (σ : L2.St) (H : Hp), EnvOk X.K S σ H env →
    ∀ Q : List (V × V) → Hp → Prop, (∀ (ws : List (Key × V)) S' H', Fw S H σ env S' H' σ env' → EnvOk X.K S' σ H' env' → RepKV X.K (er S' H') ws kvs → Q (ws.map fun kv => (kV kv.1, kv.2)) H') → tPairs trs σ H Q
theorem sndPs_nil : SndPs Φ X pos [] [] .nil [] := ⟨pps_nil, fun env ds env' h kvs hk S σ H ok Q q => by
  simp only [evS] at h
  cases h
  cases hk
  exact q [] S H Fw.refl ok .nil⟩
theorem evS_cons_inv {x : Xp} {xs : Xps} {env env' : Env} {ds : List D} (h : evS Φ (.cons x xs) env = some (ds, env')) :
    ∃ r en1 d en2 ds', ev Φ x env = some (r, en1) ∧ sto r en1 = some (d, en2) ∧ evS Φ xs en2 = some (ds', env') ∧ ds = d :: ds' := by
  simp only [evS] at h
  cases e1 : ev Φ x env with
  | none => rw [e1] at h; cases h
  | some p1 =>
    obtain ⟨r, en1⟩ := p1
    rw [e1] at h
    dsimp only at h
    cases e2 : sto r en1 with
    | none => rw [e2] at h; cases h
    | some p2 =>
      obtain ⟨d, en2⟩ := p2
      rw [e2] at h
      dsimp only at h
      cases e3 : evS Φ xs en2 with
      | none => rw [e3] at h; cases h
      | some p3 =>
        obtain ⟨ds', en3⟩ := p3
        rw [e3] at h
        cases h
        exact ⟨r, en1, d, en2, ds', rfl, e2, e3, rfl⟩
theorem sndPs_cons {k v : Expr} {xk xv : Xp} {ks : List (Option Expr)} {vs : List Expr} {xs : Xps} {trs : List (TE × TE)} (hk : Snd Φ X k xk) (hv : Snd Φ X v xv) (hr : SndPs Φ X pos ks vs xs trs) :
    SndPs Φ X pos (some k :: ks) (v :: vs) (.cons xk (.cons xv xs)) ((AnyE X k, AnyE X v) :: trs) := ⟨pps_cons pe_any pe_any hr.pps, fun env ds env' h kvs hkv S σ H ok Q q => by
  obtain ⟨r1, en1, d1, en2, ds1, e1, e2, h1, g1⟩ := evS_cons_inv h
  obtain ⟨r2, en3, d2, en4, ds2, e3, e4, h2, g2⟩ := evS_cons_inv h1
  rw [g1, g2] at hkv
  simp only [pairsD] at hkv
  split at hkv
  · rename_i hc
    cases e5 : pairsD ds2 with
    | none => rw [e5] at hkv; cases hkv
    | some kvs' =>
      rw [e5] at hkv
      cases hkv
      refine hk env r1 en1 e1 S σ H ok _ fun v1 S1 H1 P => ?_
      obtain ⟨S2, f2, ok2, rp1⟩ := P.sto e2
      obtain ⟨key, rfl, ev1⟩ := key_of (rp1.mono er_full) hc
      subst ev1
      refine hv en2 r2 en3 e3 S2 σ H1 ok2 _ fun v2 S3 H3 P3 => ?_
      obtain ⟨S4, f4, ok4, rp2⟩ := P3.sto e4
      refine hr.run en4 ds2 env' h2 kvs' e5 S4 σ H3 ok4 _ fun ws S5 H5 f5 ok5 rk => ?_
      exact q ((key, v2) :: ws) S5 H5 ((f2.trans f4).trans f5) ok5 (.cons (rp2.mono (f5.le ok4)) rk)
  · cases hkv⟩
theorem merge_rep {K : PySem.W.Frag} {F : Hp} : ∀ {ws : List (Key × V)} {kvs : List (D × D)} {acc : List (Key × V)} {ad : List (D × D)}, RepKV K F acc ad → RepKV K F ws kvs →
    RepKV K F (ws.foldl (fun acc kv => putK acc kv.1 kv.2) acc) (kvs.foldl (fun acc kv => putD acc kv.1 kv.2) ad)
  | _, _, _, _, ha, .nil => ha
  | _, _, _, _, ha, .cons h r => by
    rw [List.foldl_cons, List.foldl_cons]
    exact merge_rep (RepKV.put h ha) r
theorem snd_dct {ks : List (Option Expr)} {vs : List Expr} {xs : Xps} {trs : List (TE × TE)} (h : SndPs Φ X pos ks vs xs trs) (hall : ks.all (·.isSome) = true := by rfl) (hl : ks.length = vs.length := by rfl) (h0 : ks ≠ [] := by exact List.cons_ne_nil _ _) (h15 : ks.length ≤ 15 := by decide) :
    Snd Φ X (.Dict ks vs pos) (.dct xs) := .mk fun env r env' hv S σ H ok Q q => by
  simp only [ev] at hv
  cases e1 : evS Φ xs env with
  | none => rw [e1] at hv; cases hv
  | some p1 =>
    obtain ⟨ds, en1⟩ := p1
    rw [e1] at hv
    dsimp only at hv
    cases e2 : pairsD ds with
    | none => rw [e2] at hv; cases hv
    | some kvs =>
      rw [e2] at hv
      dsimp only at hv
      split at hv
      · rename_i hc
        cases hv
        refine any_of (pe_disp h.pps hall hl h0 h15) fun p hp => ?_
        have P0 : Post X.K S H σ env (.fr (.dict [])) env (.ref p) (fun a => S a ∨ a = p) (upd H p (.dK [])) := Post.dic ok hp .nil
        refine h.run env ds env' e1 kvs e2 _ σ _ P0.ok _ fun ws S2 H2 f2 ok2 rk => ?_
        obtain ⟨p', ep, hs, hc1, hl1, ho, hm⟩ := P0.rv.step P0.ok f2
        cases ep
        have hn : H2 p = some (.dK []) := f2.fr p _ upd_same fun z => by
          rcases z with z | z
          · exact ok.dom p (ok.owns z) hp
          · exact ok.dom p (ok.owns z) hp
        have wl : ws.length = kvs.length := rk.length
        refine ⟨hn, ws, rfl, by rw [wl]; exact of_decide_eq_true hc, ?_⟩
        have F0 := P0.fw.trans f2
        have eu : er S2 (upd H2 p (.dK (mergeK [] ws))) = er S2 H2 := er_upd hs
        have ok3 : EnvOk X.K S2 σ (upd H2 p (.dK (mergeK [] ws))) env' := by
          refine ok2.move (by rw [eu]; exact Le.refl _) (fun k a z => ⟨ok2.owns z, upd_ne fun w => ?_⟩) fun a z => upd_dom (ok2.dom a z)
          subst w
          cases k with
          | own => exact hc1 (.inl z)
          | bor => exact hc1 (.inr z)
          | lck => exact hl1 z
        refine q (.ref p) S2 _ ⟨⟨F0.sub, F0.kp, fun a o z n => ?_, F0.own, F0.bo, F0.bo', F0.lk, F0.lk', fun a z => upd_dom (F0.dm a z)⟩, ok3, ⟨p, rfl, hs, hc1, hl1, (.inl ⟨_, .inl upd_same, ?_⟩), by rw [upd_same]; exact True.intro⟩, fun d p2 _ e => by cases e; exact hp⟩
        · rw [upd_ne (ne_of_none z hp)]
          exact F0.fr a o z n
        · rw [eu]
          exact merge_rep .nil rk
      · cases hv
/-- {} -/
theorem snd_dct0 : Snd Φ X (.Dict [] [] pos) (.dct .nil) := .mk fun env r env' hv S σ H ok Q q => by
  simp only [ev, evS, pairsD] at hv
  cases hv
  exact any_of pe_dnewK fun p hp => q _ _ _ (Post.dic ok hp .nil)
end
end DI

set_option maxRecDepth 100000
/-! DI25: isinstance(x, C), x.f of an error. -/
namespace DI
open PySem PySem.Spec PyProof.Rows L2
section
variable {X : Cx} {Φ : Fns} {a : Expr} {xa : Xp} {pos : Pos}
theorem clsAt_eq {K : PySem.W.Frag} {c : Str} {C C' : Addr} (h : ClsAt K c C) (h' : ClsAt K c C') : C = C' := by
  unfold ClsAt at h h'
  rw [h] at h'
  cases h'
  rfl
/-- the heap has the tracked error itself -/
theorem rd_ext {H : Hp} {b : Addr} {C : Addr} {d : Option Addr} (h : Rd H b (ExT (.ref C) d b)) : Rd H b (ExT (.ref C) d b) := h
theorem ev_xis_inv {tb : List (Str × Bool)} {env env' : Env} {r : R} (h : ev Φ (.xis xa tb) env = some (r, env')) : ∃ r1 d k, ev Φ xa env = some (r1, env') ∧ r1.val env' = some d ∧ xisD tb d = some k ∧ r = .im (.bool k) := by
  simp only [ev] at h
  obtain ⟨r1, en1, e1, h⟩ := ev_inv1 h
  cases f1 : r1.val en1 with
  | none => rw [f1] at h; cases h
  | some d =>
    rw [f1] at h
    dsimp only [Option.bind] at h
    cases g : xisD tb d with
    | none => rw [g] at h; cases h
    | some k =>
      rw [g] at h
      cases h
      exact ⟨r1, d, k, e1, f1, g, rfl⟩
theorem ev_fld_inv {cs : List Str} {n : Str} {env env' : Env} {r : R} (h : ev Φ (.fld xa cs n) env = some (r, env')) : ∃ r1 c x, ev Φ xa env = some (r1, env') ∧ r1.val env' = some (.dict [(.none, .str c), (.str n, x)]) ∧ c ∈ cs ∧ r = .im x := by
  simp only [ev] at h
  obtain ⟨r1, en1, e1, h⟩ := ev_inv1 h
  cases f1 : r1.val en1 with
  | none => rw [f1] at h; cases h
  | some d =>
    rw [f1] at h
    dsimp only [Option.bind] at h
    unfold fldD at h
    split at h
    · rename_i z h2
      cases h
      split at h2
      · rename_i c m x
        split at h2
        · rename_i hm
          cases h2
          obtain ⟨hm, hc⟩ := hm
          subst hm
          exact ⟨r1, c, _, e1, f1, hc, rfl⟩
        · cases h2
      · cases h2
    · cases h
theorem repkv_plain {K : PySem.W.Frag} {F : Hp} : ∀ {ws : List (Key × V)} {kvs : List (D × D)}, RepKV K F ws kvs → plainK kvs = true
  | _, _, .nil => rfl
  | _, _, .cons (k := k) h r => by
    have := repkv_plain r
    unfold plainK at this ⊢
    rw [List.all_cons, this]
    cases k <;> rfl
/-- what is asked of the classes, so that their errors' fields are read -/
def FldQ (K : PySem.W.Frag) (cs : List Str) (n : Str) : Prop := ∀ c ∈ cs, ∃ C, ClsAt K c C ∧ ExcQ K C ∧ PySem.W.hasDictIn K C = true ∧ PySem.W.findIn K (.ref C) n = some none
/-- x.f -/
theorem snd_fld {cs : List Str} {n : Str} (hT : FldQ X.K cs n) (ha : Snd Φ X a xa) (hb : attributeBase a n X.env (eval a X.env) = eval a X.env := by rfl) :
    Snd Φ X (.Attribute a n pos) (.fld xa cs n) := .mk fun env r env' h S σ H ok Q q => by
  obtain ⟨r1, c, x, e1, f1, hc, rfl⟩ := ev_fld_inv h
  refine any_of (pe_xfT pe_any hb) (ha env r1 env' e1 S σ H ok _ fun v S1 H1 P => ?_)
  have rp := P.rv.repC P.ok f1
  rcases rp with ⟨a1, kvs, _, _, g⟩ | rp | ⟨_, a1, kvs, _, _, g⟩
  · exact absurd (repkv_plain g) (by simp [plainK, isKey])
  · cases rp with
    | dic _ g => exact absurd (repkv_plain g) (by simp [plainK, isKey])
    | dicT _ _ g => exact nomatch g
    | exc1 g1 g2 g3 g4 =>
      obtain ⟨C, t0, t1, t2, t3⟩ := hT _ hc
      have e := clsAt_eq g1 t0
      subst e
      exact ⟨_, _, _, _, _, rfl, er_full _ _ g2, er_full _ _ g3, by simp [List.lookup], t1, t2, t3, q _ _ _ ((Post.same P.ok (show RV _ _ _ _ _ (.im x) _ from g4) fun _ z => by cases z).after P.fw)⟩
  · exact nomatch g
end
end DI

set_option maxRecDepth 100000
/-! DI26: isinstance(x, C) of an error, or of None. -/
namespace DI
open PySem PySem.Spec PyProof.Rows L2
section
variable {X : Cx} {Φ : Fns} {a t : Expr} {xa : Xp} {pos : Pos}
/-- the answers of isinstance for the class cw, by the error's class -/
def IsQ (K : PySem.W.Frag) (tb : List (Str × Bool)) (cw : Value) : Prop := PySem.W.kitOne K (.type "NoneType") cw = some false ∧ ∀ c b, tb.lookup c = some b → ∃ C, ClsAt K c C ∧ ExcQ K C ∧ PySem.W.kitOne K (.ref C) cw = some b
theorem rep_exc {K : PySem.W.Frag} {S : Addr → Prop} {H : Hp} {v : V} {c : Str} {r : List (D × D)} (h : RepC K S H v (.dict ((.none, .str c) :: r))) : ∃ b C d, v = .ref b ∧ ClsAt K c C ∧ Rd H b (ExT (.ref C) d b) ∧ ∀ dd, d = some dd → ∃ fs, Rd H dd (.xd fs) := by
  rcases h with ⟨a1, kvs, _, _, g⟩ | h | ⟨_, a1, kvs, _, _, g⟩
  · exact absurd (repkv_plain g) (by simp [plainK, isKey])
  · cases h with
    | dic _ g => exact absurd (repkv_plain g) (by simp [plainK, isKey])
    | dicT _ _ g => exact nomatch g
    | exc0 g1 g2 => exact ⟨_, _, none, rfl, g1, er_full _ _ g2, fun _ z => by cases z⟩
    | exc1 g1 g2 g3 g4 => exact ⟨_, _, some _, rfl, g1, er_full _ _ g2, fun dd z => by cases z; exact ⟨_, er_full _ _ g3⟩⟩
  · exact nomatch g
theorem snd_xis {tb : List (Str × Bool)} {cv : V} {cw : Value} {y : Str} {p : Pos} (hg : Gl X y) (hm : X.mg y = none) (hv : bootBuiltins y = some (.builtin "isinstance")) (ha : Snd Φ X a xa) (ht : PE X t (tC cv)) (hcv : ClsV cv cw) (hT : IsQ X.K tb cw)
    (hn : y ≠ "__name__" := by decide) (hdb : (y == ("__debug__" : Str)) = false := by decide) (hs : starEach [a, t] X.env = (false, eval a X.env) :: starEach [t] X.env := by exact star_cons rfl) (hs2 : starEach [t] X.env = (false, eval t X.env) :: starEach [] X.env := by exact star_cons rfl)
    (hpl : (backTo pos (starEach [t] X.env)).any (·.1) = false := by rfl) : Snd Φ X (.Call (.Name y p) [a, t] [] pos) (.xis xa tb) := .mk fun env r env' h S σ H ok Q q => by
  obtain ⟨r1, d, k, e1, f1, g, rfl⟩ := ev_xis_inv h
  unfold xisD at g
  split at g
  · cases g
    exact any_of (pe_callB call_isi hg hm hv (pa_cons pe_any (pa_cons ht pa_nil hs2) hs) hn hdb hs hpl) (ha env r1 env' e1 S σ H ok _ fun v S1 H1 P =>
      ⟨v, cv, _, _, false, rfl, hcv, tyx_of (P.rv.rep P.ok f1) rfl, hT.1, q _ _ _ ((Post.leaf (F := H1) P.ok (.bl _) rfl).after P.fw)⟩)
  · rename_i c rest
    refine any_of (pe_callB call_isX hg hm hv (pa_cons pe_any (pa_cons ht pa_nil hs2) hs) hn hdb hs hpl) (ha env r1 env' e1 S σ H ok _ fun v S1 H1 P => ?_)
    obtain ⟨b, C, d, rfl, g1, g2, g3⟩ := rep_exc (P.rv.repC P.ok f1)
    obtain ⟨C', t0, t1, t2⟩ := hT.2 _ _ g
    have e := clsAt_eq g1 t0
    subst e
    exact ⟨b, C, d, cv, cw, k, rfl, g2, g3, t1, fun u ru => hcv.eq ru, t2, q _ _ _ ((Post.leaf (F := H1) P.ok (.bl _) rfl).after P.fw)⟩
  · cases g
/-- .. for several classes -/
def IsQT (K : PySem.W.Frag) (tb : List (Str × Bool)) (cws : List Value) : Prop := PySem.W.kitAny K (.type "NoneType") cws = some false ∧ ∀ c b, tb.lookup c = some b → ∃ C, ClsAt K c C ∧ ExcQ K C ∧ PySem.W.kitAny K (.ref C) cws = some b
theorem snd_xisT {tb : List (Str × Bool)} {ts : List Expr} {cvs : List V} {cws : List Value} {y : Str} {p p3 : Pos} {k3 : Nat} (hg : Gl X y) (hm : X.mg y = none) (hv : bootBuiltins y = some (.builtin "isinstance")) (ha : Snd Φ X a xa) (ht : PA X ts (fun _ H Q => Q cvs H)) (hcv : Paired ClsV cvs cws) (hT : IsQT X.K tb cws)
    (hl : cvs.length ≤ lim := by decide) (hn : y ≠ "__name__" := by decide) (hdb : (y == ("__debug__" : Str)) = false := by decide) (hs : starEach [a, .Tuple ts k3 p3] X.env = (false, eval a X.env) :: starEach [.Tuple ts k3 p3] X.env := by exact star_cons rfl) (hs2 : starEach [.Tuple ts k3 p3] X.env = (false, eval (.Tuple ts k3 p3) X.env) :: starEach [] X.env := by exact star_cons rfl)
    (hpl : (backTo pos (starEach [.Tuple ts k3 p3] X.env)).any (·.1) = false := by rfl) : Snd Φ X (.Call (.Name y p) [a, .Tuple ts k3 p3] [] pos) (.xis xa tb) := .mk fun env r env' h S σ H ok Q q => by
  obtain ⟨r1, d, k, e1, f1, g, rfl⟩ := ev_xis_inv h
  unfold xisD at g
  split at g
  · cases g
    refine any_of (pe_callB call_isiT hg hm hv (pa_cons pe_any (pa_cons (pe_tup ht) pa_nil hs2) hs) hn hdb hs hpl) (ha env r1 env' e1 S σ H ok _ fun v S1 H1 P => ?_)
    refine ⟨lim_line hl, fun tp htp => ⟨v, tp, _, _, _, false, rfl, upd_same, hcv, tyx_of ((P.rv.rep P.ok f1).mono (le_upd htp)) rfl, hT.1, ?_⟩⟩
    exact q _ _ _ ((Post.leaf (F := H1) (P.ok.new htp) (.bl _) rfl).after (P.fw.trans (Fw.new htp)))
  · refine any_of (pe_callB call_isXT hg hm hv (pa_cons pe_any (pa_cons (pe_tup ht) pa_nil hs2) hs) hn hdb hs hpl) (ha env r1 env' e1 S σ H ok _ fun v S1 H1 P => ?_)
    obtain ⟨b, C, d, rfl, g1, g2, g3⟩ := rep_exc (P.rv.repC P.ok f1)
    obtain ⟨C', t0, t1, t2⟩ := hT.2 _ _ g
    have e := clsAt_eq g1 t0
    subst e
    refine ⟨lim_line hl, fun tp htp => ⟨b, C, d, tp, cvs, cws, k, rfl, le_upd htp _ _ g2, fun dd z => ?_, t1, upd_same, hcv, t2, ?_⟩⟩
    · obtain ⟨fs, hf⟩ := g3 dd z
      exact ⟨fs, le_upd htp _ _ hf⟩
    · exact q _ _ _ ((Post.leaf (F := H1) (P.ok.new htp) (.bl _) rfl).after (P.fw.trans (Fw.new htp)))
  · cases g
end
end DI

set_option maxRecDepth 100000
/-! DI27: raise, try. -/
namespace DI
open PySem PySem.Spec PyProof.Rows L2
section
variable {K : PySem.W.Frag} {S S' S0 : Addr → Prop} {H H' H0 : Hp} {σ σ0 : L2.St} {env env0 : Env}
/-- a slot that was shared data is empty -/
theorem gone_slot {i : Nat} {d : D} (ok : EnvOk K S σ H env) (hi : env[i]? = some (.im d)) (F : Fw S0 H0 σ0 env0 S H σ env) : EnvOk K S (σ.set i none) H (env.set i .un) ∧ Fw S0 H0 σ0 env0 S H (σ.set i none) (env.set i .un) := by
  have src : ∀ (j : Nat) s, s ≠ .un → (env.set i .un)[j]? = some s → i ≠ j ∧ env[j]? = some s := fun j s hs h => by
    rcases getElem?_set_cases h with ⟨_, e⟩ | ⟨ne, e⟩
    · exact absurd e hs
    · exact ⟨ne, e⟩
  have sne : ∀ {j : Nat}, i ≠ j → (σ.set i none)[j]? = σ[j]? := fun ne => List.getElem?_set_ne ne
  have owns : ∀ k a, OwnsK k (σ.set i none) (env.set i .un) a → OwnsK k σ env a := fun k a ⟨j, e, h1, h2⟩ => by
    obtain ⟨ne, h3⟩ := src j _ (fun z => by cases z) h1
    exact ⟨j, e, h3, by rw [← sne ne]; exact h2⟩
  have nei : ∀ (j : Nat) k e, env[j]? = some (.ow k e) → i ≠ j := fun j k e h z => by
    subst z
    rw [hi] at h
    cases h
  refine ⟨⟨by rw [List.length_set, List.length_set]; exact ok.len, ok.dom, fun j e h => ?_, fun j k e h => ?_, fun j l k k' e e' p h1 h2 h3 h4 => ?_⟩, ⟨F.sub, F.kp, F.fr, fun a h => F.own a (owns _ a h), fun j e h => ?_, fun j e h => ?_, fun j e h => ?_, fun j e h => ?_, F.dm⟩⟩
  · obtain ⟨ne, h1⟩ := src j _ (fun z => by cases z) h
    rw [sne ne]
    exact ok.im j e h1
  · obtain ⟨ne, h1⟩ := src j _ (fun z => by cases z) h
    rw [sne ne]
    exact ok.ow j k e h1
  · obtain ⟨n1, g1⟩ := src j _ (fun z => by cases z) h1
    obtain ⟨n2, g2⟩ := src l _ (fun z => by cases z) h2
    rw [sne n1] at h3
    rw [sne n2] at h4
    exact ok.inj j l k k' e e' p g1 g2 h3 h4
  · obtain ⟨e', h1, h2⟩ := F.bo j e h
    have ne := nei j _ _ h1
    exact ⟨e', by rw [List.getElem?_set_ne ne]; exact h1, by rw [sne ne]; exact h2⟩
  · obtain ⟨ne, h1⟩ := src j _ (fun z => by cases z) h
    obtain ⟨e', h2, h3⟩ := F.bo' j e h1
    exact ⟨e', h2, by rw [sne ne]; exact h3⟩
  · obtain ⟨h1, h2⟩ := F.lk j e h
    have ne := nei j _ _ h1
    exact ⟨by rw [List.getElem?_set_ne ne]; exact h1, by rw [sne ne]; exact h2⟩
  · obtain ⟨ne, h1⟩ := src j _ (fun z => by cases z) h
    obtain ⟨h2, h3⟩ := F.lk' j e h1
    exact ⟨h2, by rw [sne ne]; exact h3⟩
end
/-- what is asked of a class, so that raise C(x) stands -/
def RsF (P : Program) (K : PySem.W.Frag) (mg : Str → Option Value) (cn f : Str) : Prop := ∃ (B i newId : String) (bmB : List Value) (C fI : Addr), PySem.DX.ECls P K f B i newId bmB C fI ∧ ERs K C ∧ mg cn = some (.ref C) ∧ ClsAt K cn C
/-- .. raise C() -/
def RsZ (K : PySem.W.Frag) (mg : Str → Option Value) (cn : Str) : Prop := ∃ (B newId i : String) (bmB : List Value) (C : Addr), ExcBaseFacts B newId i bmB ∧ PySem.W.excIn K C bmB newId = true ∧ ERs K C ∧ mg cn = some (.ref C) ∧ ClsAt K cn C
/-- what an except clause takes -/
def TryQ (K : PySem.W.Frag) (tb : List (Str × Bool)) (m : Value → Option Bool) : Prop := ∀ c b, tb.lookup c = some b → ∃ C, ClsAt K c C ∧ m (.ref C) = some b
section
variable {Φ : Fns} {X : Cx} {a t : Expr} {xa : Xp} {pos pos' pos2 p p1 p2 p3 : Pos} {body : List Stmt} {smb : Sms}
theorem snd_rse {cn f : Str} {k : Nat} (hF : RsF X.prog X.K X.mg cn f) (hf : f = "part" ∨ f = "node" ∨ f = "block" ∨ f = "place" ∨ f = "number" ∨ f = "note") (hsup : X.mg "super" = none) (hc : X.calm = true) (hr : Room k X.A) (hg : Gl X cn) (he : Snd Φ X a xa)
    (hd : (cn == ("__debug__" : Str)) = false := by decide) (hs : starEach (a :: []) X.env = (false, eval a X.env) :: starEach [] X.env := by exact star_cons rfl) (hpl : (backTo pos (starEach [] X.env)).any (·.1) = false := by rfl) :
    SndSt Φ X (.Raise (some (.Call (.Name cn p) [a] [] pos)) none pos2) (.rse cn f xa) := .mk fun env o h S σ H ok D W tk q => by
  obtain ⟨B, i, newId, bmB, C, fI, T, R, gC, cC⟩ := hF
  simp only [exec] at h
  cases e1 : ev Φ xa env with
  | none => rw [e1] at h; cases h
  | some p1 =>
    obtain ⟨r, en1⟩ := p1
    rw [e1] at h
    dsimp only at h
    cases e2 : DI.sto r en1 with
    | none => rw [e2] at h; cases h
    | some p2 =>
      obtain ⟨d, en2⟩ := p2
      rw [e2] at h
      cases h
      refine anyS_of (ps_raiseF hc T hf R gC hsup hr hd tk (pa_cons pe_any pa_nil hs) hg hs hpl) (he env r en1 e1 S σ H ok _ fun v S1 H1 P => ⟨v, rfl, fun dd hdd => ?_⟩)
      obtain ⟨S2, f2, ok2, rp⟩ := P.sto e2
      have hS : ¬ S2 dd := fun z => ok2.dom dd z hdd
      exact q (.ref C) (some dd) σ S2 _ (f2.trans (Fw.new hdd)) (ok2.new hdd) ⟨C, cn, rfl, cC, .inr ⟨dd, f, v, d, rfl, .inl ((er_of hS).trans upd_same), rp.mono (Fw.le ok2 (Fw.new hdd)), rfl⟩⟩
theorem snd_rse0 {cn : Str} (hF : RsZ X.K X.mg cn) (hc : X.calm = true) (hg : Gl X cn) (hd : (cn == ("__debug__" : Str)) = false := by decide) :
    SndSt Φ X (.Raise (some (.Call (.Name cn p) [] [] pos)) none pos2) (.rse0 cn) := .mk fun env o h S σ H ok D W tk q => by
  obtain ⟨B, newId, i, bmB, C, F, e, R, gC, cC⟩ := hF
  simp only [exec] at h
  cases h
  exact anyS_of (ps_raise0 hc F e gC R tk hg hd) (q (.ref C) none σ S H Fw.refl ok ⟨C, cn, rfl, cC, .inl ⟨rfl, rfl⟩⟩)
theorem exr_rep {K : PySem.W.Frag} {S : Addr → Prop} {H : Hp} {cls : Value} {d : Option Addr} {y : D} {e : Addr} (x : ExR K (er S H) cls d y) (he : H e = none) (hS : ¬ S e) (le : Le (er S H) (er S (upd H e (ExT cls d e)))) : Rep K (er S (upd H e (ExT cls d e))) (.ref e) y := by
  obtain ⟨C, c, rfl, cC, x⟩ := x
  have g : Rd (er S (upd H e (ExT (.ref C) d e))) e (ExT (.ref C) d e) := .inl ((er_of hS).trans upd_same)
  rcases x with ⟨rfl, rfl⟩ | ⟨dd, n, w, z, rfl, h1, h2, rfl⟩
  · exact .exc0 cC g
  · exact .exc1 cC g (le _ _ h1) (h2.mono le)
theorem pss_one {st : Stmt} {t : TS} (p : PS X st t) : PSs X [st] t := ⟨fun pins s σ H D I h => (pss_cons p pss_nil).run pins s σ H D I h⟩
theorem catch_inv {tb : List (Str × Bool)} {i j : Nat} {o' : Option Out} {o : Out} (h : catchO tb i j o' = some o) :
    (∃ y en, o' = some (.ex y en) ∧ ((xisD tb y = some true ∧ ∃ en1 en2, setSl en i (.im y) = some en1 ∧ setSl en1 j (.im y) = some en2 ∧ o = .nx (en2.set i .un)) ∨ (xisD tb y = some false ∧ o = .ex y en))) ∨ ((∀ y en, o ≠ .ex y en) ∧ o' = some o) := by
  cases o' with
  | none => cases h
  | some o' =>
    cases o' with
    | ex y en =>
      refine .inl ⟨y, en, rfl, ?_⟩
      unfold catchO at h
      dsimp only at h
      cases e : xisD tb y with
      | none => rw [e] at h; cases h
      | some b =>
        rw [e] at h
        cases b with
        | false => cases h; exact .inr ⟨rfl, rfl⟩
        | true =>
          refine .inl ⟨rfl, ?_⟩
          dsimp only at h
          cases e1 : setSl en i (.im y) with
          | none => rw [e1] at h; cases h
          | some en1 =>
            rw [e1] at h
            dsimp only at h
            cases e2 : setSl en1 j (.im y) with
            | none => rw [e2] at h; cases h
            | some en2 =>
              rw [e2] at h
              cases h
              exact ⟨en1, en2, rfl, e2, rfl⟩
    | _ => cases h; exact .inr ⟨fun _ _ z => (by cases z), rfl⟩
theorem snd_try {n y : Str} {m : Value → Option Bool} {tb : List (Str × Bool)} {i j : Nat} (hs : X.stack = X.env :: X.outer) (hfr : X.env.frame = some X.env.locals) (hex : X.ex = []) (hN : X.N.Nodup) (hi : X.N[i]? = some n) (hln : X.env.kindOf n = some .local)
    (hj : X.N[j]? = some y) (hij : i ≠ j) (hy : Loc X.env.scope y) (ht : TestOk X t m) (hQ : TryQ X.K tb m) (hb : ∀ (pn : List (Addr × Obj)) (xe : Value → Shared → Prop), PassesOwn (model X.prog X.w) X.A X.env xe → SndSts Φ (X.tr pn xe) body smb)
    (hv : Vis X.env.scope n := by exact .inl rfl) (hdn : (n == ("__debug__" : Str)) = false := by decide) (hcn : (n == ("__classdict__" : Str)) = false := by decide)
    (hsw : swapsWith (.Name n p2) (some (.Name y p1)) p3.line X.env = pure false := by rfl) (hfy : X.fn y = true ∨ X.env.scope.names.lookup y = some .local := by first | exact .inl rfl | exact .inr rfl | assumption) :
    SndSt Φ X (.Try body [.ExceptHandler (some t) (some n) [.Assign [.Name y p1] (.Name n p2) p3] pos'] [] [] pos) (.try smb tb i j) := .mk fun env o h S σ H ok D W tk q => by
  simp only [exec] at h
  have key : ∀ (W' : WX) (pn : List (Addr × Obj)) (xe : Value → Shared → Prop), Takes (X.tr pn xe) W' → PassesOwn (model X.prog X.w) X.A X.env xe →
      PSs (X.tr pn xe) body (fun D σ H => ∀ (pn : List (Addr × Obj)) (xe : Value → Shared → Prop), Takes (X.tr pn xe) W' → PassesOwn (model X.prog X.w) X.A X.env xe → AnySs (X.tr pn xe) body D σ H) :=
    fun W' pn xe tk' hp => ⟨fun pins s σ H D I h => pss_any.run pins s σ H D I (h pn xe tk' hp)⟩
  refine anyS_of (ps_try_keep (tb := fun W' => fun D σ H => ∀ (pn : List (Addr × Obj)) (xe : Value → Shared → Prop), Takes (X.tr pn xe) W' → PassesOwn (model X.prog X.w) X.A X.env xe → AnySs (X.tr pn xe) body D σ H)
    hs hfr hex hN hi hln hj hij ht tk key (fun a pn => pss_one (ps_set (X := X.suite a pn) hN hj hy (pe_var (X := X.suite a pn) hi hv hdn hcn) hsw hfy))) ?_
  intro pn xe tk' hp
  cases e1 : execs Φ smb env with
  | none => rw [e1] at h; cases h
  | some o' =>
    rw [e1] at h
    refine (hb pn xe hp).run env o' e1 S σ H ok D _ tk' ?_
    rcases catch_inv h with ⟨y, en, e2, h2⟩ | ⟨hn, e2⟩
    · cases e2
      intro cls d σ' S' H' f' ok' x'
      have hx : ∀ b, xisD tb y = some b → m cls = some b := fun b hb => by
        obtain ⟨C, c, rfl, cC, x'⟩ := x'
        have : tb.lookup c = some b := by
          rcases x' with ⟨_, rfl⟩ | ⟨_, _, _, _, _, _, _, rfl⟩ <;> exact hb
        obtain ⟨C', h1, h2⟩ := hQ c b this
        have := clsAt_eq cC h1
        subst this
        exact h2
      rcases h2 with ⟨hb, en1, en2, s1, s2, rfl⟩ | ⟨hb, rfl⟩
      · refine ⟨true, hx _ hb, fun _ a ha => ?_, fun z => by cases z⟩
        have hS : ¬ S' a := fun z => ok'.dom a z ha
        have fN : Fw S' H' σ' en S' (upd H' a (ExT cls d a)) σ' en := Fw.new ha
        have okN := ok'.new (o := ExT cls d a) ha
        have rp := exr_rep x' ha hS (Fw.le ok' fN)
        obtain ⟨ok3, f3⟩ := set_ok (f'.trans fN) okN s1 (show SlOk _ _ _ _ _ _ (.im y) (.ref a) from rp)
        obtain ⟨ok4, f4⟩ := set_ok f3 ok3 s2 (show SlOk _ _ _ _ _ _ (.im y) (.ref a) from rp)
        have hiy : en2[i]? = some (.im y) := by
          obtain ⟨l1, z1, _, _⟩ := setSl_inv s1
          obtain ⟨l2, z2, _, _⟩ := setSl_inv s2
          rw [z2, List.getElem?_set_ne (Ne.symm hij), z1]
          exact List.getElem?_set_self l1
        obtain ⟨ok5, f5⟩ := gone_slot ok4 hiy f4
        exact q _ _ _ f5 ok5
      · exact ⟨false, hx _ hb, fun z => (by cases z), fun _ => q cls d σ' S' H' f' ok' x'⟩
    · cases e2
      cases o with
      | ex y en => exact absurd rfl (hn y en)
      | nx en => exact q
      | bk en => exact q
      | ct en => exact q
      | rt r en => exact q
theorem sndX_call0 {f : Str} {k : Nat} {ps : List Str} (F : Has Φ X f k ps) (hg : Gl X f) (hdb : (f == ("__debug__" : Str)) = false := by decide) :
    SndX Φ X (.Call (.Name f p) [] [] pos) (.call f .nil) := ⟨fun env y env' h S σ H ok W tk q Q => by
  obtain ⟨fa, fd, F1, F2, F3, F4⟩ := F.fn
  simp only [evX, evR] at h
  rw [if_pos (show (alsOf []).Nodup from List.nodup_nil)] at h
  dsimp only [parSls] at h
  cases e3 : Φ.ex f [] with
  | none => rw [e3] at h; cases h
  | some p3 =>
    obtain ⟨y', fin⟩ := p3
    rw [e3] at h
    cases h
    have P : PostR X.K S H σ env [] env [] S H := ⟨Fw.refl, ok, .nil, fun _ h => (by cases h), .nil⟩
    intro pins s I
    refine wpAny_Call_Name_kw (ld_glob I hg F2 ?_ hdb)
    refine PySem.W.callWith_K0 I.kIn F3 (run_fnS (us := []) (E := WE W) F1 F.room F4 (passAt tk σ) I .nil ?_)
    refine .inr ⟨S, [], y, fin, e3, args_ok P .nil rfl, fun i d z => by simp at z, fun cls d S2 H2 C hx => ?_⟩
    have PP := call_post P ok .nil rfl C (fun i z => by cases z)
    exact q cls d S2 H2 PP.fw PP.ok hx⟩
end
section
variable {Φ : Fns} {X : Cx} {a t e : Expr} {es : List Expr} {xs : Xps} {xa : Xp} {pos pos' pos2 p : Pos} {f x : Str} {k i : Nat} {ps : List Str}
/-- statements that are a call -/
theorem snd_setC (hN : X.N.Nodup) (hi : X.N[i]? = some x) (hx : Loc X.env.scope x) (F : Has Φ X f k ps) (na : NoAl Φ) (hg : Gl X f) (ha : SndR Φ X (e :: es) xs) (hdb : (f == ("__debug__" : Str)) = false := by decide) (he : starEach (e :: es) X.env = (false, eval e X.env) :: starEach es X.env := by exact star_cons rfl) (hpl : (backTo pos (starEach es X.env)).any (·.1) = false := by rfl)
    (hs : swapsWith (.Call (.Name f p) (e :: es) [] pos) (some (.Name x pos')) pos2.line X.env = pure false := by rfl) (hf : X.fn x = true ∨ X.env.scope.names.lookup x = some .local := by first | exact .inl rfl | exact .inr rfl | assumption) :
    SndSt Φ X (.Assign [.Name x pos'] (.Call (.Name f p) (e :: es) [] pos) pos2) (.set i (.call f xs)) := snd_set hN hi hx (snd_call F na hg ha hdb he hpl) (sndX_call F hg ha hdb he hpl) hs hf
theorem snd_retC (F : Has Φ X f k ps) (na : NoAl Φ) (hg : Gl X f) (ha : SndR Φ X (e :: es) xs) (hdb : (f == ("__debug__" : Str)) = false := by decide) (he : starEach (e :: es) X.env = (false, eval e X.env) :: starEach es X.env := by exact star_cons rfl) (hpl : (backTo pos (starEach es X.env)).any (·.1) = false := by rfl) :
    SndSt Φ X (.Return (some (.Call (.Name f p) (e :: es) [] pos)) pos2) (.ret (.call f xs)) := snd_ret (snd_call F na hg ha hdb he hpl) (sndX_call F hg ha hdb he hpl)
theorem snd_exC (F : Has Φ X f k ps) (na : NoAl Φ) (hg : Gl X f) (ha : SndR Φ X (e :: es) xs) (hdb : (f == ("__debug__" : Str)) = false := by decide) (he : starEach (e :: es) X.env = (false, eval e X.env) :: starEach es X.env := by exact star_cons rfl) (hpl : (backTo pos (starEach es X.env)).any (·.1) = false := by rfl)
    (hs : swapsWith (.Call (.Name f p) (e :: es) [] pos) none pos2.line X.env = pure false := by rfl) :
    SndSt Φ X (.Expr (.Call (.Name f p) (e :: es) [] pos) pos2) (.ex (.call f xs)) := snd_ex (snd_call F na hg ha hdb he hpl) (sndX_call F hg ha hdb he hpl) hs
end
end DI

set_option maxRecDepth 100000
/-! DI28: own error classes: what the text's facts give. -/
namespace DI
open PySem PySem.Spec PyProof.Rows L2
/-- an own error class -/
structure OwnE (K : PySem.W.Frag) (mg : Str → Option Value) (cn : Str) (C : Addr) : Prop where
  g : mg cn = some (.ref C)
  cl : ClsAt K cn C
  ers : ERs K C
  exq : ExcQ K C
  ss : PySem.W.subIn K (.ref C) (.ref C) = some true
section
variable {P : Program} {K : PySem.W.Frag} {h : Heap} {mg : Str → Option Value} {cn c : Str} {C C' : Addr} {b d : Bool} {tb : List (Str × Bool)} {cw : Value} {cws : List Value} {T : String} {m : Value → Option Bool}
theorem ownE_mk (X : K.In h) (G : h.Ns mainGlobals mg) (a : PySem.W.nsIn K mainGlobals cn = some (some (.ref C))) (kC : PySem.W.keepIn K (.ref C) = true) (eC : PySem.W.subIn K (.ref C) (.type "BaseException") = some true) (tC : PySem.W.typeIn K (.ref C) = some (.type "type")) (iC : PySem.W.isClsIn K C = true)
    (ga : PySem.W.findIn K (.ref C) "__getattribute__" = some (some (.builtin "BaseException.__getattribute__"))) (gg : PySem.W.findIn K (.ref C) "__getattr__" = some none) (cc : PySem.W.findIn K (.ref C) "__class__" = some (some (.builtin "object.__class__")))
    (sp : PySem.W.specialIn K (.builtin "object.__class__") "__get__" = some (some (.builtin "getset_descriptor.__get__"))) (tk : PySem.W.takesIn K (.builtin "object.__class__") = some true) (mo : PySem.W.mroIn K C (.type "object") = some true) (ss : PySem.W.subIn K (.ref C) (.ref C) = some true) : OwnE K mg cn C :=
  ⟨PySem.W.mg_of X G a, a, ⟨kC, eC, tC⟩, ⟨iC, ga, gg, eC, cc, sp, tk, mo⟩, ss⟩
theorem rsF_mk {f : Str} {B i newId : String} {bmB : List Value} {fI : Addr} (E : OwnE K mg cn C) (T : PySem.DX.ECls P K f B i newId bmB C fI) : RsF P K mg cn f := ⟨_, _, _, _, _, _, T, E.ers, E.g, E.cl⟩
theorem rsZ_mk {B newId i : String} {bmB : List Value} (E : OwnE K mg cn C) (F : ExcBaseFacts B newId i bmB) (q : PySem.W.excIn K C bmB newId = true) : RsZ K mg cn := ⟨_, _, _, _, _, F, q, E.ers, E.g, E.cl⟩
/-! ### tables -/
theorem kitCls_own (E' : OwnE K mg cn C') {t : Value} (s : PySem.W.subIn K t (.ref C') = some b) : PySem.W.kitCls K t (.ref C') = some b := by
  unfold PySem.W.kitCls
  dsimp only
  rw [if_pos (by rw [E'.exq.hcl, E'.ers.tC] <;> rfl)]
  exact s
theorem exm_own (E' : OwnE K mg cn C') (s : PySem.W.subIn K (.ref C) (.ref C') = some b) : PySem.W.exmOne K (.ref C) (.ref C') = some b := by
  unfold PySem.W.exmOne
  rw [if_pos (by rw [E'.ers.eC] <;> rfl)]
  exact kitCls_own E' s
theorem kit_own (E : OwnE K mg c C) (E' : OwnE K mg cn C') (s : PySem.W.subIn K (.ref C) (.ref C') = some b) : PySem.W.kitOne K (.ref C) (.ref C') = some b := by
  unfold PySem.W.kitOne
  split
  · rename_i h
    have e : (Value.ref C) = .ref C' := by simpa using h
    cases e
    rw [E.ss] at s
    exact s
  · exact kitCls_own E' s
theorem kit_ownN (E' : OwnE K mg cn C') (s : PySem.W.subIn K (.type "NoneType") (.ref C') = some false) : PySem.W.kitOne K (.type "NoneType") (.ref C') = some false := by
  unfold PySem.W.kitOne
  rw [if_neg (by simp)]
  exact kitCls_own E' s
theorem kit_ty (k : PySem.W.kitMeta T = true) (s : PySem.W.subIn K (.ref C) (.type T) = some b) : PySem.W.kitOne K (.ref C) (.type T) = some b := by
  unfold PySem.W.kitOne
  rw [if_neg (by simp)]
  unfold PySem.W.kitCls
  dsimp only
  rw [if_pos k]
  exact s
theorem kit_tyN (hT : T ≠ "NoneType") (k : PySem.W.kitMeta T = true) (s : PySem.W.subIn K (.type "NoneType") (.type T) = some false) : PySem.W.kitOne K (.type "NoneType") (.type T) = some false := by
  unfold PySem.W.kitOne
  rw [if_neg (by simpa using fun h => hT h.symm)]
  unfold PySem.W.kitCls
  dsimp only
  rw [if_pos k]
  exact s
theorem kany_nil {t : Value} : PySem.W.kitAny K t [] = some false := rfl
theorem kany_cons {t : Value} (h1 : PySem.W.kitOne K t cw = some b) (h2 : PySem.W.kitAny K t cws = some d) {v : Bool} (e : (b || d) = v := by rfl) : PySem.W.kitAny K t (cw :: cws) = some v := by
  subst e
  unfold PySem.W.kitAny
  rw [h1]
  cases b
  · simpa using h2
  · rfl
theorem eany_nil {t : Value} : PySem.W.exmAny K t [] = some false := rfl
theorem eany_cons {t : Value} (h1 : PySem.W.exmOne K t cw = some b) (h2 : PySem.W.exmAny K t cws = some d) {v : Bool} (e : (b || d) = v := by rfl) : PySem.W.exmAny K t (cw :: cws) = some v := by
  subst e
  unfold PySem.W.exmAny
  rw [h1, h2]
theorem lk_cons {v : Bool} {x : Str} (h : ((c, b) :: tb).lookup x = some v) : (x = c ∧ v = b) ∨ tb.lookup x = some v := by
  rw [List.lookup_cons] at h
  split at h
  · rename_i e
    cases h
    exact .inl ⟨by simpa using e, rfl⟩
  · exact .inr h
theorem tryQ_nil : TryQ K [] m := fun _ _ h => by cases h
theorem tryQ_cons (E : OwnE K mg c C) (h : m (.ref C) = some b) (r : TryQ K tb m) : TryQ K ((c, b) :: tb) m := fun x v hx => by
  rcases lk_cons hx with ⟨rfl, rfl⟩ | hx
  · exact ⟨C, E.cl, h⟩
  · exact r _ _ hx
theorem isQ_nil (h0 : PySem.W.kitOne K (.type "NoneType") cw = some false) : IsQ K [] cw := ⟨h0, fun _ _ h => by cases h⟩
theorem isQ_cons (E : OwnE K mg c C) (h : PySem.W.kitOne K (.ref C) cw = some b) (r : IsQ K tb cw) : IsQ K ((c, b) :: tb) cw := ⟨r.1, fun x v hx => by
  rcases lk_cons hx with ⟨rfl, rfl⟩ | hx
  · exact ⟨C, E.cl, E.exq, h⟩
  · exact r.2 _ _ hx⟩
theorem isQT_nil (h0 : PySem.W.kitAny K (.type "NoneType") cws = some false) : IsQT K [] cws := ⟨h0, fun _ _ h => by cases h⟩
theorem isQT_cons (E : OwnE K mg c C) (h : PySem.W.kitAny K (.ref C) cws = some b) (r : IsQT K tb cws) : IsQT K ((c, b) :: tb) cws := ⟨r.1, fun x v hx => by
  rcases lk_cons hx with ⟨rfl, rfl⟩ | hx
  · exact ⟨C, E.cl, E.exq, h⟩
  · exact r.2 _ _ hx⟩
theorem fldQ_nil {n : Str} : FldQ K [] n := fun _ h => by cases h
theorem fldQ_cons {n : Str} {cs : List Str} (E : OwnE K mg c C) (hd : PySem.W.hasDictIn K C = true) (no : PySem.W.findIn K (.ref C) n = some none) (r : FldQ K cs n) : FldQ K (c :: cs) n := fun x hx => by
  rcases List.mem_cons.mp hx with rfl | hx
  · exact ⟨C, E.cl, E.exq, hd, no⟩
  · exact r _ hx
end
/-- what a try's clause names, one class -/
def HQ1 (K : PySem.W.Frag) (mg : Str → Option Value) (x : Str) (tb : List (Str × Bool)) : Prop := ∃ c, mg x = some c ∧ TryQ K tb (fun cls => PySem.W.exmOne K cls c)
/-- .. several -/
inductive Mgs (mg : Str → Option Value) : List Str → List Value → Prop
  | nil : Mgs mg [] []
  | cons {x : Str} {c : Value} {xs : List Str} {cs : List Value} : mg x = some c → Mgs mg xs cs → Mgs mg (x :: xs) (c :: cs)
def HQT (K : PySem.W.Frag) (mg : Str → Option Value) (xs : List Str) (tb : List (Str × Bool)) : Prop := ∃ cs : List Value, Mgs mg xs cs ∧ TryQ K tb (fun cls => PySem.W.exmAny K cls cs)
theorem mgs_inv {mg : Str → Option Value} {x : Str} {xs : List Str} {cs : List Value} (h : Mgs mg (x :: xs) cs) : ∃ c cs', cs = c :: cs' ∧ mg x = some c ∧ Mgs mg xs cs' := by
  cases h with
  | cons a b => exact ⟨_, _, rfl, a, b⟩
/-- a class's name as a value -/
def NmQ (mg : Str → Option Value) (x : Str) (cv : V) (cw : Value) : Prop := (∃ C, mg x = some (.ref C) ∧ cv = .ref C ∧ cw = .ref C) ∨ (∃ T, mg x = none ∧ bootBuiltins x = some (.type T) ∧ x ≠ "__name__" ∧ cv = .ty T ∧ cw = .type T)
def XQ1 (K : PySem.W.Frag) (mg : Str → Option Value) (x : Str) (tb : List (Str × Bool)) : Prop := ∃ cv cw, NmQ mg x cv cw ∧ IsQ K tb cw
inductive NmQs (mg : Str → Option Value) : List Str → List V → List Value → Prop
  | nil : NmQs mg [] [] []
  | cons {x : Str} {cv : V} {cw : Value} {xs : List Str} {cvs : List V} {cws : List Value} : NmQ mg x cv cw → NmQs mg xs cvs cws → NmQs mg (x :: xs) (cv :: cvs) (cw :: cws)
def XQT (K : PySem.W.Frag) (mg : Str → Option Value) (xs : List Str) (tb : List (Str × Bool)) : Prop := ∃ cvs cws, NmQs mg xs cvs cws ∧ IsQT K tb cws
section
variable {Φ : Fns} {X : Cx} {a t e : Expr} {es : List Expr} {xs : Xps} {xa : Xp} {pos pos' pos2 p p1 p2 p3 : Pos} {k i j : Nat} {body : List Stmt} {smb : Sms} {n y x : Str} {tb : List (Str × Bool)}
theorem snd_try1 {np : Pos} (hs : X.stack = X.env :: X.outer) (hfr : X.env.frame = some X.env.locals) (hex : X.ex = []) (hN : X.N.Nodup) (hi : X.N[i]? = some n) (hln : X.env.kindOf n = some .local)
    (hj : X.N[j]? = some y) (hij : i ≠ j) (hy : Loc X.env.scope y) (hg : Gl X x) (hQ : HQ1 X.K X.mg x tb) (hb : ∀ (pn : List (Addr × Obj)) (xe : Value → Shared → Prop), PassesOwn (model X.prog X.w) X.A X.env xe → SndSts Φ (X.tr pn xe) body smb)
    (hv : Vis X.env.scope n := by exact .inl rfl) (hdn : (n == ("__debug__" : Str)) = false := by decide) (hcn : (n == ("__classdict__" : Str)) = false := by decide)
    (hsw : swapsWith (.Name n p2) (some (.Name y p1)) p3.line X.env = pure false := by rfl) (hfy : X.fn y = true ∨ X.env.scope.names.lookup y = some .local := by first | exact .inl rfl | exact .inr rfl | assumption) (hdx : (x == ("__debug__" : Str)) = false := by decide) :
    SndSt Φ X (.Try body [.ExceptHandler (some (.Name x np)) (some n) [.Assign [.Name y p1] (.Name n p2) p3] pos'] [] [] pos) (.try smb tb i j) := by
  obtain ⟨c, h1, h2⟩ := hQ
  exact snd_try hs hfr hex hN hi hln hj hij hy (test_name ⟨hg, hdx, .inl h1⟩) h2 hb hv hdn hcn hsw hfy
theorem snd_tryT2 {x1 x2 : Str} {q1 q2 tp : Pos} (hs : X.stack = X.env :: X.outer) (hfr : X.env.frame = some X.env.locals) (hex : X.ex = []) (hN : X.N.Nodup) (hi : X.N[i]? = some n) (hln : X.env.kindOf n = some .local)
    (hj : X.N[j]? = some y) (hij : i ≠ j) (hy : Loc X.env.scope y) (hg1 : Gl X x1) (hg2 : Gl X x2) (hQ : HQT X.K X.mg [x1, x2] tb) (hb : ∀ (pn : List (Addr × Obj)) (xe : Value → Shared → Prop), PassesOwn (model X.prog X.w) X.A X.env xe → SndSts Φ (X.tr pn xe) body smb)
    (hv : Vis X.env.scope n := by exact .inl rfl) (hdn : (n == ("__debug__" : Str)) = false := by decide) (hcn : (n == ("__classdict__" : Str)) = false := by decide)
    (hsw : swapsWith (.Name n p2) (some (.Name y p1)) p3.line X.env = pure false := by rfl) (hfy : X.fn y = true ∨ X.env.scope.names.lookup y = some .local := by first | exact .inl rfl | exact .inr rfl | assumption) (hd : ([x1, x2].all fun x => !(x == ("__debug__" : Str))) = true := by decide) :
    SndSt Φ X (.Try body [.ExceptHandler (some (.Tuple [.Name x1 q1, .Name x2 q2] k tp)) (some n) [.Assign [.Name y p1] (.Name n p2) p3] pos'] [] [] pos) (.try smb tb i j) := by
  obtain ⟨cs, h1, h2⟩ := hQ
  obtain ⟨c1, cs1, rfl, b1, h1⟩ := mgs_inv h1
  obtain ⟨c2, cs2, rfl, b2, h1⟩ := mgs_inv h1
  cases h1
  simp only [List.all_cons, List.all_nil, Bool.and_true, Bool.and_eq_true, Bool.not_eq_true'] at hd
  refine snd_try hs hfr hex hN hi hln hj hij hy (test_tup (l := [(x1, q1, c1), (x2, q2, c2)]) (fun e he => ?_) (by rw [sizeLine_eq]; exact (by decide : 2 ≤ 16777216)) PySem.W.exm_tup2) h2 hb hv hdn hcn hsw hfy
  simp only [List.mem_cons, List.not_mem_nil, or_false] at he
  rcases he with rfl | rfl
  · exact ⟨hg1, hd.1, .inl b1⟩
  · exact ⟨hg2, hd.2, .inl b2⟩
theorem snd_tryT3 {x1 x2 x3 : Str} {q1 q2 q3 tp : Pos} (hs : X.stack = X.env :: X.outer) (hfr : X.env.frame = some X.env.locals) (hex : X.ex = []) (hN : X.N.Nodup) (hi : X.N[i]? = some n) (hln : X.env.kindOf n = some .local)
    (hj : X.N[j]? = some y) (hij : i ≠ j) (hy : Loc X.env.scope y) (hg1 : Gl X x1) (hg2 : Gl X x2) (hg3 : Gl X x3) (hQ : HQT X.K X.mg [x1, x2, x3] tb) (hb : ∀ (pn : List (Addr × Obj)) (xe : Value → Shared → Prop), PassesOwn (model X.prog X.w) X.A X.env xe → SndSts Φ (X.tr pn xe) body smb)
    (hv : Vis X.env.scope n := by exact .inl rfl) (hdn : (n == ("__debug__" : Str)) = false := by decide) (hcn : (n == ("__classdict__" : Str)) = false := by decide)
    (hsw : swapsWith (.Name n p2) (some (.Name y p1)) p3.line X.env = pure false := by rfl) (hfy : X.fn y = true ∨ X.env.scope.names.lookup y = some .local := by first | exact .inl rfl | exact .inr rfl | assumption) (hd : ([x1, x2, x3].all fun x => !(x == ("__debug__" : Str))) = true := by decide) :
    SndSt Φ X (.Try body [.ExceptHandler (some (.Tuple [.Name x1 q1, .Name x2 q2, .Name x3 q3] k tp)) (some n) [.Assign [.Name y p1] (.Name n p2) p3] pos'] [] [] pos) (.try smb tb i j) := by
  obtain ⟨cs, h1, h2⟩ := hQ
  obtain ⟨c1, cs1, rfl, b1, h1⟩ := mgs_inv h1
  obtain ⟨c2, cs2, rfl, b2, h1⟩ := mgs_inv h1
  obtain ⟨c3, cs3, rfl, b3, h1⟩ := mgs_inv h1
  cases h1
  simp only [List.all_cons, List.all_nil, Bool.and_true, Bool.and_eq_true, Bool.not_eq_true'] at hd
  refine snd_try hs hfr hex hN hi hln hj hij hy (test_tup (l := [(x1, q1, c1), (x2, q2, c2), (x3, q3, c3)]) (fun e he => ?_) (by rw [sizeLine_eq]; exact (by decide : 3 ≤ 16777216)) PySem.W.exm_tup3) h2 hb hv hdn hcn hsw hfy
  simp only [List.mem_cons, List.not_mem_nil, or_false] at he
  rcases he with rfl | rfl | rfl
  · exact ⟨hg1, hd.1, .inl b1⟩
  · exact ⟨hg2, hd.2.1, .inl b2⟩
  · exact ⟨hg3, hd.2.2, .inl b3⟩
theorem snd_tryT4 {x1 x2 x3 x4 : Str} {q1 q2 q3 q4 tp : Pos} (hs : X.stack = X.env :: X.outer) (hfr : X.env.frame = some X.env.locals) (hex : X.ex = []) (hN : X.N.Nodup) (hi : X.N[i]? = some n) (hln : X.env.kindOf n = some .local)
    (hj : X.N[j]? = some y) (hij : i ≠ j) (hy : Loc X.env.scope y) (hg1 : Gl X x1) (hg2 : Gl X x2) (hg3 : Gl X x3) (hg4 : Gl X x4) (hQ : HQT X.K X.mg [x1, x2, x3, x4] tb) (hb : ∀ (pn : List (Addr × Obj)) (xe : Value → Shared → Prop), PassesOwn (model X.prog X.w) X.A X.env xe → SndSts Φ (X.tr pn xe) body smb)
    (hv : Vis X.env.scope n := by exact .inl rfl) (hdn : (n == ("__debug__" : Str)) = false := by decide) (hcn : (n == ("__classdict__" : Str)) = false := by decide)
    (hsw : swapsWith (.Name n p2) (some (.Name y p1)) p3.line X.env = pure false := by rfl) (hfy : X.fn y = true ∨ X.env.scope.names.lookup y = some .local := by first | exact .inl rfl | exact .inr rfl | assumption) (hd : ([x1, x2, x3, x4].all fun x => !(x == ("__debug__" : Str))) = true := by decide) :
    SndSt Φ X (.Try body [.ExceptHandler (some (.Tuple [.Name x1 q1, .Name x2 q2, .Name x3 q3, .Name x4 q4] k tp)) (some n) [.Assign [.Name y p1] (.Name n p2) p3] pos'] [] [] pos) (.try smb tb i j) := by
  obtain ⟨cs, h1, h2⟩ := hQ
  obtain ⟨c1, cs1, rfl, b1, h1⟩ := mgs_inv h1
  obtain ⟨c2, cs2, rfl, b2, h1⟩ := mgs_inv h1
  obtain ⟨c3, cs3, rfl, b3, h1⟩ := mgs_inv h1
  obtain ⟨c4, cs4, rfl, b4, h1⟩ := mgs_inv h1
  cases h1
  simp only [List.all_cons, List.all_nil, Bool.and_true, Bool.and_eq_true, Bool.not_eq_true'] at hd
  refine snd_try hs hfr hex hN hi hln hj hij hy (test_tup (l := [(x1, q1, c1), (x2, q2, c2), (x3, q3, c3), (x4, q4, c4)]) (fun e he => ?_) (by rw [sizeLine_eq]; exact (by decide : 4 ≤ 16777216)) PySem.W.exm_tup4) h2 hb hv hdn hcn hsw hfy
  simp only [List.mem_cons, List.not_mem_nil, or_false] at he
  rcases he with rfl | rfl | rfl | rfl
  · exact ⟨hg1, hd.1, .inl b1⟩
  · exact ⟨hg2, hd.2.1, .inl b2⟩
  · exact ⟨hg3, hd.2.2.1, .inl b3⟩
  · exact ⟨hg4, hd.2.2.2, .inl b4⟩
/-! ### isinstance of errors -/
theorem nm_pe {cv : V} {cw : Value} {np : Pos} (hg : Gl X x) (h : NmQ X.mg x cv cw) (hd : (x == ("__debug__" : Str)) = false) : PE X (.Name x np) (tC cv) := by
  rcases h with ⟨C, h1, rfl, rfl⟩ | ⟨T, h1, h2, h3, rfl, rfl⟩
  · exact pe_glob hg h1 rfl hd
  · exact pe_bltn hg h1 h2 rfl h3 hd
theorem nm_cls {mg : Str → Option Value} {cv : V} {cw : Value} (h : NmQ mg x cv cw) : ClsV cv cw := by
  rcases h with ⟨C, h1, rfl, rfl⟩ | ⟨T, h1, h2, h3, rfl, rfl⟩
  · exact .own C
  · exact .ty T
theorem nms_pa : ∀ {l : List (Str × Pos)} {cvs : List V} {cws : List Value}, NmQs X.mg (l.map (·.1)) cvs cws → (∀ e ∈ l, Gl X e.1 ∧ (e.1 == ("__debug__" : Str)) = false) → PA X (l.map fun e => .Name e.1 e.2) (fun _ H Q => Q cvs H)
  | [], _, _, .nil, _ => pa_nil
  | e :: l, _, _, .cons h r, hl => by
    obtain ⟨g1, g2⟩ := hl e List.mem_cons_self
    exact pa_cons (nm_pe g1 h g2) (nms_pa r fun e' he => hl e' (List.mem_cons_of_mem _ he)) (star_cons rfl)
theorem nms_cls {mg : Str → Option Value} : ∀ {xs : List Str} {cvs : List V} {cws : List Value}, NmQs mg xs cvs cws → Paired ClsV cvs cws
  | _, _, _, .nil => .nil
  | _, _, _, .cons h r => .cons (nm_cls h) (nms_cls r)
theorem nms_len {mg : Str → Option Value} : ∀ {xs : List Str} {cvs : List V} {cws : List Value}, NmQs mg xs cvs cws → cvs.length = xs.length
  | _, _, _, .nil => rfl
  | _, _, _, .cons h r => congrArg (· + 1) (nms_len r)
theorem snd_xis1 {f : Str} {np : Pos} (hg : Gl X f) (hm : X.mg f = none) (hv : bootBuiltins f = some (.builtin "isinstance")) (ha : Snd Φ X a xa) (hgx : Gl X x) (hQ : XQ1 X.K X.mg x tb) (hn : f ≠ "__name__" := by decide) (hdb : (f == ("__debug__" : Str)) = false := by decide) (hdx : (x == ("__debug__" : Str)) = false := by decide)
    (hs : starEach [a, .Name x np] X.env = (false, eval a X.env) :: starEach [.Name x np] X.env := by exact star_cons rfl) (hpl : (backTo pos (starEach [.Name x np] X.env)).any (·.1) = false := by rfl) :
    Snd Φ X (.Call (.Name f p) [a, .Name x np] [] pos) (.xis xa tb) := by
  obtain ⟨cv, cw, h1, h2⟩ := hQ
  exact snd_xis hg hm hv ha (nm_pe hgx h1 hdx) (nm_cls h1) h2 hn hdb hs (star_cons rfl) hpl
theorem snd_xisn {f : Str} {l : List (Str × Pos)} {tp : Pos} (hg : Gl X f) (hm : X.mg f = none) (hv : bootBuiltins f = some (.builtin "isinstance")) (ha : Snd Φ X a xa) (hgx : ∀ e ∈ l, Gl X e.1 ∧ (e.1 == ("__debug__" : Str)) = false) (hQ : XQT X.K X.mg (l.map (·.1)) tb) (hl : l.length ≤ lim := by decide) (hn : f ≠ "__name__" := by decide) (hdb : (f == ("__debug__" : Str)) = false := by decide)
    (hs : starEach [a, .Tuple (l.map fun e => .Name e.1 e.2) k tp] X.env = (false, eval a X.env) :: starEach [.Tuple (l.map fun e => .Name e.1 e.2) k tp] X.env := by exact star_cons rfl) (hpl : (backTo pos (starEach [.Tuple (l.map fun e => .Name e.1 e.2) k tp] X.env)).any (·.1) = false := by rfl) :
    Snd Φ X (.Call (.Name f p) [a, .Tuple (l.map fun e => .Name e.1 e.2) k tp] [] pos) (.xis xa tb) := by
  obtain ⟨cvs, cws, h1, h2⟩ := hQ
  exact snd_xisT hg hm hv ha (nms_pa h1 hgx) (nms_cls h1) h2 (by rw [nms_len h1, List.length_map]; exact hl) hn hdb hs (star_cons rfl) hpl
theorem snd_xisT2 {f : Str} {x1 x2 : Str} {q1 q2 tp : Pos} (hg : Gl X f) (hm : X.mg f = none) (hv : bootBuiltins f = some (.builtin "isinstance")) (ha : Snd Φ X a xa) (hg1 : Gl X x1) (hg2 : Gl X x2) (hQ : XQT X.K X.mg [x1, x2] tb) (hn : f ≠ "__name__" := by decide) (hdb : (f == ("__debug__" : Str)) = false := by decide) (hd : ([x1, x2].all fun x => !(x == ("__debug__" : Str))) = true := by decide)
    (hs : starEach [a, .Tuple [.Name x1 q1, .Name x2 q2] k tp] X.env = (false, eval a X.env) :: starEach [.Tuple [.Name x1 q1, .Name x2 q2] k tp] X.env := by exact star_cons rfl) (hpl : (backTo pos (starEach [.Tuple [.Name x1 q1, .Name x2 q2] k tp] X.env)).any (·.1) = false := by rfl) :
    Snd Φ X (.Call (.Name f p) [a, .Tuple [.Name x1 q1, .Name x2 q2] k tp] [] pos) (.xis xa tb) := by
  simp only [List.all_cons, List.all_nil, Bool.and_true, Bool.and_eq_true, Bool.not_eq_true'] at hd
  exact snd_xisn (l := [(x1, q1), (x2, q2)]) hg hm hv ha (fun e he => by
    simp only [List.mem_cons, List.not_mem_nil, or_false] at he
    rcases he with rfl | rfl
    · exact ⟨hg1, hd.1⟩
    · exact ⟨hg2, hd.2⟩) hQ (by unfold lim; exact (by decide : 2 ≤ 16000000)) hn hdb hs hpl
theorem snd_xisT3 {f : Str} {x1 x2 x3 : Str} {q1 q2 q3 tp : Pos} (hg : Gl X f) (hm : X.mg f = none) (hv : bootBuiltins f = some (.builtin "isinstance")) (ha : Snd Φ X a xa) (hg1 : Gl X x1) (hg2 : Gl X x2) (hg3 : Gl X x3) (hQ : XQT X.K X.mg [x1, x2, x3] tb) (hn : f ≠ "__name__" := by decide) (hdb : (f == ("__debug__" : Str)) = false := by decide) (hd : ([x1, x2, x3].all fun x => !(x == ("__debug__" : Str))) = true := by decide)
    (hs : starEach [a, .Tuple [.Name x1 q1, .Name x2 q2, .Name x3 q3] k tp] X.env = (false, eval a X.env) :: starEach [.Tuple [.Name x1 q1, .Name x2 q2, .Name x3 q3] k tp] X.env := by exact star_cons rfl) (hpl : (backTo pos (starEach [.Tuple [.Name x1 q1, .Name x2 q2, .Name x3 q3] k tp] X.env)).any (·.1) = false := by rfl) :
    Snd Φ X (.Call (.Name f p) [a, .Tuple [.Name x1 q1, .Name x2 q2, .Name x3 q3] k tp] [] pos) (.xis xa tb) := by
  simp only [List.all_cons, List.all_nil, Bool.and_true, Bool.and_eq_true, Bool.not_eq_true'] at hd
  exact snd_xisn (l := [(x1, q1), (x2, q2), (x3, q3)]) hg hm hv ha (fun e he => by
    simp only [List.mem_cons, List.not_mem_nil, or_false] at he
    rcases he with rfl | rfl | rfl
    · exact ⟨hg1, hd.1⟩
    · exact ⟨hg2, hd.2.1⟩
    · exact ⟨hg3, hd.2.2⟩) hQ (by unfold lim; exact (by decide : 3 ≤ 16000000)) hn hdb hs hpl
/-! ### calls by keywords that raise -/
theorem run_fnkS {CX : CXT} {kk : Nat} {f : Addr} {fd : FuncData} {ps ks : List Str} {sp : Sp} {E : XK} {g : List Value → List Value → List Value} {gV : List V → List V → List V} {pins : List (Addr × Obj)} {σ : L2.St} {H : Hp} {s : Shared} {Q : VK} {us ws : List Value} {vs zs : List V}
    (F : FnOk X.prog X.w X.K X.mg X.base CX kk f fd ps sp) (hr : Room kk X.A) (hb : KBinds X.K fd ps ks g gV) (hx : PassesAt CX X σ E) (I : Inv X pins σ H s) (r : Vals vs us) (rz : Vals zs ws) (h : sp (gV vs zs) H Q E) : wpAny (model X.prog X.w) X.A (call (.ref f) us (ks.zip ws)) (EP X pins σ Q) X.xe s := by
  have r2 := hb.rel r rz
  have hl : (g us ws).length = ps.length := by rw [← r2.length]; exact F.len _ _ _ _ h
  refine wpAny_call (codeAny_mono (F.run X.A X.stack s H ⟨us, ks.zip ws⟩ (g us ws) (gV vs zs) Q E hr I.env0 (hb.to s us ws I.kIn hl) r2 h) fun r s' hq => ?_)
  cases r with
  | error e => exact hx pins H s e s' I hq
  | ok fl =>
    cases fl with
    | ret u => exact I.after hq
    | next => exact False.elim hq
    | brk => exact False.elim hq
    | cont => exact False.elim hq
theorem sndX_callK0 {f : Str} {kk : Nat} {ps ks : List Str} {kws : List Keyword} (F : HasK Φ X.prog X.w X.K X.mg X.base kk f ps ks) (hr : Room kk X.A) (hg : Gl X f) (ha : SndK Φ X kws xs) (hall : (backToKw pos (keywordEach kws X.env)).all (·.1.isSome) = true := by rfl) (hks : (backToKw pos (keywordEach kws X.env)).filterMap (·.1) = ks := by rfl) (hdb : (f == ("__debug__" : Str)) = false := by decide)
    (hpl : ((backTo pos (starEach [] X.env)).any (·.1) || (backToKw pos (keywordEach kws X.env)).any (·.1.isNone)) = false := by rfl) :
    SndX Φ X (.Call (.Name f p) [] kws pos) (.call f xs) := ⟨fun env y env' h S σ H ok W tk q Q => by
  obtain ⟨fa, fd, F1, F2, F3, F4⟩ := F
  simp only [evX] at h
  cases e1 : evR Φ xs env with
  | none => rw [e1] at h; cases h
  | some p1 =>
    obtain ⟨rs, en1⟩ := p1
    rw [e1] at h
    dsimp only at h
    split at h
    · rename_i nd
      cases e2 : parSls en1 rs with
      | none => rw [e2] at h; cases h
      | some ss =>
        rw [e2] at h
        dsimp only at h
        cases e3 : Φ.ex f ss with
        | none => rw [e3] at h; cases h
        | some p3 =>
          obtain ⟨y', fin⟩ := p3
          rw [e3] at h
          cases h
          intro pins s I
          refine wpAny_Call_Name_kw (ld_glob I hg F2 ?_ hdb)
          refine PySem.W.callWith_KW0 (h₀ := X.base) I.ok.mod.kin F3 hall (thn (pk_any.run pos pins s σ H _ I (ha env rs en1 e1 S σ H ok (fun zs H1 => spX X.K (Φ f) (Φ.ex f) zs H1 Q (WE W σ)) fun vs S1 H1 P => ?_)) fun ws s1 ⟨zs, H1, I1, rz, q1⟩ => ⟨I1.kIn, ?_⟩) hpl
          · refine .inr ⟨S1, ss, y, fin, e3, args_ok P nd e2, fun i d z => ?_, fun cls d S2 H2 C hx => ?_⟩
            · obtain ⟨_, _, _, _, _, _, z3⟩ := arg_ow P e2 z
              exact z3 rfl
            · have PP := call_post P ok nd e2 C (fun i z => by cases z)
              exact q cls d S2 H2 PP.fw PP.ok hx
          · rw [hks]
            exact run_fnkS (us := []) (vs := []) F1 hr F4 (passAt tk σ) I1 .nil rz q1
    · cases h⟩
end
end DI

set_option maxRecDepth 100000
/-! DI29: f(k1 = e1, ..), in any order. -/
namespace DI
open PySem PySem.Spec PyProof.Rows L2
theorem permL_fm {α : Type} : ∀ (pm : List Nat) (l : List α), permL pm l = pm.filterMap (l[·]?)
  | [], _ => rfl
  | i :: is, l => by
    rw [List.filterMap_cons]
    simp only [permL]
    cases l[i]? with
    | none => exact permL_fm is l
    | some x => exact congrArg (x :: ·) (permL_fm is l)
theorem range_fm {α : Type} (l : List α) : (List.range l.length).filterMap (l[·]?) = l := by
  induction l with
  | nil => rfl
  | cons x l ih =>
    rw [List.length_cons, List.range_succ_eq_map, List.filterMap_cons]
    simp only [List.getElem?_cons_zero, List.filterMap_map]
    congr 1
theorem permL_perm {α : Type} {pm : List Nat} {l : List α} (h : pm.Perm (List.range l.length)) : (permL pm l).Perm l := by
  rw [permL_fm]
  have := h.filterMap (l[·]?)
  rw [range_fm] at this
  exact this
theorem permL_zip {α β : Type} {l : List α} {m : List β} (h : l.length = m.length) : ∀ pm : List Nat, (permL pm l).zip (permL pm m) = permL pm (l.zip m)
  | [] => rfl
  | i :: is => by
    have ih := permL_zip h is
    simp only [permL]
    by_cases q : i < l.length
    · rw [List.getElem?_eq_getElem q, List.getElem?_eq_getElem (h ▸ q), List.getElem?_eq_getElem (by rw [List.length_zip]; omega)]
      simp [ih]
    · rw [List.getElem?_eq_none (by omega), List.getElem?_eq_none (by omega), List.getElem?_eq_none (by rw [List.length_zip]; omega)]
      exact ih
theorem permL_len {α β : Type} {l : List α} {m : List β} (h : l.length = m.length) : ∀ pm : List Nat, (permL pm l).length = (permL pm m).length
  | [] => rfl
  | i :: is => by
    have ih := permL_len h is
    simp only [permL]
    by_cases q : i < l.length
    · rw [List.getElem?_eq_getElem q, List.getElem?_eq_getElem (h ▸ q)]
      simp [ih]
    · rw [List.getElem?_eq_none (by omega), List.getElem?_eq_none (by omega)]
      exact ih
section
variable {K : PySem.W.Frag} {S S0 : Addr → Prop} {H H0 : Hp} {σ : L2.St} {env env0 : Env}
theorem RVs.perm {rs : List R} {vs : List V} (h : RVs K S H σ env rs vs) : ∀ pm : List Nat, RVs K S H σ env (permL pm rs) (permL pm vs)
  | [] => .nil
  | i :: is => by
    have ih := RVs.perm h is
    simp only [permL]
    cases e : rs[i]? with
    | none =>
      have : vs[i]? = none := by
        rw [List.getElem?_eq_none_iff] at e ⊢
        rw [← h.length]
        exact e
      rw [this]
      exact ih
    | some r =>
      obtain ⟨v, h1, h2⟩ := h.get e
      rw [h1]
      exact .cons h2 ih
theorem alsOf_fm : ∀ rs : List R, alsOf rs = rs.filterMap fun r => match r with | .al i => some i | _ => none
  | [] => rfl
  | r :: rs => by
    cases r <;> simp [alsOf, alsOf_fm rs]
theorem PostR.perm {rs : List R} {vs : List V} (P : PostR K S0 H0 σ env0 rs env vs S H) {pm : List Nat} (h : pm.Perm (List.range rs.length)) : PostR K S0 H0 σ env0 (permL pm rs) env (permL pm vs) S H := by
  have hz : ((permL pm rs).zip (permL pm vs)).Perm (rs.zip vs) := by
    rw [permL_zip P.rv.length]
    refine permL_perm ?_
    rw [List.length_zip, ← P.rv.length, Nat.min_self]
    exact h
  have hf : (frsA (permL pm rs) (permL pm vs)).Perm (frsA rs vs) := hz.filterMap _
  exact ⟨P.fw, P.ok, P.rv.perm pm, fun a ha => P.new a (hf.mem_iff.mp ha), hf.nodup_iff.mpr P.nd⟩
end
/-- how a def's keywords bind, pm: from the written order into the parameters' one -/
def HasP (Φ : Fns) (P : Program) (w : World) (K : PySem.W.Frag) (mg : Str → Option Value) (base : Heap) (k : Nat) (x : Str) (ps ks : List Str) (pm : List Nat) : Prop :=
  ∃ f fd g gV, FnOk P w K mg base (L2.CX P w) k f fd ps (spX K (Φ x) (Φ.ex x)) ∧ mg x = some (.ref f) ∧ PySem.W.keepIn K (.ref f) = true ∧ KBinds K fd ps ks g gV ∧ ∀ zs : List V, zs.length = ks.length → gV [] zs = permL pm zs
/-- what is handed over by a row of expressions is so many -/
def xlen : Xps → Nat
  | .nil => 0
  | .cons _ xs => xlen xs + 1
theorem evR_len {Φ : Fns} : ∀ {xs : Xps} {env : Env} {rs : List R} {env' : Env}, evR Φ xs env = some (rs, env') → rs.length = xlen xs
  | .nil, env, rs, env', h => by
    simp only [evR] at h
    cases h
    rfl
  | .cons x xs, env, rs, env', h => by
    simp only [evR] at h
    cases e1 : ev Φ x env with
    | none => rw [e1] at h; cases h
    | some p1 =>
      rw [e1] at h
      dsimp only at h
      cases e3 : evR Φ xs p1.2 with
      | none => rw [e3] at h; cases h
      | some p3 =>
        rw [e3] at h
        cases h
        exact congrArg (· + 1) (evR_len e3)
section
variable {Φ : Fns} {X : Cx} {e : Expr} {x : Xp} {xs : Xps} {pos kpos p : Pos} {kws : List Keyword}
theorem anyK_of {kws : List Keyword} {t : TA} (p : PK X kws t) {σ : L2.St} {H : Hp} {Q : List V → Hp → Prop} (h : t σ H Q) : AnyK X kws σ H Q := fun pos pins s I => p.run pos pins s σ H Q I h
theorem sndK_nil : SndK Φ X [] .nil := .mk fun env rs env' h S σ H ok Q q => by
  simp only [evR] at h
  cases h
  exact anyK_of pk_nil (q [] S H ⟨Fw.refl, ok, .nil, fun _ h => (by cases h), .nil⟩)
theorem sndK_cons {nm : Option Str} (he : Snd Φ X e x) (hes : SndK Φ X kws xs) : SndK Φ X (⟨nm, e, kpos⟩ :: kws) (.cons x xs) := .mk fun env ds env' h S σ H ok Q q => by
  simp only [evR] at h
  cases e1 : ev Φ x env with
  | none => rw [e1] at h; cases h
  | some p1 =>
    obtain ⟨r, en1⟩ := p1
    rw [e1] at h
    dsimp only at h
    cases e3 : evR Φ xs en1 with
    | none => rw [e3] at h; cases h
    | some p3 =>
      obtain ⟨rs, en3⟩ := p3
      rw [e3] at h
      cases h
      refine anyK_of (pk_cons pe_any pk_any) (he env r en1 e1 S σ H ok _ fun v S1 H1 P => ?_)
      refine hes en1 rs env' e3 S1 σ H1 P.ok _ fun vs S3 H3 P3 => q _ S3 H3 ?_
      have rv' := P.rv.step P.ok P3.fw
      refine ⟨P.fw.trans P3.fw, P3.ok, .cons rv' P3.rv, fun a ha => ?_, ?_⟩
      · rw [rv'.fr_addr] at ha
        rcases List.mem_append.mp ha with ha | ha
        · cases r with
          | im d => cases ha
          | al i => cases ha
          | fr d =>
            obtain ⟨p, rfl, _⟩ := rv'
            have ea : a = p := by simpa using ha
            rw [ea]
            exact P.new _ _ rfl rfl
        · exact none_back P.fw.dm (P3.new a ha)
      · rw [rv'.fr_addr]
        refine List.nodup_append.mpr ⟨?_, P3.nd, fun a ha b hb => ?_⟩
        · cases r with
          | im d => exact .nil
          | al i => exact .nil
          | fr d => obtain ⟨p, rfl, _⟩ := rv'; exact List.nodup_cons.mpr ⟨by simp, .nil⟩
        · cases r with
          | im d => cases ha
          | al i => cases ha
          | fr d =>
            obtain ⟨p, hp, hs1, _⟩ := P.rv
            subst hp
            have ea : a = p := by simpa using ha
            subst ea
            intro z
            subst z
            exact P.ok.dom a hs1 (P3.new a hb)
theorem snd_calK {f : Str} {kk : Nat} {ps ks : List Str} {pm : List Nat} (F : HasP Φ X.prog X.w X.K X.mg X.base kk f ps ks pm) (hr : Room kk X.A) (na : NoAl Φ) (hg : Gl X f) (ha : SndK Φ X kws xs) (hall : (backToKw pos (keywordEach kws X.env)).all (·.1.isSome) = true := by rfl) (hks : (backToKw pos (keywordEach kws X.env)).filterMap (·.1) = ks := by rfl)
    (hlen : xlen xs = ks.length := by rfl) (hdb : (f == ("__debug__" : Str)) = false := by decide)
    (hpl : ((backTo pos (starEach [] X.env)).any (·.1) || (backToKw pos (keywordEach kws X.env)).any (·.1.isNone)) = false := by rfl) :
    Snd Φ X (.Call (.Name f p) [] kws pos) (.calK f xs pm) := .mk fun env r env' h S σ H ok Q q => by
  obtain ⟨fa, fd, g, gV, F1, F2, F3, F4, F5⟩ := F
  refine any_of (pe_callK0 (E := E0) F1 hr hg F2 F3 F4 passL pk_any hall hks hdb hpl) ?_
  simp only [ev] at h
  cases e1 : evR Φ xs env with
  | none => rw [e1] at h; cases h
  | some p1 =>
    obtain ⟨rs, en1⟩ := p1
    rw [e1] at h
    dsimp only at h
    split at h
    · rename_i cnd
      rw [Bool.and_eq_true, decide_eq_true_iff, List.isPerm_iff] at cnd
      obtain ⟨nd, hpm⟩ := cnd
      cases e2 : parSls en1 (permL pm rs) with
      | none => rw [e2] at h; cases h
      | some ss =>
        rw [e2] at h
        dsimp only at h
        cases e3 : Φ f ss with
        | none => rw [e3] at h; cases h
        | some p3 =>
          obtain ⟨r', fin⟩ := p3
          rw [e3] at h
          cases h
          refine ha env rs en1 e1 S σ H ok _ fun vs S1 H1 P => ?_
          have PP := P.perm hpm
          have nd' : (alsOf (permL pm rs)).Nodup := by
            rw [alsOf_fm] at nd ⊢
            exact ((permL_perm hpm).filterMap _).nodup_iff.mpr nd
          rw [F5 vs (by rw [← P.rv.length, evR_len e1]; exact hlen)]
          refine .inl ⟨S1, ss, r, fin, e3, args_ok PP nd' e2, fun i d z => ?_, fun v S2 H2 C => q _ _ _ (call_post PP ok nd' e2 C (na f ss r fin e3))⟩
          obtain ⟨_, _, _, _, _, _, z3⟩ := arg_ow PP e2 z
          exact z3 rfl
    · cases h
end
section
variable {P : Program} {w : World} {K : PySem.W.Frag} {mg : Str → Option Value} {base : Heap}
theorem hasP0 {tbl : List (Str × Dfn)} {x : Str} {ps ks : List Str} {pm : List Nat} {f : Addr} {fd : FuncData} {g : List Value → List Value → List Value} {gV : List V → List V → List V} (hm : mg x = some (.ref f)) (hk : PySem.W.keepIn K (.ref f) = true) (hb : KBinds K fd ps ks g gV) (hp : ∀ zs : List V, zs.length = ks.length → gV [] zs = permL pm zs) : HasP (fns tbl 0) P w K mg base 0 x ps ks pm :=
  ⟨f, fd, g, gV, ⟨(fun vs H Q E h => by rcases h with ⟨S, args, r, fin, h1, _⟩ | ⟨S, args, r, fin, h1, _⟩ <;> cases h1), (fun A outer s H args us vs Q E _ _ _ _ h => by rcases h with ⟨S, args, r, fin, h1, _⟩ | ⟨S, args, r, fin, h1, _⟩ <;> cases h1)⟩, hm, hk, hb, hp⟩
theorem hasPS {tbl : List (Str × Dfn)} {x : Str} {ps ks : List Str} {pm : List Nat} {f : Addr} {fd : FuncData} {n : Nat} {d : Dfn} {g : List Value → List Value → List Value} {gV : List V → List V → List V} (hm : mg x = some (.ref f)) (hk : PySem.W.keepIn K (.ref f) = true) (hb : KBinds K fd ps ks g gV) (hp : ∀ zs : List V, zs.length = ks.length → gV [] zs = permL pm zs) (hd : tbl.lookup x = some d)
    (h : FnOk P w K mg base (L2.CX P w) (n + 1) f fd ps (spX K (d.run (fns tbl n)) (d.rux (fns tbl n)))) : HasP (fns tbl (n + 1)) P w K mg base (n + 1) x ps ks pm :=
  ⟨f, fd, g, gV, by rw [fns_at hd, fns_ax hd]; exact h, hm, hk, hb, hp⟩
end
end DI

set_option maxRecDepth 100000
/-! d.setdefault(k, x); d.get(k, x) -/
namespace DI
open PySem PySem.Spec PyProof PyProof.Rows L2
section
variable {Φ : Fns} {X : Cx} {a e f o : Expr} {xa xe xf : Xp} {apos cpos : Pos}
theorem ev_sdf_inv {i : Nat} {env env' : Env} {r : R} {es : Xps} (h : ev Φ (.sdf i es) env = some (r, env')) : ∃ k0 kvs0 kd y en1 kk kvs, env[i]? = some (.ow k0 (.dict kvs0)) ∧ evS Φ es env = some ([kd, y], en1) ∧ en1[i]? = some (.ow kk (.dict kvs)) ∧ kk ≠ .lck ∧ isKey kd = true ∧ plainK kvs = true ∧ kvs.length < lim ∧
    ((∃ z, lookD kvs kd = some z ∧ r = .im z ∧ env' = en1) ∨ (lookD kvs kd = none ∧ r = .im y ∧ env' = en1.set i (.ow kk (.dict (putD kvs kd y))))) := by
  simp only [ev] at h
  cases e0 : env[i]? with
  | none => rw [e0] at h; cases h
  | some s0 =>
    rw [e0] at h
    cases s0 with
    | un => cases h
    | im d => cases h
    | ow k0 d0 =>
      cases d0 <;> first | cases h | skip
      rename_i kvs0
      dsimp only at h
      cases e1 : evS Φ es env with
      | none => rw [e1] at h; cases h
      | some p1 =>
        obtain ⟨ds, en1⟩ := p1
        rw [e1] at h
        rcases ds with _ | ⟨kd, _ | ⟨y, _ | ⟨_, _⟩⟩⟩ <;> first | cases h | skip
        dsimp only at h
        cases e2 : en1[i]? with
        | none => rw [e2] at h; cases h
        | some s1 =>
          rw [e2] at h
          cases s1 with
          | un => cases h
          | im d => cases h
          | ow kk d1 =>
            cases d1 <;> first | cases h | skip
            rename_i kvs
            dsimp only at h
            by_cases hk : kk = .lck
            · rw [if_pos hk] at h; cases h
            · rw [if_neg hk] at h
              split at h
              · rename_i hc
                rw [Bool.and_eq_true, Bool.and_eq_true, decide_eq_true_iff] at hc
                refine ⟨k0, kvs0, kd, y, en1, kk, kvs, rfl, rfl, e2, hk, hc.1.1, hc.1.2, hc.2, ?_⟩
                cases e3 : lookD kvs kd with
                | none =>
                  rw [e3] at h
                  cases h
                  exact .inr ⟨rfl, rfl, rfl⟩
                | some z =>
                  rw [e3] at h
                  cases h
                  exact .inl ⟨z, rfl, rfl, rfl⟩
              · cases h
theorem evS_two {x1 x2 : Xp} {env env' : Env} {k y : D} (h : evS Φ (.cons x1 (.cons x2 .nil)) env = some ([k, y], env')) : ∃ r1 en1 en2 r2 en3, ev Φ x1 env = some (r1, en1) ∧ DI.sto r1 en1 = some (k, en2) ∧ ev Φ x2 en2 = some (r2, en3) ∧ DI.sto r2 en3 = some (y, env') := by
  obtain ⟨r1, en1, d1, en2, ds1, e1, e2, h1, g1⟩ := evS_cons_inv h
  obtain ⟨r2, en3, d2, en4, ds2, e3, e4, h2, g2⟩ := evS_cons_inv h1
  simp only [evS] at h2
  cases h2
  rw [g2] at g1
  cases g1
  exact ⟨r1, en1, en2, r2, en3, e1, e2, e3, e4⟩
theorem snd_sdf {i : Nat} (hv : Snd Φ X o (.v i)) (he : Snd Φ X e xe) (hf : Snd Φ X f xf) (m : M2 X o "setdefault" apos e f cpos := by exact ⟨rfl, rfl, rfl, rfl⟩) :
    Snd Φ X (.Call (.Attribute o "setdefault" apos) [e, f] [] cpos) (.sdf i (.cons xe (.cons xf .nil))) := .mk fun env r env' h S σ H ok Q q => by
  obtain ⟨k0, kvs0, kd, y, en, kk, kvs, e0, es, e3, hk, hkey, hpl, hlen, hres⟩ := ev_sdf_inv h
  obtain ⟨r1, en1, en2, r2, en3, e1, s1, e2, s2⟩ := evS_two es
  refine any_of (pe_dsetd pe_any pe_any pe_any m) ?_
  have ev0 : ev Φ (.v i) env = some (.al i, env) := by simp only [ev, e0]
  refine hv env (.al i) env ev0 S σ H ok _ fun v S1 H1 P => ?_
  have hσ : σ[i]? = some (some v) := P.rv
  obtain ⟨p, g1, _, g2, _⟩ := P.ok.ow i _ _ e0
  rw [hσ] at g1
  cases g1
  have isd : IsD H1 p := by
    rcases g2 with ⟨ws0, g3, _⟩ | ⟨_, ws0, g3, _⟩
    · exact .inl ⟨ws0, g3⟩
    · exact .inr ⟨ws0, g3⟩
  refine ⟨p, rfl, isd, he env r1 en1 e1 S1 σ H1 P.ok _ fun u S2 H2 P2 => ?_⟩
  obtain ⟨S2', f2, ok2, rp2⟩ := P2.sto s1
  refine hf en2 r2 en3 e2 S2' σ H2 ok2 _ fun w S3 H3 P3 => ?_
  obtain ⟨S3', f3, ok3, rp3⟩ := P3.sto s2
  obtain ⟨p', g1', g4, g5, g6⟩ := ok3.ow i _ _ e3
  rw [hσ] at g1'
  cases g1'
  obtain ⟨ws, g7, g8⟩ := g5.dK hpl
  have hl := mut_not_frz g7 (g6 hk)
  have le : Le (er S2' H2) (er S3' H3) := Fw.le ok2 f3
  obtain ⟨key, ek, ey⟩ := key_of (rp2.mono le) hkey
  subst ey
  subst ek
  have fw := P.fw.trans (f2.trans f3)
  refine ⟨ws, key, hl, rfl, by rw [g8.length, sizeLine_eq]; unfold lim at hlen; omega, fun v hv => ?_, fun hn => ?_⟩
  · rcases hres with ⟨z, e5, rfl, rfl⟩ | ⟨e5, _, _⟩
    · obtain ⟨w', k1, k2⟩ := look_rep g8 e5
      rw [k1] at hv
      cases hv
      exact q _ _ _ ((Post.same ok3 (show RV _ _ _ _ _ (.im z) v from k2) fun _ z => by cases z).after fw)
    · rw [look_none g8 e5] at hv
      cases hv
  · rcases hres with ⟨z, e5, rfl, rfl⟩ | ⟨e5, rfl, rfl⟩
    · obtain ⟨w', k1, k2⟩ := look_rep g8 e5
      rw [k1] at hn
      cases hn
    · obtain ⟨m1, m2⟩ := ok3.mutate (d' := .dict (putD kvs (kD key) y)) (o := .dK (putK ws key w)) e3 hk hσ (.inl ⟨putK ws key w, .inl upd_same, g8.put rp3⟩) True.intro
      refine q _ _ _ ⟨fw.trans m2, m1, ?_, fun _ _ z => by cases z⟩
      show Rep X.K (er S3' (upd H3 p (.dK (putK ws key w)))) w y
      rw [er_upd g4]
      exact rp3
theorem ev_get2_inv {env env' : Env} {r : R} {es : Xps} (h : ev Φ (.get2 xa es) env = some (r, env')) : ∃ ra en1 kvs0 kd y kvs, ev Φ xa env = some (ra, en1) ∧ ra.val en1 = some (.dict kvs0) ∧ plainK kvs0 = true ∧ evS Φ es en1 = some ([kd, y], env') ∧ ra.val env' = some (.dict kvs) ∧ plainK kvs = true ∧ isKey kd = true ∧ r = .im ((lookD kvs kd).getD y) := by
  simp only [ev] at h
  cases e1 : ev Φ xa env with
  | none => rw [e1] at h; cases h
  | some p1 =>
    obtain ⟨ra, en1⟩ := p1
    rw [e1] at h
    dsimp only at h
    cases e2 : ra.val en1 with
    | none => rw [e2] at h; cases h
    | some d0 =>
      rw [e2] at h
      cases d0 <;> first | cases h | skip
      rename_i kvs0
      dsimp only at h
      split at h
      · rename_i hp
        cases e3 : evS Φ es en1 with
        | none => rw [e3] at h; cases h
        | some p3 =>
          obtain ⟨ds, en2⟩ := p3
          rw [e3] at h
          rcases ds with _ | ⟨kd, _ | ⟨y, _ | ⟨_, _⟩⟩⟩ <;> first | cases h | skip
          dsimp only at h
          cases e4 : ra.val en2 with
          | none => rw [e4] at h; cases h
          | some d1 =>
            rw [e4] at h
            cases d1 <;> first | cases h | skip
            rename_i kvs
            dsimp only at h
            split at h
            · rename_i hc
              rw [Bool.and_eq_true] at hc
              cases h
              exact ⟨ra, en1, kvs0, kd, y, kvs, rfl, e2, hp, e3, e4, hc.1, hc.2, rfl⟩
            · cases h
      · cases h
theorem snd_get2 (hu : X.A.units + 65 < cLine) (ha : Snd Φ X o xa) (he : Snd Φ X e xe) (hf : Snd Φ X f xf) (m : M2 X o "get" apos e f cpos := by exact ⟨rfl, rfl, rfl, rfl⟩) :
    Snd Φ X (.Call (.Attribute o "get" apos) [e, f] [] cpos) (.get2 xa (.cons xe (.cons xf .nil))) := .mk fun env r env' h S σ H ok Q q => by
  obtain ⟨ra, en0, kvs0, kd, y, kvs, ea, va, hp0, es, vb, hp, hkey, rfl⟩ := ev_get2_inv h
  obtain ⟨r1, en1, en2, r2, en3, e1, s1, e2, s2⟩ := evS_two es
  refine any_of (pe_dget2 (by omega) pe_any pe_any pe_any m) ?_
  refine ha env ra en0 ea S σ H ok _ fun v S1 H1 P => ?_
  obtain ⟨p, ws0, rfl, g1, _⟩ := RepC.dic (P.rv.repC P.ok va) hp0
  refine ⟨p, rfl, .inl ⟨ws0, g1⟩, he en0 r1 en1 e1 S1 σ H1 P.ok _ fun u S2 H2 P2 => ?_⟩
  obtain ⟨S2', f2, ok2, rp2⟩ := P2.sto s1
  refine hf en2 r2 en3 e2 S2' σ H2 ok2 _ fun w S3 H3 P3 => ?_
  obtain ⟨S3', f3, ok3, rp3⟩ := P3.sto s2
  have fw1 := f2.trans f3
  obtain ⟨p', ks, e4, hr, hk⟩ := RepC.dic ((P.rv.step P.ok fw1).repC ok3 vb) hp
  cases e4
  have le : Le (er S2' H2) (er S3' H3) := Fw.le ok2 f3
  obtain ⟨key, ek, ey⟩ := key_of (rp2.mono le) hkey
  subst ey
  subst ek
  have fw := P.fw.trans fw1
  refine ⟨valV ks key, .inl ⟨ks, key, hr, rfl, rfl⟩, ?_⟩
  cases e5 : lookD kvs (kD key) with
  | none =>
    rw [look_none hk e5]
    rw [e5] at q
    exact q _ _ _ ((Post.same ok3 (show RV _ _ _ _ _ (.im y) w from rp3) fun _ z => by cases z).after fw)
  | some d =>
    obtain ⟨w', g1, g2⟩ := look_rep hk e5
    rw [g1]
    rw [e5] at q
    exact q _ _ _ ((Post.same ok3 (show RV _ _ _ _ _ (.im d) w' from g2) fun _ z => by cases z).after fw)
end
end DI

set_option maxRecDepth 100000
/-! DI31: handed over for good: what is fresh may no longer be changed. -/
namespace DI
open PySem PySem.Spec PyProof.Rows L2
section
variable {X : Cx} {Φ : Fns} {e : Expr} {x : Xp}
theorem snd_frz (he : Snd Φ X e x) : Snd Φ X e (.frz x) := .mk fun env r env' h S σ H ok Q q => by
  simp only [ev] at h
  cases e1 : ev Φ x env with
  | none => rw [e1] at h; cases h
  | some p1 =>
    obtain ⟨r1, en1⟩ := p1
    rw [e1] at h
    dsimp only at h
    cases e2 : sto r1 en1 with
    | none => rw [e2] at h; cases h
    | some p2 =>
      obtain ⟨d, en2⟩ := p2
      rw [e2] at h
      cases h
      refine he env r1 en1 e1 S σ H ok _ fun v S1 H1 P => ?_
      obtain ⟨S2, f2, ok2, rp⟩ := P.sto e2
      exact q v S2 H1 ⟨f2, ok2, rp, fun d p z _ => by cases z⟩
end
end DI

set_option maxRecDepth 100000
set_option maxHeartbeats 4000000
/-! DT: sets of keys of one kind, with their table's order. -/
namespace DI
open PySem PySem.Spec PyProof.Rows L2
open PySem.W (EachIs)
section
variable {P : Program} {w : World} {κ : Type} [DecidableEq κ] {knd : PySem.KeyKind P w κ}
/-- an entry of a set's table, for the key k -/
structure ElK (knd : PySem.KeyKind P w κ) (e : Int × Value) (k : κ) : Prop where
  is : knd.is k e.2 = true
  hash : e.1 = knd.hash k
  sc : e.2.scannable = true
/-- the set at a has the keys ks -/
structure SetL (knd : PySem.KeyKind P w κ) (h : Heap) (a : Addr) (ks : List κ) (o : Obj) (es : Array (Int × Value)) (ep : Nat) (t : SetTable) (ks' : List κ) : Prop where
  get : h.get? a = some o
  exact : o.ExactSet
  data : o.data = .set es ep t
  perm : ks'.Perm ks
  each : EachIs (ElK knd) es.toList ks'
  nd : ks.Nodup
  lt : ks.length < scanBound
  fits : t.fits es.size = true
  ris : Ris t.place.toList
  led : w.params.followText "set-order" = true ∨ t.led = true
def IsSet (knd : PySem.KeyKind P w κ) (h : Heap) (a : Addr) (ks : List κ) : Prop := ∃ o es ep t ks', SetL knd h a ks o es ep t ks'
theorem IsSet.at {h h' : Heap} {a : Addr} {ks : List κ} (x : IsSet knd h a ks) (k : ∀ o, h.get? a = some o → h'.get? a = some o) : IsSet knd h' a ks := by
  obtain ⟨o, es, ep, t, ks', R⟩ := x
  exact ⟨o, es, ep, t, ks', { R with get := k o R.get }⟩
theorem each_perm {α β : Type} {R : α → β → Prop} {as as' : List α} (p : as'.Perm as) : ∀ {bs : List β}, EachIs R as bs → ∃ bs', bs'.Perm bs ∧ EachIs R as' bs' := by
  induction p with
  | nil => intro bs e; exact ⟨bs, .refl _, e⟩
  | cons x p ih =>
    intro bs e
    cases e with
    | cons h t =>
      obtain ⟨bs', p', e'⟩ := ih t
      exact ⟨_ :: bs', p'.cons _, .cons h e'⟩
  | swap x y l =>
    intro bs e
    cases e with
    | cons h1 t =>
      cases t with
      | cons h2 t => exact ⟨_ :: _ :: _, List.Perm.swap _ _ _, .cons h2 (.cons h1 t)⟩
  | trans p1 p2 ih1 ih2 =>
    intro bs e
    obtain ⟨b1, q1, e1⟩ := ih2 e
    obtain ⟨b2, q2, e2⟩ := ih1 e1
    exact ⟨b2, q2.trans q1, e2⟩
theorem each_elems {es : List (Int × Value)} {ks : List κ} (e : EachIs (ElK knd) es ks) : ElemsOf knd es := by
  induction e with
  | nil => exact fun x hx => by cases hx
  | cons h t ih =>
    intro x hx
    rcases List.mem_cons.mp hx with rfl | hx
    · exact ⟨⟨_, h.is, h.hash⟩, h.sc⟩
    · exact ih x hx
theorem each_key {es : List (Int × Value)} {ks : List κ} (e : EachIs (ElK knd) es ks) (k : κ) : (∃ x ∈ es, knd.is k x.2 = true) ↔ k ∈ ks := by
  induction e with
  | nil => simp
  | cons h t ih =>
    rename_i x k' xs ks
    constructor
    · rintro ⟨y, hy, hk⟩
      rcases List.mem_cons.mp hy with rfl | hy
      · rw [knd.inj _ _ _ hk h.is]; exact List.mem_cons_self
      · exact List.mem_cons_of_mem _ (ih.mp ⟨y, hy, hk⟩)
    · intro hk
      rcases List.mem_cons.mp hk with rfl | hk
      · exact ⟨x, List.mem_cons_self, h.is⟩
      · obtain ⟨y, hy, hk⟩ := ih.mpr hk
        exact ⟨y, List.mem_cons_of_mem _ hy, hk⟩
variable {A : Around} {E : Value → Shared → Prop} {s : Shared} {a : Addr} {ks : List κ}
theorem set_tail {g : Bool → Sem Unit} (hg : ∀ (b : Bool) (s₁ : Shared) (Q' : Unit → Shared → Prop), Q' () s₁ → wpAny (model P w) A (g b) Q' E s₁)
    {o : Obj} {es : Array (Int × Value)} {ep : Nat} {t : SetTable} (ho : s.heap.get? a = some o) (hex : o.ExactSet) (hd : o.data = .set es ep t)
    {es1 : Array (Int × Value)} {t2 : SetTable} {ks1 ks2 : List κ} (pm : ks2.Perm ks1) (e1 : EachIs (ElK knd) es1.toList ks2) (nd1 : ks1.Nodup)
    (hb1 : ks1.length < scanBound) (hf2 : t2.fits es1.size = true) (hr : Ris t2.place.toList) (hl : w.params.followText "set-order" = true ∨ t2.led = true) {wasDummy : Bool} {R : Option Bool → Shared → Prop}
    (hR : ∀ h', Heap.SameBut a s.heap h' → IsSet knd h' a ks1 → R (some true) { s with heap := h' }) :
    wpAny (model P w) A (do
        storeSet a es1 t2
        if (!wasDummy && t2.tooFull) = true then do
            g (relayAll t2 es1 (SetTable.grown es1.size)).2.2
            storeSet a (relayAll t2 es1 (SetTable.grown es1.size)).1 (relayAll t2 es1 (SetTable.grown es1.size)).2.1
            pure (some true)
          else pure (some true)) R E s := by
  have hz1 : es1.size < scanBound := by
    have := e1.length
    rw [Array.length_toList, pm.length_eq] at this
    omega
  refine wpAny_bind (wpAny_storeSet_of ho hd ?_ (fits_of_scanBound hz1))
  have ho1 := store_at (es' := es1) (t' := t2) ho hd
  have sb1 := Heap.SameBut.update s.heap a (Obj.putSet es1 t2)
  split
  · have pr := relayAll_perm t2 es1 (SetTable.grown es1.size)
    have hf3 := relayAll_fits t2 es1 (SetTable.grown es1.size)
    have hr3 := relayAll_ris t2 es1 (SetTable.grown es1.size)
    have hl3 := relayAll_led t2 es1 (SetTable.grown es1.size)
    generalize relayAll t2 es1 (SetTable.grown es1.size) = Z at pr hf3 hr3 hl3 ⊢
    obtain ⟨es2, t3, gave⟩ := Z
    dsimp only at pr hf3 hr3 hl3 ⊢
    obtain ⟨ks3, p3, e3⟩ := each_perm pr e1
    have hz2 : es2.size < scanBound := by
      rw [← Array.length_toList, pr.length_eq, Array.length_toList]
      exact hz1
    refine wpAny_bind (hg _ _ _ ?_)
    refine wpAny_bind (wpAny_storeSet_of ho1 rfl ?_ (fits_of_scanBound hz2))
    have ho2 := store_at (es' := es2) (t' := t3) ho1 rfl
    refine wpAny_pure (hR _ (sb1.trans (Heap.SameBut.update _ a _)) ?_)
    exact ⟨_, es2, _, t3, ks3, ho2, hex, rfl, p3.trans pm, e3, nd1, hb1, hf3, hr3, hl.imp id fun z => by rw [hl3]; exact z⟩
  · exact wpAny_pure (hR _ sb1 ⟨_, es1, _, t2, ks2, ho1, hex, rfl, pm, e1, nd1, hb1, hf2, hr, hl⟩)
theorem set_add {k : κ} {x : Value} {Q : Bool → Shared → Prop} (hkey : knd.is k x = true) (hsc : x.scannable = true) (R : IsSet knd s.heap a ks) (room : ks.length + 1 < scanBound)
    (hQ : ∀ h' b, Heap.SameBut a s.heap h' → IsSet knd h' a (if k ∈ ks then ks else k :: ks) → Q b { s with heap := h' }) :
    wpAny (model P w) A (setAddHashed a x (knd.hash k)) Q E s := by
  obtain ⟨o, es, ep, t, ks', R⟩ := R
  obtain ⟨ho, hex, hd, pm0, he, nd, hb, hf, hr, hl⟩ := R
  have hel : ElemsOf knd es.toList := each_elems he
  have hz : es.size < scanBound := by
    have := he.length
    rw [Array.length_toList, pm0.length_eq] at this
    omega
  unfold setAddHashed setAddHashedIn
  refine wpAny_holding (wpAny_bind (wpAny_setState_of ho hd hf ?_))
  dsimp only
  rw [byScan_of hsc hz hel]
  simp only [↓reduceIte]
  unfold setAddByScan
  refine wpAny_bind ?_
  refine wpAny_bind (wpAny_rule ?_)
  refine wpAny_bind (wpAny_setScan_of hkey ho hd hf hel ?_)
  cases hfi : List.findIdx? (fun e => knd.is k e.2) es.toList with
  | some j =>
    dsimp only
    obtain ⟨hj, pj, _⟩ := List.findIdx?_eq_some_iff_getElem.mp hfi
    have hk : k ∈ ks := pm0.mem_iff.mp ((each_key he k).mp ⟨es.toList[j], List.getElem_mem hj, pj⟩)
    refine wpAny_pure (wpAny_pure ?_)
    have q := hQ s.heap false (Heap.SameBut.refl a s.heap)
    rw [if_pos hk] at q
    exact q ⟨o, es, ep, t, ks', ho, hex, hd, pm0, he, nd, hb, hf, hr, hl⟩
  | none =>
    dsimp only
    have hk : k ∉ ks := fun hk => by
      obtain ⟨y, hy, q⟩ := (each_key he k).mpr (pm0.mem_iff.mpr hk)
      have c := List.findIdx?_eq_none_iff.mp hfi y hy
      rw [q] at c
      cases c
    rw [if_neg hk] at hQ
    have hgw : ∀ (b : Bool) {s₁ : Shared} {Q' : Unit → Shared → Prop}, Q' () s₁ → wpAny (model P w) A (match b with | true => rule "set.scan.the-table-gave-way" | false => pure ()) Q' E s₁ :=
      fun b s₁ Q' q => by cases b <;> first | exact wpAny_pure q | exact wpAny_rule q
    have pm := layNew_perm t es (knd.hash k) x
    have hf1 := layNew_fits t es (knd.hash k) x
    have hr1 := layNew_ris t es (knd.hash k) x hr
    have hl1 := layNew_led t es (knd.hash k) x
    generalize layNew t es (knd.hash k) x = Z at pm hf1 hr1 hl1 ⊢
    obtain ⟨es1, t1, wasDummy, gave⟩ := Z
    dsimp only at pm hf1 hr1 hl1 ⊢
    rw [Array.toList_push] at pm
    have pc : es1.toList.Perm ((knd.hash k, x) :: es.toList) := pm.trans (List.perm_append_singleton _ _)
    obtain ⟨ks1, p1, e1⟩ := each_perm pc (EachIs.cons (R := ElK knd) (b := k) ⟨hkey, rfl, hsc⟩ he)
    have p2 : ks1.Perm (k :: ks) := p1.trans (pm0.cons k)
    have nd1 : (k :: ks).Nodup := List.nodup_cons.mpr ⟨hk, nd⟩
    have hb1 : (k :: ks).length < scanBound := by rw [List.length_cons]; exact room
    have hled : w.params.followText "set-order" = true ∨ t1.led = true := hl.imp id fun z => by rw [hl1]; exact z
    refine wpAny_bind (hgw _ ?_)
    split
    · refine wpAny_bind ?_
      rw [hashByValue_scannable 8 hsc]
      refine wpAny_pure ?_
      refine set_tail ?_ ho hex hd p2 e1 nd1 hb1 ?_ ?_ ?_ ?_
      · intro b s₁ Q' q; cases b <;> first | exact wpAny_pure q | exact wpAny_rule q
      · first | (split <;> first | exact hf1 | exact SetTable.fits_plain_off hf1) | exact hf1
      · first | (split <;> exact hr1) | exact hr1
      · first | (split <;> exact hled) | exact hled
      · intro h' sb r; dsimp only; exact wpAny_pure (hQ h' true sb r)
    · refine wpAny_bind (wpAny_pure ?_)
      simp only [↓reduceIte]
      refine set_tail ?_ ho hex hd p2 e1 nd1 hb1 hf1 hr1 hled ?_
      · intro b s₁ Q' q; cases b <;> first | exact wpAny_pure q | exact wpAny_rule q
      · intro h' sb r; dsimp only; exact wpAny_pure (hQ h' true sb r)
theorem set_none {h : Heap} {a : Addr} (ho : h.get? a = some { cls := .type "set", dict := none, data := .set #[] 0 (.fresh 0 0 (!w.params.followText "set-order")) }) : IsSet knd h a [] :=
  ⟨_, #[], 0, _, [], ho, ⟨rfl, rfl, rfl⟩, rfl, .refl _, .nil, List.nodup_nil, (by show 0 < scanBound; decide), (by rfl), List.Pairwise.nil, by
    show _ ∨ (!w.params.followText "set-order") = true
    cases w.params.followText "set-order"
    · exact .inr rfl
    · exact .inl rfl⟩
theorem gather_len : ∀ (ks acc : List κ), (ks.foldl (fun acc k => if k ∈ acc then acc else k :: acc) acc).length ≤ acc.length + ks.length
  | [], acc => by simp
  | k :: ks, acc => by
    rw [List.foldl_cons]
    refine Nat.le_trans (gather_len ks _) ?_
    split <;> simp <;> omega
theorem gather_mem : ∀ (ks acc : List κ) (x : κ), x ∈ ks.foldl (fun acc k => if k ∈ acc then acc else k :: acc) acc ↔ x ∈ acc ∨ x ∈ ks
  | [], acc, x => by simp
  | k :: ks, acc, x => by
    rw [List.foldl_cons, gather_mem ks]
    split
    · rename_i h
      constructor
      · rintro (h1 | h1)
        · exact .inl h1
        · exact .inr (List.mem_cons_of_mem _ h1)
      · rintro (h1 | h1)
        · exact .inl h1
        · rcases List.mem_cons.mp h1 with rfl | h1
          · exact .inl h
          · exact .inr h1
    · constructor
      · rintro (h1 | h1)
        · rcases List.mem_cons.mp h1 with rfl | h1
          · exact .inr List.mem_cons_self
          · exact .inl h1
        · exact .inr (List.mem_cons_of_mem _ h1)
      · rintro (h1 | h1)
        · exact .inl (List.mem_cons_of_mem _ h1)
        · rcases List.mem_cons.mp h1 with rfl | h1
          · exact .inl List.mem_cons_self
          · exact .inr h1
theorem set_upd {I : Addr} {fp wr : List Addr} {G : Array GenState → Array GenState → Prop} {n : Nat} {Pv : Nat → Value → Prop} {St : Nat → Shared → Prop} {R : Result → Shared → Prop}
    (W : WalksS P w A.in1 I fp wr G n Pv St) (S : Addr) (hSf : S ∉ fp) (ns : List κ) (hn : n = ns.length) (hb : ns.length + 1 < scanBound) (hval : ∀ i v, Pv i v → ∃ k, ns[i]? = some k ∧ knd.is k v = true ∧ v.scannable = true) :
    ∀ (k i : Nat) (s : Shared), n - i = k → i ≤ n → St i s → IsSet knd s.heap S (gatherK (ns.take i)) →
      (∀ s', Moved (S :: wr) G s s' → IsSet knd s'.heap S (gatherK ns) → R (.ok (.ret .none)) s') →
      codeAny (model P w) A (.builtin "set.update.loop" ⟨[.ref S, .ref I], []⟩) R s := by
  have hSw : S ∉ wr := fun h => hSf (W.sub _ h)
  have hsub : ∀ b ∈ wr, b ∈ S :: wr := fun b hb => List.mem_cons_of_mem _ hb
  intro k
  induction k with
  | zero =>
    intro i s hk' hi hst hS hR
    have hin : i = n := by omega
    subst hin
    refine codeAny_builtin PyProof.Rows.F.entry_set_update_loop ?_
    rw [Around.under_plainId PyProof.Rows.F.plain_set_update_loop _]
    show wpAny _ A.in1 (pyNext (.ref I) >>= _) _ _ s
    refine wpAny_bind (W.done s _ _ hst fun s' hm => ?_)
    show wpAny _ A.in1 (ret Value.none) _ _ s'
    have e : ns.take i = ns := List.take_of_length_le (by omega)
    rw [e] at hS
    exact wpAny_pure (hR s' (hm.mono hsub) (hS.at fun o e => hm.heap S o hSw e))
  | succ k ih =>
    intro i s hk' hi hst hS hR
    have hlt : i < n := by omega
    refine codeAny_builtin PyProof.Rows.F.entry_set_update_loop ?_
    rw [Around.under_plainId PyProof.Rows.F.plain_set_update_loop _]
    show wpAny _ A.in1 (pyNext (.ref I) >>= _) _ _ s
    refine wpAny_bind (W.item i s _ _ hlt hst fun v s' hP hst' hm => ?_)
    obtain ⟨z, hz, hzk, hzs⟩ := hval i v hP
    have hS' : IsSet knd s'.heap S (gatherK (ns.take i)) := hS.at fun o e => hm.heap S o hSw e
    show wpAny _ A.in1 (holding [v] (setAdd S v) >>= _) _ _ s'
    refine wpAny_bind (wpAny_holding ?_)
    unfold setAdd
    refine wpAny_holding ?_
    refine wpAny_bind (knd.pyHash (k := z) hzk ?_)
    have hgl : (gatherK (ns.take i)).length + 1 < scanBound := by
      have := gather_len (ns.take i) []
      simp only [List.length_nil, Nat.zero_add, List.length_take] at this
      unfold gatherK
      omega
    refine set_add (s := { s' with toks := s'.toks + 1 }) hzk hzs hS' hgl fun h' b hsb hS2 => ?_
    have hS3 : IsSet knd h' S (gatherK (ns.take (i + 1))) := by
      have e : gatherK (ns.take (i + 1)) = if z ∈ gatherK (ns.take i) then gatherK (ns.take i) else z :: gatherK (ns.take i) := by
        unfold gatherK
        rw [List.take_add_one, hz]
        simp [List.foldl_append]
      rw [e]
      exact hS2
    refine wpAny_pure ⟨plainId_quiet PyProof.Rows.F.plain_set_update_loop _, ih (i + 1) _ (by omega) hlt (W.frame _ s' _ _ hst' (Nat.le_succ _) fun b hb o e => ?_) hS3 fun s'' hm'' hS'' => ?_⟩
    · rw [hsb.2 b (fun h : b = S => hSf (by rw [← h]; exact hb))]; exact e
    · refine hR s'' (Moved.trans W.gtrans ((hm.mono hsub).then_heap (Nat.le_succ _) fun b o hb e => ?_) hm'') hS''
      rw [hsb.2 b (fun h : b = S => hb (by rw [h]; exact List.mem_cons_self))]; exact e
theorem each_at {α β : Type} {R : α → β → Prop} {as : List α} {bs : List β} (e : EachIs R as bs) : ∀ (i : Nat) {v : α}, as[i]? = some v → ∃ k, bs[i]? = some k ∧ R v k := by
  induction e with
  | nil => intro i v h; simp at h
  | cons h t ih =>
    intro i v hv
    cases i with
    | zero =>
      simp at hv
      subst hv
      exact ⟨_, rfl, h⟩
    | succ i =>
      obtain ⟨k, h1, h2⟩ := ih i (by simpa using hv)
      exact ⟨k, by simpa using h1, h2⟩
set_option maxRecDepth 100000 in
set_option maxHeartbeats 3200000 in
theorem call_setL {l : Addr} {items : Array Value} (ns : List κ) {Q : Value → Shared → Prop} (hh : A.handled = none) (hl : s.heap.IsList l items) (hit : EachIs (fun v k => knd.is k v = true ∧ v.scannable = true) items.toList ns) (hb : ns.length + 1 < scanBound)
    (h : ∀ (h' : Heap) (tk : Nat), IsSet knd h' s.heap.objs.size (gatherK ns) → (∀ b o, s.heap.get? b = some o → h'.get? b = some o) → Q (.ref s.heap.objs.size) { s with heap := h', toks := tk }) :
    wpAny (model P w) A (call (.type "set") [.ref l]) Q E s := by
  have hisz : items.size = ns.length := by
    have q := hit.length
    rw [Array.length_toList] at q
    exact q
  obtain ⟨c, tl, hmro⟩ := PySem.F.called_set.mro
  have hmade := PySem.F.called_set.made
  have hsub := PySem.F.called_set.sub
  refine wpAny_call (codeAny_of_tree ?_)
  show wpAny _ _ (callAny (.type "set") _) _ _ _
  refine wpAny_pure ⟨Code.quiet_builtin _ (by decide +kernel), codeAny_builtin PySem.F.entry_type_call ?_⟩
  rw [Around.under_plain (weight_type_call_type "set" [.ref l] []) rfl]
  have h1 := PySem.F.called_set.notType
  have h2 := PySem.F.called_set.canCreate
  have hct := PySem.F.typeCall_set_1 (.ref l)
  repeat (any_goals (first | assumption | wp_step))

  refine codeAny_mono (code_set_led1 (.ref l) (E := E) (Q₁ := fun obj s₁ => obj = .ref s.heap.objs.size ∧ s₁ = { s with heap := s.heap.push { cls := .type "set", dict := none, data := .set #[] 0 (.fresh 0 0 (!w.params.followText "set-order")) } }) ⟨rfl, rfl⟩) fun r s₁ hr => ?_
  cases r with
  | error e => exact hr
  | ok fl =>
    cases fl with
    | ret obj =>
      obtain ⟨rfl, rfl⟩ := hr
      have hS : (s.heap.push { cls := .type "set", dict := none, data := .set #[] 0 (.fresh 0 0 (!w.params.followText "set-order")) }).get? s.heap.objs.size = some { cls := .type "set", dict := none, data := .set #[] 0 (.fresh 0 0 (!w.params.followText "set-order")) } := Heap.get?_push_size _ rfl
      have hT : Shared.TypeIs { s with heap := s.heap.push { cls := .type "set", dict := none, data := .set #[] 0 (.fresh 0 0 (!w.params.followText "set-order")) } } (.ref s.heap.objs.size) "set" := ⟨_, hS, rfl⟩
      have hli := PySem.F.called_set.init.lookup
      have hbi := PySem.F.called_set.init.bind (.ref s.heap.objs.size)
      repeat (any_goals (first | assumption | wp_step))

      refine codeAny_mono (codeAny_call_builtin (R := wants (fun r s₂ => r = .none ∧ ∃ h' tk, s₂ = { s with heap := h', toks := tk } ∧ IsSet knd h' s.heap.objs.size (gatherK ns) ∧
          (∀ b o, s.heap.get? b = some o → h'.get? b = some o)) E) PySem.F.called_set.init.plain PySem.F.entry_set_init (check_set_init_1 hT ?_)) fun r₂ s₂ hr₂ => ?_
      · obtain ⟨ol, hol, hcl, nl, hdl⟩ := hl
        obtain ⟨ocls, odict, odata, oslots⟩ := ol
        simp only at hcl hdl
        subst hcl; subst hdl
        have hol' : (s.heap.push { cls := .type "set", dict := none, data := .set #[] 0 (.fresh 0 0 (!w.params.followText "set-order")) }).get? l = some { cls := .type "list", dict := odict, data := .seq items nl, slots := oslots } := Heap.get?_push_of_some _ hol
        have hsls := PySem.F.sub_list_set
        have hslf := PySem.F.sub_list_frozenset
        have hne : (Value.type "list" == Value.type "dict") = false := by decide
        have hl1 : (s.heap.push { cls := .type "set", dict := none, data := .set #[] 0 (.fresh 0 0 (!w.params.followText "set-order")) }).IsList l items := ⟨_, hol', rfl, nl, rfl⟩
        unfold Builtin.«set.__init__» noKeywords Builtin.Frozenset.updateFrom
        generalize hPI : pyIter = PI
        wp_walk
        subst hPI

        refine wpAny_pyIter_list (s := { s with heap := s.heap.push { cls := .type "set", dict := none, data := .set #[] 0 (.fresh 0 0 (!w.params.followText "set-order")) } }) hl1 ?_
        refine wpAny_bind (wpAny_runValue ?_)
        have hlS : l < s.heap.objs.size := Heap.lt_size hol
        have hh3 : A.in1.in1.in1.handled = none := by simp [hh]
        have hneI : l ≠ (s.heap.push { cls := .type "set", dict := none, data := .set #[] 0 (.fresh 0 0 (!w.params.followText "set-order")) }).objs.size := by
          rw [Heap.size_push]; exact Nat.ne_of_lt (Nat.lt_succ_of_lt hlS)
        have hSf : s.heap.objs.size ∉ [(s.heap.push { cls := .type "set", dict := none, data := .set #[] 0 (.fresh 0 0 (!w.params.followText "set-order")) }).objs.size, l] := by
          rw [Heap.size_push]; simp only [List.mem_cons, List.mem_singleton, List.not_mem_nil, or_false, not_or]
          exact ⟨Nat.ne_of_lt (Nat.lt_succ_self _), Nat.ne_of_gt hlS⟩
        have hval : ∀ (i : Nat) (v : Value), items[i]? = some v → ∃ k, ns[i]? = some k ∧ knd.is k v = true ∧ v.scannable = true := fun i v hv => each_at hit i (by rw [Array.getElem?_toList]; exact hv)
        refine set_upd (knd := knd) ((Walks.list hh3 _ l hneI items).toS) s.heap.objs.size
          hSf ns hisz hb hval (items.size - 0) 0 _ (by omega) (Nat.zero_le _)
          ⟨⟨_, Heap.get?_push_size _ rfl, rfl, rfl⟩, (hl1.push _)⟩ ?hS0 ?hR
        case hS0 =>
          have hget : ((s.heap.push { cls := .type "set", dict := none, data := .set #[] 0 (.fresh 0 0 (!w.params.followText "set-order")) }).push { cls := .type "list_iterator", data := .fields #[.ref l, .int 0 0] }).get? s.heap.objs.size = some { cls := .type "set", dict := none, data := .set #[] 0 (.fresh 0 0 (!w.params.followText "set-order")) } := Heap.get?_push_of_some _ hS
          exact set_none hget
        case hR =>
          intro s' hm hS'
          obtain ⟨h', g2, d', tk', os'⟩ := s'
          have eg : g2 = s.gens := hm.gens
          have ed : d' = s.drawn := hm.drawn
          have eo : os' = s.os := hm.os
          subst eg; subst ed; subst eo
          show wpAny _ _ _ _ _ _
          refine wpAny_pure ?_
          show wpAny _ _ (ret Value.none) _ _ _
          refine wpAny_pure ⟨rfl, h', tk', rfl, hS', fun b o e => ?_⟩
          have hb0 : b < s.heap.objs.size := Heap.lt_size e
          have hb1 : b ≠ s.heap.objs.size := Nat.ne_of_lt hb0
          have hb2 : b ≠ (s.heap.push { cls := .type "set", dict := none, data := .set #[] 0 (.fresh 0 0 (!w.params.followText "set-order")) }).objs.size := by
            rw [Heap.size_push]; exact Nat.ne_of_lt (Nat.lt_succ_of_lt hb0)
          exact hm.heap b o (by simp only [List.mem_cons, List.mem_singleton, List.not_mem_nil, or_false, not_or]; exact ⟨hb1, hb2⟩) (Heap.get?_push_of_some _ (Heap.get?_push_of_some _ e))

      · cases r₂ with
        | error e => exact hr₂
        | ok fl₂ =>
          cases fl₂ with
          | ret r =>
            obtain ⟨rfl, h', tk, rfl, hS', hk'⟩ := hr₂
            repeat (any_goals (first | assumption | wp_step))
            exact h _ _ hS' hk'
          | _ => exact hr₂.elim
    | _ => exact hr.elim
end
end DI

set_option maxRecDepth 100000
set_option maxHeartbeats 4000000
/-! DTt: set of a tuple. -/
namespace DI
open PySem PySem.Spec PyProof.Rows L2
open PySem.W (EachIs)
section
variable {P : Program} {w : World} {κ : Type} [DecidableEq κ] {knd : PySem.KeyKind P w κ}
variable {A : Around} {E : Value → Shared → Prop} {s : Shared} {a : Addr} {ks : List κ}
set_option maxRecDepth 100000 in
set_option maxHeartbeats 3200000 in
theorem call_setT {l : Addr} {items : Array Value} (ns : List κ) {Q : Value → Shared → Prop} (hh : A.handled = none) (hl : s.heap.IsTuple l items) (hit : EachIs (fun v k => knd.is k v = true ∧ v.scannable = true) items.toList ns) (hb : ns.length + 1 < scanBound)
    (h : ∀ (h' : Heap) (tk : Nat), IsSet knd h' s.heap.objs.size (gatherK ns) → (∀ b o, s.heap.get? b = some o → h'.get? b = some o) → Q (.ref s.heap.objs.size) { s with heap := h', toks := tk }) :
    wpAny (model P w) A (call (.type "set") [.ref l]) Q E s := by
  have hisz : items.size = ns.length := by
    have q := hit.length
    rw [Array.length_toList] at q
    exact q
  obtain ⟨c, tl, hmro⟩ := PySem.F.called_set.mro
  have hmade := PySem.F.called_set.made
  have hsub := PySem.F.called_set.sub
  refine wpAny_call (codeAny_of_tree ?_)
  show wpAny _ _ (callAny (.type "set") _) _ _ _
  refine wpAny_pure ⟨Code.quiet_builtin _ (by decide +kernel), codeAny_builtin PySem.F.entry_type_call ?_⟩
  rw [Around.under_plain (weight_type_call_type "set" [.ref l] []) rfl]
  have h1 := PySem.F.called_set.notType
  have h2 := PySem.F.called_set.canCreate
  have hct := PySem.F.typeCall_set_1 (.ref l)
  repeat (any_goals (first | assumption | wp_step))

  refine codeAny_mono (code_set_led1 (.ref l) (E := E) (Q₁ := fun obj s₁ => obj = .ref s.heap.objs.size ∧ s₁ = { s with heap := s.heap.push { cls := .type "set", dict := none, data := .set #[] 0 (.fresh 0 0 (!w.params.followText "set-order")) } }) ⟨rfl, rfl⟩) fun r s₁ hr => ?_
  cases r with
  | error e => exact hr
  | ok fl =>
    cases fl with
    | ret obj =>
      obtain ⟨rfl, rfl⟩ := hr
      have hS : (s.heap.push { cls := .type "set", dict := none, data := .set #[] 0 (.fresh 0 0 (!w.params.followText "set-order")) }).get? s.heap.objs.size = some { cls := .type "set", dict := none, data := .set #[] 0 (.fresh 0 0 (!w.params.followText "set-order")) } := Heap.get?_push_size _ rfl
      have hT : Shared.TypeIs { s with heap := s.heap.push { cls := .type "set", dict := none, data := .set #[] 0 (.fresh 0 0 (!w.params.followText "set-order")) } } (.ref s.heap.objs.size) "set" := ⟨_, hS, rfl⟩
      have hli := PySem.F.called_set.init.lookup
      have hbi := PySem.F.called_set.init.bind (.ref s.heap.objs.size)
      repeat (any_goals (first | assumption | wp_step))

      refine codeAny_mono (codeAny_call_builtin (R := wants (fun r s₂ => r = .none ∧ ∃ h' tk, s₂ = { s with heap := h', toks := tk } ∧ IsSet knd h' s.heap.objs.size (gatherK ns) ∧
          (∀ b o, s.heap.get? b = some o → h'.get? b = some o)) E) PySem.F.called_set.init.plain PySem.F.entry_set_init (check_set_init_1 hT ?_)) fun r₂ s₂ hr₂ => ?_
      · obtain ⟨ol, hol, hcl, nl, hdl⟩ := hl
        obtain ⟨ocls, odict, odata, oslots⟩ := ol
        simp only at hcl hdl
        subst hcl; subst hdl
        have hol' : (s.heap.push { cls := .type "set", dict := none, data := .set #[] 0 (.fresh 0 0 (!w.params.followText "set-order")) }).get? l = some { cls := .type "tuple", dict := odict, data := .seq items nl, slots := oslots } := Heap.get?_push_of_some _ hol
        have hsls := PySem.F.sub_tuple_set
        have hslf := PySem.F.sub_tuple_frozenset
        have hne : (Value.type "tuple" == Value.type "dict") = false := by decide
        have hl1 : (s.heap.push { cls := .type "set", dict := none, data := .set #[] 0 (.fresh 0 0 (!w.params.followText "set-order")) }).IsTuple l items := ⟨_, hol', rfl, nl, rfl⟩
        unfold Builtin.«set.__init__» noKeywords Builtin.Frozenset.updateFrom
        generalize hPI : pyIter = PI
        wp_walk
        subst hPI

        refine wpAny_pyIter_tuple (s := { s with heap := s.heap.push { cls := .type "set", dict := none, data := .set #[] 0 (.fresh 0 0 (!w.params.followText "set-order")) } }) hl1 ?_
        refine wpAny_bind (wpAny_runValue ?_)
        have hlS : l < s.heap.objs.size := Heap.lt_size hol
        have hh3 : A.in1.in1.in1.handled = none := by simp [hh]
        have hneI : l ≠ (s.heap.push { cls := .type "set", dict := none, data := .set #[] 0 (.fresh 0 0 (!w.params.followText "set-order")) }).objs.size := by
          rw [Heap.size_push]; exact Nat.ne_of_lt (Nat.lt_succ_of_lt hlS)
        have hSf : s.heap.objs.size ∉ [(s.heap.push { cls := .type "set", dict := none, data := .set #[] 0 (.fresh 0 0 (!w.params.followText "set-order")) }).objs.size, l] := by
          rw [Heap.size_push]; simp only [List.mem_cons, List.mem_singleton, List.not_mem_nil, or_false, not_or]
          exact ⟨Nat.ne_of_lt (Nat.lt_succ_self _), Nat.ne_of_gt hlS⟩
        have hval : ∀ (i : Nat) (v : Value), items[i]? = some v → ∃ k, ns[i]? = some k ∧ knd.is k v = true ∧ v.scannable = true := fun i v hv => each_at hit i (by rw [Array.getElem?_toList]; exact hv)
        refine set_upd (knd := knd) ((Walks.tuple hh3 _ l hneI items).toS) s.heap.objs.size
          hSf ns hisz hb hval (items.size - 0) 0 _ (by omega) (Nat.zero_le _)
          ⟨⟨_, Heap.get?_push_size _ rfl, rfl, rfl⟩, (hl1.push _)⟩ ?hS0 ?hR
        case hS0 =>
          have hget : ((s.heap.push { cls := .type "set", dict := none, data := .set #[] 0 (.fresh 0 0 (!w.params.followText "set-order")) }).push { cls := .type "tuple_iterator", data := .fields #[.ref l, .int 0 0] }).get? s.heap.objs.size = some { cls := .type "set", dict := none, data := .set #[] 0 (.fresh 0 0 (!w.params.followText "set-order")) } := Heap.get?_push_of_some _ hS
          exact set_none hget
        case hR =>
          intro s' hm hS'
          obtain ⟨h', g2, d', tk', os'⟩ := s'
          have eg : g2 = s.gens := hm.gens
          have ed : d' = s.drawn := hm.drawn
          have eo : os' = s.os := hm.os
          subst eg; subst ed; subst eo
          show wpAny _ _ _ _ _ _
          refine wpAny_pure ?_
          show wpAny _ _ (ret Value.none) _ _ _
          refine wpAny_pure ⟨rfl, h', tk', rfl, hS', fun b o e => ?_⟩
          have hb0 : b < s.heap.objs.size := Heap.lt_size e
          have hb1 : b ≠ s.heap.objs.size := Nat.ne_of_lt hb0
          have hb2 : b ≠ (s.heap.push { cls := .type "set", dict := none, data := .set #[] 0 (.fresh 0 0 (!w.params.followText "set-order")) }).objs.size := by
            rw [Heap.size_push]; exact Nat.ne_of_lt (Nat.lt_succ_of_lt hb0)
          exact hm.heap b o (by simp only [List.mem_cons, List.mem_singleton, List.not_mem_nil, or_false, not_or]; exact ⟨hb1, hb2⟩) (Heap.get?_push_of_some _ (Heap.get?_push_of_some _ e))

      · cases r₂ with
        | error e => exact hr₂
        | ok fl₂ =>
          cases fl₂ with
          | ret r =>
            obtain ⟨rfl, h', tk, rfl, hS', hk'⟩ := hr₂
            repeat (any_goals (first | assumption | wp_step))
            exact h _ _ hS' hk'
          | _ => exact hr₂.elim
    | _ => exact hr.elim
end
end DI

set_option maxRecDepth 100000
/-! DT3: sorted(set(texts)), len(set(texts)). -/
namespace DI
open PySem PySem.Spec PyProof.Rows L2
open PySem.W (EachIs)
def SetKO (P : Program) (w : World) (a : Addr) (ks : List Str) : HO := .ext fun h => IsSet (PySem.strKind P w) h a ks
section
variable {X : Cx} {Φ : Fns}
theorem setKO_new {P : Program} {w : World} {H : Hp} {h : Heap} {a : Addr} {ks : List Str} (R : IsSet (PySem.strKind P w) h a ks) : ObjOk P w H h a (SetKO P w a ks) := by
  have ⟨o, _, _, _, _, q⟩ := R
  exact ⟨R, ⟨o, q.get⟩, fun h1 h2 p k => IsSet.at p k⟩
theorem setKO_get {pins : List (Addr × Obj)} {σ : L2.St} {H : Hp} {s : Shared} {a : Addr} {ks : List Str} (I : Inv X pins σ H s) (ha : H a = some (SetKO X.prog X.w a ks)) : IsSet (PySem.strKind X.prog X.w) s.heap a ks := (I.hok a _ ha).1
theorem each_strs {P : Program} {w : World} : ∀ {ss : List Str} {us : List Value}, Vals (ss.map V.str) us → EachIs (fun v k => (PySem.strKind P w).is k v = true ∧ v.scannable = true) us ss
  | [], _, h => by cases h; exact .nil
  | s :: ss, _, h => by
    cases h with
    | cons r t =>
      obtain ⟨tk, rfl⟩ := r
      exact .cons ⟨PySem.strKind_is _ _ _ _, rfl⟩ (each_strs t)
def rSetL (K : PySem.W.Frag) (P : Program) (w : World) : List V → Hp → VK → Prop := fun xs H Q => ∃ (l : Addr) (ss : List Str), xs = [V.ref l] ∧ (SqL K H l (ss.map V.str) ∨ SqT K H l (ss.map V.str)) ∧ ss.length ≤ 1000 ∧ ∀ p, H p = none → Q (.ref p) (upd H p (SetKO P w p (gatherK ss)))
theorem cr_setL (hc : X.calm = true) : CallR X (.type "set") (rSetL X.K X.prog X.w) := by
  intro pins s σ H xs us Q I r h
  obtain ⟨l, ss, rfl, hs, hz, q⟩ := h
  rw [Vals.ref1 r]
  rcases hs with hs | hs
  case inr =>
    obtain ⟨its, rv, hl, _⟩ := I.tuple hs
    refine call_setT (knd := PySem.strKind X.prog X.w) ss (I.ok.hd hc) hl (by rw [List.toList_toArray]; exact each_strs rv) (by unfold scanBound; omega) fun h' tk R kp => ?_
    exact ⟨.ref _, upd H s.heap.objs.size (SetKO X.prog X.w s.heap.objs.size (gatherK ss)), I.laid (t' := tk) kp (Nat.le_refl _) (setKO_new R), rfl, q _ (I.hok.fresh (Nat.le_refl _))⟩
  obtain ⟨its, rv, hl, _⟩ := I.list hs
  refine call_setL (knd := PySem.strKind X.prog X.w) ss (I.ok.hd hc) hl.isList (by rw [List.toList_toArray]; exact each_strs rv) (by unfold scanBound; omega) fun h' tk R kp => ?_
  exact ⟨.ref _, upd H s.heap.objs.size (SetKO X.prog X.w s.heap.objs.size (gatherK ss)), I.laid (t' := tk) kp (Nat.le_refl _) (setKO_new R), rfl, q _ (I.hok.fresh (Nat.le_refl _))⟩
theorem ins_str (x : Str) : ∀ l : List Str, sortBy.insBy' PySem.W.dataLt (.str x) (l.map PyData.str) = (sortBy.insBy' strLt x l).map .str
  | [] => rfl
  | y :: r => by
    rw [List.map_cons]
    unfold sortBy.insBy'
    rw [show PySem.W.dataLt (.str y) (.str x) = strLt y x from PySem.W.dataLt_str y x]
    split
    · rw [ins_str x r, List.map_cons]
    · rfl
theorem sort_str : ∀ l : List Str, sortBy PySem.W.dataLt (l.map PyData.str) = (sortBy strLt l).map .str
  | [] => rfl
  | x :: r => by
    rw [List.map_cons]
    unfold sortBy
    rw [sort_str r, ins_str]
theorem sort_perm {l m : List Str} (p : l.Perm m) : sortBy strLt l = sortBy strLt m :=
  sorted_eq strLt_an ((sortBy_perm l).trans (p.trans (sortBy_perm m).symm)) (sortBy_sorted strLt_tr strLt_as l) (sortBy_sorted strLt_tr strLt_as m)
theorem each_self {α β : Type} (f : α → β) : ∀ l : List α, EachIs (fun d k => d = f k) (l.map f) l
  | [] => .nil
  | x :: l => .cons rfl (each_self f l)
theorem each_map' {α β : Type} {f : α → β} {ds : List β} {ks : List α} (e : EachIs (fun d k => d = f k) ds ks) : ds = ks.map f := by
  induction e with
  | nil => rfl
  | cons h t ih => rw [h, ih, List.map_cons]
theorem perm_inv {α β : Type} {f : α → β} {ds : List β} {ks : List α} (p : ds.Perm (ks.map f)) : ∃ k2 : List α, k2.Perm ks ∧ ds = k2.map f := by
  obtain ⟨k2, p2, e2⟩ := each_perm p (each_self f ks)
  exact ⟨k2, p2, each_map' e2⟩
def StrV (v : Value) (d : PyData) : Prop := ∃ x tk, v = .str x tk ∧ d = .str x
theorem strv_of {P : Program} {w : World} {es : List (Int × Value)} {ks : List Str} (e : EachIs (ElK (PySem.strKind P w)) es ks) : EachIs StrV (es.map (·.2)) (ks.map PyData.str) := by
  induction e with
  | nil => exact .nil
  | cons h t ih =>
    rename_i x k _ _
    refine .cons ?_ ih
    obtain ⟨n, v⟩ := x
    have h1 : Value.isStrOf k v = true := h.is
    cases v <;> simp [Value.isStrOf] at h1
    subst h1
    exact ⟨_, _, rfl, rfl⟩
theorem strv_rd {h : Heap} {vs : List Value} {ds : List PyData} (e : EachIs StrV vs ds) : EachIs (fun v d => ∃ as, Reads h v d as) vs ds :=
  e.mono fun v d ⟨x, tk, e1, e2⟩ => by subst e1; subst e2; exact ⟨[], .str x tk⟩
theorem strv_vals : ∀ {ss : List Str} {us : List Value}, EachIs StrV us (ss.map PyData.str) → Vals (ss.map V.str) us
  | [], _, h => by
    have h' : EachIs StrV _ [] := h
    cases h'
    exact .nil
  | s :: ss, _, h => by
    have h' : EachIs StrV _ (PyData.str s :: ss.map PyData.str) := h
    cases h' with
    | cons h t =>
      obtain ⟨x, tk, rfl, e⟩ := h
      cases e
      exact .cons ⟨tk, rfl⟩ (strv_vals t)
def rSortedL (P : Program) (w : World) : List V → Hp → VK → Prop := fun xs H Q => ∃ (a : Addr) (ks : List Str), xs = [V.ref a] ∧ H a = some (SetKO P w a ks) ∧ ks.length ≤ 1000 ∧ ∀ p, H p = none → Q (.ref p) (upd H p (.lst ((sortBy strLt ks).map V.str)))
theorem cr_sortedL (hc : X.calm = true) (hu : X.A.units + 65 < cLine) : CallR X (.builtin "sorted") (rSortedL X.prog X.w) := by
  intro pins s σ H xs us Q I r h
  obtain ⟨a, ks, rfl, ha, hz, q⟩ := h
  obtain ⟨o, es, ep, t, ks', R⟩ := setKO_get I ha
  rw [Vals.ref1 r]
  have hlen : ks'.length = ks.length := R.perm.length_eq
  refine sorted_gen (R := StrV) (P := fun ds => ∃ k2 : List Str, k2.Perm ks ∧ ds = k2.map .str) (fun ds ⟨k2, p2, e2⟩ => ?_) (fun E' Q' h => ?_) fun s' p out c ds' b1 b2 b3 b4 b5 b6 b7 b8 => ?_
  · subst e2
    refine ⟨?_, .inr ?_, ?_, ?_⟩
    · intro d hd e he
      obtain ⟨x, _, rfl⟩ := List.mem_map.mp hd
      obtain ⟨y, _, rfl⟩ := List.mem_map.mp he
      simp [PySem.W.alike]
    · intro d hd
      obtain ⟨x, _, rfl⟩ := List.mem_map.mp hd
      exact ⟨(by simp), fun xs => (by simp)⟩
    · rw [List.length_map, p2.length_eq, sizeLine_eq]; omega
    · intro d hd
      obtain ⟨x, _, rfl⟩ := List.mem_map.mp hd
      simp only [PyData.depth]
      omega
  · have hsz : es.size < scanBound := by
      have := R.each.length
      rw [Array.length_toList, hlen] at this
      have := R.lt
      omega
    refine collect_set (A := X.A.in1) (I.ok.hd hc) ⟨o, R.get, R.exact.1, R.data⟩ R.fits hsz R.ris R.led fun s1 vs k1 hz1 g1 o1 pm => ?_
    obtain ⟨ds, p3, e3⟩ := each_perm pm (strv_of R.each)
    obtain ⟨k2, p4, rfl⟩ := perm_inv p3
    exact h s1 vs _ k1 hz1 g1 o1 ⟨k2, p4.trans R.perm, rfl⟩ e3 (strv_rd e3)
  · obtain ⟨k2, p2, rfl⟩ := b6
    rw [msort_eq, sort_str, sort_perm p2] at b8
    have rv := strv_vals b8
    have hn : H p = none := I.hok.fresh b2
    have hlz : ((sortBy strLt ks).map V.str).length ≤ sizeLine := by
      rw [List.length_map, (sortBy_perm (lt := strLt) ks).length_eq, sizeLine_eq]
      omega
    have J : Inv X pins σ (upd H p (.lst ((sortBy strLt ks).map V.str))) { s with heap := s'.heap, gens := s'.gens, drawn := s'.drawn, toks := s'.toks } :=
      I.call (ch := []) (Un.laid b1 b2 hn) (I.hok.laid b1 b2 ⟨hlz, out, c, rv, b5⟩) (by rw [b3]; exact I.bare) (fun _ z => nomatch z)
    have e : s' = { s with heap := s'.heap, gens := s'.gens, drawn := s'.drawn, toks := s'.toks } := by
      cases s'
      cases s
      cases b4
      rfl
    rw [e]
    exact ⟨.ref p, _, J, rfl, q p hn⟩
theorem cr_lenL : CallR X (.builtin "len") (fun xs H Q => ∃ (a : Addr) (ks : List Str), xs = [V.ref a] ∧ H a = some (SetKO X.prog X.w a ks) ∧ ks.length ≤ 1000 ∧ Q (.int ks.length) H) := by
  intro pins s σ H xs us Q I r h
  obtain ⟨a, ks, rfl, ha, hz, q⟩ := h
  obtain ⟨o, es, ep, t, ks', R⟩ := setKO_get I ha
  rw [Vals.ref1 r]
  have hsz : es.size = ks.length := by
    have := R.each.length
    rw [Array.length_toList, R.perm.length_eq] at this
    exact this
  exact call_len_set R.get R.exact R.data R.fits (by rw [hsz]; omega) ⟨.int ks.length, H, I.tok _, ⟨_, by rw [hsz]⟩, q⟩
theorem gather_le (ss : List Str) : (gatherK ss).length ≤ ss.length := by
  have := gather_len ss []
  simpa [gatherK] using this
/-- what stands in the set's brackets -/
theorem arg_strs {f : B} {xe : Xp} {env env' : Env} {r : R} (h : ev Φ (.bi f (.cons xe .nil)) env = some (r, env')) : ∃ r1 d, ev Φ xe env = some (r1, env') ∧ r1.val env' = some d ∧ biD f [d] = some r := by
  obtain ⟨rs, ds, e1, e2, e3⟩ := ev_bi_inv h
  simp only [evR] at e1
  cases e4 : ev Φ xe env with
  | none => rw [e4] at e1; cases e1
  | some p =>
    obtain ⟨r1, en1⟩ := p
    rw [e4] at e1
    cases e1
    simp only [valsR] at e2
    cases e5 : r1.val env' with
    | none => rw [e5] at e2; cases e2
    | some d =>
      rw [e5] at e2
      cases e2
      exact ⟨r1, d, rfl, e5, e3⟩
theorem snd_sset {e : Expr} {xe : Xp} {p p2 pos pos2 : Pos} (hc : X.calm = true) (hu : X.A.units + 65 < cLine) (hg : Gl X "sorted") (hm : X.mg "sorted" = none) (hg2 : Gl X "set") (hm2 : X.mg "set" = none) (he : Snd Φ X e xe) (ns : notStar e = true := by rfl) :
    Snd Φ X (.Call (.Name "sorted" p) [.Call (.Name "set" p2) [e] [] pos2] [] pos) (.bi .setSorted (.cons xe .nil)) := .mk fun env r env' h S σ H ok Q q => by
  obtain ⟨r1, d, e1, e2, e3⟩ := arg_strs h
  refine any_of (pe_callB (cr_sortedL hc hu) hg hm (by rfl) (pa_cons (pe_callTy (cr_setL hc) hg2 hm2 (by rfl) (pa_cons pe_any pa_nil (star_cons ns)) (he := star_cons ns)) pa_nil (star_cons rfl)) (he := star_cons rfl)) (he env r1 env' e1 S σ H ok _ fun v S1 H1 P => ?_)
  have rc := P.rv.repC P.ok e2
  cases d with
  | list xs =>
    obtain ⟨a, ws, rfl, g1, g2⟩ := rc
    simp only [biD] at e3
    cases e4 : strsD xs with
    | none => rw [e4] at e3; cases e3
    | some ss =>
      rw [e4] at e3
      dsimp only at e3
      split at e3
      · rename_i hk
        cases e3
        rw [Bool.and_eq_true, decide_eq_true_iff] at hk
        obtain ⟨z1, z2⟩ := strs_of g2 e4
        subst z1
        refine ⟨a, ss, rfl, .inl g1, hk.2, fun p1 hp1 => ⟨p1, gatherK ss, rfl, upd_same, Nat.le_trans (gather_le ss) hk.2, fun p3 hp3 => ?_⟩⟩
        exact q _ _ _ ((Post.lst (P.ok.new hp1) hp3 (strs_reps _)).after (P.fw.trans (Fw.new hp1)))
      · cases e3
  | tuple xs =>
    obtain ⟨a, ws, rfl, g1, g2⟩ := Rep.tup_inv rc
    simp only [biD] at e3
    cases e4 : strsD xs with
    | none => rw [e4] at e3; cases e3
    | some ss =>
      rw [e4] at e3
      dsimp only at e3
      split at e3
      · rename_i hk
        cases e3
        rw [Bool.and_eq_true, decide_eq_true_iff] at hk
        obtain ⟨z1, z2⟩ := strs_of g2 e4
        subst z1
        refine ⟨a, ss, rfl, .inr (er_full.sqT g1), hk.2, fun p1 hp1 => ⟨p1, gatherK ss, rfl, upd_same, Nat.le_trans (gather_le ss) hk.2, fun p3 hp3 => ?_⟩⟩
        exact q _ _ _ ((Post.lst (P.ok.new hp1) hp3 (strs_reps _)).after (P.fw.trans (Fw.new hp1)))
      · cases e3
  | _ => simp [biD] at e3
theorem snd_lset {e : Expr} {xe : Xp} {p p2 pos pos2 : Pos} (hc : X.calm = true) (hg : Gl X "len") (hm : X.mg "len" = none) (hg2 : Gl X "set") (hm2 : X.mg "set" = none) (he : Snd Φ X e xe) (ns : notStar e = true := by rfl) :
    Snd Φ X (.Call (.Name "len" p) [.Call (.Name "set" p2) [e] [] pos2] [] pos) (.bi .lenSet (.cons xe .nil)) := .mk fun env r env' h S σ H ok Q q => by
  obtain ⟨r1, d, e1, e2, e3⟩ := arg_strs h
  refine any_of (pe_callB cr_lenL hg hm (by rfl) (pa_cons (pe_callTy (cr_setL hc) hg2 hm2 (by rfl) (pa_cons pe_any pa_nil (star_cons ns)) (he := star_cons ns)) pa_nil (star_cons rfl)) (he := star_cons rfl)) (he env r1 env' e1 S σ H ok _ fun v S1 H1 P => ?_)
  have rc := P.rv.repC P.ok e2
  cases d with
  | list xs =>
    obtain ⟨a, ws, rfl, g1, g2⟩ := rc
    simp only [biD] at e3
    cases e4 : strsD xs with
    | none => rw [e4] at e3; cases e3
    | some ss =>
      rw [e4] at e3
      dsimp only at e3
      split at e3
      · rename_i hk
        cases e3
        rw [decide_eq_true_iff] at hk
        obtain ⟨z1, z2⟩ := strs_of g2 e4
        subst z1
        refine ⟨a, ss, rfl, .inl g1, hk, fun p1 hp1 => ⟨p1, gatherK ss, rfl, upd_same, Nat.le_trans (gather_le ss) hk, ?_⟩⟩
        exact q _ _ _ ((Post.leaf (F := upd H1 p1 (SetKO X.prog X.w p1 (gatherK ss))) (P.ok.new hp1) (.int _) rfl).after (P.fw.trans (Fw.new hp1)))
      · cases e3
  | tuple xs =>
    obtain ⟨a, ws, rfl, g1, g2⟩ := Rep.tup_inv rc
    simp only [biD] at e3
    cases e4 : strsD xs with
    | none => rw [e4] at e3; cases e3
    | some ss =>
      rw [e4] at e3
      dsimp only at e3
      split at e3
      · rename_i hk
        cases e3
        rw [decide_eq_true_iff] at hk
        obtain ⟨z1, z2⟩ := strs_of g2 e4
        subst z1
        refine ⟨a, ss, rfl, .inr (er_full.sqT g1), hk, fun p1 hp1 => ⟨p1, gatherK ss, rfl, upd_same, Nat.le_trans (gather_le ss) hk, ?_⟩⟩
        exact q _ _ _ ((Post.leaf (F := upd H1 p1 (SetKO X.prog X.w p1 (gatherK ss))) (P.ok.new hp1) (.int _) rfl).after (P.fw.trans (Fw.new hp1)))
      · cases e3
  | _ => simp [biD] at e3
end
end DI

set_option maxRecDepth 100000
/-! DI32: a dict's values as a list, as a tuple; a < b < c; a display with a tuple as its key; (*a, b, ..). -/
namespace DI
open PySem PySem.Spec PyProof.Rows L2 PySem.W
/-! ### what a source gives, gathered -/
section
variable {prog : Program} {w : World} {A : Around} {E : Value → Shared → Prop} {s : Shared} {T : String} {r d : Addr} {n : Nat} {P : Nat → Value → Prop} {OK : Heap → Prop}
theorem src_collect {Q : List Value → Shared → Prop} (K : KdlSrc prog w T r d n P OK) (hh : A.handled = none) (hok : OK s.heap) (hn : n ≤ sizeLine)
    (hQ : ∀ (h' : Heap) (tk : Nat) (acc : Array Value), (∀ b o, s.heap.get? b = some o → h'.get? b = some o) → ItemsOf P acc n → Q acc.toList { s with heap := h', toks := tk }) :
    wpAny (model prog w) A (collect (.ref r)) Q E s := by
  have hlt := K.there _ hok
  unfold collect
  refine wpAny_bind (wpAny_runValue (codeAny_builtin PySem.F.entry_proto_collect ?_))
  rw [Around.under_plainId PySem.F.plain_proto_collect _]
  show wpAny _ A.in1 (newList [] >>= fun l => again (.builtin "list.__iadd__" ⟨[l, .ref r], []⟩)) _ _ s
  refine wpAny_bind (wpAny_newObj_type ?_)
  refine wpAny_pure ⟨plainId_quiet PySem.F.plain_list_iadd _, codeAny_builtin PySem.F.entry_list_iadd ?_⟩
  rw [Around.under_plainId PySem.F.plain_list_iadd _]
  show wpAny _ A.in1 (Builtin.List.listExtendWith (.ref s.heap.objs.size) (.ref r) (.ref s.heap.objs.size)) _ _ _
  have hS : (s.heap.push { cls := .type "list", data := .seq ([] : List Value).toArray }).get? s.heap.objs.size = some { cls := .type "list", data := .seq #[] 0 } := Heap.get?_push_size _ rfl
  refine wpAny_mono (kdl_extend (A := A) (R := fun rr s' => rr = .ok (.ret (.ref s.heap.objs.size)) ∧ ∃ (h' : Heap) (tk : Nat) (acc : Array Value) (c' : Nat), s' = { s with heap := h', toks := tk } ∧
      (∀ b o, s.heap.get? b = some o → h'.get? b = some o) ∧ h'.get? s.heap.objs.size = some { cls := .type "list", dict := none, data := .seq acc c', slots := #[] } ∧ ItemsOf P acc n)
    (s := { s with heap := s.heap.push { cls := .type "list", data := .seq ([] : List Value).toArray } }) K hh (K.keep _ _ hok fun b _ o e => Heap.get?_push_of_some _ e) s.heap.objs.size (Nat.ne_of_gt hlt.1) (Nat.ne_of_gt hlt.2) _ 0 hS
    (fun h' tk acc c' hk e hi => ⟨rfl, h', tk, acc, c', rfl, fun b o q => hk b o (Nat.ne_of_lt (Heap.lt_size q)) (Heap.get?_push_of_some _ q), e, hi⟩) hn) (fun fin s' h => ?_) (fun e s' h => ?_)
  · cases fin with
    | done f =>
      obtain ⟨e, h', tk, acc, c', rfl, hk, hS', hi⟩ := h
      cases e
      show wpAny _ A (load s.heap.objs.size >>= _) _ _ _
      exact wpAny_bind (wpAny_load hS' (wpAny_pure (hQ h' tk acc hk hi)))
    | again c' =>
      refine ⟨h.1, codeAny_mono h.2 fun rr s'' hr' => ?_⟩
      obtain ⟨rfl, h', tk, acc, c', rfl, hk, hS', hi⟩ := hr'
      show wpAny _ A (load s.heap.objs.size >>= _) _ _ _
      exact wpAny_bind (wpAny_load hS' (wpAny_pure (hQ h' tk acc hk hi)))
  · exact absurd h.1 (by simp)
theorem code_tuple_src {Q₁ : Value → Shared → Prop} (K : KdlSrc prog w "dict_values" r d n P OK) (hh : A.handled = none) (hok : OK s.heap) (hn : n ≤ sizeLine)
    (h : ∀ (h' : Heap) (tk : Nat) (acc : Array Value), (∀ b o, s.heap.get? b = some o → h'.get? b = some o) → ItemsOf P acc n →
      Q₁ (.ref h'.objs.size) { s with heap := h'.push { cls := .type "tuple", data := .seq acc }, toks := tk }) :
    codeAny (model prog w) A (.call (.builtin "tuple.__new__") ⟨[.type "tuple", .ref r], []⟩) (wants Q₁ E) s := by
  refine codeAny_of_tree ?_
  show wpAny _ A.in1 (do checkBuiltinCall "tuple.__new__" ⟨[.type "tuple", .ref r], []⟩; again (.builtin "tuple.__new__" ⟨[.type "tuple", .ref r], []⟩)) _ _ s
  refine wpAny_bind (wpAny_of_eq (PySem.F.newCall_tuple_1 _) (wpAny_pure ⟨plainId_quiet PySem.F.plain_tuple_new _, codeAny_builtin PySem.F.entry_tuple_new ?_⟩))
  rw [Around.under_plainId PySem.F.plain_tuple_new _]
  have hsub := sub_tuple_self
  have hinit := init_tuple_lookup
  have hmh := madeHere_tuple
  have hTI : s.TypeIs (.ref r) "dict_values" := K.type s hok
  have hh1 : A.in1.handled = none := hh
  wp_walk using wpAny_typeOf hTI, src_collect (A := A.in1) K hh1 hok hn
  intro h' tk acc hk hacc
  show wpAny _ _ (Builtin.Tuple.tupleExact acc.toList.toArray >>= fun v => ret v) _ _ _
  unfold Builtin.Tuple.tupleExact
  refine wpAny_bind (wpAny_newObj_type ?_ (by show acc.toList.toArray.size ≤ sizeLine; simp only [Array.toArray_toList]; rw [hacc.1]; exact hn))
  refine wpAny_pure ?_
  have e : acc.toList.toArray = acc := by simp
  rw [e]
  exact h h' tk acc hk hacc
theorem call_tuple_vals {Q : Value → Shared → Prop} (K : KdlSrc prog w "dict_values" r d n P OK) (hh : A.handled = none) (hok : OK s.heap) (hn : n ≤ sizeLine)
    (hQ : ∀ (h' : Heap) (tk : Nat) (acc : Array Value), (∀ b o, s.heap.get? b = some o → h'.get? b = some o) → ItemsOf P acc n →
      Q (.ref h'.objs.size) { s with heap := h'.push { cls := .type "tuple", data := .seq acc }, toks := tk }) :
    wpAny (model prog w) A (call (.type "tuple") [.ref r]) Q E s := by
  refine callType_codes (Q₁ := fun obj s₁ => s₁.TypeIs obj "tuple" ∧ Q obj s₁) PySem.F.called_tuple (PySem.F.typeCall_tuple_1 _) PySem.F.entry_object_init
    (code_tuple_src (A := A.in1) K hh hok hn fun h' tk acc hk hacc => ⟨⟨_, Heap.get?_push_size _ rfl, rfl⟩, hQ h' tk acc hk hacc⟩) fun obj s₁ h₁ => ?_
  exact ⟨h₁.1, PySem.F.args_object_init_2 obj _, object_init_meets PySem.F.called_tuple.init.lookup PySem.F.called_tuple.made (by decide) prog w A.in1 _ s₁ ⟨h₁.1, rfl, h₁.2⟩⟩
end
section
variable {X : Cx} {e : Expr} {td : TE}
/-- a dict's values, as a view -/
def PVl (X : Cx) (e : Expr) (td : TE) : Prop := ∀ (pins : List (Addr × Obj)) (s : Shared) (σ : L2.St) (H : Hp) (Q : List (Key × V) → Hp → Prop), Inv X pins σ H s →
  td σ H (fun x H1 => ∃ d o kvs, x = .ref d ∧ H1 d = some (.frz o (.dK kvs)) ∧ Q kvs H1) →
  wpAny (model X.prog X.w) X.A (eval e X.env) (fun u s1 => ∃ (r d : Addr) (kvs : List (Key × V)) (vs : List (Key × Value)) (ep : Nat) (H1 : Hp), u = .ref r ∧ s1.heap.IsValuesView r d ∧ s1.heap.DictAt (mixKind X.prog X.w) d vs ep ∧ KV kvs vs ∧ kvs.length ≤ sizeLine ∧ Inv X pins σ H1 s1 ∧ Q kvs H1) X.xe s
theorem pvl_values {apos cpos : Pos} (he : PE X e td) (hbase : attributeBase e "values" X.env (eval e X.env) = eval e X.env := by rfl) (hline : (apos.endLine == cpos.line) = true := by rfl) : PVl X (.Call (.Attribute e "values" apos) [] [] cpos) td := by
  intro pins s σ H Q I h
  refine wpAny_Call_method (T := "dict") (id := "dict.values") hbase rfl hline PySem.F.plainAttrs_dict PySem.F.slot_dict_values PySem.F.type_dict_values (thn (he.run pins s σ H _ I h) fun u s1 ⟨x, H1, I1, rx, d, o, kvs, ex, hd, q⟩ => ?_)
  subst ex
  obtain rfl : u = Value.ref d := rx
  have hz : kvs.length ≤ sizeLine := by
    obtain ⟨_, z, _⟩ := I1.hok d _ hd
    exact z
  obtain ⟨hs, hgd, hx, es, ep, vs, hdt, hsz, kv, hm⟩ := I1.frzK hd
  refine ⟨hm.dictOf.typeIs, hm.dictOf.mapOf.noDict, ?_⟩
  have I2 : Inv X pins σ H1 { s1 with heap := s1.heap.push { cls := .type "dict_values", data := .fields #[.ref d] } } := I1.kept (t' := s1.toks) fun b ob q => Heap.get?_push_of_some _ q
  have fin : (fun (u : Value) (s1 : Shared) => ∃ (r d : Addr) (kvs : List (Key × V)) (vs : List (Key × Value)) (ep : Nat) (H1 : Hp), u = .ref r ∧ s1.heap.IsValuesView r d ∧ s1.heap.DictAt (mixKind X.prog X.w) d vs ep ∧ KV kvs vs ∧ kvs.length ≤ sizeLine ∧ Inv X pins σ H1 s1 ∧ Q kvs H1) (.ref s1.heap.objs.size) { s1 with heap := s1.heap.push { cls := .type "dict_values", data := .fields #[.ref d] } } :=
    ⟨_, d, kvs, vs, ep, H1, rfl, ⟨_, Heap.get?_push_size _ rfl, rfl, rfl⟩, hm.push _, kv, hz, I2, q⟩
  show wpAny _ _ (callWith cpos (.builtin "dict.values") [.ref d] [] []) _ X.xe s1
  exact method_meetsIn PySem.F.slot_dict_values PySem.F.entry_dict_values rfl (PySem.evalArgs_none ⟨rfl, hm.dictOf.typeIs, PySem.F.args_dict_values_1 _, _, meets_dict_values (mixKind X.prog X.w) d hs, ⟨vs, hm.dictOf⟩, fin⟩)
theorem kv_vals : ∀ {kvs : List (Key × V)} {vs : List (Key × Value)}, KV kvs vs → Vals (kvs.map (·.2)) (vs.map (·.2)) := by
  intro kvs vs h
  unfold KV at h
  induction h with
  | nil => exact .nil
  | cons h _ ih => exact .cons h.2 ih
theorem items_vals {vs : List (Key × Value)} {acc : Array Value} (h : ItemsOf (fun i v => ∃ k, vs[i]? = some (k, v)) acc vs.length) : acc.toList = vs.map (·.2) :=
  kdl_vals_eq acc.toList (by rw [Array.length_toList]; exact h.1) fun j v e => h.2 j v (by rw [← Array.getElem?_toList]; exact e)
def tVls (td : TE) (k : List V → HO) : TE := fun σ H Q => td σ H fun x H1 => ∃ d o kvs, x = .ref d ∧ H1 d = some (.frz o (.dK kvs)) ∧ ∀ q, H1 q = none → Q (.ref q) (upd H1 q (k (kvs.map (·.2))))
theorem pe_listVl {p pos : Pos} (hc : X.calm = true) (hg : Gl X "list") (hm : X.mg "list" = none) (he : PVl X e td) (na : starEach [e] X.env = (false, eval e X.env) :: starEach [] X.env := by rfl) : PE X (.Call (.Name "list" p) [e] [] pos) (tVls td .lst) := by
  refine ⟨fun pins s σ H Q I h => ?_⟩
  refine Call_ (ld_blt I hg hm boot_list (PyProof.Rows.callWith_type1 (args_cons (thn (he pins s σ H (fun (kvs : List (Key × V)) (H1 : Hp) => ∀ q, H1 q = none → Q (.ref q) (upd H1 q (.lst (kvs.map fun kv : Key × V => kv.2)))) I h) fun x s1 ⟨r, d, kvs, vs, ep, H1, ex, hv, hdm, kv, hl, I1, q⟩ => args_nil ?_) na) na))
  subst ex
  have hlen : kvs.length = vs.length := Paired.length kv
  refine kdl_call (kdl_values (knd := mixKind X.prog X.w) (kvs := vs) (ep := ep)) (I1.ok.hd hc) ⟨hv, hdm⟩ (by rw [← hlen]; exact hl) fun h' tk acc c' hk e' hi => ?_
  refine ⟨.ref s1.heap.objs.size, upd H1 s1.heap.objs.size (.lst (kvs.map (·.2))), I1.laid hk (Nat.le_refl _) (show ObjOk X.prog X.w _ _ _ (.lst (kvs.map (·.2))) from ⟨?_, acc.toList, c', ?_, ?_⟩), rfl, q _ (I1.hok.fresh (Nat.le_refl _))⟩
  · rw [List.length_map]; exact hl
  · rw [items_vals hi]; exact kv_vals kv
  · rw [Array.toArray_toList]; exact e'
theorem pe_tupVl {p pos : Pos} (hc : X.calm = true) (hg : Gl X "tuple") (hm : X.mg "tuple" = none) (he : PVl X e td) (na : starEach [e] X.env = (false, eval e X.env) :: starEach [] X.env := by rfl) : PE X (.Call (.Name "tuple" p) [e] [] pos) (tVls td .tup) := by
  refine ⟨fun pins s σ H Q I h => ?_⟩
  refine Call_ (ld_blt I hg hm boot_tuple (PyProof.Rows.callWith_type1 (args_cons (thn (he pins s σ H (fun (kvs : List (Key × V)) (H1 : Hp) => ∀ q, H1 q = none → Q (.ref q) (upd H1 q (.tup (kvs.map fun kv : Key × V => kv.2)))) I h) fun x s1 ⟨r, d, kvs, vs, ep, H1, ex, hv, hdm, kv, hl, I1, q⟩ => args_nil ?_) na) na))
  subst ex
  have hlen : kvs.length = vs.length := Paired.length kv
  refine call_tuple_vals (kdl_values (knd := mixKind X.prog X.w) (kvs := vs) (ep := ep)) (I1.ok.hd hc) ⟨hv, hdm⟩ (by rw [← hlen]; exact hl) fun h' tk acc hk hi => ?_
  have I2 : Inv X pins σ H1 { s1 with heap := h', toks := tk } := I1.kept hk
  refine ⟨.ref h'.objs.size, upd H1 h'.objs.size (.tup (kvs.map (·.2))), I2.laid (t' := tk) (fun c o e => Heap.get?_push_of_some _ e) (Nat.le_refl _) (show ObjOk X.prog X.w _ _ _ (.tup (kvs.map (·.2))) from ⟨?_, acc.toList, ?_, ?_⟩), rfl, q _ (I2.hok.fresh (Nat.le_refl _))⟩
  · rw [List.length_map]; exact hl
  · rw [items_vals hi]; exact kv_vals kv
  · rw [Array.toArray_toList]; exact IsTup.new _ _
end
/-! ### the judgements -/
section
variable {Φ : Fns} {X : Cx} {a b c e : Expr} {xa xb xc x : Xp} {pos p : Pos}
theorem vals_rep {K : PySem.W.Frag} {F : Hp} : ∀ {ws : List (Key × V)} {kvs : List (D × D)}, RepKV K F ws kvs → Reps K F (ws.map (·.2)) (kvs.map (·.2))
  | _, _, .nil => .nil
  | _, _, .cons h r => .cons h (vals_rep r)
theorem ev_vls_inv {t : Bool} {env env' : Env} {r : R} (h : ev Φ (.vls t x) env = some (r, env')) : ∃ r0 en1 kvs, ev Φ x env = some (r0, en1) ∧ ownDct r0 en1 = some (kvs, env') ∧ r = (if t then .im (.tuple (kvs.map (·.2))) else .fr (.list (kvs.map (·.2)))) := by
  simp only [ev] at h
  cases e1 : ev Φ x env with
  | none => rw [e1] at h; cases h
  | some p1 =>
    obtain ⟨r0, en1⟩ := p1
    rw [e1] at h
    dsimp only at h
    cases e2 : ownDct r0 en1 with
    | none => rw [e2] at h; cases h
    | some p2 =>
      obtain ⟨kvs, en2⟩ := p2
      rw [e2] at h
      dsimp only at h
      split at h
      · cases h
        exact ⟨r0, en1, kvs, rfl, e2, rfl⟩
      · cases h
theorem snd_vlsT {apos cpos : Pos} (hcalm : X.calm = true) (hg : Gl X "tuple") (hm : X.mg "tuple" = none) (he : Snd Φ X e x) (hbase : attributeBase e "values" X.env (eval e X.env) = eval e X.env := by rfl) (hline : (apos.endLine == cpos.line) = true := by rfl)
    (na : starEach [.Call (.Attribute e "values" apos) [] [] cpos] X.env = (false, eval (.Call (.Attribute e "values" apos) [] [] cpos) X.env) :: starEach [] X.env := by exact star_cons rfl) : Snd Φ X (.Call (.Name "tuple" p) [.Call (.Attribute e "values" apos) [] [] cpos] [] pos) (.vls true x) := .mk fun env r env' h S σ H ok Q q => by
  obtain ⟨r0, en1, kvs, e1, e2, rfl⟩ := ev_vls_inv h
  refine any_of (pe_tupVl hcalm hg hm (pvl_values (pe_frzD pe_any) hbase hline) na) (he env r0 en1 e1 S σ H ok _ fun v S1 H1 P => ?_)
  obtain ⟨d, ws, rfl, hd, go⟩ := ownD_ok P e2
  refine ⟨d, ws, rfl, hd, fun od => ?_⟩
  obtain ⟨S2, f2, ok2, hf, nS, rk⟩ := go od
  exact ⟨d, od, ws, rfl, hf, fun p hp => q _ _ _ ((Post.tup ok2 hp (vals_rep rk)).after f2)⟩
theorem snd_vlsL {apos cpos : Pos} (hcalm : X.calm = true) (hg : Gl X "list") (hm : X.mg "list" = none) (he : Snd Φ X e x) (hbase : attributeBase e "values" X.env (eval e X.env) = eval e X.env := by rfl) (hline : (apos.endLine == cpos.line) = true := by rfl)
    (na : starEach [.Call (.Attribute e "values" apos) [] [] cpos] X.env = (false, eval (.Call (.Attribute e "values" apos) [] [] cpos) X.env) :: starEach [] X.env := by exact star_cons rfl) : Snd Φ X (.Call (.Name "list" p) [.Call (.Attribute e "values" apos) [] [] cpos] [] pos) (.vls false x) := .mk fun env r env' h S σ H ok Q q => by
  obtain ⟨r0, en1, kvs, e1, e2, rfl⟩ := ev_vls_inv h
  refine any_of (pe_listVl hcalm hg hm (pvl_values (pe_frzD pe_any) hbase hline) na) (he env r0 en1 e1 S σ H ok _ fun v S1 H1 P => ?_)
  obtain ⟨d, ws, rfl, hd, go⟩ := ownD_ok P e2
  refine ⟨d, ws, rfl, hd, fun od => ?_⟩
  obtain ⟨S2, f2, ok2, hf, nS, rk⟩ := go od
  exact ⟨d, od, ws, rfl, hf, fun p hp => q _ _ _ ((Post.lst ok2 hp (vals_rep rk)).after f2)⟩
end
end DI

set_option maxRecDepth 100000
/-! DI33: a < b < c; a display whose key is a tuple; (*a, b, ..). -/
namespace DI
open PySem PySem.Spec PyProof.Rows L2
section
variable {Φ : Fns} {X : Cx} {a b c e : Expr} {es : List Expr} {xa xb xc x : Xp} {xs : Xps} {pos p : Pos}
/-! ### a < b < c -/
theorem ev_cmp2_inv {o o' : CmpOp} {env env' : Env} {r : R} (h : ev Φ (.cmp2 o o' xa xb xc) env = some (r, env')) : ∃ r1 en1 r2 en2 dx dy z, ev Φ xa env = some (r1, en1) ∧ ev Φ xb en1 = some (r2, en2) ∧ r1.val en2 = some dx ∧ r2.val en2 = some dy ∧ cmpD o dx dy = some z ∧
    ((z = false ∧ r = .im (.bool false) ∧ env' = en2) ∨ (z = true ∧ ∃ r3 dy' dw k, ev Φ xc en2 = some (r3, env') ∧ r2.val env' = some dy' ∧ r3.val env' = some dw ∧ cmpD o' dy' dw = some k ∧ r = .im (.bool k))) := by
  simp only [ev] at h
  cases e1 : ev Φ xa env with
  | none => rw [e1] at h; cases h
  | some p1 =>
    obtain ⟨r1, en1⟩ := p1
    rw [e1] at h
    dsimp only at h
    cases e2 : ev Φ xb en1 with
    | none => rw [e2] at h; cases h
    | some p2 =>
      obtain ⟨r2, en2⟩ := p2
      rw [e2] at h
      dsimp only at h
      cases f1 : r1.val en2 with
      | none => rw [f1] at h; cases h
      | some dx =>
        cases f2 : r2.val en2 with
        | none => rw [f1, f2] at h; cases h
        | some dy =>
          rw [f1, f2] at h
          dsimp only at h
          cases g : cmpD o dx dy with
          | none => rw [g] at h; cases h
          | some z =>
            rw [g] at h
            refine ⟨r1, en1, r2, en2, dx, dy, z, rfl, e2, f1, f2, g, ?_⟩
            cases z with
            | false =>
              cases h
              exact .inl ⟨rfl, rfl, rfl⟩
            | true =>
              dsimp only at h
              refine .inr ⟨rfl, ?_⟩
              cases e3 : ev Φ xc en2 with
              | none => rw [e3] at h; cases h
              | some p3 =>
                obtain ⟨r3, en3⟩ := p3
                rw [e3] at h
                dsimp only at h
                cases f3 : r2.val en3 with
                | none => rw [f3] at h; cases h
                | some dy' =>
                  cases f4 : r3.val en3 with
                  | none => rw [f3, f4] at h; cases h
                  | some dw =>
                    rw [f3, f4] at h
                    dsimp only at h
                    cases g2 : cmpD o' dy' dw with
                    | none => rw [g2] at h; cases h
                    | some k =>
                      rw [g2] at h
                      cases h
                      exact ⟨r3, dy', dw, k, rfl, f3, f4, g2, rfl⟩
theorem snd_cmp2 {o o' : CmpOp} (hop : OpD X (compareOp o) fun x y => (cmpD o x y).map fun b => .im (.bool b)) (hop' : OpD X (compareOp o') fun x y => (cmpD o' x y).map fun b => .im (.bool b)) (ha : Snd Φ X a xa) (hb : Snd Φ X b xb) (hc : Snd Φ X c xc)
    (hm : lastMarks [o, o'] [b, c] = false := by with_unfolding_all rfl) : Snd Φ X (.Compare a [o, o'] [b, c] pos) (.cmp2 o o' xa xb xc) := .mk fun env r env' h S σ H ok Q q => by
  obtain ⟨r1, en1, r2, en2, dx, dy, z, e1, e2, f1, f2, g, hz⟩ := ev_cmp2_inv h
  intro pins s I
  refine Compare_chain (thn (ha env r1 en1 e1 S σ H ok (fun x H1 => ∃ S1, Fw S H σ env S1 H1 σ en1 ∧ EnvOk X.K S1 σ H1 en1 ∧ RV X.K S1 H1 σ en1 r1 x) (fun x S1 H1 P1 => ⟨S1, P1.fw, P1.ok, P1.rv⟩) pins s I) fun v s1 ⟨x, H1, I1, rx, S1, w1, ok1, v1⟩ => chain_link (thn (hb en1 r2 en2 e2 S1 σ H1 ok1 (fun y H2 => ∃ S2, Fw S1 H1 σ en1 S2 H2 σ en2 ∧ EnvOk X.K S2 σ H2 en2 ∧ RV X.K S2 H2 σ en2 r2 y) (fun y S2 H2 P2 => ⟨S2, P2.fw, P2.ok, P2.rv⟩) pins s1 I1) fun u s2 ⟨y, H2, I2, ry, S2, w2, ok2, v2⟩ => ?_)) hm
  have v1' := v1.step ok1 w2
  refine thn (hop dx dy (.im (.bool z)) (by simp only [g, Option.map_some]) pins s2 σ H2 S2 en2 x y v u (fun zv H3 => zv = .bl z ∧ ∃ S3, Fw S2 H2 σ en2 S3 H3 σ en2 ∧ EnvOk X.K S3 σ H3 en2) I2 rx ry ok2 (v1'.repC ok2 f1) (v2.repC ok2 f2) fun zv S3 H3 P3 => ⟨Rep.bl_inv P3.rv, S3, P3.fw, P3.ok⟩) fun d s3 ⟨zv, H3, I3, r3, ez, S3, w3, ok3⟩ => ?_
  subst ez
  cases r3
  refine wpAny_truthy_bool ?_
  have F := (w1.trans w2).trans w3
  rcases hz with ⟨rfl, rfl, rfl⟩ | ⟨rfl, r3, dy', dw, k, e3, f3, f4, g2, rfl⟩
  · exact ite_ff ⟨.bl false, H3, I3, rfl, q _ _ _ ((Post.leaf (F := H3) ok3 (.bl _) rfl).after F)⟩
  · have v2' := v2.step ok2 w3
    refine ite_tt (chain_last (thn (hc en2 r3 env' e3 S3 σ H3 ok3 (fun w H4 => ∃ S4, Fw S3 H3 σ en2 S4 H4 σ env' ∧ EnvOk X.K S4 σ H4 env' ∧ RV X.K S4 H4 σ env' r3 w) (fun w S4 H4 P4 => ⟨S4, P4.fw, P4.ok, P4.rv⟩) pins s3 I3) fun w' s4 ⟨w, H4, I4, rw4, S4, w4, ok4, v4⟩ => ?_))
    exact hop' dy' dw (.im (.bool k)) (by simp only [g2, Option.map_some]) pins s4 σ H4 S4 env' y w u w' Q I4 ry rw4 ok4 ((v2'.step ok3 w4).repC ok4 f3) (v4.repC ok4 f4) fun z S' H' P => q z S' H' (P.after (F.trans w4))
/-! ### {(..): v} -/
theorem pe_dispT {k v : Expr} {tk tv : TE} (hu : X.A.units + 1 < cLine) (hk : PE X k tk) (hv : PE X v tv) :
    PE X (.Dict [some k] [v] pos) (fun σ H Q => ∀ p, H p = none → tk σ (upd H p (.dT [])) fun x H1 => tv σ H1 fun y H2 => H2 p = some (.dT []) ∧ ∃ (ks : List Key) (b : Addr), x = .ref b ∧ H2 b = some (.tup (ks.map kV)) ∧ Q (.ref p) (upd H2 p (.dT [(ks, y)]))) := by
  refine ⟨fun pins s σ H Q I q => ?_⟩
  have hn := I.hok.fresh (Nat.le_refl s.heap.objs.size)
  have I1 := I.laid (a := s.heap.objs.size) (o := .dT []) (h' := s.heap.push { cls := .type "dict", data := .dict #[] }) (t' := s.toks) (fun _ _ q => Heap.get?_push_of_some _ q) (Nat.le_refl _) (dt_empty s.heap I.big)
  have hshape := zip_pairTrees [some k] [v] X.env pos rfl rfl
  have hlen := pairTrees_length [some k] [v] X.env pos rfl rfl
  have h0 : pairTrees [some k] [v] X.env pos ≠ [] := fun z => by rw [z] at hlen; cases hlen
  rw [arm_eval_Dict, hshape, dictDisplay_pairs (pairTrees [some k] [v] X.env pos) h0 (by rw [hlen]; show 1 < 17; omega)]
  refine wpAny_bind (wpAny_standAt (wpAny_bind (wpAny_subDictH (knd := tupleKind (mixKind X.prog X.w)) (show X.A.units < cLine by omega) (by rw [hlen]; show 1 ≤ 15; omega) ?_)))
  refine thn ((pps_cons hk hv pps_nil (pos := pos)).run pins _ σ _ (fun ps H2 => match ps with
    | [(x, y)] => H2 s.heap.objs.size = some (.dT []) ∧ ∃ (ks : List Key) (b : Addr), x = .ref b ∧ H2 b = some (.tup (ks.map kV)) ∧ Q (.ref s.heap.objs.size) (upd H2 s.heap.objs.size (.dT [(ks, y)]))
    | _ => False) I1 (q _ hn)) fun ws s2 ⟨ps, H2, I2, rel, hq2⟩ => ?_
  cases rel with
  | nil => exact hq2.elim
  | @cons p0 w0 ps0 ws0 h t =>
  cases t with
  | cons _ _ => exact hq2.elim
  | nil =>
    obtain ⟨x, y⟩ := p0
    obtain ⟨e, ks, b, ex, eb, q2⟩ := hq2
    subst ex
    obtain ⟨w1, w2⟩ := w0
    obtain ⟨h1, h2⟩ := h
    cases (show w1 = Value.ref b from h1)
    obtain ⟨z, hd, xs, r0, dd⟩ := dt_of I2.hok e
    cases r0
    refine ⟨[(ks, b, w2)], ⟨rfl, rfl, L2.key_of I2.hok eb, trivial⟩, dd, fun h' tk dd' hs => ?_⟩
    obtain ⟨o, es', ep', hq, g2, g3, g4, _, g5⟩ := dd'
    refine wpAny_pure ⟨.ref s.heap.objs.size, _, ?_, rfl, q2⟩
    refine d_write I2 (by rw [e]; exact True.intro) hs ⟨o, hq⟩ ⟨by rw [sizeLine_eq]; show 1 ≤ 16777216; omega, hd, [(ks, b, w2)], .cons ⟨rfl, ?_, h2⟩ .nil, o, es', ep', hq, g2, g3, g4, g5⟩
    show upd H2 s.heap.objs.size _ b = _
    rw [upd_ne (ne_of eb e (fun z => nomatch z))]
    exact eb
theorem snd_dct1 {k v : Expr} {xk xv : Xp} (hu : X.A.units + 1 < cLine) (hk : Snd Φ X k xk) (hv : Snd Φ X v xv) : Snd Φ X (.Dict [some k] [v] pos) (.dct1 (.cons xk (.cons xv .nil))) := .mk fun env r env' hh S σ H ok Q q => by
  simp only [ev] at hh
  cases e0 : evS Φ (.cons xk (.cons xv .nil)) env with
  | none => rw [e0] at hh; cases hh
  | some p0 =>
    obtain ⟨ds, en⟩ := p0
    rw [e0] at hh
    obtain ⟨r1, en1, d1, en2, ds1, e1, e2, h1, g1⟩ := evS_cons_inv e0
    obtain ⟨r2, en3, d2, en4, ds2, e3, e4, h2, g2⟩ := evS_cons_inv h1
    simp only [evS] at h2
    cases h2
    subst g2
    subst g1
    dsimp only at hh
    split at hh
    · rename_i hc
      cases hh
      refine any_of (pe_dispT hu pe_any pe_any) fun p hp => ?_
      have ok0 := ok.newS hp (o := .dT [])
      have f0 : Fw S H σ env (fun a => S a ∨ a = p) (upd H p (.dT [])) σ env := Fw.newS hp
      have nb : ∀ k, ¬ OwnsK k σ env p := fun k z => ok.dom p (ok.owns z) hp
      have np : upd H p (.dT []) p ≠ none := by rw [upd_same]; exact fun z => by cases z
      refine hk env r1 en1 e1 _ σ _ ok0 _ fun v1 S1 H1 P => ?_
      obtain ⟨S2, f2, ok2, rp1⟩ := P.sto e2
      refine hv en2 r2 en3 e3 S2 σ H1 ok2 _ fun v2 S3 H3 P3 => ?_
      obtain ⟨S4, f4, ok4, rp2⟩ := P3.sto e4
      have F := f2.trans f4
      have hs : S4 p := F.kp p (.inr rfl) np (nb _)
      have nb4 : ∀ k, ¬ OwnsK k σ env' p := fw_nob F np nb
      have hn : H3 p = some (.dT []) := F.fr p _ upd_same fun z => z.elim (nb _) (nb _)
      obtain ⟨b, ks, rfl, rfl, eb⟩ := keyT_of ((rp1.mono (f4.le ok2)).mono er_full) hc
      refine ⟨hn, ks, b, rfl, eb, ?_⟩
      have F0 := f0.trans F
      have eu : er S4 (upd H3 p (.dT [(ks, v2)])) = er S4 H3 := er_upd hs
      have ok5 : EnvOk X.K S4 σ (upd H3 p (.dT [(ks, v2)])) env' := by
        refine ok4.move (by rw [eu]; exact Le.refl _) (fun k a z => ⟨ok4.owns z, upd_ne fun w => ?_⟩) fun a z => upd_dom (ok4.dom a z)
        subst w
        exact nb4 k z
      refine q (.ref p) S4 _ ⟨⟨F0.sub, F0.kp, fun a o z n => ?_, F0.own, F0.bo, F0.bo', F0.lk, F0.lk', fun a z => upd_dom (F0.dm a z)⟩, ok5, ⟨p, rfl, hs, fun z => z.elim (nb4 _) (nb4 _), nb4 _, (.inr ⟨by simp, _, .inl upd_same, ?_⟩), by rw [upd_same]; exact True.intro⟩, fun d p2 _ e => by cases e; exact hp⟩
      · rw [upd_ne (ne_of_none z hp)]
        exact F0.fr a o z n
      · rw [eu]
        exact .cons rp2 .nil
    · cases hh
/-! ### (*a, b, ..) -/
theorem snd_starTup {k : Nat} {p2 : Pos} (ha : Snd Φ X a xa) (h : SndS Φ X es xs) (hs : starEach (.Starred a p :: es) X.env = (true, eval a X.env) :: starEach es X.env := by rfl) : Snd Φ X (.Tuple (.Starred a p :: es) k pos) (.bin .Add (.bi .tuple (.cons xa .nil)) (.tup xs)) := .mk fun env r env' hh S σ H ok Q q => by
  simp only [ev, evR] at hh
  cases e1 : ev Φ xa env with
  | none => rw [e1] at hh; cases hh
  | some p1 =>
    obtain ⟨r1, en1⟩ := p1
    rw [e1] at hh
    dsimp only at hh
    simp only [valsR] at hh
    cases f1 : r1.val en1 with
    | none => rw [f1] at hh; cases hh
    | some d =>
      rw [f1] at hh
      dsimp only at hh
      have key : ∀ ys : List D, biD .tuple [d] = some (.im (.tuple ys)) → (d = .list ys ∨ d = .tuple ys) := fun ys hb => by
        cases d <;> simp only [biD] at hb <;> cases hb
        · exact .inl rfl
        · exact .inr rfl
      have tup : ∀ R, biD .tuple [d] = some R → ∃ ys, R = .im (.tuple ys) := fun R hb => by
        cases d <;> simp only [biD] at hb <;> cases hb <;> exact ⟨_, rfl⟩
      cases e2 : biD .tuple [d] with
      | none => rw [e2] at hh; cases hh
      | some R =>
        obtain ⟨ys, rfl⟩ := tup R e2
        rw [e2] at hh
        dsimp only at hh
        cases e3 : evS Φ xs en1 with
        | none => rw [e3] at hh; cases hh
        | some p3 =>
          obtain ⟨ds, en3⟩ := p3
          rw [e3] at hh
          dsimp only at hh
          by_cases hc : ds.length ≤ lim
          · rw [if_pos hc] at hh
            dsimp only [R.val, binD] at hh
            by_cases hl : ys.length + ds.length ≤ lim
            · rw [if_pos hl] at hh
              cases hh
              refine any_of (pe_tup (StX.pa_star pe_any pa_any hs)) (ha env r1 en1 e1 S σ H ok _ fun v S1 H1 P => ?_)
              have rc := P.rv.repC P.ok f1
              have sq : ∃ p vs, v = .ref p ∧ (SqT X.K H1 p vs ∨ SqL X.K H1 p vs) ∧ Reps X.K (er S1 H1) vs ys := by
                rcases key ys e2 with rfl | rfl
                · obtain ⟨p, vs, rfl, g1, g2⟩ := rc
                  exact ⟨p, vs, rfl, .inr g1, g2⟩
                · obtain ⟨p, vs, rfl, g1, g2⟩ := Rep.tup_inv rc
                  exact ⟨p, vs, rfl, .inl (er_full.sqT g1), g2⟩
              obtain ⟨p, vs, rfl, g1, g2⟩ := sq
              refine ⟨p, vs, rfl, g1, h en1 ds env' e3 S1 σ H1 P.ok _ fun ws S2 H2 f2 ok2 rs => ⟨lim_line ?_, fun p hp => ?_⟩⟩
              · rw [List.length_append, rs.length, g2.length]
                exact hl
              · exact q _ _ _ ((Post.tup ok2 hp ((g2.mono (f2.le P.ok)).append rs)).after (P.fw.trans f2))
            · rw [if_neg hl] at hh; cases hh
          · rw [if_neg hc] at hh; cases hh
end
end DI

set_option maxRecDepth 100000
/-! DI34: `x in d.values()`: there is no `__contains__`, the model goes by iteration. -/
namespace DI
open PySem PySem.Spec PyProof.Rows L2 PySem.W
theorem plain_ci : plainId "proto.contains_iter" = true := by decide +kernel
theorem entry_ci : entryFor table "proto.contains_iter" = some Builtin.«proto.contains_iter» := entryFor_of_fast (by kernel_rfl)
theorem noContains_vals : typeLookup (.type "dict_values") "__contains__" = pure none := by rw [typeLookup_type, builtinLookup_eq_fast]; kernel_rfl
section
variable {prog : Program} {w : World} {A : Around} {I : Addr} {fp wr : List Addr} {n : Nat} {P : Nat → Value → Prop} {St : Nat → Heap → Prop} {R : Except Value Flow → Shared → Prop}
theorem codeAny_ci (W : Walks prog w A.in1 I fp wr n P St) (x : Value) (tr : Nat → Bool)
    (htr : ∀ i v s (Q : Bool → Shared → Prop) E, P i v → Q (tr i) s → wpAny (model prog w) A.in1 (eqBool v x) Q E s) : ∀ (k i : Nat) (s : Shared), n - i = k → i ≤ n → St i s.heap →
    (∀ h' tk, (∀ b o, b ∉ wr → s.heap.get? b = some o → h'.get? b = some o) → R (.ok (.ret (.bool (((List.range n).drop i).any tr)))) { s with heap := h', toks := tk }) →
    codeAny (model prog w) A (.builtin "proto.contains_iter" ⟨[.ref I, x], []⟩) R s := by
  intro k
  induction k with
  | zero =>
    intro i s hk hi hst hR
    have hin : i = n := by omega
    subst hin
    refine codeAny_builtin entry_ci ?_
    rw [Around.under_plainId plain_ci _]
    show wpAny _ A.in1 (pyNext (.ref I) >>= _) _ _ s
    refine wpAny_bind (W.done s _ _ hst fun h' tk hk' => ?_)
    refine wpAny_bind (wpAny_rule (wpAny_pure ?_))
    have := hR h' tk hk'
    rw [List.drop_of_length_le (by simp)] at this
    exact this
  | succ k ih =>
    intro i s hk hi hst hR
    have hlt : i < n := by omega
    have hd : (List.range n).drop i = i :: (List.range n).drop (i + 1) := by
      rw [List.drop_eq_getElem_cons (by simpa using hlt)]; simp
    refine codeAny_builtin entry_ci ?_
    rw [Around.under_plainId plain_ci _]
    show wpAny _ A.in1 (pyNext (.ref I) >>= _) _ _ s
    refine wpAny_bind (W.item i s _ _ hlt hst fun v h' tk hP hst' hk' => ?_)
    refine wpAny_bind (htr i v _ _ _ hP ?_)
    cases hb : tr i with
    | false =>
      simp only [Bool.false_eq_true, if_false]
      refine wpAny_pure ⟨plainId_quiet plain_ci _, ih (i + 1) _ (by omega) hlt hst' fun h'' tk'' hk'' => ?_⟩
      have := hR h'' tk'' fun b o hbw e => hk'' b o hbw (hk' b o hbw e)
      rw [hd, List.any_cons, hb, Bool.false_or] at this
      exact this
    | true =>
      simp only [if_true]
      refine wpAny_bind (wpAny_rule (wpAny_pure ?_))
      have := hR h' tk hk'
      rw [hd, List.any_cons, hb, Bool.true_or] at this
      exact this
end
section
variable {prog : Program} {w : World} {K : Type} [DecidableEq K] {knd : KeyKind prog w K} {A : Around} {E : Value → Shared → Prop} {s : Shared}
theorem contains_vals {v d : Addr} {kvs : List (K × Value)} {ep : Nat} {x : Value} {Q : Bool → Shared → Prop} (hh : A.handled = none) (hv : s.heap.IsValuesView v d) (hm : s.heap.DictAt knd d kvs ep) (hne : d < s.heap.objs.size)
    (tr : Nat → Bool) (htr : ∀ i u s (Q : Bool → Shared → Prop) E, (∃ k, kvs[i]? = some (k, u)) → Q (tr i) s → wpAny (model prog w) A.in1 (eqBool u x) Q E s)
    (hQ : ∀ h' tk, (∀ b o, s.heap.get? b = some o → h'.get? b = some o) → Q ((List.range kvs.length).any tr) { s with heap := h', toks := tk }) : wpAny (model prog w) A (contains (.ref v) x) Q E s := by
  unfold contains
  refine wpAny_holding ?_
  rw [stdlibNamesSay?_of_typeIs hv.typeIs]
  refine wpAny_bind (wpAny_specialOf hv.typeIs noContains_vals ?_)
  show wpAny _ A (if ((none : Option Value) == some Value.none) = true then _ else _) Q E s
  rw [if_neg (by simp)]
  refine wpAny_bind ?_
  unfold callSpecialUnlessNone?
  refine wpAny_bind (wpAny_specialOf hv.typeIs noContains_vals ?_)
  refine wpAny_pure ?_
  refine wpAny_bind (wpAny_rule ?_)
  refine wpAny_bind (wpAny_tryCatch (wpAny_pyIter_values hv hm ?_))
  refine wpAny_bind (wpAny_runValue ?_)
  have W := Walks.dictValues (prog := prog) (w := w) (knd := knd) (A := A.in1) hh s.heap.objs.size d (Nat.ne_of_lt hne) kvs ep
  refine codeAny_ci W x tr htr kvs.length 0 _ rfl (Nat.zero_le _) ⟨⟨_, Heap.get?_push_size _ rfl, rfl, rfl⟩, hm.push _⟩ fun h' tk hk => ?_
  rw [List.drop_zero]
  refine wpAny_pure (hQ h' tk fun b o e => hk b o ?_ (Heap.get?_push_of_some _ e))
  intro z
  rw [List.mem_singleton] at z
  have h1 := Heap.lt_size e
  rw [z] at h1
  exact Nat.lt_irrefl _ h1
end
section
variable {Φ : Fns} {X : Cx} {a e : Expr} {xa xe : Xp} {pos : Pos}
theorem ev_inv_inv {env env' : Env} {r : R} (h : ev Φ (.inv xa xe) env = some (r, env')) : ∃ r1 en1 r2 x kvs, ev Φ xa env = some (r1, en1) ∧ ev Φ xe en1 = some (r2, env') ∧ r1.val env' = some (.str x) ∧ r2.val env' = some (.dict kvs) ∧ plainK kvs = true ∧ (∀ kv ∈ kvs, strD kv.2 = true) ∧ r = .im (.bool (kvs.any fun kv => PyData.eqv kv.2 (.str x))) := by
  simp only [ev] at h
  cases e1 : ev Φ xa env with
  | none => rw [e1] at h; cases h
  | some p1 =>
    obtain ⟨r1, en1⟩ := p1
    rw [e1] at h
    dsimp only at h
    cases e2 : ev Φ xe en1 with
    | none => rw [e2] at h; cases h
    | some p2 =>
      obtain ⟨r2, en2⟩ := p2
      rw [e2] at h
      dsimp only at h
      split at h
      · rename_i f1 f2
        split at h
        · rename_i c
          cases h
          rw [Bool.and_eq_true, List.all_eq_true] at c
          exact ⟨r1, en1, r2, _, _, rfl, e2, f1, f2, c.1, c.2, rfl⟩
        · cases h
      · cases h
theorem any_vals {K : PySem.W.Frag} {F : Hp} {x : Str} : ∀ {ws : List (Key × V)} {kvs : List (D × D)} {vs : List (Key × Value)}, RepKV K F ws kvs → KV ws vs → (∀ kv ∈ kvs, strD kv.2 = true) →
    ∃ ts : List Str, (∀ (i : Nat) (k : Key) (u : Value), vs[i]? = some (k, u) → ∃ t, u = Value.str (ts.getD i "") t) ∧ (kvs.any fun kv => PyData.eqv kv.2 (.str x)) = (List.range vs.length).any fun i => ts.getD i "" == x
  | _, _, _, .nil, .nil, _ => ⟨[], (fun i k u e => by simp at e), rfl⟩
  | _, _, _, @RepKV.cons _ _ key v d ws kvs h r, @Paired.cons _ _ _ _ p _ vs hk k, hs => by
    obtain ⟨kk, u0⟩ := p
    obtain ⟨ts, t1, t2⟩ := any_vals (x := x) r k fun kv hm => hs kv (List.mem_cons_of_mem _ hm)
    have h0 := hs _ List.mem_cons_self
    cases d with
    | str t =>
      cases h
      obtain ⟨tk, e0⟩ := hk.2
      refine ⟨t :: ts, fun i k u e => ?_, ?_⟩
      · cases i with
        | zero =>
          simp only [List.getElem?_cons_zero, Option.some.injEq, Prod.mk.injEq] at e
          rw [← e.2]
          exact ⟨tk, e0⟩
        | succ i =>
          simp only [List.getElem?_cons_succ] at e
          exact t1 i k u e
      · have ee : PyData.eqv (.str t) (.str x) = (t == x) := by simp [PyData.eqv]
        rw [List.any_cons, t2, List.length_cons, List.range_succ_eq_map, List.any_cons, List.any_map, ee]
        rfl
    | _ => cases h0
theorem inv_core {cpos apos : Pos} (hcalm : X.calm = true) (ha : Snd Φ X a xa) (he : Snd Φ X e xe) (hbase : attributeBase e "values" X.env (eval e X.env) = eval e X.env) (hline : (apos.endLine == cpos.line) = true)
    {env env' : Env} {r : R} (h : ev Φ (.inv xa xe) env = some (r, env')) {S : Addr → Prop} {σ : L2.St} {H : Hp} (ok : EnvOk X.K S σ H env) {pins : List (Addr × Obj)} {s : Shared} (I : Inv X pins σ H s) :
    ∃ b, r = .im (.bool b) ∧ wpAny (model X.prog X.w) X.A (eval a X.env) (fun v s1 => wpAny (model X.prog X.w) X.A (eval (.Call (.Attribute e "values" apos) [] [] cpos) X.env) (fun u s2 => wpAny (model X.prog X.w) X.A (compareOp .In v u)
      (fun c s3 => ∃ H2 S2, c = .bool b ∧ Inv X pins σ H2 s3 ∧ Fw S H σ env S2 H2 σ env' ∧ EnvOk X.K S2 σ H2 env') X.xe s2) X.xe s1) X.xe s := by
  obtain ⟨r1, en1, r2, x, kvs, e1, e2, f1, f2, pl, hs, rfl⟩ := ev_inv_inv h
  refine ⟨_, rfl, ?_⟩
  refine thn (ha env r1 en1 e1 S σ H ok (fun x H1 => ∃ S1, Fw S H σ env S1 H1 σ en1 ∧ EnvOk X.K S1 σ H1 en1 ∧ RV X.K S1 H1 σ en1 r1 x) (fun x S1 H1 P1 => ⟨S1, P1.fw, P1.ok, P1.rv⟩) pins s I) fun v s1 ⟨xv, H1, I1, rx, S1, w1, ok1, v1⟩ => ?_
  refine wpAny_Call_method (T := "dict") (id := "dict.values") hbase rfl hline PySem.F.plainAttrs_dict PySem.F.slot_dict_values PySem.F.type_dict_values (thn (he en1 r2 env' e2 S1 σ H1 ok1 (fun y H2 => ∃ S2, Fw S1 H1 σ en1 S2 H2 σ env' ∧ EnvOk X.K S2 σ H2 env' ∧ RV X.K S2 H2 σ env' r2 y) (fun y S2 H2 P2 => ⟨S2, P2.fw, P2.ok, P2.rv⟩) pins s1 I1) fun u s2 ⟨y, H2, I2, ry, S2, w2, ok2, v2⟩ => ?_)
  obtain ⟨d, ws, rfl, hd, rk⟩ := (v2.repC ok2 f2).dic pl
  obtain rfl : u = Value.ref d := ry
  obtain ⟨z, hsm, vs, kv, dd⟩ := dk_rd I2.hok hd
  obtain ⟨ep, dat⟩ := dd.dictAt
  have v1' := (v1.step ok1 w2).repC ok2 f1
  have ex := v1'.rep
  cases ex
  obtain ⟨tk0, rfl⟩ := rx
  obtain ⟨ts, t1, t2⟩ := any_vals (x := x) rk kv hs
  refine ⟨dd.typeIs, dd.mapOf.noDict, ?_⟩
  have hlt : d < s2.heap.objs.size := by
    obtain ⟨o, _, ho, _⟩ := dat
    exact Heap.lt_size ho
  show wpAny _ _ (callWith cpos (.builtin "dict.values") [.ref d] [] []) _ X.xe s2
  refine method_meetsIn PySem.F.slot_dict_values PySem.F.entry_dict_values rfl (PySem.evalArgs_none ⟨rfl, dd.typeIs, PySem.F.args_dict_values_1 _, _, meets_dict_values (mixKind X.prog X.w) d hsm, ⟨vs, dd⟩, ?_⟩)
  show wpAny (model X.prog X.w) X.A (compareOp CmpOp.In (Value.str x tk0) (.ref s2.heap.objs.size)) _ X.xe _
  show wpAny (model X.prog X.w) X.A (contains (.ref s2.heap.objs.size) (Value.str x tk0) >>= fun r => pure (Value.bool r)) _ X.xe _
  refine wpAny_bind (contains_vals (knd := mixKind X.prog X.w) (kvs := vs) (ep := ep) (I2.ok.hd hcalm) ⟨_, Heap.get?_push_size _ rfl, rfl, rfl⟩ (dat.push _) (by rw [size_push']; exact Nat.lt_succ_of_lt hlt) (fun i => ts.getD i "" == x) (fun i u s Q E hP hQ => ?_) fun h' tk hk => ?_)
  · obtain ⟨k, hk⟩ := hP
    obtain ⟨t, rfl⟩ := t1 i k u hk
    exact eqBool_str hQ
  · rw [← t2]
    exact wpAny_pure ⟨H2, S2, rfl, I2.kept (t' := tk) fun b ob e => hk b ob (Heap.get?_push_of_some _ e), w1.trans w2, ok2⟩
theorem snd_inv {apos cpos : Pos} (hcalm : X.calm = true) (ha : Snd Φ X a xa) (he : Snd Φ X e xe) (hbase : attributeBase e "values" X.env (eval e X.env) = eval e X.env := by rfl) (hline : (apos.endLine == cpos.line) = true := by rfl)
    (hm : behindInMarks .In (.Call (.Attribute e "values" apos) [] [] cpos) = false := by with_unfolding_all rfl) : Snd Φ X (.Compare a [.In] [.Call (.Attribute e "values" apos) [] [] cpos] pos) (.inv xa xe) := .mk fun env r env' h S σ H ok Q q => by
  intro pins s I
  obtain ⟨b, rfl, w⟩ := inv_core hcalm ha he hbase hline h ok I
  exact wpAny_Compare1 (thn w fun v s1 w => thn w fun u s2 w => thn w fun c s3 ⟨H2, S2, ec, I2, f, ok2⟩ => ⟨.bl b, H2, I2, ec, q _ _ _ ((Post.leaf (F := H2) ok2 (.bl _) rfl).after f)⟩) hm
theorem sndT_inv {apos cpos : Pos} (hcalm : X.calm = true) (ha : Snd Φ X a xa) (he : Snd Φ X e xe) (hbase : attributeBase e "values" X.env (eval e X.env) = eval e X.env := by rfl) (hline : (apos.endLine == cpos.line) = true := by rfl)
    (hm : behindInMarks .In (.Call (.Attribute e "values" apos) [] [] cpos) = false := by with_unfolding_all rfl) : SndT Φ X (.Compare a [.In] [.Call (.Attribute e "values" apos) [] [] cpos] pos) (.inv xa xe) := .mk fun env k env' hv S σ H ok Q q => by
  obtain ⟨r, d, h, h2, h3⟩ := tst_inv hv
  intro pins s I
  obtain ⟨b, rfl, w⟩ := inv_core hcalm ha he hbase hline h ok I
  cases h2
  cases h3
  refine wpAny_isTrue_Compare1 (thn w fun v s1 w => thn w fun u s2 w => thn w fun c s3 ⟨H2, S2, ec, I2, f, ok2⟩ => ?_) hm
  subst ec
  exact wpAny_truthy_bool ⟨H2, I2, q _ _ f ok2⟩
end
end DI

set_option maxRecDepth 100000
/-! DI35: a, b = [..], [..] where a name is read by an inner block: a tuple is made and taken apart. -/
namespace DI
open PySem PySem.Spec PyProof.Rows L2
section
variable {Φ : Fns} {X : Cx} {es : List Expr} {xs : Xps} {pos : Pos}
theorem gNames_of {σ : L2.St} {H : Hp} {Q : L2.St → Hp → Prop} : ∀ {is : List Nat} {vs : List V} {σ : L2.St}, is.length = vs.length → Q (setsV σ is vs) H → gNames is vs σ H Q
  | [], [], _, _, h => ⟨rfl, h⟩
  | [], _ :: _, _, l, _ => by cases l
  | _ :: _, [], _, l, _ => by cases l
  | i :: is, v :: vs, σ, l, h => ⟨v, vs, rfl, gNames_of (σ := σ) (is := is) (Nat.succ.inj l) h⟩
theorem snd_parT {is : List Nat} {tg : Expr} {k2 : Nat} {pt2 : Pos} (hg : PG X tg (gSeq X.K is.length (gNames is))) (ha : SndR Φ X es xs) (hl : is.length ≤ 100 := by decide) (hs : swapsWithSole [tg] (.Tuple es k2 pt2) pos.line X.env = pure false := by rfl) (hw : swappedStores [tg] (.Tuple es k2 pt2) X.env = pure none := by rfl)
    (h1 : (assignEach [tg] X.env).map (·.2) = [assign tg X.env] := by rfl) : SndSt Φ X (.Assign [tg] (.Tuple es k2 pt2) pos) (.par is xs) := .mk fun env o h S σ H ok D W tk q => by
  obtain ⟨rs, en1, ss, en2, en3, e1, e2, e3, rfl⟩ := par_inv h
  refine anyS_of (ps_asg (pe_tup pa_any) hg hs hw h1) (ha env rs en1 e1 S σ H ok _ fun vs S1 H1 P => ?_)
  obtain ⟨S2, f2, ok2, sl, eo⟩ := slots_ok e2 P.fw P.ok P.rv P.new
  obtain ⟨l, ok3, f3⟩ := sets_ok e3 (P.fw.trans f2) ok2 sl (by rw [eo]; exact P.nd)
  refine ⟨lim_line (by unfold lim; omega), fun p hp => ?_⟩
  exact .inl ⟨p, vs, rfl, .inl (.inl upd_same), l.symm, gNames_of (σ := σ) l (q _ S2 _ (f3.trans (Fw.new hp)) (ok3.new hp))⟩
end
end DI

set_option maxRecDepth 100000
/-! DI36: told = [a, b, c, d]; if not same(told, due): ..; told[2].append(z): three statements as one. -/
namespace DI
open PySem PySem.Spec PyProof.Rows L2
def flatSl : Sl → Bool
  | .un => true
  | .im _ => true
  | .ow _ (.list ds) => ds.all leaf
  | _ => false
def frzAll : List Nat → Env → Option Env
  | [], env => some env
  | k :: ks, env => match sto (.al k) env with
    | some (_, e) => frzAll ks e
    | none => none
def tellF (i j : Nat) (ks : List Nat) (xs : Xps) (xc : Xp) (b : Sms) (Φ : Fns) (env : Env) : Option Out :=
  match frzAll ks env with
  | none => none
  | some en0 => match evR Φ xs en0 with
    | some ([.im a0, .im a1, .fr (.list g), .im a3], en1) => match en1[i]?, en1[j]? with
      | some .un, some (.im dd) => if en1.all flatSl && decide (g.length < lim) then
          match tstX Φ xc (en1.set i (.im (.list [a0, a1, .list g, a3]))) with
          | some (true, en3) => match execs Φ b en3 with
            | some (.rt r e) => some (.rt r e)
            | _ => none
          | some (false, en3) => some (.nx (en3.set i .un))
          | none => none
        else none
      | _, _ => none
    | _ => none
section
variable {K : PySem.W.Frag} {S S' S0 S1 S2 : Addr → Prop} {H H' H0 H1 H2 : Hp} {σ σ' σ0 σ1 : L2.St} {env env' env0 env1 env2 en pre : Env}
theorem frzAll_ok : ∀ {ks : List Nat} {S : Addr → Prop} {env env' : Env}, frzAll ks env = some env' → EnvOk K S σ H env → ∃ S', EnvOk K S' σ H env' ∧ Fw S H σ env S' H σ env'
  | [], S, env, env', h, ok => by cases h; exact ⟨S, ok, Fw.refl⟩
  | k :: ks, S, env, env', h, ok => by
    simp only [frzAll, sto] at h
    cases e : env[k]? with
    | none => rw [e] at h; cases h
    | some s =>
      rw [e] at h
      cases s with
      | un => cases h
      | im d => exact frzAll_ok (ks := ks) h ok
      | ow q d =>
        cases q with
        | bor => cases h
        | lck => cases h
        | own =>
          obtain ⟨p, h1, _⟩ := ok.ow k _ d e
          obtain ⟨f1, f2, _⟩ := ok.freeze e h1
          obtain ⟨S', g1, g2⟩ := frzAll_ok (ks := ks) h f1
          exact ⟨S', g1, f2.trans g2⟩
theorem Reps.leaves {F G : Hp} : ∀ {vs : List V} {ds : List D}, Reps K F vs ds → ds.all leaf = true → Reps K G vs ds
  | _, _, .nil, _ => .nil
  | _, _, .cons h r, l => by
    rw [List.all_cons, Bool.and_eq_true] at l
    exact .cons (h.leaf l.1) (Reps.leaves r l.2)
/-- the names' lists stand; a cell that is nobody's has changed -/
theorem tell_end {i : Nat} {p t : Addr} {o : HO} {v : V} {dt : D} {S3 S4 : Addr → Prop} {H3 H4 : Hp} (ok1 : EnvOk K S1 σ H1 env) (hi : env[i]? = some .un) (fl : env.all flatSl = true)
    (hp1 : S1 p) (ht : H1 t = none) (hs2 : ∀ a, S2 a → S1 a ∧ a ≠ p) (h2 : ∀ a, a ≠ t → H2 a = H1 a)
    (ok2 : EnvOk K S2 (σ.set i (some v)) H2 (env.set i (.im dt)))
    (f3 : Fw S2 H2 (σ.set i (some v)) (env.set i (.im dt)) S3 H3 (σ.set i (some v)) (env.set i (.im dt))) (ok3 : EnvOk K S3 (σ.set i (some v)) H3 (env.set i (.im dt)))
    (f4 : Fw S3 H3 (σ.set i (some v)) (env.set i (.im dt)) S4 H4 (σ.set i (some v)) (env.set i (.im dt))) (ok4 : EnvOk K S4 (σ.set i (some v)) H4 (env.set i (.im dt))) :
    ¬ S3 p ∧ ¬ S4 p ∧ H3 p = H1 p ∧ H4 p = H1 p ∧ EnvOk K S4 (σ.set i (some v)) (upd H4 p o) ((env.set i (.im dt)).set i .un) := by
  have hne : H1 p ≠ none := ok1.dom p hp1
  have ept : p ≠ t := fun z => hne (z ▸ ht)
  have e2 : H2 p = H1 p := h2 p ept
  have n2 : ¬ S2 p := fun z => (hs2 p z).2 rfl
  have n3 : ¬ S3 p := fun z => by
    rcases f3.sub p z with z | z
    · exact n2 z
    · rw [e2] at z; exact hne z
  have keep3 : ∀ a o, ¬ S2 a → H2 a = some o → H3 a = some o := fun a o n h => f3.fr a o h fun z => n (ok2.ch z)
  have keep4 : ∀ a o, ¬ S3 a → H3 a = some o → H4 a = some o := fun a o n h => f4.fr a o h fun z => n (ok3.ch z)
  obtain ⟨op, hop⟩ : ∃ op, H1 p = some op := by
    cases q : H1 p with
    | none => exact absurd q hne
    | some o => exact ⟨o, rfl⟩
  have e3 : H3 p = H1 p := by rw [hop]; exact keep3 p op n2 (e2.trans hop)
  have n4 : ¬ S4 p := fun z => by
    rcases f4.sub p z with z | z
    · exact n3 z
    · rw [e3] at z; exact hne z
  have e4 : H4 p = H1 p := by rw [hop]; exact keep4 p op n3 (e3.trans hop)
  have set_get : ∀ (k : Nat) (s : Sl), s ≠ .un → ((env.set i (.im dt)).set i .un)[k]? = some s → i ≠ k ∧ env[k]? = some s ∧ (env.set i (.im dt))[k]? = some s := fun k s hs h => by
    rcases getElem?_set_cases h with ⟨_, z⟩ | ⟨ne, z⟩
    · exact absurd z hs
    · exact ⟨ne, by rw [List.getElem?_set_ne ne] at z; exact z, z⟩
  refine ⟨n3, n4, e3, e4, ok4.len.trans (List.length_set ..).symm, fun a h => upd_dom (ok4.dom a h), fun k d h => ?_, fun k q d h => ?_, fun k l q q' d d' a h1 h2' h3 h4 => ?_⟩
  · obtain ⟨ne, h1, _⟩ := set_get k _ (fun z => by cases z) h
    obtain ⟨w, g1, g2⟩ := ok1.im k d h1
    refine ⟨w, by rw [List.getElem?_set_ne ne]; exact g1, g2.mono (er_le fun a o' q1 q2 => ?_)⟩
    have a1 : a ≠ p := fun z => q1 (z ▸ hp1)
    have a2 : a ≠ t := fun z => by rw [z, ht] at q2; cases q2
    have m2 : ¬ S2 a := fun z => q1 (hs2 a z).1
    have w2 : H2 a = some o' := (h2 a a2).trans q2
    have w3 := keep3 a o' m2 w2
    have m3 : ¬ S3 a := fun z => by
      rcases f3.sub a z with z | z
      · exact m2 z
      · rw [w2] at z; cases z
    have w4 := keep4 a o' m3 w3
    refine ⟨fun z => ?_, by rw [upd_ne a1]; exact w4⟩
    rcases f4.sub a z with z | z
    · exact m3 z
    · rw [w3] at z; cases z
  · obtain ⟨ne, h1, h2⟩ := set_get k _ (fun z => by cases z) h
    obtain ⟨a, g1, g2, g3, g4⟩ := ok4.ow k q d h2
    have na : a ≠ p := fun z => n4 (z ▸ g2)
    have fd : flatSl (.ow q d) = true := List.all_eq_true.mp fl _ (List.mem_of_getElem? h1)
    refine ⟨a, g1, g2, ?_, fun z => by rw [upd_ne na]; exact g4 z⟩
    cases d with
    | list ds =>
      obtain ⟨xs, r1, r2⟩ := g3
      refine ⟨xs, ?_, r2.leaves fd⟩
      unfold Rd at r1 ⊢
      rw [upd_ne na]
      exact r1
    | _ => cases fd
  · obtain ⟨_, _, z1⟩ := set_get k _ (fun z => by cases z) h1
    obtain ⟨_, _, z2⟩ := set_get l _ (fun z => by cases z) h2'
    exact ok4.inj k l q q' d d' a z1 z2 h3 h4
/-- nobody's cell, new since the start, is changed -/
theorem Fw.updN {p : Addr} {o : HO} (F : Fw S0 H0 σ0 env0 S H σ env) (hp : H0 p = none) : Fw S0 H0 σ0 env0 S (upd H p o) σ env :=
  ⟨F.sub, F.kp, fun a o' h n => by
    have ne : a ≠ p := fun z => by rw [z, hp] at h; cases h
    rw [upd_ne ne]
    exact F.fr a o' h n, F.own, F.bo, F.bo', F.lk, F.lk', fun a h => upd_dom (F.dm a h)⟩
/-- a fresh thing is given up -/
theorem Fw.less {p : Addr} (F : Fw S0 H0 σ0 env0 S H σ env) (hp : H0 p = none) : Fw S0 H0 σ0 env0 (fun a => S a ∧ a ≠ p) H σ env :=
  ⟨fun a q => F.sub a q.1, fun a q1 q2 q3 => ⟨F.kp a q1 q2 q3, fun z => q2 (z ▸ hp)⟩, F.fr, F.own, F.bo, F.bo', F.lk, F.lk', F.dm⟩
end
section
variable {Φ : Fns} {X : Cx} {c ea eb ec ed ez : Expr} {xa xb xc x xe : Xp} {xs xz : Xps} {body sts : List Stmt} {sms b : Sms}
theorem snds_tell {i j : Nat} {ks : List Nat} {y : Str} {k1 : Nat} {py pl p1 p2 p3 pn pc ps apos cpos : Pos} {dz : D}
    (hN : X.N.Nodup) (hi : X.N[i]? = some y) (hx : Loc X.env.scope y) (ha : SndR Φ X [ea, eb, ec, ed] xs) (hs : swapsWith (.List [ea, eb, ec, ed] pl) (some (.Name y py)) p1.line X.env = pure false) (hf : X.fn y = true ∨ X.env.scope.names.lookup y = some .local)
    (ht : SndT Φ X c xc) (hb : SndSts Φ X body b)
    (same : ∀ en dt dd, en[i]? = some (.im dt) → en[j]? = some (.im dd) → ∀ k en', tstX Φ xc en = some (k, en') → en' = en) (hij : i ≠ j)
    (hv : Vis X.env.scope y) (hd : (y == ("__debug__" : Str)) = false) (hcd : (y == ("__classdict__" : Str)) = false)
    (hpi : PlainIx (.Constant (.int 2) k1 pc)) (slot : Slot "list" "append" "list.append") (hty : typeOf (.builtin "list.append") = pure (.type "method_descriptor"))
    (hz : SndS Φ X [ez] xz) (ez1 : ∀ en, evS Φ xz en = some ([dz], en))
    (hbase : attributeBase (.Subscript (.Name y pn) (.Constant (.int 2) k1 pc) ps) "append" X.env (eval (.Subscript (.Name y pn) (.Constant (.int 2) k1 pc) ps) X.env) = eval (.Subscript (.Name y pn) (.Constant (.int 2) k1 pc) ps) X.env)
    (hfew : ((backTo cpos (starEach [ez] X.env)).all (fun x => !x.1) && (backToKw cpos (keywordEach [] X.env)).all (fun x => x.1.isSome)
      && decide ([ez].length + ([] : List Keyword).length + (if ([] : List Keyword).isEmpty then 0 else 1) < 30)) = true)
    (hline : (apos.endLine == cpos.line) = true) (hst : starEach [ez] X.env = (false, eval ez X.env) :: starEach [] X.env) (hplain : (backTo cpos (starEach [] X.env)).any (·.1) = false)
    (hs3 : swapsWith (.Call (.Attribute (.Subscript (.Name y pn) (.Constant (.int 2) k1 pc) ps) "append" apos) [ez] [] cpos) none p3.line X.env = pure false)
    (hr : SndSts Φ X sts sms) :
    SndSts Φ X (.Assign [.Name y py] (.List [ea, eb, ec, ed] pl) p1 :: .If c body [] p2 :: .Expr (.Call (.Attribute (.Subscript (.Name y pn) (.Constant (.int 2) k1 pc) ps) "append" apos) [ez] [] cpos) p3 :: sts)
      (.cons (.nat (tellF i j ks xs xc b)) sms) := .mk fun env o h S σ H ok D W tk q => by
  simp only [execs, exec] at h
  cases e0 : tellF i j ks xs xc b Φ env with
  | none => rw [e0] at h; cases h
  | some o1 =>
  rw [e0] at h
  unfold tellF at e0
  split at e0
  · cases e0
  rename_i en0 e1
  split at e0
  case h_2 => cases e0
  rename_i a0 a1 g a3 en1 e2
  split at e0
  case h_2 => cases e0
  rename_i dd u1 u2
  split at e0
  case isFalse => cases e0
  rename_i hc
  rw [Bool.and_eq_true, decide_eq_true_iff] at hc
  obtain ⟨fl, hg⟩ := hc
  obtain ⟨S0, ok0, F0⟩ := frzAll_ok e1 ok
  refine anySs_of (pss_cons ps_any (pss_cons ps_any (pss_cons ps_any pss_any))) ?_
  refine anyS_of (ps_set hN hi hx (pe_lst pa_any) hs hf) (ha en0 _ en1 e2 S0 σ H ok0 _ fun vs S1 H1 P => ?_)
  have prv := P.rv
  have pnew := P.new
  obtain ⟨v0, v1, v2, v3, rfl, r0, r1, r2, r3⟩ : ∃ v0 v1 v2 v3, vs = [v0, v1, v2, v3] ∧ RV X.K S1 H1 σ en1 (.im a0) v0 ∧ RV X.K S1 H1 σ en1 (.im a1) v1 ∧ RV X.K S1 H1 σ en1 (.fr (.list g)) v2 ∧ RV X.K S1 H1 σ en1 (.im a3) v3 := by
    cases prv with
    | cons w0 t => cases t with
      | cons w1 t => cases t with
        | cons w2 t => cases t with
          | cons w3 t => cases t; exact ⟨_, _, _, _, rfl, w0, w1, w2, w3⟩
  obtain ⟨p, rfl, hp1, hpc, hpl, hpo, hpm⟩ := r2
  obtain ⟨ws, hw1, hw2⟩ := hpo
  have hw0 : H1 p = some (.lst ws) := mut_not_frz hw1 hpm
  have hpH : H p = none := none_back F0.dm (pnew p (by simp [frsA]))
  refine ⟨lim_line (by show 4 ≤ lim; unfold lim; omega), fun t htn => ?_⟩
  have nk : ∀ k, ¬ OwnsK k σ en1 p := fun k => by
    cases k with
    | own => exact fun q => hpc (.inl q)
    | bor => exact fun q => hpc (.inr q)
    | lck => exact hpl
  have okS := P.ok.shrink nk
  have le1 : Le (er S1 H1) (er (fun a => S1 a ∧ a ≠ p) H1) := er_le fun a o h1 h2 => ⟨fun z => h1 z.1, h2⟩
  have rd : ∀ u, Rd H1 p u → Rd (er (fun a => S1 a ∧ a ≠ p) H1) p u := fun u r => by
    unfold Rd at r ⊢
    rw [er_of (fun z => z.2 rfl)]
    exact r
  have reps : Reps X.K (er (fun a => S1 a ∧ a ≠ p) H1) [v0, v1, .ref p, v3] [a0, a1, .list g, a3] :=
    .cons (Rep.mono le1 r0) (.cons (Rep.mono le1 r1) (.cons (.lst (.inl (rd _ hw1)) (hw2.mono le1)) (.cons (Rep.mono le1 r3) .nil)))
  have st : ¬ (S1 t ∧ t ≠ p) := fun z => P.ok.dom t z.1 htn
  have ok2 := okS.new (o := .lst [v0, v1, .ref p, v3]) htn
  have rt : Rep X.K (er (fun a => S1 a ∧ a ≠ p) (upd H1 t (.lst [v0, v1, .ref p, v3]))) (.ref t) (.list [a0, a1, .list g, a3]) :=
    .lst (.inl (.inl ((er_of st).trans upd_same))) (reps.mono (Fw.le okS (Fw.new htn)))
  have F2 : Fw S H σ env (fun a => S1 a ∧ a ≠ p) (upd H1 t (.lst [v0, v1, .ref p, v3])) σ en1 := ((F0.trans P.fw).less hpH).trans (Fw.new htn)
  have hset : setSl en1 i (.im (.list [a0, a1, .list g, a3])) = some (en1.set i (.im (.list [a0, a1, .list g, a3]))) := by simp only [setSl, u1]
  obtain ⟨ok3, F3⟩ := set_ok F2 ok2 hset (show SlOk X.K _ _ σ en1 H (.im _) (.ref t) from rt)
  have hil : i < en1.length := (List.getElem?_eq_some_iff.mp u1).1
  have g1 : (en1.set i (.im (.list [a0, a1, .list g, a3])))[i]? = some (.im (.list [a0, a1, .list g, a3])) := List.getElem?_set_self hil
  have g2 : (en1.set i (.im (.list [a0, a1, .list g, a3])))[j]? = some (.im dd) := by rw [List.getElem?_set_ne hij]; exact u2
  cases et : tstX Φ xc (en1.set i (.im (.list [a0, a1, .list g, a3]))) with
  | none => rw [et] at e0; cases e0
  | some pk =>
  obtain ⟨k, en3⟩ := pk
  have e3 := same _ _ _ g1 g2 k en3 et
  subst e3
  rw [et] at e0
  refine anyS_of (ps_if pt_any pss_any pss_nil) (ht _ k _ et _ _ _ ok3 _ fun S3 H3 f3 ok3' => ?_)
  cases k with
  | true =>
    rw [if_pos rfl]
    dsimp only at e0
    cases eb : execs Φ b (en1.set i (.im (.list [a0, a1, .list g, a3]))) with
    | none => rw [eb] at e0; cases e0
    | some ob =>
      rw [eb] at e0
      cases ob with
      | rt r e =>
        cases e0
        cases h
        exact hb _ _ eb S3 _ H3 ok3' _ W tk (EndsOk.shift (F3.trans f3) (D := D) (o := .rt r e) q)
      | _ => cases e0
  | false =>
    rw [if_neg Bool.false_ne_true]
    cases e0
    dsimp only at h
    show AnyS X _ _ _ _
    have hne : H1 p ≠ none := P.ok.dom p hp1
    have ept : p ≠ t := fun z => hne (z ▸ htn)
    have t3 : H3 t = some (.lst [v0, v1, .ref p, v3]) := f3.fr t _ upd_same fun z => st (ok3.ch z)
    have si : (σ.set i (some (.ref t)))[i]? = some (some (.ref t)) := List.getElem?_set_self (by rw [P.ok.len]; exact hil)
    have E3 := tell_end (o := .lst ws) P.ok u1 fl hp1 htn (fun a z => z) (fun a ne => upd_ne ne) ok3 f3 ok3' Fw.refl ok3'
    obtain ⟨n3, _, p3', _, _⟩ := E3
    refine anyS_of (ps_expr (pe_bm PySem.F.plainAttrs_list slot hty rMet_ok (pe_ix ix_list (pe_var hi hv hd hcd) pe_int hpi) pa_any hbase hfew hline hst hplain) hs3) ?_
    refine ⟨_, si, t, _, 2, .ref p, rfl, rfl, .inl (.inl t3), rfl, .inl ⟨rfl, ws, .inl (.inl (p3'.trans hw0))⟩, hz _ _ _ (ez1 _) S3 _ H3 ok3' _ fun us S4 H4 f4 ok4 rs4 pins s σ1 v us' I rx rv => ?_⟩
    have E4 := fun o => tell_end (o := o) P.ok u1 fl hp1 htn (fun a z => z) (fun a ne => upd_ne ne) ok3 f3 ok3' f4 ok4
    have p4 : H4 p = some (.lst ws) := (E4 (.lst ws)).2.2.2.1.trans hw0
    have g8 : Reps X.K (er S4 H4) ws g := (((hw2.mono le1).mono (Fw.le okS (Fw.new htn))).mono (Fw.le ok3 f3)).mono (Fw.le ok3' f4)
    have em : meD .append g [dz] = some (.none, g ++ [dz]) := by simp only [meD]; rw [if_pos hg]
    refine med_append g [dz] _ _ em pins s σ1 H4 (er S4 H4) p ws us v us' _ I rx rv p4 g8 rs4 fun yv vs' q1 q2 => ?_
    have okE := (E4 (.lst vs')).2.2.2.2
    have F5 : Fw S H σ env S4 (upd H4 p (.lst vs')) (σ.set i (some (.ref t))) ((en1.set i (.im (.list [a0, a1, .list g, a3]))).set i .un) := by
      refine (((F3.trans f3).trans f4).updN hpH).drop (fun jj s hz => ?_) (fun jj kk d hk hz => ?_)
      · rcases getElem?_set_cases hz with ⟨_, z⟩ | ⟨_, z⟩
        · exact .inl z
        · exact .inr z
      · refine List.getElem?_set_ne fun z => ?_
        subst z
        rw [g1] at hz
        cases hz
    exact hr _ o h S4 _ _ okE D W tk (q.shift F5)
theorem same_call {f : Str} {i j : Nat} : ∀ (en : Env) (dt dd : D), en[i]? = some (.im dt) → en[j]? = some (.im dd) → ∀ k en', tstX Φ (.notX (.call f (.cons (.v i) (.cons (.v j) .nil)))) en = some (k, en') → en' = en := by
  intro en dt dd h1 h2 k en' h
  simp only [tstX] at h
  cases e1 : ev Φ (.notX (.call f (.cons (.v i) (.cons (.v j) .nil)))) en with
  | none => rw [e1] at h; cases h
  | some p =>
    obtain ⟨r, en1⟩ := p
    rw [e1] at h
    dsimp only at h
    have z1 : en' = en1 := by
      split at h
      · cases h; rfl
      · cases h
    subst z1
    rw [show ev Φ (.notX (.call f (.cons (.v i) (.cons (.v j) .nil)))) en = (match ev Φ (.call f (.cons (.v i) (.cons (.v j) .nil))) en with
      | some (ra, env1) => match (ra.val env1).bind truthD with
        | some k => some (.im (.bool (!k)), env1)
        | none => none
      | none => none) by first | (simp only [ev]; done) | (simp only [ev]; rfl)] at e1
    cases e2 : ev Φ (.call f (.cons (.v i) (.cons (.v j) .nil))) en with
    | none => rw [e2] at e1; cases e1
    | some p2 =>
      obtain ⟨ra, en2⟩ := p2
      rw [e2] at e1
      dsimp only at e1
      have z2 : en' = en2 := by
        split at e1
        · cases e1; rfl
        · cases e1
      subst z2
      obtain ⟨rs, en3, ss, fin, g1, _, _, _, rfl⟩ := ev_call_inv e2
      simp only [evR, ev, h1, h2] at g1
      cases g1
      cases fin with
      | nil => simp [backSl]
      | cons a fin => cases fin with
        | nil => simp [backSl]
        | cons b fin => simp [backSl]
theorem ez_str {z : Str} (en : Env) : evS Φ (.cons (.tup (.cons (.c (.str z)) .nil)) .nil) en = some ([.tuple [.str z]], en) := by simp [show 1 ≤ lim from by unfold lim; omega]
end
end DI

set_option maxRecDepth 100000
/-! DW: the evaluator walked statement by statement. -/
namespace DI
open PySem PySem.Spec PyProof.Rows L2
section
variable {xs ys : List D} {i j : Int} {b : Bool} {s : Str}
@[simp] theorem bi_len_s (h : s.length ≤ lim) : biD .len [.str s] = some (.im (.int s.length)) := if_pos h
@[simp] theorem bi_len_l : biD .len [.list xs] = some (.im (.int xs.length)) := by simp only [biD]
@[simp] theorem bi_len_t : biD .len [.tuple xs] = some (.im (.int xs.length)) := by simp only [biD]
@[simp] theorem bi_abs : biD .abs [.int i] = some (.im (.int (if i < 0 then -i else i))) := by simp only [biD]
@[simp] theorem bi_int_i : biD .int [.int i] = some (.im (.int i)) := by simp only [biD]
@[simp] theorem bi_int_b : biD .int [.bool b] = some (.im (.int (b2i b))) := by simp only [biD]
@[simp] theorem bi_list_l : biD .list [.list xs] = some (.fr (.list xs)) := by simp only [biD]
@[simp] theorem bi_list_t : biD .list [.tuple xs] = some (.fr (.list xs)) := by simp only [biD]
@[simp] theorem bi_tuple_l : biD .tuple [.list xs] = some (.im (.tuple xs)) := by simp only [biD]
@[simp] theorem bi_tuple_t : biD .tuple [.tuple xs] = some (.im (.tuple xs)) := by simp only [biD]
@[simp] theorem bi_sorted_l : biD .sorted [.list xs] = (sortedD xs).map fun ys => .fr (.list ys) := by simp only [biD]
@[simp] theorem bi_sorted_t : biD .sorted [.tuple xs] = (sortedD xs).map fun ys => .fr (.list ys) := by simp only [biD]
@[simp] theorem bi_sum : biD .sum [.list xs] = (intsD xs).map fun ys => .im (.int ys.sum) := by simp only [biD]
@[simp] theorem bi_all : biD .all [.list xs] = (blsD xs).map fun ys => .im (.bool (ys.all id)) := by simp only [biD]
@[simp] theorem bi_any : biD .any [.list xs] = (blsD xs).map fun ys => .im (.bool (ys.any id)) := by simp only [biD]
@[simp] theorem bi_min : biD .min [.int i, .int j] = some (.im (.int (if j < i then j else i))) := by simp only [biD]
theorem bi_setSorted {ss : List Str} (h1 : strsD xs = some ss) (h2 : ss.all (fun s => SeqAt.shaped (.str s)) = true) (h3 : ss.length ≤ 1000) : biD .setSorted [.list xs] = some (.fr (.list ((sortBy strLt (gatherK ss)).map .str))) := by
  simp only [biD, h1, h2, decide_eq_true h3, Bool.and_self, if_true]
theorem bi_lenSet {ss : List Str} (h1 : strsD xs = some ss) (h3 : ss.length ≤ 1000) : biD .lenSet [.list xs] = some (.im (.int (gatherK ss).length)) := by
  simp only [biD, h1, decide_eq_true h3, if_true]
@[simp] theorem bi_str_s : biD .str [.str s] = some (.im (.str s)) := by simp only [biD]
theorem bi_minl {is : List Int} {m : Int} (h1 : intsD xs = some is) (h2 : minL is = some m) : biD .min [.list xs] = some (.im (.int m)) := by simp only [biD, h1, h2, Option.map]
@[simp] theorem bi_max : biD .max [.int i, .int j] = some (.im (.int (if j > i then j else i))) := by simp only [biD]
end
@[simp] def Sms.app : Sms → Sms → Sms
  | .nil, r => r
  | .cons s t, r => .cons s (t.app r)
/-- the block comes to an end at which Q stands -/
def BW (Φ : Fns) (b : Sms) (env : Env) (Q : Out → Prop) : Prop := ∃ o, execs Φ b env = some o ∧ Q o
def stepO (Φ : Fns) (r : Sms) (Q : Out → Prop) : Option Out → Prop
  | some (.nx e) => BW Φ r e Q
  | some o => Q o
  | none => False
def ifO (Φ : Fns) (a b : Sms) (Q : Out → Prop) : Option (Bool × Env) → Prop
  | some (true, e) => BW Φ a e Q
  | some (false, e) => BW Φ b e Q
  | none => False
section
variable {Φ : Fns} {a b r : Sms} {s : Sm} {Q : Out → Prop} {env e : Env} {v : R}
@[simp] theorem stepO_nx : stepO Φ r Q (some (.nx e)) = BW Φ r e Q := rfl
@[simp] theorem stepO_rt : stepO Φ r Q (some (.rt v e)) = Q (.rt v e) := rfl
@[simp] theorem stepO_bk : stepO Φ r Q (some (.bk e)) = Q (.bk e) := rfl
@[simp] theorem stepO_ex {y : D} : stepO Φ r Q (some (.ex y e)) = Q (.ex y e) := rfl
@[simp] theorem stepO_ct : stepO Φ r Q (some (.ct e)) = Q (.ct e) := rfl
@[simp] theorem ifO_t : ifO Φ a b Q (some (true, e)) = BW Φ a e Q := rfl
@[simp] theorem ifO_f : ifO Φ a b Q (some (false, e)) = BW Φ b e Q := rfl
theorem ifO_k {k : Bool} : ifO Φ a b Q (some (k, e)) = if k = true then BW Φ a e Q else BW Φ b e Q := by cases k <;> rfl
theorem bw_nil (h : Q (.nx env)) : BW Φ .nil env Q := ⟨_, by simp only [execs], h⟩
theorem bw_step : BW Φ (.cons s r) env Q ↔ stepO Φ r Q (exec Φ s env) := by
  unfold BW
  simp only [execs]
  cases h : exec Φ s env with
  | none => simp [stepO]
  | some o => cases o <;> simp [stepO, BW]
theorem bw_cons (h : ∀ rest, r = rest → stepO Φ rest Q (exec Φ s env)) : BW Φ (.cons s r) env Q := bw_step.mpr (h r rfl)
theorem bw_app {t : Sms} : ∀ {a : Sms} {env : Env}, BW Φ (a.app t) env Q ↔ stepO Φ t Q (execs Φ a env)
  | .nil, env => by simp only [Sms.app, execs, stepO]
  | .cons s r, env => by
    simp only [Sms.app]
    rw [bw_step]
    simp only [execs]
    cases h : exec Φ s env with
    | none => simp [stepO]
    | some o =>
      cases o with
      | nx e =>
        rw [stepO_nx, bw_app]
      | _ => simp [stepO]
theorem bw_if {t : Xp} : BW Φ (.cons (.iff t a b) r) env Q ↔ ifO Φ (a.app r) (b.app r) Q (tstX Φ t env) := by
  rw [bw_step]
  simp only [exec]
  cases h : tstX Φ t env with
  | none => simp [stepO, ifO]
  | some p =>
    obtain ⟨k, e⟩ := p
    cases k with
    | true => rw [ifO_t, bw_app]
    | false => rw [ifO_f, bw_app]
/-- how a loop's body may end -/
structure LoopK (pre : Env) (I : Env → Prop) (Q : Out → Prop) (fin : Env → Env) (K : Out → Prop) : Prop where
  nx : ∀ e, I (forget pre e) → K (.nx e)
  ct : ∀ e, I (forget pre e) → K (.ct e)
  bk : ∀ e, Q (.nx (fin (forget pre e))) → K (.bk e)
  rt : ∀ v e, Q (.rt v (fin e)) → K (.rt v e)
  ex : ∀ y e, Q (.ex y (fin e)) → K (.ex y e)
theorem forS_ok {tg : Tg} {pre : Env} {fin : Env → Env} (I : List D → Env → Prop)
    (hs : ∀ d ds e, I (d :: ds) e → ∀ K, LoopK pre (I ds) Q fin K → ∃ e1, bindT tg d e = some e1 ∧ BW Φ b e1 K) (hq : ∀ e, I [] e → Q (.nx (fin e))) : ∀ (ds : List D) (e : Env), I ds e →
    ∃ o, forS (forTurn Φ tg b) pre ds e = some o ∧ ((∃ e', o = .nx e' ∧ Q (.nx (fin e'))) ∨ (∃ e', o = .bk e' ∧ Q (.nx (fin e'))) ∨ (∃ v e', o = .rt v e' ∧ Q (.rt v (fin e'))) ∨ ∃ v e', o = .ex v e' ∧ Q (.ex v (fin e')))
  | [], e, h => ⟨_, rfl, .inl ⟨e, rfl, hq e h⟩⟩
  | d :: ds, e, h => by
    obtain ⟨e1, h1, o, h2, h3⟩ := hs d ds e h (fun o => match o with
      | .nx e => I ds (forget pre e)
      | .ct e => I ds (forget pre e)
      | .bk e => Q (.nx (fin (forget pre e)))
      | .rt v e => Q (.rt v (fin e))
      | .ex v e => Q (.ex v (fin e))) ⟨fun _ h => h, fun _ h => h, fun _ h => h, fun _ _ h => h, fun _ _ h => h⟩
    have ht : forTurn Φ tg b d e = some o := by
      simp only [forTurn, h1]
      exact h2
    simp only [forS, ht]
    cases o with
    | nx e2 => exact forS_ok I hs hq ds _ h3
    | ct e2 => exact forS_ok I hs hq ds _ h3
    | bk e2 => exact ⟨_, rfl, .inr (.inl ⟨_, rfl, h3⟩)⟩
    | rt v e2 => exact ⟨_, rfl, .inr (.inr (.inl ⟨v, e2, rfl, h3⟩))⟩
    | ex v e2 => exact ⟨_, rfl, .inr (.inr (.inr ⟨v, e2, rfl, h3⟩))⟩
/-- for: I says what holds with so much left -/
theorem bw_for {it : It} {tg : Tg} {ls : List Nat} {ds : List D} {env1 : Env} (I : List D → Env → Prop) (h1 : evI Φ it env = some (ls, ds, env1)) (h0 : I ds (lockE env1 ls))
    (hs : ∀ d ds e, I (d :: ds) e → ∀ K, LoopK (lockE env1 ls) (I ds) (fun o => stepO Φ r Q (some o)) (fun e => unlockE env1 e ls) K → ∃ e1, bindT tg d e = some e1 ∧ BW Φ b e1 K)
    (hq : ∀ e, I [] e → BW Φ r (unlockE env1 e ls) Q) : BW Φ (.cons (.for it tg b) r) env Q := by
  rw [bw_step]
  simp only [exec, h1]
  change stepO Φ r Q (match forS (forTurn Φ tg b) (lockE env1 ls) ds (lockE env1 ls) with
    | some o => some (endFor env1 ls o)
    | none => none)
  obtain ⟨o, e1, e2⟩ := forS_ok (Q := fun o => stepO Φ r Q (some o)) (fin := fun e => unlockE env1 e ls) I hs hq ds _ h0
  rw [e1]
  rcases e2 with ⟨e', rfl, q⟩ | ⟨e', rfl, q⟩ | ⟨v, e', rfl, q⟩ | ⟨v, e', rfl, q⟩ <;> exact q
/-- while: M falls at each turn -/
theorem whS_ok {t : Xp} {pre : Env} (I : Env → Prop) (M : Env → Nat)
    (hs : ∀ e, I e → ∀ (K : Out → Prop), LoopK pre (fun e' => I e' ∧ M e' < M e) Q id K → ∃ k e1, tstX Φ t e = some (k, e1) ∧ (k = true → BW Φ b e1 K) ∧ (k = false → Q (.nx e1))) : ∀ (n : Nat) (e : Env), I e → M e < n →
    ∃ o, whS (tstX Φ t) (execs Φ b) pre n e = some o ∧ Q o
  | 0, e, h, hn => absurd hn (Nat.not_lt_zero _)
  | n + 1, e, h, hn => by
    obtain ⟨k, e1, h1, h2, h3⟩ := hs e h (fun o => match o with
      | .nx e' => I (forget pre e') ∧ M (forget pre e') < M e
      | .ct e' => I (forget pre e') ∧ M (forget pre e') < M e
      | .bk e' => Q (.nx (forget pre e'))
      | .rt v e' => Q (.rt v e')
      | .ex v e' => Q (.ex v e')) ⟨fun _ h => h, fun _ h => h, fun _ h => h, fun _ _ h => h, fun _ _ h => h⟩
    simp only [whS, h1]
    cases k with
    | false => exact ⟨_, rfl, h3 rfl⟩
    | true =>
      obtain ⟨o, e2, e3⟩ := h2 rfl
      simp only [e2]
      cases o with
      | nx e4 => exact whS_ok I M hs n _ e3.1 (by have := e3.2; omega)
      | ct e4 => exact whS_ok I M hs n _ e3.1 (by have := e3.2; omega)
      | bk e4 => exact ⟨_, rfl, e3⟩
      | rt v e4 => exact ⟨_, rfl, e3⟩
      | ex v e4 => exact ⟨_, rfl, e3⟩
theorem bw_whl {t : Xp} (I : Env → Prop) (M : Env → Nat) (h0 : I env) (hM : M env < fuelW)
    (hs : ∀ e, I e → ∀ (K : Out → Prop), LoopK env (fun e' => I e' ∧ M e' < M e) (fun o => stepO Φ r Q (some o)) id K → ∃ k e1, tstX Φ t e = some (k, e1) ∧ (k = true → BW Φ b e1 K) ∧ (k = false → BW Φ r e1 Q)) : BW Φ (.cons (.whl t b) r) env Q := by
  rw [bw_step]
  simp only [exec]
  obtain ⟨o, e1, e2⟩ := whS_ok (Q := fun o => stepO Φ r Q (some o)) (pre := env) I M hs fuelW env h0 hM
  rw [e1]
  exact e2
theorem bw_whlF {t : Xp} (I F : Env → Prop) (M : Env → Nat) (h0 : I env) (hM : M env < fuelW)
    (hs : ∀ e, I e → ∀ (K : Out → Prop), LoopK env (fun e' => I e' ∧ M e' < M e) (fun o => stepO Φ r Q (some o)) id K → ∃ k e1, tstX Φ t e = some (k, e1) ∧ (k = true → BW Φ b e1 K) ∧ (k = false → F e1)) (hq : ∀ e, F e → BW Φ r e Q) : BW Φ (.cons (.whl t b) r) env Q :=
  bw_whl I M h0 hM fun e h K L => by
    obtain ⟨k, e1, h1, h2, h3⟩ := hs e h K L
    exact ⟨k, e1, h1, h2, fun z => hq e1 (h3 z)⟩
/-- a def's run by its block -/
theorem run_im {d : Dfn} {args out : List Sl} {P : D → Prop} (hl : args.length = d.np)
    (h : ∀ Q : Out → Prop, (∀ x env, finSl args env = out → P x → Q (.rt (.im x) env)) → BW Φ d.body (args ++ List.replicate (d.ns - d.np) .un) Q) : ∃ x, d.run Φ args = some (.im x, out) ∧ P x := by
  obtain ⟨o, h1, x, env, rfl, h2, h3⟩ := h (fun o => ∃ x env, o = .rt (.im x) env ∧ finSl args env = out ∧ P x) fun x env h1 h2 => ⟨x, env, rfl, h1, h2⟩
  refine ⟨x, ?_, h3⟩
  unfold Dfn.run
  rw [if_pos hl, h1, ← h2]
theorem run_fr {d : Dfn} {args out : List Sl} {P : D → Prop} (hl : args.length = d.np)
    (h : ∀ Q : Out → Prop, (∀ x env, finSl args env = out → P x → Q (.rt (.fr x) env)) → BW Φ d.body (args ++ List.replicate (d.ns - d.np) .un) Q) : ∃ x, d.run Φ args = some (.fr x, out) ∧ P x := by
  obtain ⟨o, h1, x, env, rfl, h2, h3⟩ := h (fun o => ∃ x env, o = .rt (.fr x) env ∧ finSl args env = out ∧ P x) fun x env h1 h2 => ⟨x, env, rfl, h1, h2⟩
  refine ⟨x, ?_, h3⟩
  unfold Dfn.run
  rw [if_pos hl, h1, ← h2]
/-- .. with what is left of the arguments -/
theorem run_imO {d : Dfn} {args : List Sl} {P : D → List Sl → Prop} (hl : args.length = d.np)
    (h : ∀ Q : Out → Prop, (∀ x env, P x (finSl args env) → Q (.rt (.im x) env)) → BW Φ d.body (args ++ List.replicate (d.ns - d.np) .un) Q) : ∃ x out, d.run Φ args = some (.im x, out) ∧ P x out := by
  obtain ⟨o, h1, x, env, rfl, h2⟩ := h (fun o => ∃ x env, o = .rt (.im x) env ∧ P x (finSl args env)) fun x env h1 => ⟨x, env, rfl, h1⟩
  refine ⟨x, _, ?_, h2⟩
  unfold Dfn.run
  rw [if_pos hl, h1]
theorem run_frO {d : Dfn} {args : List Sl} {P : D → List Sl → Prop} (hl : args.length = d.np)
    (h : ∀ Q : Out → Prop, (∀ x env, P x (finSl args env) → Q (.rt (.fr x) env)) → BW Φ d.body (args ++ List.replicate (d.ns - d.np) .un) Q) : ∃ x out, d.run Φ args = some (.fr x, out) ∧ P x out := by
  obtain ⟨o, h1, x, env, rfl, h2⟩ := h (fun o => ∃ x env, o = .rt (.fr x) env ∧ P x (finSl args env)) fun x env h1 => ⟨x, env, rfl, h1⟩
  refine ⟨x, _, ?_, h2⟩
  unfold Dfn.run
  rw [if_pos hl, h1]
/-- .. that raises -/
theorem run_ex {d : Dfn} {args : List Sl} {P : D → List Sl → Prop} (hl : args.length = d.np)
    (h : ∀ Q : Out → Prop, (∀ y env, P y (finSl args env) → Q (.ex y env)) → BW Φ d.body (args ++ List.replicate (d.ns - d.np) .un) Q) : ∃ y out, d.rux Φ args = some (y, out) ∧ P y out := by
  obtain ⟨o, h1, x, env, rfl, h2⟩ := h (fun o => ∃ x env, o = .ex x env ∧ P x (finSl args env)) fun x env h1 => ⟨x, env, rfl, h1⟩
  refine ⟨x, _, ?_, h2⟩
  unfold Dfn.rux
  rw [if_pos hl, h1]
/-- .. that does nothing -/
theorem run_nx {d : Dfn} {args : List Sl} {P : List Sl → Prop} (hl : args.length = d.np)
    (h : ∀ Q : Out → Prop, (∀ env, P (finSl args env) → Q (.nx env)) → BW Φ d.body (args ++ List.replicate (d.ns - d.np) .un) Q) : ∃ out, d.run Φ args = some (.im .none, out) ∧ P out := by
  obtain ⟨o, h1, env, rfl, h2⟩ := h (fun o => ∃ env, o = .nx env ∧ P (finSl args env)) fun env h1 => ⟨env, rfl, h1⟩
  refine ⟨_, ?_, h2⟩
  unfold Dfn.run
  rw [if_pos hl, h1]
/-- what raises answers nothing -/
theorem run_rux {d : Dfn} {args : List Sl} {p : D × List Sl} (h : d.rux Φ args = some p) : d.run Φ args = none := by
  obtain ⟨l, env, e, _⟩ := rux_eq (Φ := Φ) d args (y := p.1) (fin := p.2) h
  unfold Dfn.run
  rw [if_pos l, e]
theorem fns_rux {tbl : List (Str × Dfn)} {f : Str} {args : List Sl} {p : D × List Sl} : ∀ {n : Nat}, (fns tbl n).ex f args = some p → fns tbl n f args = none
  | 0, h => by cases h
  | n + 1, h => by
    simp only [fns] at h ⊢
    cases e : tbl.lookup f with
    | none => rfl
    | some d =>
      rw [e] at h
      exact run_rux h
end
theorem goL_mapW {f : D → Env → Option (Option D × Env)} {en : Env} (g : D → Option D) : ∀ {ds : List D}, (∀ d ∈ ds, f d en = some (g d, en)) → goL f ds en = some (ds.filterMap g, en)
  | [], _ => rfl
  | d :: ds, h => by
    simp only [goL, h d List.mem_cons_self, goL_mapW g (ds := ds) fun x hx => h x (List.mem_cons_of_mem _ hx)]
    rw [List.filterMap_cons]
    cases g d <;> rfl
/-- the items stand for ts; each turn gives what h says -/
theorem goL_of {α : Type} {f : D → Env → Option (Option D × Env)} {en : Env} {k : α → D} (h : α → Option D) {ts : List α} (ht : ∀ t ∈ ts, f (k t) en = some (h t, en)) : goL f (ts.map k) en = some (ts.filterMap h, en) := by
  induction ts with
  | nil => rfl
  | cons t ts ih =>
    rw [List.map_cons]
    simp only [goL, ht t List.mem_cons_self, ih fun x hx => ht x (List.mem_cons_of_mem _ hx)]
    rw [List.filterMap_cons]
    cases h t <;> rfl
theorem lcRun_map {vs ls : List Nat} {ds : List D} {env1 : Env} {f : D → Env → Option (Option D × Env)} (g : D → Option D) (ht : ∀ d ∈ ds, f d (wipeE (lockE env1 ls) vs) = some (g d, wipeE (lockE env1 ls) vs)) (hf : freeE env1 vs = true) (hl : ds.length ≤ lim) :
    lcRun vs (some (ls, ds, env1)) f = some (.fr (.list (ds.filterMap g)), unlockE env1 (backE (lockE env1 ls) (wipeE (lockE env1 ls) vs) vs) ls) := by
  unfold lcRun
  dsimp only
  rw [if_pos (by rw [Bool.and_eq_true, decide_eq_true_iff]; exact ⟨hf, hl⟩), goL_mapW g ht]
theorem lcRun_of {α : Type} {vs ls : List Nat} {k : α → D} {ts : List α} {env1 : Env} {f : D → Env → Option (Option D × Env)} (h : α → Option D) (ht : ∀ t ∈ ts, f (k t) (wipeE (lockE env1 ls) vs) = some (h t, wipeE (lockE env1 ls) vs)) (hf : freeE env1 vs = true) (hl : ts.length ≤ lim) :
    lcRun vs (some (ls, ts.map k, env1)) f = some (.fr (.list (ts.filterMap h)), unlockE env1 (backE (lockE env1 ls) (wipeE (lockE env1 ls) vs) vs) ls) := by
  unfold lcRun
  dsimp only
  rw [if_pos (by rw [Bool.and_eq_true, decide_eq_true_iff]; exact ⟨hf, by rw [List.length_map]; exact hl⟩), goL_of h ht]
theorem fm_some {α β : Type} (g : α → β) : ∀ l : List α, l.filterMap (fun x => some (g x)) = l.map g
  | [] => rfl
  | x :: l => by rw [List.filterMap_cons, List.map_cons, fm_some g l]
theorem fm_if {α β : Type} (p : α → Bool) (g : α → β) : ∀ l : List α, l.filterMap (fun x => if p x = true then some (g x) else none) = (l.filter p).map g
  | [] => rfl
  | x :: l => by
    rw [List.filterMap_cons, fm_if p g l, List.filter_cons]
    cases h : p x <;> simp [h]
end DI

set_option maxRecDepth 100000
namespace DI.Law
open PySem PySem.Spec PyProof.Rows L2 DI
def d_nodes : Dfn := ⟨1, 2, (.cons (.ret (.bi .tuple (.cons (.bi .setSorted (.cons (.bin .Add (.lc [1] (.x (.v 0)) (.n 1) (.c (.bool true)) (.ix (.v 1) (.c (.int 1)))) (.lc [1] (.x (.v 0)) (.n 1) (.c (.bool true)) (.ix (.v 1) (.c (.int 2))))) .nil)) .nil))) .nil)⟩
def d_parts : Dfn := ⟨1, 2, (.cons (.ret (.bi .tuple (.cons (.lc [1] (.x (.v 0)) (.n 1) (.c (.bool true)) (.ix (.v 1) (.c (.int 0)))) .nil))) .nil)⟩
def d_merged : Dfn := ⟨2, 9, (.cons (.set 2 (.dc [8] (.x (.call "nodes" (.cons (.v 0) .nil))) (.n 8) (.c (.bool true)) (.v 8) (.v 8))) (.cons (.for (.x (.v 0)) (.t [3, 4, 5]) (.cons (.iff (.andX (.cmp .In (.v 3) (.v 1)) (.cmp .NotEq (.ix (.v 2) (.v 4)) (.ix (.v 2) (.v 5)))) (.cons (.setT [6, 7] (.bi .sorted (.cons (.lst (.cons (.ix (.v 2) (.v 4)) (.cons (.ix (.v 2) (.v 5)) .nil))) .nil))) (.cons (.set 2 (.dc [8] (.x (.v 2)) (.n 8) (.c (.bool true)) (.v 8) (.ite (.cmp .Eq (.ix (.v 2) (.v 8)) (.v 7)) (.v 6) (.ix (.v 2) (.v 8))))) .nil)) .nil) .nil)) (.cons (.ret (.v 2)) .nil)))⟩
def d_classes : Dfn := ⟨2, 4, (.cons (.ret (.lc [2] (.x (.v 0)) (.n 2) (.cmp .Eq (.ix (.v 1) (.v 2)) (.v 2)) (.bi .tuple (.cons (.lc [3] (.x (.v 0)) (.n 3) (.cmp .Eq (.ix (.v 1) (.v 3)) (.v 2)) (.v 3)) .nil)))) .nil)⟩
def d_groups : Dfn := ⟨1, 1, (.cons (.ret (.call "classes" (.cons (.call "nodes" (.cons (.v 0) .nil)) (.cons (.call "merged" (.cons (.v 0) (.cons (.call "parts" (.cons (.v 0) .nil)) .nil))) .nil)))) .nil)⟩
def d_rank : Dfn := ⟨1, 1, (.cons (.ret (.bin .Sub (.bi .len (.cons (.call "nodes" (.cons (.v 0) .nil)) .nil)) (.bi .len (.cons (.call "groups" (.cons (.v 0) .nil)) .nil)))) .nil)⟩
def d_l_box : Dfn := ⟨2, 3, (.cons (.set 2 (.ite (.cmp .Lt (.v 1) (.bi .len (.cons (.v 0) .nil))) (.ix (.v 0) (.v 1)) (.c (.int 0)))) (.cons (.ret (.lst (.cons (.bin .Mult (.bi .abs (.cons (.v 2) .nil)) (.bi .int (.cons (.cmp .GtE (.bi .abs (.cons (.v 2) .nil)) (.bin .Pow (.c (.int 10)) (.c (.int 18)))) .nil))) (.cons (.bin .Add (.bin .Add (.bin .Mod (.bi .int (.cons (.v 2) .nil)) (.c (.int 2305843009213693951))) (.bin .Mult (.c (.int 39373)) (.v 1))) (.c (.int 331))) (.cons (.c (.int 0)) .nil))))) .nil))⟩
def d_l_take : Dfn := ⟨2, 6, (.cons (.iff (.cmp .Gt (.ix (.v 0) (.c (.int 0))) (.c (.int 0))) (.cons (.set 2 (.bin .Mod (.bi .int (.cons (.ix (.v 0) (.c (.int 0))) .nil)) (.v 1))) (.cons (.setIx 0 (.c (.int 0)) (.bin .FloorDiv (.ix (.v 0) (.c (.int 0))) (.v 1))) (.cons (.ret (.v 2)) .nil))) .nil) (.cons (.setIx 0 (.c (.int 2)) (.bin .Add (.ix (.v 0) (.c (.int 2))) (.c (.int 1)))) (.cons (.set 3 (.bin .Mod (.bi .int (.cons (.bin .Mult (.bin .Add (.ix (.v 0) (.c (.int 1))) (.bin .Mult (.c (.int 48271)) (.ix (.v 0) (.c (.int 2))))) (.bin .Add (.c (.int 39373)) (.ix (.v 0) (.c (.int 2))))) .nil)) (.c (.int 2147483647)))) (.cons (.set 4 (.bin .Add (.bin .Mod (.bi .int (.cons (.v 3) .nil)) (.c (.int 40009))) (.c (.int 7)))) (.cons (.set 5 (.bin .Mod (.bi .int (.cons (.bin .Mult (.bin .Add (.bin .Add (.v 3) (.ix (.v 0) (.c (.int 2)))) (.bin .FloorDiv (.ix (.v 0) (.c (.int 1))) (.c (.int 1000003)))) (.v 4)) .nil)) (.c (.int 2147483629)))) (.cons (.ret (.bin .Mod (.bi .int (.cons (.bin .FloorDiv (.bin .Mod (.bi .int (.cons (.bin .Add (.bin .Mult (.v 5) (.c (.int 48271))) (.v 3)) .nil)) (.c (.int 2147483587))) (.c (.int 64))) .nil)) (.v 1))) .nil))))))⟩
def d_l_cells : Dfn := ⟨2, 6, (.cons (.set 2 (.orX (.bi .list (.cons (.sl (.v 0) .nil (.v 1)) .nil)) (.lst (.cons (.c (.int 0)) .nil)))) (.cons (.for (.e (.sl (.v 0) (.v 1) (.c (.int 63)))) (.t [3, 4]) (.cons (.set 5 (.bin .Mod (.bi .int (.cons (.v 3) .nil)) (.v 1))) (.cons (.setIx 2 (.v 5) (.bin .Add (.ix (.v 2) (.v 5)) (.bin .Mult (.v 4) (.bin .Add (.v 3) (.c (.int 2)))))) .nil))) (.cons (.ret (.v 2)) .nil)))⟩
def d_l_of : Dfn := ⟨2, 2, (.cons (.ret (.ix (.v 1) (.call "_law_take" (.cons (.v 0) (.cons (.bi .len (.cons (.v 1) .nil)) .nil))))) .nil)⟩
def d_l_pick : Dfn := ⟨3, 6, (.cons (.par [3, 4] (.cons (.bi .list (.cons (.v 1) .nil)) (.cons (.lst .nil) .nil))) (.cons (.for (.r1 (.bi .min (.cons (.v 2) (.cons (.bi .len (.cons (.v 3) .nil)) .nil)))) (.n 5) (.cons (.ex (.me .append 4 (.cons (.me .popAt 3 (.cons (.call "_law_take" (.cons (.v 0) (.cons (.bi .len (.cons (.v 3) .nil)) .nil))) .nil)) .nil))) .nil)) (.cons (.ret (.v 4)) .nil)))⟩
def d_l_lists : Dfn := ⟨1, 2, (.cons (.ret (.ite (.isi (.v 0) ["list", "tuple"]) (.lc [1] (.x (.v 0)) (.n 1) (.c (.bool true)) (.call "_law_lists" (.cons (.v 1) .nil))) (.v 0))) .nil)⟩
def d_l_same : Dfn := ⟨2, 4, (.cons (.iff (.isi (.v 1) ["list", "tuple"]) (.cons (.iff (.orX (.cmp .NotEq (.isi (.v 0) ["list"]) (.isi (.v 1) ["list"])) (.cmp .NotEq (.isi (.v 0) ["tuple"]) (.isi (.v 1) ["tuple"]))) (.cons (.ret (.c (.bool false))) .nil) .nil) (.cons (.ret (.andX (.cmp .Eq (.bi .len (.cons (.v 0) .nil)) (.bi .len (.cons (.v 1) .nil))) (.bi .all (.cons (.lc [2, 3] (.z (.v 0) (.v 1)) (.t [2, 3]) (.c (.bool true)) (.call "_law_same" (.cons (.v 2) (.cons (.v 3) .nil)))) .nil)))) .nil)) .nil) (.cons (.iff (.orX (.cmp .Is (.v 1) (.c .none)) (.isi (.v 1) ["bool", "str"])) (.cons (.ret (.andX (.cmp .Eq (.v 0) (.v 1)) (.andX (.cmp .Eq (.isi (.v 0) ["bool"]) (.isi (.v 1) ["bool"])) (.cmp .Eq (.cmp .Is (.v 0) (.c .none)) (.cmp .Is (.v 1) (.c .none)))))) .nil) .nil) (.cons (.ret (.andX (.isi (.v 0) ["int"]) (.andX (.notX (.isi (.v 0) ["bool"])) (.cmp .Eq (.v 0) (.v 1))))) .nil)))⟩
def d_l_web : Dfn := ⟨3, 9, (.cons (.set 3 (.call "_law_pick" (.cons (.v 0) (.cons (.lst (.cons (.c (.str "a")) (.cons (.c (.str "b2")) (.cons (.c (.str "c.x")) (.cons (.c (.str "k")) (.cons (.c (.str "m")) (.cons (.c (.str "n")) (.cons (.c (.str "q")) (.cons (.c (.str "s")) (.cons (.c (.str "t")) (.cons (.c (.str "z")) .nil))))))))))) (.cons (.bi .max (.cons (.c (.int 1)) (.cons (.bin .Add (.c (.int 1)) (.call "_law_take" (.cons (.v 0) (.cons (.v 2) .nil)))) .nil))) .nil))))) (.cons (.set 4 (.bi .sorted (.cons (.call "_law_pick" (.cons (.v 0) (.cons (.lst (.cons (.c (.str "a")) (.cons (.c (.str "c")) (.cons (.c (.str "d2")) (.cons (.c (.str "e")) (.cons (.c (.str "f.f")) (.cons (.c (.str "k")) (.cons (.c (.str "l")) (.cons (.c (.str "n")) (.cons (.c (.str "p")) (.cons (.c (.str "r1")) (.cons (.c (.str "s")) (.cons (.c (.str "u")) (.cons (.c (.str "w")) (.cons (.c (.str "y")) .nil))))))))))))))) (.cons (.v 1) .nil)))) .nil))) (.cons (.set 5 (.lst .nil)) (.cons (.for (.x (.sl (.v 4) .nil (.bin .Add (.c (.int 1)) (.call "_law_take" (.cons (.v 0) (.cons (.v 1) .nil)))))) (.n 6) (.cons (.par [7, 8] (.cons (.call "_law_of" (.cons (.v 0) (.cons (.v 3) .nil))) (.cons (.call "_law_of" (.cons (.v 0) (.cons (.v 3) .nil))) .nil))) (.cons (.iff (.andX (.cmp .Eq (.v 7) (.v 8)) (.cmp .Gt (.call "_law_take" (.cons (.v 0) (.cons (.c (.int 4)) .nil))) (.c (.int 0)))) (.cons (.set 8 (.call "_law_of" (.cons (.v 0) (.cons (.v 3) .nil)))) .nil) .nil) (.cons (.ex (.me .append 5 (.cons (.tup (.cons (.v 6) (.cons (.v 7) (.cons (.v 8) .nil)))) .nil))) .nil)))) (.cons (.ret (.bi .tuple (.cons (.v 5) .nil))) .nil)))))⟩
def d_l_spots : Dfn := ⟨1, 4, (.cons (.set 1 (.lst .nil)) (.cons (.for (.x (.v 0)) (.n 2) (.cons (.for (.x (.sl (.v 2) (.c (.int 1)) .nil)) (.n 3) (.cons (.iff (.cmp .NotIn (.v 3) (.v 1)) (.cons (.ex (.me .append 1 (.cons (.v 3) .nil))) .nil) .nil) .nil)) .nil)) (.cons (.ret (.bi .sorted (.cons (.v 1) .nil))) .nil)))⟩
def d_l_due : Dfn := ⟨1, 11, (.cons (.set 1 (.call "_law_spots" (.cons (.v 0) .nil))) (.cons (.set 2 (.bi .rng (.cons (.bi .len (.cons (.v 1) .nil)) .nil))) (.cons (.for (.x (.v 1)) (.n 3) (.cons (.for (.x (.v 0)) (.n 4) (.cons (.par [5, 6] (.cons (.mi .index (.v 1) (.ix (.v 4) (.c (.int 1)))) (.cons (.mi .index (.v 1) (.ix (.v 4) (.c (.int 2)))) .nil))) (.cons (.set 7 (.bi .min (.cons (.ix (.v 2) (.v 5)) (.cons (.ix (.v 2) (.v 6)) .nil)))) (.cons (.setIx 2 (.v 5) (.v 7)) (.cons (.setIx 2 (.v 6) (.v 7)) .nil))))) .nil)) (.cons (.set 8 (.lst .nil)) (.cons (.for (.r1 (.bi .len (.cons (.v 1) .nil))) (.n 9) (.cons (.iff (.cmp .In (.v 9) (.v 2)) (.cons (.ex (.me .append 8 (.cons (.bi .tuple (.cons (.lc [10] (.r1 (.bi .len (.cons (.v 1) .nil))) (.n 10) (.cmp .Eq (.ix (.v 2) (.v 10)) (.v 9)) (.ix (.v 1) (.v 10))) .nil)) .nil))) .nil) .nil) .nil)) (.cons (.ret (.lst (.cons (.bi .tuple (.cons (.v 1) .nil)) (.cons (.bi .tuple (.cons (.lc [4] (.x (.v 0)) (.n 4) (.c (.bool true)) (.ix (.v 4) (.c (.int 0)))) .nil)) (.cons (.v 8) (.cons (.bin .Sub (.bi .len (.cons (.v 1) .nil)) (.bi .len (.cons (.v 8) .nil))) .nil)))))) .nil))))))⟩
def d_l_right : Dfn := ⟨1, 8, (.cons (.for (.r1 (.c (.int 10))) (.n 1) (.cons (.set 2 (.call "_law_web" (.cons (.v 0) (.cons (.c (.int 9)) (.cons (.c (.int 7)) .nil))))) (.cons (.par [3, 4] (.cons (.call "_law_lists" (.cons (.v 2) .nil)) (.cons (.call "_law_due" (.cons (.v 2) .nil)) .nil))) (.cons (.nat (tellF 5 4 [3, 4] (.cons (.call "nodes" (.cons (.v 2) .nil)) (.cons (.call "parts" (.cons (.v 2) .nil)) (.cons (.call "groups" (.cons (.v 2) .nil)) (.cons (.call "rank" (.cons (.v 2) .nil)) .nil)))) (.notX (.call "_law_same" (.cons (.v 5) (.cons (.v 4) .nil)))) (.cons (.ret (.c (.bool false))) .nil))) (.cons (.set 5 (.lst (.cons (.call "nodes" (.cons (.v 3) .nil)) (.cons (.call "parts" (.cons (.v 3) .nil)) (.cons (.call "groups" (.cons (.v 3) .nil)) (.cons (.call "rank" (.cons (.v 3) .nil)) .nil)))))) (.cons (.iff (.orX (.notX (.call "_law_same" (.cons (.v 5) (.cons (.v 4) .nil)))) (.cmp .NotEq (.v 3) (.call "_law_lists" (.cons (.v 2) .nil)))) (.cons (.ret (.c (.bool false))) .nil) .nil) .nil)))))) (.cons (.set 6 (.tup (.cons (.tup (.cons (.c (.str "m")) (.cons (.c (.str "n")) (.cons (.c (.str "m")) .nil)))) (.cons (.tup (.cons (.c (.str "n")) (.cons (.c (.str "k")) (.cons (.c (.str "k")) .nil)))) .nil)))) (.cons (.set 5 (.lst (.cons (.call "nodes" (.cons (.tup .nil) .nil)) (.cons (.call "parts" (.cons (.tup .nil) .nil)) (.cons (.call "groups" (.cons (.tup .nil) .nil)) (.cons (.call "rank" (.cons (.tup .nil) .nil)) (.cons (.call "nodes" (.cons (.v 6) .nil)) (.cons (.call "parts" (.cons (.v 6) .nil)) (.cons (.call "groups" (.cons (.v 6) .nil)) (.cons (.call "rank" (.cons (.v 6) .nil)) .nil)))))))))) (.cons (.set 7 (.tup (.cons (.tup (.cons (.c (.str "a")) (.cons (.c (.str "n")) (.cons (.c (.str "m")) .nil)))) (.cons (.tup (.cons (.c (.str "b")) (.cons (.c (.str "k")) (.cons (.c (.str "x")) .nil)))) (.cons (.tup (.cons (.c (.str "c")) (.cons (.c (.str "m")) (.cons (.c (.str "x")) .nil)))) .nil))))) (.cons (.set 5 (.bin .Add (.v 5) (.lst (.cons (.call "groups" (.cons (.v 7) .nil)) (.cons (.call "rank" (.cons (.v 7) .nil)) .nil))))) (.cons (.set 4 (.lst (.cons (.tup .nil) (.cons (.tup .nil) (.cons (.lst .nil) (.cons (.c (.int 0)) (.cons (.tup (.cons (.c (.str "k")) (.cons (.c (.str "m")) (.cons (.c (.str "n")) .nil)))) (.cons (.tup (.cons (.c (.str "m")) (.cons (.c (.str "n")) .nil))) (.cons (.lst (.cons (.tup (.cons (.c (.str "k")) .nil)) (.cons (.tup (.cons (.c (.str "m")) (.cons (.c (.str "n")) .nil))) .nil))) (.cons (.c (.int 1)) (.cons (.lst (.cons (.tup (.cons (.c (.str "k")) (.cons (.c (.str "m")) (.cons (.c (.str "n")) (.cons (.c (.str "x")) .nil))))) .nil)) (.cons (.c (.int 3)) .nil)))))))))))) (.cons (.ret (.call "_law_same" (.cons (.v 5) (.cons (.v 4) .nil)))) .nil)))))))⟩
def d_law : Dfn := ⟨1, 3, (.cons (.set 1 (.call "_law_cells" (.cons (.v 0) (.cons (.c (.int 3)) .nil)))) (.cons (.ret (.bi .all (.cons (.lc [2] (.r1 (.bi .len (.cons (.v 1) .nil))) (.n 2) (.c (.bool true)) (.call "_law_right" (.cons (.call "_law_box" (.cons (.v 1) (.cons (.v 2) .nil))) .nil))) .nil))) .nil))⟩
def tbl : List (Str × Dfn) := [("nodes", d_nodes), ("parts", d_parts), ("merged", d_merged), ("classes", d_classes), ("groups", d_groups), ("rank", d_rank), ("_law_box", d_l_box), ("_law_take", d_l_take), ("_law_cells", d_l_cells), ("_law_of", d_l_of), ("_law_pick", d_l_pick), ("_law_lists", d_l_lists), ("_law_same", d_l_same), ("_law_web", d_l_web), ("_law_spots", d_l_spots), ("_law_due", d_l_due), ("_law_right", d_l_right), ("law", d_law)]
end DI.Law

set_option maxRecDepth 100000
namespace DI.Law
open PySem PySem.Spec
abbrev bx (a b c : Int) : D := .list [.int a, .int b, .int c]
theorem ix0 {a : D} {r : List D} : L2.atI (a :: r) 0 = some a := L2.atI_nat (j := 0) rfl
theorem ix1 {a b : D} {r : List D} : L2.atI (a :: b :: r) 1 = some b := L2.atI_nat (j := 1) rfl
theorem ix2 {a b c : D} {r : List D} : L2.atI (a :: b :: c :: r) 2 = some c := L2.atI_nat (j := 2) rfl
theorem small_of {i : Int} (h : -(2^60) ≤ i) (h2 : i ≤ 2^60) : small64 i = true := small64_iff.mpr ⟨by omega, by omega⟩
theorem in62_of {i : Int} (h : -(2 ^ 60) ≤ i) (h2 : i < 2 ^ 60) : in62 i = true := in62_iff.mpr ⟨by omega, by omega⟩
theorem f_take (n : Nat) : fns tbl (n + 1) "_law_take" = d_l_take.run (fns tbl n) := fns_at (by kernel_rfl)
theorem f_of (n : Nat) : fns tbl (n + 1) "_law_of" = d_l_of.run (fns tbl n) := fns_at (by kernel_rfl)
theorem f_pick (n : Nat) : fns tbl (n + 1) "_law_pick" = d_l_pick.run (fns tbl n) := fns_at (by kernel_rfl)
theorem f_web (n : Nat) : fns tbl (n + 1) "_law_web" = d_l_web.run (fns tbl n) := fns_at (by kernel_rfl)
theorem take_a {Φ : Fns} (a b c m : Int) (ha : 0 < a) (hm : 0 < m) (hm2 : m < 1073741824) : d_l_take.run Φ [.ow .bor (bx a b c), .im (.int m)] = some (.im (.int (a % m)), [.ow .bor (bx (a / m) b c), .im (.int m)]) := by
  simp [Dfn.run, d_l_take, ix0, ix1, ix2, ha, hm, hm2, L2.ixN]
def once (b c : Int) : Int := (b + 48271 * c) * (39373 + c) % 2147483647
def prng (b c : Int) : Int := ((once b c + c + b / 1000003) * (once b c % 40009 + 7) % 2147483629 * 48271 + once b c) % 2147483587 / 64
theorem take_b {Φ : Fns} (a b c m : Int) (ha : ¬ 0 < a) (hm : 0 < m) (hc : 0 ≤ c) (hc2 : c < 2^59) : d_l_take.run Φ [.ow .bor (bx a b c), .im (.int m)] = some (.im (.int (prng b (c + 1) % m)), [.ow .bor (bx a b (c + 1)), .im (.int m)]) := by
  have e1 : small64 (39373 + (c + 1)) = true := small_of (by omega) (by omega)
  have e2 : ∀ x : Int, small64 (x % 40009 + 7) = true := fun x => small_of (by omega) (by omega)
  have e3 : small64 48271 = true := by decide
  simp [Dfn.run, d_l_take, ix0, ix1, ix2, ha, hm, L2.ixN, e1, e2, e3, prng, once]
/-- a draw's box: its counter not above N -/
def BOk (N : Nat) (d : D) : Prop := ∃ a b c : Int, d = bx a b c ∧ 0 ≤ c ∧ c ≤ N
theorem BOk.mono {N M : Nat} {d : D} (h : BOk N d) (l : N ≤ M) : BOk M d := by
  obtain ⟨a, b, c, e, h1, h2⟩ := h
  exact ⟨a, b, c, e, h1, by omega⟩
theorem take_ok {n N : Nat} {d : D} (h : BOk N d) (hN : N < 2^59) {m : Int} (hm : 0 < m) (hm2 : m < 1073741824) : ∃ r d', fns tbl (n + 1) "_law_take" [.ow .bor d, .im (.int m)] = some (.im (.int r), [.ow .bor d', .im (.int m)]) ∧ 0 ≤ r ∧ r < m ∧ BOk (N + 1) d' := by
  obtain ⟨a, b, c, rfl, h1, h2⟩ := h
  rw [f_take]
  by_cases ha : 0 < a
  · exact ⟨_, _, take_a a b c m ha hm hm2, Int.emod_nonneg _ (by omega), Int.emod_lt_of_pos _ hm, a / m, b, c, rfl, h1, by omega⟩
  · exact ⟨_, _, take_b a b c m ha hm h1 (by omega), Int.emod_nonneg _ (by omega), Int.emod_lt_of_pos _ hm, a, b, c + 1, rfl, by omega, by omega⟩
theorem atI_lt {xs : List D} {r : Int} (h0 : 0 ≤ r) (h1 : r < xs.length) : ∃ x, L2.atI xs r = some x ∧ x ∈ xs ∧ L2.ixN xs.length r = some r.toNat ∧ xs[r.toNat]? = some x := by
  have hl : r.toNat < xs.length := by omega
  have e : L2.ixN xs.length r = some r.toNat := by unfold L2.ixN; rw [if_pos h0, if_pos h1]
  refine ⟨xs[r.toNat], ?_, List.getElem_mem hl, e, List.getElem?_eq_getElem hl⟩
  unfold L2.atI
  rw [e]
  exact List.getElem?_eq_getElem hl
/-- a list handed over: as it stands, or lent -/
def lsl (k : Bool) (xs : List D) : Sl := if k then .ow .bor (.list xs) else .im (.list xs)
theorem of_ok {n N : Nat} {d : D} (h : BOk N d) (hN : N < 2^59) {k : Bool} {xs : List D} (h0 : 0 < xs.length) (h1 : xs.length < 1000) : ∃ x d', fns tbl (n + 2) "_law_of" [.ow .bor d, lsl k xs] = some (.im x, [.ow .bor d', lsl k xs]) ∧ x ∈ xs ∧ BOk (N + 1) d' := by
  obtain ⟨r, d', e, r0, r1, hd⟩ := take_ok (n := n) h hN (m := xs.length) (by omega) (by omega)
  obtain ⟨x, g1, g2, _⟩ := atI_lt r0 r1
  refine ⟨x, d', ?_, g2, hd⟩
  rw [f_of]
  cases k <;> simp [Dfn.run, d_l_of, lsl, e, g1]
end DI.Law

set_option maxRecDepth 100000
namespace DI
theorem execs_nx {Φ : Fns} {s : Sm} {r : Sms} {env env1 : Env} {o : Option Out} (h1 : exec Φ s env = some (.nx env1)) (h2 : execs Φ r env1 = o) : execs Φ (.cons s r) env = o := by
  simp only [execs, h1]
  exact h2
theorem execs_rt {Φ : Fns} {s : Sm} {r : Sms} {env env1 : Env} {v : R} (h1 : exec Φ s env = some (.rt v env1)) : execs Φ (.cons s r) env = some (.rt v env1) := by
  simp only [execs, h1]
theorem exec_for {Φ : Fns} {it : It} {tg : Tg} {b : Sms} {env env1 : Env} {ls : List Nat} {ds : List D} {o : Out} (h1 : evI Φ it env = some (ls, ds, env1)) (h2 : forS (forTurn Φ tg b) (lockE env1 ls) ds (lockE env1 ls) = some o) : exec Φ (.for it tg b) env = some (endFor env1 ls o) := by
  simp only [exec, h1]
  change (match forS (forTurn Φ tg b) (lockE env1 ls) ds (lockE env1 ls) with
    | some o => some (endFor env1 ls o)
    | none => none) = _
  rw [h2]
theorem run_rt {Φ : Fns} {d : Dfn} {args : List Sl} {env : Env} {x : D} (hl : args.length = d.np) (h : execs Φ d.body (args ++ List.replicate (d.ns - d.np) .un) = some (.rt (.im x) env)) : d.run Φ args = some (.im x, finSl args env) := by
  rw [run_eq, if_pos hl, h]
  rfl
theorem run_rtf {Φ : Fns} {d : Dfn} {args : List Sl} {env : Env} {x : D} (hl : args.length = d.np) (h : execs Φ d.body (args ++ List.replicate (d.ns - d.np) .un) = some (.rt (.fr x) env)) : d.run Φ args = some (.fr x, finSl args env) := by
  rw [run_eq, if_pos hl, h]
  rfl
theorem forS_nx {f : D → Env → Option Out} {pre env env1 : Env} {d : D} {ds : List D} {o : Option Out} (h1 : f d env = some (.nx env1)) (h2 : forS f pre ds (forget pre env1) = o) : forS f pre (d :: ds) env = o := by
  simp only [forS, h1]
  exact h2
end DI
namespace DI.Law
open PySem PySem.Spec
abbrev pickE (d : D) (p : Sl) (z : Int) (rest some : List D) : Env := [.ow .bor d, p, .im (.int z), .ow .own (.list rest), .ow .own (.list some), .un]
def pickB : Sms := match d_l_pick.body with
  | .cons _ (.cons (.for _ _ b) _) => b
  | _ => .nil
theorem erase_perm : ∀ {l : List D} {i : Nat} {x : D}, l[i]? = some x → (x :: l.eraseIdx i).Perm l
  | [], _, _, h => by simp at h
  | y :: l, 0, x, h => by
    have e : y = x := by simpa using h
    subst e
    exact List.Perm.refl _
  | y :: l, i + 1, x, h => by
    have ih := erase_perm (l := l) (i := i) (x := x) (by simpa using h)
    exact (List.Perm.swap y x _).trans (ih.cons y)
theorem pick_turn {n N : Nat} {d : D} (h : BOk N d) (hN : N < 2^59) {k : Bool} {xs : List D} {z : Int} {rest so : List D} (t : D) (h0 : 0 < rest.length) (h1 : rest.length < 1000) (h2 : so.length < 1000) :
    ∃ d' x i env1, forTurn (fns tbl (n + 1)) (.n 5) pickB t (pickE d (lsl k xs) z rest so) = some (.nx env1) ∧ forget (pickE d (lsl k xs) z rest so) env1 = pickE d' (lsl k xs) z (rest.eraseIdx i) (so ++ [x]) ∧ BOk (N + 1) d' ∧ rest[i]? = some x := by
  obtain ⟨r, d', e, r0, r1, hd⟩ := take_ok (n := n) h hN (m := rest.length) (by omega) (by omega)
  obtain ⟨x, g1, g2, g3, g4⟩ := atI_lt r0 r1
  have lm : so.length < lim := by unfold lim; omega
  have c1 : -9223372036854775808 ≤ r := by omega
  have c2 : r < 9223372036854775808 := by omega
  refine ⟨d', x, r.toNat, [.ow .bor d', lsl k xs, .im (.int z), .ow .own (.list (rest.eraseIdx r.toNat)), .ow .own (.list (so ++ [x])), .im t], ?_, by cases k <;> rfl, hd, g4⟩
  simp [forTurn, pickB, d_l_pick, pickE, e, g3, g4, c1, c2, lm]
theorem pick_loop {n : Nat} {k : Bool} {xs : List D} {z : Int} {pre : Env} (hp : ∀ d rest so e1, forget (pickE d (lsl k xs) z rest so) e1 = forget pre e1) : ∀ (j : Nat) (lo : Int) (N : Nat) (d : D) (rest so : List D), BOk N d → N + j < 2^59 → j ≤ rest.length → rest.length < 1000 → so.length + j < 1000 →
    ∃ d' rest' so', forS (forTurn (fns tbl (n + 1)) (.n 5) pickB) pre (rangeL lo j) (pickE d (lsl k xs) z rest so) = some (.nx (pickE d' (lsl k xs) z rest' so')) ∧ BOk (N + j) d' ∧ (rest' ++ so').Perm (rest ++ so) ∧ so'.length = so.length + j
  | 0, lo, N, d, rest, so, h, hN, h1, h2, h3 => ⟨d, rest, so, rfl, h, List.Perm.refl _, rfl⟩
  | j + 1, lo, N, d, rest, so, h, hN, h1, h2, h3 => by
    obtain ⟨d', x, i, env1, e1, e2, hd, hx⟩ := pick_turn (n := n) h (by omega) (k := k) (xs := xs) (z := z) (rest := rest) (so := so) (.int lo) (by omega) h2 (by omega)
    have hi : i < rest.length := (List.getElem?_eq_some_iff.mp hx).1
    obtain ⟨d2, rest2, so2, f1, f2, f3, f4⟩ := pick_loop hp j (lo + 1) (N + 1) d' (rest.eraseIdx i) (so ++ [x]) hd (by omega) (by rw [List.length_eraseIdx]; split <;> omega) (by rw [List.length_eraseIdx]; split <;> omega) (by rw [List.length_append]; simp only [List.length_cons, List.length_nil]; omega)
    refine ⟨d2, rest2, so2, ?_, f2.mono (by omega), f3.trans ?_, by rw [f4, List.length_append]; simp only [List.length_cons, List.length_nil]; omega⟩
    · show forS _ pre (.int lo :: rangeL (lo + 1) j) _ = _
      refine forS_nx e1 ?_
      rw [← hp d rest so env1, e2]
      exact f1
    · have q := erase_perm hx
      refine List.Perm.trans ?_ (List.Perm.append_right so q)
      have a1 : (rest.eraseIdx i ++ (so ++ [x])).Perm ((so ++ [x]) ++ rest.eraseIdx i) := List.perm_append_comm
      have a2 : ((so ++ [x]) ++ rest.eraseIdx i).Perm (so ++ (x :: rest.eraseIdx i)) := by
        rw [List.append_assoc]
        exact List.Perm.refl _
      exact (a1.trans a2).trans List.perm_append_comm
theorem pick_ok {n N : Nat} {d : D} (h : BOk N d) {k : Bool} {xs : List D} {z : Nat} (hN : N + z < 2^58) (hx : xs.length < 500) (hz : z < 500) : ∃ ys d', fns tbl (n + 2) "_law_pick" [.ow .bor d, lsl k xs, .im (.int z)] = some (.fr (.list ys), [.ow .bor d', lsl k xs, .im (.int z)]) ∧ BOk (N + z) d' ∧ (∃ rest, (rest ++ ys).Perm xs) ∧ ys.length = min z xs.length := by
  obtain ⟨d', rest, so, e, hd, hp, hl⟩ := pick_loop (n := n) (k := k) (xs := xs) (z := z) (pre := pickE d (lsl k xs) z xs []) (fun d rest so e1 => by cases k <;> (match e1 with
    | [] => rfl
    | [_] => rfl
    | [_, _] => rfl
    | [_, _, _] => rfl
    | [_, _, _, _] => rfl
    | [_, _, _, _, _] => rfl
    | _ :: _ :: _ :: _ :: _ :: _ :: _ => rfl)) (min z xs.length) 0 N d xs [] h (by omega) (by omega) (by omega) (by simp only [List.length_nil]; omega)
  refine ⟨so, d', ?_, hd.mono (by omega), ⟨rest, by simpa using hp⟩, by simpa using hl⟩
  rw [f_pick]
  have ei : (if xs.length < z then (xs.length : Int) else (z : Int)) = ((min z xs.length : Nat) : Int) := by
    split <;> omega
  have i62 : in62 ((min z xs.length : Nat) : Int) = true := in62_of (by omega) (by omega)
  have key : execs (fns tbl (n + 1)) d_l_pick.body ([.ow .bor d, lsl k xs, .im (.int z)] ++ List.replicate (d_l_pick.ns - d_l_pick.np) .un) = some (.rt (.fr (.list so)) [.ow .bor d', lsl k xs, .im (.int z), .ow .own (.list rest), .un, .un]) := by
    refine execs_nx (env1 := pickE d (lsl k xs) z xs []) ?_ (execs_nx (env1 := pickE d' (lsl k xs) z rest so) (exec_for (ls := []) (ds := rangeL 0 (min z xs.length)) (env1 := pickE d (lsl k xs) z xs []) ?_ e) ?_)
    · cases k <;> simp [lsl, d_l_pick, pickE, lim]
    · simp [pickE, ei, i62]
    · simp [pickE]
  have := run_rtf (d := d_l_pick) rfl key
  rw [this]
  cases k <;> rfl
end DI.Law

set_option maxRecDepth 100000
namespace DI
open PySem PySem.Spec
theorem eqv_str (a b : Str) : PyData.eqv (.str a) (.str b) = (a == b) := by simp [PyData.eqv]
theorem eqv_int (a b : Int) : PyData.eqv (.int a) (.int b) = (a == b) := by simp [PyData.eqv]
theorem dlt_str (a b : Str) : PySem.W.dataLt (.str a) (.str b) = strLt a b := PySem.W.dataLt_str a b
theorem dlt_irr (d : D) : PySem.W.dataLt d d = false := by
  cases h : PySem.W.dataLt d d with
  | false => rfl
  | true => exact absurd h (by rw [dlt_as _ _ h]; simp)
theorem dlt_tup_ss {a b : Str} (h : a ≠ b) (xs ys : List D) : PySem.W.dataLt (.tuple (.str a :: xs)) (.tuple (.str b :: ys)) = strLt a b := by
  rw [PySem.W.dataLt_tuple, PySem.W.dataLt_cons (by simp [PySem.W.alike]), eqv_str, if_neg (by simpa using h), dlt_str]
theorem insBy_map {α : Type} {f : α → D} {lt : α → α → Bool} (x : α) : ∀ {l : List α}, (∀ y ∈ l, PySem.W.dataLt (f y) (f x) = lt y x) → sortBy.insBy' PySem.W.dataLt (f x) (l.map f) = (sortBy.insBy' lt x l).map f
  | [], _ => rfl
  | y :: r, h => by
    have ih := insBy_map (f := f) (lt := lt) x (l := r) fun z hz => h z (List.mem_cons_of_mem _ hz)
    rw [List.map_cons]
    unfold sortBy.insBy'
    rw [h y List.mem_cons_self]
    split
    · rw [ih, List.map_cons]
    · rfl
theorem sortBy_map {α : Type} {f : α → D} {lt : α → α → Bool} : ∀ {l : List α}, (∀ x ∈ l, ∀ y ∈ l, PySem.W.dataLt (f x) (f y) = lt x y) → sortBy PySem.W.dataLt (l.map f) = (sortBy lt l).map f
  | [], _ => rfl
  | x :: r, h => by
    rw [List.map_cons]
    unfold sortBy
    rw [sortBy_map fun a ha b hb => h a (List.mem_cons_of_mem _ ha) b (List.mem_cons_of_mem _ hb)]
    exact insBy_map x fun y hy => h y (List.mem_cons_of_mem _ ((sortBy_perm r).mem_iff.mp hy)) x List.mem_cons_self
/-- sorted of what f makes of l -/
theorem sortedD_map {α : Type} {f : α → D} (lt : α → α → Bool) {l : List α} (h : ∀ x ∈ l, ∀ y ∈ l, PySem.W.dataLt (f x) (f y) = lt x y) (ha : ∀ x ∈ l, ∀ y ∈ l, PySem.W.alike (f x) (f y) = true)
    (hk : (∀ x ∈ l, tupNe (f x) = true) ∨ ∀ x ∈ l, notTup (f x) = true) (hc : ∀ x ∈ l, (f x).canLay0 = true ∧ (f x).depth ≤ 50) : sortedD (l.map f) = some ((sortBy lt l).map f) := by
  have ok : sortOkD (l.map f) = true := by
    unfold sortOkD
    rw [Bool.and_eq_true, Bool.and_eq_true]
    refine ⟨⟨?_, ?_⟩, ?_⟩
    · simp only [List.all_map, List.all_eq_true, Function.comp]
      exact ha
    · rw [Bool.or_eq_true]
      simp only [List.all_map, List.all_eq_true, Function.comp]
      exact hk
    · simp only [List.all_map, List.all_eq_true, Function.comp, Bool.and_eq_true, decide_eq_true_iff]
      exact hc
  unfold sortedD
  rw [if_pos ok, sortBy_map h]
abbrev okS (s : Str) : Prop := SeqAt.shaped (.str s) = true
theorem okS_lay {s : Str} (h : okS s) : (PyData.str s).canLay0 = true := SeqAt.canLay_of_shaped h
theorem sortedD_strs {ss : List Str} (h : ∀ s ∈ ss, okS s) : sortedD (ss.map .str) = some ((sortBy strLt ss).map .str) :=
  sortedD_map strLt (fun x _ y _ => dlt_str x y) (fun _ _ _ _ => by simp [PySem.W.alike]) (.inr fun _ _ => rfl) fun x hx => ⟨okS_lay (h x hx), by simp [PyData.depth]⟩
theorem cut_to {xs : List D} {k : Nat} : cutL xs none (some (k : Int)) = xs.take k := by
  unfold cutL
  rw [HT.sIx_none, HT.sIx_nat, List.drop_zero, Nat.sub_zero]
  rcases Nat.le_total k xs.length with h | h
  · rw [Nat.min_eq_left h]
  · rw [Nat.min_eq_right h, List.take_length, List.take_of_length_le h]
theorem cut_from {xs : List D} {k : Nat} : cutL xs (some (k : Int)) none = xs.drop k := by
  unfold cutL
  rw [HT.sIx_none, HT.sIx_nat]
  rcases Nat.le_total k xs.length with h | h
  · rw [Nat.min_eq_left h]
    exact List.take_of_length_le (by rw [List.length_drop]; omega)
  · rw [Nat.min_eq_right h]
    simp [List.drop_eq_nil_of_le h]
theorem strLt_irr (a : Str) : strLt a a = false := by
  cases h : strLt a a with
  | false => rfl
  | true => exact absurd h (by rw [strLt_as _ _ h]; simp)
theorem strLt_ne {a b : Str} (h : strLt a b = true) : a ≠ b := fun e => by
  rw [e, strLt_irr] at h
  cases h
theorem sorted_strict {ss : List Str} (nd : ss.Nodup) : (sortBy strLt ss).Pairwise fun a b => strLt a b = true := by
  have h1 := sortBy_sorted (lt := strLt) strLt_tr strLt_as ss
  have h2 : (sortBy strLt ss).Nodup := (sortBy_perm (lt := strLt) ss).nodup_iff.mpr nd
  refine List.Pairwise.imp₂ (fun a b h1 h2 => ?_) h1 h2
  cases e : strLt a b with
  | true => rfl
  | false => exact absurd (strLt_an a b e h1) h2
/-- what is picked from texts is texts, each another one -/
theorem picked {ts : List Str} {rest ys : List D} (h : (rest ++ ys).Perm (ts.map .str)) (nd : ts.Nodup) : ∃ ss : List Str, ys = ss.map .str ∧ ss.Nodup ∧ ∀ s ∈ ss, s ∈ ts := by
  have hm : ∀ y ∈ ys, ∃ s ∈ ts, y = PyData.str s := fun y hy => by
    have := (h.mem_iff (a := y)).mp (List.mem_append_right _ hy)
    obtain ⟨s, h1, h2⟩ := List.mem_map.mp this
    exact ⟨s, h1, h2.symm⟩
  have go : ∀ ys : List D, (∀ y ∈ ys, ∃ s ∈ ts, y = PyData.str s) → ∃ ss : List Str, ys = ss.map .str ∧ ∀ s ∈ ss, s ∈ ts := fun ys => by
    induction ys with
    | nil => exact fun _ => ⟨[], rfl, fun _ h => by cases h⟩
    | cons y ys ih =>
      intro h
      obtain ⟨s, h1, rfl⟩ := h y List.mem_cons_self
      obtain ⟨ss, rfl, h2⟩ := ih fun z hz => h z (List.mem_cons_of_mem _ hz)
      exact ⟨s :: ss, rfl, fun t ht => by
        rcases List.mem_cons.mp ht with rfl | ht
        · exact h1
        · exact h2 t ht⟩
  obtain ⟨ss, rfl, h2⟩ := go ys hm
  refine ⟨ss, rfl, ?_, h2⟩
  have nd2 : (ts.map PyData.str).Nodup := by
    unfold List.Nodup
    rw [List.pairwise_map]
    exact nd.imp fun h z => h (PyData.str.inj z)
  have nd3 := (List.nodup_append.mp (h.nodup_iff.mpr nd2)).2.1
  unfold List.Nodup at nd3
  rw [List.pairwise_map] at nd3
  exact nd3.imp fun h z => h (by rw [z])
end DI
namespace DI.Law
open PySem PySem.Spec
def spotT : List Str := ["a", "b2", "c.x", "k", "m", "n", "q", "s", "t", "z"]
def tagT : List Str := ["a", "c", "d2", "e", "f.f", "k", "l", "n", "p", "r1", "s", "u", "w", "y"]
theorem tag_ok : ∀ t ∈ tagT, okS t := by unfold okS; decide +kernel
theorem spot_ok : ∀ t ∈ spotT, okS t := by unfold okS; decide +kernel
abbrev W3 := Str × Str × Str
def row3 (r : W3) : D := .tuple [.str r.1, .str r.2.1, .str r.2.2]
abbrev ok3 (r : W3) : Prop := okS r.1 ∧ okS r.2.1 ∧ okS r.2.2
/-- a wiring: its rows' tags rise; the names are fair; so many nodes at most -/
structure WOk (m nn : Nat) (rs : List W3) : Prop where
  ne : rs ≠ []
  le : rs.length ≤ m
  up : (rs.map (·.1)).Pairwise fun a b => strLt a b = true
  tag : ∀ r ∈ rs, r.1 ∈ tagT
  ok : ∀ r ∈ rs, okS r.1 ∧ okS r.2.1 ∧ okS r.2.2
  few : ∃ ps : List Str, ps.length ≤ nn ∧ ∀ r ∈ rs, r.2.1 ∈ ps ∧ r.2.2 ∈ ps
theorem lim_le {n : Nat} (h : n ≤ 1000) : n ≤ lim := by unfold lim; omega
theorem lim_lt {n : Nat} (h : n ≤ 1000) : n < lim := by unfold lim; omega
theorem web_okS {n N : Nat} {d : D} (h : BOk N d) (hN : N < 2^56) {m sp : Nat} (hm : 0 < m) (hm2 : m ≤ 14) (hs : 0 < sp) (hs2 : sp ≤ 10) :
    ∃ x out, fns tbl (n + 3) "_law_web" [.ow .bor d, .im (.int m), .im (.int sp)] = some (.im x, out) ∧ ∃ rs d', x = .tuple (rs.map row3) ∧ out = [.ow .bor d', .im (.int m), .im (.int sp)] ∧ BOk (N + 100) d' ∧ WOk m sp rs ∧ ∀ r ∈ rs, r.2.1 ∈ spotT ∧ r.2.2 ∈ spotT := by
  rw [f_web]
  refine run_imO rfl fun Q q => ?_
  simp only [d_l_web, List.replicate, List.cons_append, List.nil_append]
  obtain ⟨r1, d1, e1, r10, r11, h1⟩ := take_ok (n := n + 1) h (by omega) (m := sp) (by omega) (by omega)
  obtain ⟨ys, d2, e2, h2, ⟨rest, hp⟩, hl2⟩ := pick_ok (n := n) h1 (k := true) (xs := spotT.map .str) (z := (1 + r1).toNat) (by omega) (by decide) (by omega)
  obtain ⟨ps, rfl, nd, hps⟩ := picked hp (by decide)
  rw [List.length_map, List.length_map] at hl2
  have ls : spotT.length = 10 := rfl
  obtain ⟨zs, d3, e3, h3, ⟨rest2, hp2⟩, hl3⟩ := pick_ok (n := n) h2 (k := true) (xs := tagT.map .str) (z := m) (by omega) (by decide) (by omega)
  obtain ⟨ss, rfl, nds, hss⟩ := picked hp2 (by decide)
  rw [List.length_map, List.length_map] at hl3
  have lt : tagT.length = 14 := rfl
  obtain ⟨r4, d4, e4, r40, r41, h4⟩ := take_ok (n := n + 1) h3 (by omega) (m := m) (by omega) (by omega)
  have c1 : ((1 + r1).toNat : Int) = 1 + r1 := by omega
  rw [c1] at e2
  have c2 : (if 1 < 1 + r1 then 1 + r1 else 1) = 1 + r1 := by split <;> omega
  simp only [lsl, ↓reduceIte, spotT, tagT, List.map] at e2 e3
  refine bw_cons fun _ hr => ?_
  simp [e1, c2, e2, lim_le, stepO_nx]
  subst hr
  refine bw_cons fun _ hr => ?_
  have e5 := sortedD_strs (ss := ss) fun s hs => tag_ok s (hss s hs)
  simp [e3, e5, lim_le, stepO_nx]
  subst hr
  refine bw_cons fun _ hr => ?_
  simp [stepO_nx]
  subst hr
  have ml : (sortBy strLt ss).length = ss.length := (sortBy_perm (lt := strLt) ss).length_eq
  have c3 : (1 + r4 : Int) = ((1 + r4).toNat : Nat) := by omega
  refine bw_for (ls := []) (ds := ((sortBy strLt ss).take (1 + r4).toNat).map .str) (env1 := [.ow .bor d4, .im (.int m), .im (.int sp), .ow .own (.list (ps.map .str)), .ow .own (.list ((sortBy strLt ss).map .str)), .ow .own (.list []), .un, .un, .un])
    (fun rem e => ∃ (ts : List Str) (dd : D) (rs : List W3), rem = ts.map .str ∧ e = [.ow .bor dd, .im (.int m), .im (.int sp), .ow .own (.list (ps.map .str)), .ow .own (.list ((sortBy strLt ss).map .str)), .ow .own (.list (rs.map row3)), .un, .un, .un] ∧
      BOk (N + 100 - 4 * ts.length) dd ∧ rs.map (·.1) ++ ts = (sortBy strLt ss).take (1 + r4).toNat ∧ ∀ r ∈ rs, r.2.1 ∈ ps ∧ r.2.2 ∈ ps) ?_ ?_ ?_ ?_
  · simp [e4]
    have hc := cut_to (xs := (sortBy strLt ss).map PyData.str) (k := (1 + r4).toNat)
    rw [← c3] at hc
    rw [hc]
  · refine ⟨_, _, [], rfl, rfl, ?_, rfl, fun _ h => by cases h⟩
    refine h4.mono ?_
    rw [List.length_take]
    omega
  · rintro x rem e ⟨ts, dd, rs, hx, rfl, hB, hts, hrs⟩ K L
    cases ts with
    | nil => cases hx
    | cons tg ts =>
    rw [List.map_cons] at hx
    obtain ⟨rfl, rfl⟩ := List.cons.inj hx
    refine ⟨_, by simp; rfl, ?_⟩
    have hlen := congrArg List.length hts
    simp only [List.length_append, List.length_map, List.length_cons, List.length_take] at hlen
    simp only [List.length_cons] at hB
    obtain ⟨x1, d5, e5, m5, h5⟩ := of_ok (n := n) hB (by omega) (k := true) (xs := ps.map .str) (by rw [List.length_map]; omega) (by rw [List.length_map]; omega)
    obtain ⟨a, ma, rfl⟩ := List.mem_map.mp m5
    obtain ⟨x2, d6, e6, m6, h6⟩ := of_ok (n := n) h5 (by omega) (k := true) (xs := ps.map .str) (by rw [List.length_map]; omega) (by rw [List.length_map]; omega)
    obtain ⟨b, mb, rfl⟩ := List.mem_map.mp m6
    obtain ⟨r7, d7, e7, r70, r71, h7⟩ := take_ok (n := n + 1) h6 (by omega) (m := 4) (by omega) (by omega)
    obtain ⟨x8, d8, e8, m8, h8⟩ := of_ok (n := n) h7 (by omega) (k := true) (xs := ps.map .str) (by rw [List.length_map]; omega) (by rw [List.length_map]; omega)
    obtain ⟨c, mc, rfl⟩ := List.mem_map.mp m8
    simp only [lsl, ↓reduceIte] at e5 e6 e8
    have sa : okS a := spot_ok a (hps a ma)
    have sb : okS b := spot_ok b (hps b mb)
    have l1 : rs.length < lim := lim_lt (by omega)
    have fin : ∀ (b' : Str) (dd' : D), b' ∈ ps → BOk (N + 100 - 4 * ts.length) dd' → K (.nx [.ow .bor dd', .im (.int m), .im (.int sp), .ow .own (.list (ps.map .str)), .ow .own (.list ((sortBy strLt ss).map .str)), .ow .own (.list (rs.map row3 ++ [row3 (tg, a, b')])), .im (.str tg), .im (.str a), .im (.str b')]) := fun b' dd' mb' hd => by
      refine L.nx _ ⟨ts, dd', rs ++ [(tg, a, b')], rfl, by simp [forget, lockE], hd, by simpa using hts, fun r hr => ?_⟩
      rcases List.mem_append.mp hr with hr | hr
      · exact hrs r hr
      · rw [List.mem_singleton.mp hr]; exact ⟨ma, mb'⟩
    refine bw_cons fun _ hr => ?_
    simp [e5, e6, stepO_nx]
    subst hr
    rw [bw_if]
    by_cases q : a = b
    · subst q
      by_cases q2 : 0 < r7
      · simp [sa, eqv_str, e7, q2, ifO_t]
        refine bw_cons fun _ hr => ?_
        simp [e8, stepO_nx]
        subst hr
        refine bw_cons fun _ hr => ?_
        simp [l1, lim_le, stepO_nx]
        subst hr
        exact bw_nil (fin c _ mc (h8.mono (by omega)))
      · simp [sa, eqv_str, e7, q2, ifO_f]
        refine bw_cons fun _ hr => ?_
        simp [l1, lim_le, stepO_nx]
        subst hr
        exact bw_nil (fin a _ ma (h7.mono (by omega)))
    · have qb : (a == b) = false := beq_false_of_ne q
      simp [sa, sb, eqv_str, qb, ifO_f]
      refine bw_cons fun _ hr => ?_
      simp [l1, lim_le, stepO_nx]
      subst hr
      exact bw_nil (fin b _ mb (h6.mono (by omega)))
  · rintro e ⟨ts, dd, rs, hx, rfl, hB, hts, hrs⟩
    have ht : ts = [] := by
      cases ts with
      | nil => rfl
      | cons t ts => cases hx
    subst ht
    rw [List.append_nil] at hts
    refine bw_cons fun _ hr => ?_
    simp [stepO_rt]
    have hlen := congrArg List.length hts
    simp only [List.length_map, List.length_take] at hlen
    have mem : ∀ r ∈ rs, r.1 ∈ tagT := fun r hr => by
      have : r.1 ∈ rs.map (·.1) := List.mem_map.mpr ⟨r, hr, rfl⟩
      rw [hts] at this
      exact hss _ ((sortBy_perm ss).mem_iff.mp (List.mem_of_mem_take this))
    refine q _ _ ⟨rs, dd, rfl, rfl, hB.mono (by omega), ⟨?_, by omega, ?_, mem, fun r hr => ⟨tag_ok _ (mem r hr), spot_ok _ (hps _ (hrs r hr).1), spot_ok _ (hps _ (hrs r hr).2)⟩, ps, by omega, hrs⟩, fun r hr => ⟨hps _ (hrs r hr).1, hps _ (hrs r hr).2⟩⟩
    · intro z
      subst z
      simp at hlen
      omega
    · rw [hts]
      exact (sorted_strict nds).sublist (List.take_sublist _ _)
theorem web_ok {n N : Nat} {d : D} (h : BOk N d) (hN : N < 2^56) {m sp : Nat} (hm : 0 < m) (hm2 : m ≤ 14) (hs : 0 < sp) (hs2 : sp ≤ 10) :
    ∃ x out, fns tbl (n + 3) "_law_web" [.ow .bor d, .im (.int m), .im (.int sp)] = some (.im x, out) ∧ ∃ rs d', x = .tuple (rs.map row3) ∧ out = [.ow .bor d', .im (.int m), .im (.int sp)] ∧ BOk (N + 100) d' ∧ WOk m sp rs := by
  obtain ⟨x, out, e, rs, d', h1, h2, h3, h4, _⟩ := web_okS (n := n) h hN hm hm2 hs hs2
  exact ⟨x, out, e, rs, d', h1, h2, h3, h4⟩
end DI.Law

set_option maxRecDepth 100000
namespace DI.Law
open PySem PySem.Spec
theorem f_cells (n : Nat) : fns tbl (n + 1) "_law_cells" = d_l_cells.run (fns tbl n) := fns_at (by kernel_rfl)
theorem f_box (n : Nat) : fns tbl (n + 1) "_law_box" = d_l_box.run (fns tbl n) := fns_at (by kernel_rfl)
theorem f_law (n : Nat) : fns tbl (n + 1) "law" = d_law.run (fns tbl n) := fns_at (by kernel_rfl)
def cellB : Sms := match d_l_cells.body with
  | .cons _ (.cons (.for _ _ b) _) => b
  | _ => .nil
abbrev ceE (x : D) (cs : List Int) : Env := [.im x, .im (.int 3), .ow .own (.list (cs.map .int)), .un, .un, .un]
theorem cell_turn {n : Nat} {x : D} {cs : List Int} (h3 : cs.length = 3) (i : Nat) (hi : i < 1000) (c : Int) : ∃ cs' e1, forTurn (fns tbl n) (.t [3, 4]) cellB (.tuple [.int i, .int c]) (ceE x cs) = some (.nx e1) ∧ forget (ceE x cs) e1 = ceE x cs' ∧ cs'.length = 3 := by
  have sm : small64 ((i : Int) + 2) = true := small_of (by omega) (by omega)
  have m0 : 0 ≤ (i : Int) % 3 := Int.emod_nonneg _ (by omega)
  have m1 : (i : Int) % 3 < 3 := Int.emod_lt_of_pos _ (by omega)
  have lt : ((i : Int) % 3).toNat < cs.length := by omega
  have a1 : L2.atI (cs.map PyData.int) ((i : Int) % 3) = some (.int cs[((i : Int) % 3).toNat]) := by
    obtain ⟨x, g1, _, _, g4⟩ := atI_lt (xs := cs.map PyData.int) m0 (by rw [List.length_map, h3]; exact m1)
    rw [g1]
    rw [List.getElem?_map, List.getElem?_eq_getElem lt] at g4
    exact g4.symm
  have a2 : L2.ixN cs.length ((i : Int) % 3) = some ((i : Int) % 3).toNat := by
    unfold L2.ixN
    rw [if_pos m0, if_pos (by rw [h3]; exact m1)]
  refine ⟨cs.set ((i : Int) % 3).toNat (cs[((i : Int) % 3).toNat] + c * (i + 2)), [.im x, .im (.int 3), .ow .own (.list ((cs.set ((i : Int) % 3).toNat (cs[((i : Int) % 3).toNat] + c * (i + 2))).map .int)), .im (.int i), .im (.int c), .im (.int (i % 3))], ?_, rfl, by rw [List.length_set]; exact h3⟩
  simp [forTurn, cellB, d_l_cells, ceE, a1, a2, sm, List.map_set]
theorem cell_loop {n : Nat} {x : D} : ∀ (zs : List Int) (i : Nat) (cs : List Int) (pre : Env), cs.length = 3 → i + zs.length < 1000 → (∀ cs e, forget (ceE x cs) e = forget pre e) → ∃ cs', forS (forTurn (fns tbl n) (.t [3, 4]) cellB) pre (enumFrom i (zs.map .int)) (ceE x cs) = some (.nx (ceE x cs')) ∧ cs'.length = 3
  | [], i, cs, pre, h3, hi, hp => ⟨cs, rfl, h3⟩
  | z :: zs, i, cs, pre, h3, hi, hp => by
    simp only [List.length_cons] at hi
    obtain ⟨cs1, e1, a1, a2, a3⟩ := cell_turn (n := n) (x := x) h3 i (by omega) z
    obtain ⟨cs2, a4, a5⟩ := cell_loop zs (i + 1) cs1 pre a3 (by omega) hp
    refine ⟨cs2, ?_, a5⟩
    show forS _ pre (.tuple [.int i, .int z] :: enumFrom (i + 1) (zs.map .int)) (ceE x cs) = _
    refine forS_nx a1 ?_
    rw [← hp cs e1, a2]
    exact a4
theorem cells_ok {n : Nat} {ns : List Int} (hl : ns.length ≤ 63) : ∃ cs : List Int, fns tbl (n + 1) "_law_cells" [.im (.list (ns.map .int)), .im (.int 3)] = some (.fr (.list (cs.map .int)), [.im (.list (ns.map .int)), .im (.int 3)]) ∧ cs.length ≤ 3 := by
  have c1 : cutL (ns.map PyData.int) none (some 3) = (ns.map PyData.int).take 3 := cut_to (k := 3)
  obtain ⟨zs, hz, hzl⟩ : ∃ zs : List Int, cutL (ns.map PyData.int) (some 3) (some 63) = zs.map .int ∧ zs.length ≤ 63 ∧ (3 < ns.length ∨ zs = []) := by
    refine ⟨(ns.drop (HT.sIx ns.length 0 (some 3))).take (HT.sIx ns.length ns.length (some 63) - HT.sIx ns.length 0 (some 3)), ?_, ?_, ?_⟩
    · unfold cutL
      rw [List.length_map, List.map_take, List.map_drop]
    · rw [List.length_take, List.length_drop]
      omega
    · by_cases q : 3 < ns.length
      · exact .inl q
      · refine .inr ?_
        have s3 : HT.sIx ns.length 0 (some 3) = ns.length := by
          have := HT.sIx_nat ns.length 0 3
          rw [show ((3 : Nat) : Int) = 3 from rfl] at this
          rw [this]
          omega
        rw [s3, List.drop_length, List.take_nil]
  have hI : ∀ cs : List Int, evI (fns tbl n) (.e (.sl (.v 0) (.v 1) (.c (.int 63)))) (ceE (.list (ns.map .int)) cs) = some ([], enumFrom 0 (zs.map .int), ceE (.list (ns.map .int)) cs) := fun cs => by
    simp [ceE, hz]
  have fin : ∀ cs : List Int, cs.length ≤ 3 → (cs.length = 3 ∨ zs = []) → exec (fns tbl n) (.set 2 (.orX (.bi .list (.cons (.sl (.v 0) .nil (.v 1)) .nil)) (.lst (.cons (.c (.int 0)) .nil)))) [.im (.list (ns.map .int)), .im (.int 3), .un, .un, .un, .un] = some (.nx (ceE (.list (ns.map .int)) cs)) →
      ∃ cs : List Int, d_l_cells.run (fns tbl n) [.im (.list (ns.map .int)), .im (.int 3)] = some (.fr (.list (cs.map .int)), [.im (.list (ns.map .int)), .im (.int 3)]) ∧ cs.length ≤ 3 := fun cs h1 h2 s1 => by
    obtain ⟨cs', e, h3⟩ : ∃ cs' : List Int, forS (forTurn (fns tbl n) (.t [3, 4]) cellB) (ceE (.list (ns.map .int)) cs) (enumFrom 0 (zs.map .int)) (ceE (.list (ns.map .int)) cs) = some (.nx (ceE (.list (ns.map .int)) cs')) ∧ cs'.length ≤ 3 := by
      rcases h2 with h2 | rfl
      · obtain ⟨cs', e, h⟩ := cell_loop (n := n) (x := .list (ns.map .int)) zs 0 cs (ceE (.list (ns.map .int)) cs) h2 (by omega) (fun cs' e => by
          match e with
          | [] => rfl
          | [_] => rfl
          | [_, _] => rfl
          | [_, _, _] => rfl
          | [_, _, _, _] => rfl
          | [_, _, _, _, _] => rfl
          | _ :: _ :: _ :: _ :: _ :: _ :: _ => rfl)
        exact ⟨cs', e, by omega⟩
      · exact ⟨cs, rfl, h1⟩
    have key : execs (fns tbl n) d_l_cells.body ([.im (.list (ns.map .int)), .im (.int 3)] ++ List.replicate (d_l_cells.ns - d_l_cells.np) .un) = some (.rt (.fr (.list (cs'.map .int))) [.im (.list (ns.map .int)), .im (.int 3), .un, .un, .un, .un]) :=
      execs_nx s1 (execs_nx (exec_for (hI cs) e) (execs_rt (by simp [unlockE, ceE])))
    have := run_rtf (d := d_l_cells) rfl key
    exact ⟨cs', by rw [this]; rfl, h3⟩
  rw [f_cells]
  cases ns with
  | nil =>
    have c1' : cutL ([] : List D) none (some 3) = [] := c1
    exact fin [0] (by simp) (.inr (hzl.2.resolve_left (by simp))) (by simp [ceE, c1', lim])
  | cons a ns =>
    refine fin ((a :: ns).take 3) (by rw [List.length_take]; omega) ?_ ?_
    · rcases hzl.2 with q | q
      · exact .inl (by rw [List.length_take]; omega)
      · exact .inr q
    · rw [List.map_cons] at c1 ⊢
      simp [ceE, c1, List.map_take]
theorem box_ok {n : Nat} {cs : List Int} {k : Nat} (hk : k < cs.length) : ∃ a b, fns tbl (n + 1) "_law_box" [.ow .bor (.list (cs.map .int)), .im (.int k)] = some (.fr (bx a b 0), [.ow .bor (.list (cs.map .int)), .im (.int k)]) := by
  have a1 : L2.atI (cs.map PyData.int) (k : Int) = some (.int cs[k]) := L2.atI_nat (by rw [List.getElem?_map, List.getElem?_eq_getElem hk]; rfl)
  have s1 : small64 39373 = true := by decide
  have s2 : small64 1 = true := by decide
  have s3 : small64 0 = true := by decide
  rw [f_box]
  by_cases q : (1000000000000000000 : Int) ≤ (if cs[k] < 0 then -cs[k] else cs[k])
  · refine ⟨(if cs[k] < 0 then -cs[k] else cs[k]) * 1, cs[k] % 2305843009213693951 + 39373 * k + 331, ?_⟩
    simp [Dfn.run, d_l_box, a1, hk, s1, s2, s3, q, lim]
  · refine ⟨(if cs[k] < 0 then -cs[k] else cs[k]) * 0, cs[k] % 2305843009213693951 + 39373 * k + 331, ?_⟩
    simp [Dfn.run, d_l_box, a1, hk, s1, s2, s3, q, lim]
theorem rangeL_len : ∀ (n : Nat) (lo : Int), (rangeL lo n).length = n
  | 0, _ => rfl
  | n + 1, lo => by simp [rangeL, rangeL_len n]
theorem range_mem : ∀ (n : Nat) (lo : Int) (d : D), d ∈ rangeL lo n → ∃ i : Nat, i < n ∧ d = .int (lo + i)
  | 0, _, _, h => by cases h
  | n + 1, lo, d, h => by
    rcases List.mem_cons.mp h with rfl | h
    · exact ⟨0, by omega, by simp⟩
    · obtain ⟨i, h1, rfl⟩ := range_mem n _ _ h
      exact ⟨i + 1, by omega, by congr 1; omega⟩
theorem blsD_map {α : Type} (p : α → Bool) : ∀ l : List α, blsD (l.map fun x => .bool (p x)) = some (l.map p)
  | [] => rfl
  | x :: l => by simp [blsD, blsD_map p l]
theorem law_true_of {n : Nat} (right : ∀ d, BOk 0 d → ∃ d', fns tbl (n + 1) "_law_right" [.ow .bor d] = some (.im (.bool true), [.ow .bor d'])) (ns : List Int) (hl : ns.length ≤ 63) : ∃ fin, DI.fns tbl (n + 1 + 1) "law" [.im (.list (ns.map .int))] = some (.im (.bool true), fin) := by
  obtain ⟨cs, e1, h3⟩ := cells_ok (n := n) hl
  rw [f_law]
  have := run_imO (Φ := fns tbl (n + 1)) (d := d_law) (args := [.im (.list (ns.map .int))]) (P := fun x _ => x = .bool true) rfl fun Q q => by
    simp only [d_law, List.replicate, List.cons_append, List.nil_append]
    refine bw_cons fun _ hr => ?_
    simp [e1, stepO_nx]
    subst hr
    refine bw_cons fun _ hr => ?_
    have i2 : in62 (cs.length : Int) = true := in62_of (by omega) (by omega)
    simp [i2]
    rw [lcRun_map fun _ => some (.bool true)]
    · simp [backE, unlockE, wipeE, lockE, fm_some, blsD_map (fun _ => true), stepO_rt]
      exact q _ _ (by simp)
    · intro d hd
      obtain ⟨i, hi, rfl⟩ := range_mem _ _ _ hd
      rw [Int.zero_add]
      obtain ⟨a, b, e2⟩ := box_ok (n := n) hi
      obtain ⟨d', e3⟩ := right (bx a b 0) ⟨a, b, 0, rfl, by omega, by omega⟩
      simp [e2, e3, wipeE, lockE]
    · rfl
    · rw [rangeL_len]; exact lim_le (by omega)
  obtain ⟨x, out, e, rfl⟩ := this
  exact ⟨out, e⟩
end DI.Law

set_option maxRecDepth 100000
namespace DI
open PySem PySem.Spec
mutual
/-- data that equals itself, of any depth -/
def fairB : D → Bool
  | .list xs => decide (xs.length ≤ lim) && fairAll xs
  | .tuple xs => decide (xs.length ≤ lim) && fairAll xs
  | .dict _ => false
  | .str s => SeqAt.shaped (.str s)
  | _ => true
def fairAll : List D → Bool
  | [] => true
  | x :: xs => fairB x && fairAll xs
end
theorem fairAll_iff {xs : List D} : fairAll xs = true ↔ ∀ x ∈ xs, fairB x = true := by
  induction xs with
  | nil => simp [fairAll]
  | cons x xs ih => simp [fairAll, ih]
theorem depth_mem {xs : List D} {x : D} (h : x ∈ xs) : x.depth ≤ PyData.depthAll xs := by
  induction xs with
  | nil => cases h
  | cons y xs ih =>
    simp only [PyData.depthAll]
    rcases List.mem_cons.mp h with rfl | h
    · omega
    · have := ih h
      omega
theorem eqv_bool (a b : Bool) : PyData.eqv (.bool a) (.bool b) = (a == b) := by cases a <;> cases b <;> simp [PyData.eqv]
theorem sh_int (i : Int) : SeqAt.shaped (.int i) = true := by simp [SeqAt.shaped, PyData.canLay0, PyData.depth]
theorem sh_bool (b : Bool) : SeqAt.shaped (.bool b) = true := by simp [SeqAt.shaped, PyData.canLay0, PyData.depth]
theorem sh_none : SeqAt.shaped .none = true := by simp [SeqAt.shaped, PyData.canLay0, PyData.depth]
theorem zw_self {f : D → D} : ∀ xs : List D, List.zipWith (fun a b => PyData.tuple [a, b]) xs xs = xs.map fun a => .tuple [a, a]
  | [] => rfl
  | x :: xs => by simp [zw_self (f := f) xs]
end DI
namespace DI.Law
open PySem PySem.Spec
theorem f_same (n : Nat) : fns tbl (n + 1) "_law_same" = d_l_same.run (fns tbl n) := fns_at (by kernel_rfl)
theorem same_seq {n : Nat} (xs : List D) (hl : xs.length ≤ lim) (h : ∀ x ∈ xs, fns tbl n "_law_same" [.im x, .im x] = some (.im (.bool true), [.im x, .im x])) {s : Sl} (hs : s = .im (.list xs) ∨ s = .im (.tuple xs) ∨ s = .ow .bor (.list xs)) :
    fns tbl (n + 1) "_law_same" [s, s] = some (.im (.bool true), [s, s]) := by
  rw [f_same]
  have go : ∃ x, d_l_same.run (fns tbl n) [s, s] = some (.im x, [s, s]) ∧ x = .bool true := by
    refine run_im rfl fun Q q => ?_
    simp only [d_l_same, List.replicate, List.cons_append, List.nil_append]
    have sl : SeqAt.shaped (.int xs.length) = true := sh_int _
    rw [bw_if]
    rcases hs with rfl | rfl | rfl
    · simp [bw_if, sh_bool, eqv_bool]
      refine bw_cons fun _ hr => ?_
      simp [sl, eqv_int, zw_self (f := id)]
      rw [lcRun_of (α := D) (k := fun a => .tuple [a, a]) (fun _ => some (.bool true))]
      · simp [fm_some, blsD_map (fun _ => true), backE, unlockE, lockE, wipeE]
        exact q _ _ rfl (by simp)
      · intro t hm
        simp [h t hm, wipeE, lockE]
      · rfl
      · exact hl
    · simp [bw_if, sh_bool, eqv_bool]
      refine bw_cons fun _ hr => ?_
      simp [sl, eqv_int, zw_self (f := id)]
      rw [lcRun_of (α := D) (k := fun a => .tuple [a, a]) (fun _ => some (.bool true))]
      · simp [fm_some, blsD_map (fun _ => true), backE, unlockE, lockE, wipeE]
        exact q _ _ rfl (by simp)
      · intro t hm
        simp [h t hm, wipeE, lockE]
      · rfl
      · exact hl
    · simp [bw_if, sh_bool, eqv_bool]
      refine bw_cons fun _ hr => ?_
      simp [sl, eqv_int, zw_self (f := id)]
      rw [lcRun_of (α := D) (k := fun a => .tuple [a, a]) (fun _ => some (.bool true))]
      · simp [fm_some, blsD_map (fun _ => true), backE, unlockE, lockE, wipeE]
        exact q _ _ rfl (by simp)
      · intro t hm
        simp [h t hm, wipeE, lockE]
      · rfl
      · exact hl
  obtain ⟨x, e, rfl⟩ := go
  exact e
theorem same_ok {n : Nat} : ∀ (k : Nat) (d : D), d.depth ≤ k → fairB d = true → fns tbl (n + k + 1) "_law_same" [.im d, .im d] = some (.im (.bool true), [.im d, .im d]) := by
  intro k
  induction k with
  | zero =>
    intro d hd hf
    cases d with
    | list xs => simp [PyData.depth] at hd
    | tuple xs => simp [PyData.depth] at hd
    | dict xs => simp [fairB] at hf
    | str s =>
      have hf' : SeqAt.shaped (.str s) = true := by simpa [fairB] using hf
      rw [f_same]
      simp [Dfn.run, d_l_same, sh_bool, sh_none, hf', eqv_bool, eqv_str]
    | none => rw [f_same]; simp [Dfn.run, d_l_same, sh_bool, sh_none, eqv_bool, PyData.eqv]
    | bool b => rw [f_same]; simp [Dfn.run, d_l_same, sh_bool, sh_none, eqv_bool]
    | int i => rw [f_same]; simp [Dfn.run, d_l_same, sh_bool, sh_int, eqv_bool, eqv_int]
  | succ k ih =>
    intro d hd hf
    cases d with
    | list xs =>
      simp only [fairB, Bool.and_eq_true, decide_eq_true_iff] at hf
      exact same_seq xs hf.1 (fun x hx => ih x (by have := depth_mem hx; simp only [PyData.depth] at hd; omega) (fairAll_iff.mp hf.2 x hx)) (.inl rfl)
    | tuple xs =>
      simp only [fairB, Bool.and_eq_true, decide_eq_true_iff] at hf
      exact same_seq xs hf.1 (fun x hx => ih x (by have := depth_mem hx; simp only [PyData.depth] at hd; omega) (fairAll_iff.mp hf.2 x hx)) (.inr (.inl rfl))
    | dict xs => simp [fairB] at hf
    | str s =>
      have hf' : SeqAt.shaped (.str s) = true := by simpa [fairB] using hf
      rw [f_same]
      simp [Dfn.run, d_l_same, sh_bool, sh_none, hf', eqv_bool, eqv_str]
    | none => rw [f_same]; simp [Dfn.run, d_l_same, sh_bool, sh_none, eqv_bool, PyData.eqv]
    | bool b => rw [f_same]; simp [Dfn.run, d_l_same, sh_bool, sh_none, eqv_bool]
    | int i => rw [f_same]; simp [Dfn.run, d_l_same, sh_bool, sh_int, eqv_bool, eqv_int]
/-- two lists handed over that are equal -/
theorem same_bor {n k : Nat} {xs : List D} (hd : (PyData.list xs).depth ≤ k) (hf : fairB (.list xs) = true) : fns tbl (n + k + 1) "_law_same" [.ow .bor (.list xs), .ow .bor (.list xs)] = some (.im (.bool true), [.ow .bor (.list xs), .ow .bor (.list xs)]) := by
  cases k with
  | zero => simp [PyData.depth] at hd
  | succ k =>
    simp only [fairB, Bool.and_eq_true, decide_eq_true_iff] at hf
    exact same_seq xs hf.1 (fun x hx => same_ok k x (by have := depth_mem hx; simp only [PyData.depth] at hd; omega) (fairAll_iff.mp hf.2 x hx)) (.inr (.inr rfl))
/-! the same with lists -/
def rowL (r : W3) : D := .list [.str r.1, .str r.2.1, .str r.2.2]
/-- a wiring handed over: as tuples, or lent as lists -/
def WA (s : Sl) (rs : List W3) : Prop := s = .im (.tuple (rs.map row3)) ∨ s = .ow .bor (.list (rs.map rowL)) ∨ s = .ow .lck (.list (rs.map rowL)) ∨ s = .im (.list (rs.map rowL))
abbrev OkW (rs : List W3) : Prop := ∀ r ∈ rs, ok3 r
end DI.Law

set_option maxRecDepth 100000
namespace DI.Law
open PySem PySem.Spec
theorem f_lists (n : Nat) : fns tbl (n + 1) "_law_lists" = d_l_lists.run (fns tbl n) := fns_at (by kernel_rfl)
theorem lists_str {n : Nat} (s : Str) : fns tbl (n + 1) "_law_lists" [.im (.str s)] = some (.im (.str s), [.im (.str s)]) := by
  rw [f_lists]
  simp [Dfn.run, d_l_lists]
theorem lists_row {n : Nat} (r : W3) : fns tbl (n + 2) "_law_lists" [.im (row3 r)] = some (.fr (rowL r), [.im (row3 r)]) := by
  rw [f_lists]
  simp [Dfn.run, d_l_lists, row3, lcRun, goL, lists_str, wipeE, lockE, freeE, backE, unlockE, lim_le, rowL]
theorem lists_web {n : Nat} {rs : List W3} (hl : rs.length ≤ lim) : fns tbl (n + 3) "_law_lists" [.im (.tuple (rs.map row3))] = some (.fr (.list (rs.map rowL)), [.im (.tuple (rs.map row3))]) := by
  rw [f_lists]
  have go : ∃ x, d_l_lists.run (fns tbl (n + 2)) [.im (.tuple (rs.map row3))] = some (.fr x, [.im (.tuple (rs.map row3))]) ∧ x = .list (rs.map rowL) := by
    refine run_fr rfl fun Q q => ?_
    simp only [d_l_lists, List.replicate, List.cons_append, List.nil_append]
    refine bw_cons fun _ hr => ?_
    simp
    rw [lcRun_of (α := W3) (k := row3) (fun r => some (rowL r))]
    · simp [fm_some, backE, unlockE, lockE, wipeE]
      exact q _ _ rfl rfl
    · intro r hm
      have := lists_row (n := n) r
      simp [this, wipeE, lockE, rowL]
    · rfl
    · exact hl
  obtain ⟨x, e, rfl⟩ := go
  exact e
end DI.Law

set_option maxRecDepth 100000
namespace DI.Law
open PySem PySem.Spec
/-! rows sorted by their tags -/
def ltR (a b : W3) : Bool := strLt a.1 b.1
theorem row_dlt {a b : W3} (h : a.1 ≠ b.1 ∨ a = b) : PySem.W.dataLt (row3 a) (row3 b) = ltR a b := by
  rcases h with h | rfl
  · exact dlt_tup_ss h _ _
  · rw [dlt_irr]; exact (strLt_irr _).symm
theorem row_alike (a b : W3) : PySem.W.alike (row3 a) (row3 b) = true := by simp [row3, PySem.W.alike, PySem.W.alikeAll]
theorem row_lay {r : W3} (h : ok3 r) : (row3 r).canLay0 = true ∧ (row3 r).depth ≤ 50 := by
  have h1 := okS_lay h.1
  have h2 := okS_lay h.2.1
  have h3 := okS_lay h.2.2
  constructor
  · simp only [row3, PyData.canLay0, PyData.canLayAll0] at h1 h2 h3 ⊢
    simp [h1, h2, h3]
  · simp [row3, PyData.depth, PyData.depthAll]
theorem nd_tags {l : List W3} (nd : (l.map (·.1)).Nodup) {a b : W3} (ha : a ∈ l) (hb : b ∈ l) : a.1 ≠ b.1 ∨ a = b := by
  induction l with
  | nil => cases ha
  | cons c l ih =>
    rw [List.map_cons, List.nodup_cons] at nd
    rcases List.mem_cons.mp ha with rfl | ha'
    · rcases List.mem_cons.mp hb with rfl | hb'
      · exact .inr rfl
      · exact .inl fun e => nd.1 (by rw [e]; exact List.mem_map.mpr ⟨b, hb', rfl⟩)
    · rcases List.mem_cons.mp hb with rfl | hb'
      · exact .inl fun e => nd.1 (by rw [← e]; exact List.mem_map.mpr ⟨a, ha', rfl⟩)
      · exact ih nd.2 ha' hb'
theorem sorted_rows {l : List W3} (nd : (l.map (·.1)).Nodup) (hok : ∀ r ∈ l, ok3 r) : sortedD (l.map row3) = some ((sortBy ltR l).map row3) :=
  sortedD_map ltR (fun x hx y hy => row_dlt (nd_tags nd hx hy)) (fun x _ y _ => row_alike x y) (.inl fun _ _ => rfl) fun x hx => row_lay (hok x hx)
theorem rows_up {l : List W3} (nd : (l.map (·.1)).Nodup) : ((sortBy ltR l).map (·.1)).Pairwise fun a b => strLt a b = true := by
  have h1 := sortBy_sorted (lt := ltR) (fun a b c => strLt_tr a.1 b.1 c.1) (fun a b => strLt_as a.1 b.1) l
  have h2 : ((sortBy ltR l).map (·.1)).Nodup := ((sortBy_perm (lt := ltR) l).map _).nodup_iff.mpr nd
  have h3 : ((sortBy ltR l).map (·.1)).Pairwise fun a b => strLt b a = false := List.pairwise_map.mpr h1
  refine List.Pairwise.imp₂ (fun a b h1 h2 => ?_) h3 h2
  cases e : strLt a b with
  | true => rfl
  | false => exact absurd (strLt_an a b e h1) h2
theorem List.map_fst_zip_take {α β : Type} : ∀ (a : List α) (b : List β), (a.zip b).map (·.1) = a.take b.length
  | [], b => by simp
  | _ :: _, [] => by simp
  | x :: a, y :: b => by simp [List.map_fst_zip_take a b]
end DI.Law

set_option maxRecDepth 100000
namespace DI
open PySem PySem.Spec
mutual
theorem fair_lay : ∀ {d : D}, fairB d = true → d.canLay0 = true
  | .none, _ => by simp [PyData.canLay0]
  | .bool _, _ => by simp [PyData.canLay0]
  | .int _, _ => by simp [PyData.canLay0]
  | .str s, h => SeqAt.canLay_of_shaped (by simpa [fairB] using h)
  | .list xs, h => by
    simp only [fairB, Bool.and_eq_true] at h
    simp only [PyData.canLay0]
    exact fair_lays h.2
  | .tuple xs, h => by
    simp only [fairB, Bool.and_eq_true] at h
    simp only [PyData.canLay0]
    exact fair_lays h.2
  | .dict _, h => by simp [fairB] at h
theorem fair_lays : ∀ {xs : List D}, fairAll xs = true → PyData.canLayAll0 xs = true
  | [], _ => by simp [PyData.canLayAll0]
  | x :: xs, h => by
    simp only [fairAll, Bool.and_eq_true] at h
    simp only [PyData.canLayAll0, Bool.and_eq_true]
    exact ⟨fair_lay h.1, fair_lays h.2⟩
end
theorem fair_sh {d : D} (h : fairB d = true) (hd : d.depth ≤ 64) : SeqAt.shaped d = true := by
  unfold SeqAt.shaped
  rw [fair_lay h, decide_eq_true hd]
  rfl
theorem fair_eqv {d : D} (h : fairB d = true) : PyData.eqv d d = true := SeqAt.eqv_refl d (fair_lay h)
theorem fair_mem {xs : List D} (h : fairAll xs = true) {x : D} (hx : x ∈ xs) : fairB x = true := fairAll_iff.mp h x hx
theorem depthAll_iff {xs : List D} {k : Nat} : PyData.depthAll xs ≤ k ↔ ∀ x ∈ xs, x.depth ≤ k := by
  induction xs with
  | nil => simp [PyData.depthAll]
  | cons x xs ih => simp [PyData.depthAll, ih, Nat.max_le]
/-! the same with lists, the same with tuples -/
mutual
def listsV : D → D
  | .list xs => .list (listsVs xs)
  | .tuple xs => .list (listsVs xs)
  | d => d
def listsVs : List D → List D
  | [] => []
  | x :: xs => listsV x :: listsVs xs
end
mutual
def plainV : D → D
  | .list xs => .tuple (plainVs xs)
  | .tuple xs => .tuple (plainVs xs)
  | d => d
def plainVs : List D → List D
  | [] => []
  | x :: xs => plainV x :: plainVs xs
end
theorem listsVs_map : ∀ xs : List D, listsVs xs = xs.map listsV
  | [] => rfl
  | x :: xs => by simp [listsVs, listsVs_map xs]
theorem plainVs_map : ∀ xs : List D, plainVs xs = xs.map plainV
  | [] => rfl
  | x :: xs => by simp [plainVs, plainVs_map xs]
mutual
theorem fair_listsV : ∀ {d : D}, fairB d = true → fairB (listsV d) = true ∧ (listsV d).depth = d.depth
  | .none, h => ⟨h, rfl⟩
  | .bool _, h => ⟨h, rfl⟩
  | .int _, h => ⟨h, rfl⟩
  | .str s, h => ⟨h, rfl⟩
  | .list xs, h => by
    simp only [fairB, Bool.and_eq_true, decide_eq_true_iff] at h
    obtain ⟨a, b, c⟩ := fair_listsVs h.2
    simp only [listsV, fairB, Bool.and_eq_true, decide_eq_true_iff, PyData.depth]
    exact ⟨⟨by rw [c]; exact h.1, a⟩, by rw [b]⟩
  | .tuple xs, h => by
    simp only [fairB, Bool.and_eq_true, decide_eq_true_iff] at h
    obtain ⟨a, b, c⟩ := fair_listsVs h.2
    simp only [listsV, fairB, Bool.and_eq_true, decide_eq_true_iff, PyData.depth]
    exact ⟨⟨by rw [c]; exact h.1, a⟩, by rw [b]⟩
  | .dict _, h => by simp [fairB] at h
theorem fair_listsVs : ∀ {xs : List D}, fairAll xs = true → fairAll (listsVs xs) = true ∧ PyData.depthAll (listsVs xs) = PyData.depthAll xs ∧ (listsVs xs).length = xs.length
  | [], _ => ⟨rfl, rfl, rfl⟩
  | x :: xs, h => by
    simp only [fairAll, Bool.and_eq_true] at h
    obtain ⟨a, b⟩ := fair_listsV h.1
    obtain ⟨c, d, e⟩ := fair_listsVs h.2
    simp only [listsVs, fairAll, Bool.and_eq_true, PyData.depthAll, List.length_cons, b, d, e]
    exact ⟨⟨a, c⟩, trivial, trivial⟩
end
mutual
theorem plain_lists : ∀ (d : D), plainV (listsV d) = plainV d
  | .none => rfl
  | .bool _ => rfl
  | .int _ => rfl
  | .str _ => rfl
  | .dict _ => rfl
  | .list xs => by simp only [listsV, plainV, plain_listss xs]
  | .tuple xs => by simp only [listsV, plainV, plain_listss xs]
theorem plain_listss : ∀ (xs : List D), plainVs (listsVs xs) = plainVs xs
  | [] => rfl
  | x :: xs => by simp only [listsVs, plainVs, plain_lists x, plain_listss xs]
end
@[simp] theorem plainV_str (s : Str) : plainV (.str s) = .str s := rfl
@[simp] theorem listsV_str (s : Str) : listsV (.str s) = .str s := rfl
@[simp] theorem plainV_tup (xs : List D) : plainV (.tuple xs) = .tuple (xs.map plainV) := by rw [plainV, plainVs_map]
@[simp] theorem plainV_lst (xs : List D) : plainV (.list xs) = .tuple (xs.map plainV) := by rw [plainV, plainVs_map]
@[simp] theorem listsV_tup (xs : List D) : listsV (.tuple xs) = .list (xs.map listsV) := by rw [listsV, listsVs_map]
@[simp] theorem listsV_lst (xs : List D) : listsV (.list xs) = .list (xs.map listsV) := by rw [listsV, listsVs_map]
/-- a comprehension whose turns change the environment -/
theorem goL_ind {f : D → Env → Option (Option D × Env)} (I : List D → Env → Prop) (R : D → Option D → Prop) : ∀ {ds : List D} {e : Env}, I ds e → (∀ d ds e, I (d :: ds) e → ∃ o e', f d e = some (o, e') ∧ I ds e' ∧ R d o) →
    ∃ (os : List (Option D)) (e' : Env), goL f ds e = some (os.filterMap id, e') ∧ I [] e' ∧ os.length = ds.length ∧ ∀ p ∈ ds.zip os, R p.1 p.2
  | [], e, h, _ => ⟨[], e, rfl, h, rfl, fun _ h => by cases h⟩
  | d :: ds, e, h, hs => by
    obtain ⟨o, e1, h1, h2, h3⟩ := hs d ds e h
    obtain ⟨os, e2, g1, g2, g3, g4⟩ := goL_ind I R h2 hs
    refine ⟨o :: os, e2, ?_, g2, by simp [g3], fun p hp => ?_⟩
    · simp only [goL, h1, g1]
      cases o <;> simp
    · rcases List.mem_cons.mp hp with rfl | hp
      · exact h3
      · exact g4 p hp
theorem lcRun_ind {vs ls : List Nat} {ds : List D} {env1 : Env} {f : D → Env → Option (Option D × Env)} (I : List D → Env → Prop) (R : D → Option D → Prop) (h0 : I ds (wipeE (lockE env1 ls) vs)) (hs : ∀ d ds e, I (d :: ds) e → ∃ o e', f d e = some (o, e') ∧ I ds e' ∧ R d o) (hf : freeE env1 vs = true) (hl : ds.length ≤ lim) :
    ∃ (os : List (Option D)) (e' : Env), lcRun vs (some (ls, ds, env1)) f = some (.fr (.list (os.filterMap id)), unlockE env1 (backE (lockE env1 ls) e' vs) ls) ∧ I [] e' ∧ os.length = ds.length ∧ ∀ p ∈ ds.zip os, R p.1 p.2 := by
  obtain ⟨os, e', h1, h2, h3, h4⟩ := goL_ind I R h0 hs
  refine ⟨os, e', ?_, h2, h3, h4⟩
  unfold lcRun
  dsimp only
  rw [if_pos (by rw [Bool.and_eq_true, decide_eq_true_iff]; exact ⟨hf, hl⟩), h1]
/-- a comprehension's turn -/
def lcTrn (Φ : Fns) (vs : List Nat) (tg : Tg) (tt e : Xp) : D → Env → Option (Option D × Env) := fun d en => match bindT tg d en with
  | some en1 => match ev Φ tt en1 with
    | some (rt, en2) => match (rt.val en2).bind truthD with
      | some true => match ev Φ e en2 with
        | some (re, en3) => match sto re en3 with
          | some (y, en4) => some (some y, wipeE en4 vs)
          | none => none
        | none => none
      | some false => some (none, wipeE en2 vs)
      | none => none
    | none => none
  | none => none
section
variable {Φ : Fns} {env env1 env2 : Env} {x t e : Xp} {r r' : R} {d : D}
theorem ev_lc {vs : List Nat} {it : It} {tg : Tg} : ev Φ (.lc vs it tg t e) env = lcRun vs (evI Φ it env) (lcTrn Φ vs tg t e) := by
  simp only [ev]
  rfl
theorem ev_bi1 {f : B} (h : ev Φ x env = some (r, env1)) (h2 : r.val env1 = some d) (h3 : biD f [d] = some r') : ev Φ (.bi f (.cons x .nil)) env = some (r', env1) := by
  simp only [ev, evR, h, valsR, h2, h3]
theorem ev_and1 {a b : Xp} {p : R × Env} (ha : ev Φ a env = some (r, env1)) (ht : (r.val env1).bind truthD = some true) (hb : ev Φ b env1 = some p) : ev Φ (.andX a b) env = some p := by
  simp only [ev, ha, ht, hb]
theorem ev_and0 {a b : Xp} (ha : ev Φ a env = some (r, env1)) (ht : (r.val env1).bind truthD = some false) : ev Φ (.andX a b) env = some (r, env1) := by
  simp only [ev, ha, ht]
theorem exec_ret1 (h : ev Φ x env = some (r, env1)) (h2 : retR r env1 = some (r', env2)) : exec Φ (.ret x) env = some (.rt r' env2) := by
  simp only [exec, h, h2]
theorem exec_set1 {i : Nat} {s : Sl} {env3 : Env} (h : ev Φ x env = some (r, env1)) (h2 : slotOf r env1 = some (s, env2)) (h3 : setSl env2 i s = some env3) : exec Φ (.set i x) env = some (.nx env3) := by
  simp only [exec, h, h2, h3]
end
end DI
namespace DI.Law
open PySem PySem.Spec
/-- a value handed over -/
def HA (s : Sl) (d : D) : Prop := s = .im d ∨ ((s = .ow .bor d ∨ s = .ow .lck d) ∧ ∃ xs, d = .list xs)
end DI.Law

set_option maxRecDepth 100000
namespace DI.Law
open PySem PySem.Spec
/-- lists' answer -/
def lsR (d : D) : R := match d with
  | .list _ => .fr (listsV d)
  | .tuple _ => .fr (listsV d)
  | d => .im d
theorem lists_seq {n : Nat} (xs : List D) (hl : xs.length ≤ lim) (h : ∀ x ∈ xs, fns tbl n "_law_lists" [.im x] = some (lsR x, [.im x])) {s : Sl} (hs : s = .im (.list xs) ∨ s = .im (.tuple xs)) :
    fns tbl (n + 1) "_law_lists" [s] = some (.fr (.list (xs.map listsV)), [s]) := by
  rw [f_lists]
  have go : ∃ x, d_l_lists.run (fns tbl n) [s] = some (.fr x, [s]) ∧ x = .list (xs.map listsV) := by
    refine run_fr rfl fun Q q => ?_
    simp only [d_l_lists, List.replicate, List.cons_append, List.nil_append]
    refine bw_cons fun _ hr => ?_
    rcases hs with rfl | rfl
    · simp
      rw [lcRun_map (fun a => some (listsV a))]
      · simp [fm_some, backE, unlockE, lockE, wipeE]
        exact q _ _ rfl rfl
      · intro t hm
        have := h t hm
        cases t <;> simp [this, lsR, wipeE, lockE, listsV]
      · rfl
      · exact hl
    · simp
      rw [lcRun_map (fun a => some (listsV a))]
      · simp [fm_some, backE, unlockE, lockE, wipeE]
        exact q _ _ rfl rfl
      · intro t hm
        have := h t hm
        cases t <;> simp [this, lsR, wipeE, lockE, listsV]
      · rfl
      · exact hl
  obtain ⟨x, e, rfl⟩ := go
  exact e
theorem lists_ok {n : Nat} : ∀ (k : Nat) (d : D), d.depth ≤ k → fairB d = true → fns tbl (n + k + 1) "_law_lists" [.im d] = some (lsR d, [.im d]) := by
  intro k
  induction k with
  | zero =>
    intro d hd hf
    cases d with
    | list xs => simp [PyData.depth] at hd
    | tuple xs => simp [PyData.depth] at hd
    | dict xs => simp [fairB] at hf
    | _ => rw [f_lists]; simp [Dfn.run, d_l_lists, lsR]
  | succ k ih =>
    intro d hd hf
    cases d with
    | list xs =>
      simp only [fairB, Bool.and_eq_true, decide_eq_true_iff] at hf
      show fns tbl (n + k + 1 + 1) "_law_lists" _ = _
      rw [lists_seq xs hf.1 (fun x hx => ih x (by have := depth_mem hx; simp only [PyData.depth] at hd; omega) (fairAll_iff.mp hf.2 x hx)) (.inl rfl)]
      simp [lsR]
    | tuple xs =>
      simp only [fairB, Bool.and_eq_true, decide_eq_true_iff] at hf
      show fns tbl (n + k + 1 + 1) "_law_lists" _ = _
      rw [lists_seq xs hf.1 (fun x hx => ih x (by have := depth_mem hx; simp only [PyData.depth] at hd; omega) (fairAll_iff.mp hf.2 x hx)) (.inr rfl)]
      simp [lsR]
    | dict xs => simp [fairB] at hf
    | _ => rw [f_lists]; simp [Dfn.run, d_l_lists, lsR]
end DI.Law

set_option maxRecDepth 100000
namespace DI
open PySem PySem.Spec
theorem strsD_of {α : Type} (f : α → Str) : ∀ l : List α, strsD (l.map fun r => .str (f r)) = some (l.map f)
  | [] => rfl
  | x :: l => by simp [strsD, strsD_of f l]
theorem strsD_map (l : List Str) : strsD (l.map .str) = some l := by simpa using strsD_of id l
theorem strsD_app : ∀ {xs ys : List D} {a b : List Str}, strsD xs = some a → strsD ys = some b → strsD (xs ++ ys) = some (a ++ b)
  | [], ys, a, b, h1, h2 => by cases h1; exact h2
  | .str s :: xs, ys, a, b, h1, h2 => by
    simp only [strsD] at h1
    cases e : strsD xs with
    | none => rw [e] at h1; cases h1
    | some a' =>
      rw [e] at h1
      cases h1
      simp [strsD, strsD_app e h2]
  | .none :: xs, ys, a, b, h1, h2 => by cases h1
  | .bool _ :: xs, ys, a, b, h1, h2 => by cases h1
  | .int _ :: xs, ys, a, b, h1, h2 => by cases h1
  | .list _ :: xs, ys, a, b, h1, h2 => by cases h1
  | .tuple _ :: xs, ys, a, b, h1, h2 => by cases h1
  | .dict _ :: xs, ys, a, b, h1, h2 => by cases h1
theorem any_str {x : Str} : ∀ {ss : List Str}, ((ss.map PyData.str).any fun z => PyData.eqv z (.str x)) = decide (x ∈ ss)
  | [] => by simp
  | s :: ss => by
    rw [List.map_cons, List.any_cons, any_str, eqv_str]
    by_cases h : s = x
    · subst h; simp
    · have h' : x ≠ s := fun e => h e.symm
      simp [h, h']
theorem sh_strs {ss : List Str} (h : ∀ s ∈ ss, okS s) : SeqAt.shaped (.list (ss.map .str)) = true := by
  unfold SeqAt.shaped
  have a : PyData.canLayAll0 (ss.map .str) = true ∧ PyData.depthAll (ss.map .str) ≤ 1 := by
    induction ss with
    | nil => simp [PyData.canLayAll0, PyData.depthAll]
    | cons s ss ih =>
      obtain ⟨i1, i2⟩ := ih fun t ht => h t (List.mem_cons_of_mem _ ht)
      have := okS_lay (h s List.mem_cons_self)
      simp only [List.map_cons, PyData.canLayAll0, PyData.depthAll, this, i1, PyData.depth]
      exact ⟨rfl, by omega⟩
  have e : (PyData.list (ss.map .str)).depth ≤ 64 := by
    simp only [PyData.depth]
    omega
  rw [decide_eq_true e, Bool.and_true]
  simp only [PyData.canLay0]
  exact a.1
theorem inD_strs {x : Str} {ss : List Str} (hx : okS x) (h : ∀ s ∈ ss, okS s) : inD (.str x) (.list (ss.map .str)) = some (decide (x ∈ ss)) := by
  unfold inD
  dsimp only
  rw [if_pos (by rw [Bool.and_eq_true]; exact ⟨hx, sh_strs h⟩), any_str]
theorem inD_strsT {x : Str} {ss : List Str} : inD (.str x) (.tuple (ss.map .str)) = some (decide (x ∈ ss)) := by
  unfold inD
  dsimp only
  rw [if_pos (by simp [flatD]), any_str]
/-- gathered: each once -/
theorem gather_mem2 {κ : Type} [DecidableEq κ] : ∀ (ks acc : List κ) (x : κ), x ∈ ks.foldl (fun acc k => if k ∈ acc then acc else k :: acc) acc ↔ x ∈ acc ∨ x ∈ ks
  | [], acc, x => by simp
  | k :: ks, acc, x => by
    rw [List.foldl_cons, gather_mem2 ks]
    split
    · rename_i h
      constructor
      · rintro (h1 | h1)
        · exact .inl h1
        · exact .inr (List.mem_cons_of_mem _ h1)
      · rintro (h1 | h1)
        · exact .inl h1
        · rcases List.mem_cons.mp h1 with rfl | h1
          · exact .inl h
          · exact .inr h1
    · constructor
      · rintro (h1 | h1)
        · rcases List.mem_cons.mp h1 with rfl | h1
          · exact .inr List.mem_cons_self
          · exact .inl h1
        · exact .inr (List.mem_cons_of_mem _ h1)
      · rintro (h1 | h1)
        · exact .inl (List.mem_cons_of_mem _ h1)
        · rcases List.mem_cons.mp h1 with rfl | h1
          · exact .inl List.mem_cons_self
          · exact .inr h1
theorem gather_iff2 {κ : Type} [DecidableEq κ] {ks : List κ} {x : κ} : x ∈ gatherK ks ↔ x ∈ ks := by
  unfold gatherK
  rw [gather_mem2]
  simp
theorem gather_nd2 {κ : Type} [DecidableEq κ] : ∀ (ks acc : List κ), acc.Nodup → (ks.foldl (fun acc k => if k ∈ acc then acc else k :: acc) acc).Nodup
  | [], acc, h => h
  | k :: ks, acc, h => by
    rw [List.foldl_cons]
    refine gather_nd2 ks _ ?_
    split
    · exact h
    · rename_i q
      exact List.nodup_cons.mpr ⟨q, h⟩
/-- two rising rows of the same names are the same -/
theorem rise_eq {a b : List Str} (ha : a.Pairwise fun x y => strLt x y = true) (hb : b.Pairwise fun x y => strLt x y = true) (h : ∀ x, x ∈ a ↔ x ∈ b) : a = b := by
  induction a generalizing b with
  | nil =>
    cases b with
    | nil => rfl
    | cons y b => exact absurd ((h y).mpr List.mem_cons_self) (by simp)
  | cons x a ih =>
    cases b with
    | nil => exact absurd ((h x).mp List.mem_cons_self) (by simp)
    | cons y b =>
      rw [List.pairwise_cons] at ha hb
      have asym : ∀ {u v : Str}, strLt u v = true → strLt v u = true → False := fun {u v} h1 h2 => by
        have := strLt_as u v h1
        rw [this] at h2
        cases h2
      have e : x = y := by
        rcases List.mem_cons.mp ((h x).mp List.mem_cons_self) with e | h1
        · exact e
        · rcases List.mem_cons.mp ((h y).mpr List.mem_cons_self) with e | h2
          · exact e.symm
          · exact (asym (ha.1 y h2) (hb.1 x h1)).elim
      subst e
      congr 1
      refine ih ha.2 hb.2 fun z => ?_
      constructor
      · intro hz
        rcases List.mem_cons.mp ((h z).mp (List.mem_cons_of_mem _ hz)) with rfl | q
        · exact absurd rfl (strLt_ne (ha.1 z hz))
        · exact q
      · intro hz
        rcases List.mem_cons.mp ((h z).mpr (List.mem_cons_of_mem _ hz)) with rfl | q
        · exact absurd rfl (strLt_ne (hb.1 z hz))
        · exact q
end DI
namespace DI.Law
open PySem PySem.Spec
/-- a row of rows handed over, in tuples or lists -/
def WC (f : W3 → D) (s : Sl) (rs : List W3) : Prop := (f = row3 ∨ f = rowL) ∧ (s = .im (.tuple (rs.map f)) ∨ s = .im (.list (rs.map f)) ∨ s = .ow .bor (.list (rs.map f)) ∨ s = .ow .lck (.list (rs.map f)))
/-- the nodes -/
def nodesS (rs : List W3) : List Str := sortBy strLt (gatherK (rs.map (·.2.1) ++ rs.map (·.2.2)))
theorem nodes_mem {rs : List W3} {x : Str} : x ∈ nodesS rs ↔ ∃ r ∈ rs, x = r.2.1 ∨ x = r.2.2 := by
  unfold nodesS
  rw [(sortBy_perm (lt := strLt) _).mem_iff, gather_iff2, List.mem_append, List.mem_map, List.mem_map]
  constructor
  · rintro (⟨r, h, rfl⟩ | ⟨r, h, rfl⟩)
    · exact ⟨r, h, .inl rfl⟩
    · exact ⟨r, h, .inr rfl⟩
  · rintro ⟨r, h, rfl | rfl⟩
    · exact .inl ⟨r, h, rfl⟩
    · exact .inr ⟨r, h, rfl⟩
theorem nodes_up {rs : List W3} : (nodesS rs).Pairwise fun a b => strLt a b = true := sorted_strict (gather_nd2 _ _ .nil)
theorem nodes_okS {rs : List W3} (h : OkW rs) {x : Str} (hx : x ∈ nodesS rs) : okS x := by
  obtain ⟨r, hr, rfl | rfl⟩ := nodes_mem.mp hx
  · exact (h r hr).2.1
  · exact (h r hr).2.2
end DI.Law

set_option maxRecDepth 100000
namespace DI.Law
open PySem PySem.Spec
theorem f_nodes (n : Nat) : fns tbl (n + 1) "nodes" = d_nodes.run (fns tbl n) := fns_at (by kernel_rfl)
theorem nodes_ok {n : Nat} {f : W3 → D} {s : Sl} {rs : List W3} (hs : WC f s rs) (ho : OkW rs) (hl : rs.length ≤ 400) : fns tbl (n + 1) "nodes" [s] = some (.im (.tuple ((nodesS rs).map .str)), [s]) := by
  rw [f_nodes]
  have e3 : biD .setSorted [.list (rs.map (fun r => PyData.str r.2.1) ++ rs.map (fun r => PyData.str r.2.2))] = some (.fr (.list ((nodesS rs).map .str))) :=
    bi_setSorted (ss := rs.map (·.2.1) ++ rs.map (·.2.2)) (strsD_app (strsD_of _ _) (strsD_of _ _)) (by
      rw [List.all_eq_true]
      intro x hx
      rcases List.mem_append.mp hx with h | h
      · obtain ⟨r, hr, rfl⟩ := List.mem_map.mp h
        exact (ho r hr).2.1
      · obtain ⟨r, hr, rfl⟩ := List.mem_map.mp h
        exact (ho r hr).2.2) (by rw [List.length_append, List.length_map, List.length_map]; omega)
  have ll : rs.length + rs.length ≤ lim := lim_le (by omega)
  have l1 : rs.length ≤ lim := lim_le (by omega)
  have go : ∃ x, d_nodes.run (fns tbl n) [s] = some (.im x, [s]) ∧ x = .tuple ((nodesS rs).map .str) := by
    refine run_im rfl fun Q q => ?_
    simp only [d_nodes, List.replicate, List.cons_append, List.nil_append]
    refine bw_cons fun _ hr => ?_
    obtain ⟨rfl | rfl, rfl | rfl | rfl | rfl⟩ := hs <;>
    · simp
      rw [lcRun_of (α := W3) (fun r => some (.str r.2.1))]
      · simp [fm_some, backE, unlockE, lockE, wipeE]
        rw [lcRun_of (α := W3) (fun r => some (.str r.2.2))]
        · simp [fm_some, backE, unlockE, lockE, wipeE, ll, e3]
          exact q _ _ rfl rfl
        · intro r hm
          first | (simp [wipeE, lockE, row3, ix2]; done) | (simp [wipeE, lockE, rowL, ix2]; done)
        · rfl
        · exact l1
      · intro r hm
        first | (simp [wipeE, lockE, row3, ix1]; done) | (simp [wipeE, lockE, rowL, ix1]; done)
      · rfl
      · exact l1
  obtain ⟨x, e, rfl⟩ := go
  exact e
end DI.Law

set_option maxRecDepth 100000
namespace DI
open PySem PySem.Spec
theorem forget_ne {s x : Sl} {p e : Env} (h : s ≠ .un) : forget (s :: p) (x :: e) = x :: forget p e := by
  cases s with
  | un => exact absurd rfl h
  | _ => rfl
theorem fin_same : ∀ (args r : List Sl), finSl args (args ++ r) = args
  | [], r => by cases r <;> rfl
  | a :: args, r => by
    have ih := fin_same args r
    cases a with
    | ow k d => cases k <;> simp [finSl, ih]
    | _ => simp [finSl, ih]
end DI
namespace DI.Law
open PySem PySem.Spec
/-- names handed over -/
def NB (s : Sl) (ns : List Str) : Prop := s = .im (.tuple (ns.map .str)) ∨ s = .im (.list (ns.map .str)) ∨ s = .ow .bor (.list (ns.map .str)) ∨ s = .ow .lck (.list (ns.map .str))
theorem NB.nu {s : Sl} {ns : List Str} (h : NB s ns) : s ≠ .un := by rcases h with rfl | rfl | rfl | rfl <;> exact fun z => by cases z
theorem WC.nu {f : W3 → D} {s : Sl} {rs : List W3} (h : WC f s rs) : s ≠ .un := by obtain ⟨_, rfl | rfl | rfl | rfl⟩ := h <;> exact fun z => by cases z
/-- the first name that is no part -/
def missS (rs : List W3) (ns : List Str) : Option Str := ns.find? fun t => !decide (t ∈ rs.map (·.1))
def noPartD (t : Str) : D := .dict [(.none, .str "NoPart"), (.str "part", .str t)]
theorem tagsOk {rs : List W3} (h : OkW rs) : ∀ s ∈ rs.map (·.1), okS s := fun s hs => by
  obtain ⟨r, hr, rfl⟩ := List.mem_map.mp hs
  exact (h r hr).1
end DI.Law

set_option maxRecDepth 100000
namespace DI.Law
open PySem PySem.Spec
theorem f_parts (n : Nat) : fns tbl (n + 1) "parts" = d_parts.run (fns tbl n) := fns_at (by kernel_rfl)
theorem parts_ok {n : Nat} {s : Sl} {rs : List W3} (hs : WA s rs) (hl : rs.length ≤ lim) : fns tbl (n + 1) "parts" [s] = some (.im (.tuple (rs.map fun r => .str r.1)), [s]) := by
  rw [f_parts]
  have go : ∃ x, d_parts.run (fns tbl n) [s] = some (.im x, [s]) ∧ x = .tuple (rs.map fun r => .str r.1) := by
    refine run_im rfl fun Q q => ?_
    simp only [d_parts, List.replicate, List.cons_append, List.nil_append]
    refine bw_cons fun _ hr => ?_
    rcases hs with rfl | rfl | rfl | rfl
    · simp
      rw [lcRun_of (α := W3) (k := row3) (fun r => some (.str r.1))]
      · simp [fm_some, backE, unlockE, lockE, wipeE]
        exact q _ _ rfl rfl
      · intro r hm
        simp [wipeE, lockE, row3, ix0]
      · rfl
      · exact hl
    · simp
      rw [lcRun_of (α := W3) (k := rowL) (fun r => some (.str r.1))]
      · simp [fm_some, backE, unlockE, lockE, wipeE]
        exact q _ _ rfl rfl
      · intro r hm
        simp [wipeE, lockE, rowL, ix0]
      · rfl
      · exact hl
    · simp
      rw [lcRun_of (α := W3) (k := rowL) (fun r => some (.str r.1))]
      · simp [fm_some, backE, unlockE, lockE, wipeE]
        exact q _ _ rfl rfl
      · intro r hm
        simp [wipeE, lockE, rowL, ix0]
      · rfl
      · exact hl
    · simp
      rw [lcRun_of (α := W3) (k := rowL) (fun r => some (.str r.1))]
      · simp [fm_some, backE, unlockE, lockE, wipeE]
        exact q _ _ rfl rfl
      · intro r hm
        simp [wipeE, lockE, rowL, ix0]
      · rfl
      · exact hl
  obtain ⟨x, e, rfl⟩ := go
  exact e
end DI.Law

set_option maxRecDepth 100000
/-! what hangs together -/
namespace DI
open PySem PySem.Spec
theorem strLt_trans {a b c : Str} (h1 : strLt a b = true) (h2 : strLt b c = true) : strLt a c = true := by
  have n1 := strLt_as _ _ h1
  have n2 := strLt_as _ _ h2
  have n3 : strLt c a = false := strLt_tr _ _ _ n1 n2
  cases e : strLt a c with
  | true => rfl
  | false =>
    have := strLt_an _ _ e n3
    subst this
    rw [h2] at n1
    cases n1
abbrev Eg := List (Str × Str)
inductive Cn (E : Eg) : Str → Str → Prop
  | refl (x : Str) : Cn E x x
  | step {x y z : Str} : Cn E x y → ((y, z) ∈ E ∨ (z, y) ∈ E) → Cn E x z
theorem Cn.trans {E : Eg} {x y z : Str} (h : Cn E x y) (k : Cn E y z) : Cn E x z := by
  induction k with
  | refl => exact h
  | step _ e ih => exact .step ih e
theorem Cn.symm {E : Eg} {x y : Str} (h : Cn E x y) : Cn E y x := by
  induction h with
  | refl => exact .refl _
  | step _ e ih => exact (Cn.step (.refl _) e.symm).trans ih
theorem Cn.mono {E F : Eg} (s : ∀ p ∈ E, p ∈ F) {x y : Str} (h : Cn E x y) : Cn F x y := by
  induction h with
  | refl => exact .refl _
  | step _ e ih => exact .step ih (e.imp (s _) (s _))
theorem Cn.edge {E : Eg} {x y : Str} (h : (x, y) ∈ E) : Cn E x y := .step (.refl _) (.inl h)
theorem cn_add {E : Eg} {a b x y : Str} : Cn (E ++ [(a, b)]) x y ↔ Cn E x y ∨ (Cn E x a ∧ Cn E b y) ∨ (Cn E x b ∧ Cn E a y) := by
  have up : ∀ {x y : Str}, Cn E x y → Cn (E ++ [(a, b)]) x y := fun h => h.mono fun p hp => List.mem_append_left _ hp
  have ab : Cn (E ++ [(a, b)]) a b := .edge (by simp)
  constructor
  · intro h
    induction h with
    | refl => exact .inl (.refl _)
    | @step y z _ e ih =>
      have e' : Cn E y z ∨ (y = a ∧ z = b) ∨ (y = b ∧ z = a) := by
        rcases e with e | e
        · rcases List.mem_append.mp e with e | e
          · exact .inl (.edge e)
          · simp at e
            exact .inr (.inl e)
        · rcases List.mem_append.mp e with e | e
          · exact .inl (Cn.edge e).symm
          · simp at e
            exact .inr (.inr ⟨e.2, e.1⟩)
      rcases e' with e | ⟨rfl, rfl⟩ | ⟨rfl, rfl⟩
      · rcases ih with h | ⟨h1, h2⟩ | ⟨h1, h2⟩
        · exact .inl (h.trans e)
        · exact .inr (.inl ⟨h1, h2.trans e⟩)
        · exact .inr (.inr ⟨h1, h2.trans e⟩)
      · rcases ih with h | ⟨h1, h2⟩ | ⟨h1, h2⟩
        · exact .inr (.inl ⟨h, .refl _⟩)
        · exact .inr (.inl ⟨h1, .refl _⟩)
        · exact .inl h1
      · rcases ih with h | ⟨h1, h2⟩ | ⟨h1, h2⟩
        · exact .inr (.inr ⟨h, .refl _⟩)
        · exact .inl h1
        · exact .inr (.inr ⟨h1, .refl _⟩)
  · rintro (h | ⟨h1, h2⟩ | ⟨h1, h2⟩)
    · exact up h
    · exact ((up h1).trans ab).trans (up h2)
    · exact ((up h1).trans ab.symm).trans (up h2)
/-- the lesser, the greater -/
def loS (a b : Str) : Str := if strLt b a then b else a
def hiS (a b : Str) : Str := if strLt b a then a else b
/-- two classes made one -/
def mergeF (L : Str → Str) (a b : Str) : Str → Str := if L a = L b then L else fun x => if L x = hiS (L a) (L b) then loS (L a) (L b) else L x
/-- L tells each node's least one -/
structure LeastL (N : List Str) (E : Eg) (L : Str → Str) : Prop where
  mem : ∀ x ∈ N, L x ∈ N
  cn : ∀ x ∈ N, Cn E x (L x)
  iff : ∀ x ∈ N, ∀ y ∈ N, Cn E x y → L x = L y
  le : ∀ x ∈ N, strLt x (L x) = false
theorem LeastL.eq_iff {N : List Str} {E : Eg} {L : Str → Str} (h : LeastL N E L) {x y : Str} (hx : x ∈ N) (hy : y ∈ N) : L x = L y ↔ Cn E x y := by
  constructor
  · intro e
    have := h.cn x hx
    rw [e] at this
    exact this.trans (h.cn y hy).symm
  · exact h.iff x hx y hy
theorem LeastL.idem {N : List Str} {E : Eg} {L : Str → Str} (h : LeastL N E L) {x : Str} (hx : x ∈ N) : L (L x) = L x := (h.iff x hx _ (h.mem x hx) (h.cn x hx)).symm
/-- nothing there is less than the least -/
theorem LeastL.least {N : List Str} {E : Eg} {L : Str → Str} (h : LeastL N E L) {x y : Str} (hx : x ∈ N) (hy : y ∈ N) (c : Cn E x y) : strLt y (L x) = false := by
  rw [h.iff x hx y hy c]
  exact h.le y hy
theorem least0 (N : List Str) : LeastL N [] id :=
  ⟨fun x h => h, fun x _ => .refl _, fun x _ y _ c => by
    cases c with
    | refl => rfl
    | step _ e => (rcases e with e | e <;> cases e), fun x _ => strLt_irr x⟩
theorem lo_hi {a b : Str} : (loS a b = a ∧ hiS a b = b) ∨ (loS a b = b ∧ hiS a b = a) := by
  unfold loS hiS
  cases strLt b a
  · exact .inl ⟨rfl, rfl⟩
  · exact .inr ⟨rfl, rfl⟩
theorem lo_le {a b : Str} : strLt (hiS a b) (loS a b) = false := by
  unfold loS hiS
  cases h : strLt b a
  · simpa using h
  · simpa using strLt_as _ _ h
theorem merge_least {N : List Str} {E : Eg} {L : Str → Str} {a b : Str} (h : LeastL N E L) (ha : a ∈ N) (hb : b ∈ N) : LeastL N (E ++ [(a, b)]) (mergeF L a b) := by
  have up : ∀ {x y : Str}, Cn E x y → Cn (E ++ [(a, b)]) x y := fun h => h.mono fun p hp => List.mem_append_left _ hp
  have ab : Cn (E ++ [(a, b)]) a b := .edge (by simp)
  unfold mergeF
  split
  · rename_i e
    have c := (h.eq_iff ha hb).mp e
    refine ⟨h.mem, fun x hx => up (h.cn x hx), fun x hx y hy k => ?_, h.le⟩
    rcases cn_add.mp k with k | ⟨k1, k2⟩ | ⟨k1, k2⟩
    · exact h.iff x hx y hy k
    · exact h.iff x hx y hy ((k1.trans c).trans k2)
    · exact h.iff x hx y hy ((k1.trans c.symm).trans k2)
  · rename_i ne
    have cl : Cn (E ++ [(a, b)]) (hiS (L a) (L b)) (loS (L a) (L b)) := by
      have k : Cn (E ++ [(a, b)]) (L a) (L b) := ((up (h.cn a ha)).symm.trans ab).trans (up (h.cn b hb))
      rcases lo_hi (a := L a) (b := L b) with ⟨e1, e2⟩ | ⟨e1, e2⟩
      · rw [e1, e2]; exact k.symm
      · rw [e1, e2]; exact k
    have ml : loS (L a) (L b) ∈ N := by
      rcases lo_hi (a := L a) (b := L b) with ⟨e1, e2⟩ | ⟨e1, e2⟩
      · rw [e1]; exact h.mem a ha
      · rw [e1]; exact h.mem b hb
    -- of the two classes
    have val : ∀ x ∈ N, (L x = L a ∨ L x = L b) → (if L x = hiS (L a) (L b) then loS (L a) (L b) else L x) = loS (L a) (L b) := fun x hx k => by
      split
      · rfl
      · rename_i q
        rcases lo_hi (a := L a) (b := L b) with ⟨e1, e2⟩ | ⟨e1, e2⟩
        · rw [e2] at q
          rw [e1]
          rcases k with k | k
          · exact k
          · exact absurd k q
        · rw [e2] at q
          rw [e1]
          rcases k with k | k
          · exact absurd k q
          · exact k
    refine ⟨fun x hx => ?_, fun x hx => ?_, fun x hx y hy k => ?_, fun x hx => ?_⟩
    · split
      · exact ml
      · exact h.mem x hx
    · split
      · rename_i q
        have := up (h.cn x hx)
        rw [q] at this
        exact this.trans cl
      · exact up (h.cn x hx)
    · rcases cn_add.mp k with k | ⟨k1, k2⟩ | ⟨k1, k2⟩
      · rw [h.iff x hx y hy k]
      · rw [val x hx (.inl (h.iff x hx a ha k1)), val y hy (.inr (h.iff b hb y hy k2).symm)]
      · rw [val x hx (.inr (h.iff x hx b hb k1)), val y hy (.inl (h.iff a ha y hy k2).symm)]
    · split
      · rename_i q
        cases e : strLt x (loS (L a) (L b)) with
        | false => rfl
        | true =>
          have h1 := h.le x hx
          rw [q] at h1
          have h2 := lo_le (a := L a) (b := L b)
          -- x < lo ≤ hi
          have h3 : strLt x (hiS (L a) (L b)) = true := by
            cases e3 : strLt (loS (L a) (L b)) (hiS (L a) (L b)) with
            | true => exact strLt_trans e e3
            | false =>
              rw [strLt_an _ _ e3 h2] at e
              exact e
          rw [h3] at h1
          cases h1
      · exact h.le x hx
/-- row by row -/
def mergeL (ns : List Str) : List (Str × Str × Str) → (Str → Str) → Str → Str
  | [], L => L
  | r :: rs, L => mergeL ns rs (if r.1 ∈ ns then mergeF L r.2.1 r.2.2 else L)
def edgesOf (ns : List Str) (rs : List (Str × Str × Str)) : Eg := (rs.filter fun r => decide (r.1 ∈ ns)).map (·.2)
theorem mergeL_least {N ns : List Str} : ∀ {rs : List (Str × Str × Str)} {L : Str → Str} {E : Eg}, LeastL N E L → (∀ r ∈ rs, r.2.1 ∈ N ∧ r.2.2 ∈ N) → LeastL N (E ++ edgesOf ns rs) (mergeL ns rs L)
  | [], L, E, h, _ => by simpa [edgesOf, mergeL] using h
  | r :: rs, L, E, h, hr => by
    have ih := fun L E h => mergeL_least (N := N) (ns := ns) (rs := rs) (L := L) (E := E) h fun r' h' => hr r' (List.mem_cons_of_mem _ h')
    obtain ⟨h1, h2⟩ := hr r List.mem_cons_self
    unfold mergeL
    by_cases q : r.1 ∈ ns
    · rw [if_pos q]
      have := ih _ _ (merge_least h h1 h2)
      rw [List.append_assoc] at this
      simpa [edgesOf, List.filter_cons, q] using this
    · rw [if_neg q]
      have := ih _ _ h
      simpa [edgesOf, List.filter_cons, q] using this
end DI

set_option maxRecDepth 100000
namespace DI
open PySem PySem.Spec
/-- a table: each node, its least one -/
def dictD (N : List Str) (L : Str → Str) : List (D × D) := N.map fun x => (.str x, .str (L x))
theorem dict_plain {N : List Str} {L : Str → Str} : plainK (dictD N L) = true := by
  unfold plainK dictD
  rw [List.all_map, List.all_eq_true]
  exact fun _ _ => rfl
theorem dict_look {L : Str → Str} {x : Str} : ∀ {N : List Str}, x ∈ N → lookD (dictD N L) (.str x) = some (.str (L x))
  | [], h => by cases h
  | y :: N, h => by
    show lookD ((.str y, .str (L y)) :: dictD N L) (.str x) = _
    unfold lookD
    rw [eqv_str]
    by_cases q : y = x
    · subst q
      simp
    · have qb : (y == x) = false := by simpa using q
      rw [qb]
      simp only [Bool.false_eq_true, if_false]
      exact dict_look ((List.mem_cons.mp h).resolve_left fun z => q z.symm)
theorem put_new {N : List Str} {L : Str → Str} {x : Str} {y : D} (h : x ∉ N) : putD (dictD N L) (.str x) y = dictD N L ++ [(.str x, y)] := by
  unfold putD
  rw [if_neg]
  intro z
  rw [List.any_eq_true] at z
  obtain ⟨p, hp, e⟩ := z
  obtain ⟨y', hy, rfl⟩ := List.mem_map.mp hp
  rw [eqv_str] at e
  have : y' = x := by simpa using e
  exact h (this ▸ hy)
/-- a dict comprehension over names, each another one -/
theorem goD_of {L : Str → Str} {f : D → Env → Option (Option (D × D) × Env)} {en : Env} : ∀ {us pre : List Str}, (pre ++ us).Nodup → (∀ x ∈ us, f (.str x) en = some (some (.str x, .str (L x)), en)) → goD f (us.map .str) (dictD pre L) en = some (dictD (pre ++ us) L, en)
  | [], pre, _, _ => by simp [goD]
  | u :: us, pre, nd, h => by
    rw [List.map_cons]
    unfold goD
    rw [h u List.mem_cons_self]
    dsimp only
    have nu : u ∉ pre := fun z => by
      rw [List.nodup_append] at nd
      exact nd.2.2 u z u List.mem_cons_self rfl
    rw [put_new nu]
    have e : dictD pre L ++ [(.str u, .str (L u))] = dictD (pre ++ [u]) L := by simp [dictD]
    rw [e, goD_of (us := us) (pre := pre ++ [u]) (by simpa using nd) fun x hx => h x (List.mem_cons_of_mem _ hx)]
    simp
theorem dcRun_of {L : Str → Str} {vs ls : List Nat} {us : List Str} {env1 : Env} {f : D → Env → Option (Option (D × D) × Env)} (nd : us.Nodup) (ht : ∀ x ∈ us, f (.str x) (wipeE (lockE env1 ls) vs) = some (some (.str x, .str (L x)), wipeE (lockE env1 ls) vs)) (hf : freeE env1 vs = true) (hl : us.length ≤ lim) :
    dcRun vs (some (ls, us.map .str, env1)) f = some (.fr (.dict (dictD us L)), unlockE env1 (backE (lockE env1 ls) (wipeE (lockE env1 ls) vs) vs) ls) := by
  unfold dcRun
  dsimp only
  have := goD_of (L := L) (us := us) (pre := []) (by simpa using nd) ht
  rw [if_pos (by rw [Bool.and_eq_true, decide_eq_true_iff]; exact ⟨hf, by rw [List.length_map]; exact hl⟩)]
  rw [show goD f (us.map .str) [] = goD f (us.map .str) (dictD [] L) from rfl, this]
  simp
theorem sort2 {a b : Str} (ha : okS a) (hb : okS b) : sortedD [.str a, .str b] = some [.str (loS a b), .str (hiS a b)] := by
  have := sortedD_strs (ss := [a, b]) (by simpa using ⟨ha, hb⟩)
  rw [show ([a, b] : List Str).map PyData.str = [.str a, .str b] from rfl] at this
  rw [this]
  have e : sortBy strLt [a, b] = [loS a b, hiS a b] := by
    unfold loS hiS
    simp only [sortBy, sortBy.insBy']
    cases strLt b a <;> rfl
  rw [e]
  rfl
end DI
namespace DI.Law
open PySem PySem.Spec
theorem f_merged (n : Nat) : fns tbl (n + 1) "merged" = d_merged.run (fns tbl n) := fns_at (by kernel_rfl)
def mdict (rs : List W3) (ns : List Str) : D := .dict (dictD (nodesS rs) (mergeL ns rs id))
theorem merged_least {rs : List W3} {ns : List Str} : LeastL (nodesS rs) (edgesOf ns rs) (mergeL ns rs id) := by
  have := mergeL_least (N := nodesS rs) (ns := ns) (rs := rs) (least0 (nodesS rs)) fun r hr => ⟨nodes_mem.mpr ⟨r, hr, .inl rfl⟩, nodes_mem.mpr ⟨r, hr, .inr rfl⟩⟩
  simpa using this
def mBody : Sms := match d_merged.body with
  | .cons _ (.cons (.for _ _ b) _) => b
  | _ => .nil
theorem nodes_len' {rs : List W3} : (nodesS rs).length ≤ 2 * rs.length := by
  unfold nodesS
  rw [(sortBy_perm (lt := strLt) _).length_eq]
  refine Nat.le_trans (gather_le _) ?_
  rw [List.length_append, List.length_map, List.length_map]
  omega
theorem nodes_nd {rs : List W3} : (nodesS rs).Nodup := nodes_up.imp fun h => strLt_ne h
/-- whether a name is among some -/
theorem nb_in {Φ : Fns} {s2 : Sl} {ns : List Str} {env : Env} {i j : Nat} {t : Str} (h2 : NB s2 ns) (ht : okS t) (hn : ∀ s ∈ ns, okS s) (hi : env[i]? = some (.im (.str t))) (hj : env[j]? = some s2) : ev Φ (.cmp .In (.v i) (.v j)) env = some (.im (.bool (decide (t ∈ ns))), env) := by
  have e := inD_strs (x := t) (ss := ns) ht hn
  rcases h2 with rfl | rfl | rfl | rfl <;> simp [hi, hj, e, inD_strsT]
/-- a turn over one row -/
theorem m_turn {Φ : Fns} {N ns : List Str} {L : Str → Str} {s1 s2 : Sl} {r : W3} (h2 : NB s2 ns) (hn : ∀ s ∈ ns, okS s) (hr : okS r.1) (oN : ∀ x ∈ N, okS x) (ndN : N.Nodup) (lN : N.length ≤ 1000) (mL : ∀ x ∈ N, L x ∈ N) (ha : r.2.1 ∈ N) (hb : r.2.2 ∈ N) {K : Out → Prop}
    (q : ∀ x3 x4 x5 x6 x7, K (.nx [s1, s2, .ow .own (.dict (dictD N (if r.1 ∈ ns then mergeF L r.2.1 r.2.2 else L))), x3, x4, x5, x6, x7, .un])) : BW Φ mBody [s1, s2, .ow .own (.dict (dictD N L)), .im (.str r.1), .im (.str r.2.1), .im (.str r.2.2), .un, .un, .un] K := by
  have la := dict_look (L := L) ha
  have lb := dict_look (L := L) hb
  have pl := dict_plain (N := N) (L := L)
  have oa : okS (L r.2.1) := oN _ (mL _ ha)
  have ob : okS (L r.2.2) := oN _ (mL _ hb)
  have t1 : ev Φ (.cmp .In (.v 3) (.v 1)) [s1, s2, .ow .own (.dict (dictD N L)), .im (.str r.1), .im (.str r.2.1), .im (.str r.2.2), .un, .un, .un] = some (.im (.bool (decide (r.1 ∈ ns))), [s1, s2, .ow .own (.dict (dictD N L)), .im (.str r.1), .im (.str r.2.1), .im (.str r.2.2), .un, .un, .un]) := nb_in h2 hr hn rfl rfl
  have t2 : ev Φ (.cmp .NotEq (.ix (.v 2) (.v 4)) (.ix (.v 2) (.v 5))) [s1, s2, .ow .own (.dict (dictD N L)), .im (.str r.1), .im (.str r.2.1), .im (.str r.2.2), .un, .un, .un] = some (.im (.bool (!(L r.2.1 == L r.2.2))), [s1, s2, .ow .own (.dict (dictD N L)), .im (.str r.1), .im (.str r.2.1), .im (.str r.2.2), .un, .un, .un]) := by
    simp [pl, isKey, la, lb, oa, ob, eqv_str]
  simp only [mBody, d_merged]
  rw [bw_if]
  have tt : tstX Φ (.andX (.cmp .In (.v 3) (.v 1)) (.cmp .NotEq (.ix (.v 2) (.v 4)) (.ix (.v 2) (.v 5)))) [s1, s2, .ow .own (.dict (dictD N L)), .im (.str r.1), .im (.str r.2.1), .im (.str r.2.2), .un, .un, .un] =
      some (decide (r.1 ∈ ns) && !(L r.2.1 == L r.2.2), [s1, s2, .ow .own (.dict (dictD N L)), .im (.str r.1), .im (.str r.2.1), .im (.str r.2.2), .un, .un, .un]) := by
    unfold tstX
    rw [show ev Φ (.andX (.cmp .In (.v 3) (.v 1)) (.cmp .NotEq (.ix (.v 2) (.v 4)) (.ix (.v 2) (.v 5)))) [s1, s2, .ow .own (.dict (dictD N L)), .im (.str r.1), .im (.str r.2.1), .im (.str r.2.2), .un, .un, .un] = some (.im (.bool (decide (r.1 ∈ ns) && !(L r.2.1 == L r.2.2))), [s1, s2, .ow .own (.dict (dictD N L)), .im (.str r.1), .im (.str r.2.1), .im (.str r.2.2), .un, .un, .un]) by
      by_cases q : r.1 ∈ ns
      · rw [ev_and1 t1 (by simp [q]) t2]
        simp [q]
      · rw [ev_and0 t1 (by simp [q])]
        simp [q]]
    rfl
  rw [tt]
  by_cases q1 : r.1 ∈ ns
  · by_cases q2 : L r.2.1 = L r.2.2
    · have : (decide (r.1 ∈ ns) && !(L r.2.1 == L r.2.2)) = false := by simp [q1, q2]
      rw [this, ifO_f]
      refine bw_nil ?_
      have := q (.im (.str r.1)) (.im (.str r.2.1)) (.im (.str r.2.2)) .un .un
      rw [if_pos q1] at this
      unfold mergeF at this
      rw [if_pos q2] at this
      exact this
    · have : (decide (r.1 ∈ ns) && !(L r.2.1 == L r.2.2)) = true := by simp [q1, q2]
      rw [this, ifO_t]
      have s2' := sort2 oa ob
      refine bw_cons fun _ hr => ?_
      simp [pl, isKey, la, lb, lim_le, s2']
      subst hr
      have ohi : okS (hiS (L r.2.1) (L r.2.2)) := by
        rcases lo_hi (a := L r.2.1) (b := L r.2.2) with ⟨_, e⟩ | ⟨_, e⟩ <;> rw [e] <;> assumption
      refine bw_cons fun _ hr => ?_
      have st : exec Φ (.set 2 (.dc [8] (.x (.v 2)) (.n 8) (.c (.bool true)) (.v 8) (.ite (.cmp .Eq (.ix (.v 2) (.v 8)) (.v 7)) (.v 6) (.ix (.v 2) (.v 8))))) [s1, s2, .ow .own (.dict (dictD N L)), .im (.str r.1), .im (.str r.2.1), .im (.str r.2.2), .im (.str (loS (L r.2.1) (L r.2.2))), .im (.str (hiS (L r.2.1) (L r.2.2))), .un] =
          some (.nx [s1, s2, .ow .own (.dict (dictD N (mergeF L r.2.1 r.2.2))), .im (.str r.1), .im (.str r.2.1), .im (.str r.2.2), .im (.str (loS (L r.2.1) (L r.2.2))), .im (.str (hiS (L r.2.1) (L r.2.2))), .un]) := by
        have ek : (dictD N L).map (·.1) = N.map .str := by
          unfold dictD
          rw [List.map_map]
          rfl
        simp [pl, ek]
        rw [dcRun_of (L := mergeF L r.2.1 r.2.2) ndN]
        · simp [backE, unlockE, lockE, wipeE]
        · intro x hx
          have lx := dict_look (L := L) hx
          have ox : okS (L x) := oN _ (mL _ hx)
          have mx : mergeF L r.2.1 r.2.2 x = if L x = hiS (L r.2.1) (L r.2.2) then loS (L r.2.1) (L r.2.2) else L x := by
            unfold mergeF
            rw [if_neg q2]
          by_cases z : L x = hiS (L r.2.1) (L r.2.2)
          · rw [mx, if_pos z]
            rw [z] at lx ox
            simp [wipeE, lockE, pl, isKey, lx, ox, eqv_str]
          · have zb : (L x == hiS (L r.2.1) (L r.2.2)) = false := by simpa using z
            rw [mx, if_neg z]
            simp [wipeE, lockE, pl, isKey, lx, ox, ohi, eqv_str, zb]
        · rfl
        · exact lim_le lN
      rw [st, stepO_nx]
      subst hr
      refine bw_nil ?_
      have := q (.im (.str r.1)) (.im (.str r.2.1)) (.im (.str r.2.2)) (.im (.str (loS (L r.2.1) (L r.2.2)))) (.im (.str (hiS (L r.2.1) (L r.2.2))))
      rw [if_pos q1] at this
      exact this
  · have : (decide (r.1 ∈ ns) && !(L r.2.1 == L r.2.2)) = false := by simp [q1]
    rw [this, ifO_f]
    refine bw_nil ?_
    have := q (.im (.str r.1)) (.im (.str r.2.1)) (.im (.str r.2.2)) .un .un
    rw [if_neg q1] at this
    exact this
theorem merge_mem {N : List Str} {L : Str → Str} {a b : Str} (mL : ∀ x ∈ N, L x ∈ N) (ha : a ∈ N) (hb : b ∈ N) : ∀ x ∈ N, mergeF L a b x ∈ N := fun x hx => by
  unfold mergeF
  split
  · exact mL x hx
  · dsimp only
    split
    · rcases lo_hi (a := L a) (b := L b) with ⟨e, _⟩ | ⟨e, _⟩ <;> rw [e]
      · exact mL a ha
      · exact mL b hb
    · exact mL x hx
theorem merged_ok {n : Nat} {f : W3 → D} {s1 s2 : Sl} {rs : List W3} {ns : List Str} (h1 : WC f s1 rs) (h2 : NB s2 ns) (ho : OkW rs) (hn : ∀ s ∈ ns, okS s) (hl : rs.length ≤ 400) : fns tbl (n + 2) "merged" [s1, s2] = some (.fr (mdict rs ns), [s1, s2]) := by
  rw [f_merged]
  have n1 := nodes_ok (n := n) h1 ho hl
  have nl := nodes_len' (rs := rs)
  have u1 := h1.nu
  have u2 := h2.nu
  have oN : ∀ x ∈ nodesS rs, okS x := fun x hx => nodes_okS ho hx
  have go : ∃ x, d_merged.run (fns tbl (n + 1)) [s1, s2] = some (.fr x, [s1, s2]) ∧ x = mdict rs ns := by
    refine run_fr rfl fun Q q => ?_
    rw [show d_merged.body = .cons (.set 2 (.dc [8] (.x (.call "nodes" (.cons (.v 0) .nil))) (.n 8) (.c (.bool true)) (.v 8) (.v 8))) (.cons (.for (.x (.v 0)) (.t [3, 4, 5]) mBody) (.cons (.ret (.v 2)) .nil)) from rfl, show d_merged.ns - d_merged.np = 7 from rfl]
    simp only [List.replicate, List.cons_append, List.nil_append]
    refine bw_cons fun _ hr => ?_
    have st : exec (fns tbl (n + 1)) (.set 2 (.dc [8] (.x (.call "nodes" (.cons (.v 0) .nil))) (.n 8) (.c (.bool true)) (.v 8) (.v 8))) [s1, s2, .un, .un, .un, .un, .un, .un, .un] = some (.nx [s1, s2, .ow .own (.dict (dictD (nodesS rs) id)), .un, .un, .un, .un, .un, .un]) := by
      obtain ⟨rfl | rfl, rfl | rfl | rfl | rfl⟩ := h1 <;>
      · simp [n1]
        rw [dcRun_of (L := id) nodes_nd]
        · simp [backE, unlockE, lockE, wipeE]
        · intro x hx
          simp [wipeE, lockE, isKey]
        · rfl
        · exact lim_le (by omega)
    rw [st, stepO_nx]
    subst hr
    have main : ∀ (ls : List Nat) (s1' : Sl), s1' ≠ .un → evI (fns tbl (n + 1)) (.x (.v 0)) [s1, s2, .ow .own (.dict (dictD (nodesS rs) id)), .un, .un, .un, .un, .un, .un] = some (ls, rs.map f, [s1, s2, .ow .own (.dict (dictD (nodesS rs) id)), .un, .un, .un, .un, .un, .un]) →
        lockE [s1, s2, .ow .own (.dict (dictD (nodesS rs) id)), .un, .un, .un, .un, .un, .un] ls = [s1', s2, .ow .own (.dict (dictD (nodesS rs) id)), .un, .un, .un, .un, .un, .un] →
        (∀ d a b c x y z w, unlockE [s1, s2, .ow .own (.dict (dictD (nodesS rs) id)), .un, .un, .un, .un, .un, .un] [s1', s2, d, a, b, c, x, y, z] ls = [s1, s2, d, a, b, c, x, y, z]) →
        BW (fns tbl (n + 1)) (.cons (.for (.x (.v 0)) (.t [3, 4, 5]) mBody) (.cons (.ret (.v 2)) .nil)) [s1, s2, .ow .own (.dict (dictD (nodesS rs) id)), .un, .un, .un, .un, .un, .un] Q := fun ls s1' v1 hI hlock hunl => by
      refine bw_for (ls := ls) (ds := rs.map f) (env1 := [s1, s2, .ow .own (.dict (dictD (nodesS rs) id)), .un, .un, .un, .un, .un, .un])
        (fun rem e => ∃ (ts : List W3) (L : Str → Str), rem = ts.map f ∧ e = [s1', s2, .ow .own (.dict (dictD (nodesS rs) L)), .un, .un, .un, .un, .un, .un] ∧ (∀ r ∈ ts, r ∈ rs) ∧ (∀ x ∈ nodesS rs, L x ∈ nodesS rs) ∧ mergeL ns ts L = mergeL ns rs id) hI ⟨rs, id, rfl, hlock, fun _ h => h, fun _ h => h, rfl⟩ ?_ ?_
      · rintro d rem e ⟨ts, L, hx, rfl, hts, mL, hm⟩ K LK
        cases ts with
        | nil => cases hx
        | cons r ts =>
        rw [List.map_cons] at hx
        obtain ⟨rfl, rfl⟩ := List.cons.inj hx
        have hr := hts r List.mem_cons_self
        have ma : r.2.1 ∈ nodesS rs := nodes_mem.mpr ⟨r, hr, .inl rfl⟩
        have mb : r.2.2 ∈ nodesS rs := nodes_mem.mpr ⟨r, hr, .inr rfl⟩
        refine ⟨[s1', s2, .ow .own (.dict (dictD (nodesS rs) L)), .im (.str r.1), .im (.str r.2.1), .im (.str r.2.2), .un, .un, .un], ?_, ?_⟩
        · rcases h1.1 with rfl | rfl
          · simp [row3]
          · simp [rowL]
        · refine m_turn h2 hn (ho r hr).1 oN nodes_nd (by omega) mL ma mb fun x3 x4 x5 x6 x7 => ?_
          refine LK.nx _ ⟨ts, if r.1 ∈ ns then mergeF L r.2.1 r.2.2 else L, rfl, ?_, fun r' h => hts r' (List.mem_cons_of_mem _ h), ?_, hm⟩
          · rw [hlock]
            simp [forget_ne v1, forget_ne u2, forget]
          · split
            · exact merge_mem mL ma mb
            · exact mL
      · rintro e ⟨ts, L, hx, rfl, hts, mL, hm⟩
        have ht : ts = [] := by
          cases ts with
          | nil => rfl
          | cons t ts => cases hx
        subst ht
        rw [hunl _ _ _ _ _ _ _ (0 : Nat)]
        refine bw_cons fun _ hr => ?_
        simp
        refine q _ _ (fin_same [s1, s2] _) ?_
        unfold mdict
        rw [← hm]
        rfl
    obtain ⟨hf, rfl | rfl | rfl | rfl⟩ := h1
    · exact main [] _ (fun z => by cases z) (by simp) rfl (fun _ _ _ _ _ _ _ _ => rfl)
    · exact main [] _ (fun z => by cases z) (by simp) rfl (fun _ _ _ _ _ _ _ _ => rfl)
    · exact main [0] (.ow .lck (.list (rs.map f))) (fun z => by cases z) (by simp) rfl (fun _ _ _ _ _ _ _ _ => rfl)
    · exact main [0] (.ow .lck (.list (rs.map f))) (fun z => by cases z) (by simp) rfl (fun _ _ _ _ _ _ _ _ => rfl)
  obtain ⟨x, e, rfl⟩ := go
  exact e
end DI.Law

set_option maxRecDepth 100000
namespace DI
open PySem PySem.Spec
/-- the least marks are one -/
theorem least_one {N N' : List Str} {E E' : Eg} {L M : Str → Str} (hL : LeastL N E L) (hM : LeastL N' E' M) (sub : ∀ x ∈ N, x ∈ N') (he : ∀ p, p ∈ E ↔ p ∈ E') (hE : ∀ p ∈ E, p.1 ∈ N ∧ p.2 ∈ N) {x : Str} (hx : x ∈ N) : L x = M x := by
  have c1 : Cn E' x (L x) := (hL.cn x hx).mono fun p h => (he p).mp h
  have c2 : Cn E x (M x) := (hM.cn x (sub x hx)).mono fun p h => (he p).mpr h
  have stay : ∀ {y : Str}, Cn E x y → y ∈ N := fun c => by
    induction c with
    | refl => exact hx
    | step _ e _ =>
      rcases e with e | e
      · exact (hE _ e).2
      · exact (hE _ e).1
  have a1 := hM.least (sub x hx) (sub _ (hL.mem x hx)) c1
  have a2 := hL.least hx (stay c2) c2
  exact strLt_an _ _ a1 a2
theorem least_edges {N : List Str} {E E' : Eg} {L : Str → Str} (h : LeastL N E L) (he : ∀ p, p ∈ E ↔ p ∈ E') : LeastL N E' L :=
  ⟨h.mem, fun x hx => (h.cn x hx).mono fun p q => (he p).mp q, fun x hx y hy c => h.iff x hx y hy (c.mono fun p q => (he p).mpr q), h.le⟩
theorem merge_at {M : Str → Str} {a b x : Str} : mergeF M a b x = if M x = hiS (M a) (M b) then loS (M a) (M b) else M x := by
  unfold mergeF
  split
  · rename_i e
    have e1 : hiS (M a) (M b) = M a := by unfold hiS; split <;> simp [e]
    have e2 : loS (M a) (M b) = M a := by unfold loS; split <;> simp [e]
    rw [e1, e2]
    split
    · assumption
    · rfl
  · rfl
end DI

set_option maxRecDepth 100000
namespace DI.Law
open PySem PySem.Spec
theorem f_classes (n : Nat) : fns tbl (n + 1) "classes" = d_classes.run (fns tbl n) := fns_at (by kernel_rfl)
def classD (N : List Str) (L : Str → Str) : List D := (N.filter fun x => L x == x).map fun low => .tuple ((N.filter fun y => L y == low).map .str)
theorem classes_ok {n : Nat} {N : List Str} {L : Str → Str} (ho : ∀ x ∈ N, okS x) (hL : ∀ x ∈ N, L x ∈ N) (hl : N.length ≤ 1000) :
    fns tbl (n + 1) "classes" [.im (.tuple (N.map .str)), .ow .bor (.dict (dictD N L))] = some (.fr (.list (classD N L)), [.im (.tuple (N.map .str)), .ow .bor (.dict (dictD N L))]) := by
  rw [f_classes]
  have pl := dict_plain (N := N) (L := L)
  have l1 : N.length ≤ lim := lim_le hl
  have go : ∃ y, d_classes.run (fns tbl n) [.im (.tuple (N.map .str)), .ow .bor (.dict (dictD N L))] = some (.fr y, [.im (.tuple (N.map .str)), .ow .bor (.dict (dictD N L))]) ∧ y = .list (classD N L) := by
    refine run_fr rfl fun Q q => ?_
    simp only [d_classes, List.replicate, List.cons_append, List.nil_append]
    refine bw_cons fun _ hr => ?_
    have st : exec (fns tbl n) (.ret (.lc [2] (.x (.v 0)) (.n 2) (.cmp .Eq (.ix (.v 1) (.v 2)) (.v 2)) (.bi .tuple (.cons (.lc [3] (.x (.v 0)) (.n 3) (.cmp .Eq (.ix (.v 1) (.v 3)) (.v 2)) (.v 3)) .nil)))) [.im (.tuple (N.map .str)), .ow .bor (.dict (dictD N L)), .un, .un] =
        some (.rt (.fr (.list (classD N L))) [.im (.tuple (N.map .str)), .ow .bor (.dict (dictD N L)), .un, .un]) := by
      simp
      rw [lcRun_of (α := Str) (k := .str) (fun x => if (L x == x) = true then some (.tuple ((N.filter fun y => L y == x).map .str)) else none)]
      · rw [fm_if]
        simp [backE, unlockE, lockE, wipeE, classD]
      · intro x hx
        have ox := ho x hx
        have ol := ho _ (hL x hx)
        have lx := dict_look (L := L) hx
        cases z : (L x == x)
        · simp [wipeE, lockE, pl, isKey, lx, ox, ol, eqv_str, z]
        · simp [wipeE, lockE, pl, isKey, lx, ox, ol, eqv_str, z]
          rw [lcRun_of (α := Str) (k := .str) (fun y => if (L y == x) = true then some (.str y) else none)]
          · rw [fm_if]
            simp [backE, unlockE, lockE, wipeE]
          · intro y hy
            have oy := ho _ (hL y hy)
            have ly := dict_look (L := L) hy
            cases z2 : (L y == x) <;> simp [wipeE, lockE, pl, isKey, ly, ox, oy, eqv_str, z2]
          · rfl
          · exact l1
      · rfl
      · exact l1
    rw [st, stepO_rt]
    exact q _ _ (fin_same [.im (.tuple (N.map .str)), .ow .bor (.dict (dictD N L))] _) rfl
  obtain ⟨y, e, rfl⟩ := go
  exact e
end DI.Law

set_option maxRecDepth 100000
namespace DI
open PySem PySem.Spec
theorem cut1 {a : D} {xs : List D} : cutL (a :: xs) (some 1) none = xs := cut_from (k := 1)
end DI
namespace DI.Law
open PySem PySem.Spec
theorem f_spots (n : Nat) : fns tbl (n + 1) "_law_spots" = d_l_spots.run (fns tbl n) := fns_at (by kernel_rfl)
theorem spots_okA {n : Nat} {s : Sl} {rs : List W3} (hs : s = .im (.tuple (rs.map row3)) ∨ s = .ow .bor (.list (rs.map row3))) (ho : OkW rs) (hl : rs.length ≤ 400) : fns tbl (n + 1) "_law_spots" [s] = some (.fr (.list ((nodesS rs).map .str)), [s]) := by
  rw [f_spots]
  have hls : ∃ (ls : List Nat) (s' : Sl), evI (fns tbl n) (.x (.v 0)) [s, .ow .own (.list []), .un, .un] = some (ls, rs.map row3, [s, .ow .own (.list []), .un, .un]) ∧ (∀ a b c, lockE [s, a, b, c] ls = [s', a, b, c]) ∧ (∀ a b c x y z, unlockE [s, a, b, c] [s', x, y, z] ls = [s, x, y, z]) ∧ (∀ a, finSl [s] (s :: a) = [s]) ∧ (∀ a x y z w, forget [s', .ow .own a, .un, .un] [x, y, z, w] = [x, y, .un, .un]) ∧ ∀ a b x y z w, forget [s', .ow .own a, .im b, .un] [x, y, z, w] = [x, y, z, .un] := by
    rcases hs with rfl | rfl
    · exact ⟨[], _, by simp, fun _ _ _ => rfl, fun _ _ _ _ _ _ => rfl, fun a => by cases a <;> rfl, fun _ _ _ _ _ => rfl, fun _ _ _ _ _ _ => rfl⟩
    · exact ⟨[0], .ow .lck (.list (rs.map row3)), by simp, fun _ _ _ => rfl, fun _ _ _ _ _ _ => rfl, fun a => by cases a <;> rfl, fun _ _ _ _ _ => rfl, fun _ _ _ _ _ _ => rfl⟩
  obtain ⟨ls, s', hI, hlock, hunl, hfin, hf1, hf2⟩ := hls
  clear hs
  have go : ∃ x, d_l_spots.run (fns tbl n) [s] = some (.fr x, [s]) ∧ x = .list ((nodesS rs).map .str) := by
    refine run_fr rfl fun Q q => ?_
    simp only [d_l_spots, List.replicate, List.cons_append, List.nil_append]
    refine bw_cons fun _ hr => ?_
    simp [lim_le]
    subst hr
    refine bw_for (ls := ls) (ds := rs.map row3) (env1 := [s, .ow .own (.list []), .un, .un])
      (fun rem e => ∃ (dn ts : List W3) (acc : List Str), rem = ts.map row3 ∧ rs = dn ++ ts ∧ e = [s', .ow .own (.list (acc.map .str)), .un, .un] ∧ acc.Nodup ∧ acc.length ≤ 2 * dn.length ∧ (∀ x ∈ acc, okS x) ∧ ∀ x, x ∈ acc ↔ ∃ r ∈ dn, x = r.2.1 ∨ x = r.2.2) ?_ ?_ ?_ ?_
    · exact hI
    · exact ⟨[], rs, [], rfl, rfl, hlock _ _ _, .nil, by simp, fun _ h => (by cases h), fun x => by simp⟩
    · rintro d rem e ⟨dn, ts, acc, hx, hrs, rfl, nd, hlen, hok, hm⟩ K L
      cases ts with
      | nil => cases hx
      | cons r ts =>
      rw [List.map_cons] at hx
      obtain ⟨rfl, rfl⟩ := List.cons.inj hx
      have hr3 : ok3 r := ho r (by rw [hrs]; simp)
      have hdl : dn.length + ts.length + 1 = rs.length := by rw [hrs]; simp; omega
      refine ⟨_, by simp; rfl, ?_⟩
      refine bw_for (ls := []) (ds := [.str r.2.1, .str r.2.2]) (env1 := [s', .ow .own (.list (acc.map .str)), .im (row3 r), .un])
        (fun rem e => ∃ (us ac : List Str), rem = us.map .str ∧ e = [s', .ow .own (.list (ac.map .str)), .im (row3 r), .un] ∧ ac.Nodup ∧ ac.length + us.length ≤ acc.length + 2 ∧ (∀ x ∈ ac, okS x) ∧ (∀ x ∈ us, okS x) ∧ ∀ x, (x ∈ ac ∨ x ∈ us) ↔ (x ∈ acc ∨ x = r.2.1 ∨ x = r.2.2)) ?_ ?_ ?_ ?_
      · simp [row3, cut1]
      · exact ⟨[r.2.1, r.2.2], acc, rfl, rfl, nd, by simp, hok, by simpa using hr3.2, fun x => by simp⟩
      · rintro d2 rem2 e2 ⟨us, ac, hx2, rfl, nd2, hl2, hok2, hus, hm2⟩ K2 L2
        cases us with
        | nil => cases hx2
        | cons u us =>
        rw [List.map_cons] at hx2
        obtain ⟨rfl, rfl⟩ := List.cons.inj hx2
        have hu := hus u List.mem_cons_self
        have e1 := inD_strs hu hok2
        have ll : ac.length < lim := lim_lt (by simp only [List.length_cons] at hl2; omega)
        refine ⟨_, by simp; rfl, ?_⟩
        rw [bw_if]
        by_cases hin : u ∈ ac
        · simp [e1, hin]
          exact bw_nil (L2.nx _ ⟨us, ac, rfl, by simp [hf2, lockE], nd2, by simp only [List.length_cons] at hl2; omega, hok2, fun x hx => hus x (List.mem_cons_of_mem _ hx), fun x => by
            rw [← hm2 x]
            constructor
            · rintro (h | h)
              · exact .inl h
              · exact .inr (List.mem_cons_of_mem _ h)
            · rintro (h | h)
              · exact .inl h
              · rcases List.mem_cons.mp h with rfl | h
                · exact .inl hin
                · exact .inr h⟩)
        · simp [e1, hin]
          refine bw_cons fun _ hr => ?_
          simp [ll, lim_le]
          subst hr
          refine bw_nil (L2.nx _ ⟨us, ac ++ [u], rfl, by simp [hf2, lockE], ?_, by simp only [List.length_cons, List.length_append, List.length_nil] at hl2 ⊢; omega, ?_, fun x hx => hus x (List.mem_cons_of_mem _ hx), fun x => ?_⟩)
          · rw [List.nodup_append]
            exact ⟨nd2, by simp, fun a ha b hb => by rw [List.mem_singleton.mp hb]; exact fun z => hin (z ▸ ha)⟩
          · intro x hx
            rcases List.mem_append.mp hx with h | h
            · exact hok2 x h
            · rw [List.mem_singleton.mp h]; exact hu
          · rw [← hm2 x]
            simp only [List.mem_append, List.mem_cons, List.not_mem_nil, or_false]
            constructor
            · rintro ((h | h) | h)
              · exact .inl h
              · exact .inr (.inl h)
              · exact .inr (.inr h)
            · rintro (h | h | h)
              · exact .inl (.inl h)
              · exact .inl (.inr h)
              · exact .inr h
      · rintro e2 ⟨us, ac, hx2, rfl, nd2, hl2, hok2, hus, hm2⟩
        have hu0 : us = [] := by
          cases us with
          | nil => rfl
          | cons u us => cases hx2
        subst hu0
        refine bw_nil (L.nx _ ⟨dn ++ [r], ts, ac, rfl, by rw [hrs]; simp, by simp [hf1, hlock, unlockE], nd2, by simp only [List.length_append, List.length_cons, List.length_nil] at hl2 ⊢; omega, hok2, fun x => ?_⟩)
        have := hm2 x
        simp only [List.not_mem_nil, or_false] at this
        rw [this, hm x]
        constructor
        · rintro (⟨r', h1, h2⟩ | h)
          · exact ⟨r', List.mem_append_left _ h1, h2⟩
          · exact ⟨r, by simp, h⟩
        · rintro ⟨r', h1, h2⟩
          rcases List.mem_append.mp h1 with h1 | h1
          · exact .inl ⟨r', h1, h2⟩
          · rw [List.mem_singleton.mp h1] at h2
            exact .inr h2
    · rintro e ⟨dn, ts, acc, hx, hrs, rfl, nd, hlen, hok, hm⟩
      have ht : ts = [] := by
        cases ts with
        | nil => rfl
        | cons t ts => cases hx
      subst ht
      rw [List.append_nil] at hrs
      have e1 := sortedD_strs hok
      refine bw_cons fun _ hr => ?_
      rw [hunl]
      simp [e1]
      refine q _ _ (hfin _) ?_
      have : sortBy strLt acc = nodesS rs := rise_eq (sorted_strict nd) nodes_up fun x => by
        rw [(sortBy_perm (lt := strLt) _).mem_iff, hm x, nodes_mem, hrs]
      rw [this]
  obtain ⟨x, e, rfl⟩ := go
  exact e
theorem spots_ok {n : Nat} {rs : List W3} (ho : OkW rs) (hl : rs.length ≤ 400) : fns tbl (n + 1) "_law_spots" [.im (.tuple (rs.map row3))] = some (.fr (.list ((nodesS rs).map .str)), [.im (.tuple (rs.map row3))]) := spots_okA (.inl rfl) ho hl
end DI.Law

set_option maxRecDepth 100000
namespace DI
open PySem PySem.Spec
/-! the law's own joining of ends: marks go down, round by round -/
def stepF (M : Str → Str) (a b : Str) : Str → Str := fun x => if x = a ∨ x = b then loS (M a) (M b) else M x
def rowsF : List (Str × Str) → (Str → Str) → Str → Str
  | [], M => M
  | p :: ps, M => rowsF ps (stepF M p.1 p.2)
def roundsF (E : List (Str × Str)) : Nat → (Str → Str) → Str → Str
  | 0, M => M
  | k + 1, M => roundsF E k (rowsF E M)
theorem nd_len2 {α : Type} [DecidableEq α] : ∀ {l m : List α}, l.Nodup → (∀ x ∈ l, x ∈ m) → l.length ≤ m.length
  | [], _, _, _ => Nat.zero_le _
  | x :: l, m, nd, h => by
    obtain ⟨h1, h2⟩ := List.nodup_cons.mp nd
    have hx := h x List.mem_cons_self
    have ih := nd_len2 (l := l) (m := m.erase x) h2 fun y hy => (List.mem_erase_of_ne (fun e => h1 (by rw [← e]; exact hy))).mpr (h y (List.mem_cons_of_mem _ hy))
    rw [List.length_erase_of_mem hx] at ih
    have : 0 < m.length := List.length_pos_of_mem hx
    rw [List.length_cons]
    omega
theorem cross2 {E : Eg} {h : List Str} {x y : Str} (c : Cn E x y) (hx : x ∈ h) (hy : y ∉ h) : ∃ p ∈ E, (p.1 ∈ h ∧ p.2 ∉ h) ∨ (p.2 ∈ h ∧ p.1 ∉ h) := by
  induction c with
  | refl => exact absurd hx hy
  | @step y z _ e ih =>
    by_cases hm : y ∈ h
    · rcases e with e | e
      · exact ⟨_, e, .inl ⟨hm, hy⟩⟩
      · exact ⟨_, e, .inr ⟨hm, hy⟩⟩
    · exact ih hm
section
variable {N : List Str} {E : Eg} {L M : Str → Str}
/-- marks on the way -/
structure MOk (N : List Str) (E : Eg) (M : Str → Str) : Prop where
  mem : ∀ x ∈ N, M x ∈ N
  cn : ∀ x ∈ N, Cn E x (M x)
  le : ∀ x ∈ N, strLt x (M x) = false
theorem le_trans' {a b c : Str} (h1 : strLt b a = false) (h2 : strLt c b = false) : strLt c a = false := by
  cases e : strLt c a with
  | false => rfl
  | true =>
    by_cases q : strLt a b = true
    · have := strLt_trans e q
      rw [h2] at this
      cases this
    · have q' : strLt a b = false := by simpa using q
      have := strLt_an _ _ h1 q'
      subst this
      rw [h2] at e
      cases e
theorem lo_l {a b : Str} : strLt a (loS a b) = false := by
  rcases lo_hi (a := a) (b := b) with ⟨e, _⟩ | ⟨e, e2⟩
  · rw [e]; exact strLt_irr _
  · have := lo_le (a := a) (b := b)
    rw [e2] at this
    exact this
theorem lo_r {a b : Str} : strLt b (loS a b) = false := by
  rcases lo_hi (a := a) (b := b) with ⟨e, e2⟩ | ⟨e, e2⟩
  · have := lo_le (a := a) (b := b)
    rw [e2] at this
    exact this
  · rw [e]; exact strLt_irr _
theorem MOk.step (h : MOk N E M) {a b : Str} (ha : a ∈ N) (hb : b ∈ N) (e : (a, b) ∈ E) : MOk N E (stepF M a b) := by
  have ab : Cn E a b := .edge e
  have key : loS (M a) (M b) ∈ N ∧ Cn E a (loS (M a) (M b)) := by
    rcases lo_hi (a := M a) (b := M b) with ⟨e1, _⟩ | ⟨e1, _⟩ <;> rw [e1]
    · exact ⟨h.mem a ha, h.cn a ha⟩
    · exact ⟨h.mem b hb, ab.trans (h.cn b hb)⟩
  refine ⟨fun x hx => ?_, fun x hx => ?_, fun x hx => ?_⟩ <;> unfold stepF <;> split
  · exact key.1
  · exact h.mem x hx
  · rename_i q
    rcases q with rfl | rfl
    · exact key.2
    · exact ab.symm.trans key.2
  · exact h.cn x hx
  · rename_i q
    rcases q with rfl | rfl
    · exact le_trans' lo_l (h.le _ ha)
    · exact le_trans' lo_r (h.le _ hb)
  · exact h.le x hx
/-- a mark that is the least one stays, and goes along an edge -/
theorem step_keep (hL : LeastL N E L) (h : MOk N E M) {a b x : Str} (ha : a ∈ N) (hb : b ∈ N) (e : (a, b) ∈ E) (hx : x ∈ N) (q : M x = L x ∨ ((x = a ∨ x = b) ∧ (M a = L a ∨ M b = L b))) : stepF M a b x = L x := by
  have lab : L a = L b := hL.iff a ha b hb (.edge e)
  have l1 : strLt (M a) (L a) = false := hL.least ha (h.mem a ha) (h.cn a ha)
  have l2 : strLt (M b) (L b) = false := hL.least hb (h.mem b hb) (h.cn b hb)
  have lo : (M a = L a ∨ M b = L b) → loS (M a) (M b) = L a := fun z => by
    rcases z with z | z
    · rw [z]
      unfold loS
      rw [← lab] at l2
      rw [l2]
      rfl
    · rw [z, ← lab]
      unfold loS
      split
      · rfl
      · rename_i w
        have w' : strLt (L a) (M a) = false := by simpa using w
        exact strLt_an _ _ l1 w'
  unfold stepF
  split
  · rename_i w
    have c : M a = L a ∨ M b = L b := by
      rcases q with q | ⟨_, q⟩
      · rcases w with rfl | rfl
        · exact .inl q
        · exact .inr q
      · exact q
    rw [lo c]
    rcases w with rfl | rfl
    · rfl
    · exact lab
  · rename_i w
    rcases q with q | ⟨q, _⟩
    · exact q
    · exact absurd q w
theorem rows_keep (hL : LeastL N E L) : ∀ (F : Eg) (M : Str → Str), (∀ p ∈ F, p ∈ E ∧ p.1 ∈ N ∧ p.2 ∈ N) → MOk N E M →
    MOk N E (rowsF F M) ∧ (∀ x ∈ N, M x = L x → rowsF F M x = L x) ∧ ∀ p ∈ F, (M p.1 = L p.1 ∨ M p.2 = L p.2) → rowsF F M p.1 = L p.1 ∧ rowsF F M p.2 = L p.2
  | [], M, _, h => ⟨h, fun _ _ q => q, fun _ h => by cases h⟩
  | p :: F, M, hF, h => by
    obtain ⟨e, ha, hb⟩ := hF p List.mem_cons_self
    have h' := h.step ha hb e
    obtain ⟨i1, i2, i3⟩ := rows_keep hL F (stepF M p.1 p.2) (fun q hq => hF q (List.mem_cons_of_mem _ hq)) h'
    have keep : ∀ x ∈ N, M x = L x → stepF M p.1 p.2 x = L x := fun x hx q => step_keep hL h ha hb e hx (.inl q)
    refine ⟨i1, fun x hx q => i2 x hx (keep x hx q), fun r hr q => ?_⟩
    rcases List.mem_cons.mp hr with rfl | hr
    · exact ⟨i2 _ ha (step_keep hL h ha hb e ha (.inr ⟨.inl rfl, q⟩)), i2 _ hb (step_keep hL h ha hb e hb (.inr ⟨.inr rfl, q⟩))⟩
    · obtain ⟨_, ra, rb⟩ := hF r (List.mem_cons_of_mem _ hr)
      exact i3 r hr (q.imp (keep _ ra) (keep _ rb))
theorem rounds_keep (hL : LeastL N E L) (hE : ∀ p ∈ E, p.1 ∈ N ∧ p.2 ∈ N) (nd : N.Nodup) : ∀ (k : Nat) (M : Str → Str), MOk N E M →
    MOk N E (roundsF E k M) ∧ ((∀ x ∈ N, roundsF E k M x = L x) ∨ (N.filter fun x => M x == L x).length + k ≤ (N.filter fun x => roundsF E k M x == L x).length)
  | 0, M, h => ⟨h, .inr (Nat.le_refl _)⟩
  | k + 1, M, h => by
    obtain ⟨i1, i2, i3⟩ := rows_keep hL E M (fun p hp => ⟨hp, hE p hp⟩) h
    obtain ⟨j1, j2⟩ := rounds_keep hL hE nd k (rowsF E M) i1
    refine ⟨j1, ?_⟩
    rcases j2 with j2 | j2
    · exact .inl j2
    by_cases all : ∀ x ∈ N, M x = L x
    · -- all right already: they stay so
      refine .inl ?_
      have stay : ∀ (k : Nat) (M : Str → Str), MOk N E M → (∀ x ∈ N, M x = L x) → ∀ x ∈ N, roundsF E k M x = L x := fun k => by
        induction k with
        | zero => exact fun M _ h => h
        | succ k ih => exact fun M hM h => ih _ (rows_keep hL E M (fun p hp => ⟨hp, hE p hp⟩) hM).1 fun x hx => (rows_keep hL E M (fun p hp => ⟨hp, hE p hp⟩) hM).2.1 x hx (h x hx)
      exact stay (k + 1) M h all
    · obtain ⟨x, hx, nx⟩ : ∃ x ∈ N, M x ≠ L x := by
        refine Classical.byContradiction fun z => all fun x hx => Classical.byContradiction fun w => z ⟨x, hx, w⟩
      refine .inr ?_
      have ml : M (L x) = L (L x) := by
        have hl := hL.mem x hx
        have a := h.le _ hl
        have b := hL.least hx (h.mem _ hl) ((hL.cn x hx).trans (h.cn _ hl))
        rw [hL.idem hx]
        exact strLt_an _ _ b a
      have mf : ∀ (M : Str → Str) x, x ∈ (N.filter fun x => M x == L x) ↔ x ∈ N ∧ M x = L x := fun M x => by rw [List.mem_filter, beq_iff_eq]
      obtain ⟨p, hp, q⟩ := cross2 (h := N.filter fun x => M x == L x) (hL.cn x hx).symm ((mf M _).mpr ⟨hL.mem x hx, ml⟩) (fun z => nx ((mf M _).mp z).2)
      have sub : ∀ y ∈ N.filter (fun x => M x == L x), y ∈ N.filter fun x => rowsF E M x == L x := fun y hy => by
        obtain ⟨y1, y2⟩ := (mf M y).mp hy
        exact (mf _ y).mpr ⟨y1, i2 y y1 y2⟩
      have nd' : (N.filter fun x => M x == L x).Nodup := List.Pairwise.sublist List.filter_sublist nd
      have one : ∀ z, z ∈ N → z ∉ (N.filter fun x => M x == L x) → rowsF E M z = L z → (N.filter fun x => M x == L x).length + 1 ≤ (N.filter fun x => rowsF E M x == L x).length := fun z hz nz ez => by
        have := nd_len2 (l := z :: N.filter fun x => M x == L x) (m := N.filter fun x => rowsF E M x == L x) (List.nodup_cons.mpr ⟨nz, nd'⟩) fun y hy => by
          rcases List.mem_cons.mp hy with rfl | hy
          · exact (mf _ _).mpr ⟨hz, ez⟩
          · exact sub y hy
        exact this
      obtain ⟨pa, pb⟩ := hE p hp
      have : (N.filter fun x => M x == L x).length + 1 ≤ (N.filter fun x => rowsF E M x == L x).length := by
        rcases q with ⟨q1, q2⟩ | ⟨q1, q2⟩
        · exact one _ pb q2 (i3 p hp (.inl ((mf M _).mp q1).2)).2
        · exact one _ pa q2 (i3 p hp (.inr ((mf M _).mp q1).2)).1
      show (N.filter fun x => M x == L x).length + (k + 1) ≤ (N.filter fun x => roundsF E k (rowsF E M) x == L x).length
      omega
/-- as many rounds as there are nodes -/
theorem rounds_least (hL : LeastL N E L) (hE : ∀ p ∈ E, p.1 ∈ N ∧ p.2 ∈ N) (nd : N.Nodup) : ∀ x ∈ N, roundsF E N.length id x = L x := by
  have h0 : MOk N E id := ⟨fun _ h => h, fun _ _ => .refl _, fun _ _ => strLt_irr _⟩
  obtain ⟨_, j⟩ := rounds_keep hL hE nd N.length id h0
  rcases j with j | j
  · exact j
  · have le := List.length_filter_le (fun x => roundsF E N.length id x == L x) N
    have e : (N.filter fun x => roundsF E N.length id x == L x).length = N.length := by omega
    intro x hx
    have := List.length_filter_eq_length_iff.mp e x hx
    exact beq_iff_eq.mp this
end
end DI

set_option maxRecDepth 100000
namespace DI.Law
open PySem PySem.Spec
/-! the law's own groups -/
theorem f_due (n : Nat) : fns tbl (n + 1) "_law_due" = d_l_due.run (fns tbl n) := fns_at (by kernel_rfl)
def idxS : List Str → Str → Nat
  | [], _ => 0
  | a :: A, t => if a = t then 0 else idxS A t + 1
theorem idx_at : ∀ {A : List Str} {t : Str}, t ∈ A → A[idxS A t]? = some t ∧ idxS A t < A.length ∧ firstIx (.str t) (A.map .str) = some (idxS A t)
  | a :: A, t, h => by
    simp only [idxS, List.map_cons, firstIx, eqv_str]
    by_cases c : a = t
    · subst c; simp
    · obtain ⟨h1, h2, h3⟩ := idx_at (A := A) ((List.mem_cons.mp h).resolve_left fun z => c z.symm)
      have cb : (a == t) = false := beq_false_of_ne c
      simp only [if_neg c, cb, h3, Bool.false_eq_true, if_false]
      exact ⟨by simpa using h1, by simp; omega, rfl⟩
theorem idx_lt : ∀ {A : List Str} {x y : Str}, (A.Pairwise fun a b => strLt a b = true) → x ∈ A → y ∈ A → (idxS A y < idxS A x ↔ strLt y x = true)
  | a :: A, x, y, h, hx, hy => by
    obtain ⟨h1, h2⟩ := List.pairwise_cons.mp h
    simp only [idxS]
    by_cases cx : a = x
    · subst cx
      rw [if_pos rfl]
      by_cases cy : a = y
      · subst cy
        simp [strLt_irr]
      · rw [if_neg cy]
        have := strLt_as _ _ (h1 y ((List.mem_cons.mp hy).resolve_left fun z => cy z.symm))
        simp [this]
    · rw [if_neg cx]
      have hx' := (List.mem_cons.mp hx).resolve_left fun z => cx z.symm
      by_cases cy : a = y
      · subst cy
        rw [if_pos rfl]
        simp [h1 x hx']
      · rw [if_neg cy]
        have hy' := (List.mem_cons.mp hy).resolve_left fun z => cy z.symm
        have := idx_lt (A := A) h2 hx' hy'
        rw [← this]
        omega
theorem idx_inj {A : List Str} {x y : Str} (hx : x ∈ A) (hy : y ∈ A) (h : idxS A x = idxS A y) : x = y := by
  have a := (idx_at hx).1
  have b := (idx_at hy).1
  rw [h, b] at a
  exact (Option.some.inj a).symm
def nat1 (k : Nat) : D := .int (k : Int)
theorem atN {M : List Nat} {k v : Nat} (h : M[k]? = some v) : L2.atI (M.map nat1) (k : Int) = some (nat1 v) := L2.atI_nat (by rw [List.getElem?_map, h]; rfl)
theorem ixN_lt {m k : Nat} (h : k < m) : L2.ixN m (k : Int) = some k := by
  unfold L2.ixN
  rw [if_pos (by omega), if_pos (by omega)]
  simp
/-- the marks as places -/
def mkL (N : List Str) (M : Str → Str) : List Nat := N.map fun x => idxS N (M x)
theorem mk_len {N : List Str} {M : Str → Str} : (mkL N M).length = N.length := List.length_map ..
theorem mk_at {N : List Str} {M : Str → Str} {x : Str} (hx : x ∈ N) : L2.atI ((mkL N M).map nat1) (idxS N x : Int) = some (nat1 (idxS N (M x))) :=
  atN (by unfold mkL; rw [List.getElem?_map, (idx_at hx).1]; rfl)
theorem set_map {N : List Str} {g : Str → Nat} {a : Str} {w : Nat} (nd : N.Nodup) : (N.map g).set (idxS N a) w = N.map fun x => if x = a then w else g x := by
  induction N with
  | nil => rfl
  | cons y N ih =>
    obtain ⟨h1, h2⟩ := List.nodup_cons.mp nd
    simp only [idxS]
    by_cases c : y = a
    · subst c
      simp
      intro z hz e
      exact absurd (e ▸ hz) h1
    · simp [c, ih h2]
theorem mk_step {N : List Str} {M : Str → Str} {a b : Str} (nd : N.Nodup) : ((mkL N M).set (idxS N a) (idxS N (loS (M a) (M b)))).set (idxS N b) (idxS N (loS (M a) (M b))) = mkL N (stepF M a b) := by
  unfold mkL
  rw [set_map nd, set_map nd]
  apply List.map_congr_left
  intro x hx
  unfold stepF
  by_cases c1 : x = b
  · simp [c1]
  · by_cases c2 : x = a <;> simp [c1, c2]
theorem mk_id {N : List Str} (nd : N.Nodup) : mkL N id = List.range N.length := by
  apply List.ext_getElem?
  intro i
  unfold mkL
  rw [List.getElem?_map]
  by_cases hi : i < N.length
  · rw [List.getElem?_range hi, List.getElem?_eq_getElem hi]
    simp only [Option.map_some, id_eq]
    have : idxS N N[i] = i := by
      have a := (idx_at (List.getElem_mem hi)).1
      have b := (idx_at (List.getElem_mem hi)).2.1
      rw [List.getElem?_eq_getElem b] at a
      have e := Option.some.inj a
      have pw := List.pairwise_iff_getElem.mp nd
      rcases Nat.lt_trichotomy (idxS N N[i]) i with q | q | q
      · exact absurd e (pw _ _ b hi q)
      · exact q
      · exact absurd e.symm (pw _ _ hi b q)
    rw [this]
  · rw [List.getElem?_eq_none (by omega), List.getElem?_eq_none (by rw [List.length_range]; omega)]
    rfl
theorem range_nat1 : ∀ (lo k : Nat), rangeL (lo : Int) k = (List.range' lo k).map nat1
  | _, 0 => rfl
  | lo, k + 1 => by
    rw [rangeL, List.range'_succ, List.map_cons]
    have := range_nat1 (lo + 1) k
    rw [show ((lo + 1 : Nat) : Int) = (lo : Int) + 1 by omega] at this
    rw [this]
    rfl
def duE (rs : List W3) (N : List Str) (k : Kd) (M : Str → Str) (x3 x4 x5 x6 x7 x8 x9 : Sl) : Env := [.im (.tuple (rs.map row3)), .ow k (.list (N.map .str)), .ow .own (.list ((mkL N M).map nat1)), x3, x4, x5, x6, x7, x8, x9, .un]
def duB : Sms := match d_l_due.body with
  | .cons _ (.cons _ (.cons (.for _ _ b) _)) => b
  | _ => .nil
def duB2 : Sms := match duB with
  | .cons (.for _ _ b) _ => b
  | _ => .nil
section
variable {Φ : Fns} {rs : List W3} {N : List Str} {kd : Kd} {M : Str → Str} {x3 x4 x8 x9 : Sl}
/-- one row -/
theorem du_row {r : W3} (up : N.Pairwise fun a b => strLt a b = true) (oN : ∀ x ∈ N, okS x) (mM : ∀ x ∈ N, M x ∈ N) (ha : r.2.1 ∈ N) (hb : r.2.2 ∈ N) {K : Out → Prop}
    (q : ∀ x5 x6 x7, K (.nx (duE rs N kd (stepF M r.2.1 r.2.2) x3 (.im (row3 r)) x5 x6 x7 x8 x9))) :
    BW Φ duB2 (duE rs N kd M x3 (.im (row3 r)) .un .un .un x8 x9) K := by
  have nd : N.Nodup := up.imp fun h => strLt_ne h
  have sh : SeqAt.shaped (.list (N.map .str)) = true := sh_strs oN
  have o1 := oN _ ha
  have o2 := oN _ hb
  have f1 := (idx_at ha).2.2
  have f2 := (idx_at hb).2.2
  have a1 := mk_at (M := M) ha
  have a2 := mk_at (M := M) hb
  simp only [nat1] at a1 a2
  simp only [duB2, duB, d_l_due]
  refine bw_cons fun _ hr => ?_
  have s1 : exec Φ (.par [5, 6] (.cons (.mi .index (.v 1) (.ix (.v 4) (.c (.int 1)))) (.cons (.mi .index (.v 1) (.ix (.v 4) (.c (.int 2)))) .nil))) (duE rs N kd M x3 (.im (row3 r)) .un .un .un x8 x9) = some (.nx (duE rs N kd M x3 (.im (row3 r)) (.im (nat1 (idxS N r.2.1))) (.im (nat1 (idxS N r.2.2))) .un x8 x9)) := by
    simp [duE, row3, ix1, ix2, sh, o1, o2, f1, f2, nat1]
  rw [s1, stepO_nx]
  subst hr
  refine bw_cons fun _ hr => ?_
  have s2 : exec Φ (.set 7 (.bi .min (.cons (.ix (.v 2) (.v 5)) (.cons (.ix (.v 2) (.v 6)) .nil)))) (duE rs N kd M x3 (.im (row3 r)) (.im (nat1 (idxS N r.2.1))) (.im (nat1 (idxS N r.2.2))) .un x8 x9) = some (.nx (duE rs N kd M x3 (.im (row3 r)) (.im (nat1 (idxS N r.2.1))) (.im (nat1 (idxS N r.2.2))) (.im (nat1 (idxS N (loS (M r.2.1) (M r.2.2))))) x8 x9)) := by
    have c := idx_lt up (mM _ ha) (mM _ hb)
    have e : (if (idxS N (M r.2.2) : Int) < (idxS N (M r.2.1) : Int) then (idxS N (M r.2.2) : Int) else (idxS N (M r.2.1) : Int)) = (idxS N (loS (M r.2.1) (M r.2.2)) : Int) := by
      unfold loS
      by_cases z : strLt (M r.2.2) (M r.2.1) = true
      · have := c.mpr z
        rw [if_pos (by omega), if_pos z]
      · have : ¬ idxS N (M r.2.2) < idxS N (M r.2.1) := fun w => z (c.mp w)
        rw [if_neg (by omega), if_neg z]
    simp [duE, nat1, a1, a2]
    simpa using e
  rw [s2, stepO_nx]
  subst hr
  refine bw_cons fun _ hr => ?_
  have i1 := ixN_lt (idx_at ha).2.1
  have i2 := ixN_lt (idx_at hb).2.1
  have s3 : exec Φ (.setIx 2 (.v 5) (.v 7)) (duE rs N kd M x3 (.im (row3 r)) (.im (nat1 (idxS N r.2.1))) (.im (nat1 (idxS N r.2.2))) (.im (nat1 (idxS N (loS (M r.2.1) (M r.2.2))))) x8 x9) =
      some (.nx [.im (.tuple (rs.map row3)), .ow kd (.list (N.map .str)), .ow .own (.list (((mkL N M).set (idxS N r.2.1) (idxS N (loS (M r.2.1) (M r.2.2)))).map nat1)), x3, .im (row3 r), .im (nat1 (idxS N r.2.1)), .im (nat1 (idxS N r.2.2)), .im (nat1 (idxS N (loS (M r.2.1) (M r.2.2)))), x8, x9, .un]) := by
    simp [duE, nat1, mk_len, i1, List.map_set]
  rw [s3, stepO_nx]
  subst hr
  refine bw_cons fun _ hr => ?_
  have s4 : exec Φ (.setIx 2 (.v 6) (.v 7)) [.im (.tuple (rs.map row3)), .ow kd (.list (N.map .str)), .ow .own (.list (((mkL N M).set (idxS N r.2.1) (idxS N (loS (M r.2.1) (M r.2.2)))).map nat1)), x3, .im (row3 r), .im (nat1 (idxS N r.2.1)), .im (nat1 (idxS N r.2.2)), .im (nat1 (idxS N (loS (M r.2.1) (M r.2.2)))), x8, x9, .un] =
      some (.nx (duE rs N kd (stepF M r.2.1 r.2.2) x3 (.im (row3 r)) (.im (nat1 (idxS N r.2.1))) (.im (nat1 (idxS N r.2.2))) (.im (nat1 (idxS N (loS (M r.2.1) (M r.2.2))))) x8 x9)) := by
    unfold duE
    rw [← mk_step nd]
    simp [nat1, mk_len, i2, List.map_set]
  rw [s4, stepO_nx]
  subst hr
  exact bw_nil (q _ _ _)
end
def edg (rs : List W3) : List (Str × Str) := rs.map (·.2)
/-- the rounds -/
theorem du_rounds {Φ : Fns} {rs : List W3} {N : List Str} {M : Str → Str} (up : N.Pairwise fun a b => strLt a b = true) (oN : ∀ x ∈ N, okS x) (hN : ∀ r ∈ rs, r.2.1 ∈ N ∧ r.2.2 ∈ N) (mM : ∀ x ∈ N, M x ∈ N) {r : Sms} {K : Out → Prop}
    (q : BW Φ r (duE rs N .own (roundsF (edg rs) N.length M) .un .un .un .un .un .un .un) K) :
    BW Φ (.cons (.for (.x (.v 1)) (.n 3) duB) r) (duE rs N .own M .un .un .un .un .un .un .un) K := by
  have ds := fun (M : Str → Str) (x3 : Sl) (r : W3) (mM : ∀ x ∈ N, M x ∈ N) (ha : r.2.1 ∈ N) (hb : r.2.2 ∈ N) (K : Out → Prop) => du_row (Φ := Φ) (rs := rs) (kd := .lck) (x3 := x3) (x8 := .un) (x9 := .un) up oN mM ha hb (K := K)
  have st : ∀ (M : Str → Str) (r : W3), (∀ x ∈ N, M x ∈ N) → r.2.1 ∈ N → r.2.2 ∈ N → ∀ x ∈ N, stepF M r.2.1 r.2.2 x ∈ N := fun M r mM ha hb x hx => by
    unfold stepF
    split
    · rcases lo_hi (a := M r.2.1) (b := M r.2.2) with ⟨e, _⟩ | ⟨e, _⟩ <;> rw [e]
      · exact mM _ ha
      · exact mM _ hb
    · exact mM x hx
  simp only [duB2, duB, d_l_due] at ds
  simp only [duB, d_l_due]
  refine bw_for (ls := [1]) (ds := N.map .str) (env1 := duE rs N .own M .un .un .un .un .un .un .un)
    (fun rem e => ∃ (ts : List Str) (M' : Str → Str), rem = ts.map .str ∧ (∀ x ∈ N, M' x ∈ N) ∧ roundsF (edg rs) ts.length M' = roundsF (edg rs) N.length M ∧ e = duE rs N .lck M' .un .un .un .un .un .un .un) (by simp [duE]) ⟨N, M, rfl, mM, rfl, by simp [duE, lockE]⟩ ?_ ?_
  · rintro x rem e ⟨ts, M0, hx, h0, hb0, rfl⟩ K2 LK
    cases ts with
    | nil => cases hx
    | cons t ts =>
    rw [List.map_cons] at hx
    obtain ⟨rfl, rfl⟩ := List.cons.inj hx
    refine ⟨duE rs N .lck M0 (.im (.str t)) .un .un .un .un .un .un, by simp [duE], ?_⟩
    refine bw_for (ls := []) (ds := rs.map row3) (env1 := duE rs N .lck M0 (.im (.str t)) .un .un .un .un .un .un)
      (fun rem e => ∃ (us : List W3) (M' : Str → Str), rem = us.map row3 ∧ (∀ r ∈ us, r ∈ rs) ∧ (∀ x ∈ N, M' x ∈ N) ∧ rowsF (edg us) M' = rowsF (edg rs) M0 ∧ e = duE rs N .lck M' (.im (.str t)) .un .un .un .un .un .un) (by simp [duE]) ⟨rs, M0, rfl, fun _ h => h, h0, rfl, by simp [duE, lockE]⟩ ?_ ?_
    · rintro x rem e ⟨us, M', hx, hu, hm, hR, rfl⟩ K3 L3
      cases us with
      | nil => cases hx
      | cons r us =>
      rw [List.map_cons] at hx
      obtain ⟨rfl, rfl⟩ := List.cons.inj hx
      have hr := hN r (hu r List.mem_cons_self)
      refine ⟨duE rs N .lck M' (.im (.str t)) (.im (row3 r)) .un .un .un .un .un, by simp [duE], ?_⟩
      refine ds M' (.im (.str t)) r hm hr.1 hr.2 K3 fun x5 x6 x7 => ?_
      exact L3.nx _ ⟨us, stepF M' r.2.1 r.2.2, rfl, fun r hr => hu r (List.mem_cons_of_mem _ hr), st M' r hm hr.1 hr.2, hR, by simp [duE, lockE, forget]⟩
    · rintro e ⟨us, M', hx, hu, hm, hR, rfl⟩
      have h0' : us = [] := by
        cases us with
        | nil => rfl
        | cons _ _ => cases hx
      subst h0'
      refine bw_nil (LK.nx _ ⟨ts, M', rfl, hm, ?_, by simp [duE, unlockE, lockE, forget]⟩)
      rw [← hb0]
      show _ = roundsF (edg rs) ts.length (rowsF (edg rs) M0)
      rw [← hR]
      rfl
  · rintro e ⟨ts, M', hx, hm, hb0, rfl⟩
    have h0' : ts = [] := by
      cases ts with
      | nil => rfl
      | cons _ _ => cases hx
    subst h0'
    have hb1 : M' = roundsF (edg rs) N.length M := hb0
    subst hb1
    simpa [duE, unlockE] using q
end DI.Law

set_option maxRecDepth 100000
namespace DI.Law
open PySem PySem.Spec
theorem in_nats {k : Nat} {M : List Nat} (hl : M.length ≤ 400) : inD (.int (k : Int)) (.list (M.map nat1)) = some (decide (k ∈ M)) := by
  have fi : fairB (.list (M.map nat1)) = true := by
    rw [fairB, Bool.and_eq_true, decide_eq_true_iff, List.length_map]
    refine ⟨lim_le (by omega), fairAll_iff.mpr fun x hx => ?_⟩
    obtain ⟨i, _, rfl⟩ := List.mem_map.mp hx
    simp [fairB, nat1]
  have di : (PyData.list (M.map nat1)).depth ≤ 64 := by
    simp only [PyData.depth]
    have : PyData.depthAll (M.map nat1) ≤ 0 := depthAll_iff.mpr fun x hx => by
      obtain ⟨i, _, rfl⟩ := List.mem_map.mp hx
      simp [PyData.depth, nat1]
    omega
  have e1 := fair_sh fi di
  have e2 : SeqAt.shaped (.int (k : Int)) = true := sh_int _
  have e3 : ∀ M : List Nat, ((M.map nat1).any fun z => PyData.eqv z (.int (k : Int))) = decide (k ∈ M) := fun M => by
    induction M with
    | nil => rfl
    | cons b M ih =>
      rw [List.map_cons, List.any_cons, ih]
      simp only [nat1, eqv_int]
      by_cases c : b = k
      · subst c; simp
      · have : ((b : Int) == (k : Int)) = false := by simp; omega
        have h2 : ¬ k = b := fun z => c z.symm
        simp [this, h2]
  unfold inD
  dsimp only
  rw [if_pos (by rw [e1, e2]; rfl), e3 M]
def grF (rs : List W3) : Str → Str := mergeL (rs.map (·.1)) rs id
theorem edg_iff {rs : List W3} {p : Str × Str} : p ∈ edgesOf (rs.map (·.1)) rs ↔ p ∈ edg rs := by
  unfold edgesOf edg
  rw [List.mem_map, List.mem_map]
  constructor
  · rintro ⟨r, hr, rfl⟩
    exact ⟨r, (List.mem_filter.mp hr).1, rfl⟩
  · rintro ⟨r, hr, rfl⟩
    exact ⟨r, List.mem_filter.mpr ⟨hr, decide_eq_true (List.mem_map_of_mem hr)⟩, rfl⟩
theorem gr_least (rs : List W3) : LeastL (nodesS rs) (edg rs) (grF rs) := least_edges merged_least fun _ => edg_iff
theorem gr_rounds {rs : List W3} : mkL (nodesS rs) (roundsF (edg rs) (nodesS rs).length id) = mkL (nodesS rs) (grF rs) := by
  unfold mkL
  refine List.map_congr_left fun x hx => ?_
  rw [rounds_least (gr_least rs) (fun p hp => ?_) nodes_nd x hx]
  obtain ⟨r, hr, rfl⟩ := List.mem_map.mp hp
  exact ⟨nodes_mem.mpr ⟨r, hr, .inl rfl⟩, nodes_mem.mpr ⟨r, hr, .inr rfl⟩⟩
def lotS (N : List Str) (L : Str → Str) (low : Str) : D := .tuple ((N.filter fun y => L y == low).map .str)
def duT : Sms := match d_l_due.body with
  | .cons _ (.cons _ (.cons _ r)) => r
  | _ => .nil
def duLc : Xp := .lc [10] (.r1 (.bi .len (.cons (.v 1) .nil))) (.n 10) (.cmp .Eq (.ix (.v 2) (.v 10)) (.v 9)) (.ix (.v 1) (.v 10))
section
variable {Φ : Fns} {rs : List W3} {N : List Str} {M : Str → Str} {x3 x4 x5 x6 x7 x8 : Sl}
theorem rg_names (nd : N.Nodup) : rangeL 0 N.length = N.map fun x => nat1 (idxS N x) := by
  have := range_nat1 0 N.length
  rw [show ((0 : Nat) : Int) = 0 from rfl] at this
  rw [this, ← List.range_eq_range', ← mk_id nd]
  unfold mkL
  rw [List.map_map]
  rfl
theorem at_names {x : Str} (hx : x ∈ N) : L2.atI (N.map PyData.str) (idxS N x : Int) = some (.str x) := L2.atI_nat (by rw [List.getElem?_map, (idx_at hx).1]; rfl)
theorem lot_ev (nd : N.Nodup) (ln : N.length ≤ 400) (mM : ∀ x ∈ N, M x ∈ N) {y : Str} (hy : y ∈ N) :
    ev Φ (.bi .tuple (.cons duLc .nil)) (duE rs N .own M x3 x4 x5 x6 x7 x8 (.im (nat1 (idxS N y)))) = some (.im (lotS N M y), duE rs N .own M x3 x4 x5 x6 x7 x8 (.im (nat1 (idxS N y)))) := by
  have i62 : in62 ((N.length : Nat) : Int) = true := in62_of (by omega) (by omega)
  have eI : evI Φ (.r1 (.bi .len (.cons (.v 1) .nil))) (duE rs N .own M x3 x4 x5 x6 x7 x8 (.im (nat1 (idxS N y)))) = some ([], N.map fun x => nat1 (idxS N x), duE rs N .own M x3 x4 x5 x6 x7 x8 (.im (nat1 (idxS N y)))) := by
    rw [← rg_names nd]
    simp [duE, i62]
  have e1 : ev Φ duLc (duE rs N .own M x3 x4 x5 x6 x7 x8 (.im (nat1 (idxS N y)))) = some (.fr (.list ((N.filter fun x => M x == y).map .str)), duE rs N .own M x3 x4 x5 x6 x7 x8 (.im (nat1 (idxS N y)))) := by
    unfold duLc
    rw [ev_lc, eI, lcRun_of (α := Str) (k := fun x => nat1 (idxS N x)) (fun x => if (M x == y) = true then some (.str x) else none)]
    · rw [fm_if]
      simp [backE, unlockE, lockE, wipeE, duE]
    · intro x hx
      have a1 := mk_at (M := M) hx
      have a2 := at_names hx
      have sm : SeqAt.shaped (.int (idxS N (M x) : Int)) = true := sh_int _
      have sy : SeqAt.shaped (.int (idxS N y : Int)) = true := sh_int _
      simp only [nat1] at a1
      have ee : ((idxS N (M x) : Int) == (idxS N y : Int)) = (M x == y) := by
        by_cases c : M x = y
        · rw [c]; simp
        · have : idxS N (M x) ≠ idxS N y := fun z => c (idx_inj (mM x hx) hy z)
          rw [beq_false_of_ne c, beq_eq_false_iff_ne]
          omega
      cases c : (M x == y) <;> (rw [c] at ee; simp [lcTrn, wipeE, lockE, duE, nat1, a1, a2, sm, sy, eqv_int, ee])
    · simp [freeE, duE]
    · exact lim_le (by omega)
  exact ev_bi1 (f := .tuple) e1 (d := .list ((N.filter fun x => M x == y).map .str)) (r' := .im (lotS N M y)) rfl (by simp [lotS])
def dueD (rs : List W3) (N : List Str) (M : Str → Str) : D := .list [.tuple (N.map .str), .tuple (rs.map fun r => .str r.1), .list ((N.filter fun y => M y == y).map (lotS N M)), .int ((N.length : Int) - ((N.filter fun y => M y == y).length : Int))]
theorem du_tail (nd : N.Nodup) (ln : N.length ≤ 400) (lr : rs.length ≤ 400) (mM : ∀ x ∈ N, M x ∈ N) (idm : ∀ x ∈ N, M (M x) = M x) {Q : Out → Prop}
    (q : ∀ e, e.take 1 = [.im (.tuple (rs.map row3))] → Q (.rt (.fr (dueD rs N M)) e)) :
    BW Φ duT (duE rs N .own M .un .un .un .un .un .un .un) Q := by
  have i62 : in62 ((N.length : Nat) : Int) = true := in62_of (by omega) (by omega)
  have le := fun (x8 : Sl) (y : Str) (hy : y ∈ N) => lot_ev (Φ := Φ) (rs := rs) (x3 := .un) (x4 := .un) (x5 := .un) (x6 := .un) (x7 := .un) (x8 := x8) nd ln mM hy
  simp only [duT, d_l_due]
  simp only [duLc] at le
  refine bw_cons fun _ hr => ?_
  have s1 : exec Φ (.set 8 (.lst .nil)) (duE rs N .own M .un .un .un .un .un .un .un) = some (.nx (duE rs N .own M .un .un .un .un .un (.ow .own (.list [])) .un)) := by simp [duE, lim_le]
  rw [s1, stepO_nx]
  subst hr
  refine bw_for (ls := []) (ds := N.map fun x => nat1 (idxS N x)) (env1 := duE rs N .own M .un .un .un .un .un (.ow .own (.list [])) .un)
    (fun rem e => ∃ dn ts : List Str, rem = ts.map (fun x => nat1 (idxS N x)) ∧ dn ++ ts = N ∧ e = duE rs N .own M .un .un .un .un .un (.ow .own (.list ((dn.filter fun y => M y == y).map (lotS N M)))) .un) (by rw [← rg_names nd]; simp [duE, i62]) ⟨[], N, rfl, rfl, by simp [duE, lockE]⟩ ?_ ?_
  · rintro x rem e ⟨dn, ts, hx, hd, rfl⟩ K L
    cases ts with
    | nil => cases hx
    | cons y ts =>
    rw [List.map_cons] at hx
    obtain ⟨rfl, rfl⟩ := List.cons.inj hx
    have hy : y ∈ N := by rw [← hd]; simp
    have ld : (dn.filter fun y => M y == y).length < lim := by
      have := List.length_filter_le (fun y => M y == y) dn
      have h2 := congrArg List.length hd
      rw [List.length_append] at h2
      exact lim_lt (by omega)
    have l2 := le (.ow .own (.list ((dn.filter fun y => M y == y).map (lotS N M)))) y hy
    refine ⟨duE rs N .own M .un .un .un .un .un (.ow .own (.list ((dn.filter fun y => M y == y).map (lotS N M)))) (.im (nat1 (idxS N y))), by simp [duE], ?_⟩
    have inn : inD (.int (idxS N y : Int)) (.list ((mkL N M).map nat1)) = some (M y == y) := by
      rw [in_nats (by rw [mk_len]; exact ln)]
      congr 1
      by_cases c : M y = y
      · have : idxS N y ∈ mkL N M := List.mem_map.mpr ⟨y, hy, by rw [c]⟩
        simp [c, this]
      · have : idxS N y ∉ mkL N M := fun z => by
          obtain ⟨x, hx, e⟩ := List.mem_map.mp z
          have e2 := idx_inj (mM x hx) hy e
          exact c (by rw [← e2]; exact idm x hx)
        simp [c, this]
    have t1 : tstX Φ (.cmp .In (.v 9) (.v 2)) (duE rs N .own M .un .un .un .un .un (.ow .own (.list ((dn.filter fun y => M y == y).map (lotS N M)))) (.im (nat1 (idxS N y)))) = some (M y == y, duE rs N .own M .un .un .un .un .un (.ow .own (.list ((dn.filter fun y => M y == y).map (lotS N M)))) (.im (nat1 (idxS N y)))) := by
      simp [duE, nat1]
      simp [inn]
    rw [bw_if, t1]
    cases c : (M y == y)
    · rw [ifO_f]
      refine bw_nil (L.nx _ ⟨dn ++ [y], ts, rfl, by simpa using hd, ?_⟩)
      simp [duE, lockE, forget, c]
    · rw [ifO_t]
      refine bw_cons fun _ hr => ?_
      generalize (Xp.bi .tuple (.cons (.lc [10] (.r1 (.bi .len (.cons (.v 1) .nil))) (.n 10) (.cmp .Eq (.ix (.v 2) (.v 10)) (.v 9)) (.ix (.v 1) (.v 10))) .nil)) = XX at l2 ⊢
      have st : exec Φ (.ex (.me .append 8 (.cons XX .nil))) (duE rs N .own M .un .un .un .un .un (.ow .own (.list ((dn.filter fun y => M y == y).map (lotS N M)))) (.im (nat1 (idxS N y)))) = some (.nx (duE rs N .own M .un .un .un .un .un (.ow .own (.list (((dn ++ [y]).filter fun y => M y == y).map (lotS N M)))) (.im (nat1 (idxS N y))))) := by
        simp only [exec, ev, evS, l2]
        simp [duE, ld, c]
      rw [st, stepO_nx]
      subst hr
      exact bw_nil (L.nx _ ⟨dn ++ [y], ts, rfl, by simpa using hd, by simp [duE, lockE, forget]⟩)
  · rintro e ⟨dn, ts, hx, hd, rfl⟩
    have h0 : ts = [] := by
      cases ts with
      | nil => rfl
      | cons _ _ => cases hx
    subst h0
    rw [List.append_nil] at hd
    subst hd
    have e4 : ev Φ (.lc [4] (.x (.v 0)) (.n 4) (.c (.bool true)) (.ix (.v 4) (.c (.int 0)))) (duE rs dn .own M .un .un .un .un .un (.ow .own (.list ((dn.filter fun y => M y == y).map (lotS dn M)))) .un) = some (.fr (.list (rs.map fun r => .str r.1)), duE rs dn .own M .un .un .un .un .un (.ow .own (.list ((dn.filter fun y => M y == y).map (lotS dn M)))) .un) := by
      rw [ev_lc]
      have eI : evI Φ (.x (.v 0)) (duE rs dn .own M .un .un .un .un .un (.ow .own (.list ((dn.filter fun y => M y == y).map (lotS dn M)))) .un) = some ([], rs.map row3, duE rs dn .own M .un .un .un .un .un (.ow .own (.list ((dn.filter fun y => M y == y).map (lotS dn M)))) .un) := by simp [duE]
      rw [eI, lcRun_of (α := W3) (k := row3) (fun r => some (.str r.1))]
      · simp [fm_some, backE, unlockE, lockE, wipeE, duE]
      · intro r hr
        simp [lcTrn, wipeE, lockE, duE, row3, ix0]
      · simp [freeE, duE]
      · exact lim_le (by omega)
    have e5 := ev_bi1 (f := .tuple) e4 (d := .list (rs.map fun r => .str r.1)) (r' := .im (.tuple (rs.map fun r => .str r.1))) rfl (by simp)
    generalize (Xp.bi .tuple (.cons (.lc [4] (.x (.v 0)) (.n 4) (.c (.bool true)) (.ix (.v 4) (.c (.int 0)))) .nil)) = XX at e5 ⊢
    have lf : (dn.filter fun y => M y == y).length ≤ 400 := Nat.le_trans (List.length_filter_le _ _) ln
    have i63 : in62 (((dn.filter fun y => M y == y).length : Nat) : Int) = true := in62_of (by omega) (by omega)
    simp only [unlockE]
    refine bw_cons fun _ hr => ?_
    have st : exec Φ (.ret (.lst (.cons (.bi .tuple (.cons (.v 1) .nil)) (.cons XX (.cons (.v 8) (.cons (.bin .Sub (.bi .len (.cons (.v 1) .nil)) (.bi .len (.cons (.v 8) .nil))) .nil)))))) (duE rs dn .own M .un .un .un .un .un (.ow .own (.list ((dn.filter fun y => M y == y).map (lotS dn M)))) .un) =
        some (.rt (.fr (dueD rs dn M)) (duE rs dn .own M .un .un .un .un .un (.im (.list ((dn.filter fun y => M y == y).map (lotS dn M)))) .un)) := by
      simp only [duE] at e5 ⊢
      simp [dueD, lim_le, e5]
    rw [st, stepO_rt]
    exact q _ (by simp [duE])
end
theorem due_ok {n : Nat} {rs : List W3} (ho : OkW rs) (hl : rs.length ≤ 100) : fns tbl (n + 2) "_law_due" [.im (.tuple (rs.map row3))] = some (.fr (dueD rs (nodesS rs) (grF rs)), [.im (.tuple (rs.map row3))]) := by
  rw [f_due]
  have ln : (nodesS rs).length ≤ 400 := Nat.le_trans nodes_len' (by omega)
  have oN : ∀ x ∈ nodesS rs, okS x := fun x hx => nodes_okS ho hx
  have hN : ∀ r ∈ rs, r.2.1 ∈ nodesS rs ∧ r.2.2 ∈ nodesS rs := fun r hr => ⟨nodes_mem.mpr ⟨r, hr, .inl rfl⟩, nodes_mem.mpr ⟨r, hr, .inr rfl⟩⟩
  have i62 : in62 (((nodesS rs).length : Nat) : Int) = true := in62_of (by omega) (by omega)
  have LL := gr_least rs
  have go : ∃ y, d_l_due.run (fns tbl (n + 1)) [.im (.tuple (rs.map row3))] = some (.fr y, [.im (.tuple (rs.map row3))]) ∧ y = dueD rs (nodesS rs) (grF rs) := by
    refine run_fr rfl fun Q q => ?_
    have rn := fun (r : Sms) (K : Out → Prop) => du_rounds (Φ := fns tbl (n + 1)) (rs := rs) (N := nodesS rs) (M := id) nodes_up oN hN (fun x hx => hx) (r := r) (K := K)
    have tl := fun (Q : Out → Prop) => du_tail (Φ := fns tbl (n + 1)) (rs := rs) (N := nodesS rs) (M := grF rs) nodes_nd ln (by omega) LL.mem (fun x hx => LL.idem hx) (Q := Q)
    simp only [duB, duT, d_l_due] at rn tl
    simp only [d_l_due, List.replicate, List.cons_append, List.nil_append]
    have es := spots_okA (n := n) (s := .im (.tuple (rs.map row3))) (rs := rs) (.inl rfl) ho (by omega)
    refine bw_cons fun _ hr => ?_
    have s1 : exec (fns tbl (n + 1)) (.set 1 (.call "_law_spots" (.cons (.v 0) .nil))) [.im (.tuple (rs.map row3)), .un, .un, .un, .un, .un, .un, .un, .un, .un, .un] = some (.nx [.im (.tuple (rs.map row3)), .ow .own (.list ((nodesS rs).map .str)), .un, .un, .un, .un, .un, .un, .un, .un, .un]) := by
      simp [es]
    rw [s1, stepO_nx]
    subst hr
    refine bw_cons fun _ hr => ?_
    have l1 : ((nodesS rs).length : Int) ≤ 100000 := by omega
    have s2 : exec (fns tbl (n + 1)) (.set 2 (.bi .rng (.cons (.bi .len (.cons (.v 1) .nil)) .nil))) [.im (.tuple (rs.map row3)), .ow .own (.list ((nodesS rs).map .str)), .un, .un, .un, .un, .un, .un, .un, .un, .un] = some (.nx (duE rs (nodesS rs) .own id .un .un .un .un .un .un .un)) := by
      have e1 : biD .rng [.int ((nodesS rs).length : Int)] = some (.fr (.list ((mkL (nodesS rs) id).map nat1))) := by
        have : rangeL 0 (nodesS rs).length = (mkL (nodesS rs) id).map nat1 := by rw [rg_names nodes_nd]; unfold mkL; rw [List.map_map]; rfl
        simp only [biD, i62, l1, decide_true, Bool.and_self, if_true]
        simp [this]
      simp [e1, duE]
    rw [s2, stepO_nx]
    subst hr
    refine rn _ Q ?_
    have ee : duE rs (nodesS rs) .own (roundsF (edg rs) (nodesS rs).length id) .un .un .un .un .un .un .un = duE rs (nodesS rs) .own (grF rs) .un .un .un .un .un .un .un := by
      unfold duE
      rw [gr_rounds]
    rw [ee]
    refine tl Q fun e he => ?_
    refine q _ _ ?_ rfl
    cases e with
    | nil => cases he
    | cons a e =>
      simp at he
      subst he
      cases e <;> rfl
  obtain ⟨y, e, rfl⟩ := go
  exact e
end DI.Law

set_option maxRecDepth 100000
namespace DI.Law
open PySem PySem.Spec
theorem f_groups (n : Nat) : fns tbl (n + 1) "groups" = d_groups.run (fns tbl n) := fns_at (by kernel_rfl)
theorem f_rank (n : Nat) : fns tbl (n + 1) "rank" = d_rank.run (fns tbl n) := fns_at (by kernel_rfl)
theorem f_right (n : Nat) : fns tbl (n + 1) "_law_right" = d_l_right.run (fns tbl n) := fns_at (by kernel_rfl)
def FA (s : Sl) (rs : List W3) : Prop := s = .im (.tuple (rs.map row3)) ∨ s = .im (.list (rs.map rowL))
theorem FA.wa {s : Sl} {rs : List W3} (h : FA s rs) : WA s rs := by
  rcases h with rfl | rfl
  · exact .inl rfl
  · exact .inr (.inr (.inr rfl))
theorem FA.wc {s : Sl} {rs : List W3} (h : FA s rs) : ∃ f, WC f s rs := by
  rcases h with rfl | rfl
  · exact ⟨row3, .inl rfl, .inl rfl⟩
  · exact ⟨rowL, .inr rfl, .inr (.inl rfl)⟩
theorem cls_eq {N : List Str} {L : Str → Str} : classD N L = (N.filter fun y => L y == y).map (lotS N L) := rfl
theorem groups_ok {n : Nat} {s : Sl} {rs : List W3} (hs : FA s rs) (ho : OkW rs) (hl : rs.length ≤ 100) :
    fns tbl (n + 3) "groups" [s] = some (.fr (.list (classD (nodesS rs) (grF rs))), [s]) := by
  obtain ⟨f, wc⟩ := hs.wc
  have on : ∀ x ∈ nodesS rs, okS x := fun x hx => nodes_okS ho hx
  have ln : (nodesS rs).length ≤ 1000 := Nat.le_trans nodes_len' (by omega)
  have e1 := nodes_ok (n := n + 1) wc ho (by omega)
  have e2 := parts_ok (n := n + 1) hs.wa (lim_le (by omega))
  have e3 := merged_ok (n := n) wc (s2 := .im (.tuple ((rs.map (·.1)).map .str))) (.inl rfl) ho (fun t ht => by
    obtain ⟨r, hr, rfl⟩ := List.mem_map.mp ht
    exact (ho r hr).1) (by omega)
  have e4 := classes_ok (n := n + 1) (N := nodesS rs) (L := grF rs) on (gr_least rs).mem ln
  have em : rs.map (fun r => PyData.str r.1) = (rs.map (·.1)).map .str := by rw [List.map_map]; rfl
  rw [em] at e2
  have e3' : fns tbl (n + 2) "merged" [s, .im (.tuple ((rs.map (·.1)).map .str))] = some (.fr (.dict (dictD (nodesS rs) (grF rs))), [s, .im (.tuple ((rs.map (·.1)).map .str))]) := e3
  have e1' : fns tbl (n + 2) "nodes" [s] = _ := e1
  have e2' : fns tbl (n + 2) "parts" [s] = _ := e2
  have e4' : fns tbl (n + 2) "classes" [.im (.tuple ((nodesS rs).map .str)), .ow .bor (.dict (dictD (nodesS rs) (grF rs)))] = _ := e4
  rw [f_groups]
  generalize (rs.map (·.1)).map PyData.str = T at *
  generalize (nodesS rs).map PyData.str = N at *
  generalize dictD (nodesS rs) (grF rs) = Dc at *
  generalize fns tbl (n + 2) = Φ at *
  rcases hs with rfl | rfl
  · generalize rs.map row3 = W at *
    simp [Dfn.run, d_groups, e1', e2', e3', e4']
  · generalize rs.map rowL = W at *
    simp [Dfn.run, d_groups, e1', e2', e3', e4']
theorem rank_ok {n : Nat} {s : Sl} {rs : List W3} (hs : FA s rs) (ho : OkW rs) (hl : rs.length ≤ 100) :
    fns tbl (n + 4) "rank" [s] = some (.im (.int (((nodesS rs).length : Int) - ((classD (nodesS rs) (grF rs)).length : Int))), [s]) := by
  rw [f_rank]
  obtain ⟨f, wc⟩ := hs.wc
  have e1 := nodes_ok (n := n + 2) wc ho (by omega)
  have e2 := groups_ok (n := n) hs ho hl
  have e1' : fns tbl (n + 3) "nodes" [s] = _ := e1
  have l1 : ((nodesS rs).map PyData.str).length = (nodesS rs).length := List.length_map ..
  have ln : (nodesS rs).length ≤ 400 := Nat.le_trans nodes_len' (by omega)
  have lc : (classD (nodesS rs) (grF rs)).length ≤ 400 := by
    rw [cls_eq, List.length_map]
    exact Nat.le_trans (List.length_filter_le _ _) ln
  have i1 : in62 (((nodesS rs).length : Nat) : Int) = true := in62_of (by omega) (by omega)
  have i2 : in62 (((classD (nodesS rs) (grF rs)).length : Nat) : Int) = true := in62_of (by omega) (by omega)
  generalize classD (nodesS rs) (grF rs) = Cc at *
  generalize nodesS rs = N at *
  generalize fns tbl (n + 3) = Φ at *
  rcases hs with rfl | rfl
  · generalize rs.map row3 = W at *
    simp [Dfn.run, d_rank, e1', e2]
  · generalize rs.map rowL = W at *
    simp [Dfn.run, d_rank, e1', e2]
/-- a list of one's own, and one that stands -/
theorem same_mix {n : Nat} (xs : List D) (hl : xs.length ≤ lim) (h : ∀ x ∈ xs, fns tbl n "_law_same" [.im x, .im x] = some (.im (.bool true), [.im x, .im x])) :
    fns tbl (n + 1) "_law_same" [.ow .bor (.list xs), .im (.list xs)] = some (.im (.bool true), [.ow .bor (.list xs), .im (.list xs)]) := by
  rw [f_same]
  have go : ∃ x, d_l_same.run (fns tbl n) [.ow .bor (.list xs), .im (.list xs)] = some (.im x, [.ow .bor (.list xs), .im (.list xs)]) ∧ x = .bool true := by
    refine run_im rfl fun Q q => ?_
    simp only [d_l_same, List.replicate, List.cons_append, List.nil_append]
    have sl : SeqAt.shaped (.int xs.length) = true := sh_int _
    rw [bw_if]
    simp [bw_if, sh_bool, eqv_bool]
    refine bw_cons fun _ hr => ?_
    simp [sl, eqv_int, zw_self (f := id)]
    rw [lcRun_of (α := D) (k := fun a => .tuple [a, a]) (fun _ => some (.bool true))]
    · simp [fm_some, blsD_map (fun _ => true), backE, unlockE, lockE, wipeE]
      exact q _ _ rfl (by simp)
    · intro t hm
      simp [h t hm, wipeE, lockE]
    · rfl
    · exact hl
  obtain ⟨x, e, rfl⟩ := go
  exact e
theorem fair_strsT {ss : List Str} (h : ∀ s ∈ ss, okS s) (hl : ss.length ≤ 400) : fairB (.tuple (ss.map .str)) = true ∧ (PyData.tuple (ss.map .str)).depth ≤ 1 := by
  constructor
  · rw [fairB, Bool.and_eq_true, decide_eq_true_iff, List.length_map]
    refine ⟨lim_le (by omega), fairAll_iff.mpr fun x hx => ?_⟩
    obtain ⟨s, hs, rfl⟩ := List.mem_map.mp hx
    simpa [fairB] using h s hs
  · simp only [PyData.depth]
    have : PyData.depthAll (ss.map .str) ≤ 0 := depthAll_iff.mpr fun x hx => by
      obtain ⟨s, hs, rfl⟩ := List.mem_map.mp hx
      simp [PyData.depth]
    omega
def dueL (rs : List W3) : List D := [.tuple ((nodesS rs).map .str), .tuple (rs.map fun r => .str r.1), .list (classD (nodesS rs) (grF rs)), .int (((nodesS rs).length : Int) - ((classD (nodesS rs) (grF rs)).length : Int))]
theorem due_eq {rs : List W3} : dueD rs (nodesS rs) (grF rs) = .list (dueL rs) := by
  unfold dueD dueL
  rw [cls_eq, List.length_map]
theorem fair_due {rs : List W3} (ho : OkW rs) (hl : rs.length ≤ 100) : ∀ x ∈ dueL rs, fairB x = true ∧ x.depth ≤ 2 := by
  have ln : (nodesS rs).length ≤ 400 := Nat.le_trans nodes_len' (by omega)
  have on : ∀ x ∈ nodesS rs, okS x := fun x hx => nodes_okS ho hx
  intro x hx
  rcases (by simpa [dueL] using hx : x = .tuple ((nodesS rs).map .str) ∨ x = .tuple (rs.map fun r => .str r.1) ∨ x = .list (classD (nodesS rs) (grF rs)) ∨ x = .int (((nodesS rs).length : Int) - ((classD (nodesS rs) (grF rs)).length : Int))) with rfl | rfl | rfl | rfl
  · have := fair_strsT on ln
    exact ⟨this.1, by omega⟩
  · have em : rs.map (fun r => PyData.str r.1) = (rs.map (·.1)).map .str := by rw [List.map_map]; rfl
    rw [em]
    have := fair_strsT (ss := rs.map (·.1)) (fun t ht => by
      obtain ⟨r, hr, rfl⟩ := List.mem_map.mp ht
      exact (ho r hr).1) (by rw [List.length_map]; omega)
    exact ⟨this.1, by omega⟩
  · have one : ∀ x ∈ classD (nodesS rs) (grF rs), fairB x = true ∧ x.depth ≤ 1 := fun x hx => by
      rw [cls_eq] at hx
      obtain ⟨y, _, rfl⟩ := List.mem_map.mp hx
      exact fair_strsT (fun s hs => on s (List.mem_filter.mp hs).1) (Nat.le_trans (List.length_filter_le _ _) ln)
    constructor
    · rw [fairB, Bool.and_eq_true, decide_eq_true_iff]
      refine ⟨lim_le ?_, fairAll_iff.mpr fun x hx => (one x hx).1⟩
      rw [cls_eq, List.length_map]
      have := List.length_filter_le (fun y => grF rs y == y) (nodesS rs)
      omega
    · simp only [PyData.depth]
      have : PyData.depthAll (classD (nodesS rs) (grF rs)) ≤ 1 := depthAll_iff.mpr fun x hx => (one x hx).2
      omega
  · exact ⟨rfl, by simp [PyData.depth]⟩
def RE (d : D) (x1 x2 x3 x4 x5 x6 x7 : Sl) : Env := [.ow .bor d, x1, x2, x3, x4, x5, x6, x7]
def turnB : Sms := match d_l_right.body with
  | .cons (.for _ _ b) _ => b
  | _ => .nil
def tailB : Sms := match d_l_right.body with
  | .cons _ r => r
  | _ => .nil
theorem turn_bw {N : Nat} {d : D} {x1 : Sl} (h : BOk N d) (hN : N < 2^44) (h1u : x1 ≠ .un) (f1 : flatSl x1 = true) {K : Out → Prop}
    (q : ∀ d' x2 x3 x4 x5, BOk (N + 100) d' → K (.nx (RE d' x1 x2 x3 x4 x5 .un .un))) :
    BW (fns tbl 39) turnB (RE d x1 .un .un .un .un .un .un) K := by
  simp only [turnB, d_l_right]
  obtain ⟨x, out, e1, rs, d1, rfl, rfl, h1, w⟩ := web_ok (n := 36) h (by omega) (m := 9) (sp := 7) (by omega) (by omega) (by omega) (by omega)
  have lr : rs.length ≤ 9 := w.le
  have ho : OkW rs := fun r hr => w.ok r hr
  refine bw_cons fun _ hr => ?_
  have s2 : exec (fns tbl 39) (.set 2 (.call "_law_web" (.cons (.v 0) (.cons (.c (.int 9)) (.cons (.c (.int 7)) .nil))))) (RE d x1 .un .un .un .un .un .un) = some (.nx (RE d1 x1 (.im (.tuple (rs.map row3))) .un .un .un .un .un)) := by
    have e1' : fns tbl 39 "_law_web" [.ow .bor d, .im (.int 9), .im (.int 7)] = some (.im (.tuple (rs.map row3)), [.ow .bor d1, .im (.int 9), .im (.int 7)]) := e1
    simp [RE, e1']
  rw [s2, stepO_nx]
  subst hr
  have eL : fns tbl 39 "_law_lists" [.im (.tuple (rs.map row3))] = _ := lists_web (n := 36) (rs := rs) (lim_le (by omega))
  have eD : fns tbl 39 "_law_due" [.im (.tuple (rs.map row3))] = _ := due_ok (n := 37) ho (by omega)
  rw [due_eq] at eD
  refine bw_cons fun _ hr => ?_
  have s3 : exec (fns tbl 39) (.par [3, 4] (.cons (.call "_law_lists" (.cons (.v 2) .nil)) (.cons (.call "_law_due" (.cons (.v 2) .nil)) .nil))) (RE d1 x1 (.im (.tuple (rs.map row3))) .un .un .un .un .un) = some (.nx (RE d1 x1 (.im (.tuple (rs.map row3))) (.ow .own (.list (rs.map rowL))) (.ow .own (.list (dueL rs))) .un .un .un)) := by
    simp [RE, eL, eD]
  rw [s3, stepO_nx]
  subst hr
  have n1 := fun (s : Sl) (hs : FA s rs) => show fns tbl 39 "nodes" [s] = some (.im (.tuple ((nodesS rs).map .str)), [s]) from let ⟨f, wc⟩ := hs.wc; nodes_ok (n := 38) wc ho (by omega)
  have n2 := fun (s : Sl) (hs : FA s rs) => show fns tbl 39 "parts" [s] = some (.im (.tuple (rs.map fun r => .str r.1)), [s]) from parts_ok (n := 38) hs.wa (lim_le (by omega))
  have n3 := fun (s : Sl) (hs : FA s rs) => show fns tbl 39 "groups" [s] = some (.fr (.list (classD (nodesS rs) (grF rs))), [s]) from groups_ok (n := 36) hs ho (by omega)
  have n4 := fun (s : Sl) (hs : FA s rs) => show fns tbl 39 "rank" [s] = some (.im (.int (((nodesS rs).length : Int) - ((classD (nodesS rs) (grF rs)).length : Int))), [s]) from rank_ok (n := 35) hs ho (by omega)
  have fd := fair_due ho (by omega)
  have sm0 : fns tbl 39 "_law_same" [.im (.list (dueL rs)), .im (.list (dueL rs))] = some (.im (.bool true), [.im (.list (dueL rs)), .im (.list (dueL rs))]) := by
    refine same_seq (n := 38) (dueL rs) (lim_le (show 4 ≤ 1000 by omega)) (fun x hx => same_ok (n := 35) 2 x (fd x hx).2 (fd x hx).1) (.inl rfl)
  have sm1 : fns tbl 39 "_law_same" [.ow .bor (.list (dueL rs)), .im (.list (dueL rs))] = some (.im (.bool true), [.ow .bor (.list (dueL rs)), .im (.list (dueL rs))]) := by
    refine same_mix (n := 38) (dueL rs) (lim_le (show 4 ≤ 1000 by omega)) (fun x hx => same_ok (n := 35) 2 x (fd x hx).2 (fd x hx).1)
  have lg : (classD (nodesS rs) (grF rs)).length < lim := by
    rw [cls_eq, List.length_map]
    have := List.length_filter_le (fun y => grF rs y == y) (nodesS rs)
    have := nodes_len' (rs := rs)
    exact lim_lt (by omega)
  have fb : flatSl (.ow .bor d1) = true := by
    obtain ⟨a, b, c, rfl, _, _⟩ := h1
    rfl
  have shL : SeqAt.shaped (.list (rs.map rowL)) = true := by
    refine fair_sh (d := .list (rs.map rowL)) ?_ ?_
    · rw [fairB, Bool.and_eq_true, decide_eq_true_iff, List.length_map]
      refine ⟨lim_le (by omega), fairAll_iff.mpr fun x hx => ?_⟩
      obtain ⟨r, hr, rfl⟩ := List.mem_map.mp hx
      obtain ⟨a, b, c⟩ := ho r hr
      unfold okS at a b c
      simp [rowL, fairB, fairAll, a, b, c, lim_le]
    · simp only [PyData.depth]
      have : PyData.depthAll (rs.map rowL) ≤ 1 := depthAll_iff.mpr fun x hx => by
        obtain ⟨r, hr, rfl⟩ := List.mem_map.mp hx
        simp [rowL, PyData.depth, PyData.depthAll]
      omega
  have eqL : PyData.eqv (.list (rs.map rowL)) (.list (rs.map rowL)) = true := SeqAt.eqv_refl _ (SeqAt.canLay_of_shaped shL)
  have a1 := n1 (.im (.tuple (rs.map row3))) (.inl rfl)
  have a2 := n2 (.im (.tuple (rs.map row3))) (.inl rfl)
  have a3 := n3 (.im (.tuple (rs.map row3))) (.inl rfl)
  have a4 := n4 (.im (.tuple (rs.map row3))) (.inl rfl)
  have b1 := n1 (.im (.list (rs.map rowL))) (.inr rfl)
  have b2 := n2 (.im (.list (rs.map rowL))) (.inr rfl)
  have b3 := n3 (.im (.list (rs.map rowL))) (.inr rfl)
  have b4 := n4 (.im (.list (rs.map rowL))) (.inr rfl)
  have dl : dueL rs = [.tuple ((nodesS rs).map .str), .tuple (rs.map fun r => .str r.1), .list (classD (nodesS rs) (grF rs)), .int (((nodesS rs).length : Int) - ((classD (nodesS rs) (grF rs)).length : Int))] := rfl
  clear n1 n2 n3 n4 fd e1 w
  generalize nodesS rs = Nn at *
  generalize rs.map row3 = W at *
  generalize rs.map rowL = Wl at *
  generalize (rs.map fun r => PyData.str r.1) = T at *
  generalize classD Nn (grF rs) = Cc at *
  generalize ((Nn.length : Int) - (Cc.length : Int)) = rk at *
  generalize dueL rs = DL at *
  generalize fns tbl 39 = Φ at *
  refine bw_cons fun _ hr => ?_
  have s5 : tellF 5 4 [3, 4] (.cons (.call "nodes" (.cons (.v 2) .nil)) (.cons (.call "parts" (.cons (.v 2) .nil)) (.cons (.call "groups" (.cons (.v 2) .nil)) (.cons (.call "rank" (.cons (.v 2) .nil)) .nil)))) (.notX (.call "_law_same" (.cons (.v 5) (.cons (.v 4) .nil)))) (.cons (.ret (.c (.bool false))) .nil) Φ (RE d1 x1 (.im (.tuple W)) (.ow .own (.list Wl)) (.ow .own (.list DL)) .un .un .un) =
      some (.nx (RE d1 x1 (.im (.tuple W)) (.im (.list Wl)) (.im (.list DL)) .un .un .un)) := by
    subst dl
    have fi : ∀ x, flatSl (.im x) = true := fun _ => rfl
    have fu : flatSl .un = true := rfl
    simp [tellF, frzAll, RE, a1, a2, a3, a4, sm0, fb, f1, lg, fi, fu]
  rw [show exec Φ (.nat (tellF 5 4 [3, 4] (.cons (.call "nodes" (.cons (.v 2) .nil)) (.cons (.call "parts" (.cons (.v 2) .nil)) (.cons (.call "groups" (.cons (.v 2) .nil)) (.cons (.call "rank" (.cons (.v 2) .nil)) .nil)))) (.notX (.call "_law_same" (.cons (.v 5) (.cons (.v 4) .nil)))) (.cons (.ret (.c (.bool false))) .nil))) (RE d1 x1 (.im (.tuple W)) (.ow .own (.list Wl)) (.ow .own (.list DL)) .un .un .un) = _ from s5, stepO_nx]
  subst hr
  refine bw_cons fun _ hr => ?_
  have s6 : exec Φ (.set 5 (.lst (.cons (.call "nodes" (.cons (.v 3) .nil)) (.cons (.call "parts" (.cons (.v 3) .nil)) (.cons (.call "groups" (.cons (.v 3) .nil)) (.cons (.call "rank" (.cons (.v 3) .nil)) .nil)))))) (RE d1 x1 (.im (.tuple W)) (.im (.list Wl)) (.im (.list DL)) .un .un .un) =
      some (.nx (RE d1 x1 (.im (.tuple W)) (.im (.list Wl)) (.im (.list DL)) (.ow .own (.list DL)) .un .un)) := by
    subst dl
    simp [RE, b1, b2, b3, b4, lim_le]
  rw [s6, stepO_nx]
  subst hr
  rw [bw_if]
  have t7 : tstX Φ (.orX (.notX (.call "_law_same" (.cons (.v 5) (.cons (.v 4) .nil)))) (.cmp .NotEq (.v 3) (.call "_law_lists" (.cons (.v 2) .nil)))) (RE d1 x1 (.im (.tuple W)) (.im (.list Wl)) (.im (.list DL)) (.ow .own (.list DL)) .un .un) =
      some (false, RE d1 x1 (.im (.tuple W)) (.im (.list Wl)) (.im (.list DL)) (.ow .own (.list DL)) .un .un) := by
    simp [RE, sm1, eL, shL, eqL]
  rw [t7, ifO_f]
  exact bw_nil (q d1 _ _ _ _ h1)
def tailE (d : D) : Env := match execs (fns tbl 39) tailB (RE d .un .un .un .un .un .un .un) with
  | some (.rt _ e) => e
  | _ => []
theorem tail_ok (d : D) : execs (fns tbl 39) tailB (RE d .un .un .un .un .un .un .un) = some (.rt (.im (.bool true)) (tailE d)) := by kernel_rfl
theorem tail_fin2 (d dd : D) : finSl [.ow .bor d] (tailE dd) = [.ow .bor dd] := by kernel_rfl
theorem right_ok {d : D} (h : BOk 0 d) : ∃ d', fns tbl (39 + 1) "_law_right" [.ow .bor d] = some (.im (.bool true), [.ow .bor d']) := by
  rw [f_right]
  have go : ∃ x out, d_l_right.run (fns tbl 39) [.ow .bor d] = some (.im x, out) ∧ (x = .bool true ∧ ∃ d', out = [.ow .bor d']) := by
    refine run_imO rfl fun Q q => ?_
    have tb := fun (N : Nat) (d : D) (x1 : Sl) (h : BOk N d) (hN : N < 2^44) (h1u : x1 ≠ .un) (f1 : flatSl x1 = true) (K : Out → Prop) => turn_bw h hN h1u f1 (K := K)
    have tl := fun d => tail_ok d
    simp only [turnB, d_l_right] at tb
    simp only [tailB, d_l_right] at tl
    simp only [d_l_right, List.replicate, List.cons_append, List.nil_append]
    refine bw_for (ls := []) (ds := rangeL 0 10) (env1 := RE d .un .un .un .un .un .un .un)
      (fun rem e => ∃ (k : Nat) (lo : Int) (dd : D), rem = rangeL lo k ∧ k ≤ 10 ∧ e = RE dd .un .un .un .un .un .un .un ∧ BOk (10000 - 1000 * k) dd) (by simp [RE, in62, inB]) ⟨10, 0, d, rfl, by omega, by simp [RE, lockE], h.mono (by omega)⟩ ?_ ?_
    · rintro x rem e ⟨k, lo, dd, hx, hk, rfl, hB⟩ K L
      cases k with
      | zero => cases hx
      | succ k =>
        obtain ⟨rfl, rfl⟩ := List.cons.inj (show x :: rem = .int lo :: rangeL (lo + 1) k from hx)
        refine ⟨RE dd (.im (.int lo)) .un .un .un .un .un .un, by simp [RE], ?_⟩
        refine tb _ dd (.im (.int lo)) hB (by omega) (fun z => by cases z) rfl K fun d' x2 x3 x4 x5 hb => ?_
        exact L.nx _ ⟨k, lo + 1, d', rfl, by omega, by simp [RE, forget, lockE], hb.mono (by omega)⟩
    · rintro e ⟨k, lo, dd, hx, hk, rfl, hB⟩
      exact ⟨_, tl dd, q _ _ ⟨rfl, dd, tail_fin2 d dd⟩⟩
  obtain ⟨x, out, e, rfl, d', rfl⟩ := go
  exact ⟨d', e⟩
theorem law_true (ns : List Int) (hl : ns.length ≤ 63) : ∃ fin, DI.fns tbl (40 + 1) "law" [.im (.list (ns.map .int))] = some (.im (.bool true), fin) :=
  law_true_of (n := 39) (fun _ h => right_ok h) ns hl
end DI.Law

set_option maxRecDepth 100000
set_option maxHeartbeats 4000000
namespace DI.Law
open PySem PySem.Spec PyProof.Rows L2 DI
def topS (i : Nat) : Stmt := PySem.Challenge.pw_sameloops_k01_nodes_groups_and_rank.main.body.getD i (.Pass ⟨0, 0, 0, 0⟩)
abbrev s_nodes : Stmt := topS 1
def n_nodes : List Str := ["wiring", "row"]
theorem sc_nodes : FnScope n_nodes ["wiring"] (defScope s_nodes) := ⟨rfl, rfl, rfl, by decide +kernel, rfl, by decide +kernel, by decide +kernel⟩
abbrev s_parts : Stmt := topS 2
def n_parts : List Str := ["wiring", "row"]
theorem sc_parts : FnScope n_parts ["wiring"] (defScope s_parts) := ⟨rfl, rfl, rfl, by decide +kernel, rfl, by decide +kernel, by decide +kernel⟩
abbrev s_merged : Stmt := topS 3
def n_merged : List Str := ["wiring", "names", "least", "part", "start", "end", "low", "high", "node"]
theorem sc_merged : FnScope n_merged ["wiring", "names"] (defScope s_merged) := ⟨rfl, rfl, rfl, by decide +kernel, rfl, by decide +kernel, by decide +kernel⟩
abbrev s_classes : Stmt := topS 4
def n_classes : List Str := ["names", "least", "low", "name"]
theorem sc_classes : FnScope n_classes ["names", "least"] (defScope s_classes) := ⟨rfl, rfl, rfl, by decide +kernel, rfl, by decide +kernel, by decide +kernel⟩
abbrev s_groups : Stmt := topS 5
def n_groups : List Str := ["wiring"]
theorem sc_groups : FnScope n_groups ["wiring"] (defScope s_groups) := ⟨rfl, rfl, rfl, by decide +kernel, rfl, by decide +kernel, by decide +kernel⟩
abbrev s_rank : Stmt := topS 6
def n_rank : List Str := ["wiring"]
theorem sc_rank : FnScope n_rank ["wiring"] (defScope s_rank) := ⟨rfl, rfl, rfl, by decide +kernel, rfl, by decide +kernel, by decide +kernel⟩
abbrev s_l_box : Stmt := topS 8
def n_l_box : List Str := ["_law_script", "_law_k", "_law_cell"]
theorem sc_l_box : FnScope n_l_box ["_law_script", "_law_k"] (defScope s_l_box) := ⟨rfl, rfl, rfl, by decide +kernel, rfl, by decide +kernel, by decide +kernel⟩
abbrev s_l_take : Stmt := topS 9
def n_l_take : List Str := ["_law_box_here", "_law_below", "_law_digit_so", "_law_once", "_law_far", "_law_twice"]
theorem sc_l_take : FnScope n_l_take ["_law_box_here", "_law_below"] (defScope s_l_take) := ⟨rfl, rfl, rfl, by decide +kernel, rfl, by decide +kernel, by decide +kernel⟩
abbrev s_l_cells : Stmt := topS 10
def n_l_cells : List Str := ["_law_script", "_law_most", "_law_cells_here", "_law_k", "_law_cell", "_law_at_so"]
theorem sc_l_cells : FnScope n_l_cells ["_law_script", "_law_most"] (defScope s_l_cells) := ⟨rfl, rfl, rfl, by decide +kernel, rfl, by decide +kernel, by decide +kernel⟩
abbrev s_l_of : Stmt := topS 11
def n_l_of : List Str := ["_law_box_here", "_law_some"]
theorem sc_l_of : FnScope n_l_of ["_law_box_here", "_law_some"] (defScope s_l_of) := ⟨rfl, rfl, rfl, by decide +kernel, rfl, by decide +kernel, by decide +kernel⟩
abbrev s_l_pick : Stmt := topS 12
def n_l_pick : List Str := ["_law_box_here", "_law_pool", "_law_size_so", "_law_rest", "_law_some", "_law_turn"]
theorem sc_l_pick : FnScope n_l_pick ["_law_box_here", "_law_pool", "_law_size_so"] (defScope s_l_pick) := ⟨rfl, rfl, rfl, by decide +kernel, rfl, by decide +kernel, by decide +kernel⟩
abbrev s_l_lists : Stmt := topS 13
def n_l_lists : List Str := ["_law_matter", "_law_bit"]
theorem sc_l_lists : FnScope n_l_lists ["_law_matter"] (defScope s_l_lists) := ⟨rfl, rfl, rfl, by decide +kernel, rfl, by decide +kernel, by decide +kernel⟩
abbrev s_l_same : Stmt := topS 14
def n_l_same : List Str := ["_law_got", "_law_due_here", "_law_mine", "_law_its"]
theorem sc_l_same : FnScope n_l_same ["_law_got", "_law_due_here"] (defScope s_l_same) := ⟨rfl, rfl, rfl, by decide +kernel, rfl, by decide +kernel, by decide +kernel⟩
abbrev s_l_web : Stmt := topS 15
def n_l_web : List Str := ["_law_box_here", "_law_most", "_law_spots_here", "_law_pool", "_law_tags", "_law_found", "_law_tag", "_law_here", "_law_there"]
theorem sc_l_web : FnScope n_l_web ["_law_box_here", "_law_most", "_law_spots_here"] (defScope s_l_web) := ⟨rfl, rfl, rfl, by decide +kernel, rfl, by decide +kernel, by decide +kernel⟩
abbrev s_l_spots : Stmt := topS 16
def n_l_spots : List Str := ["_law_web_here", "_law_found", "_law_row", "_law_spot"]
theorem sc_l_spots : FnScope n_l_spots ["_law_web_here"] (defScope s_l_spots) := ⟨rfl, rfl, rfl, by decide +kernel, rfl, by decide +kernel, by decide +kernel⟩
abbrev s_l_due : Stmt := topS 17
def n_l_due : List Str := ["_law_web_here", "_law_spots_here", "_law_mine", "_law_turn", "_law_row", "_law_one", "_law_two", "_law_least", "_law_lots", "_law_low", "_law_k"]
theorem sc_l_due : FnScope n_l_due ["_law_web_here"] (defScope s_l_due) := ⟨rfl, rfl, rfl, by decide +kernel, rfl, by decide +kernel, by decide +kernel⟩
abbrev s_l_right : Stmt := topS 18
def n_l_right : List Str := ["_law_box_here", "_law_turn", "_law_web_here", "_law_listed", "_law_due_here", "_law_told", "_law_same_here", "_law_line"]
theorem sc_l_right : FnScope n_l_right ["_law_box_here"] (defScope s_l_right) := ⟨rfl, rfl, rfl, by decide +kernel, rfl, by decide +kernel, by decide +kernel⟩
abbrev s_law : Stmt := topS 19
def n_law : List Str := ["_law_script", "_law_cells_here", "_law_k"]
theorem sc_law : FnScope n_law ["_law_script"] (defScope s_law) := ⟨rfl, rfl, rfl, by decide +kernel, rfl, by decide +kernel, by decide +kernel⟩
structure Gs (P : Program) (K : PySem.W.Frag) (mg : Str → Option Value) : Prop where
  g_abs : mg "abs" = none
  g_all : mg "all" = none
  g_bool : mg "bool" = none
  g_enumerate : mg "enumerate" = none
  g_int : mg "int" = none
  g_isinstance : mg "isinstance" = none
  g_len : mg "len" = none
  g_list : mg "list" = none
  g_max : mg "max" = none
  g_min : mg "min" = none
  g_range : mg "range" = none
  g_set : mg "set" = none
  g_sorted : mg "sorted" = none
  g_str : mg "str" = none
  g_tuple : mg "tuple" = none
  g_zip : mg "zip" = none
structure Cs (Φ : Fns) (P : Program) (w : World) (K : PySem.W.Frag) (mg : Str → Option Value) (base : Heap) (n : Nat) : Prop where
  c_nodes : HasG Φ P w K mg base n "nodes" ["wiring"]
  c_parts : HasG Φ P w K mg base n "parts" ["wiring"]
  c_merged : HasG Φ P w K mg base n "merged" ["wiring", "names"]
  c_classes : HasG Φ P w K mg base n "classes" ["names", "least"]
  c_groups : HasG Φ P w K mg base n "groups" ["wiring"]
  c_rank : HasG Φ P w K mg base n "rank" ["wiring"]
  c_l_box : HasG Φ P w K mg base n "_law_box" ["_law_script", "_law_k"]
  c_l_take : HasG Φ P w K mg base n "_law_take" ["_law_box_here", "_law_below"]
  c_l_cells : HasG Φ P w K mg base n "_law_cells" ["_law_script", "_law_most"]
  c_l_of : HasG Φ P w K mg base n "_law_of" ["_law_box_here", "_law_some"]
  c_l_pick : HasG Φ P w K mg base n "_law_pick" ["_law_box_here", "_law_pool", "_law_size_so"]
  c_l_lists : HasG Φ P w K mg base n "_law_lists" ["_law_matter"]
  c_l_same : HasG Φ P w K mg base n "_law_same" ["_law_got", "_law_due_here"]
  c_l_web : HasG Φ P w K mg base n "_law_web" ["_law_box_here", "_law_most", "_law_spots_here"]
  c_l_spots : HasG Φ P w K mg base n "_law_spots" ["_law_web_here"]
  c_l_due : HasG Φ P w K mg base n "_law_due" ["_law_web_here"]
  c_l_right : HasG Φ P w K mg base n "_law_right" ["_law_box_here"]
  c_law : HasG Φ P w K mg base n "law" ["_law_script"]
  k_groups : HasK Φ P w K mg base n "groups" ["wiring"] ["wiring"]
  k_nodes : HasK Φ P w K mg base n "nodes" ["wiring"] ["wiring"]
  k_parts : HasK Φ P w K mg base n "parts" ["wiring"] ["wiring"]
  k_rank : HasK Φ P w K mg base n "rank" ["wiring"] ["wiring"]
section
variable {P : Program} {w : World} {K : PySem.W.Frag} {mg : Str → Option Value} {base : Heap} {Φ : Fns} {n : Nat} {f : Addr} {cdv : Value} {A : Around} {outer : List PySem.Env} {s : Shared} {H : Hp} {E : XK}
theorem b_nodes (na : NoAl Φ) (C : Cs Φ P w K mg base n) (G : Gs P K mg) (hr : Room n (A.deeper (envOfC "nodes" (defScope s_nodes) s.heap.objs.size f cdv))) : SndSts Φ (cxOf (L2.CX P w) P w K mg base n_nodes "nodes" (defScope s_nodes) f cdv A outer s H E) (defBody s_nodes) d_nodes.body :=
  (snds_cons (snd_ret (snd_biT cal_tuple rfl G.g_tuple (by rfl) (sndR_cons (snd_sset rfl (u65 hr) rfl G.g_sorted rfl G.g_set (snd_bin opd_add (snd_lc (own := [("row", 1)]) (tg := (.n 1)) rfl sc_nodes.nd (sndI_x (snd_v 0)) (blkOk_by (own := [("row", 1)]) (N := n_nodes) (by kernel_rfl)) (fun _ _ _ _ _ => (pg_name (i := 1) sc_nodes.nd rfl (by first | exact .inl rfl | exact .inr rfl))) (fun _ _ _ _ _ => sndF_nil) (fun _ _ _ _ _ => (snd_ix (u65 hr) (fun _ _ => rfl) (snd_v 1) snd_int)) (by decide)) (snd_lc (own := [("row", 1)]) (tg := (.n 1)) rfl sc_nodes.nd (sndI_x (snd_v 0)) (blkOk_by (own := [("row", 1)]) (N := n_nodes) (by kernel_rfl)) (fun _ _ _ _ _ => (pg_name (i := 1) sc_nodes.nd rfl (by first | exact .inl rfl | exact .inr rfl))) (fun _ _ _ _ _ => sndF_nil) (fun _ _ _ _ _ => (snd_ix (u65 hr) (fun _ _ => rfl) (snd_v 1) snd_int)) (by decide)))) sndR_nil)) sndX_no) snds_nil)
theorem b_parts (na : NoAl Φ) (C : Cs Φ P w K mg base n) (G : Gs P K mg) (hr : Room n (A.deeper (envOfC "parts" (defScope s_parts) s.heap.objs.size f cdv))) : SndSts Φ (cxOf (L2.CX P w) P w K mg base n_parts "parts" (defScope s_parts) f cdv A outer s H E) (defBody s_parts) d_parts.body :=
  (snds_cons (snd_ret (snd_biT cal_tuple rfl G.g_tuple (by rfl) (sndR_cons (snd_lc (own := [("row", 1)]) (tg := (.n 1)) rfl sc_parts.nd (sndI_x (snd_v 0)) (blkOk_by (own := [("row", 1)]) (N := n_parts) (by kernel_rfl)) (fun _ _ _ _ _ => (pg_name (i := 1) sc_parts.nd rfl (by first | exact .inl rfl | exact .inr rfl))) (fun _ _ _ _ _ => sndF_nil) (fun _ _ _ _ _ => (snd_ix (u65 hr) (fun _ _ => rfl) (snd_v 1) snd_int)) (by decide)) sndR_nil)) sndX_no) snds_nil)
theorem b_merged (na : NoAl Φ) (C : Cs Φ P w K mg base n) (G : Gs P K mg) (hr : Room n (A.deeper (envOfC "merged" (defScope s_merged) s.heap.objs.size f cdv))) : SndSts Φ (cxOf (L2.CX P w) P w K mg base n_merged "merged" (defScope s_merged) f cdv A outer s H E) (defBody s_merged) d_merged.body :=
  (snds_cons (snd_set (i := 2) sc_merged.nd rfl (by first | exact .inl rfl | exact .inr rfl) (snd_dc (own := [("node", 8)]) (tg := (.n 8)) rfl sc_merged.nd (sndI_x (snd_call (has_of C.c_nodes hr) na rfl (sndR_cons (snd_v 0) sndR_nil))) (blkOk_by (own := [("node", 8)]) (N := n_merged) (by kernel_rfl)) (fun _ _ _ _ _ => (pg_name (i := 8) sc_merged.nd rfl (by first | exact .inl rfl | exact .inr rfl))) (fun _ _ _ _ _ => sndF_nil) (fun _ _ _ _ _ => (snd_v 8)) (fun _ _ _ _ _ => (snd_v 8)) (by decide)) sndX_no) (snds_cons (snd_for (passes_of rfl) rfl (sndI_x (snd_v 0)) (pg_seq rfl (pgs_cons (pg_name (i := 3) sc_merged.nd rfl (by first | exact .inl rfl | exact .inr rfl)) (pgs_cons (pg_name (i := 4) sc_merged.nd rfl (by first | exact .inl rfl | exact .inr rfl)) (pgs_cons (pg_name (i := 5) sc_merged.nd rfl (by first | exact .inl rfl | exact .inr rfl)) pgs_nil)))) (snds_cons (snd_iff (sndT_w (sndW_and (sndT_in (u65 hr) (by rfl) (snd_v 3) (snd_v 1)) (sndW_and1 (sndT_cmp (opd_ne (u65 hr)) (nomark _) (snd_ix (u65 hr) (fun _ _ => rfl) (snd_v 2) (snd_v 4)) (snd_ix (u65 hr) (fun _ _ => rfl) (snd_v 2) (snd_v 5)))))) (snds_cons (snd_setT (is := [6, 7]) (pg_seq rfl (pgs_cons (pg_name (i := 6) sc_merged.nd rfl (by first | exact .inl rfl | exact .inr rfl)) (pgs_cons (pg_name (i := 7) sc_merged.nd rfl (by first | exact .inl rfl | exact .inr rfl)) pgs_nil))) (snd_biB (cal_sorted (u65 hr)) rfl G.g_sorted (by rfl) (sndR_cons (snd_lst (sndS_cons (snd_ix (u65 hr) (fun _ _ => rfl) (snd_v 2) (snd_v 4)) (sndS_cons (snd_ix (u65 hr) (fun _ _ => rfl) (snd_v 2) (snd_v 5)) sndS_nil))) sndR_nil))) (snds_cons (snd_set (i := 2) sc_merged.nd rfl (by first | exact .inl rfl | exact .inr rfl) (snd_dc (own := [("node", 8)]) (tg := (.n 8)) rfl sc_merged.nd (sndI_x (snd_v 2)) (blkOk_by (own := [("node", 8)]) (N := n_merged) (by kernel_rfl)) (fun _ _ _ _ _ => (pg_name (i := 8) sc_merged.nd rfl (by first | exact .inl rfl | exact .inr rfl))) (fun _ _ _ _ _ => sndF_nil) (fun _ _ _ _ _ => (snd_v 8)) (fun _ _ _ _ _ => (snd_ite (sndT_cmp (opd_eq (u65 hr)) (nomark _) (snd_ix (u65 hr) (fun _ _ => rfl) (snd_v 2) (snd_v 8)) (snd_v 7)) (snd_v 6) (snd_ix (u65 hr) (fun _ _ => rfl) (snd_v 2) (snd_v 8)))) (by decide)) sndX_no) snds_nil)) snds_nil) snds_nil)) (snds_cons (snd_ret (snd_v 2) sndX_no) snds_nil)))
theorem b_classes (na : NoAl Φ) (C : Cs Φ P w K mg base n) (G : Gs P K mg) (hr : Room n (A.deeper (envOfC "classes" (defScope s_classes) s.heap.objs.size f cdv))) : SndSts Φ (cxOf (L2.CX P w) P w K mg base n_classes "classes" (defScope s_classes) f cdv A outer s H E) (defBody s_classes) d_classes.body :=
  (snds_cons (snd_ret (snd_lc (own := [("low", 2)]) (tg := (.n 2)) rfl sc_classes.nd (sndI_x (snd_v 0)) (blkOk_by (own := [("low", 2)]) (N := n_classes) (by kernel_rfl)) (fun _ _ _ _ _ => (pg_name (i := 2) sc_classes.nd rfl (by first | exact .inl rfl | exact .inr rfl))) (fun _ _ _ _ _ => (sndF_one (sndT_cmp (opd_eq (u65 hr)) (nomark _) (snd_ix (u65 hr) (fun _ _ => rfl) (snd_v 1) (snd_v 2)) (snd_v 2)))) (fun _ _ _ _ _ => (snd_biT cal_tuple rfl G.g_tuple (by rfl) (sndR_cons (snd_lc (own := [("name", 3)]) (tg := (.n 3)) rfl sc_classes.nd (sndI_x (snd_v 0)) (blkOk_by (own := [("name", 3)]) (N := n_classes) (by kernel_rfl)) (fun _ _ _ _ _ => (pg_name (i := 3) sc_classes.nd rfl (by first | exact .inl rfl | exact .inr rfl))) (fun _ _ _ _ _ => (sndF_one (sndT_cmp (opd_eq (u65 hr)) (nomark _) (snd_ix (u65 hr) (fun _ _ => rfl) (snd_v 1) (snd_v 3)) (snd_v 2)))) (fun _ _ _ _ _ => (snd_v 3)) (by decide)) sndR_nil))) (by decide)) sndX_no) snds_nil)
theorem b_groups (na : NoAl Φ) (C : Cs Φ P w K mg base n) (G : Gs P K mg) (hr : Room n (A.deeper (envOfC "groups" (defScope s_groups) s.heap.objs.size f cdv))) : SndSts Φ (cxOf (L2.CX P w) P w K mg base n_groups "groups" (defScope s_groups) f cdv A outer s H E) (defBody s_groups) d_groups.body :=
  (snds_cons (snd_retC (has_of C.c_classes hr) na rfl (sndR_cons (snd_call (has_of C.c_nodes hr) na rfl (sndR_cons (snd_v 0) sndR_nil)) (sndR_cons (snd_call (has_of C.c_merged hr) na rfl (sndR_cons (snd_v 0) (sndR_cons (snd_call (has_of C.c_parts hr) na rfl (sndR_cons (snd_v 0) sndR_nil)) sndR_nil))) sndR_nil))) snds_nil)
theorem b_rank (na : NoAl Φ) (C : Cs Φ P w K mg base n) (G : Gs P K mg) (hr : Room n (A.deeper (envOfC "rank" (defScope s_rank) s.heap.objs.size f cdv))) : SndSts Φ (cxOf (L2.CX P w) P w K mg base n_rank "rank" (defScope s_rank) f cdv A outer s H E) (defBody s_rank) d_rank.body :=
  (snds_cons (snd_ret (snd_bin opd_sub (snd_biB cal_len rfl G.g_len (by rfl) (sndR_cons (snd_call (has_of C.c_nodes hr) na rfl (sndR_cons (snd_v 0) sndR_nil)) sndR_nil)) (snd_biB cal_len rfl G.g_len (by rfl) (sndR_cons (snd_call (has_of C.c_groups hr) na rfl (sndR_cons (snd_v 0) sndR_nil)) sndR_nil))) sndX_no) snds_nil)
theorem b_l_box (na : NoAl Φ) (C : Cs Φ P w K mg base n) (G : Gs P K mg) (hr : Room n (A.deeper (envOfC "_law_box" (defScope s_l_box) s.heap.objs.size f cdv))) : SndSts Φ (cxOf (L2.CX P w) P w K mg base n_l_box "_law_box" (defScope s_l_box) f cdv A outer s H E) (defBody s_l_box) d_l_box.body :=
  (snds_cons (snd_set (i := 2) sc_l_box.nd rfl (by first | exact .inl rfl | exact .inr rfl) (snd_ite (sndT_cmp opd_lt (nomark _) (snd_v 1) (snd_biB cal_len rfl G.g_len (by rfl) (sndR_cons (snd_v 0) sndR_nil))) (snd_ix (u65 hr) (fun _ _ => rfl) (snd_v 0) (snd_v 1)) snd_int) (sndX_ite (sndT_cmp opd_lt (nomark _) (snd_v 1) (snd_biB cal_len rfl G.g_len (by rfl) (sndR_cons (snd_v 0) sndR_nil))) sndX_no sndX_no)) (snds_cons (snd_ret (snd_lst (sndS_cons (snd_bin opd_mul (snd_biB cal_abs rfl G.g_abs (by rfl) (sndR_cons (snd_v 2) sndR_nil)) (snd_biT cal_int rfl G.g_int (by rfl) (sndR_cons (snd_cmp opd_ge (nomark _) (snd_biB cal_abs rfl G.g_abs (by rfl) (sndR_cons (snd_v 2) sndR_nil)) (snd_bin opd_pow snd_int snd_int)) sndR_nil))) (sndS_cons (snd_bin opd_add (snd_bin opd_add (snd_bin opd_mod (snd_biT cal_int rfl G.g_int (by rfl) (sndR_cons (snd_v 2) sndR_nil)) snd_int) (snd_bin opd_mul snd_int (snd_v 1))) snd_int) (sndS_cons snd_int sndS_nil)))) sndX_no) snds_nil))
theorem b_l_take (na : NoAl Φ) (C : Cs Φ P w K mg base n) (G : Gs P K mg) (hr : Room n (A.deeper (envOfC "_law_take" (defScope s_l_take) s.heap.objs.size f cdv))) : SndSts Φ (cxOf (L2.CX P w) P w K mg base n_l_take "_law_take" (defScope s_l_take) f cdv A outer s H E) (defBody s_l_take) d_l_take.body :=
  (snds_cons (snd_iff (sndT_cmp opd_gt (nomark _) (snd_ix (u65 hr) (fun _ _ => rfl) (snd_v 0) snd_int) snd_int) (snds_cons (snd_set (i := 2) sc_l_take.nd rfl (by first | exact .inl rfl | exact .inr rfl) (snd_bin opd_mod (snd_biT cal_int rfl G.g_int (by rfl) (sndR_cons (snd_ix (u65 hr) (fun _ _ => rfl) (snd_v 0) snd_int) sndR_nil)) (snd_v 1)) sndX_no) (snds_cons (snd_setIx (u1 hr) (snd_v 0) snd_int (snd_bin opd_fdiv (snd_ix (u65 hr) (fun _ _ => rfl) (snd_v 0) snd_int) (snd_v 1))) (snds_cons (snd_ret (snd_v 2) sndX_no) snds_nil))) snds_nil) (snds_cons (snd_setIx (u1 hr) (snd_v 0) snd_int (snd_bin opd_add (snd_ix (u65 hr) (fun _ _ => rfl) (snd_v 0) snd_int) snd_int)) (snds_cons (snd_set (i := 3) sc_l_take.nd rfl (by first | exact .inl rfl | exact .inr rfl) (snd_bin opd_mod (snd_biT cal_int rfl G.g_int (by rfl) (sndR_cons (snd_bin opd_mul (snd_bin opd_add (snd_ix (u65 hr) (fun _ _ => rfl) (snd_v 0) snd_int) (snd_bin opd_mul snd_int (snd_ix (u65 hr) (fun _ _ => rfl) (snd_v 0) snd_int))) (snd_bin opd_add snd_int (snd_ix (u65 hr) (fun _ _ => rfl) (snd_v 0) snd_int))) sndR_nil)) snd_int) sndX_no) (snds_cons (snd_set (i := 4) sc_l_take.nd rfl (by first | exact .inl rfl | exact .inr rfl) (snd_bin opd_add (snd_bin opd_mod (snd_biT cal_int rfl G.g_int (by rfl) (sndR_cons (snd_v 3) sndR_nil)) snd_int) snd_int) sndX_no) (snds_cons (snd_set (i := 5) sc_l_take.nd rfl (by first | exact .inl rfl | exact .inr rfl) (snd_bin opd_mod (snd_biT cal_int rfl G.g_int (by rfl) (sndR_cons (snd_bin opd_mul (snd_bin opd_add (snd_bin opd_add (snd_v 3) (snd_ix (u65 hr) (fun _ _ => rfl) (snd_v 0) snd_int)) (snd_bin opd_fdiv (snd_ix (u65 hr) (fun _ _ => rfl) (snd_v 0) snd_int) snd_int)) (snd_v 4)) sndR_nil)) snd_int) sndX_no) (snds_cons (snd_ret (snd_bin opd_mod (snd_biT cal_int rfl G.g_int (by rfl) (sndR_cons (snd_bin opd_fdiv (snd_bin opd_mod (snd_biT cal_int rfl G.g_int (by rfl) (sndR_cons (snd_bin opd_add (snd_bin opd_mul (snd_v 5) snd_int) (snd_v 3)) sndR_nil)) snd_int) snd_int) sndR_nil)) (snd_v 1)) sndX_no) snds_nil))))))
theorem b_l_cells (na : NoAl Φ) (C : Cs Φ P w K mg base n) (G : Gs P K mg) (hr : Room n (A.deeper (envOfC "_law_cells" (defScope s_l_cells) s.heap.objs.size f cdv))) : SndSts Φ (cxOf (L2.CX P w) P w K mg base n_l_cells "_law_cells" (defScope s_l_cells) f cdv A outer s H E) (defBody s_l_cells) d_l_cells.body :=
  (snds_cons (snd_set (i := 2) sc_l_cells.nd rfl (by first | exact .inl rfl | exact .inr rfl) (snd_or (snd_biT cal_list rfl G.g_list (by rfl) (sndR_cons (snd_sl (snd_v 0) sndO_none (sndO_any (snd_v 1))) sndR_nil)) (snd_or1 (snd_lst (sndS_cons snd_int sndS_nil)))) sndX_no) (snds_cons (snd_for (passes_of rfl) rfl (sndI_e rfl G.g_enumerate (snd_sl (snd_v 0) (sndO_any (snd_v 1)) (sndO_any snd_int))) (pg_seq rfl (pgs_cons (pg_name (i := 3) sc_l_cells.nd rfl (by first | exact .inl rfl | exact .inr rfl)) (pgs_cons (pg_name (i := 4) sc_l_cells.nd rfl (by first | exact .inl rfl | exact .inr rfl)) pgs_nil))) (snds_cons (snd_set (i := 5) sc_l_cells.nd rfl (by first | exact .inl rfl | exact .inr rfl) (snd_bin opd_mod (snd_biT cal_int rfl G.g_int (by rfl) (sndR_cons (snd_v 3) sndR_nil)) (snd_v 1)) sndX_no) (snds_cons (snd_setIx (u1 hr) (snd_v 2) (snd_v 5) (snd_bin opd_add (snd_ix (u65 hr) (fun _ _ => rfl) (snd_v 2) (snd_v 5)) (snd_bin opd_mul (snd_v 4) (snd_bin opd_add (snd_v 3) snd_int)))) snds_nil))) (snds_cons (snd_ret (snd_v 2) sndX_no) snds_nil)))
theorem b_l_of (na : NoAl Φ) (C : Cs Φ P w K mg base n) (G : Gs P K mg) (hr : Room n (A.deeper (envOfC "_law_of" (defScope s_l_of) s.heap.objs.size f cdv))) : SndSts Φ (cxOf (L2.CX P w) P w K mg base n_l_of "_law_of" (defScope s_l_of) f cdv A outer s H E) (defBody s_l_of) d_l_of.body :=
  (snds_cons (snd_ret (snd_ix (u65 hr) (fun _ _ => rfl) (snd_v 1) (snd_call (has_of C.c_l_take hr) na rfl (sndR_cons (snd_v 0) (sndR_cons (snd_biB cal_len rfl G.g_len (by rfl) (sndR_cons (snd_v 1) sndR_nil)) sndR_nil)))) sndX_no) snds_nil)
theorem b_l_pick (na : NoAl Φ) (C : Cs Φ P w K mg base n) (G : Gs P K mg) (hr : Room n (A.deeper (envOfC "_law_pick" (defScope s_l_pick) s.heap.objs.size f cdv))) : SndSts Φ (cxOf (L2.CX P w) P w K mg base n_l_pick "_law_pick" (defScope s_l_pick) f cdv A outer s H E) (defBody s_l_pick) d_l_pick.body :=
  (snds_cons (snd_par2 (i := 3) (j := 4) rfl sc_l_pick.nd rfl rfl (by decide) rfl rfl (sndR_cons (snd_biT cal_list rfl G.g_list (by rfl) (sndR_cons (snd_v 1) sndR_nil)) (sndR_cons (snd_lst sndS_nil) sndR_nil)) (by kernel_rfl)) (snds_cons (snd_for (passes_of rfl) rfl (sndI_r1 rfl G.g_range (snd_biB (cal_min (u65 hr) rfl) rfl G.g_min (by rfl) (sndR_cons (snd_v 2) (sndR_cons (snd_biB cal_len rfl G.g_len (by rfl) (sndR_cons (snd_v 3) sndR_nil)) sndR_nil)))) (pg_name (i := 5) sc_l_pick.nd rfl (by first | exact .inl rfl | exact .inr rfl)) (snds_cons (snd_ex (snd_me PySem.F.slot_list_append PySem.F.type_list_append med_append (snd_v 4) (sndS_cons (snd_me PySem.F.slot_list_pop PySem.F.type_list_pop med_popAt (snd_v 3) (sndS_cons (snd_call (has_of C.c_l_take hr) na rfl (sndR_cons (snd_v 0) (sndR_cons (snd_biB cal_len rfl G.g_len (by rfl) (sndR_cons (snd_v 3) sndR_nil)) sndR_nil))) sndS_nil)) sndS_nil)) sndX_no) snds_nil)) (snds_cons (snd_ret (snd_v 4) sndX_no) snds_nil)))
theorem b_l_lists (na : NoAl Φ) (C : Cs Φ P w K mg base n) (G : Gs P K mg) (hr : Room n (A.deeper (envOfC "_law_lists" (defScope s_l_lists) s.heap.objs.size f cdv))) : SndSts Φ (cxOf (L2.CX P w) P w K mg base n_l_lists "_law_lists" (defScope s_l_lists) f cdv A outer s H E) (defBody s_l_lists) d_l_lists.body :=
  (snds_cons (snd_ret (snd_ite (sndT_v (snd_isiT rfl G.g_isinstance (by rfl) (snd_v 0) (ptys_cons (y := "list") rfl G.g_list (by rfl) (ptys_cons (y := "tuple") rfl G.g_tuple (by rfl) ptys_nil)))) (snd_lc (own := [("_law_bit", 1)]) (tg := (.n 1)) rfl sc_l_lists.nd (sndI_x (snd_v 0)) (blkOk_by (own := [("_law_bit", 1)]) (N := n_l_lists) (by kernel_rfl)) (fun _ _ _ _ _ => (pg_name (i := 1) sc_l_lists.nd rfl (by first | exact .inl rfl | exact .inr rfl))) (fun _ _ _ _ _ => sndF_nil) (fun _ _ _ _ _ => (snd_call (has_of C.c_l_lists hr) na rfl (sndR_cons (snd_v 1) sndR_nil))) (by decide)) (snd_v 0)) (sndX_ite (sndT_v (snd_isiT rfl G.g_isinstance (by rfl) (snd_v 0) (ptys_cons (y := "list") rfl G.g_list (by rfl) (ptys_cons (y := "tuple") rfl G.g_tuple (by rfl) ptys_nil)))) sndX_no sndX_no)) snds_nil)
theorem b_l_same (na : NoAl Φ) (C : Cs Φ P w K mg base n) (G : Gs P K mg) (hr : Room n (A.deeper (envOfC "_law_same" (defScope s_l_same) s.heap.objs.size f cdv))) : SndSts Φ (cxOf (L2.CX P w) P w K mg base n_l_same "_law_same" (defScope s_l_same) f cdv A outer s H E) (defBody s_l_same) d_l_same.body :=
  (snds_cons (snd_iff (sndT_v (snd_isiT rfl G.g_isinstance (by rfl) (snd_v 1) (ptys_cons (y := "list") rfl G.g_list (by rfl) (ptys_cons (y := "tuple") rfl G.g_tuple (by rfl) ptys_nil)))) (snds_cons (snd_iff (sndT_w (sndW_or (sndT_cmp (opd_ne (u65 hr)) (nomark _) (snd_isi1 rfl G.g_isinstance (by rfl) (snd_v 0) (ptys_cons (y := "list") rfl G.g_list (by rfl) ptys_nil)) (snd_isi1 rfl G.g_isinstance (by rfl) (snd_v 1) (ptys_cons (y := "list") rfl G.g_list (by rfl) ptys_nil))) (sndW_or1 (sndT_cmp (opd_ne (u65 hr)) (nomark _) (snd_isi1 rfl G.g_isinstance (by rfl) (snd_v 0) (ptys_cons (y := "tuple") rfl G.g_tuple (by rfl) ptys_nil)) (snd_isi1 rfl G.g_isinstance (by rfl) (snd_v 1) (ptys_cons (y := "tuple") rfl G.g_tuple (by rfl) ptys_nil)))))) (snds_cons (snd_ret snd_bool sndX_no) snds_nil) snds_nil) (snds_cons (snd_ret (snd_and (snd_cmp (opd_eq (u65 hr)) (nomark _) (snd_biB cal_len rfl G.g_len (by rfl) (sndR_cons (snd_v 0) sndR_nil)) (snd_biB cal_len rfl G.g_len (by rfl) (sndR_cons (snd_v 1) sndR_nil))) (snd_and1 (snd_biB (cal_all rfl) rfl G.g_all (by rfl) (sndR_cons (snd_lc (own := [("_law_mine", 2), ("_law_its", 3)]) (tg := (.t [2, 3])) rfl sc_l_same.nd (sndI_z rfl G.g_zip (snd_v 0) (snd_v 1)) (blkOk_by (own := [("_law_mine", 2), ("_law_its", 3)]) (N := n_l_same) (by kernel_rfl)) (fun _ _ _ _ _ => (pg_seq rfl (pgs_cons (pg_name (i := 2) sc_l_same.nd rfl (by first | exact .inl rfl | exact .inr rfl)) (pgs_cons (pg_name (i := 3) sc_l_same.nd rfl (by first | exact .inl rfl | exact .inr rfl)) pgs_nil)))) (fun _ _ _ _ _ => sndF_nil) (fun _ _ _ _ _ => (snd_call (has_of C.c_l_same hr) na rfl (sndR_cons (snd_v 2) (sndR_cons (snd_v 3) sndR_nil)))) (by decide)) sndR_nil)))) sndX_no) snds_nil)) snds_nil) (snds_cons (snd_iff (sndT_w (sndW_or (sndT_cmp opd_is (nomark _) (snd_v 1) snd_none) (sndW_or1 (sndT_v (snd_isiT rfl G.g_isinstance (by rfl) (snd_v 1) (ptys_cons (y := "bool") rfl G.g_bool (by rfl) (ptys_cons (y := "str") rfl G.g_str (by rfl) ptys_nil))))))) (snds_cons (snd_ret (snd_and (snd_cmp (opd_eq (u65 hr)) (nomark _) (snd_v 0) (snd_v 1)) (snd_and (snd_cmp (opd_eq (u65 hr)) (nomark _) (snd_isi1 rfl G.g_isinstance (by rfl) (snd_v 0) (ptys_cons (y := "bool") rfl G.g_bool (by rfl) ptys_nil)) (snd_isi1 rfl G.g_isinstance (by rfl) (snd_v 1) (ptys_cons (y := "bool") rfl G.g_bool (by rfl) ptys_nil))) (snd_and1 (snd_cmp (opd_eq (u65 hr)) (nomark _) (snd_cmp opd_is (nomark _) (snd_v 0) snd_none) (snd_cmp opd_is (nomark _) (snd_v 1) snd_none))))) sndX_no) snds_nil) snds_nil) (snds_cons (snd_ret (snd_and (snd_isi1 rfl G.g_isinstance (by rfl) (snd_v 0) (ptys_cons (y := "int") rfl G.g_int (by rfl) ptys_nil)) (snd_and (snd_not (snd_isi1 rfl G.g_isinstance (by rfl) (snd_v 0) (ptys_cons (y := "bool") rfl G.g_bool (by rfl) ptys_nil))) (snd_and1 (snd_cmp (opd_eq (u65 hr)) (nomark _) (snd_v 0) (snd_v 1))))) sndX_no) snds_nil)))
theorem b_l_web (na : NoAl Φ) (C : Cs Φ P w K mg base n) (G : Gs P K mg) (hr : Room n (A.deeper (envOfC "_law_web" (defScope s_l_web) s.heap.objs.size f cdv))) : SndSts Φ (cxOf (L2.CX P w) P w K mg base n_l_web "_law_web" (defScope s_l_web) f cdv A outer s H E) (defBody s_l_web) d_l_web.body :=
  (snds_cons (snd_setC (i := 3) sc_l_web.nd rfl (by first | exact .inl rfl | exact .inr rfl) (has_of C.c_l_pick hr) na rfl (sndR_cons (snd_v 0) (sndR_cons (snd_lst (sndS_cons snd_str (sndS_cons snd_str (sndS_cons snd_str (sndS_cons snd_str (sndS_cons snd_str (sndS_cons snd_str (sndS_cons snd_str (sndS_cons snd_str (sndS_cons snd_str (sndS_cons snd_str sndS_nil))))))))))) (sndR_cons (snd_biB (cal_max rfl) rfl G.g_max (by rfl) (sndR_cons snd_int (sndR_cons (snd_bin opd_add snd_int (snd_call (has_of C.c_l_take hr) na rfl (sndR_cons (snd_v 0) (sndR_cons (snd_v 2) sndR_nil)))) sndR_nil))) sndR_nil)))) (snds_cons (snd_set (i := 4) sc_l_web.nd rfl (by first | exact .inl rfl | exact .inr rfl) (snd_biB (cal_sorted (u65 hr)) rfl G.g_sorted (by rfl) (sndR_cons (snd_call (has_of C.c_l_pick hr) na rfl (sndR_cons (snd_v 0) (sndR_cons (snd_lst (sndS_cons snd_str (sndS_cons snd_str (sndS_cons snd_str (sndS_cons snd_str (sndS_cons snd_str (sndS_cons snd_str (sndS_cons snd_str (sndS_cons snd_str (sndS_cons snd_str (sndS_cons snd_str (sndS_cons snd_str (sndS_cons snd_str (sndS_cons snd_str (sndS_cons snd_str sndS_nil))))))))))))))) (sndR_cons (snd_v 1) sndR_nil)))) sndR_nil)) sndX_no) (snds_cons (snd_set (i := 5) sc_l_web.nd rfl (by first | exact .inl rfl | exact .inr rfl) (snd_lst sndS_nil) sndX_no) (snds_cons (snd_for (passes_of rfl) rfl (sndI_x (snd_sl (snd_v 4) sndO_none (sndO_any (snd_bin opd_add snd_int (snd_call (has_of C.c_l_take hr) na rfl (sndR_cons (snd_v 0) (sndR_cons (snd_v 1) sndR_nil))))))) (pg_name (i := 6) sc_l_web.nd rfl (by first | exact .inl rfl | exact .inr rfl)) (snds_cons (snd_par2 (i := 7) (j := 8) rfl sc_l_web.nd rfl rfl (by decide) rfl rfl (sndR_cons (snd_call (has_of C.c_l_of hr) na rfl (sndR_cons (snd_v 0) (sndR_cons (snd_v 3) sndR_nil))) (sndR_cons (snd_call (has_of C.c_l_of hr) na rfl (sndR_cons (snd_v 0) (sndR_cons (snd_v 3) sndR_nil))) sndR_nil)) (by kernel_rfl)) (snds_cons (snd_iff (sndT_w (sndW_and (sndT_cmp (opd_eq (u65 hr)) (nomark _) (snd_v 7) (snd_v 8)) (sndW_and1 (sndT_cmp opd_gt (nomark _) (snd_call (has_of C.c_l_take hr) na rfl (sndR_cons (snd_v 0) (sndR_cons snd_int sndR_nil))) snd_int)))) (snds_cons (snd_setC (i := 8) sc_l_web.nd rfl (by first | exact .inl rfl | exact .inr rfl) (has_of C.c_l_of hr) na rfl (sndR_cons (snd_v 0) (sndR_cons (snd_v 3) sndR_nil))) snds_nil) snds_nil) (snds_cons (snd_ex (snd_me PySem.F.slot_list_append PySem.F.type_list_append med_append (snd_v 5) (sndS_cons (snd_tup (sndS_cons (snd_v 6) (sndS_cons (snd_v 7) (sndS_cons (snd_v 8) sndS_nil)))) sndS_nil)) sndX_no) snds_nil)))) (snds_cons (snd_ret (snd_biT cal_tuple rfl G.g_tuple (by rfl) (sndR_cons (snd_v 5) sndR_nil)) sndX_no) snds_nil)))))
theorem b_l_spots (na : NoAl Φ) (C : Cs Φ P w K mg base n) (G : Gs P K mg) (hr : Room n (A.deeper (envOfC "_law_spots" (defScope s_l_spots) s.heap.objs.size f cdv))) : SndSts Φ (cxOf (L2.CX P w) P w K mg base n_l_spots "_law_spots" (defScope s_l_spots) f cdv A outer s H E) (defBody s_l_spots) d_l_spots.body :=
  (snds_cons (snd_set (i := 1) sc_l_spots.nd rfl (by first | exact .inl rfl | exact .inr rfl) (snd_lst sndS_nil) sndX_no) (snds_cons (snd_for (passes_of rfl) rfl (sndI_x (snd_v 0)) (pg_name (i := 2) sc_l_spots.nd rfl (by first | exact .inl rfl | exact .inr rfl)) (snds_cons (snd_for (passes_of rfl) rfl (sndI_x (snd_sl (snd_v 2) (sndO_any snd_int) sndO_none)) (pg_name (i := 3) sc_l_spots.nd rfl (by first | exact .inl rfl | exact .inr rfl)) (snds_cons (snd_iff (sndT_notin (u65 hr) (by rfl) (snd_v 3) (snd_v 1)) (snds_cons (snd_ex (snd_me PySem.F.slot_list_append PySem.F.type_list_append med_append (snd_v 1) (sndS_cons (snd_v 3) sndS_nil)) sndX_no) snds_nil) snds_nil) snds_nil)) snds_nil)) (snds_cons (snd_ret (snd_biB (cal_sorted (u65 hr)) rfl G.g_sorted (by rfl) (sndR_cons (snd_v 1) sndR_nil)) sndX_no) snds_nil)))
theorem b_l_due (na : NoAl Φ) (C : Cs Φ P w K mg base n) (G : Gs P K mg) (hr : Room n (A.deeper (envOfC "_law_due" (defScope s_l_due) s.heap.objs.size f cdv))) : SndSts Φ (cxOf (L2.CX P w) P w K mg base n_l_due "_law_due" (defScope s_l_due) f cdv A outer s H E) (defBody s_l_due) d_l_due.body :=
  (snds_cons (snd_setC (i := 1) sc_l_due.nd rfl (by first | exact .inl rfl | exact .inr rfl) (has_of C.c_l_spots hr) na rfl (sndR_cons (snd_v 0) sndR_nil)) (snds_cons (snd_set (i := 2) sc_l_due.nd rfl (by first | exact .inl rfl | exact .inr rfl) (snd_rng rfl rfl G.g_list rfl G.g_range (snd_biB cal_len rfl G.g_len (by rfl) (sndR_cons (snd_v 1) sndR_nil))) sndX_no) (snds_cons (snd_for (passes_of rfl) rfl (sndI_x (snd_v 1)) (pg_name (i := 3) sc_l_due.nd rfl (by first | exact .inl rfl | exact .inr rfl)) (snds_cons (snd_for (passes_of rfl) rfl (sndI_x (snd_v 0)) (pg_name (i := 4) sc_l_due.nd rfl (by first | exact .inl rfl | exact .inr rfl)) (snds_cons (snd_par2 (i := 5) (j := 6) rfl sc_l_due.nd rfl rfl (by decide) rfl rfl (sndR_cons (snd_index (u65 hr) (snd_v 1) (snd_ix (u65 hr) (fun _ _ => rfl) (snd_v 4) snd_int)) (sndR_cons (snd_index (u65 hr) (snd_v 1) (snd_ix (u65 hr) (fun _ _ => rfl) (snd_v 4) snd_int)) sndR_nil)) (by kernel_rfl)) (snds_cons (snd_set (i := 7) sc_l_due.nd rfl (by first | exact .inl rfl | exact .inr rfl) (snd_biB (cal_min (u65 hr) rfl) rfl G.g_min (by rfl) (sndR_cons (snd_ix (u65 hr) (fun _ _ => rfl) (snd_v 2) (snd_v 5)) (sndR_cons (snd_ix (u65 hr) (fun _ _ => rfl) (snd_v 2) (snd_v 6)) sndR_nil))) sndX_no) (snds_cons (snd_setIx (u1 hr) (snd_v 2) (snd_v 5) (snd_v 7)) (snds_cons (snd_setIx (u1 hr) (snd_v 2) (snd_v 6) (snd_v 7)) snds_nil))))) snds_nil)) (snds_cons (snd_set (i := 8) sc_l_due.nd rfl (by first | exact .inl rfl | exact .inr rfl) (snd_lst sndS_nil) sndX_no) (snds_cons (snd_for (passes_of rfl) rfl (sndI_r1 rfl G.g_range (snd_biB cal_len rfl G.g_len (by rfl) (sndR_cons (snd_v 1) sndR_nil))) (pg_name (i := 9) sc_l_due.nd rfl (by first | exact .inl rfl | exact .inr rfl)) (snds_cons (snd_iff (sndT_in (u65 hr) (by rfl) (snd_v 9) (snd_v 2)) (snds_cons (snd_ex (snd_me PySem.F.slot_list_append PySem.F.type_list_append med_append (snd_v 8) (sndS_cons (snd_biT cal_tuple rfl G.g_tuple (by rfl) (sndR_cons (snd_lc (own := [("_law_k", 10)]) (tg := (.n 10)) rfl sc_l_due.nd (sndI_r1 rfl G.g_range (snd_biB cal_len rfl G.g_len (by rfl) (sndR_cons (snd_v 1) sndR_nil))) (blkOk_by (own := [("_law_k", 10)]) (N := n_l_due) (by kernel_rfl)) (fun _ _ _ _ _ => (pg_name (i := 10) sc_l_due.nd rfl (by first | exact .inl rfl | exact .inr rfl))) (fun _ _ _ _ _ => (sndF_one (sndT_cmp (opd_eq (u65 hr)) (nomark _) (snd_ix (u65 hr) (fun _ _ => rfl) (snd_v 2) (snd_v 10)) (snd_v 9)))) (fun _ _ _ _ _ => (snd_ix (u65 hr) (fun _ _ => rfl) (snd_v 1) (snd_v 10))) (by decide)) sndR_nil)) sndS_nil)) sndX_no) snds_nil) snds_nil) snds_nil)) (snds_cons (snd_ret (snd_lst (sndS_cons (snd_biT cal_tuple rfl G.g_tuple (by rfl) (sndR_cons (snd_v 1) sndR_nil)) (sndS_cons (snd_biT cal_tuple rfl G.g_tuple (by rfl) (sndR_cons (snd_lc (own := [("_law_row", 4)]) (tg := (.n 4)) rfl sc_l_due.nd (sndI_x (snd_v 0)) (blkOk_by (own := [("_law_row", 4)]) (N := n_l_due) (by kernel_rfl)) (fun _ _ _ _ _ => (pg_name (i := 4) sc_l_due.nd rfl (by first | exact .inl rfl | exact .inr rfl))) (fun _ _ _ _ _ => sndF_nil) (fun _ _ _ _ _ => (snd_ix (u65 hr) (fun _ _ => rfl) (snd_v 4) snd_int)) (by decide)) sndR_nil)) (sndS_cons (snd_v 8) (sndS_cons (snd_bin opd_sub (snd_biB cal_len rfl G.g_len (by rfl) (sndR_cons (snd_v 1) sndR_nil)) (snd_biB cal_len rfl G.g_len (by rfl) (sndR_cons (snd_v 8) sndR_nil))) sndS_nil))))) sndX_no) snds_nil))))))
theorem b_l_right (na : NoAl Φ) (C : Cs Φ P w K mg base n) (G : Gs P K mg) (hr : Room n (A.deeper (envOfC "_law_right" (defScope s_l_right) s.heap.objs.size f cdv))) : SndSts Φ (cxOf (L2.CX P w) P w K mg base n_l_right "_law_right" (defScope s_l_right) f cdv A outer s H E) (defBody s_l_right) d_l_right.body :=
  (snds_cons (snd_for (passes_of rfl) rfl (sndI_r1 rfl G.g_range snd_int) (pg_name (i := 1) sc_l_right.nd rfl (by first | exact .inl rfl | exact .inr rfl)) (snds_cons (snd_setC (i := 2) sc_l_right.nd rfl (by first | exact .inl rfl | exact .inr rfl) (has_of C.c_l_web hr) na rfl (sndR_cons (snd_v 0) (sndR_cons snd_int (sndR_cons snd_int sndR_nil)))) (snds_cons (snd_par2 (i := 3) (j := 4) rfl sc_l_right.nd rfl rfl (by decide) rfl rfl (sndR_cons (snd_call (has_of C.c_l_lists hr) na rfl (sndR_cons (snd_v 2) sndR_nil)) (sndR_cons (snd_call (has_of C.c_l_due hr) na rfl (sndR_cons (snd_v 2) sndR_nil)) sndR_nil)) (by kernel_rfl)) (snds_tell (i := 5) (j := 4) (ks := [3, 4]) sc_l_right.nd rfl (by first | exact .inl rfl | exact .inr rfl) (sndR_cons (snd_call (has_of C.c_nodes hr) na rfl (sndR_cons (snd_v 2) sndR_nil)) (sndR_cons (snd_call (has_of C.c_parts hr) na rfl (sndR_cons (snd_v 2) sndR_nil)) (sndR_cons (snd_call (has_of C.c_groups hr) na rfl (sndR_cons (snd_v 2) sndR_nil)) (sndR_cons (snd_call (has_of C.c_rank hr) na rfl (sndR_cons (snd_v 2) sndR_nil)) sndR_nil)))) (by rfl) (by first | exact .inl rfl | exact .inr rfl | assumption) (sndT_not (sndT_v (snd_call (has_of C.c_l_same hr) na rfl (sndR_cons (snd_v 5) (sndR_cons (snd_v 4) sndR_nil))))) (snds_cons (snd_ret snd_bool sndX_no) snds_nil) same_call (by decide) (by first | exact Or.inl rfl | exact Or.inr (Or.inl rfl) | exact Or.inr (Or.inr rfl)) (by decide) (by decide) (fun _ _ => rfl) PySem.F.slot_list_append PySem.F.type_list_append (sndS_cons (snd_tup (sndS_cons snd_str sndS_nil)) sndS_nil) ez_str (by rfl) (by rfl) (by rfl) (by exact star_cons rfl) (by rfl) (by rfl) (snds_cons (snd_set (i := 5) sc_l_right.nd rfl (by first | exact .inl rfl | exact .inr rfl) (snd_lst (sndS_cons (snd_callK0 C.k_nodes hr na rfl (sndK_one (snd_v 3))) (sndS_cons (snd_callK0 C.k_parts hr na rfl (sndK_one (snd_v 3))) (sndS_cons (snd_callK0 C.k_groups hr na rfl (sndK_one (snd_v 3))) (sndS_cons (snd_callK0 C.k_rank hr na rfl (sndK_one (snd_v 3))) sndS_nil))))) sndX_no) (snds_cons (snd_iff (sndT_w (sndW_or (sndT_not (sndT_v (snd_call (has_of C.c_l_same hr) na rfl (sndR_cons (snd_v 5) (sndR_cons (snd_v 4) sndR_nil))))) (sndW_or1 (sndT_cmp (opd_ne (u65 hr)) (nomark _) (snd_v 3) (snd_call (has_of C.c_l_lists hr) na rfl (sndR_cons (snd_v 2) sndR_nil)))))) (snds_cons (snd_ret snd_bool sndX_no) snds_nil) snds_nil) snds_nil)))))) (snds_cons (snd_set (i := 6) sc_l_right.nd rfl (by first | exact .inl rfl | exact .inr rfl) (snd_tup (sndS_cons (snd_tup (sndS_cons snd_str (sndS_cons snd_str (sndS_cons snd_str sndS_nil)))) (sndS_cons (snd_tup (sndS_cons snd_str (sndS_cons snd_str (sndS_cons snd_str sndS_nil)))) sndS_nil))) sndX_no) (snds_cons (snd_set (i := 5) sc_l_right.nd rfl (by first | exact .inl rfl | exact .inr rfl) (snd_lst (sndS_cons (snd_call (has_of C.c_nodes hr) na rfl (sndR_cons (snd_tup sndS_nil) sndR_nil)) (sndS_cons (snd_call (has_of C.c_parts hr) na rfl (sndR_cons (snd_tup sndS_nil) sndR_nil)) (sndS_cons (snd_call (has_of C.c_groups hr) na rfl (sndR_cons (snd_tup sndS_nil) sndR_nil)) (sndS_cons (snd_call (has_of C.c_rank hr) na rfl (sndR_cons (snd_tup sndS_nil) sndR_nil)) (sndS_cons (snd_call (has_of C.c_nodes hr) na rfl (sndR_cons (snd_v 6) sndR_nil)) (sndS_cons (snd_call (has_of C.c_parts hr) na rfl (sndR_cons (snd_v 6) sndR_nil)) (sndS_cons (snd_call (has_of C.c_groups hr) na rfl (sndR_cons (snd_v 6) sndR_nil)) (sndS_cons (snd_call (has_of C.c_rank hr) na rfl (sndR_cons (snd_v 6) sndR_nil)) sndS_nil))))))))) sndX_no) (snds_cons (snd_set (i := 7) sc_l_right.nd rfl (by first | exact .inl rfl | exact .inr rfl) (snd_tup (sndS_cons (snd_tup (sndS_cons snd_str (sndS_cons snd_str (sndS_cons snd_str sndS_nil)))) (sndS_cons (snd_tup (sndS_cons snd_str (sndS_cons snd_str (sndS_cons snd_str sndS_nil)))) (sndS_cons (snd_tup (sndS_cons snd_str (sndS_cons snd_str (sndS_cons snd_str sndS_nil)))) sndS_nil)))) sndX_no) (snds_cons (snd_set (i := 5) sc_l_right.nd rfl (by first | exact .inl rfl | exact .inr rfl) (snd_bin opd_add (snd_v 5) (snd_lst (sndS_cons (snd_call (has_of C.c_groups hr) na rfl (sndR_cons (snd_v 7) sndR_nil)) (sndS_cons (snd_call (has_of C.c_rank hr) na rfl (sndR_cons (snd_v 7) sndR_nil)) sndS_nil)))) sndX_no) (snds_cons (snd_set (i := 4) sc_l_right.nd rfl (by first | exact .inl rfl | exact .inr rfl) (snd_lst (sndS_cons (snd_tup sndS_nil) (sndS_cons (snd_tup sndS_nil) (sndS_cons (snd_lst sndS_nil) (sndS_cons snd_int (sndS_cons (snd_tup (sndS_cons snd_str (sndS_cons snd_str (sndS_cons snd_str sndS_nil)))) (sndS_cons (snd_tup (sndS_cons snd_str (sndS_cons snd_str sndS_nil))) (sndS_cons (snd_lst (sndS_cons (snd_tup (sndS_cons snd_str sndS_nil)) (sndS_cons (snd_tup (sndS_cons snd_str (sndS_cons snd_str sndS_nil))) sndS_nil))) (sndS_cons snd_int (sndS_cons (snd_lst (sndS_cons (snd_tup (sndS_cons snd_str (sndS_cons snd_str (sndS_cons snd_str (sndS_cons snd_str sndS_nil))))) sndS_nil)) (sndS_cons snd_int sndS_nil))))))))))) sndX_no) (snds_cons (snd_retC (has_of C.c_l_same hr) na rfl (sndR_cons (snd_v 5) (sndR_cons (snd_v 4) sndR_nil))) snds_nil)))))))
theorem b_law (na : NoAl Φ) (C : Cs Φ P w K mg base n) (G : Gs P K mg) (hr : Room n (A.deeper (envOfC "law" (defScope s_law) s.heap.objs.size f cdv))) : SndSts Φ (cxOf (L2.CX P w) P w K mg base n_law "law" (defScope s_law) f cdv A outer s H E) (defBody s_law) d_law.body :=
  (snds_cons (snd_setC (i := 1) sc_law.nd rfl (by first | exact .inl rfl | exact .inr rfl) (has_of C.c_l_cells hr) na rfl (sndR_cons (snd_v 0) (sndR_cons snd_int sndR_nil))) (snds_cons (snd_ret (snd_biB (cal_all rfl) rfl G.g_all (by rfl) (sndR_cons (snd_lc (own := [("_law_k", 2)]) (tg := (.n 2)) rfl sc_law.nd (sndI_r1 rfl G.g_range (snd_biB cal_len rfl G.g_len (by rfl) (sndR_cons (snd_v 1) sndR_nil))) (blkOk_by (own := [("_law_k", 2)]) (N := n_law) (by kernel_rfl)) (fun _ _ _ _ _ => (pg_name (i := 2) sc_law.nd rfl (by first | exact .inl rfl | exact .inr rfl))) (fun _ _ _ _ _ => sndF_nil) (fun _ _ _ _ _ => (snd_call (has_of C.c_l_right hr) na rfl (sndR_cons (snd_call (has_of C.c_l_box hr) na rfl (sndR_cons (snd_v 1) (sndR_cons (snd_v 2) sndR_nil))) sndR_nil))) (by decide)) sndR_nil)) sndX_no) snds_nil))
theorem all_ok (G : Gs P K mg) {f_nodes : Addr} {fd_nodes : FuncData} (F_nodes : Fun K "nodes" "nodes" s_nodes f_nodes fd_nodes) (m_nodes : mg "nodes" = some (.ref f_nodes)) (bi_nodes : Binds K fd_nodes ["wiring"] []) {f_parts : Addr} {fd_parts : FuncData} (F_parts : Fun K "parts" "parts" s_parts f_parts fd_parts) (m_parts : mg "parts" = some (.ref f_parts)) (bi_parts : Binds K fd_parts ["wiring"] []) {f_merged : Addr} {fd_merged : FuncData} (F_merged : Fun K "merged" "merged" s_merged f_merged fd_merged) (m_merged : mg "merged" = some (.ref f_merged)) (bi_merged : Binds K fd_merged ["wiring", "names"] []) {f_classes : Addr} {fd_classes : FuncData} (F_classes : Fun K "classes" "classes" s_classes f_classes fd_classes) (m_classes : mg "classes" = some (.ref f_classes)) (bi_classes : Binds K fd_classes ["names", "least"] []) {f_groups : Addr} {fd_groups : FuncData} (F_groups : Fun K "groups" "groups" s_groups f_groups fd_groups) (m_groups : mg "groups" = some (.ref f_groups)) (bi_groups : Binds K fd_groups ["wiring"] []) {f_rank : Addr} {fd_rank : FuncData} (F_rank : Fun K "rank" "rank" s_rank f_rank fd_rank) (m_rank : mg "rank" = some (.ref f_rank)) (bi_rank : Binds K fd_rank ["wiring"] []) {f_l_box : Addr} {fd_l_box : FuncData} (F_l_box : Fun K "_law_box" "_law_box" s_l_box f_l_box fd_l_box) (m_l_box : mg "_law_box" = some (.ref f_l_box)) (bi_l_box : Binds K fd_l_box ["_law_script", "_law_k"] []) {f_l_take : Addr} {fd_l_take : FuncData} (F_l_take : Fun K "_law_take" "_law_take" s_l_take f_l_take fd_l_take) (m_l_take : mg "_law_take" = some (.ref f_l_take)) (bi_l_take : Binds K fd_l_take ["_law_box_here", "_law_below"] []) {f_l_cells : Addr} {fd_l_cells : FuncData} (F_l_cells : Fun K "_law_cells" "_law_cells" s_l_cells f_l_cells fd_l_cells) (m_l_cells : mg "_law_cells" = some (.ref f_l_cells)) (bi_l_cells : Binds K fd_l_cells ["_law_script", "_law_most"] []) {f_l_of : Addr} {fd_l_of : FuncData} (F_l_of : Fun K "_law_of" "_law_of" s_l_of f_l_of fd_l_of) (m_l_of : mg "_law_of" = some (.ref f_l_of)) (bi_l_of : Binds K fd_l_of ["_law_box_here", "_law_some"] []) {f_l_pick : Addr} {fd_l_pick : FuncData} (F_l_pick : Fun K "_law_pick" "_law_pick" s_l_pick f_l_pick fd_l_pick) (m_l_pick : mg "_law_pick" = some (.ref f_l_pick)) (bi_l_pick : Binds K fd_l_pick ["_law_box_here", "_law_pool", "_law_size_so"] []) {f_l_lists : Addr} {fd_l_lists : FuncData} (F_l_lists : Fun K "_law_lists" "_law_lists" s_l_lists f_l_lists fd_l_lists) (m_l_lists : mg "_law_lists" = some (.ref f_l_lists)) (bi_l_lists : Binds K fd_l_lists ["_law_matter"] []) {f_l_same : Addr} {fd_l_same : FuncData} (F_l_same : Fun K "_law_same" "_law_same" s_l_same f_l_same fd_l_same) (m_l_same : mg "_law_same" = some (.ref f_l_same)) (bi_l_same : Binds K fd_l_same ["_law_got", "_law_due_here"] []) {f_l_web : Addr} {fd_l_web : FuncData} (F_l_web : Fun K "_law_web" "_law_web" s_l_web f_l_web fd_l_web) (m_l_web : mg "_law_web" = some (.ref f_l_web)) (bi_l_web : Binds K fd_l_web ["_law_box_here", "_law_most", "_law_spots_here"] []) {f_l_spots : Addr} {fd_l_spots : FuncData} (F_l_spots : Fun K "_law_spots" "_law_spots" s_l_spots f_l_spots fd_l_spots) (m_l_spots : mg "_law_spots" = some (.ref f_l_spots)) (bi_l_spots : Binds K fd_l_spots ["_law_web_here"] []) {f_l_due : Addr} {fd_l_due : FuncData} (F_l_due : Fun K "_law_due" "_law_due" s_l_due f_l_due fd_l_due) (m_l_due : mg "_law_due" = some (.ref f_l_due)) (bi_l_due : Binds K fd_l_due ["_law_web_here"] []) {f_l_right : Addr} {fd_l_right : FuncData} (F_l_right : Fun K "_law_right" "_law_right" s_l_right f_l_right fd_l_right) (m_l_right : mg "_law_right" = some (.ref f_l_right)) (bi_l_right : Binds K fd_l_right ["_law_box_here"] []) {f_law : Addr} {fd_law : FuncData} (F_law : Fun K "law" "law" s_law f_law fd_law) (m_law : mg "law" = some (.ref f_law)) (bi_law : Binds K fd_law ["_law_script"] []) (kb_groups : KBinds K fd_groups ["wiring"] ["wiring"] (fun us ws => us ++ ws) (fun vs zs => vs ++ zs)) (kb_nodes : KBinds K fd_nodes ["wiring"] ["wiring"] (fun us ws => us ++ ws) (fun vs zs => vs ++ zs)) (kb_parts : KBinds K fd_parts ["wiring"] ["wiring"] (fun us ws => us ++ ws) (fun vs zs => vs ++ zs)) (kb_rank : KBinds K fd_rank ["wiring"] ["wiring"] (fun us ws => us ++ ws) (fun vs zs => vs ++ zs))  : ∀ n, Cs (fns tbl n) P w K mg base n
  | 0 => { c_nodes := has0 m_nodes F_nodes.kp bi_nodes, c_parts := has0 m_parts F_parts.kp bi_parts, c_merged := has0 m_merged F_merged.kp bi_merged, c_classes := has0 m_classes F_classes.kp bi_classes, c_groups := has0 m_groups F_groups.kp bi_groups, c_rank := has0 m_rank F_rank.kp bi_rank, c_l_box := has0 m_l_box F_l_box.kp bi_l_box, c_l_take := has0 m_l_take F_l_take.kp bi_l_take, c_l_cells := has0 m_l_cells F_l_cells.kp bi_l_cells, c_l_of := has0 m_l_of F_l_of.kp bi_l_of, c_l_pick := has0 m_l_pick F_l_pick.kp bi_l_pick, c_l_lists := has0 m_l_lists F_l_lists.kp bi_l_lists, c_l_same := has0 m_l_same F_l_same.kp bi_l_same, c_l_web := has0 m_l_web F_l_web.kp bi_l_web, c_l_spots := has0 m_l_spots F_l_spots.kp bi_l_spots, c_l_due := has0 m_l_due F_l_due.kp bi_l_due, c_l_right := has0 m_l_right F_l_right.kp bi_l_right, c_law := has0 m_law F_law.kp bi_law, k_groups := hasK0 m_groups F_groups.kp kb_groups, k_nodes := hasK0 m_nodes F_nodes.kp kb_nodes, k_parts := hasK0 m_parts F_parts.kp kb_parts, k_rank := hasK0 m_rank F_rank.kp kb_rank }
  | n + 1 => by
    have C := all_ok G F_nodes m_nodes bi_nodes F_parts m_parts bi_parts F_merged m_merged bi_merged F_classes m_classes bi_classes F_groups m_groups bi_groups F_rank m_rank bi_rank F_l_box m_l_box bi_l_box F_l_take m_l_take bi_l_take F_l_cells m_l_cells bi_l_cells F_l_of m_l_of bi_l_of F_l_pick m_l_pick bi_l_pick F_l_lists m_l_lists bi_l_lists F_l_same m_l_same bi_l_same F_l_web m_l_web bi_l_web F_l_spots m_l_spots bi_l_spots F_l_due m_l_due bi_l_due F_l_right m_l_right bi_l_right F_law m_law bi_law kb_groups kb_nodes kb_parts kb_rank  n
    have o_nodes := fn_ok (P := P) (w := w) (mg := mg) (base := base) (n := n) (d := d_nodes) (Φ := fns tbl n) F_nodes sc_nodes rfl rfl fun cdv A outer s H E hr => b_nodes (fns_noal tbl n) C G hr
    have o_parts := fn_ok (P := P) (w := w) (mg := mg) (base := base) (n := n) (d := d_parts) (Φ := fns tbl n) F_parts sc_parts rfl rfl fun cdv A outer s H E hr => b_parts (fns_noal tbl n) C G hr
    have o_merged := fn_ok (P := P) (w := w) (mg := mg) (base := base) (n := n) (d := d_merged) (Φ := fns tbl n) F_merged sc_merged rfl rfl fun cdv A outer s H E hr => b_merged (fns_noal tbl n) C G hr
    have o_classes := fn_ok (P := P) (w := w) (mg := mg) (base := base) (n := n) (d := d_classes) (Φ := fns tbl n) F_classes sc_classes rfl rfl fun cdv A outer s H E hr => b_classes (fns_noal tbl n) C G hr
    have o_groups := fn_ok (P := P) (w := w) (mg := mg) (base := base) (n := n) (d := d_groups) (Φ := fns tbl n) F_groups sc_groups rfl rfl fun cdv A outer s H E hr => b_groups (fns_noal tbl n) C G hr
    have o_rank := fn_ok (P := P) (w := w) (mg := mg) (base := base) (n := n) (d := d_rank) (Φ := fns tbl n) F_rank sc_rank rfl rfl fun cdv A outer s H E hr => b_rank (fns_noal tbl n) C G hr
    have o_l_box := fn_ok (P := P) (w := w) (mg := mg) (base := base) (n := n) (d := d_l_box) (Φ := fns tbl n) F_l_box sc_l_box rfl rfl fun cdv A outer s H E hr => b_l_box (fns_noal tbl n) C G hr
    have o_l_take := fn_ok (P := P) (w := w) (mg := mg) (base := base) (n := n) (d := d_l_take) (Φ := fns tbl n) F_l_take sc_l_take rfl rfl fun cdv A outer s H E hr => b_l_take (fns_noal tbl n) C G hr
    have o_l_cells := fn_ok (P := P) (w := w) (mg := mg) (base := base) (n := n) (d := d_l_cells) (Φ := fns tbl n) F_l_cells sc_l_cells rfl rfl fun cdv A outer s H E hr => b_l_cells (fns_noal tbl n) C G hr
    have o_l_of := fn_ok (P := P) (w := w) (mg := mg) (base := base) (n := n) (d := d_l_of) (Φ := fns tbl n) F_l_of sc_l_of rfl rfl fun cdv A outer s H E hr => b_l_of (fns_noal tbl n) C G hr
    have o_l_pick := fn_ok (P := P) (w := w) (mg := mg) (base := base) (n := n) (d := d_l_pick) (Φ := fns tbl n) F_l_pick sc_l_pick rfl rfl fun cdv A outer s H E hr => b_l_pick (fns_noal tbl n) C G hr
    have o_l_lists := fn_ok (P := P) (w := w) (mg := mg) (base := base) (n := n) (d := d_l_lists) (Φ := fns tbl n) F_l_lists sc_l_lists rfl rfl fun cdv A outer s H E hr => b_l_lists (fns_noal tbl n) C G hr
    have o_l_same := fn_ok (P := P) (w := w) (mg := mg) (base := base) (n := n) (d := d_l_same) (Φ := fns tbl n) F_l_same sc_l_same rfl rfl fun cdv A outer s H E hr => b_l_same (fns_noal tbl n) C G hr
    have o_l_web := fn_ok (P := P) (w := w) (mg := mg) (base := base) (n := n) (d := d_l_web) (Φ := fns tbl n) F_l_web sc_l_web rfl rfl fun cdv A outer s H E hr => b_l_web (fns_noal tbl n) C G hr
    have o_l_spots := fn_ok (P := P) (w := w) (mg := mg) (base := base) (n := n) (d := d_l_spots) (Φ := fns tbl n) F_l_spots sc_l_spots rfl rfl fun cdv A outer s H E hr => b_l_spots (fns_noal tbl n) C G hr
    have o_l_due := fn_ok (P := P) (w := w) (mg := mg) (base := base) (n := n) (d := d_l_due) (Φ := fns tbl n) F_l_due sc_l_due rfl rfl fun cdv A outer s H E hr => b_l_due (fns_noal tbl n) C G hr
    have o_l_right := fn_ok (P := P) (w := w) (mg := mg) (base := base) (n := n) (d := d_l_right) (Φ := fns tbl n) F_l_right sc_l_right rfl rfl fun cdv A outer s H E hr => b_l_right (fns_noal tbl n) C G hr
    have o_law := fn_ok (P := P) (w := w) (mg := mg) (base := base) (n := n) (d := d_law) (Φ := fns tbl n) F_law sc_law rfl rfl fun cdv A outer s H E hr => b_law (fns_noal tbl n) C G hr
    exact { c_nodes := hasS m_nodes F_nodes.kp bi_nodes (by kernel_rfl) o_nodes, c_parts := hasS m_parts F_parts.kp bi_parts (by kernel_rfl) o_parts, c_merged := hasS m_merged F_merged.kp bi_merged (by kernel_rfl) o_merged, c_classes := hasS m_classes F_classes.kp bi_classes (by kernel_rfl) o_classes, c_groups := hasS m_groups F_groups.kp bi_groups (by kernel_rfl) o_groups, c_rank := hasS m_rank F_rank.kp bi_rank (by kernel_rfl) o_rank, c_l_box := hasS m_l_box F_l_box.kp bi_l_box (by kernel_rfl) o_l_box, c_l_take := hasS m_l_take F_l_take.kp bi_l_take (by kernel_rfl) o_l_take, c_l_cells := hasS m_l_cells F_l_cells.kp bi_l_cells (by kernel_rfl) o_l_cells, c_l_of := hasS m_l_of F_l_of.kp bi_l_of (by kernel_rfl) o_l_of, c_l_pick := hasS m_l_pick F_l_pick.kp bi_l_pick (by kernel_rfl) o_l_pick, c_l_lists := hasS m_l_lists F_l_lists.kp bi_l_lists (by kernel_rfl) o_l_lists, c_l_same := hasS m_l_same F_l_same.kp bi_l_same (by kernel_rfl) o_l_same, c_l_web := hasS m_l_web F_l_web.kp bi_l_web (by kernel_rfl) o_l_web, c_l_spots := hasS m_l_spots F_l_spots.kp bi_l_spots (by kernel_rfl) o_l_spots, c_l_due := hasS m_l_due F_l_due.kp bi_l_due (by kernel_rfl) o_l_due, c_l_right := hasS m_l_right F_l_right.kp bi_l_right (by kernel_rfl) o_l_right, c_law := hasS m_law F_law.kp bi_law (by kernel_rfl) o_law, k_groups := hasKS m_groups F_groups.kp kb_groups (by kernel_rfl) o_groups, k_nodes := hasKS m_nodes F_nodes.kp kb_nodes (by kernel_rfl) o_nodes, k_parts := hasKS m_parts F_parts.kp kb_parts (by kernel_rfl) o_parts, k_rank := hasKS m_rank F_rank.kp kb_rank (by kernel_rfl) o_rank }
theorem all_mk {l : PySem.W.OpenLaw} {w : World} {K : PySem.W.Frag} {h : Heap} {mg : Str → Option Value} {fa : Addr} (X : K.In h) (Gh : h.Ns mainGlobals mg) (hfa : mg "law" = some (.ref fa))
    {f_nodes : Addr} {oc_nodes kV_nodes dc_nodes pm_nodes cd_nodes ct_nodes : Value} {od_nodes an_nodes : Option Addr} {sl_nodes : Array (Option Value)}
    (a_nodes : PySem.W.nsIn K mainGlobals "nodes" = some (some (.ref f_nodes))) (l_nodes : K.lookup f_nodes = some ⟨oc_nodes, od_nodes, .func (PySem.W.fnOf "nodes" "nodes" (defArgs s_nodes) (defBody s_nodes) (defScope s_nodes) .none kV_nodes dc_nodes pm_nodes an_nodes cd_nodes ct_nodes), sl_nodes⟩) (c_nodes : PySem.W.codeIn K cd_nodes "nodes" = true) (k_nodes : PySem.W.keepIn K (.ref f_nodes) = true)
    {f_parts : Addr} {oc_parts kV_parts dc_parts pm_parts cd_parts ct_parts : Value} {od_parts an_parts : Option Addr} {sl_parts : Array (Option Value)}
    (a_parts : PySem.W.nsIn K mainGlobals "parts" = some (some (.ref f_parts))) (l_parts : K.lookup f_parts = some ⟨oc_parts, od_parts, .func (PySem.W.fnOf "parts" "parts" (defArgs s_parts) (defBody s_parts) (defScope s_parts) .none kV_parts dc_parts pm_parts an_parts cd_parts ct_parts), sl_parts⟩) (c_parts : PySem.W.codeIn K cd_parts "parts" = true) (k_parts : PySem.W.keepIn K (.ref f_parts) = true)
    {f_merged : Addr} {oc_merged kV_merged dc_merged pm_merged cd_merged ct_merged : Value} {od_merged an_merged : Option Addr} {sl_merged : Array (Option Value)}
    (a_merged : PySem.W.nsIn K mainGlobals "merged" = some (some (.ref f_merged))) (l_merged : K.lookup f_merged = some ⟨oc_merged, od_merged, .func (PySem.W.fnOf "merged" "merged" (defArgs s_merged) (defBody s_merged) (defScope s_merged) .none kV_merged dc_merged pm_merged an_merged cd_merged ct_merged), sl_merged⟩) (c_merged : PySem.W.codeIn K cd_merged "merged" = true) (k_merged : PySem.W.keepIn K (.ref f_merged) = true)
    {f_classes : Addr} {oc_classes kV_classes dc_classes pm_classes cd_classes ct_classes : Value} {od_classes an_classes : Option Addr} {sl_classes : Array (Option Value)}
    (a_classes : PySem.W.nsIn K mainGlobals "classes" = some (some (.ref f_classes))) (l_classes : K.lookup f_classes = some ⟨oc_classes, od_classes, .func (PySem.W.fnOf "classes" "classes" (defArgs s_classes) (defBody s_classes) (defScope s_classes) .none kV_classes dc_classes pm_classes an_classes cd_classes ct_classes), sl_classes⟩) (c_classes : PySem.W.codeIn K cd_classes "classes" = true) (k_classes : PySem.W.keepIn K (.ref f_classes) = true)
    {f_groups : Addr} {oc_groups kV_groups dc_groups pm_groups cd_groups ct_groups : Value} {od_groups an_groups : Option Addr} {sl_groups : Array (Option Value)}
    (a_groups : PySem.W.nsIn K mainGlobals "groups" = some (some (.ref f_groups))) (l_groups : K.lookup f_groups = some ⟨oc_groups, od_groups, .func (PySem.W.fnOf "groups" "groups" (defArgs s_groups) (defBody s_groups) (defScope s_groups) .none kV_groups dc_groups pm_groups an_groups cd_groups ct_groups), sl_groups⟩) (c_groups : PySem.W.codeIn K cd_groups "groups" = true) (k_groups : PySem.W.keepIn K (.ref f_groups) = true)
    {f_rank : Addr} {oc_rank kV_rank dc_rank pm_rank cd_rank ct_rank : Value} {od_rank an_rank : Option Addr} {sl_rank : Array (Option Value)}
    (a_rank : PySem.W.nsIn K mainGlobals "rank" = some (some (.ref f_rank))) (l_rank : K.lookup f_rank = some ⟨oc_rank, od_rank, .func (PySem.W.fnOf "rank" "rank" (defArgs s_rank) (defBody s_rank) (defScope s_rank) .none kV_rank dc_rank pm_rank an_rank cd_rank ct_rank), sl_rank⟩) (c_rank : PySem.W.codeIn K cd_rank "rank" = true) (k_rank : PySem.W.keepIn K (.ref f_rank) = true)
    {f_l_box : Addr} {oc_l_box kV_l_box dc_l_box pm_l_box cd_l_box ct_l_box : Value} {od_l_box an_l_box : Option Addr} {sl_l_box : Array (Option Value)}
    (a_l_box : PySem.W.nsIn K mainGlobals "_law_box" = some (some (.ref f_l_box))) (l_l_box : K.lookup f_l_box = some ⟨oc_l_box, od_l_box, .func (PySem.W.fnOf "_law_box" "_law_box" (defArgs s_l_box) (defBody s_l_box) (defScope s_l_box) .none kV_l_box dc_l_box pm_l_box an_l_box cd_l_box ct_l_box), sl_l_box⟩) (c_l_box : PySem.W.codeIn K cd_l_box "_law_box" = true) (k_l_box : PySem.W.keepIn K (.ref f_l_box) = true)
    {f_l_take : Addr} {oc_l_take kV_l_take dc_l_take pm_l_take cd_l_take ct_l_take : Value} {od_l_take an_l_take : Option Addr} {sl_l_take : Array (Option Value)}
    (a_l_take : PySem.W.nsIn K mainGlobals "_law_take" = some (some (.ref f_l_take))) (l_l_take : K.lookup f_l_take = some ⟨oc_l_take, od_l_take, .func (PySem.W.fnOf "_law_take" "_law_take" (defArgs s_l_take) (defBody s_l_take) (defScope s_l_take) .none kV_l_take dc_l_take pm_l_take an_l_take cd_l_take ct_l_take), sl_l_take⟩) (c_l_take : PySem.W.codeIn K cd_l_take "_law_take" = true) (k_l_take : PySem.W.keepIn K (.ref f_l_take) = true)
    {f_l_cells : Addr} {oc_l_cells kV_l_cells dc_l_cells pm_l_cells cd_l_cells ct_l_cells : Value} {od_l_cells an_l_cells : Option Addr} {sl_l_cells : Array (Option Value)}
    (a_l_cells : PySem.W.nsIn K mainGlobals "_law_cells" = some (some (.ref f_l_cells))) (l_l_cells : K.lookup f_l_cells = some ⟨oc_l_cells, od_l_cells, .func (PySem.W.fnOf "_law_cells" "_law_cells" (defArgs s_l_cells) (defBody s_l_cells) (defScope s_l_cells) .none kV_l_cells dc_l_cells pm_l_cells an_l_cells cd_l_cells ct_l_cells), sl_l_cells⟩) (c_l_cells : PySem.W.codeIn K cd_l_cells "_law_cells" = true) (k_l_cells : PySem.W.keepIn K (.ref f_l_cells) = true)
    {f_l_of : Addr} {oc_l_of kV_l_of dc_l_of pm_l_of cd_l_of ct_l_of : Value} {od_l_of an_l_of : Option Addr} {sl_l_of : Array (Option Value)}
    (a_l_of : PySem.W.nsIn K mainGlobals "_law_of" = some (some (.ref f_l_of))) (l_l_of : K.lookup f_l_of = some ⟨oc_l_of, od_l_of, .func (PySem.W.fnOf "_law_of" "_law_of" (defArgs s_l_of) (defBody s_l_of) (defScope s_l_of) .none kV_l_of dc_l_of pm_l_of an_l_of cd_l_of ct_l_of), sl_l_of⟩) (c_l_of : PySem.W.codeIn K cd_l_of "_law_of" = true) (k_l_of : PySem.W.keepIn K (.ref f_l_of) = true)
    {f_l_pick : Addr} {oc_l_pick kV_l_pick dc_l_pick pm_l_pick cd_l_pick ct_l_pick : Value} {od_l_pick an_l_pick : Option Addr} {sl_l_pick : Array (Option Value)}
    (a_l_pick : PySem.W.nsIn K mainGlobals "_law_pick" = some (some (.ref f_l_pick))) (l_l_pick : K.lookup f_l_pick = some ⟨oc_l_pick, od_l_pick, .func (PySem.W.fnOf "_law_pick" "_law_pick" (defArgs s_l_pick) (defBody s_l_pick) (defScope s_l_pick) .none kV_l_pick dc_l_pick pm_l_pick an_l_pick cd_l_pick ct_l_pick), sl_l_pick⟩) (c_l_pick : PySem.W.codeIn K cd_l_pick "_law_pick" = true) (k_l_pick : PySem.W.keepIn K (.ref f_l_pick) = true)
    {f_l_lists : Addr} {oc_l_lists kV_l_lists dc_l_lists pm_l_lists cd_l_lists ct_l_lists : Value} {od_l_lists an_l_lists : Option Addr} {sl_l_lists : Array (Option Value)}
    (a_l_lists : PySem.W.nsIn K mainGlobals "_law_lists" = some (some (.ref f_l_lists))) (l_l_lists : K.lookup f_l_lists = some ⟨oc_l_lists, od_l_lists, .func (PySem.W.fnOf "_law_lists" "_law_lists" (defArgs s_l_lists) (defBody s_l_lists) (defScope s_l_lists) .none kV_l_lists dc_l_lists pm_l_lists an_l_lists cd_l_lists ct_l_lists), sl_l_lists⟩) (c_l_lists : PySem.W.codeIn K cd_l_lists "_law_lists" = true) (k_l_lists : PySem.W.keepIn K (.ref f_l_lists) = true)
    {f_l_same : Addr} {oc_l_same kV_l_same dc_l_same pm_l_same cd_l_same ct_l_same : Value} {od_l_same an_l_same : Option Addr} {sl_l_same : Array (Option Value)}
    (a_l_same : PySem.W.nsIn K mainGlobals "_law_same" = some (some (.ref f_l_same))) (l_l_same : K.lookup f_l_same = some ⟨oc_l_same, od_l_same, .func (PySem.W.fnOf "_law_same" "_law_same" (defArgs s_l_same) (defBody s_l_same) (defScope s_l_same) .none kV_l_same dc_l_same pm_l_same an_l_same cd_l_same ct_l_same), sl_l_same⟩) (c_l_same : PySem.W.codeIn K cd_l_same "_law_same" = true) (k_l_same : PySem.W.keepIn K (.ref f_l_same) = true)
    {f_l_web : Addr} {oc_l_web kV_l_web dc_l_web pm_l_web cd_l_web ct_l_web : Value} {od_l_web an_l_web : Option Addr} {sl_l_web : Array (Option Value)}
    (a_l_web : PySem.W.nsIn K mainGlobals "_law_web" = some (some (.ref f_l_web))) (l_l_web : K.lookup f_l_web = some ⟨oc_l_web, od_l_web, .func (PySem.W.fnOf "_law_web" "_law_web" (defArgs s_l_web) (defBody s_l_web) (defScope s_l_web) .none kV_l_web dc_l_web pm_l_web an_l_web cd_l_web ct_l_web), sl_l_web⟩) (c_l_web : PySem.W.codeIn K cd_l_web "_law_web" = true) (k_l_web : PySem.W.keepIn K (.ref f_l_web) = true)
    {f_l_spots : Addr} {oc_l_spots kV_l_spots dc_l_spots pm_l_spots cd_l_spots ct_l_spots : Value} {od_l_spots an_l_spots : Option Addr} {sl_l_spots : Array (Option Value)}
    (a_l_spots : PySem.W.nsIn K mainGlobals "_law_spots" = some (some (.ref f_l_spots))) (l_l_spots : K.lookup f_l_spots = some ⟨oc_l_spots, od_l_spots, .func (PySem.W.fnOf "_law_spots" "_law_spots" (defArgs s_l_spots) (defBody s_l_spots) (defScope s_l_spots) .none kV_l_spots dc_l_spots pm_l_spots an_l_spots cd_l_spots ct_l_spots), sl_l_spots⟩) (c_l_spots : PySem.W.codeIn K cd_l_spots "_law_spots" = true) (k_l_spots : PySem.W.keepIn K (.ref f_l_spots) = true)
    {f_l_due : Addr} {oc_l_due kV_l_due dc_l_due pm_l_due cd_l_due ct_l_due : Value} {od_l_due an_l_due : Option Addr} {sl_l_due : Array (Option Value)}
    (a_l_due : PySem.W.nsIn K mainGlobals "_law_due" = some (some (.ref f_l_due))) (l_l_due : K.lookup f_l_due = some ⟨oc_l_due, od_l_due, .func (PySem.W.fnOf "_law_due" "_law_due" (defArgs s_l_due) (defBody s_l_due) (defScope s_l_due) .none kV_l_due dc_l_due pm_l_due an_l_due cd_l_due ct_l_due), sl_l_due⟩) (c_l_due : PySem.W.codeIn K cd_l_due "_law_due" = true) (k_l_due : PySem.W.keepIn K (.ref f_l_due) = true)
    {f_l_right : Addr} {oc_l_right kV_l_right dc_l_right pm_l_right cd_l_right ct_l_right : Value} {od_l_right an_l_right : Option Addr} {sl_l_right : Array (Option Value)}
    (a_l_right : PySem.W.nsIn K mainGlobals "_law_right" = some (some (.ref f_l_right))) (l_l_right : K.lookup f_l_right = some ⟨oc_l_right, od_l_right, .func (PySem.W.fnOf "_law_right" "_law_right" (defArgs s_l_right) (defBody s_l_right) (defScope s_l_right) .none kV_l_right dc_l_right pm_l_right an_l_right cd_l_right ct_l_right), sl_l_right⟩) (c_l_right : PySem.W.codeIn K cd_l_right "_law_right" = true) (k_l_right : PySem.W.keepIn K (.ref f_l_right) = true)
    {f_law : Addr} {oc_law kV_law dc_law pm_law cd_law ct_law : Value} {od_law an_law : Option Addr} {sl_law : Array (Option Value)}
    (a_law : PySem.W.nsIn K mainGlobals "law" = some (some (.ref f_law))) (l_law : K.lookup f_law = some ⟨oc_law, od_law, .func (PySem.W.fnOf "law" "law" (defArgs s_law) (defBody s_law) (defScope s_law) .none kV_law dc_law pm_law an_law cd_law ct_law), sl_law⟩) (c_law : PySem.W.codeIn K cd_law "law" = true) (k_law : PySem.W.keepIn K (.ref f_law) = true)
    (z_abs : PySem.W.nsIn K mainGlobals "abs" = some none)
    (z_all : PySem.W.nsIn K mainGlobals "all" = some none)
    (z_bool : PySem.W.nsIn K mainGlobals "bool" = some none)
    (z_enumerate : PySem.W.nsIn K mainGlobals "enumerate" = some none)
    (z_int : PySem.W.nsIn K mainGlobals "int" = some none)
    (z_isinstance : PySem.W.nsIn K mainGlobals "isinstance" = some none)
    (z_len : PySem.W.nsIn K mainGlobals "len" = some none)
    (z_list : PySem.W.nsIn K mainGlobals "list" = some none)
    (z_max : PySem.W.nsIn K mainGlobals "max" = some none)
    (z_min : PySem.W.nsIn K mainGlobals "min" = some none)
    (z_range : PySem.W.nsIn K mainGlobals "range" = some none)
    (z_set : PySem.W.nsIn K mainGlobals "set" = some none)
    (z_sorted : PySem.W.nsIn K mainGlobals "sorted" = some none)
    (z_str : PySem.W.nsIn K mainGlobals "str" = some none)
    (z_tuple : PySem.W.nsIn K mainGlobals "tuple" = some none)
    (z_zip : PySem.W.nsIn K mainGlobals "zip" = some none)
    (n : Nat) : ∃ fd : FuncData, (∀ (s : Shared) (v : Value), BindsTo s fd ⟨[v], []⟩ [("_law_script", v)]) ∧ ∀ base : Heap, K.In base → base.Ns mainGlobals mg → FnOk l.prog w K mg base CX0 (n + 1) fa fd ["_law_script"] (spD K (fns tbl (n + 1) "law")) := by
  have e := hfa.symm.trans (PySem.W.mg_of X Gh a_law)
  cases e
  have F_nodes := fun_mk (st := s_nodes) l_nodes c_nodes k_nodes
  have bi_nodes := F_nodes.binds (ps := ["wiring"]) fun _ _ _ _ _ _ us hl => match us, hl with | [_], _ => rfl
  have F_parts := fun_mk (st := s_parts) l_parts c_parts k_parts
  have bi_parts := F_parts.binds (ps := ["wiring"]) fun _ _ _ _ _ _ us hl => match us, hl with | [_], _ => rfl
  have F_merged := fun_mk (st := s_merged) l_merged c_merged k_merged
  have bi_merged := F_merged.binds (ps := ["wiring", "names"]) fun _ _ _ _ _ _ us hl => match us, hl with | [_, _], _ => rfl
  have F_classes := fun_mk (st := s_classes) l_classes c_classes k_classes
  have bi_classes := F_classes.binds (ps := ["names", "least"]) fun _ _ _ _ _ _ us hl => match us, hl with | [_, _], _ => rfl
  have F_groups := fun_mk (st := s_groups) l_groups c_groups k_groups
  have bi_groups := F_groups.binds (ps := ["wiring"]) fun _ _ _ _ _ _ us hl => match us, hl with | [_], _ => rfl
  have F_rank := fun_mk (st := s_rank) l_rank c_rank k_rank
  have bi_rank := F_rank.binds (ps := ["wiring"]) fun _ _ _ _ _ _ us hl => match us, hl with | [_], _ => rfl
  have F_l_box := fun_mk (st := s_l_box) l_l_box c_l_box k_l_box
  have bi_l_box := F_l_box.binds (ps := ["_law_script", "_law_k"]) fun _ _ _ _ _ _ us hl => match us, hl with | [_, _], _ => rfl
  have F_l_take := fun_mk (st := s_l_take) l_l_take c_l_take k_l_take
  have bi_l_take := F_l_take.binds (ps := ["_law_box_here", "_law_below"]) fun _ _ _ _ _ _ us hl => match us, hl with | [_, _], _ => rfl
  have F_l_cells := fun_mk (st := s_l_cells) l_l_cells c_l_cells k_l_cells
  have bi_l_cells := F_l_cells.binds (ps := ["_law_script", "_law_most"]) fun _ _ _ _ _ _ us hl => match us, hl with | [_, _], _ => rfl
  have F_l_of := fun_mk (st := s_l_of) l_l_of c_l_of k_l_of
  have bi_l_of := F_l_of.binds (ps := ["_law_box_here", "_law_some"]) fun _ _ _ _ _ _ us hl => match us, hl with | [_, _], _ => rfl
  have F_l_pick := fun_mk (st := s_l_pick) l_l_pick c_l_pick k_l_pick
  have bi_l_pick := F_l_pick.binds (ps := ["_law_box_here", "_law_pool", "_law_size_so"]) fun _ _ _ _ _ _ us hl => match us, hl with | [_, _, _], _ => rfl
  have F_l_lists := fun_mk (st := s_l_lists) l_l_lists c_l_lists k_l_lists
  have bi_l_lists := F_l_lists.binds (ps := ["_law_matter"]) fun _ _ _ _ _ _ us hl => match us, hl with | [_], _ => rfl
  have F_l_same := fun_mk (st := s_l_same) l_l_same c_l_same k_l_same
  have bi_l_same := F_l_same.binds (ps := ["_law_got", "_law_due_here"]) fun _ _ _ _ _ _ us hl => match us, hl with | [_, _], _ => rfl
  have F_l_web := fun_mk (st := s_l_web) l_l_web c_l_web k_l_web
  have bi_l_web := F_l_web.binds (ps := ["_law_box_here", "_law_most", "_law_spots_here"]) fun _ _ _ _ _ _ us hl => match us, hl with | [_, _, _], _ => rfl
  have F_l_spots := fun_mk (st := s_l_spots) l_l_spots c_l_spots k_l_spots
  have bi_l_spots := F_l_spots.binds (ps := ["_law_web_here"]) fun _ _ _ _ _ _ us hl => match us, hl with | [_], _ => rfl
  have F_l_due := fun_mk (st := s_l_due) l_l_due c_l_due k_l_due
  have bi_l_due := F_l_due.binds (ps := ["_law_web_here"]) fun _ _ _ _ _ _ us hl => match us, hl with | [_], _ => rfl
  have F_l_right := fun_mk (st := s_l_right) l_l_right c_l_right k_l_right
  have bi_l_right := F_l_right.binds (ps := ["_law_box_here"]) fun _ _ _ _ _ _ us hl => match us, hl with | [_], _ => rfl
  have F_law := fun_mk (st := s_law) l_law c_law k_law
  have bi_law := F_law.binds (ps := ["_law_script"]) fun _ _ _ _ _ _ us hl => match us, hl with | [_], _ => rfl
  have kb_groups : KBinds K (PySem.W.fnOf "groups" "groups" (defArgs s_groups) (defBody s_groups) (defScope s_groups) .none kV_groups dc_groups pm_groups an_groups cd_groups ct_groups) ["wiring"] ["wiring"] (fun us ws => us ++ ws) (fun vs zs => vs ++ zs) := ⟨fun s us ws _ hl => match us, ws, hl with | [], [_], _ => .of_eq rfl | [_], [], _ => .of_eq rfl, fun r1 r2 => r1.append r2⟩
  have kb_nodes : KBinds K (PySem.W.fnOf "nodes" "nodes" (defArgs s_nodes) (defBody s_nodes) (defScope s_nodes) .none kV_nodes dc_nodes pm_nodes an_nodes cd_nodes ct_nodes) ["wiring"] ["wiring"] (fun us ws => us ++ ws) (fun vs zs => vs ++ zs) := ⟨fun s us ws _ hl => match us, ws, hl with | [], [_], _ => .of_eq rfl | [_], [], _ => .of_eq rfl, fun r1 r2 => r1.append r2⟩
  have kb_parts : KBinds K (PySem.W.fnOf "parts" "parts" (defArgs s_parts) (defBody s_parts) (defScope s_parts) .none kV_parts dc_parts pm_parts an_parts cd_parts ct_parts) ["wiring"] ["wiring"] (fun us ws => us ++ ws) (fun vs zs => vs ++ zs) := ⟨fun s us ws _ hl => match us, ws, hl with | [], [_], _ => .of_eq rfl | [_], [], _ => .of_eq rfl, fun r1 r2 => r1.append r2⟩
  have kb_rank : KBinds K (PySem.W.fnOf "rank" "rank" (defArgs s_rank) (defBody s_rank) (defScope s_rank) .none kV_rank dc_rank pm_rank an_rank cd_rank ct_rank) ["wiring"] ["wiring"] (fun us ws => us ++ ws) (fun vs zs => vs ++ zs) := ⟨fun s us ws _ hl => match us, ws, hl with | [], [_], _ => .of_eq rfl | [_], [], _ => .of_eq rfl, fun r1 r2 => r1.append r2⟩
  have G : Gs l.prog K mg := { g_abs := PySem.W.mg_none_of X Gh z_abs, g_all := PySem.W.mg_none_of X Gh z_all, g_bool := PySem.W.mg_none_of X Gh z_bool, g_enumerate := PySem.W.mg_none_of X Gh z_enumerate, g_int := PySem.W.mg_none_of X Gh z_int, g_isinstance := PySem.W.mg_none_of X Gh z_isinstance, g_len := PySem.W.mg_none_of X Gh z_len, g_list := PySem.W.mg_none_of X Gh z_list, g_max := PySem.W.mg_none_of X Gh z_max, g_min := PySem.W.mg_none_of X Gh z_min, g_range := PySem.W.mg_none_of X Gh z_range, g_set := PySem.W.mg_none_of X Gh z_set, g_sorted := PySem.W.mg_none_of X Gh z_sorted, g_str := PySem.W.mg_none_of X Gh z_str, g_tuple := PySem.W.mg_none_of X Gh z_tuple, g_zip := PySem.W.mg_none_of X Gh z_zip }
  refine ⟨PySem.W.fnOf "law" "law" (defArgs s_law) (defBody s_law) (defScope s_law) .none kV_law dc_law pm_law an_law cd_law ct_law, fun s v => .of_eq rfl, fun base _ _ => ?_⟩
  have C := all_ok (P := l.prog) (w := w) (base := base) G F_nodes (PySem.W.mg_of X Gh a_nodes) bi_nodes F_parts (PySem.W.mg_of X Gh a_parts) bi_parts F_merged (PySem.W.mg_of X Gh a_merged) bi_merged F_classes (PySem.W.mg_of X Gh a_classes) bi_classes F_groups (PySem.W.mg_of X Gh a_groups) bi_groups F_rank (PySem.W.mg_of X Gh a_rank) bi_rank F_l_box (PySem.W.mg_of X Gh a_l_box) bi_l_box F_l_take (PySem.W.mg_of X Gh a_l_take) bi_l_take F_l_cells (PySem.W.mg_of X Gh a_l_cells) bi_l_cells F_l_of (PySem.W.mg_of X Gh a_l_of) bi_l_of F_l_pick (PySem.W.mg_of X Gh a_l_pick) bi_l_pick F_l_lists (PySem.W.mg_of X Gh a_l_lists) bi_l_lists F_l_same (PySem.W.mg_of X Gh a_l_same) bi_l_same F_l_web (PySem.W.mg_of X Gh a_l_web) bi_l_web F_l_spots (PySem.W.mg_of X Gh a_l_spots) bi_l_spots F_l_due (PySem.W.mg_of X Gh a_l_due) bi_l_due F_l_right (PySem.W.mg_of X Gh a_l_right) bi_l_right F_law (PySem.W.mg_of X Gh a_law) bi_law kb_groups  kb_nodes  kb_parts  kb_rank   n
  have o := fn_ok (n := n) (d := d_law) (Φ := fns tbl n) F_law sc_law rfl rfl fun cdv A outer s H E hr => b_law (fns_noal tbl n) C G hr
  rw [fns_at (tbl := tbl) (d := d_law) (by kernel_rfl)]
  exact fn_0 o
end
end DI.Law

open PySem PySem.W PyProof.Rows in
set_option maxHeartbeats 0 in
theorem PySem.Challenge.cw_sameloops_k01_nodes_groups_and_rank_holds : PySem.Challenge.rw_sameloops_k01_nodes_groups_and_rank.Holds := by
  w_on; o_law; k_head; (case hw => w_witness2)
  k_fill
  refine L2.walk_of (l := PySem.Challenge.rw_sameloops_k01_nodes_groups_and_rank) (n := 63) (k := 40 + 1) (x := "_law_script") (CX := fun _ => L2.CX0) (sp := fun w => DI.spD _ (DI.fns DI.Law.tbl (40 + 1) "law")) rfl (by decide) rfl ⟨rfl, by decide, by decide⟩ (fun w h Y => PySem.W.kIn_of Y) ?F (fun _ _ a ns hl _ hS => DI.spD_of hS (DI.Law.law_true ns hl)) (fun _ _ _ _ _ h => h)
  case F =>
    intro w mg fa h KX G hmg
    refine' DI.Law.all_mk KX G hmg ?a_nodes ?l_nodes ?c_nodes ?k_nodes ?a_parts ?l_parts ?c_parts ?k_parts ?a_merged ?l_merged ?c_merged ?k_merged ?a_classes ?l_classes ?c_classes ?k_classes ?a_groups ?l_groups ?c_groups ?k_groups ?a_rank ?l_rank ?c_rank ?k_rank ?a_l_box ?l_l_box ?c_l_box ?k_l_box ?a_l_take ?l_l_take ?c_l_take ?k_l_take ?a_l_cells ?l_l_cells ?c_l_cells ?k_l_cells ?a_l_of ?l_l_of ?c_l_of ?k_l_of ?a_l_pick ?l_l_pick ?c_l_pick ?k_l_pick ?a_l_lists ?l_l_lists ?c_l_lists ?k_l_lists ?a_l_same ?l_l_same ?c_l_same ?k_l_same ?a_l_web ?l_l_web ?c_l_web ?k_l_web ?a_l_spots ?l_l_spots ?c_l_spots ?k_l_spots ?a_l_due ?l_l_due ?c_l_due ?k_l_due ?a_l_right ?l_l_right ?c_l_right ?k_l_right ?a_law ?l_law ?c_law ?k_law ?z_abs ?z_all ?z_bool ?z_enumerate ?z_int ?z_isinstance ?z_len ?z_list ?z_max ?z_min ?z_range ?z_set ?z_sorted ?z_str ?z_tuple ?z_zip 40
    (case a_nodes => k_is)
    (case l_nodes => k_is)
    (case c_nodes => k_is)
    (case k_nodes => k_is)
    (case a_parts => k_is)
    (case l_parts => k_is)
    (case c_parts => k_is)
    (case k_parts => k_is)
    (case a_merged => k_is)
    (case l_merged => k_is)
    (case c_merged => k_is)
    (case k_merged => k_is)
    (case a_classes => k_is)
    (case l_classes => k_is)
    (case c_classes => k_is)
    (case k_classes => k_is)
    (case a_groups => k_is)
    (case l_groups => k_is)
    (case c_groups => k_is)
    (case k_groups => k_is)
    (case a_rank => k_is)
    (case l_rank => k_is)
    (case c_rank => k_is)
    (case k_rank => k_is)
    (case a_l_box => k_is)
    (case l_l_box => k_is)
    (case c_l_box => k_is)
    (case k_l_box => k_is)
    (case a_l_take => k_is)
    (case l_l_take => k_is)
    (case c_l_take => k_is)
    (case k_l_take => k_is)
    (case a_l_cells => k_is)
    (case l_l_cells => k_is)
    (case c_l_cells => k_is)
    (case k_l_cells => k_is)
    (case a_l_of => k_is)
    (case l_l_of => k_is)
    (case c_l_of => k_is)
    (case k_l_of => k_is)
    (case a_l_pick => k_is)
    (case l_l_pick => k_is)
    (case c_l_pick => k_is)
    (case k_l_pick => k_is)
    (case a_l_lists => k_is)
    (case l_l_lists => k_is)
    (case c_l_lists => k_is)
    (case k_l_lists => k_is)
    (case a_l_same => k_is)
    (case l_l_same => k_is)
    (case c_l_same => k_is)
    (case k_l_same => k_is)
    (case a_l_web => k_is)
    (case l_l_web => k_is)
    (case c_l_web => k_is)
    (case k_l_web => k_is)
    (case a_l_spots => k_is)
    (case l_l_spots => k_is)
    (case c_l_spots => k_is)
    (case k_l_spots => k_is)
    (case a_l_due => k_is)
    (case l_l_due => k_is)
    (case c_l_due => k_is)
    (case k_l_due => k_is)
    (case a_l_right => k_is)
    (case l_l_right => k_is)
    (case c_l_right => k_is)
    (case k_l_right => k_is)
    (case a_law => k_is)
    (case l_law => k_is)
    (case c_law => k_is)
    (case k_law => k_is)
    (case z_abs => k_is)
    (case z_all => k_is)
    (case z_bool => k_is)
    (case z_enumerate => k_is)
    (case z_int => k_is)
    (case z_isinstance => k_is)
    (case z_len => k_is)
    (case z_list => k_is)
    (case z_max => k_is)
    (case z_min => k_is)
    (case z_range => k_is)
    (case z_set => k_is)
    (case z_sorted => k_is)
    (case z_str => k_is)
    (case z_tuple => k_is)
    (case z_zip => k_is)
