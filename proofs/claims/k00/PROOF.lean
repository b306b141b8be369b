import PyProof.Rows.All
import Wide.All
import OpenK.AllK
import Wide.FinOn
import HandS.ForMost
import HandS.Flow
import HandS.Style
import HandS.Deep
import HandS.TupAny
import HandS.IsInst
import HandS.Walk
import HandS.Zip
import HandS.NoneIn
import HandS.Small
import PySem.Challenge.RW_sameloops_k00_wirings_or_none
set_option Elab.async false
set_option linter.all false
set_option maxRecDepth 100000
/-! DI1: plain data, what stands for them in the heap, the small environments and their frames. -/
namespace DI
open PySem PySem.Spec PyProof.Rows L2

abbrev D := PyData
def kD : Key → D
  | .inl i => .int i
  | .inr s => .str s

mutual
inductive Rep (K : PySem.W.Frag) (F : Hp) : V → D → Prop
  | non : Rep K F .non .none
  | bl (b : Bool) : Rep K F (.bl b) (.bool b)
  | int (i : Int) : Rep K F (.int i) (.int i)
  | str (x : Str) : Rep K F (.str x) (.str x)
  | lst {a : Addr} {xs : List V} {ds : List D} : SqL K F a xs → Reps K F xs ds → Rep K F (.ref a) (.list ds)
  | tup {a : Addr} {xs : List V} {ds : List D} : SqT K F a xs → Reps K F xs ds → Rep K F (.ref a) (.tuple ds)
  | dic {a : Addr} {kvs : List (Key × V)} {ds : List (D × D)} : Rd F a (.dK kvs) → RepKV K F kvs ds → Rep K F (.ref a) (.dict ds)
inductive Reps (K : PySem.W.Frag) (F : Hp) : List V → List D → Prop
  | nil : Reps K F [] []
  | cons {v : V} {d : D} {vs : List V} {ds : List D} : Rep K F v d → Reps K F vs ds → Reps K F (v :: vs) (d :: ds)
inductive RepKV (K : PySem.W.Frag) (F : Hp) : List (Key × V) → List (D × D) → Prop
  | nil : RepKV K F [] []
  | cons {k : Key} {v : V} {d : D} {vs : List (Key × V)} {ds : List (D × D)} : Rep K F v d → RepKV K F vs ds → RepKV K F ((k, v) :: vs) ((kD k, d) :: ds)
end

/-- what is read in F is read in G -/
def Le (F G : Hp) : Prop := ∀ a u, Rd F a u → Rd G a u
theorem Le.refl (F : Hp) : Le F F := fun _ _ h => h
theorem Le.trans {F G H : Hp} (a : Le F G) (b : Le G H) : Le F H := fun x u h => b x u (a x u h)
section
variable {K : PySem.W.Frag} {F G : Hp}
theorem Le.sqL {a : Addr} {xs : List V} (e : Le F G) (h : SqL K F a xs) : SqL K G a xs := by
  rcases h with h | h
  · exact .inl (e _ _ h)
  · exact .inr h
theorem Le.sqT {a : Addr} {xs : List V} (e : Le F G) (h : SqT K F a xs) : SqT K G a xs := by
  rcases h with h | h
  · exact .inl (e _ _ h)
  · exact .inr h
mutual
theorem Rep.mono (e : Le F G) : ∀ {v : V} {d : D}, Rep K F v d → Rep K G v d
  | _, _, .non => .non
  | _, _, .bl b => .bl b
  | _, _, .int i => .int i
  | _, _, .str x => .str x
  | _, _, .lst h r => .lst (e.sqL h) (Reps.mono e r)
  | _, _, .tup h r => .tup (e.sqT h) (Reps.mono e r)
  | _, _, .dic h r => .dic (e _ _ h) (RepKV.mono e r)
theorem Reps.mono (e : Le F G) : ∀ {v : List V} {d : List D}, Reps K F v d → Reps K G v d
  | _, _, .nil => .nil
  | _, _, .cons h r => .cons (Rep.mono e h) (Reps.mono e r)
theorem RepKV.mono (e : Le F G) : ∀ {v : List (Key × V)} {d : List (D × D)}, RepKV K F v d → RepKV K G v d
  | _, _, .nil => .nil
  | _, _, .cons h r => .cons (Rep.mono e h) (RepKV.mono e r)
end
theorem Reps.length : ∀ {v : List V} {d : List D}, Reps K F v d → v.length = d.length
  | _, _, .nil => rfl
  | _, _, .cons _ r => congrArg (· + 1) (Reps.length r)
theorem Reps.get : ∀ {v : List V} {d : List D} {i : Nat} {x : D}, Reps K F v d → d[i]? = some x → ∃ y, v[i]? = some y ∧ Rep K F y x
  | _, _, _, _, .nil, e => by simp at e
  | _, _, 0, _, .cons h _, e => by simp at e; subst e; exact ⟨_, rfl, h⟩
  | _, _, i + 1, x, .cons _ r, e => by
    obtain ⟨y, h1, h2⟩ := Reps.get (i := i) (x := x) r (by simpa using e)
    exact ⟨y, by simpa using h1, h2⟩
theorem Reps.getV : ∀ {v : List V} {d : List D} {i : Nat} {y : V}, Reps K F v d → v[i]? = some y → ∃ x, d[i]? = some x ∧ Rep K F y x
  | _, _, _, _, .nil, e => by simp at e
  | _, _, 0, _, .cons h _, e => by simp at e; subst e; exact ⟨_, rfl, h⟩
  | _, _, i + 1, x, .cons _ r, e => by
    obtain ⟨y, h1, h2⟩ := Reps.getV (i := i) (y := x) r (by simpa using e)
    exact ⟨y, by simpa using h1, h2⟩
theorem Reps.append : ∀ {v v' : List V} {d d' : List D}, Reps K F v d → Reps K F v' d' → Reps K F (v ++ v') (d ++ d')
  | _, _, _, _, .nil, s => s
  | _, _, _, _, .cons h r, s => .cons h (Reps.append r s)
theorem Reps.take : ∀ {v : List V} {d : List D} (n : Nat), Reps K F v d → Reps K F (v.take n) (d.take n)
  | _, _, 0, _ => .nil
  | _, _, _ + 1, .nil => .nil
  | _, _, n + 1, .cons h r => .cons h (Reps.take n r)
theorem Reps.drop : ∀ {v : List V} {d : List D} (n : Nat), Reps K F v d → Reps K F (v.drop n) (d.drop n)
  | _, _, 0, r => r
  | _, _, _ + 1, .nil => .nil
  | _, _, n + 1, .cons _ r => Reps.drop n r
theorem Reps.set {y : V} {x : D} (q : Rep K F y x) : ∀ {v : List V} {d : List D} (i : Nat), Reps K F v d → Reps K F (v.set i y) (d.set i x)
  | _, _, _, .nil => .nil
  | _, _, 0, .cons _ r => .cons q r
  | _, _, i + 1, .cons h r => .cons h (Reps.set q i r)
theorem Reps.reverse : ∀ {v : List V} {d : List D}, Reps K F v d → Reps K F v.reverse d.reverse
  | _, _, .nil => .nil
  | _, _, .cons h r => by
    rw [List.reverse_cons, List.reverse_cons]
    exact Reps.append (Reps.reverse r) (.cons h .nil)
theorem Reps.eraseIdx : ∀ {v : List V} {d : List D} (n : Nat), Reps K F v d → Reps K F (v.eraseIdx n) (d.eraseIdx n)
  | _, _, 0, .nil => .nil
  | _, _, _ + 1, .nil => .nil
  | _, _, 0, .cons _ r => r
  | _, _, n + 1, .cons h r => .cons h (Reps.eraseIdx n r)
end

/-! ### the heap without what is owned -/
open Classical in
noncomputable def er (S : Addr → Prop) (H : Hp) : Hp := fun a => if S a then none else H a
theorem er_of {S : Addr → Prop} {H : Hp} {a : Addr} (h : ¬ S a) : er S H a = H a := by
  unfold er
  rw [if_neg h]
theorem er_some {S : Addr → Prop} {H : Hp} {a : Addr} {o : HO} (h : er S H a = some o) : ¬ S a ∧ H a = some o := by
  unfold er at h
  by_cases hs : S a
  · rw [if_pos hs] at h
    cases h
  · rw [if_neg hs] at h
    exact ⟨hs, h⟩
theorem er_le {S S' : Addr → Prop} {H H' : Hp} (h : ∀ a o, ¬ S a → H a = some o → ¬ S' a ∧ H' a = some o) : Le (er S H) (er S' H') := fun a u r => by
  rcases r with r | ⟨o, r⟩
  · obtain ⟨h1, h2⟩ := er_some r
    obtain ⟨h3, h4⟩ := h a _ h1 h2
    exact .inl ((er_of h3).trans h4)
  · obtain ⟨h1, h2⟩ := er_some r
    obtain ⟨h3, h4⟩ := h a _ h1 h2
    exact .inr ⟨o, (er_of h3).trans h4⟩
theorem er_full {S : Addr → Prop} {H : Hp} : Le (er S H) H := fun a u r => by
  rcases r with r | ⟨o, r⟩
  · exact .inl (er_some r).2
  · exact .inr ⟨o, (er_some r).2⟩

/-! ### the small environments -/
/-- who owns a list or dict at a slot: the def itself; its caller; nobody may change it now -/
inductive Kd | own | bor | lck
  deriving DecidableEq
inductive Sl | un | im (d : D) | ow (k : Kd) (d : D)
abbrev Env := List Sl
/-- a value: shared data; a fresh list or dict; what slot i holds -/
inductive R | im (d : D) | fr (d : D) | al (i : Nat)
@[simp] def slD : Option Sl → Option D
  | some (.im d) => some d
  | some (.ow _ d) => some d
  | _ => none
@[simp] def R.val (env : Env) : R → Option D
  | .im d => some d
  | .fr d => some d
  | .al i => slD env[i]?

/-- a list or dict that is owned -/
def Own (K : PySem.W.Frag) (F H : Hp) (p : Addr) : D → Prop
  | .list ds => ∃ xs, Rd H p (.lst xs) ∧ Reps K F xs ds
  | .dict ds => ∃ kvs, Rd H p (.dK kvs) ∧ RepKV K F kvs ds
  | _ => False
theorem Own.mono {K : PySem.W.Frag} {F F' H H' : Hp} {p : Addr} {d : D} (e : Le F F') (h : ∀ u, Rd H p u → Rd H' p u) (o : Own K F H p d) : Own K F' H' p d := by
  cases d with
  | list ds => obtain ⟨xs, h1, h2⟩ := o; exact ⟨xs, h _ h1, h2.mono e⟩
  | dict ds => obtain ⟨xs, h1, h2⟩ := o; exact ⟨xs, h _ h1, h2.mono e⟩
  | _ => exact o.elim
theorem Own.rep {K : PySem.W.Frag} {F H : Hp} {p : Addr} {d : D} (e : Le F H) (o : Own K F H p d) : Rep K H (.ref p) d := by
  cases d with
  | list ds => obtain ⟨xs, h1, h2⟩ := o; exact .lst (.inl h1) (h2.mono e)
  | dict ds => obtain ⟨xs, h1, h2⟩ := o; exact .dic h1 (h2.mono e)
  | _ => exact o.elim

def OwnsK (k : Kd) (σ : L2.St) (env : Env) (a : Addr) : Prop := ∃ (i : Nat) (d : D), env[i]? = some (.ow k d) ∧ σ[i]? = some (some (.ref a))
/-- what may be changed -/
def Ch (σ : L2.St) (env : Env) (a : Addr) : Prop := OwnsK .own σ env a ∨ OwnsK .bor σ env a

structure EnvOk (K : PySem.W.Frag) (S : Addr → Prop) (σ : L2.St) (H : Hp) (env : Env) : Prop where
  len : σ.length = env.length
  dom : ∀ a, S a → H a ≠ none
  im : ∀ (i : Nat) d, env[i]? = some (.im d) → ∃ v, σ[i]? = some (some v) ∧ Rep K (er S H) v d
  ow : ∀ (i : Nat) k d, env[i]? = some (.ow k d) → ∃ p, σ[i]? = some (some (.ref p)) ∧ S p ∧ Own K (er S H) H p d ∧ (k ≠ .lck → Mut (H p))
  inj : ∀ (i j : Nat) k l d e p, env[i]? = some (.ow k d) → env[j]? = some (.ow l e) → σ[i]? = some (some (.ref p)) → σ[j]? = some (some (.ref p)) → i = j
theorem EnvOk.owns {K : PySem.W.Frag} {S : Addr → Prop} {σ : L2.St} {H : Hp} {env : Env} (ok : EnvOk K S σ H env) {k : Kd} {a : Addr} (h : OwnsK k σ env a) : S a := by
  obtain ⟨i, d, h1, h2⟩ := h
  obtain ⟨p, h3, h4, _⟩ := ok.ow i k d h1
  rw [h2] at h3
  cases h3
  exact h4
theorem EnvOk.ch {K : PySem.W.Frag} {S : Addr → Prop} {σ : L2.St} {H : Hp} {env : Env} (ok : EnvOk K S σ H env) {a : Addr} (h : Ch σ env a) : S a := by
  rcases h with h | h
  · exact ok.owns h
  · exact ok.owns h

/-- from a state to a later one, within one expression (σ as it is) or a statement -/
structure Fw (S : Addr → Prop) (H : Hp) (σ : L2.St) (env : Env) (S' : Addr → Prop) (H' : Hp) (σ' : L2.St) (env' : Env) : Prop where
  sub : ∀ a, S' a → S a ∨ H a = none
  kp : ∀ a, S a → H a ≠ none → ¬ OwnsK .own σ env a → S' a
  fr : ∀ a o, H a = some o → ¬ Ch σ env a → H' a = some o
  own : ∀ a, OwnsK .own σ' env' a → OwnsK .own σ env a ∨ H a = none
  bo : ∀ (i : Nat) d, env[i]? = some (.ow .bor d) → ∃ d', env'[i]? = some (.ow .bor d') ∧ σ'[i]? = σ[i]?
  bo' : ∀ (i : Nat) d, env'[i]? = some (.ow .bor d) → ∃ d', env[i]? = some (.ow .bor d') ∧ σ'[i]? = σ[i]?
  lk : ∀ (i : Nat) d, env[i]? = some (.ow .lck d) → env'[i]? = some (.ow .lck d) ∧ σ'[i]? = σ[i]?
  lk' : ∀ (i : Nat) d, env'[i]? = some (.ow .lck d) → env[i]? = some (.ow .lck d) ∧ σ'[i]? = σ[i]?
  dm : ∀ a, H a ≠ none → H' a ≠ none
section
variable {S S' S'' : Addr → Prop} {H H' H'' : Hp} {σ σ' σ'' : L2.St} {env env' env'' : Env} {K : PySem.W.Frag}
theorem Fw.refl : Fw S H σ env S H σ env :=
  ⟨fun _ h => .inl h, fun _ h _ _ => h, fun _ _ h _ => h, fun _ h => .inl h, fun _ d h => ⟨d, h, rfl⟩, fun _ d h => ⟨d, h, rfl⟩, fun _ _ h => ⟨h, rfl⟩, fun _ _ h => ⟨h, rfl⟩, fun _ h => h⟩
theorem none_back {a : Addr} (dm : ∀ a, H a ≠ none → H' a ≠ none) (h : H' a = none) : H a = none := by
  by_cases e : H a = none
  · exact e
  · exact absurd h (dm a e)
theorem Fw.ch (f : Fw S H σ env S' H' σ' env') {a : Addr} (h : Ch σ' env' a) : Ch σ env a ∨ H a = none := by
  rcases h with h | h
  · rcases f.own a h with h | h
    · exact .inl (.inl h)
    · exact .inr h
  · obtain ⟨i, d, h1, h2⟩ := h
    obtain ⟨d', h3, h4⟩ := f.bo' i d h1
    exact .inl (.inr ⟨i, d', h3, h4.symm.trans h2⟩)
theorem Fw.trans (f : Fw S H σ env S' H' σ' env') (g : Fw S' H' σ' env' S'' H'' σ'' env'') : Fw S H σ env S'' H'' σ'' env'' where
  sub := fun a h => by
    rcases g.sub a h with h | h
    · exact f.sub a h
    · exact .inr (none_back f.dm h)
  kp := fun a h hn n => g.kp a (f.kp a h hn n) (f.dm a hn) fun q => by
    rcases f.own a q with q | q
    · exact n q
    · exact hn q
  fr := fun a o h n => g.fr a o (f.fr a o h n) fun q => by
    rcases f.ch q with q | q
    · exact n q
    · rw [h] at q; cases q
  own := fun a h => by
    rcases g.own a h with h | h
    · exact f.own a h
    · exact .inr (none_back f.dm h)
  bo := fun i d h => by
    obtain ⟨d1, h1, e1⟩ := f.bo i d h
    obtain ⟨d2, h2, e2⟩ := g.bo i d1 h1
    exact ⟨d2, h2, e2.trans e1⟩
  bo' := fun i d h => by
    obtain ⟨d1, h1, e1⟩ := g.bo' i d h
    obtain ⟨d2, h2, e2⟩ := f.bo' i d1 h1
    exact ⟨d2, h2, e1.trans e2⟩
  lk := fun i d h => by
    obtain ⟨h1, e1⟩ := f.lk i d h
    obtain ⟨h2, e2⟩ := g.lk i d h1
    exact ⟨h2, e2.trans e1⟩
  lk' := fun i d h => by
    obtain ⟨h1, e1⟩ := g.lk' i d h
    obtain ⟨h2, e2⟩ := f.lk' i d h1
    exact ⟨h2, e1.trans e2⟩
  dm := fun a h => g.dm a (f.dm a h)
/-- the shared part only grows -/
theorem Fw.le (ok : EnvOk K S σ H env) (f : Fw S H σ env S' H' σ' env') : Le (er S H) (er S' H') := er_le fun a o h1 h2 => by
  refine ⟨fun q => ?_, f.fr a o h2 fun q => h1 (ok.ch q)⟩
  rcases f.sub a q with q | q
  · exact h1 q
  · rw [h2] at q; cases q

/-- a value at hand; temporaries (fresh objects) are in S -/
def RV (K : PySem.W.Frag) (S : Addr → Prop) (H : Hp) (σ : L2.St) (env : Env) (r : R) (v : V) : Prop :=
  match r with
  | .im d => Rep K (er S H) v d
  | .al i => σ[i]? = some (some v)
  | .fr d => ∃ p, v = .ref p ∧ S p ∧ ¬ Ch σ env p ∧ ¬ OwnsK .lck σ env p ∧ Own K (er S H) H p d ∧ Mut (H p)
theorem RV.step {r : R} {v : V} (ok : EnvOk K S σ H env) (f : Fw S H σ env S' H' σ env') (h : RV K S H σ env r v) : RV K S' H' σ env' r v := by
  cases r with
  | im d => exact Rep.mono (f.le ok) h
  | al i => exact h
  | fr d =>
    obtain ⟨p, e, hs, hc, hl, ho, hm⟩ := h
    have hn := ok.dom p hs
    obtain ⟨o, ho'⟩ : ∃ o, H p = some o := by
      cases q : H p with
      | none => exact absurd q hn
      | some o => exact ⟨o, rfl⟩
    have e2 : H' p = H p := by rw [ho']; exact f.fr p o ho' hc
    refine ⟨p, e, f.kp p hs hn fun q => hc (.inl q), fun q => ?_, fun q => ?_, Own.mono (f.le ok) (fun u r => ?_) ho, by rw [e2]; exact hm⟩
    · rcases f.ch q with q | q
      · exact hc q
      · exact hn q
    · obtain ⟨i, d', h1, h2⟩ := q
      obtain ⟨h3, h4⟩ := f.lk' i d' h1
      exact hl ⟨i, d', h3, h2⟩
    · unfold Rd at r ⊢
      rw [e2]
      exact r
theorem slD_some {o : Option Sl} {d : D} (h : slD o = some d) : o = some (.im d) ∨ ∃ k, o = some (.ow k d) := by
  cases o with
  | none => cases h
  | some s =>
    cases s with
    | un => cases h
    | im e => cases h; exact .inl rfl
    | ow k e => cases h; exact .inr ⟨k, rfl⟩
/-- whatever it is, it stands for its data -/
theorem RV.rep {r : R} {v : V} {d : D} (ok : EnvOk K S σ H env) (h : RV K S H σ env r v) (hv : r.val env = some d) : Rep K H v d := by
  cases r with
  | im e => cases hv; exact Rep.mono er_full h
  | fr e =>
    cases hv
    obtain ⟨p, rfl, _, _, _, ho, _⟩ := h
    exact ho.rep er_full
  | al i =>
    rcases slD_some hv with e | ⟨k, e⟩
    · obtain ⟨w, h1, h2⟩ := ok.im i d e
      have h' : σ[i]? = some (some v) := h
      rw [h'] at h1
      cases h1
      exact h2.mono er_full
    · obtain ⟨p, h1, _, h2, _⟩ := ok.ow i k d e
      have h' : σ[i]? = some (some v) := h
      rw [h'] at h1
      cases h1
      exact h2.rep er_full
/-- leaves stand for themselves -/
def leaf : D → Bool
  | .none => true
  | .bool _ => true
  | .int _ => true
  | .str _ => true
  | _ => false
theorem Rep.leaf {F G : Hp} {v : V} {d : D} (h : Rep K F v d) (l : leaf d = true) : Rep K G v d := by
  cases h with
  | non => exact .non
  | bl b => exact .bl b
  | int i => exact .int i
  | str x => exact .str x
  | _ => cases l

/-- a value is stored: a fresh one, and one that a slot owned, becomes shared -/
@[simp] def sto : R → Env → Option (D × Env)
  | .im d, env => some (d, env)
  | .fr d, env => some (d, env)
  | .al i, env => match env[i]? with
    | some (.im d) => some (d, env)
    | some (.ow .own d) => some (d, env.set i (.im d))
    | _ => none
theorem EnvOk.shrink {p : Addr} (ok : EnvOk K S σ H env) (hc : ∀ k, ¬ OwnsK k σ env p) : EnvOk K (fun a => S a ∧ a ≠ p) σ H env := by
  have le : Le (er S H) (er (fun a => S a ∧ a ≠ p) H) := er_le fun a o h1 h2 => ⟨fun q => h1 q.1, h2⟩
  refine ⟨ok.len, fun a h => ok.dom a h.1, fun i d e => ?_, fun i k d e => ?_, ok.inj⟩
  · obtain ⟨v, h1, h2⟩ := ok.im i d e
    exact ⟨v, h1, h2.mono le⟩
  · obtain ⟨q, h1, h2, h3, h4⟩ := ok.ow i k d e
    refine ⟨q, h1, ⟨h2, fun z => ?_⟩, h3.mono le (fun _ h => h), h4⟩
    subst z
    exact hc k ⟨i, d, e, h1⟩
theorem getElem?_set_cases {α : Type} {l : List α} {i j : Nat} {x y : α} (h : (l.set i x)[j]? = some y) : (i = j ∧ y = x) ∨ (i ≠ j ∧ l[j]? = some y) := by
  by_cases e : i = j
  · subst e
    by_cases hl : i < l.length
    · rw [List.getElem?_set_self hl] at h
      cases h
      exact .inl ⟨rfl, rfl⟩
    · rw [List.getElem?_eq_none (by rw [List.length_set]; omega)] at h
      cases h
  · rw [List.getElem?_set_ne e] at h
    exact .inr ⟨e, h⟩
/-- slot i, which owned p, is shared from now on -/
theorem EnvOk.freeze {i : Nat} {d : D} {p : Addr} (ok : EnvOk K S σ H env) (e : env[i]? = some (.ow .own d)) (hp : σ[i]? = some (some (.ref p))) :
    EnvOk K (fun a => S a ∧ a ≠ p) σ H (env.set i (.im d)) ∧ Fw S H σ env (fun a => S a ∧ a ≠ p) H σ (env.set i (.im d)) ∧ Rep K (er (fun a => S a ∧ a ≠ p) H) (.ref p) d := by
  have le : Le (er S H) (er (fun a => S a ∧ a ≠ p) H) := er_le fun a o h1 h2 => ⟨fun q => h1 q.1, h2⟩
  obtain ⟨p', q1, q2, q3, q4⟩ := ok.ow i _ d e
  rw [hp] at q1
  cases q1
  have hi : i < env.length := (List.getElem?_eq_some_iff.mp e).1
  have rep : Rep K (er (fun a => S a ∧ a ≠ p) H) (.ref p) d := by
    have e2 : ∀ u, Rd H p u → Rd (er (fun a => S a ∧ a ≠ p) H) p u := fun u r => by
      unfold Rd at r ⊢
      rw [er_of (fun z => z.2 rfl)]
      exact r
    cases d with
    | list ds => obtain ⟨xs, h1, h2⟩ := q3; exact .lst (.inl (e2 _ h1)) (h2.mono le)
    | dict ds => obtain ⟨xs, h1, h2⟩ := q3; exact .dic (e2 _ h1) (h2.mono le)
    | _ => exact q3.elim
  refine ⟨⟨by rw [List.length_set]; exact ok.len, fun a h => ok.dom a h.1, fun j d' e' => ?_, fun j k d' e' => ?_, fun j l k k' d1 d2 q h1 h2 => ?_⟩, ⟨fun a h => .inl h.1, fun a h _ n => ⟨h, fun z => ?_⟩, fun _ _ h _ => h, fun a h => ?_, fun j d' h => ?_, fun j d' h => ?_, fun j d' h => ?_, fun j d' h => ?_, fun _ h => h⟩, rep⟩
  · rcases getElem?_set_cases e' with ⟨rfl, z⟩ | ⟨_, z⟩
    · cases z
      exact ⟨_, hp, rep⟩
    · obtain ⟨v, h1, h2⟩ := ok.im j d' z
      exact ⟨v, h1, h2.mono le⟩
  · rcases getElem?_set_cases e' with ⟨rfl, z⟩ | ⟨ne, z⟩
    · cases z
    · obtain ⟨v, h1, h2, h3, h4⟩ := ok.ow j k d' z
      refine ⟨v, h1, ⟨h2, fun w => ?_⟩, h3.mono le (fun _ h => h), h4⟩
      subst w
      exact ne (ok.inj i j _ _ _ _ _ e z hp h1)
  · rcases getElem?_set_cases h1 with ⟨rfl, z⟩ | ⟨_, z⟩
    · cases z
    · rcases getElem?_set_cases h2 with ⟨rfl, z'⟩ | ⟨_, z'⟩
      · cases z'
      · exact ok.inj j l k k' d1 d2 q z z'
  · subst z
    exact n ⟨i, d, e, hp⟩
  · obtain ⟨j, d', h1, h2⟩ := h
    rcases getElem?_set_cases h1 with ⟨rfl, z⟩ | ⟨_, z⟩
    · cases z
    · exact .inl ⟨j, d', z, h2⟩
  · have ne : i ≠ j := fun z => by
      subst z
      rw [e] at h
      cases h
    exact ⟨d', by rw [List.getElem?_set_ne ne]; exact h, rfl⟩
  · rcases getElem?_set_cases h with ⟨rfl, z⟩ | ⟨_, z⟩
    · cases z
    · exact ⟨d', z, rfl⟩
  · have ne : i ≠ j := fun z => by
      subst z
      rw [e] at h
      cases h
    exact ⟨by rw [List.getElem?_set_ne ne]; exact h, rfl⟩
  · rcases getElem?_set_cases h with ⟨rfl, z⟩ | ⟨_, z⟩
    · cases z
    · exact ⟨z, rfl⟩
/-- what stands behind an expression: from S0, H0, env0 it came to S, H, env with the value v -/
structure Post (K : PySem.W.Frag) (S0 : Addr → Prop) (H0 : Hp) (σ : L2.St) (env0 : Env) (r : R) (env : Env) (v : V) (S : Addr → Prop) (H : Hp) : Prop where
  fw : Fw S0 H0 σ env0 S H σ env
  ok : EnvOk K S σ H env
  rv : RV K S H σ env r v
  new : ∀ d p, r = .fr d → v = .ref p → H0 p = none
/-- .. stored -/
theorem Post.sto {S0 : Addr → Prop} {H0 : Hp} {env0 : Env} {r : R} {v : V} {d : D} (P : Post K S0 H0 σ env0 r env v S H) (h : sto r env = some (d, env')) :
    ∃ S', Fw S0 H0 σ env0 S' H σ env' ∧ EnvOk K S' σ H env' ∧ Rep K (er S' H) v d := by
  cases r with
  | im e =>
    cases h
    exact ⟨S, P.fw, P.ok, P.rv⟩
  | fr e =>
    cases h
    obtain ⟨p, rfl, hs, hc, hl, ho, hm⟩ := P.rv
    have hn : H0 p = none := P.new _ _ rfl rfl
    have nk : ∀ k, ¬ OwnsK k σ env p := fun k => by
      cases k with
      | own => exact fun q => hc (.inl q)
      | bor => exact fun q => hc (.inr q)
      | lck => exact hl
    have f := P.fw
    refine ⟨fun a => S a ∧ a ≠ p, ⟨fun a q => f.sub a q.1, fun a q1 q2 q3 => ⟨f.kp a q1 q2 q3, fun z => ?_⟩, f.fr, f.own, f.bo, f.bo', f.lk, f.lk', f.dm⟩, P.ok.shrink nk, ?_⟩
    · subst z
      exact q2 hn
    · have le : Le (er S H) (er (fun a => S a ∧ a ≠ p) H) := er_le fun a o h1 h2 => ⟨fun q => h1 q.1, h2⟩
      have e2 : ∀ u, Rd H p u → Rd (er (fun a => S a ∧ a ≠ p) H) p u := fun u r => by
        unfold Rd at r ⊢
        rw [er_of (fun z => z.2 rfl)]
        exact r
      cases d with
      | list ds => obtain ⟨xs, h1, h2⟩ := ho; exact .lst (.inl (e2 _ h1)) (h2.mono le)
      | dict ds => obtain ⟨xs, h1, h2⟩ := ho; exact .dic (e2 _ h1) (h2.mono le)
      | _ => exact ho.elim
  | al i =>
    have hv : σ[i]? = some (some v) := P.rv
    dsimp only [DI.sto] at h
    cases q : env[i]? with
    | none => rw [q] at h; cases h
    | some s =>
      rw [q] at h
      cases s with
      | un => cases h
      | im e =>
        cases h
        obtain ⟨w, h1, h2⟩ := P.ok.im i _ q
        rw [hv] at h1
        cases h1
        exact ⟨S, P.fw, P.ok, h2⟩
      | ow k e =>
        cases k with
        | own =>
          cases h
          obtain ⟨p, h1, h2, h3, h4⟩ := P.ok.ow i _ _ q
          rw [hv] at h1
          cases h1
          obtain ⟨f1, f2, f3⟩ := P.ok.freeze q hv
          exact ⟨_, P.fw.trans f2, f1, f3⟩
        | bor => cases h
        | lck => cases h
end
end DI

set_option maxRecDepth 100000
/-! DI2: the small language and its evaluator. -/
namespace DI
open PySem PySem.Spec PyProof.Rows L2

/-- what a list may hold at most, here -/
def lim : Nat := 100000

/-- a target: a name; names -/
inductive Tg | n (i : Nat) | t (is : List Nat)
/-- built-in functions of values -/
inductive B | len | abs | int | bool | list | tuple | sorted | sum | all | any | min | max | str | setSorted | lenSet
  deriving DecidableEq
/-- methods of a list that a slot holds -/
inductive Me | append | pop | popAt | reverse
  deriving DecidableEq
mutual
inductive Xp
  | c (d : D)
  | v (i : Nat)
  | tup (es : Xps)
  | lst (es : Xps)
  | bin (o : Operator) (a b : Xp)
  | rep (es : Xps) (n : Xp)
  | neg (a : Xp)
  | cmp (o : CmpOp) (a b : Xp)
  | cmp2 (o p : CmpOp) (a b c : Xp)
  | andX (a b : Xp)
  | orX (a b : Xp)
  | notX (a : Xp)
  | ite (t a b : Xp)
  | ix (a i : Xp)
  | sl (a : Xp) (lo hi : Xp)
  | rev (a : Xp)
  | nil
  | bi (f : B) (es : Xps)
  | isi (a : Xp) (tys : List String)
  | call (f : Str) (es : Xps)
  | me (m : Me) (i : Nat) (es : Xps)
  | ext (i : Nat) (x : Xp)
  | lc (vs : List Nat) (it : It) (tg : Tg) (tt : Xp) (e : Xp)
  | dc (vs : List Nat) (it : It) (tg : Tg) (tt : Xp) (k e : Xp)
  | disp (ks vs : Xps)
inductive Xps
  | nil
  | cons (x : Xp) (xs : Xps)
inductive It
  | x (a : Xp)
  | r1 (a : Xp)
  | r2 (a b : Xp)
  | e (a : Xp)
  | z (a b : Xp)
end

/-! ### data -/
@[simp] def truthD : D → Option Bool
  | .none => some false
  | .bool b => some b
  | .int i => some (i != 0)
  | .str s => if s.length ≤ lim then some ((s.length : Int) != 0) else none
  | .list xs => some (!xs.isEmpty)
  | .tuple xs => some (!xs.isEmpty)
  | .dict _ => none
/-- what an operation makes: a new list or dict is fresh -/
@[simp] def newR : D → R
  | .list xs => .fr (.list xs)
  | .dict xs => .fr (.dict xs)
  | d => .im d
@[simp] def b2i (b : Bool) : Int := if b then 1 else 0
def small64 (i : Int) : Bool := decide (-(2 ^ 64) < i) && decide (i < 2 ^ 64)
@[simp] def binD : Operator → D → D → Option D
  | .Add, .int i, .int j => some (.int (i + j))
  | .Add, .str i, .str j => if i.length + j.length ≤ lim then some (.str (i ++ j)) else none
  | .Add, .list i, .list j => if i.length + j.length ≤ lim then some (.list (i ++ j)) else none
  | .Add, .tuple i, .tuple j => if i.length + j.length ≤ lim then some (.tuple (i ++ j)) else none
  | .Add, .int i, .bool j => some (.int (i + b2i j))
  | .Sub, .int i, .int j => some (.int (i - j))
  | .Mult, .int i, .int j => if small64 i || small64 j then some (.int (i * j)) else none
  | .Mod, .int i, .int j => if 0 < j then some (.int (i % j)) else none
  | .FloorDiv, .int i, .int j => if decide (0 < j) && decide (j < 1073741824) then some (.int (i / j)) else none
  | .Pow, .int i, .int j => if decide (0 ≤ j) && decide (j ≤ 1000000) && decide (i.natAbs < 2 ^ 64) then some (.int (i ^ j.toNat)) else none
  | _, _, _ => none
def isKey : D → Bool
  | .int _ => true
  | .str _ => true
  | _ => false
def flatD : D → Bool
  | .none => true
  | .bool _ => true
  | .int _ => true
  | .str _ => true
  | _ => false
def strLt (a b : Str) : Bool := decide (a.cps.toList < b.cps.toList)
def inD (x : D) : D → Option Bool
  | .list ds => if SeqAt.shaped x && SeqAt.shaped (.list ds) then some (ds.any fun z => PyData.eqv z x) else none
  | .tuple ds => if flatD x && ds.all flatD then some (ds.any fun z => PyData.eqv z x) else none
  | .str s => match x with
    | .str c => if c.length = 1 then some (decide (c.cps.getD 0 0 ∈ s.cps.toList)) else none
    | _ => none
  | .dict kvs => if isKey x then some (kvs.any fun kv => PyData.eqv kv.1 x) else none
  | _ => none
@[simp] def cmpD : CmpOp → D → D → Option Bool
  | .Eq, x, y => if SeqAt.shaped x && SeqAt.shaped y then some (PyData.eqv x y) else none
  | .NotEq, x, y => if SeqAt.shaped x && SeqAt.shaped y then some (!PyData.eqv x y) else none
  | .Lt, .int i, .int j => some (decide (i < j))
  | .LtE, .int i, .int j => some (decide (i ≤ j))
  | .Gt, .int i, .int j => some (decide (j < i))
  | .GtE, .int i, .int j => some (decide (j ≤ i))
  | .Lt, .str i, .str j => some (strLt i j)
  | .Gt, .str i, .str j => some (strLt j i)
  | .In, x, y => inD x y
  | .NotIn, x, y => (inD x y).map (!·)
  | .Is, x, .none => some (match x with | .none => true | _ => false)
  | .IsNot, x, .none => some (match x with | .none => false | _ => true)
  | .Is, .bool a, .bool b => some (a == b)
  | .IsNot, .bool a, .bool b => some (!(a == b))
  | _, _, _ => none
def lookD : List (D × D) → D → Option D
  | [], _ => none
  | (k, v) :: r, x => if PyData.eqv k x then some v else lookD r x
def putD (kvs : List (D × D)) (x y : D) : List (D × D) :=
  if kvs.any (fun kv => PyData.eqv kv.1 x) then kvs.map (fun kv => if PyData.eqv kv.1 x then (kv.1, y) else kv) else kvs ++ [(x, y)]
@[simp] def ixD : D → D → Option D
  | .list xs, .int i => atI xs i
  | .tuple xs, .int i => atI xs i
  | .str s, .int i => if s.length ≤ lim then (atI s.cps.toList i).map fun c => .str ⟨#[c]⟩ else none
  | .dict kvs, x => if isKey x then lookD kvs x else none
  | _, _ => none
def cutL {α : Type} (xs : List α) (lo hi : Option Int) : List α := (xs.drop (HT.sIx xs.length 0 lo)).take (HT.sIx xs.length xs.length hi - HT.sIx xs.length 0 lo)
@[simp] def slcD : D → Option Int → Option Int → Option D
  | .list xs, lo, hi => some (.list (cutL xs lo hi))
  | .tuple xs, lo, hi => some (.tuple (cutL xs lo hi))
  | _, _, _ => none
@[simp] def revD : D → Option D
  | .list xs => some (.list xs.reverse)
  | .tuple xs => some (.tuple xs.reverse)
  | _ => none
@[simp] def optI : D → Option (Option Int)
  | .none => some none
  | .int i => some (some i)
  | _ => none
@[simp] def tyD : D → String
  | .none => "NoneType"
  | .bool _ => "bool"
  | .int _ => "int"
  | .str _ => "str"
  | .list _ => "list"
  | .tuple _ => "tuple"
  | .dict _ => "dict"
@[simp] def tyIs (a t : String) : Option Bool :=
  match t with
  | "int" => some (a == "int" || a == "bool")
  | "bool" => some (a == "bool")
  | "str" => some (a == "str")
  | "list" => some (a == "list")
  | "tuple" => some (a == "tuple")
  | "dict" => some (a == "dict")
  | _ => none
@[simp] def isTy (d : D) (t : String) : Option Bool := tyIs (tyD d) t
@[simp] def isTys (d : D) : List String → Option Bool
  | [] => some false
  | t :: ts => match isTy d t with
    | some true => some true
    | some false => isTys d ts
    | none => none
def intsD : List D → Option (List Int)
  | [] => some []
  | .int i :: r => (intsD r).map (i :: ·)
  | _ :: _ => none
def strsD : List D → Option (List Str)
  | [] => some []
  | .str i :: r => (strsD r).map (i :: ·)
  | _ :: _ => none
def blsD : List D → Option (List Bool)
  | [] => some []
  | .bool i :: r => (blsD r).map (i :: ·)
  | _ :: _ => none
/-- an order put in, behind its equals -/
def insBy {α : Type} (lt : α → α → Bool) (x : α) : List α → List α
  | [] => [x]
  | y :: r => if lt x y then x :: y :: r else y :: insBy lt x r
def sortBy {α : Type} (lt : α → α → Bool) : List α → List α
  | [] => []
  | x :: r => insBy' lt x (sortBy lt r)
where insBy' (lt : α → α → Bool) (x : α) : List α → List α
  | [] => [x]
  | y :: r => if lt y x then y :: insBy' lt x r else x :: y :: r
def sortedD : List D → Option (List D)
  | [] => some []
  | .int i :: r => match intsD r with
    | some is => if is.length < 63 then some ((sortBy (fun a b => decide (a < b)) (i :: is)).map .int) else none
    | none => none
  | .str i :: r => match strsD r with
    | some is => if is.length < 63 then some ((sortBy strLt (i :: is)).map .str) else none
    | none => none
  | _ => none
/-- the different ones, ascending -/
def dedup : List Str → List Str
  | [] => []
  | x :: r => if x ∈ r then dedup r else x :: dedup r
@[simp] def seqD : D → Option (List D)
  | .list xs => some xs
  | .tuple xs => some xs
  | _ => none
@[simp] def lstD : D → Option (List D)
  | .list xs => some xs
  | _ => none
@[simp] def biD : B → List D → Option R
  | .len, [.str s] => if s.length ≤ lim then some (.im (.int s.length)) else none
  | .len, [.list xs] => some (.im (.int xs.length))
  | .len, [.tuple xs] => some (.im (.int xs.length))
  | .abs, [.int i] => some (.im (.int (if i < 0 then -i else i)))
  | .int, [.int i] => some (.im (.int i))
  | .int, [.bool b] => some (.im (.int (b2i b)))
  | .list, [.list xs] => some (.fr (.list xs))
  | .list, [.tuple xs] => some (.fr (.list xs))
  | .tuple, [.list xs] => some (.im (.tuple xs))
  | .tuple, [.tuple xs] => some (.im (.tuple xs))
  | .sorted, [.list xs] => (sortedD xs).map fun ys => .fr (.list ys)
  | .sum, [.list xs] => (intsD xs).map fun ys => .im (.int ys.sum)
  | .all, [.list xs] => (blsD xs).map fun ys => .im (.bool (ys.all id))
  | .any, [.list xs] => (blsD xs).map fun ys => .im (.bool (ys.any id))
  | .min, [.int i, .int j] => some (.im (.int (if j < i then j else i)))
  | .max, [.int i, .int j] => some (.im (.int (if j > i then j else i)))
  | _, _ => none

/-! ### environments -/
@[simp] def setSl (env : Env) (i : Nat) (s : Sl) : Option Env :=
  match env[i]? with
  | some (.ow .bor _) => none
  | some (.ow .lck _) => none
  | some _ => some (env.set i s)
  | none => none
@[simp] def bindTs : List Nat → List D → Env → Option Env
  | [], [], env => some env
  | i :: is, d :: ds, env => (setSl env i (.im d)).bind (bindTs is ds)
  | _, _, _ => none
@[simp] def bindT : Tg → D → Env → Option Env
  | .n i, d, env => setSl env i (.im d)
  | .t is, .tuple ds, env => bindTs is ds env
  | _, _, _ => none
/-- the slots of a comprehension, ahead of a turn -/
def wipeE (env : Env) : List Nat → Env
  | [] => env
  | i :: is => (wipeE env is).set i .un
/-- .. and behind it: as they were -/
def backE (env0 env : Env) : List Nat → Env
  | [] => env
  | i :: is => match env0[i]? with
    | some s => (backE env0 env is).set i s
    | none => backE env0 env is
def freeE (env : Env) (vs : List Nat) : Bool := vs.all fun i => match env[i]? with
  | some (.ow .bor _) => false
  | some (.ow .lck _) => false
  | some _ => true
  | none => false
/-- a slot's list or dict is walked: it stays so long -/
def lockE (env : Env) : List Nat → Env
  | [] => env
  | i :: is => match (lockE env is)[i]? with
    | some (.ow _ d) => (lockE env is).set i (.ow .lck d)
    | _ => lockE env is
def unlockE (env0 env : Env) : List Nat → Env
  | [] => env
  | i :: is => match env0[i]? with
    | some (.ow k d) => (unlockE env0 env is).set i (.ow k d)
    | _ => unlockE env0 env is
@[simp] def itemsD : D → Option (List D)
  | .list xs => some xs
  | .tuple xs => some xs
  | .str s => some (s.cps.toList.map fun c => .str ⟨#[c]⟩)
  | _ => none
@[simp] def zipD : D → D → Option (List D)
  | .list xs, .list ys => some (List.zipWith (fun a b => .tuple [a, b]) xs ys)
  | .tuple xs, .tuple ys => some (List.zipWith (fun a b => .tuple [a, b]) xs ys)
  | _, _ => none
def enumFrom (n : Nat) : List D → List D
  | [] => []
  | x :: r => .tuple [.int n, x] :: enumFrom (n + 1) r
def rangeL (lo : Int) : Nat → List D
  | 0 => []
  | n + 1 => .int lo :: rangeL (lo + 1) n
def in62 (i : Int) : Bool := decide (-(2 ^ 62) ≤ i) && decide (i < 2 ^ 62)
/-- the values of several results, where the environment stands now -/
@[simp] def valsR (env : Env) : List R → Option (List D)
  | [] => some []
  | r :: rs => match r.val env, valsR env rs with
    | some d, some ds => some (d :: ds)
    | _, _ => none
/-- a def's parameters from what is passed -/
@[simp] def parSl (env : Env) : R → Option Sl
  | .im d => some (.im d)
  | .fr d => some (.ow .bor d)
  | .al i => match env[i]? with
    | some (.im d) => some (.im d)
    | some (.ow .own d) => some (.ow .bor d)
    | some (.ow .bor d) => some (.ow .bor d)
    | some (.ow .lck d) => some (.ow .lck d)
    | _ => none
@[simp] def parSls (env : Env) : List R → Option (List Sl)
  | [] => some []
  | r :: rs => match parSl env r, parSls env rs with
    | some d, some ds => some (d :: ds)
    | _, _ => none
@[simp] def alsOf : List R → List Nat
  | [] => []
  | .al i :: rs => i :: alsOf rs
  | _ :: rs => alsOf rs
/-- what the callee left of what it was handed -/
@[simp] def backSl (env : Env) : List R → List Sl → Env
  | .al i :: rs, .ow .bor d :: ss => match env[i]? with
    | some (.ow k _) => backSl (env.set i (.ow k d)) rs ss
    | _ => backSl env rs ss
  | _ :: rs, _ :: ss => backSl env rs ss
  | _, _ => env
@[simp] def meD : Me → List D → List D → Option (D × List D)
  | .append, xs, [d] => if xs.length < lim then some (.none, xs ++ [d]) else none
  | .pop, xs, [] => match xs[xs.length - 1]? with
    | some y => some (y, xs.dropLast)
    | none => none
  | .popAt, xs, [.int i] => match ixN xs.length i with
    | some k => match xs[k]? with
      | some y => if decide (-(2 ^ 63) ≤ i) && decide (i < 2 ^ 63) then some (y, xs.eraseIdx k) else none
      | none => none
    | none => none
  | .reverse, xs, [] => some (.none, xs.reverse)
  | _, _, _ => none

/-- what a def answers to what it is handed: its result, its parameters' slots behind it -/
abbrev Fns := Str → List Sl → Option (R × List Sl)

/-! ### the evaluator -/
/-- a comprehension's turns -/
def goL (f : D → Env → Option (Option D × Env)) : List D → Env → Option (List D × Env)
  | [], env => some ([], env)
  | d :: ds, env => match f d env with
    | some (o, env1) => match goL f ds env1 with
      | some (ys, env2) => some (match o with | some y => y :: ys | none => ys, env2)
      | none => none
    | none => none
def goD (f : D → Env → Option (Option (D × D) × Env)) : List D → List (D × D) → Env → Option (List (D × D) × Env)
  | [], acc, env => some (acc, env)
  | d :: ds, acc, env => match f d env with
    | some (some (k, y), env1) => goD f ds (putD acc k y) env1
    | some (none, env1) => goD f ds acc env1
    | none => none
mutual
@[simp] def ev (Φ : Fns) : Xp → Env → Option (R × Env)
  | .c d, env => some (.im d, env)
  | .v i, env => match env[i]? with
    | some (.im d) => some (.im d, env)
    | some (.ow _ _) => some (.al i, env)
    | _ => none
  | .tup es, env => match evS Φ es env with
    | some (ds, env1) => if ds.length ≤ lim then some (.im (.tuple ds), env1) else none
    | none => none
  | .lst es, env => match evS Φ es env with
    | some (ds, env1) => if ds.length ≤ lim then some (.fr (.list ds), env1) else none
    | none => none
  | .bin o a b, env => match ev Φ a env with
    | some (ra, env1) => match ev Φ b env1 with
      | some (rb, env2) => match ra.val env2, rb.val env2 with
        | some x, some y => match binD o x y with
          | some z => some (newR z, env2)
          | none => none
        | _, _ => none
      | none => none
    | none => none
  | .rep es n, env => match evS Φ es env with
    | some (ds, env1) => match ev Φ n env1 with
      | some (rn, env2) => match rn.val env2 with
        | some (.int j) => if decide (-(2 ^ 63) ≤ j) && decide (j < 2 ^ 63) && decide (ds.length * j.toNat ≤ lim) && decide (ds.length ≤ lim) then some (.fr (.list (List.replicate j.toNat ds).flatten), env2) else none
        | _ => none
      | none => none
    | none => none
  | .neg a, env => match ev Φ a env with
    | some (ra, env1) => match ra.val env1 with
      | some (.int i) => some (.im (.int (-i)), env1)
      | _ => none
    | none => none
  | .cmp o a b, env => match ev Φ a env with
    | some (ra, env1) => match ev Φ b env1 with
      | some (rb, env2) => match ra.val env2, rb.val env2 with
        | some x, some y => match cmpD o x y with
          | some z => some (.im (.bool z), env2)
          | none => none
        | _, _ => none
      | none => none
    | none => none
  | .cmp2 o p a b c, env => match ev Φ a env with
    | some (ra, env1) => match ev Φ b env1 with
      | some (rb, env2) => match ra.val env2, rb.val env2 with
        | some x, some y => match cmpD o x y with
          | some false => some (.im (.bool false), env2)
          | some true => match ev Φ c env2 with
            | some (rc, env3) => match rb.val env3, rc.val env3 with
              | some y', some w => match cmpD p y' w with
                | some z => some (.im (.bool z), env3)
                | none => none
              | _, _ => none
            | none => none
          | none => none
        | _, _ => none
      | none => none
    | none => none
  | .andX a b, env => match ev Φ a env with
    | some (ra, env1) => match (ra.val env1).bind truthD with
      | some true => ev Φ b env1
      | some false => some (ra, env1)
      | none => none
    | none => none
  | .orX a b, env => match ev Φ a env with
    | some (ra, env1) => match (ra.val env1).bind truthD with
      | some true => some (ra, env1)
      | some false => ev Φ b env1
      | none => none
    | none => none
  | .notX a, env => match ev Φ a env with
    | some (ra, env1) => match (ra.val env1).bind truthD with
      | some k => some (.im (.bool (!k)), env1)
      | none => none
    | none => none
  | .ite t a b, env => match ev Φ t env with
    | some (rt, env1) => match (rt.val env1).bind truthD with
      | some true => ev Φ a env1
      | some false => ev Φ b env1
      | none => none
    | none => none
  | .ix a b, env => match ev Φ a env with
    | some (ra, env1) => match ev Φ b env1 with
      | some (rb, env2) => match ra.val env2, rb.val env2 with
        | some x, some y => match ixD x y with
          | some z => some (.im z, env2)
          | none => none
        | _, _ => none
      | none => none
    | none => none
  | .sl a lo hi, env => match ev Φ a env with
    | some (ra, env1) => match ev Φ lo env1 with
      | some (rl, env2) => match ev Φ hi env2 with
        | some (rh, env3) => match ra.val env3, (rl.val env2).bind optI, (rh.val env3).bind optI with
          | some x, some l, some h => match slcD x l h with
            | some z => some (newR z, env3)
            | none => none
          | _, _, _ => none
        | none => none
      | none => none
    | none => none
  | .rev a, env => match ev Φ a env with
    | some (ra, env1) => match (ra.val env1).bind revD with
      | some z => some (newR z, env1)
      | none => none
    | none => none
  | .nil, env => some (.im .none, env)
  | .bi f es, env => match evR Φ es env with
    | some (rs, env1) => match valsR env1 rs with
      | some ds => match biD f ds with
        | some r => some (r, env1)
        | none => none
      | none => none
    | none => none
  | .isi a tys, env => match ev Φ a env with
    | some (ra, env1) => match ra.val env1 with
      | some d => match isTys d tys with
        | some k => some (.im (.bool k), env1)
        | none => none
      | none => none
    | none => none
  | .call f es, env => match evR Φ es env with
    | some (rs, env1) => if (alsOf rs).Nodup then match parSls env1 rs with
      | some ss => match Φ f ss with
        | some (r, ss') => some (r, backSl env1 rs ss')
        | none => none
      | none => none
      else none
    | none => none
  | .me m i es, env => match env[i]? with
    | some (.ow _ (.list _)) => match evS Φ es env with
      | some (ds, env1) => match env1[i]? with
        | some (.ow k (.list xs)) => if k = .lck then none else match meD m xs ds with
          | some (d, ys) => some (.im d, env1.set i (.ow k (.list ys)))
          | none => none
        | _ => none
      | none => none
    | _ => none
  | .ext i x, env => match env[i]? with
    | some (.ow _ (.list _)) => match ev Φ x env with
      | some (.fr (.list ys), env1) => match env1[i]? with
        | some (.ow k (.list xs)) => if k = .lck then none else
          if xs.length + ys.length ≤ lim then some (.im .none, env1.set i (.ow k (.list (xs ++ ys)))) else none
        | _ => none
      | _ => none
    | _ => none
  | .lc vs it tg tt e, env => match evI Φ it env with
    | some (ls, ds, env1) => if freeE env1 vs && decide (ds.length ≤ lim) then
        match goL (fun d en => match bindT tg d en with
          | some en1 => match ev Φ tt en1 with
            | some (rt, en2) => match (rt.val en2).bind truthD with
              | some true => match ev Φ e en2 with
                | some (re, en3) => match sto re en3 with
                  | some (y, en4) => some (some y, wipeE en4 vs)
                  | none => none
                | none => none
              | some false => some (none, wipeE en2 vs)
              | none => none
            | none => none
          | none => none) ds (wipeE (lockE env1 ls) vs) with
        | some (ys, en) => some (.fr (.list ys), unlockE env1 (backE (lockE env1 ls) en vs) ls)
        | none => none
      else none
    | none => none
  | .dc vs it tg tt k e, env => match evI Φ it env with
    | some (ls, ds, env1) => if freeE env1 vs && decide (ds.length ≤ lim) then
        match goD (fun d en => match bindT tg d en with
          | some en1 => match ev Φ tt en1 with
            | some (rt, en2) => match (rt.val en2).bind truthD with
              | some true => match ev Φ k en2 with
                | some (rk, en3) => match ev Φ e en3 with
                  | some (re, en4) => match rk.val en4, sto re en4 with
                    | some key, some (y, en5) => if isKey key then some (some (key, y), wipeE en5 vs) else none
                    | _, _ => none
                  | none => none
                | none => none
              | some false => some (none, wipeE en2 vs)
              | none => none
            | none => none
          | none => none) ds [] (wipeE (lockE env1 ls) vs) with
        | some (ys, en) => some (.fr (.dict ys), unlockE env1 (backE (lockE env1 ls) en vs) ls)
        | none => none
      else none
    | none => none
  | .disp ks vs, env => none
/-- stored, from the left -/
@[simp] def evS (Φ : Fns) : Xps → Env → Option (List D × Env)
  | .nil, env => some ([], env)
  | .cons x xs, env => match ev Φ x env with
    | some (r, env1) => match sto r env1 with
      | some (d, env2) => match evS Φ xs env2 with
        | some (ds, env3) => some (d :: ds, env3)
        | none => none
      | none => none
    | none => none
/-- as they are, from the left -/
@[simp] def evR (Φ : Fns) : Xps → Env → Option (List R × Env)
  | .nil, env => some ([], env)
  | .cons x xs, env => match ev Φ x env with
    | some (r, env1) => match evR Φ xs env1 with
      | some (rs, env2) => some (r :: rs, env2)
      | none => none
    | none => none
/-- what is walked: whose it is, the items -/
@[simp] def evI (Φ : Fns) : It → Env → Option (List Nat × List D × Env)
  | .x a, env => match ev Φ a env with
    | some (r, env1) => match (r.val env1).bind itemsD with
      | some ds => some (alsOf [r], ds, env1)
      | none => none
    | none => none
  | .r1 a, env => match ev Φ a env with
    | some (r, env1) => match r.val env1 with
      | some (.int j) => if in62 j then some ([], rangeL 0 j.toNat, env1) else none
      | _ => none
    | none => none
  | .r2 a b, env => match ev Φ a env with
    | some (ra, env1) => match ev Φ b env1 with
      | some (rb, env2) => match ra.val env2, rb.val env2 with
        | some (.int i), some (.int j) => if in62 i && in62 j then some ([], rangeL i (j - i).toNat, env2) else none
        | _, _ => none
      | none => none
    | none => none
  | .e a, env => match ev Φ a env with
    | some (r, env1) => match (r.val env1).bind lstD with
      | some ds => some (alsOf [r], enumFrom 0 ds, env1)
      | none => none
    | none => none
  | .z a b, env => match ev Φ a env with
    | some (ra, env1) => match ev Φ b env1 with
      | some (rb, env2) => match ra.val env2, rb.val env2 with
        | some x, some y => match zipD x y with
          | some ds => some (alsOf [ra, rb], ds, env2)
          | none => none
        | _, _ => none
      | none => none
    | none => none
end

/-! ### statements -/
mutual
inductive Sm
  | set (i : Nat) (x : Xp)
  | setT (is : List Nat) (x : Xp)
  | par (is : List Nat) (xs : Xps)
  | setIx (i : Nat) (k x : Xp)
  | aug (i : Nat) (o : Operator) (x : Xp)
  | augIx (i : Nat) (k : Xp) (o : Operator) (x : Xp)
  | ex (x : Xp)
  | ret (x : Xp)
  | iff (t : Xp) (a b : Sms)
  | for (it : It) (tg : Tg) (b : Sms)
  | whl (t : Xp) (b : Sms)
  | brk | cnt | pas | nev
inductive Sms
  | nil
  | cons (s : Sm) (r : Sms)
end
inductive Out | nx (env : Env) | rt (r : R) (env : Env) | bk (env : Env) | ct (env : Env)
def forget : Env → Env → Env
  | .un :: p, _ :: e => .un :: forget p e
  | _ :: p, s :: e => s :: forget p e
  | _, e => e
/-- what goes into a slot -/
@[simp] def slotOf : R → Env → Option (Sl × Env)
  | .im d, env => some (.im d, env)
  | .fr d, env => some (.ow .own d, env)
  | .al i, env => match sto (.al i) env with
    | some (d, env1) => some (.im d, env1)
    | none => none
@[simp] def slotsOf : List R → Env → Option (List Sl × Env)
  | [], env => some ([], env)
  | r :: rs, env => match slotOf r env with
    | some (s, env1) => match slotsOf rs env1 with
      | some (ss, env2) => some (s :: ss, env2)
      | none => none
    | none => none
@[simp] def setAll : List Nat → List Sl → Env → Option Env
  | [], [], env => some env
  | i :: is, s :: ss, env => match setSl env i s with
    | some env1 => setAll is ss env1
    | none => none
  | _, _, _ => none
@[simp] def retR : R → Env → Option (R × Env)
  | .im d, env => some (.im d, env)
  | .fr d, env => some (.fr d, env)
  | .al i, env => match env[i]? with
    | some (.im d) => some (.im d, env)
    | some (.ow .own d) => some (.fr d, env.set i .un)
    | _ => none
def forS (f : D → Env → Option Out) (pre : Env) : List D → Env → Option Out
  | [], env => some (.nx env)
  | d :: ds, env => match f d env with
    | some (.nx env1) => forS f pre ds (forget pre env1)
    | some (.ct env1) => forS f pre ds (forget pre env1)
    | some (.bk env1) => some (.bk (forget pre env1))
    | some (.rt r env1) => some (.rt r env1)
    | none => none
def whS (t : Env → Option (Bool × Env)) (b : Env → Option Out) (pre : Env) : Nat → Env → Option Out
  | 0, _ => none
  | n + 1, env => match t env with
    | some (true, env1) => match b env1 with
      | some (.nx env2) => whS t b pre n (forget pre env2)
      | some (.ct env2) => whS t b pre n (forget pre env2)
      | some (.bk env2) => some (.nx (forget pre env2))
      | some (.rt r env2) => some (.rt r env2)
      | none => none
    | some (false, env1) => some (.nx env1)
    | none => none
/-- a loop's end: the lists that it walked may be changed again -/
@[simp] def endFor (env0 : Env) (ls : List Nat) : Out → Out
  | .nx env => .nx (unlockE env0 env ls)
  | .bk env => .nx (unlockE env0 env ls)
  | .rt r env => .rt r (unlockE env0 env ls)
  | .ct env => .nx (unlockE env0 env ls)
@[simp] def tstX (Φ : Fns) (t : Xp) (env : Env) : Option (Bool × Env) :=
  match ev Φ t env with
  | some (r, env1) => match (r.val env1).bind truthD with
    | some k => some (k, env1)
    | none => none
  | none => none
@[simp] def setIxD : D → D → D → Option D
  | .list xs, .int i, y => match ixN xs.length i with
    | some j => some (.list (xs.set j y))
    | none => none
  | .dict kvs, x, y => if isKey x && decide (kvs.length < lim) then some (.dict (putD kvs x y)) else none
  | _, _, _ => none
mutual
@[simp] def exec (Φ : Fns) : Sm → Env → Option Out
  | .set i x, env => match ev Φ x env with
    | some (r, env1) => match slotOf r env1 with
      | some (s, env2) => match setSl env2 i s with
        | some env3 => some (.nx env3)
        | none => none
      | none => none
    | none => none
  | .setT is x, env => match ev Φ x env with
    | some (r, env1) => match (r.val env1).bind seqD with
      | some ds => match bindTs is ds env1 with
        | some env2 => some (.nx env2)
        | none => none
      | none => none
    | none => none
  | .par is xs, env => match evR Φ xs env with
    | some (rs, env1) => match slotsOf rs env1 with
      | some (ss, env2) => match setAll is ss env2 with
        | some env3 => some (.nx env3)
        | none => none
      | none => none
    | none => none
  | .setIx i k x, env => match ev Φ x env with
    | some (r, env1) => match sto r env1 with
      | some (d, env2) => match env2[i]? with
        | some (.ow _ _) => match ev Φ k env2 with
          | some (rk, env3) => match rk.val env3, env3[i]? with
            | some kd, some (.ow kk c) => if kk = .lck then none else match setIxD c kd d with
              | some c' => some (.nx (env3.set i (.ow kk c')))
              | none => none
            | _, _ => none
          | none => none
        | _ => none
      | none => none
    | none => none
  | .aug i o x, env => match ev Φ x env with
    | some (r, env1) => match env1[i]?, r.val env1 with
      | some (.im a), some b => match binD o a b with
        | some z => if leaf z then some (.nx (env1.set i (.im z))) else none
        | none => none
      | some (.ow k (.list xs)), some (.list ys) => if k = .lck then none else
          if o = .Add then (if xs.length + ys.length ≤ lim then some (.nx (env1.set i (.ow k (.list (xs ++ ys))))) else none) else none
      | _, _ => none
    | none => none
  | .augIx i k o x, env => match ev Φ k env with
    | some (rk, env1) => match rk.val env1, env1[i]? with
      | some (.int j), some (.ow _ (.list xs)) => match atI xs j with
        | some a => match ev Φ x env1 with
          | some (r, env2) => match r.val env2, env2[i]? with
            | some b, some (.ow kk (.list ys)) => match binD o a b with
              | some z => if kk = .lck then none else if leaf z then match ixN ys.length j with
                | some n => some (.nx (env2.set i (.ow kk (.list (ys.set n z)))))
                | none => none
                else none
              | none => none
            | _, _ => none
          | none => none
        | none => none
      | _, _ => none
    | none => none
  | .ex x, env => match ev Φ x env with
    | some (_, env1) => some (.nx env1)
    | none => none
  | .ret x, env => match ev Φ x env with
    | some (r, env1) => match retR r env1 with
      | some (r', env2) => some (.rt r' env2)
      | none => none
    | none => none
  | .iff t a b, env => match tstX Φ t env with
    | some (true, env1) => execs Φ a env1
    | some (false, env1) => execs Φ b env1
    | none => none
  | .for it tg b, env => match evI Φ it env with
    | some (ls, ds, env1) => match forS (fun d en => match bindT tg d en with
        | some en1 => execs Φ b en1
        | none => none) (lockE env1 ls) ds (lockE env1 ls) with
      | some o => some (endFor env1 ls o)
      | none => none
    | none => none
  | .whl t b, env => whS (tstX Φ t) (execs Φ b) env 1000000 env
  | .brk, env => some (.bk env)
  | .cnt, env => some (.ct env)
  | .pas, env => some (.nx env)
  | .nev, _ => none
@[simp] def execs (Φ : Fns) : Sms → Env → Option Out
  | .nil, env => some (.nx env)
  | .cons s r, env => match exec Φ s env with
    | some (.nx env1) => execs Φ r env1
    | some o => some o
    | none => none
end
/-- a def of the text: how many parameters, how many slots, its body -/
structure Dfn where
  np : Nat
  ns : Nat
  body : Sms
@[simp] def finSl : List Sl → Env → List Sl
  | [], _ => []
  | .ow .bor _ :: ss, e :: en => e :: finSl ss en
  | s :: ss, _ :: en => s :: finSl ss en
  | ss, [] => ss
/-- a def called -/
def Dfn.run (f : Dfn) (Φ : Fns) (args : List Sl) : Option (R × List Sl) :=
  if args.length = f.np then
    match execs Φ f.body (args ++ List.replicate (f.ns - f.np) .un) with
    | some (.rt (.im d) env) => some (.im d, finSl args env)
    | some (.rt (.fr d) env) => some (.fr d, finSl args env)
    | some (.nx env) => some (.im .none, finSl args env)
    | _ => none
  else none
/-- the defs of a text, to a depth -/
def fns (tbl : List (Str × Dfn)) : Nat → Fns
  | 0, _, _ => none
  | n + 1, f, args => match tbl.lookup f with
    | some d => d.run (fns tbl n) args
    | none => none
end DI

set_option maxRecDepth 100000
/-! DI3: what it is for an expression to do what the evaluator says; values, operators. -/
namespace DI
open PySem PySem.Spec PyProof.Rows L2

section
variable {K : PySem.W.Frag} {S S' : Addr → Prop} {H H' : Hp} {σ : L2.St} {env env' : Env}
/-! ### a new object -/
theorem upd_some {p a : Addr} {o u : HO} (hp : H p = none) (h : H a = some u) : upd H p o a = some u := by
  rw [upd_ne (ne_of_none h hp)]
  exact h
theorem upd_dom {p a : Addr} {o : HO} (h : H a ≠ none) : upd H p o a ≠ none := by
  unfold upd
  split
  · exact fun z => by cases z
  · exact h
theorem rd_upd {p a : Addr} {o u : HO} (hp : H p = none) (h : Rd H a u) : Rd (upd H p o) a u := by
  rcases h with h | ⟨w, h⟩
  · exact .inl (upd_some hp h)
  · exact .inr ⟨w, upd_some hp h⟩
theorem le_upd {p : Addr} {o : HO} (hp : H p = none) : Le H (upd H p o) := fun a u h => rd_upd hp h
theorem Fw.new {p : Addr} {o : HO} (hp : H p = none) : Fw S H σ env S (upd H p o) σ env :=
  ⟨fun _ h => .inl h, fun _ h _ _ => h, fun _ _ h _ => upd_some hp h, fun _ h => .inl h, fun _ d h => ⟨d, h, rfl⟩, fun _ d h => ⟨d, h, rfl⟩, fun _ _ h => ⟨h, rfl⟩, fun _ _ h => ⟨h, rfl⟩, fun _ h => upd_dom h⟩
theorem Fw.newS {p : Addr} {o : HO} (hp : H p = none) : Fw S H σ env (fun a => S a ∨ a = p) (upd H p o) σ env :=
  ⟨fun a h => h.elim .inl fun e => .inr (by rw [e]; exact hp), fun _ h _ _ => .inl h, fun _ _ h _ => upd_some hp h, fun _ h => .inl h, fun _ d h => ⟨d, h, rfl⟩, fun _ d h => ⟨d, h, rfl⟩, fun _ _ h => ⟨h, rfl⟩, fun _ _ h => ⟨h, rfl⟩, fun _ h => upd_dom h⟩
/-- the state moves on, the slots' data as they are -/
theorem EnvOk.move (ok : EnvOk K S σ H env) (le : Le (er S H) (er S' H')) (hS : ∀ k a, OwnsK k σ env a → S' a ∧ H' a = H a) (dom : ∀ a, S' a → H' a ≠ none) : EnvOk K S' σ H' env := by
  refine ⟨ok.len, dom, fun i d e => ?_, fun i k d e => ?_, ok.inj⟩
  · obtain ⟨v, h1, h2⟩ := ok.im i d e
    exact ⟨v, h1, h2.mono le⟩
  · obtain ⟨p, h1, h2, h3, h4⟩ := ok.ow i k d e
    obtain ⟨h5, h6⟩ := hS k p ⟨i, d, e, h1⟩
    refine ⟨p, h1, h5, h3.mono le (fun u r => ?_), fun z => by rw [h6]; exact h4 z⟩
    unfold Rd at r ⊢
    rw [h6]
    exact r
theorem EnvOk.new {p : Addr} {o : HO} (ok : EnvOk K S σ H env) (hp : H p = none) : EnvOk K S σ (upd H p o) env := by
  refine ok.move (Fw.le ok (Fw.new hp)) (fun k a h => ⟨ok.owns h, ?_⟩) fun a h => upd_dom (ok.dom a h)
  exact upd_ne fun z => ok.dom a (ok.owns h) (by rw [z]; exact hp)
theorem EnvOk.newS {p : Addr} {o : HO} (ok : EnvOk K S σ H env) (hp : H p = none) : EnvOk K (fun a => S a ∨ a = p) σ (upd H p o) env := by
  refine ok.move (Fw.le ok (Fw.newS hp)) (fun k a h => ⟨.inl (ok.owns h), ?_⟩) fun a h => ?_
  · exact upd_ne fun z => ok.dom a (ok.owns h) (by rw [z]; exact hp)
  · rcases h with h | h
    · exact upd_dom (ok.dom a h)
    · rw [h, upd_same]
      exact fun z => by cases z
/-! ### what stands behind a step -/
theorem Post.same {r : R} {v : V} (ok : EnvOk K S σ H env) (h : RV K S H σ env r v) (hr : ∀ d, r ≠ .fr d) : Post K S H σ env r env v S H := ⟨Fw.refl, ok, h, fun d p e _ => (hr d e).elim⟩
theorem Post.leaf {F : Hp} {v : V} {d : D} (ok : EnvOk K S σ H env) (h : Rep K F v d) (l : leaf d = true) : Post K S H σ env (.im d) env v S H := Post.same ok (h.leaf l) fun _ z => by cases z
theorem Post.lst {p : Addr} {xs : List V} {ds : List D} (ok : EnvOk K S σ H env) (hp : H p = none) (h : Reps K (er S H) xs ds) :
    Post K S H σ env (.fr (.list ds)) env (.ref p) (fun a => S a ∨ a = p) (upd H p (.lst xs)) := by
  refine ⟨Fw.newS hp, ok.newS hp, ⟨p, rfl, .inr rfl, fun q => ok.dom p (ok.ch q) hp, fun q => ok.dom p (ok.owns q) hp, ⟨xs, .inl upd_same, h.mono (Fw.le ok (Fw.newS hp))⟩, by rw [upd_same]; exact True.intro⟩, fun d q _ e => ?_⟩
  cases e
  exact hp
theorem Post.tup {p : Addr} {xs : List V} {ds : List D} (ok : EnvOk K S σ H env) (hp : H p = none) (h : Reps K (er S H) xs ds) :
    Post K S H σ env (.im (.tuple ds)) env (.ref p) S (upd H p (.tup xs)) := by
  have hs : ¬ S p := fun q => ok.dom p q hp
  refine ⟨Fw.new hp, ok.new hp, ?_, fun d q e _ => by cases e⟩
  exact Rep.tup (.inl (.inl ((er_of hs).trans upd_same))) (h.mono (Fw.le ok (Fw.new hp)))
theorem Post.dic {p : Addr} {xs : List (Key × V)} {ds : List (D × D)} (ok : EnvOk K S σ H env) (hp : H p = none) (h : RepKV K (er S H) xs ds) :
    Post K S H σ env (.fr (.dict ds)) env (.ref p) (fun a => S a ∨ a = p) (upd H p (.dK xs)) := by
  refine ⟨Fw.newS hp, ok.newS hp, ⟨p, rfl, .inr rfl, fun q => ok.dom p (ok.ch q) hp, fun q => ok.dom p (ok.owns q) hp, ⟨xs, .inl upd_same, h.mono (Fw.le ok (Fw.newS hp))⟩, by rw [upd_same]; exact True.intro⟩, fun d q _ e => ?_⟩
  cases e
  exact hp
/-- ahead of it something else happened -/
theorem Post.after {S0 : Addr → Prop} {H0 : Hp} {env0 : Env} {r : R} {v : V} (f : Fw S0 H0 σ env0 S H σ env) (P : Post K S H σ env r env' v S' H') : Post K S0 H0 σ env0 r env' v S' H' :=
  ⟨f.trans P.fw, P.ok, P.rv, fun d p e1 e2 => none_back f.dm (P.new d p e1 e2)⟩

/-! ### a value's own part: what it is, its contents shared -/
def RepC (K : PySem.W.Frag) (S : Addr → Prop) (H : Hp) (v : V) : D → Prop
  | .list ds => ∃ a xs, v = .ref a ∧ SqL K H a xs ∧ Reps K (er S H) xs ds
  | .dict ds => ∃ a kvs, v = .ref a ∧ Rd H a (.dK kvs) ∧ RepKV K (er S H) kvs ds
  | d => Rep K (er S H) v d
theorem Rep.repC {v : V} {d : D} (h : Rep K (er S H) v d) : RepC K S H v d := by
  cases h with
  | non => exact Rep.non
  | bl b => exact Rep.bl b
  | int i => exact Rep.int i
  | str x => exact Rep.str x
  | lst h1 h2 => exact ⟨_, _, rfl, er_full.sqL h1, h2⟩
  | tup h1 h2 => exact Rep.tup h1 h2
  | dic h1 h2 => exact ⟨_, _, rfl, er_full _ _ h1, h2⟩
theorem Own.repC {p : Addr} {d : D} (o : Own K (er S H) H p d) : RepC K S H (.ref p) d := by
  cases d with
  | list ds => obtain ⟨xs, h1, h2⟩ := o; exact ⟨p, xs, rfl, .inl h1, h2⟩
  | dict ds => obtain ⟨xs, h1, h2⟩ := o; exact ⟨p, xs, rfl, h1, h2⟩
  | _ => exact o.elim
theorem RV.repC {r : R} {v : V} {d : D} (ok : EnvOk K S σ H env) (h : RV K S H σ env r v) (hv : r.val env = some d) : RepC K S H v d := by
  cases r with
  | im e => cases hv; exact Rep.repC h
  | fr e =>
    cases hv
    obtain ⟨p, rfl, _, _, _, ho, _⟩ := h
    exact ho.repC
  | al i =>
    rcases slD_some hv with e | ⟨k, e⟩
    · obtain ⟨w, h1, h2⟩ := ok.im i d e
      have h' : σ[i]? = some (some v) := h
      rw [h'] at h1
      cases h1
      exact h2.repC
    · obtain ⟨p, h1, _, h2, _⟩ := ok.ow i k d e
      have h' : σ[i]? = some (some v) := h
      rw [h'] at h1
      cases h1
      exact h2.repC
theorem RepC.rep {v : V} {d : D} (h : RepC K S H v d) : Rep K H v d := by
  cases d with
  | list ds => obtain ⟨a, xs, rfl, h1, h2⟩ := h; exact .lst h1 (h2.mono er_full)
  | tuple ds => exact Rep.mono er_full h
  | dict ds => obtain ⟨a, xs, rfl, h1, h2⟩ := h; exact .dic h1 (h2.mono er_full)
  | none => exact Rep.mono er_full h
  | bool b => exact Rep.mono er_full h
  | int i => exact Rep.mono er_full h
  | str s => exact Rep.mono er_full h
end

def notStar : Expr → Bool
  | .Starred _ _ => false
  | _ => true
theorem star_cons {e : Expr} {rest : List Expr} {env : PySem.Env} (h : notStar e = true) : starEach (e :: rest) env = (false, eval e env) :: starEach rest env := by
  cases e <;> first | (exact absurd h Bool.false_ne_true) | rw [starEach] <;> exact fun _ _ z => by cases z
/-! ### judgements -/
def AnyE (X : Cx) (e : Expr) : TE := fun σ H Q => ∀ (pins : List (Addr × Obj)) (s : Shared), Inv X pins σ H s → wpAny (model X.prog X.w) X.A (eval e X.env) (EP X pins σ Q) X.xe s
theorem pe_any {X : Cx} {e : Expr} : PE X e (AnyE X e) := ⟨fun pins s σ H Q I h => h pins s I⟩
theorem any_of {X : Cx} {e : Expr} {t : TE} (p : PE X e t) {σ : L2.St} {H : Hp} {Q : VK} (h : t σ H Q) : AnyE X e σ H Q := fun pins s I => p.run pins s σ H Q I h
def AnyT (X : Cx) (e : Expr) : TT := fun σ H Q => ∀ (pins : List (Addr × Obj)) (s : Shared), Inv X pins σ H s → wpAny (model X.prog X.w) X.A (isTrue e X.env (eval e X.env)) (TP X pins σ Q) X.xe s
theorem pt_any {X : Cx} {e : Expr} : PT X e (AnyT X e) := ⟨fun pins s σ H Q I h => h pins s I⟩
theorem anyT_of {X : Cx} {e : Expr} {t : TT} (p : PT X e t) {σ : L2.St} {H : Hp} {Q : Bool → Hp → Prop} (h : t σ H Q) : AnyT X e σ H Q := fun pins s I => p.run pins s σ H Q I h
def AnyW (X : Cx) (e : Expr) : TT := fun σ H Q => ∀ (whole : Sem Value) (pins : List (Addr × Obj)) (s : Shared), Inv X pins σ H s → wpAny (model X.prog X.w) X.A (isTrue e X.env whole) (TP X pins σ Q) X.xe s
theorem pw_any {X : Cx} {e : Expr} : PW X e (AnyW X e) := ⟨fun wh pins s σ H Q I h => h wh pins s I⟩
def AnyA (X : Cx) (es : List Expr) : TA := fun σ H Q => ∀ (pos : Pos) (pins : List (Addr × Obj)) (s : Shared), Inv X pins σ H s → wpAny (model X.prog X.w) X.A (spliced (backTo pos (starEach es X.env))) (AP X pins σ Q) X.xe s
theorem pa_any {X : Cx} {es : List Expr} : PA X es (AnyA X es) := ⟨fun pos pins s σ H Q I h => h pos pins s I⟩
theorem anyA_of {X : Cx} {es : List Expr} {t : TA} (p : PA X es t) {σ : L2.St} {H : Hp} {Q : List V → Hp → Prop} (h : t σ H Q) : AnyA X es σ H Q := fun pos pins s I => p.run pos pins s σ H Q I h

/-- e does what x says -/
structure Snd (Φ : Fns) (X : Cx) (e : Expr) (x : Xp) : Prop where
  run : ∀ env r env', ev Φ x env = some (r, env') → ∀ (S : Addr → Prop) (σ : L2.St) (H : Hp), EnvOk X.K S σ H env →
  ∀ Q : VK, (∀ v S' H', Post X.K S H σ env r env' v S' H' → Q v H') → AnyE X e σ H Q
instance {Φ : Fns} {X : Cx} {e : Expr} {x : Xp} : CoeFun (Snd Φ X e x) fun _ => ∀ env r env', ev Φ x env = some (r, env') → ∀ (S : Addr → Prop) (σ : L2.St) (H : Hp), EnvOk X.K S σ H env →
    ∀ Q : VK, (∀ v S' H', Post X.K S H σ env r env' v S' H' → Q v H') → AnyE X e σ H Q := ⟨Snd.run⟩
/-- .. as a test -/
structure SndT (Φ : Fns) (X : Cx) (e : Expr) (x : Xp) : Prop where
  run : ∀ env k env', tstX Φ x env = some (k, env') → ∀ (S : Addr → Prop) (σ : L2.St) (H : Hp), EnvOk X.K S σ H env →
  ∀ Q : Bool → Hp → Prop, (∀ S' H', Fw S H σ env S' H' σ env' → EnvOk X.K S' σ H' env' → Q k H') → AnyT X e σ H Q
instance {Φ : Fns} {X : Cx} {e : Expr} {x : Xp} : CoeFun (SndT Φ X e x) fun _ => ∀ env k env', tstX Φ x env = some (k, env') → ∀ (S : Addr → Prop) (σ : L2.St) (H : Hp), EnvOk X.K S σ H env →
    ∀ Q : Bool → Hp → Prop, (∀ S' H', Fw S H σ env S' H' σ env' → EnvOk X.K S' σ H' env' → Q k H') → AnyT X e σ H Q := ⟨SndT.run⟩
structure SndW (Φ : Fns) (X : Cx) (e : Expr) (x : Xp) : Prop where
  run : ∀ env k env', tstX Φ x env = some (k, env') → ∀ (S : Addr → Prop) (σ : L2.St) (H : Hp), EnvOk X.K S σ H env →
  ∀ Q : Bool → Hp → Prop, (∀ S' H', Fw S H σ env S' H' σ env' → EnvOk X.K S' σ H' env' → Q k H') → AnyW X e σ H Q
instance {Φ : Fns} {X : Cx} {e : Expr} {x : Xp} : CoeFun (SndW Φ X e x) fun _ => ∀ env k env', tstX Φ x env = some (k, env') → ∀ (S : Addr → Prop) (σ : L2.St) (H : Hp), EnvOk X.K S σ H env →
    ∀ Q : Bool → Hp → Prop, (∀ S' H', Fw S H σ env S' H' σ env' → EnvOk X.K S' σ H' env' → Q k H') → AnyW X e σ H Q := ⟨SndW.run⟩
/-- arguments, stored -/
structure SndS (Φ : Fns) (X : Cx) (es : List Expr) (xs : Xps) : Prop where
  run : ∀ env ds env', evS Φ xs env = some (ds, env') → ∀ (S : Addr → Prop) (σ : L2.St) (H : Hp), EnvOk X.K S σ H env →
  ∀ Q : List V → Hp → Prop, (∀ vs S' H', Fw S H σ env S' H' σ env' → EnvOk X.K S' σ H' env' → Reps X.K (er S' H') vs ds → Q vs H') → AnyA X es σ H Q
instance {Φ : Fns} {X : Cx} {es : List Expr} {xs : Xps} : CoeFun (SndS Φ X es xs) fun _ => ∀ env ds env', evS Φ xs env = some (ds, env') → ∀ (S : Addr → Prop) (σ : L2.St) (H : Hp), EnvOk X.K S σ H env →
    ∀ Q : List V → Hp → Prop, (∀ vs S' H', Fw S H σ env S' H' σ env' → EnvOk X.K S' σ H' env' → Reps X.K (er S' H') vs ds → Q vs H') → AnyA X es σ H Q := ⟨SndS.run⟩
/-- several values at hand -/
inductive RVs (K : PySem.W.Frag) (S : Addr → Prop) (H : Hp) (σ : L2.St) (env : Env) : List R → List V → Prop
  | nil : RVs K S H σ env [] []
  | cons {r : R} {v : V} {rs : List R} {vs : List V} : RV K S H σ env r v → RVs K S H σ env rs vs → RVs K S H σ env (r :: rs) (v :: vs)
/-- the fresh ones among them: new since H0, and each another one -/
def frsA (rs : List R) (vs : List V) : List Addr := (rs.zip vs).filterMap fun p => match p.1, p.2 with
  | .fr _, .ref a => some a
  | _, _ => none
structure PostR (K : PySem.W.Frag) (S0 : Addr → Prop) (H0 : Hp) (σ : L2.St) (env0 : Env) (rs : List R) (env : Env) (vs : List V) (S : Addr → Prop) (H : Hp) : Prop where
  fw : Fw S0 H0 σ env0 S H σ env
  ok : EnvOk K S σ H env
  rv : RVs K S H σ env rs vs
  new : ∀ a ∈ frsA rs vs, H0 a = none
  nd : (frsA rs vs).Nodup
structure SndR (Φ : Fns) (X : Cx) (es : List Expr) (xs : Xps) : Prop where
  run : ∀ env rs env', evR Φ xs env = some (rs, env') → ∀ (S : Addr → Prop) (σ : L2.St) (H : Hp), EnvOk X.K S σ H env →
  ∀ Q : List V → Hp → Prop, (∀ vs S' H', PostR X.K S H σ env rs env' vs S' H' → Q vs H') → AnyA X es σ H Q
instance {Φ : Fns} {X : Cx} {es : List Expr} {xs : Xps} : CoeFun (SndR Φ X es xs) fun _ => ∀ env rs env', evR Φ xs env = some (rs, env') → ∀ (S : Addr → Prop) (σ : L2.St) (H : Hp), EnvOk X.K S σ H env →
    ∀ Q : List V → Hp → Prop, (∀ vs S' H', PostR X.K S H σ env rs env' vs S' H' → Q vs H') → AnyA X es σ H Q := ⟨SndR.run⟩
section
variable {Φ : Fns} {X : Cx} {a b c e : Expr} {xa xb xc x : Xp} {pos : Pos}
theorem RVs.step {K : PySem.W.Frag} {S S' : Addr → Prop} {H H' : Hp} {σ : L2.St} {env env' : Env} (ok : EnvOk K S σ H env) (f : Fw S H σ env S' H' σ env') : ∀ {rs : List R} {vs : List V}, RVs K S H σ env rs vs → RVs K S' H' σ env' rs vs
  | _, _, .nil => .nil
  | _, _, .cons h r => .cons (h.step ok f) (RVs.step ok f r)

/-! ### constants, names -/
theorem snd_int {i j pos} : Snd Φ X (.Constant (.int i) j pos) (.c (.int i)) := .mk fun env r env' h S σ H ok Q q => by
  cases h
  exact any_of pe_int (q _ _ _ (Post.leaf (F := H) ok (.int i) rfl))
theorem snd_bool {b j pos} : Snd Φ X (.Constant (.bool b) j pos) (.c (.bool b)) := .mk fun env r env' h S σ H ok Q q => by
  cases h
  exact any_of pe_bl (q _ _ _ (Post.leaf (F := H) ok (.bl b) rfl))
theorem snd_none {j pos} : Snd Φ X (.Constant .none j pos) (.c .none) := .mk fun env r env' h S σ H ok Q q => by
  cases h
  exact any_of pe_non (q _ _ _ (Post.leaf (F := H) ok .non rfl))
theorem snd_str {x j pos} : Snd Φ X (.Constant (.str x) j pos) (.c (.str x)) := .mk fun env r env' h S σ H ok Q q => by
  cases h
  exact any_of pe_str (q _ _ _ (Post.leaf (F := H) ok (.str x) rfl))
/-- a constant of the module: a text, a number -/
theorem snd_glob {x : Str} {v : V} {u : Value} {d : D} {pos : Pos} (hg : Gl X x) (hm : X.mg x = some u) (r : RelV v u) (hd : Rep X.K (fun _ => none) v d) (l : leaf d = true) (hdb : (x == ("__debug__" : Str)) = false := by decide) : Snd Φ X (.Name x pos) (.c d) := .mk fun env r' env' h S σ H ok Q q => by
  cases h
  exact any_of (pe_glob hg hm r hdb) (q _ _ _ (Post.leaf ok hd l))
theorem snd_v (i : Nat) {x : Str} {pos : Pos} (hN : X.N[i]? = some x := by rfl) (hv : Vis X.env.scope x := by first | exact Or.inl rfl | exact Or.inr (Or.inl rfl) | exact Or.inr (Or.inr rfl)) (hd : (x == ("__debug__" : Str)) = false := by decide)
    (hcd : (x == ("__classdict__" : Str)) = false := by decide) : Snd Φ X (.Name x pos) (.v i) := .mk fun env r env' h S σ H ok Q q => by
  simp only [ev] at h
  cases e : env[i]? with
  | none => rw [e] at h; cases h
  | some s =>
    rw [e] at h
    cases s with
    | un => cases h
    | im d =>
      cases h
      obtain ⟨v, h1, h2⟩ := ok.im i d e
      exact any_of (pe_var hN hv hd hcd) ⟨v, h1, q _ _ _ (Post.same ok h2 fun _ z => by cases z)⟩
    | ow k d =>
      cases h
      obtain ⟨p, h1, h2⟩ := ok.ow i k d e
      exact any_of (pe_var hN hv hd hcd) ⟨_, h1, q _ _ _ (Post.same ok h1 fun _ z => by cases z)⟩

/-! ### operators -/
/-- an operation on values does what g says -/
def OpD (X : Cx) (f : Value → Value → Sem Value) (g : D → D → Option R) : Prop := ∀ dx dy r, g dx dy = some r → ∀ (pins : List (Addr × Obj)) (s : Shared) (σ : L2.St) (H : Hp) (S : Addr → Prop) (env : Env) (x y : V) (v u : Value) (Q : VK),
  Inv X pins σ H s → RelV x v → RelV y u → EnvOk X.K S σ H env → RepC X.K S H x dx → RepC X.K S H y dy → (∀ z S' H', Post X.K S H σ env r env z S' H' → Q z H') → wpAny (model X.prog X.w) X.A (f v u) (EP X pins σ Q) X.xe s
theorem seq2 {Q : VK} {r1 r2 : R} {x y : V} {σ : L2.St} {H : Hp} {S : Addr → Prop} {env en1 en2 : Env} (ha : Snd Φ X a xa) (hb : Snd Φ X b xb) (e1 : ev Φ xa env = some (r1, en1)) (e2 : ev Φ xb en1 = some (r2, en2)) (ok : EnvOk X.K S σ H env)
    {R : V → V → Hp → Prop} (k : ∀ x y S2 H2, Fw S H σ env S2 H2 σ en2 → EnvOk X.K S2 σ H2 en2 → RV X.K S2 H2 σ en2 r1 x → RV X.K S2 H2 σ en2 r2 y → R x y H2) : AnyE X a σ H fun x H1 => AnyE X b σ H1 fun y H2 => R x y H2 :=
  ha env r1 en1 e1 S σ H ok _ fun x S1 H1 P1 => hb en1 r2 en2 e2 S1 σ H1 P1.ok _ fun y S2 H2 P2 => k x y S2 H2 (P1.fw.trans P2.fw) P2.ok (P1.rv.step P1.ok P2.fw) P2.rv
theorem snd_bin {o : Operator} (hop : OpD X (binaryOp o) fun x y => (binD o x y).map newR) (ha : Snd Φ X a xa) (hb : Snd Φ X b xb) : Snd Φ X (.BinOp a o b pos) (.bin o xa xb) := .mk fun env r env' h S σ H ok Q q => by
  simp only [ev] at h
  cases e1 : ev Φ xa env with
  | none => rw [e1] at h; cases h
  | some p1 =>
    obtain ⟨r1, en1⟩ := p1
    rw [e1] at h
    dsimp only at h
    cases e2 : ev Φ xb en1 with
    | none => rw [e2] at h; cases h
    | some p2 =>
      obtain ⟨r2, en2⟩ := p2
      rw [e2] at h
      dsimp only at h
      cases f1 : r1.val en2 with
      | none => rw [f1] at h; cases h
      | some dx =>
        cases f2 : r2.val en2 with
        | none => rw [f1, f2] at h; cases h
        | some dy =>
          rw [f1, f2] at h
          dsimp only at h
          cases g : binD o dx dy with
          | none => rw [g] at h; cases h
          | some z =>
            rw [g] at h
            cases h
            intro pins s I
            refine wpAny_BinOp (binT pe_any pe_any I (seq2 (R := fun x y H2 => ∃ S2, Fw S H σ env S2 H2 σ env' ∧ EnvOk X.K S2 σ H2 env' ∧ RV X.K S2 H2 σ env' r1 x ∧ RV X.K S2 H2 σ env' r2 y) (x := .non) (y := .non) (Q := Q) ha hb e1 e2 ok fun x y S2 H2 h1 h2 h3 h4 => ⟨S2, h1, h2, h3, h4⟩) fun v u s2 x y H2 I2 rx ry hR => ?_)
            obtain ⟨S2, h1, h2, h3, h4⟩ := hR
            exact hop dx dy (newR z) (by simp only [g, Option.map_some]) pins s2 σ H2 S2 env' x y v u Q I2 rx ry h2 (h3.repC h2 f1) (h4.repC h2 f2) fun z S' H' P => q z S' H' (P.after h1)
theorem snd_cmp {o : CmpOp} (hop : OpD X (compareOp o) fun x y => (cmpD o x y).map fun b => .im (.bool b)) (hm : behindInMarks o b = false) (ha : Snd Φ X a xa) (hb : Snd Φ X b xb) : Snd Φ X (.Compare a [o] [b] pos) (.cmp o xa xb) := .mk fun env r env' h S σ H ok Q q => by
  simp only [ev] at h
  cases e1 : ev Φ xa env with
  | none => rw [e1] at h; cases h
  | some p1 =>
    obtain ⟨r1, en1⟩ := p1
    rw [e1] at h
    dsimp only at h
    cases e2 : ev Φ xb en1 with
    | none => rw [e2] at h; cases h
    | some p2 =>
      obtain ⟨r2, en2⟩ := p2
      rw [e2] at h
      dsimp only at h
      cases f1 : r1.val en2 with
      | none => rw [f1] at h; cases h
      | some dx =>
        cases f2 : r2.val en2 with
        | none => rw [f1, f2] at h; cases h
        | some dy =>
          rw [f1, f2] at h
          dsimp only at h
          cases g : cmpD o dx dy with
          | none => rw [g] at h; cases h
          | some z =>
            rw [g] at h
            cases h
            intro pins s I
            refine wpAny_Compare1 (binT pe_any pe_any I (seq2 (R := fun x y H2 => ∃ S2, Fw S H σ env S2 H2 σ env' ∧ EnvOk X.K S2 σ H2 env' ∧ RV X.K S2 H2 σ env' r1 x ∧ RV X.K S2 H2 σ env' r2 y) (x := .non) (y := .non) (Q := Q) ha hb e1 e2 ok fun x y S2 H2 h1 h2 h3 h4 => ⟨S2, h1, h2, h3, h4⟩) fun v u s2 x y H2 I2 rx ry hR => ?_) hm
            obtain ⟨S2, h1, h2, h3, h4⟩ := hR
            exact hop dx dy (.im (.bool z)) (by simp only [g, Option.map_some]) pins s2 σ H2 S2 env' x y v u Q I2 rx ry h2 (h3.repC h2 f1) (h4.repC h2 f2) fun z S' H' P => q z S' H' (P.after h1)
end
end DI

set_option maxRecDepth 100000
/-! DI4: the operators. -/
namespace DI
open PySem PySem.Spec PyProof.Rows L2
section
variable {K : PySem.W.Frag} {S S' : Addr → Prop} {H H' F : Hp} {σ : L2.St} {env env' : Env}
theorem lim_line {n : Nat} (h : n ≤ lim) : n ≤ sizeLine := by
  rw [sizeLine_eq]
  unfold lim at h
  omega
theorem Rep.int_inv {v : V} {i : Int} (h : Rep K F v (.int i)) : v = .int i := by cases h; rfl
theorem Rep.str_inv {v : V} {i : Str} (h : Rep K F v (.str i)) : v = .str i := by cases h; rfl
theorem Rep.bl_inv {v : V} {i : Bool} (h : Rep K F v (.bool i)) : v = .bl i := by cases h; rfl
theorem Rep.non_inv {v : V} (h : Rep K F v .none) : v = .non := by cases h; rfl
theorem Rep.tup_inv {v : V} {ds : List D} (h : Rep K F v (.tuple ds)) : ∃ a xs, v = .ref a ∧ SqT K F a xs ∧ Reps K F xs ds := by
  cases h with
  | tup h1 h2 => exact ⟨_, _, rfl, h1, h2⟩
mutual
theorem Rep.dp : ∀ {v : V} {d : D}, Rep K F v d → d.canLay0 = true → Dp K F v d
  | _, _, .non, _ => .non
  | _, _, .bl b, _ => .bl b
  | _, _, .int i, _ => .int i
  | _, _, .str x, _ => .str x
  | _, _, .lst h r, e => .lst h (Reps.dp r (by simpa [PyData.canLay0] using e))
  | _, _, .tup h r, e => .tup h (Reps.dp r (by simpa [PyData.canLay0] using e))
  | _, _, .dic h r, e => by simp [PyData.canLay0] at e
theorem Reps.dp : ∀ {v : List V} {d : List D}, Reps K F v d → PyData.canLayAll0 d = true → DpAll K F v d
  | _, _, .nil, _ => .nil
  | _, _, .cons h r, e => by
    rw [PyData.canLayAll0, Bool.and_eq_true] at e
    have e' := e
    exact .cons (Rep.dp h e'.1) (Reps.dp r e'.2)
end
theorem flatV_of {v : V} {d : D} (h : Rep K F v d) (l : flatD d = true) : flatV v = true := by
  cases h <;> first | rfl | cases l
theorem eqV_of {G : Hp} {v w : V} {d e : D} (h : Rep K F v d) (h' : Rep K G w e) (l : flatD d = true) (l' : flatD e = true) : eqV v w = PyData.eqv d e := by
  cases h <;> cases h' <;> first | rfl | cases l | cases l' | simp [eqV, PyData.eqv]
theorem flat_all : ∀ {vs : List V} {ds : List D}, Reps K F vs ds → ds.all flatD = true → vs.all flatV = true
  | _, _, .nil, _ => rfl
  | _, _, .cons h r, l => by
    rw [List.all_cons, Bool.and_eq_true] at l ⊢
    exact ⟨flatV_of h l.1, flat_all r l.2⟩
theorem inV_of {G : Hp} {v : V} {d : D} (h : Rep K F v d) (l : flatD d = true) : ∀ {vs : List V} {ds : List D}, Reps K G vs ds → ds.all flatD = true → inV v vs = ds.any fun z => PyData.eqv z d
  | _, _, .nil, _ => rfl
  | _, _, .cons (v := w) (vs := vs) h' r, l' => by
    rw [List.all_cons, Bool.and_eq_true] at l'
    have ih := inV_of h l r l'.2
    unfold inV at ih ⊢
    rw [List.any_cons, List.any_cons, ih, eqV_of h' h l'.1 l]
end

section
variable {X : Cx}
/-! ### arithmetic -/
theorem opd_int {f : Value → Value → Sem Value} {C : Int → Int → Prop} {g : Int → Int → Int} (h : OpR X f (rI C fun i j => .int (g i j))) {pins : List (Addr × Obj)} {s : Shared} {σ : L2.St} {H : Hp} {S : Addr → Prop} {env : Env} {x y : V} {v u : Value} {Q : VK} {i j : Int}
    (I : Inv X pins σ H s) (rx : RelV x v) (ry : RelV y u) (ok : EnvOk X.K S σ H env) (hx : RepC X.K S H x (.int i)) (hy : RepC X.K S H y (.int j)) (hc : C i j) (q : ∀ z S' H', Post X.K S H σ env (.im (.int (g i j))) env z S' H' → Q z H') : wpAny (model X.prog X.w) X.A (f v u) (EP X pins σ Q) X.xe s :=
  h pins s σ H x y v u Q I rx ry ⟨i, j, Rep.int_inv hx, Rep.int_inv hy, hc, q _ _ _ (Post.leaf (F := H) ok (.int _) rfl)⟩
theorem opd_int0 {f : Value → Value → Sem Value} {g : Int → Int → Int} (h : OpR X f (rI0 fun i j => .int (g i j))) {pins : List (Addr × Obj)} {s : Shared} {σ : L2.St} {H : Hp} {S : Addr → Prop} {env : Env} {x y : V} {v u : Value} {Q : VK} {i j : Int}
    (I : Inv X pins σ H s) (rx : RelV x v) (ry : RelV y u) (ok : EnvOk X.K S σ H env) (hx : RepC X.K S H x (.int i)) (hy : RepC X.K S H y (.int j)) (q : ∀ z S' H', Post X.K S H σ env (.im (.int (g i j))) env z S' H' → Q z H') : wpAny (model X.prog X.w) X.A (f v u) (EP X pins σ Q) X.xe s :=
  h pins s σ H x y v u Q I rx ry ⟨i, j, Rep.int_inv hx, Rep.int_inv hy, q _ _ _ (Post.leaf (F := H) ok (.int _) rfl)⟩
theorem opd_sub : OpD X (binaryOp .Sub) fun x y => (binD .Sub x y).map newR := by
  intro dx dy r h pins s σ H S env x y v u Q I rx ry ok hx hy q
  cases dx <;> cases dy <;> first | cases h | skip
  exact opd_int0 op_sub I rx ry ok hx hy q
theorem opd_mod : OpD X (binaryOp .Mod) fun x y => (binD .Mod x y).map newR := by
  intro dx dy r h pins s σ H S env x y v u Q I rx ry ok hx hy q
  cases dx <;> cases dy <;> first | cases h | skip
  simp only [binD] at h
  split at h
  · rename_i hc
    cases h
    exact opd_int op_mod I rx ry ok hx hy hc q
  · cases h
theorem opd_fdiv : OpD X (binaryOp .FloorDiv) fun x y => (binD .FloorDiv x y).map newR := by
  intro dx dy r h pins s σ H S env x y v u Q I rx ry ok hx hy q
  cases dx <;> cases dy <;> first | cases h | skip
  simp only [binD] at h
  split at h
  · rename_i hc
    cases h
    rw [Bool.and_eq_true] at hc
    exact opd_int op_fdiv I rx ry ok hx hy ⟨of_decide_eq_true hc.1, of_decide_eq_true hc.2⟩ q
  · cases h
theorem opd_pow : OpD X (binaryOp .Pow) fun x y => (binD .Pow x y).map newR := by
  intro dx dy r h pins s σ H S env x y v u Q I rx ry ok hx hy q
  cases dx <;> cases dy <;> first | cases h | skip
  simp only [binD] at h
  split at h
  · rename_i hc
    cases h
    rw [Bool.and_eq_true, Bool.and_eq_true] at hc
    exact opd_int op_pow I rx ry ok hx hy ⟨of_decide_eq_true hc.1.1, of_decide_eq_true hc.1.2, of_decide_eq_true hc.2⟩ q
  · cases h
theorem small64_iff {i : Int} : small64 i = true ↔ (-(2 ^ 64) < i ∧ i < 2 ^ 64) := by
  unfold small64
  rw [Bool.and_eq_true, decide_eq_true_iff, decide_eq_true_iff]
theorem list_isList {pins : List (Addr × Obj)} {s : Shared} {σ : L2.St} {H : Hp} {a : Addr} {xs : List V} (I : Inv X pins σ H s) (h : SqL X.K H a xs) : ∃ its : List Value, Vals xs its ∧ s.heap.IsList a its.toArray ∧ xs.length ≤ sizeLine := by
  obtain ⟨its, r, p, z⟩ := I.list h
  exact ⟨its, r, p.isList, z⟩
/-- a list's copies one behind another -/
theorem flatten_replicate_length {α : Type} (xs : List α) (n : Nat) : ((List.replicate n xs).flatten).length = xs.length * n := by
  induction n with
  | zero => simp
  | succ n ih => rw [List.replicate_succ, List.flatten_cons, List.length_append, ih, Nat.mul_succ, Nat.add_comm]
theorem Reps.rep {K : PySem.W.Frag} {F : Hp} {v : List V} {d : List D} (h : Reps K F v d) : ∀ n : Nat, Reps K F (List.replicate n v).flatten (List.replicate n d).flatten
  | 0 => .nil
  | n + 1 => by
    rw [List.replicate_succ, List.replicate_succ, List.flatten_cons, List.flatten_cons]
    exact h.append (Reps.rep h n)
theorem opd_add : OpD X (binaryOp .Add) fun x y => (binD .Add x y).map newR := by
  intro dx dy r h pins s σ H S env x y v u Q I rx ry ok hx hy q
  cases dx with
  | int i =>
    cases dy <;> first | cases h | skip
    · rename_i b
      cases (Rep.bl_inv hy)
      cases (Rep.int_inv hx)
      refine op_add_ib pins s σ H _ _ v u Q I rx ry ⟨i, b, rfl, rfl, ?_⟩
      exact q _ _ _ (Post.leaf (F := H) ok (.int _) rfl)
    · exact opd_int0 op_add I rx ry ok hx hy q
  | str i =>
    cases dy <;> first | cases h | skip
    rename_i j
    simp only [binD] at h
    split at h
    · rename_i hc
      cases h
      cases (Rep.str_inv hx)
      cases (Rep.str_inv hy)
      exact op_add_str pins s σ H _ _ v u Q I rx ry ⟨i, j, rfl, rfl, lim_line hc, q _ _ _ (Post.leaf (F := H) ok (.str _) rfl)⟩
    · cases h
  | list xs =>
    cases dy <;> first | cases h | skip
    rename_i ys
    simp only [binD] at h
    split at h
    · rename_i hc
      cases h
      obtain ⟨a, vs, rfl, h1, h2⟩ := hx
      obtain ⟨b, ws, rfl, h3, h4⟩ := hy
      cases rx
      cases ry
      obtain ⟨its, r1, l1, z1⟩ := list_isList I h1
      obtain ⟨its2, r2, l2, z2⟩ := list_isList I h3
      have hl := h2.length
      have hl' := h4.length
      have hr := r1.length
      have hr' := r2.length
      have hz : vs.length + ws.length ≤ sizeLine := lim_line (by omega)
      obtain ⟨⟨cls, dd, data, sl⟩, ho, hc1, n, hd⟩ := id l1
      obtain ⟨⟨cls2, dd2, data2, sl2⟩, ho2, hc2, n2, hd2⟩ := id l2
      simp only at hc1 hd hc2 hd2
      subst hc1 hd hc2 hd2
      refine concat_meets ⟨_, ho, rfl⟩ ⟨_, ho2, rfl⟩ noFill_list_add seq_list_add PySem.F.slot_list_add PySem.F.entry_list_add (PySem.F.args_list_add_2 _ _) (list_addW a b its.toArray its2.toArray n n2 dd dd2 sl sl2 (by simp only [List.size_toArray]; omega)) ⟨ho, ho2, ?_⟩
      have ea : its.toArray ++ its2.toArray = (its ++ its2).toArray := by simp
      rw [ea]
      exact ⟨.ref _, _, I.lnew (t' := s.toks) (r1.append r2) (by rw [List.length_append]; omega), rfl, q _ _ _ (Post.lst ok I.fresh (h2.append h4))⟩
    · cases h
  | tuple xs =>
    cases dy <;> first | cases h | skip
    rename_i ys
    simp only [binD] at h
    split at h
    · rename_i hc
      cases h
      obtain ⟨a, vs, rfl, h1, h2⟩ := Rep.tup_inv hx
      obtain ⟨b, ws, rfl, h3, h4⟩ := Rep.tup_inv hy
      have hl := h2.length
      have hl' := h4.length
      refine op_catA pins s σ H _ _ v u Q I rx ry ⟨a, b, vs, ws, rfl, rfl, er_full.sqT h1, er_full.sqT h3, lim_line (by omega), fun e => ?_, fun _ e => ?_, fun _ _ p hp => ?_⟩
      · subst e
        cases h2
        exact q _ _ _ (Post.same ok (show Rep _ _ _ _ from .tup h3 h4) fun _ z => by cases z)
      · subst e
        cases h4
        exact q _ _ _ (Post.same ok (show Rep _ _ _ _ from .tup h1 (by rw [List.append_nil]; exact h2)) fun _ z => by cases z)
      · exact q _ _ _ (Post.tup ok hp (h2.append h4))
    · cases h
  | _ => cases dy <;> cases h
theorem opd_mul : OpD X (binaryOp .Mult) fun x y => (binD .Mult x y).map newR := by
  intro dx dy r h pins s σ H S env x y v u Q I rx ry ok hx hy q
  cases dx with
  | int i =>
    cases dy <;> first | cases h | skip
    rename_i j
    simp only [binD] at h
    split at h
    · rename_i hc
      cases h
      refine opd_int op_mul I rx ry ok hx hy ?_ q
      rw [Bool.or_eq_true, small64_iff, small64_iff] at hc
      exact hc
    · cases h
  | _ => cases dy <;> cases h

/-! ### comparisons -/
theorem opd_bl {f : Value → Value → Sem Value} {r : R2} (h : OpR X f r) {pins : List (Addr × Obj)} {s : Shared} {σ : L2.St} {H : Hp} {S : Addr → Prop} {env : Env} {x y : V} {v u : Value} {Q : VK} {b : Bool}
    (I : Inv X pins σ H s) (rx : RelV x v) (ry : RelV y u) (ok : EnvOk X.K S σ H env) (q : ∀ z S' H', Post X.K S H σ env (.im (.bool b)) env z S' H' → Q z H') (hr : Q (.bl b) H → r x y H Q) : wpAny (model X.prog X.w) X.A (f v u) (EP X pins σ Q) X.xe s :=
  h pins s σ H x y v u Q I rx ry (hr (q _ _ _ (Post.leaf (F := H) ok (.bl _) rfl)))
abbrev mkB (o : CmpOp) : D → D → Option R := fun x y => (cmpD o x y).map fun b => .im (.bool b)
theorem opd_eq (hu : X.A.units + 65 < cLine) : OpD X (compareOp .Eq) (mkB .Eq) := by
  intro dx dy r h pins s σ H S env x y v u Q I rx ry ok hx hy q
  simp only [mkB, cmpD] at h
  split at h
  · rename_i hc
    cases h
    rw [Bool.and_eq_true] at hc
    exact opd_bl (op_eqD (by omega)) I rx ry ok q fun h => ⟨dx, dy, hx.rep.dp (SeqAt.canLay_of_shaped hc.1), hy.rep.dp (SeqAt.canLay_of_shaped hc.2), hc.1, hc.2, h⟩
  · cases h
theorem opd_ne (hu : X.A.units + 65 < cLine) : OpD X (compareOp .NotEq) (mkB .NotEq) := by
  intro dx dy r h pins s σ H S env x y v u Q I rx ry ok hx hy q
  simp only [mkB, cmpD] at h
  split at h
  · rename_i hc
    cases h
    rw [Bool.and_eq_true] at hc
    exact opd_bl (op_neD (by omega)) I rx ry ok q fun h => ⟨dx, dy, hx.rep.dp (SeqAt.canLay_of_shaped hc.1), hy.rep.dp (SeqAt.canLay_of_shaped hc.2), hc.1, hc.2, h⟩
  · cases h
theorem opd_lt : OpD X (compareOp .Lt) (mkB .Lt) := by
  intro dx dy r h pins s σ H S env x y v u Q I rx ry ok hx hy q
  cases dx <;> cases dy <;> first | cases h | skip
  · exact opd_bl op_lt I rx ry ok q fun h => ⟨_, _, Rep.int_inv hx, Rep.int_inv hy, h⟩
  · exact opd_bl op_lt_str I rx ry ok q fun h => ⟨_, _, Rep.str_inv hx, Rep.str_inv hy, h⟩
theorem opd_gt : OpD X (compareOp .Gt) (mkB .Gt) := by
  intro dx dy r h pins s σ H S env x y v u Q I rx ry ok hx hy q
  cases dx <;> cases dy <;> first | cases h | skip
  · exact opd_bl op_gt I rx ry ok q fun h => ⟨_, _, Rep.int_inv hx, Rep.int_inv hy, h⟩
  · exact opd_bl op_gt_str I rx ry ok q fun h => ⟨_, _, Rep.str_inv hx, Rep.str_inv hy, h⟩
theorem opd_le : OpD X (compareOp .LtE) (mkB .LtE) := by
  intro dx dy r h pins s σ H S env x y v u Q I rx ry ok hx hy q
  cases dx <;> cases dy <;> first | cases h | skip
  exact opd_bl op_le I rx ry ok q fun h => ⟨_, _, Rep.int_inv hx, Rep.int_inv hy, h⟩
theorem opd_ge : OpD X (compareOp .GtE) (mkB .GtE) := by
  intro dx dy r h pins s σ H S env x y v u Q I rx ry ok hx hy q
  cases dx <;> cases dy <;> first | cases h | skip
  exact opd_bl op_ge I rx ry ok q fun h => ⟨_, _, Rep.int_inv hx, Rep.int_inv hy, h⟩
theorem isN_of {K : PySem.W.Frag} {F : Hp} {x : V} {d : D} (h : Rep K F x d) : decide (x = .non) = match d with | .none => true | _ => false := by
  cases h <;> rfl
theorem opd_is : OpD X (compareOp .Is) (mkB .Is) := by
  intro dx dy r h pins s σ H S env x y v u Q I rx ry ok hx hy q
  cases dy with
  | none =>
    cases (Rep.non_inv hy)
    have e := isN_of hx.rep
    refine opd_bl op_isN I rx ry ok (b := decide (x = .non)) (fun z S' H' P => q z S' H' ?_) fun h => ⟨rfl, h⟩
    cases h
    rw [e] at P
    cases dx <;> exact P
  | bool b =>
    cases dx <;> first | cases h | skip
    rename_i a
    refine opd_bl op_isBl I rx ry ok q fun h => ⟨a, b, Rep.bl_inv hx, Rep.bl_inv hy, ?_⟩
    rw [show decide (a = b) = (a == b) by cases a <;> cases b <;> rfl]
    exact h
  | _ => cases dx <;> cases h
theorem opd_isnot : OpD X (compareOp .IsNot) (mkB .IsNot) := by
  intro dx dy r h pins s σ H S env x y v u Q I rx ry ok hx hy q
  cases dy with
  | none =>
    cases (Rep.non_inv hy)
    have e := isN_of hx.rep
    refine opd_bl op_notN I rx ry ok (b := !decide (x = .non)) (fun z S' H' P => q z S' H' ?_) fun h => ⟨rfl, h⟩
    cases h
    rw [e] at P
    cases dx <;> exact P
  | bool b =>
    cases dx <;> first | cases h | skip
    rename_i a
    refine opd_bl op_notBl I rx ry ok q fun h => ⟨a, b, Rep.bl_inv hx, Rep.bl_inv hy, ?_⟩
    rw [show decide (a = b) = (a == b) by cases a <;> cases b <;> rfl]
    exact h
  | _ => cases dx <;> cases h
/-- one sign -/
theorem sign_of {c : Str} (h : c.length = 1) : c = ⟨#[c.cps.getD 0 0]⟩ := by
  obtain ⟨⟨l⟩⟩ := c
  have h' : l.length = 1 := h
  match l, h' with
  | [k], _ => rfl
/-- in, of anything but a dict -/
theorem in_seq (hu : X.A.units + 65 < cLine) {dx dy : D} {b : Bool} (h : inD dx dy = some b) (hd : ∀ kvs, dy ≠ .dict kvs) {pins : List (Addr × Obj)} {s : Shared} {σ : L2.St} {H : Hp} {S : Addr → Prop} {x y : V} {v u : Value} {Q : VK}
    (I : Inv X pins σ H s) (rx : RelV x v) (ry : RelV y u) (hx : RepC X.K S H x dx) (hy : RepC X.K S H y dy) (q : Q (.bl b) H) : wpAny (model X.prog X.w) X.A (compareOp .In v u) (EP X pins σ Q) X.xe s := by
  cases dy with
  | list ds =>
    simp only [inD] at h
    split at h
    · rename_i hc
      cases h
      rw [Bool.and_eq_true] at hc
      exact op_inD hu pins s σ H x y v u Q I rx ry ⟨dx, ds, hx.rep.dp (SeqAt.canLay_of_shaped hc.1), hy.rep.dp (SeqAt.canLay_of_shaped hc.2), hc.1, hc.2, q⟩
    · cases h
  | tuple ds =>
    simp only [inD] at h
    split at h
    · rename_i hc
      cases h
      rw [Bool.and_eq_true] at hc
      obtain ⟨a, vs, rfl, h1, h2⟩ := Rep.tup_inv hy
      refine op_in_seq pins s σ H x _ v u Q I rx ry ⟨a, vs, rfl, .inr (er_full.sqT h1), flatV_of hx.rep hc.1, flat_all h2 hc.2, ?_⟩
      rw [if_neg Bool.false_ne_true, inV_of hx.rep hc.1 h2 hc.2]
      exact q
    · cases h
  | str z =>
    cases dx <;> first | cases h | skip
    rename_i c
    simp only [inD] at h
    split at h
    · rename_i hc
      cases h
      cases (Rep.str_inv hx)
      cases (Rep.str_inv hy)
      have e := sign_of hc
      refine op_in_sign pins s σ H _ _ v u Q I rx ry ⟨c.cps.getD 0 0, z, ?_, rfl, q⟩
      rw [← e]
    · cases h
  | dict kvs => exact absurd rfl (hd kvs)
  | _ => cases h
theorem notIn_seq (hu : X.A.units + 65 < cLine) {dx dy : D} {b : Bool} (h : inD dx dy = some b) (hd : ∀ kvs, dy ≠ .dict kvs) {pins : List (Addr × Obj)} {s : Shared} {σ : L2.St} {H : Hp} {S : Addr → Prop} {x y : V} {v u : Value} {Q : VK}
    (I : Inv X pins σ H s) (rx : RelV x v) (ry : RelV y u) (hx : RepC X.K S H x dx) (hy : RepC X.K S H y dy) (q : Q (.bl (!b)) H) : wpAny (model X.prog X.w) X.A (compareOp .NotIn v u) (EP X pins σ Q) X.xe s := by
  cases dy with
  | list ds =>
    simp only [inD] at h
    split at h
    · rename_i hc
      cases h
      rw [Bool.and_eq_true] at hc
      exact op_notInD hu pins s σ H x y v u Q I rx ry ⟨dx, ds, hx.rep.dp (SeqAt.canLay_of_shaped hc.1), hy.rep.dp (SeqAt.canLay_of_shaped hc.2), hc.1, hc.2, q⟩
    · cases h
  | tuple ds =>
    simp only [inD] at h
    split at h
    · rename_i hc
      cases h
      rw [Bool.and_eq_true] at hc
      obtain ⟨a, vs, rfl, h1, h2⟩ := Rep.tup_inv hy
      refine op_notIn_seq pins s σ H x _ v u Q I rx ry ⟨a, vs, rfl, .inr (er_full.sqT h1), flatV_of hx.rep hc.1, flat_all h2 hc.2, ?_⟩
      rw [if_pos rfl, inV_of hx.rep hc.1 h2 hc.2]
      exact q
    · cases h
  | str z =>
    cases dx <;> first | cases h | skip
    rename_i c
    simp only [inD] at h
    split at h
    · rename_i hc
      cases h
      cases (Rep.str_inv hx)
      cases (Rep.str_inv hy)
      have e := sign_of hc
      refine op_notIn_sign pins s σ H _ _ v u Q I rx ry ⟨c.cps.getD 0 0, z, ?_, rfl, q⟩
      rw [← e]
    · cases h
  | dict kvs => exact absurd rfl (hd kvs)
  | _ => cases h
end
end DI

set_option maxRecDepth 100000
/-! DI5: expressions: displays, tests, subscripts, slices, built-in functions. -/
namespace DI
open PySem PySem.Spec PyProof.Rows L2
section
variable {Φ : Fns} {X : Cx} {a b c e lo hi : Expr} {es rest : List Expr} {xa xb xc x xl xh : Xp} {xs : Xps} {pos p2 : Pos}
/-! ### the evaluator, opened -/
theorem ev_inv1 {env env' : Env} {r : R} {f : R → Env → Option (R × Env)} (h : (match ev Φ xa env with
    | some (ra, env1) => f ra env1
    | none => none) = some (r, env')) : ∃ ra env1, ev Φ xa env = some (ra, env1) ∧ f ra env1 = some (r, env') := by
  cases e1 : ev Φ xa env with
  | none => rw [e1] at h; cases h
  | some p1 => exact ⟨p1.1, p1.2, rfl, by rw [e1] at h; exact h⟩
theorem tru_of {K : PySem.W.Frag} {S : Addr → Prop} {H : Hp} {v : V} {d : D} {k : Bool} (h : RepC K S H v d) (ht : truthD d = some k) : TruV K v H k := by
  cases d with
  | none => cases (Rep.non_inv h); cases ht; rfl
  | bool b => cases (Rep.bl_inv h); cases ht; rfl
  | int i => cases (Rep.int_inv h); cases ht; rfl
  | str s =>
    cases (Rep.str_inv h)
    simp only [truthD] at ht
    split at ht
    · rename_i hc
      cases ht
      exact ⟨lim_line hc, rfl⟩
    · cases ht
  | list ds =>
    obtain ⟨a, xs, rfl, h1, h2⟩ := h
    cases ht
    refine .inl ⟨xs, h1, ?_⟩
    cases h2 <;> rfl
  | tuple ds =>
    obtain ⟨a, xs, rfl, h1, h2⟩ := Rep.tup_inv h
    cases ht
    refine .inr (.inl ⟨xs, er_full.sqT h1, ?_⟩)
    cases h2 <;> rfl
  | dict ds => cases ht

/-! ### displays -/
theorem sndS_nil : SndS Φ X [] .nil := .mk fun env ds env' h S σ H ok Q q => by
  simp only [evS] at h
  cases h
  exact anyA_of pa_nil (q _ _ _ Fw.refl ok .nil)
theorem sndS_cons (he : Snd Φ X e x) (hes : SndS Φ X es xs) (hs : starEach (e :: es) X.env = (false, eval e X.env) :: starEach es X.env := by exact star_cons rfl) : SndS Φ X (e :: es) (.cons x xs) := .mk fun env ds env' h S σ H ok Q q => by
  simp only [evS] at h
  cases e1 : ev Φ x env with
  | none => rw [e1] at h; cases h
  | some p1 =>
    obtain ⟨r, en1⟩ := p1
    rw [e1] at h
    dsimp only at h
    cases e2 : sto r en1 with
    | none => rw [e2] at h; cases h
    | some p2 =>
      obtain ⟨d, en2⟩ := p2
      rw [e2] at h
      dsimp only at h
      cases e3 : evS Φ xs en2 with
      | none => rw [e3] at h; cases h
      | some p3 =>
        obtain ⟨ds', en3⟩ := p3
        rw [e3] at h
        cases h
        refine anyA_of (pa_cons pe_any pa_any hs) (he env r en1 e1 S σ H ok _ fun v S1 H1 P => ?_)
        obtain ⟨S2, f2, ok2, rp⟩ := P.sto e2
        exact hes en2 ds' env' e3 S2 σ H1 ok2 _ fun vs S3 H3 f3 ok3 rs => q _ _ _ (f2.trans f3) ok3 (.cons (rp.mono (f3.le ok2)) rs)
theorem sndR_nil : SndR Φ X [] .nil := .mk fun env ds env' h S σ H ok Q q => by
  simp only [evR] at h
  cases h
  exact anyA_of pa_nil (q _ _ _ ⟨Fw.refl, ok, .nil, fun _ h => (by cases h), .nil⟩)
theorem RV.fr_addr {K : PySem.W.Frag} {S : Addr → Prop} {H : Hp} {σ : L2.St} {env : Env} {r : R} {v : V} {rs : List R} {vs : List V} (h : RV K S H σ env r v) : frsA (r :: rs) (v :: vs) = (match r, v with | .fr _, .ref a => [a] | _, _ => []) ++ frsA rs vs := by
  cases r with
  | im d => rfl
  | al i => rfl
  | fr d =>
    obtain ⟨p, rfl, _⟩ := h
    rfl
theorem frsA_dom {K : PySem.W.Frag} {S : Addr → Prop} {H : Hp} {σ : L2.St} {env : Env} (ok : EnvOk K S σ H env) : ∀ {rs : List R} {vs : List V}, RVs K S H σ env rs vs → ∀ a ∈ frsA rs vs, S a
  | _, _, .nil, _, h => by cases h
  | _, _, .cons (r := r) (v := v) (rs := rs) (vs := vs) h t, a, ha => by
    rw [h.fr_addr] at ha
    rcases List.mem_append.mp ha with ha | ha
    · cases r with
      | im d => cases ha
      | al i => cases ha
      | fr d =>
        obtain ⟨p, rfl, hs, _⟩ := h
        have e : a = p := by simpa using ha
        rw [e]
        exact hs
    · exact frsA_dom ok t a ha
theorem sndR_cons (he : Snd Φ X e x) (hes : SndR Φ X es xs) (hs : starEach (e :: es) X.env = (false, eval e X.env) :: starEach es X.env := by exact star_cons rfl) : SndR Φ X (e :: es) (.cons x xs) := .mk fun env ds env' h S σ H ok Q q => by
  simp only [evR] at h
  cases e1 : ev Φ x env with
  | none => rw [e1] at h; cases h
  | some p1 =>
    obtain ⟨r, en1⟩ := p1
    rw [e1] at h
    dsimp only at h
    cases e3 : evR Φ xs en1 with
    | none => rw [e3] at h; cases h
    | some p3 =>
      obtain ⟨rs, en3⟩ := p3
      rw [e3] at h
      cases h
      refine anyA_of (pa_cons pe_any pa_any hs) (he env r en1 e1 S σ H ok _ fun v S1 H1 P => ?_)
      refine hes en1 rs env' e3 S1 σ H1 P.ok _ fun vs S3 H3 P3 => q _ S3 H3 ?_
      have rv' := P.rv.step P.ok P3.fw
      refine ⟨P.fw.trans P3.fw, P3.ok, .cons rv' P3.rv, fun a ha => ?_, ?_⟩
      · rw [rv'.fr_addr] at ha
        rcases List.mem_append.mp ha with ha | ha
        · cases r with
          | im d => cases ha
          | al i => cases ha
          | fr d =>
            obtain ⟨p, rfl, _⟩ := rv'
            have ea : a = p := by simpa using ha
            rw [ea]
            exact P.new _ _ rfl rfl
        · exact none_back P.fw.dm (P3.new a ha)
      · rw [rv'.fr_addr]
        refine List.nodup_append.mpr ⟨?_, P3.nd, fun a ha b hb => ?_⟩
        · cases r with
          | im d => exact .nil
          | al i => exact .nil
          | fr d => obtain ⟨p, rfl, _⟩ := rv'; exact List.nodup_cons.mpr ⟨by simp, .nil⟩
        · cases r with
          | im d => cases ha
          | al i => cases ha
          | fr d =>
            obtain ⟨p, hp, hs1, _⟩ := P.rv
            subst hp
            have ea : a = p := by simpa using ha
            intro z
            subst z
            have := P3.new a hb
            rw [ea] at this
            exact P.ok.dom p hs1 this
theorem snd_tup {k : Nat} (h : SndS Φ X es xs) : Snd Φ X (.Tuple es k pos) (.tup xs) := .mk fun env r env' hv S σ H ok Q q => by
  simp only [ev] at hv
  cases e1 : evS Φ xs env with
  | none => rw [e1] at hv; cases hv
  | some p1 =>
    obtain ⟨ds, en1⟩ := p1
    rw [e1] at hv
    dsimp only at hv
    split at hv
    · rename_i hc
      cases hv
      refine any_of (pe_tup pa_any) (h env ds env' e1 S σ H ok _ fun vs S1 H1 f1 ok1 rs => ⟨lim_line (by rw [rs.length]; exact hc), fun p hp => ?_⟩)
      exact q _ _ _ ((Post.tup ok1 hp rs).after f1)
    · cases hv
theorem snd_lst (h : SndS Φ X es xs) : Snd Φ X (.List es pos) (.lst xs) := .mk fun env r env' hv S σ H ok Q q => by
  simp only [ev] at hv
  cases e1 : evS Φ xs env with
  | none => rw [e1] at hv; cases hv
  | some p1 =>
    obtain ⟨ds, en1⟩ := p1
    rw [e1] at hv
    dsimp only at hv
    split at hv
    · rename_i hc
      cases hv
      refine any_of (pe_lst pa_any) (h env ds env' e1 S σ H ok _ fun vs S1 H1 f1 ok1 rs => ⟨lim_line (by rw [rs.length]; exact hc), fun p hp => ?_⟩)
      exact q _ _ _ ((Post.lst ok1 hp rs).after f1)
    · cases hv
/-- [..] * n -/
theorem snd_rep (h : SndS Φ X es xs) (hb : Snd Φ X b xb) : Snd Φ X (.BinOp (.List es p2) .Mult b pos) (.rep xs xb) := .mk fun env r env' hv S σ H ok Q q => by
  simp only [ev] at hv
  cases e1 : evS Φ xs env with
  | none => rw [e1] at hv; cases hv
  | some p1 =>
    obtain ⟨ds, en1⟩ := p1
    rw [e1] at hv
    dsimp only at hv
    obtain ⟨rn, en2, e2, hv⟩ := ev_inv1 hv
    cases e3 : rn.val en2 with
    | none => rw [e3] at hv; cases hv
    | some d =>
      rw [e3] at hv
      cases d <;> first | cases hv | skip
      rename_i j
      dsimp only at hv
      split at hv
      · rename_i hc
        cases hv
        rw [Bool.and_eq_true, Bool.and_eq_true, Bool.and_eq_true, decide_eq_true_iff, decide_eq_true_iff, decide_eq_true_iff, decide_eq_true_iff] at hc
        obtain ⟨⟨⟨c1, c2⟩, c3⟩, c4⟩ := hc
        refine any_of (pe_op op_rep (pe_lst pa_any) pe_any) (h env ds en1 e1 S σ H ok _ fun vs S1 H1 f1 ok1 rs => ⟨lim_line (by rw [rs.length]; exact c4), fun p hp => ?_⟩)
        have P1 := Post.lst ok1 hp rs
        refine hb en1 rn env' e2 _ σ _ P1.ok _ fun v S2 H2 P2 => ?_
        have rv1 := P1.rv.step P1.ok P2.fw
        obtain ⟨p', ep, hs, hc1, hl1, ho, hm⟩ := rv1
        cases ep
        obtain ⟨ws, hr, hw⟩ := ho
        have hr' : H2 p = some (.lst ws) := by
          rcases hr with hr | ⟨o, hr⟩
          · exact hr
          · rw [hr] at hm; exact hm.elim
        refine ⟨p, j, ws, rfl, Rep.int_inv (P2.rv.rep P2.ok e3), hr', c1, c2, lim_line (by rw [hw.length]; exact c3), fun p3 hp3 => ?_⟩
        exact q _ _ _ ((Post.lst P2.ok hp3 (hw.rep _)).after ((f1.trans P1.fw).trans P2.fw))
      · cases hv

/-! ### tests -/
theorem tst_inv {env env' : Env} {k : Bool} (h : tstX Φ x env = some (k, env')) : ∃ r d, ev Φ x env = some (r, env') ∧ r.val env' = some d ∧ truthD d = some k := by
  simp only [tstX] at h
  cases e1 : ev Φ x env with
  | none => rw [e1] at h; cases h
  | some p1 =>
    obtain ⟨r, en1⟩ := p1
    rw [e1] at h
    dsimp only at h
    cases e2 : r.val en1 with
    | none => rw [e2] at h; cases h
    | some d =>
      rw [e2] at h
      dsimp only [Option.bind] at h
      cases e3 : truthD d with
      | none => rw [e3] at h; cases h
      | some k' =>
        rw [e3] at h
        cases h
        exact ⟨r, d, rfl, e2, e3⟩
theorem tst_of {env env' : Env} {k : Bool} {r : R} {d : D} (h1 : ev Φ x env = some (r, env')) (h2 : r.val env' = some d) (h3 : truthD d = some k) : tstX Φ x env = some (k, env') := by
  simp only [tstX, h1, h2, Option.bind, h3]
/-- any expression whose test is its value's truth -/
theorem sndT_v (h : Snd Φ X e x) (he : ∀ whole, isTrue e X.env whole = (do let v ← whole; standAt e.pos; holding [v] (truthy v)) := by intro _; rfl) : SndT Φ X e x := .mk fun env k env' hv S σ H ok Q q => by
  obtain ⟨r, d, h1, h2, h3⟩ := tst_inv hv
  exact anyT_of (pt_truth pe_any he) (h env r env' h1 S σ H ok _ fun v S1 H1 P => ⟨k, tru_of (P.rv.repC P.ok h2) h3, q _ _ P.fw P.ok⟩)
theorem sndT_w (h : SndW Φ X e x) : SndT Φ X e x := .mk fun env k env' hv S σ H ok Q q => by
  intro pins s I
  exact h env k env' hv S σ H ok Q q _ pins s I
theorem sndT_cmp {o : CmpOp} (hop : OpD X (compareOp o) fun x y => (cmpD o x y).map fun b => .im (.bool b)) (hm : behindInMarks o b = false) (ha : Snd Φ X a xa) (hb : Snd Φ X b xb) : SndT Φ X (.Compare a [o] [b] pos) (.cmp o xa xb) := .mk fun env k env' hv S σ H ok Q q => by
  obtain ⟨r, d, h, h2, h3⟩ := tst_inv hv
  simp only [ev] at h
  obtain ⟨r1, en1, e1, h⟩ := ev_inv1 h
  obtain ⟨r2, en2, e2, h⟩ := ev_inv1 h
  cases f1 : r1.val en2 with
  | none => rw [f1] at h; cases h
  | some dx =>
    cases f2 : r2.val en2 with
    | none => rw [f1, f2] at h; cases h
    | some dy =>
      rw [f1, f2] at h
      dsimp only at h
      cases g : cmpD o dx dy with
      | none => rw [g] at h; cases h
      | some z =>
        rw [g] at h
        cases h
        cases h2
        cases h3
        intro pins s I
        refine wpAny_isTrue_Compare1 ?_ hm
        have sq := seq2 (R := fun x y H2 => ∃ S2, Fw S H σ env S2 H2 σ env' ∧ EnvOk X.K S2 σ H2 env' ∧ RV X.K S2 H2 σ env' r1 x ∧ RV X.K S2 H2 σ env' r2 y) (x := .non) (y := .non) (Q := fun _ _ => True) ha hb e1 e2 ok fun x y S2 H2 h1 h2 h3 h4 => ⟨S2, h1, h2, h3, h4⟩
        refine thn (sq pins s I) fun v s1 ⟨x, H1, I1, rx, q1⟩ => thn (q1 pins s1 I1) fun u s2 ⟨y, H2, I2, ry, S2, h1, h2, h3, h4⟩ => ?_
        refine thn (hop dx dy (.im (.bool k)) (by simp only [g, Option.map_some]) pins s2 σ H2 S2 env' x y v u (fun z H3 => z = .bl k ∧ ∃ S3, Fw S2 H2 σ env' S3 H3 σ env' ∧ EnvOk X.K S3 σ H3 env') I2 rx ry h2 (h3.repC h2 f1) (h4.repC h2 f2) fun z S' H' P => ⟨Rep.bl_inv P.rv, S', P.fw, P.ok⟩) fun c s3 ⟨z, H3, I3, r3, ez, S3, f3, ok3⟩ => ?_
        subst ez
        cases r3
        exact wpAny_truthy_bool ⟨H3, I3, q _ _ (h1.trans f3) ok3⟩
theorem tst_not {env env' : Env} {k : Bool} (h : tstX Φ (.notX xa) env = some (k, env')) : tstX Φ xa env = some (!k, env') := by
  obtain ⟨r, d, h1, h2, h3⟩ := tst_inv h
  simp only [ev] at h1
  obtain ⟨r1, en1, e1, h1⟩ := ev_inv1 h1
  cases f1 : (r1.val en1).bind truthD with
  | none => rw [f1] at h1; cases h1
  | some b =>
    rw [f1] at h1
    cases h1
    cases h2
    cases h3
    simp only [tstX, e1, f1, Bool.not_not]
theorem sndT_not (h : SndT Φ X a xa) : SndT Φ X (.UnaryOp .Not a pos) (.notX xa) := .mk fun env k env' hv S σ H ok Q q => by
  refine anyT_of (pt_not pt_any) (h env (!k) env' (tst_not hv) S σ H ok _ fun S1 H1 f1 ok1 => ?_)
  rw [Bool.not_not]
  exact q _ _ f1 ok1
theorem tst_and {env env' : Env} {k : Bool} (h : tstX Φ (.andX xa xb) env = some (k, env')) : (∃ en1, tstX Φ xa env = some (true, en1) ∧ tstX Φ xb en1 = some (k, env')) ∨ (tstX Φ xa env = some (false, env') ∧ k = false) := by
  obtain ⟨r, d, h1, h2, h3⟩ := tst_inv h
  simp only [ev] at h1
  obtain ⟨r1, en1, e1, h1⟩ := ev_inv1 h1
  cases f1 : (r1.val en1).bind truthD with
  | none => rw [f1] at h1; cases h1
  | some b =>
    rw [f1] at h1
    cases b with
    | true => exact .inl ⟨en1, by simp only [tstX, e1, f1], tst_of h1 h2 h3⟩
    | false =>
      cases h1
      rw [h2] at f1
      have : truthD d = some false := f1
      rw [h3] at this
      cases this
      exact .inr ⟨by simp only [tstX, e1, h2, Option.bind, h3], rfl⟩
theorem tst_or {env env' : Env} {k : Bool} (h : tstX Φ (.orX xa xb) env = some (k, env')) : (∃ en1, tstX Φ xa env = some (false, en1) ∧ tstX Φ xb en1 = some (k, env')) ∨ (tstX Φ xa env = some (true, env') ∧ k = true) := by
  obtain ⟨r, d, h1, h2, h3⟩ := tst_inv h
  simp only [ev] at h1
  obtain ⟨r1, en1, e1, h1⟩ := ev_inv1 h1
  cases f1 : (r1.val en1).bind truthD with
  | none => rw [f1] at h1; cases h1
  | some b =>
    rw [f1] at h1
    cases b with
    | false => exact .inl ⟨en1, by simp only [tstX, e1, f1], tst_of h1 h2 h3⟩
    | true =>
      cases h1
      rw [h2] at f1
      have : truthD d = some true := f1
      rw [h3] at this
      cases this
      exact .inr ⟨by simp only [tstX, e1, h2, Option.bind, h3], rfl⟩
theorem sndW_and1 (h : SndT Φ X a xa) : SndW Φ X (.BoolOp .And [a] pos) xa := .mk fun env k env' hv S σ H ok Q q => by
  intro wh pins s I
  exact (pw_and1 pt_any).run wh pins s σ H Q I (h env k env' hv S σ H ok Q q)
theorem sndW_or1 (h : SndT Φ X a xa) : SndW Φ X (.BoolOp .Or [a] pos) xa := .mk fun env k env' hv S σ H ok Q q => by
  intro wh pins s I
  exact (pw_or1 pt_any).run wh pins s σ H Q I (h env k env' hv S σ H ok Q q)
theorem sndW_and (ha : SndT Φ X a xa) (hb : SndW Φ X (.BoolOp .And (b :: rest) pos) xb) : SndW Φ X (.BoolOp .And (a :: b :: rest) pos) (.andX xa xb) := .mk fun env k env' hv S σ H ok Q q => by
  intro wh pins s I
  refine (pw_and pt_any pw_any).run wh pins s σ H Q I ?_
  rcases tst_and hv with ⟨en1, h1, h2⟩ | ⟨h1, h2⟩
  · refine ha env true en1 h1 S σ H ok _ fun S1 H1 f1 ok1 => ?_
    rw [if_pos rfl]
    exact hb en1 k env' h2 S1 σ H1 ok1 Q fun S2 H2 f2 ok2 => q _ _ (f1.trans f2) ok2
  · subst h2
    refine ha env false env' h1 S σ H ok _ fun S1 H1 f1 ok1 => ?_
    rw [if_neg Bool.false_ne_true]
    exact q _ _ f1 ok1
theorem sndW_or (ha : SndT Φ X a xa) (hb : SndW Φ X (.BoolOp .Or (b :: rest) pos) xb) : SndW Φ X (.BoolOp .Or (a :: b :: rest) pos) (.orX xa xb) := .mk fun env k env' hv S σ H ok Q q => by
  intro wh pins s I
  refine (pw_or pt_any pw_any).run wh pins s σ H Q I ?_
  rcases tst_or hv with ⟨en1, h1, h2⟩ | ⟨h1, h2⟩
  · refine ha env false en1 h1 S σ H ok _ fun S1 H1 f1 ok1 => ?_
    rw [if_neg Bool.false_ne_true]
    exact hb en1 k env' h2 S1 σ H1 ok1 Q fun S2 H2 f2 ok2 => q _ _ (f1.trans f2) ok2
  · subst h2
    refine ha env true env' h1 S σ H ok _ fun S1 H1 f1 ok1 => ?_
    rw [if_pos rfl]
    exact q _ _ f1 ok1
/-! ### .. as values -/
theorem snd_and1 (h : Snd Φ X a xa) : Snd Φ X (.BoolOp .And [a] pos) xa := .mk fun env r env' hv S σ H ok Q q => any_of (pe_one pe_any) (h env r env' hv S σ H ok Q q)
theorem snd_or1 (h : Snd Φ X a xa) : Snd Φ X (.BoolOp .Or [a] pos) xa := .mk fun env r env' hv S σ H ok Q q => any_of (pe_one pe_any) (h env r env' hv S σ H ok Q q)
theorem bind_inv {o : Option D} {k : Bool} (h : o.bind truthD = some k) : ∃ d, o = some d ∧ truthD d = some k := by
  cases o with
  | none => cases h
  | some d => exact ⟨d, rfl, h⟩
theorem snd_and (ha : Snd Φ X a xa) (hb : Snd Φ X (.BoolOp .And (b :: rest) pos) xb) : Snd Φ X (.BoolOp .And (a :: b :: rest) pos) (.andX xa xb) := .mk fun env r env' hv S σ H ok Q q => by
  simp only [ev] at hv
  obtain ⟨r1, en1, e1, hv⟩ := ev_inv1 hv
  cases f1 : (r1.val en1).bind truthD with
  | none => rw [f1] at hv; cases hv
  | some k =>
    obtain ⟨d, g1, g2⟩ := bind_inv f1
    rw [f1] at hv
    refine any_of (pe_andT pe_any pe_any) (ha env r1 en1 e1 S σ H ok _ fun v S1 H1 P => ⟨k, tru_of (P.rv.repC P.ok g1) g2, ?_⟩)
    cases k with
    | true =>
      rw [if_pos rfl]
      exact hb en1 r env' hv S1 σ H1 P.ok Q fun v2 S2 H2 P2 => q _ _ _ (P2.after P.fw)
    | false =>
      rw [if_neg Bool.false_ne_true]
      cases hv
      exact q _ _ _ P
theorem snd_or (ha : Snd Φ X a xa) (hb : Snd Φ X (.BoolOp .Or (b :: rest) pos) xb) : Snd Φ X (.BoolOp .Or (a :: b :: rest) pos) (.orX xa xb) := .mk fun env r env' hv S σ H ok Q q => by
  simp only [ev] at hv
  obtain ⟨r1, en1, e1, hv⟩ := ev_inv1 hv
  cases f1 : (r1.val en1).bind truthD with
  | none => rw [f1] at hv; cases hv
  | some k =>
    obtain ⟨d, g1, g2⟩ := bind_inv f1
    rw [f1] at hv
    refine any_of (pe_orT pe_any pe_any) (ha env r1 en1 e1 S σ H ok _ fun v S1 H1 P => ⟨k, tru_of (P.rv.repC P.ok g1) g2, ?_⟩)
    cases k with
    | false =>
      rw [if_neg Bool.false_ne_true]
      exact hb en1 r env' hv S1 σ H1 P.ok Q fun v2 S2 H2 P2 => q _ _ _ (P2.after P.fw)
    | true =>
      rw [if_pos rfl]
      cases hv
      exact q _ _ _ P
theorem snd_not (ha : Snd Φ X a xa) : Snd Φ X (.UnaryOp .Not a pos) (.notX xa) := .mk fun env r env' hv S σ H ok Q q => by
  simp only [ev] at hv
  obtain ⟨r1, en1, e1, hv⟩ := ev_inv1 hv
  cases f1 : (r1.val en1).bind truthD with
  | none => rw [f1] at hv; cases hv
  | some k =>
    obtain ⟨d, g1, g2⟩ := bind_inv f1
    rw [f1] at hv
    cases hv
    exact any_of (pe_notT pe_any) (ha env r1 env' e1 S σ H ok _ fun v S1 H1 P => ⟨k, tru_of (P.rv.repC P.ok g1) g2, q _ _ _ ((Post.leaf (F := H1) P.ok (.bl _) rfl).after P.fw)⟩)
theorem snd_ite (ht : SndT Φ X c xc) (ha : Snd Φ X a xa) (hb : Snd Φ X b xb) : Snd Φ X (.IfExp c a b pos) (.ite xc xa xb) := .mk fun env r env' hv S σ H ok Q q => by
  simp only [ev] at hv
  obtain ⟨r1, en1, e1, hv⟩ := ev_inv1 hv
  cases f1 : (r1.val en1).bind truthD with
  | none => rw [f1] at hv; cases hv
  | some k =>
    have ts : tstX Φ xc env = some (k, en1) := by simp only [tstX, e1, f1]
    rw [f1] at hv
    refine any_of (pe_ifExp pt_any pe_any pe_any) (ht env k en1 ts S σ H ok _ fun S1 H1 g1 ok1 => ?_)
    cases k with
    | true =>
      rw [if_pos rfl]
      exact ha en1 r env' hv S1 σ H1 ok1 Q fun v2 S2 H2 P2 => q _ _ _ (P2.after g1)
    | false =>
      rw [if_neg Bool.false_ne_true]
      exact hb en1 r env' hv S1 σ H1 ok1 Q fun v2 S2 H2 P2 => q _ _ _ (P2.after g1)
theorem snd_neg (ha : Snd Φ X a xa) : Snd Φ X (.UnaryOp .USub a pos) (.neg xa) := .mk fun env r env' hv S σ H ok Q q => by
  simp only [ev] at hv
  obtain ⟨r1, en1, e1, hv⟩ := ev_inv1 hv
  cases f1 : r1.val en1 with
  | none => rw [f1] at hv; cases hv
  | some d =>
    rw [f1] at hv
    cases d <;> first | cases hv | skip
    exact any_of (pe_un un_neg pe_any) (ha env r1 env' e1 S σ H ok _ fun v S1 H1 P => ⟨_, Rep.int_inv (P.rv.rep P.ok f1), q _ _ _ ((Post.leaf (F := H1) P.ok (.int _) rfl).after P.fw)⟩)
end
end DI

set_option maxRecDepth 100000
/-! DI6: subscripts, slices, built-in functions, methods of lists, calls. -/
namespace DI
open PySem PySem.Spec PyProof.Rows L2
section
variable {Φ : Fns} {X : Cx} {a b c e lo hi : Expr} {es rest : List Expr} {xa xb xc x xl xh : Xp} {xs : Xps} {pos p2 : Pos}
theorem atI_reps {K : PySem.W.Frag} {F : Hp} {vs : List V} {ds : List D} {i : Int} {d : D} (h : Reps K F vs ds) (e : atI ds i = some d) : ∃ v, atI vs i = some v ∧ Rep K F v d := by
  unfold atI at e ⊢
  rw [h.length]
  cases q : ixN ds.length i with
  | none => rw [q] at e; cases e
  | some j =>
    rw [q] at e
    exact h.get e
theorem ixd_list {K : PySem.W.Frag} {dx dy dz : D} {S : Addr → Prop} {H : Hp} {x y : V} {Q : VK} (h : ixD dx dy = some dz) (hd : ∀ kvs, dx ≠ .dict kvs) (hx : RepC K S H x dx) (hy : RepC K S H y dy) (q : ∀ z, Rep K (er S H) z dz → Q z H) : rIx K x y H Q := by
  cases dx with
  | list ds =>
    cases dy <;> first | cases h | skip
    obtain ⟨a, vs, rfl, h1, h2⟩ := hx
    obtain ⟨v, e1, e2⟩ := atI_reps h2 h
    exact .inl ⟨a, vs, _, v, rfl, Rep.int_inv hy, h1, e1, q v e2⟩
  | tuple ds =>
    cases dy <;> first | cases h | skip
    obtain ⟨a, vs, rfl, h1, h2⟩ := Rep.tup_inv hx
    obtain ⟨v, e1, e2⟩ := atI_reps h2 h
    exact .inr (.inl ⟨a, vs, _, v, rfl, Rep.int_inv hy, er_full.sqT h1, e1, q v e2⟩)
  | str s =>
    cases dy <;> first | cases h | skip
    simp only [ixD] at h
    split at h
    · rename_i hc
      cases e : atI s.cps.toList _ with
      | none => rw [e] at h; cases h
      | some k =>
        rw [e] at h
        cases h
        exact .inr (.inr ⟨s, _, k, Rep.str_inv hx, Rep.int_inv hy, lim_line hc, e, q _ (.str _)⟩)
    · cases h
  | dict kvs => exact absurd rfl (hd kvs)
  | _ => cases h
/-- a[b], a no dict -/
theorem ev_ix_inv {env env' : Env} {r : R} (h : ev Φ (.ix xa xb) env = some (r, env')) : ∃ r1 en1 r2 dx dy dz, ev Φ xa env = some (r1, en1) ∧ ev Φ xb en1 = some (r2, env') ∧ r1.val env' = some dx ∧ r2.val env' = some dy ∧ ixD dx dy = some dz ∧ r = .im dz := by
  simp only [ev] at h
  obtain ⟨r1, en1, e1, h⟩ := ev_inv1 h
  obtain ⟨r2, en2, e2, h⟩ := ev_inv1 h
  cases f1 : r1.val en2 with
  | none => rw [f1] at h; cases h
  | some dx =>
    cases f2 : r2.val en2 with
    | none => rw [f1, f2] at h; cases h
    | some dy =>
      rw [f1, f2] at h
      dsimp only at h
      cases g : ixD dx dy with
      | none => rw [g] at h; cases h
      | some z =>
        rw [g] at h
        cases h
        exact ⟨r1, en1, r2, dx, dy, z, e1, e2, f1, f2, g, rfl⟩
/-! ### dicts that are read -/
theorem key_of {K : PySem.W.Frag} {F : Hp} {v : V} {d : D} (h : Rep K F v d) (hk : isKey d = true) : ∃ k, d = kD k ∧ v = kV k := by
  cases h <;> first | cases hk | skip
  · rename_i i
    exact ⟨.inl i, rfl, rfl⟩
  · rename_i s
    exact ⟨.inr s, rfl, rfl⟩
theorem eqv_key (k j : Key) : PyData.eqv (kD k) (kD j) = decide (k = j) := by
  cases k <;> cases j
  · rename_i a b
    rw [key_ll]
    rfl
  · rw [key_lr]
    rfl
  · rw [key_rl]
    rfl
  · rename_i a b
    rw [key_rr]
    simp only [kD, PyData.eqv]
    by_cases e : a = b <;> simp [e]
theorem look_rep {K : PySem.W.Frag} {F : Hp} {k : Key} : ∀ {kvs : List (Key × V)} {ds : List (D × D)}, RepKV K F kvs ds → ∀ {d : D}, lookD ds (kD k) = some d → ∃ v, valV kvs k = some v ∧ Rep K F v d
  | _, _, .nil, d, h => by cases h
  | _, _, .cons (k := j) (v := w) (d := e) (vs := vs) (ds := ds) h r, d, hl => by
    simp only [lookD] at hl
    rw [eqv_key] at hl
    by_cases q : j = k
    · rw [if_pos (decide_eq_true q)] at hl
      cases hl
      refine ⟨w, ?_, h⟩
      unfold valV
      rw [List.find?_cons_of_pos (by simpa using q)]
      rfl
    · rw [if_neg (by simpa using q)] at hl
      obtain ⟨v, h1, h2⟩ := look_rep r hl
      refine ⟨v, ?_, h2⟩
      unfold valV at h1 ⊢
      rw [List.find?_cons_of_neg (by simpa using q)]
      exact h1
/-- a[b] -/
theorem snd_ix (hu : X.A.units + 65 < cLine) (hs : PlainIx b) (ha : Snd Φ X a xa) (hb : Snd Φ X b xb) : Snd Φ X (.Subscript a b pos) (.ix xa xb) := .mk fun env r env' h S σ H ok Q q => by
  obtain ⟨r1, en1, r2, dx, dy, dz, e1, e2, f1, f2, g, rfl⟩ := ev_ix_inv h
  by_cases hd : ∃ kvs, dx = .dict kvs
  · obtain ⟨kvs, rfl⟩ := hd
    refine any_of (pe_dget (by omega) pe_any pe_any hs) (seq2 (x := .non) (y := .non) (Q := Q) ha hb e1 e2 ok fun x y S2 H2 h1 h2 h3 h4 => ?_)
    obtain ⟨p, ks, rfl, hr, hk⟩ := h3.repC h2 f1
    simp only [ixD] at g
    split at g
    · rename_i hc
      obtain ⟨k, rfl, ey⟩ := key_of (h4.rep h2 f2) hc
      subst ey
      obtain ⟨v, g1, g2⟩ := look_rep hk g
      exact ⟨p, v, rfl, .inl ⟨ks, k, hr, rfl, g1.symm⟩, q _ _ _ ((Post.same h2 (show RV _ _ _ _ _ (.im dz) v from g2) fun _ z => by cases z).after h1)⟩
    · cases g
  · exact any_of (pe_ix ix_seq pe_any pe_any hs) (seq2 (x := .non) (y := .non) (Q := Q) ha hb e1 e2 ok fun x y S2 H2 h1 h2 h3 h4 =>
      ixd_list g (fun kvs z => hd ⟨kvs, z⟩) (h3.repC h2 f1) (h4.repC h2 f2) fun z hz => q _ _ _ ((Post.same h2 (show RV _ _ _ _ _ (.im dz) z from hz) fun _ z => by cases z).after h1))
/-! ### in, not in -/
theorem any_rep {K : PySem.W.Frag} {F : Hp} {k : Key} : ∀ {kvs : List (Key × V)} {ds : List (D × D)}, RepKV K F kvs ds → (ds.any fun kv => PyData.eqv kv.1 (kD k)) = (valV kvs k).isSome
  | _, _, .nil => rfl
  | _, _, .cons (k := j) (v := w) (d := e) (vs := vs) (ds := ds) h r => by
    rw [List.any_cons, any_rep r, eqv_key]
    unfold valV
    by_cases q : j = k
    · rw [List.find?_cons_of_pos (by simpa using q), decide_eq_true q]
      rfl
    · rw [List.find?_cons_of_neg (by simpa using q), decide_eq_false q]
      rfl
theorem ev_cmp_inv {o : CmpOp} {env env' : Env} {r : R} (h : ev Φ (.cmp o xa xb) env = some (r, env')) : ∃ r1 en1 r2 dx dy z, ev Φ xa env = some (r1, en1) ∧ ev Φ xb en1 = some (r2, env') ∧ r1.val env' = some dx ∧ r2.val env' = some dy ∧ cmpD o dx dy = some z ∧ r = .im (.bool z) := by
  simp only [ev] at h
  obtain ⟨r1, en1, e1, h⟩ := ev_inv1 h
  obtain ⟨r2, en2, e2, h⟩ := ev_inv1 h
  cases f1 : r1.val en2 with
  | none => rw [f1] at h; cases h
  | some dx =>
    cases f2 : r2.val en2 with
    | none => rw [f1, f2] at h; cases h
    | some dy =>
      rw [f1, f2] at h
      dsimp only at h
      cases g : cmpD o dx dy with
      | none => rw [g] at h; cases h
      | some z =>
        rw [g] at h
        cases h
        exact ⟨r1, en1, r2, dx, dy, z, e1, e2, f1, f2, g, rfl⟩
/-- the rule of in, for what a comparison wants of both sides -/
theorem in_any (hu : X.A.units + 65 < cLine) (neg : Bool) (ha : Snd Φ X a xa) (hb : Snd Φ X b xb) {env env' : Env} {dx dy : D} {z : Bool} {r1 r2 : R} {en1 : Env} (e1 : ev Φ xa env = some (r1, en1)) (e2 : ev Φ xb en1 = some (r2, env')) (f1 : r1.val env' = some dx) (f2 : r2.val env' = some dy) (g : inD dx dy = some z)
    {S : Addr → Prop} {σ : L2.St} {H : Hp} (ok : EnvOk X.K S σ H env) {Q : VK} (q : ∀ v S' H', Post X.K S H σ env (.im (.bool (if neg then !z else z))) env' v S' H' → Q v H') {pins : List (Addr × Obj)} {s : Shared} (I : Inv X pins σ H s) :
    wpAny (model X.prog X.w) X.A (eval a X.env) (fun v s₁ => wpAny (model X.prog X.w) X.A (eval b X.env) (fun u s₂ => wpAny (model X.prog X.w) X.A (compareOp (if neg then .NotIn else .In) v u) (EP X pins σ Q) X.xe s₂) X.xe s₁) X.xe s := by
  have sq := seq2 (R := fun x y H2 => ∃ S2, Fw S H σ env S2 H2 σ env' ∧ EnvOk X.K S2 σ H2 env' ∧ RV X.K S2 H2 σ env' r1 x ∧ RV X.K S2 H2 σ env' r2 y) (x := .non) (y := .non) (Q := Q) ha hb e1 e2 ok fun x y S2 H2 h1 h2 h3 h4 => ⟨S2, h1, h2, h3, h4⟩
  have fin : ∀ S2 H2, Fw S H σ env S2 H2 σ env' → EnvOk X.K S2 σ H2 env' → Q (.bl (if neg then !z else z)) H2 := fun S2 H2 h1 h2 => q _ _ _ ((Post.leaf (F := H2) h2 (.bl _) rfl).after h1)
  by_cases hd : ∃ kvs, dy = .dict kvs
  · obtain ⟨kvs, rfl⟩ := hd
    simp only [inD] at g
    split at g
    · rename_i hc
      cases g
      have main : ∀ x y S2 H2, Fw S H σ env S2 H2 σ env' → EnvOk X.K S2 σ H2 env' → RV X.K S2 H2 σ env' r1 x → RV X.K S2 H2 σ env' r2 y → ∃ p ov, y = .ref p ∧ DGet H2 p x ov ∧ ov.isSome = kvs.any fun kv => PyData.eqv kv.1 dx := fun x y S2 H2 h1 h2 h3 h4 => by
        obtain ⟨p, ks, rfl, hr, hk⟩ := h4.repC h2 f2
        obtain ⟨k, rfl, ey⟩ := key_of (h3.rep h2 f1) hc
        subst ey
        exact ⟨p, _, rfl, .inl ⟨ks, k, hr, rfl, rfl⟩, (any_rep hk).symm⟩
      cases neg with
      | false =>
        refine (pc_din (by omega) pe_any pe_any).run pins s σ H Q I (seq2 (x := .non) (y := .non) (Q := Q) ha hb e1 e2 ok fun x y S2 H2 h1 h2 h3 h4 => ?_)
        obtain ⟨p, ov, rfl, g1, g2⟩ := main x y S2 H2 h1 h2 h3 h4
        refine ⟨p, ov, rfl, g1, ?_⟩
        rw [g2]
        exact fin S2 H2 h1 h2
      | true =>
        refine (pc_dnotin (by omega) pe_any pe_any).run pins s σ H Q I (seq2 (x := .non) (y := .non) (Q := Q) ha hb e1 e2 ok fun x y S2 H2 h1 h2 h3 h4 => ?_)
        obtain ⟨p, ov, rfl, g1, g2⟩ := main x y S2 H2 h1 h2 h3 h4
        refine ⟨p, ov, rfl, g1, ?_⟩
        rw [g2]
        exact fin S2 H2 h1 h2
    · cases g
  · refine thn (sq pins s I) fun v s1 ⟨x, H1, I1, rx, q1⟩ => thn (q1 pins s1 I1) fun u s2 ⟨y, H2, I2, ry, S2, h1, h2, h3, h4⟩ => ?_
    cases neg with
    | false => exact in_seq hu g (fun kvs e => hd ⟨kvs, e⟩) I2 rx ry (h3.repC h2 f1) (h4.repC h2 f2) (fin S2 H2 h1 h2)
    | true => exact notIn_seq hu g (fun kvs e => hd ⟨kvs, e⟩) I2 rx ry (h3.repC h2 f1) (h4.repC h2 f2) (fin S2 H2 h1 h2)
theorem snd_in (hu : X.A.units + 65 < cLine) (hm : behindInMarks .In b = false) (ha : Snd Φ X a xa) (hb : Snd Φ X b xb) : Snd Φ X (.Compare a [.In] [b] pos) (.cmp .In xa xb) := .mk fun env r env' h S σ H ok Q q => by
  obtain ⟨r1, en1, r2, dx, dy, z, e1, e2, f1, f2, g, rfl⟩ := ev_cmp_inv h
  intro pins s I
  exact wpAny_Compare1 (in_any hu false ha hb e1 e2 f1 f2 g ok q I) hm
theorem snd_notin (hu : X.A.units + 65 < cLine) (hm : behindInMarks .NotIn b = false) (ha : Snd Φ X a xa) (hb : Snd Φ X b xb) : Snd Φ X (.Compare a [.NotIn] [b] pos) (.cmp .NotIn xa xb) := .mk fun env r env' h S σ H ok Q q => by
  obtain ⟨r1, en1, r2, dx, dy, z, e1, e2, f1, f2, g, rfl⟩ := ev_cmp_inv h
  intro pins s I
  simp only [cmpD] at g
  cases g' : inD dx dy with
  | none => rw [g'] at g; cases g
  | some z' =>
    rw [g'] at g
    cases g
    exact wpAny_Compare1 (in_any hu true ha hb e1 e2 f1 f2 g' ok q I) hm
theorem tst_cmp_inv {o : CmpOp} {env env' : Env} {k : Bool} (h : tstX Φ (.cmp o xa xb) env = some (k, env')) : ∃ r1 en1 r2 dx dy, ev Φ xa env = some (r1, en1) ∧ ev Φ xb en1 = some (r2, env') ∧ r1.val env' = some dx ∧ r2.val env' = some dy ∧ cmpD o dx dy = some k := by
  obtain ⟨r, d, h1, h2, h3⟩ := tst_inv h
  obtain ⟨r1, en1, r2, dx, dy, z, e1, e2, f1, f2, g, rfl⟩ := ev_cmp_inv h1
  cases h2
  cases h3
  exact ⟨r1, en1, r2, dx, dy, e1, e2, f1, f2, g⟩
theorem sndT_in (hu : X.A.units + 65 < cLine) (hm : behindInMarks .In b = false) (ha : Snd Φ X a xa) (hb : Snd Φ X b xb) : SndT Φ X (.Compare a [.In] [b] pos) (.cmp .In xa xb) := .mk fun env k env' h S σ H ok Q q => by
  obtain ⟨r1, en1, r2, dx, dy, e1, e2, f1, f2, g⟩ := tst_cmp_inv h
  intro pins s I
  refine wpAny_isTrue_Compare1 (thn (in_any hu false ha hb e1 e2 f1 f2 g ok (Q := fun v H' => v = .bl k ∧ ∃ S', Fw S H σ env S' H' σ env' ∧ EnvOk X.K S' σ H' env') (fun v S' H' P => ⟨Rep.bl_inv P.rv, S', P.fw, P.ok⟩) I) fun v s1 h1 => thn h1 fun u s2 h2 => thn h2 fun c s3 ⟨zv, H3, I3, r3, ez, S3, f3, ok3⟩ => ?_) hm
  subst ez
  cases r3
  exact wpAny_truthy_bool ⟨H3, I3, q _ _ f3 ok3⟩
theorem sndT_notin (hu : X.A.units + 65 < cLine) (hm : behindInMarks .NotIn b = false) (ha : Snd Φ X a xa) (hb : Snd Φ X b xb) : SndT Φ X (.Compare a [.NotIn] [b] pos) (.cmp .NotIn xa xb) := .mk fun env k env' h S σ H ok Q q => by
  obtain ⟨r1, en1, r2, dx, dy, e1, e2, f1, f2, g⟩ := tst_cmp_inv h
  intro pins s I
  simp only [cmpD] at g
  cases g' : inD dx dy with
  | none => rw [g'] at g; cases g
  | some z' =>
    rw [g'] at g
    cases g
    refine wpAny_isTrue_Compare1 (thn (in_any hu true ha hb e1 e2 f1 f2 g' ok (Q := fun v H' => v = .bl (!z') ∧ ∃ S', Fw S H σ env S' H' σ env' ∧ EnvOk X.K S' σ H' env') (fun v S' H' P => ⟨Rep.bl_inv P.rv, S', P.fw, P.ok⟩) I) fun v s1 h1 => thn h1 fun u s2 h2 => thn h2 fun c s3 ⟨zv, H3, I3, r3, ez, S3, f3, ok3⟩ => ?_) hm
    subst ez
    cases r3
    exact wpAny_truthy_bool ⟨H3, I3, q _ _ f3 ok3⟩
end
end DI

set_option maxRecDepth 100000
/-! DI7: slices, built-in functions, methods of lists. -/
namespace DI
open PySem PySem.Spec PyProof.Rows L2
section
variable {Φ : Fns} {X : Cx} {a b c e : Expr} {es rest : List Expr} {xa xb xc x xl xh : Xp} {xs : Xps} {pos p2 : Pos}
/-! ### slices -/
/-- a slice's end: an expression, or left out -/
structure SndO (Φ : Fns) (X : Cx) (o : Option Expr) (x : Xp) : Prop where
  run : ∀ env r env' oi d, ev Φ x env = some (r, env') → r.val env' = some d → optI d = some oi → ∀ (S : Addr → Prop) (σ : L2.St) (H : Hp), EnvOk X.K S σ H env →
  ∀ Q : Option Int → Hp → Prop, (∀ S' H', Fw S H σ env S' H' σ env' → EnvOk X.K S' σ H' env' → Q oi H') →
  ∀ (pins : List (Addr × Obj)) (s : Shared), Inv X pins σ H s → wpAny (model X.prog X.w) X.A (evalPart o X.env) (fun u s' => ∃ o' H', Inv X pins σ H' s' ∧ IsPart u o' ∧ Q o' H') X.xe s
instance {Φ : Fns} {X : Cx} {o : Option Expr} {x : Xp} : CoeFun (SndO Φ X o x) fun _ => ∀ env r env' oi d, ev Φ x env = some (r, env') → r.val env' = some d → optI d = some oi → ∀ (S : Addr → Prop) (σ : L2.St) (H : Hp), EnvOk X.K S σ H env →
    ∀ Q : Option Int → Hp → Prop, (∀ S' H', Fw S H σ env S' H' σ env' → EnvOk X.K S' σ H' env' → Q oi H') →
    ∀ (pins : List (Addr × Obj)) (s : Shared), Inv X pins σ H s → wpAny (model X.prog X.w) X.A (evalPart o X.env) (fun u s' => ∃ o' H', Inv X pins σ H' s' ∧ IsPart u o' ∧ Q o' H') X.xe s := ⟨SndO.run⟩
theorem sndO_none : SndO Φ X none .nil := .mk fun env r env' oi d h h2 h3 S σ H ok Q q pins s I => by
  simp only [ev] at h
  cases h
  cases h2
  cases h3
  exact po_none.run pins s σ H Q I (q S H Fw.refl ok)
theorem sndO_some (h : Snd Φ X e x) (hi : ∀ env r env' d, ev Φ x env = some (r, env') → r.val env' = some d → d ≠ .none) : SndO Φ X (some e) x := .mk fun env r env' oi d h1 h2 h3 S σ H ok Q q pins s I => by
  cases d with
  | none => exact absurd rfl (hi env r env' _ h1 h2)
  | int i =>
    cases h3
    exact (po_some pe_any).run pins s σ H Q I (h env r env' h1 S σ H ok _ fun v S1 H1 P => ⟨i, Rep.int_inv (P.rv.rep P.ok h2), q _ _ P.fw P.ok⟩)
  | _ => cases h3
theorem Reps.cut {K : PySem.W.Frag} {F : Hp} {v : List V} {d : List D} (h : Reps K F v d) (lo hi : Option Int) : Reps K F (cutV v lo hi) (cutL d lo hi) := by
  unfold cutV cutL
  rw [h.length]
  exact (h.drop _).take _
theorem cut_whole {α : Type} (xs : List α) (lo hi : Option Int) (h : HT.sIx xs.length 0 lo = 0 ∧ HT.sIx xs.length xs.length hi = xs.length) : cutL xs lo hi = xs := by
  unfold cutL
  rw [h.1, h.2, List.drop_zero, Nat.sub_zero, List.take_length]
theorem snd_sl {lo hi : Option Expr} (ha : Snd Φ X a xa) (hl : SndO Φ X lo xl) (hh : SndO Φ X hi xh) : Snd Φ X (.Subscript a (.Slice lo hi none p2) pos) (.sl xa xl xh) := .mk fun env r env' h S σ H ok Q q => by
  simp only [ev] at h
  obtain ⟨r1, en1, e1, h⟩ := ev_inv1 h
  obtain ⟨r2, en2, e2, h⟩ := ev_inv1 h
  obtain ⟨r3, en3, e3, h⟩ := ev_inv1 h
  cases f1 : r1.val en3 with
  | none => rw [f1] at h; cases h
  | some dx =>
    cases f2 : r2.val en2 with
    | none => rw [f1, f2] at h; cases h
    | some dl =>
      cases g2 : optI dl with
      | none => rw [f1, f2] at h; dsimp only [Option.bind] at h; rw [g2] at h; cases h
      | some ol =>
        cases f3 : r3.val en3 with
        | none => rw [f1, f2, f3] at h; dsimp only [Option.bind] at h; rw [g2] at h; cases h
        | some dh =>
          cases g3 : optI dh with
          | none => rw [f1, f2, f3] at h; dsimp only [Option.bind] at h; rw [g2, g3] at h; cases h
          | some oh =>
            rw [f1, f2, f3] at h
            dsimp only [Option.bind] at h
            rw [g2, g3] at h
            dsimp only at h
            cases g : slcD dx ol oh with
            | none => rw [g] at h; cases h
            | some dz =>
              rw [g] at h
              cases h
              -- the three parts in a row
              let tl : TO := fun σ H Q => ∀ (pins : List (Addr × Obj)) (s : Shared), Inv X pins σ H s → wpAny (model X.prog X.w) X.A (evalPart lo X.env) (fun u s' => ∃ o' H', Inv X pins σ H' s' ∧ IsPart u o' ∧ Q o' H') X.xe s
              let th : TO := fun σ H Q => ∀ (pins : List (Addr × Obj)) (s : Shared), Inv X pins σ H s → wpAny (model X.prog X.w) X.A (evalPart hi X.env) (fun u s' => ∃ o' H', Inv X pins σ H' s' ∧ IsPart u o' ∧ Q o' H') X.xe s
              have pl : PO X lo tl := ⟨fun pins s σ H Q I h => h pins s I⟩
              have ph : PO X hi th := ⟨fun pins s σ H Q I h => h pins s I⟩
              have run : ∀ {r : V → Option Int → Option Int → Hp → VK → Prop}, (∀ v S3 H3, Fw S H σ env S3 H3 σ env' → EnvOk X.K S3 σ H3 env' → RV X.K S3 H3 σ env' r1 v → r v ol oh H3 Q) → tSl r (AnyE X a) tl th σ H Q := fun {r} k => by
                refine ha env r1 en1 e1 S σ H ok _ fun v S1 H1 P1 => ?_
                refine hl en1 r2 en2 ol dl e2 f2 g2 S1 σ H1 P1.ok _ fun S2 H2 w2 ok2 => ?_
                refine hh en2 r3 env' oh dh e3 f3 g3 S2 σ H2 ok2 _ fun S3 H3 w3 ok3 => ?_
                exact k v S3 H3 ((P1.fw.trans w2).trans w3) ok3 ((P1.rv.step P1.ok w2).step ok2 w3)
              cases dx with
              | list ds =>
                cases g
                refine any_of (pe_slice sl_list pe_any pl ph) (run fun v S3 H3 w ok3 rv => ?_)
                obtain ⟨p, vs, rfl, h1, h2⟩ := rv.repC ok3 f1
                exact ⟨p, vs, rfl, h1, fun p hp => q _ _ _ ((Post.lst ok3 hp (h2.cut ol oh)).after w)⟩
              | tuple ds =>
                cases g
                refine any_of (pe_slice sl_tupA pe_any pl ph) (run fun v S3 H3 w ok3 rv => ?_)
                obtain ⟨p, vs, rfl, h1, h2⟩ := Rep.tup_inv (rv.repC ok3 f1)
                refine ⟨p, vs, rfl, er_full.sqT h1, fun hw => ?_, fun hw p hp => ?_⟩
                · rw [h2.length] at hw
                  refine q _ _ _ ((Post.same ok3 (show RV _ _ _ _ _ (.im (.tuple (cutL ds ol oh))) (.ref p) from ?_) fun _ z => by cases z).after w)
                  rw [cut_whole ds ol oh hw]
                  exact Rep.tup h1 h2
                · exact q _ _ _ ((Post.tup ok3 hp (h2.cut ol oh)).after w)
              | _ => cases g

/-! ### built-in functions -/
def RepCs (K : PySem.W.Frag) (S : Addr → Prop) (H : Hp) : List V → List D → Prop := Paired (RepC K S H)
/-- a call of a known value does what g says -/
def CalD (X : Cx) (f : Value) (g : List D → Option R) : Prop := ∀ ds r, g ds = some r → ∀ (pins : List (Addr × Obj)) (s : Shared) (σ1 σ : L2.St) (H : Hp) (S : Addr → Prop) (env : Env) (vs : List V) (us : List Value) (Q : VK),
  Inv X pins σ1 H s → Vals vs us → EnvOk X.K S σ H env → RepCs X.K S H vs ds → (∀ z S' H', Post X.K S H σ env r env z S' H' → Q z H') → wpAny (model X.prog X.w) X.A (call f us) (EP X pins σ1 Q) X.xe s
theorem RVs.repCs {K : PySem.W.Frag} {S : Addr → Prop} {H : Hp} {σ : L2.St} {env : Env} (ok : EnvOk K S σ H env) : ∀ {rs : List R} {vs : List V} {ds : List D}, RVs K S H σ env rs vs → valsR env rs = some ds → RepCs K S H vs ds
  | _, _, _, .nil, h => by
    cases h
    exact .nil
  | _, _, _, .cons (r := r) (v := v) (rs := rs) (vs := vs) h t, hv => by
    simp only [valsR] at hv
    cases e1 : r.val env with
    | none => rw [e1] at hv; cases hv
    | some d =>
      cases e2 : valsR env rs with
      | none => rw [e1, e2] at hv; cases hv
      | some ds =>
        rw [e1, e2] at hv
        cases hv
        exact .cons (h.repC ok e1) (RVs.repCs ok t e2)
theorem ev_bi_inv {f : B} {env env' : Env} {r : R} (h : ev Φ (.bi f xs) env = some (r, env')) : ∃ rs ds, evR Φ xs env = some (rs, env') ∧ valsR env' rs = some ds ∧ biD f ds = some r := by
  simp only [ev] at h
  cases e1 : evR Φ xs env with
  | none => rw [e1] at h; cases h
  | some p =>
    obtain ⟨rs, en1⟩ := p
    rw [e1] at h
    dsimp only at h
    cases e2 : valsR en1 rs with
    | none => rw [e2] at h; cases h
    | some ds =>
      rw [e2] at h
      dsimp only at h
      cases e3 : biD f ds with
      | none => rw [e3] at h; cases h
      | some r' =>
        rw [e3] at h
        cases h
        exact ⟨rs, ds, rfl, e2, e3⟩
/-- what a call wants of its values, whatever the slots are -/
def rCal (X : Cx) (f : Value) : List V → Hp → VK → Prop := fun vs H Q => ∀ (pins : List (Addr × Obj)) (s : Shared) (σ1 : L2.St) (us : List Value), Inv X pins σ1 H s → Vals vs us → wpAny (model X.prog X.w) X.A (call f us) (EP X pins σ1 Q) X.xe s
theorem rCal_ok {f : Value} : CallR X f (rCal X f) := fun pins s σ H xs us Q I r h => h pins s σ us I r
theorem bi_run {f : B} {fv : Value} (hc : CalD X fv (biD f)) (ha : SndR Φ X es xs) {env env' : Env} {r : R} (h : ev Φ (.bi f xs) env = some (r, env')) {S : Addr → Prop} {σ : L2.St} {H : Hp} (ok : EnvOk X.K S σ H env) {Q : VK} (q : ∀ v S' H', Post X.K S H σ env r env' v S' H' → Q v H') :
    tCB (rCal X fv) (AnyA X es) σ H Q := by
  obtain ⟨rs, ds, e1, e2, e3⟩ := ev_bi_inv h
  exact ha env rs env' e1 S σ H ok _ fun vs S1 H1 P pins s σ1 us I rv => hc ds r e3 pins s σ1 σ H1 S1 env' vs us Q I rv P.ok (P.rv.repCs P.ok e2) fun z S' H' P' => q z S' H' (P'.after P.fw)
theorem snd_biB {f : B} {id : String} {y : Str} {p : Pos} (hc : CalD X (.builtin id) (biD f)) (hg : Gl X y) (hm : X.mg y = none) (hv : bootBuiltins y = some (.builtin id)) (ha : SndR Φ X (e :: es) xs) (hn : y ≠ "__name__" := by decide) (hdb : (y == ("__debug__" : Str)) = false := by decide)
    (he : starEach (e :: es) X.env = (false, eval e X.env) :: starEach es X.env := by exact star_cons rfl) (hpl : (backTo pos (starEach es X.env)).any (·.1) = false := by rfl) : Snd Φ X (.Call (.Name y p) (e :: es) [] pos) (.bi f xs) := .mk fun env r env' h S σ H ok Q q =>
  any_of (pe_callB rCal_ok hg hm hv pa_any hn hdb he hpl) (bi_run hc ha h ok q)
theorem snd_biT {f : B} {T : String} {y : Str} {p : Pos} (hc : CalD X (.type T) (biD f)) (hg : Gl X y) (hm : X.mg y = none) (hv : bootBuiltins y = some (.type T)) (ha : SndR Φ X (e :: es) xs) (hn : y ≠ "__name__" := by decide) (hdb : (y == ("__debug__" : Str)) = false := by decide)
    (he : starEach (e :: es) X.env = (false, eval e X.env) :: starEach es X.env := by exact star_cons rfl) (hpl : (backTo pos (starEach es X.env)).any (·.1) = false := by rfl) : Snd Φ X (.Call (.Name y p) (e :: es) [] pos) (.bi f xs) := .mk fun env r env' h S σ H ok Q q =>
  any_of (pe_callTy rCal_ok hg hm hv pa_any hn hdb he hpl) (bi_run hc ha h ok q)
theorem one_of {K : PySem.W.Frag} {S : Addr → Prop} {H : Hp} {vs : List V} {d : D} (h : RepCs K S H vs [d]) : ∃ v, vs = [v] ∧ RepC K S H v d := by
  cases h with
  | cons h t => cases t; exact ⟨_, rfl, h⟩
theorem two_of {K : PySem.W.Frag} {S : Addr → Prop} {H : Hp} {vs : List V} {d e : D} (h : RepCs K S H vs [d, e]) : ∃ v w, vs = [v, w] ∧ RepC K S H v d ∧ RepC K S H w e := by
  cases h with
  | cons h t =>
    cases t with
    | cons h' t => cases t; exact ⟨_, _, rfl, h, h'⟩
theorem cal_len : CalD X (.builtin "len") (biD .len) := by
  intro ds r h pins s σ1 σ H S env vs us Q I rv ok hr q
  match ds, h with
  | [.str z], h =>
    simp only [biD] at h
    split at h
    · rename_i hc
      cases h
      obtain ⟨v, rfl, hv⟩ := one_of hr
      cases (Rep.str_inv hv)
      exact call_len pins s σ1 H _ us Q I rv ⟨_, z.length, rfl, ⟨lim_line hc, rfl⟩, q _ _ _ (Post.leaf (F := H) ok (.int _) rfl)⟩
    · cases h
  | [.list xs], h =>
    cases h
    obtain ⟨v, rfl, hv⟩ := one_of hr
    obtain ⟨a, vs, rfl, h1, h2⟩ := hv
    exact call_len pins s σ1 H _ us Q I rv ⟨_, xs.length, rfl, .inl ⟨vs, h1, h2.length.symm⟩, q _ _ _ (Post.leaf (F := H) ok (.int _) rfl)⟩
  | [.tuple xs], h =>
    cases h
    obtain ⟨v, rfl, hv⟩ := one_of hr
    obtain ⟨a, vs, rfl, h1, h2⟩ := Rep.tup_inv hv
    exact call_len pins s σ1 H _ us Q I rv ⟨_, xs.length, rfl, .inr ⟨vs, er_full.sqT h1, h2.length.symm⟩, q _ _ _ (Post.leaf (F := H) ok (.int _) rfl)⟩
theorem cal_abs : CalD X (.builtin "abs") (biD .abs) := by
  intro ds r h pins s σ1 σ H S env vs us Q I rv ok hr q
  match ds, h with
  | [.int i], h =>
    cases h
    obtain ⟨v, rfl, hv⟩ := one_of hr
    cases (Rep.int_inv hv)
    exact call_abs pins s σ1 H _ us Q I rv ⟨i, rfl, q _ _ _ (Post.leaf (F := H) ok (.int _) rfl)⟩
theorem cal_int : CalD X (.type "int") (biD .int) := by
  intro ds r h pins s σ1 σ H S env vs us Q I rv ok hr q
  match ds, h with
  | [.int i], h =>
    cases h
    obtain ⟨v, rfl, hv⟩ := one_of hr
    cases (Rep.int_inv hv)
    exact call_int1 pins s σ1 H _ us Q I rv (.inl ⟨i, rfl, q _ _ _ (Post.leaf (F := H) ok (.int _) rfl)⟩)
  | [.bool i], h =>
    cases h
    obtain ⟨v, rfl, hv⟩ := one_of hr
    cases (Rep.bl_inv hv)
    exact call_int1 pins s σ1 H _ us Q I rv (.inr ⟨i, rfl, q _ _ _ (Post.leaf (F := H) ok (.int _) rfl)⟩)
theorem cal_list : CalD X (.type "list") (biD .list) := by
  intro ds r h pins s σ1 σ H S env vs us Q I rv ok hr q
  match ds, h with
  | [.list xs], h =>
    cases h
    obtain ⟨v, rfl, hv⟩ := one_of hr
    obtain ⟨a, vs, rfl, h1, h2⟩ := hv
    exact call_list_of pins s σ1 H _ us Q I rv ⟨a, vs, rfl, .inl h1, fun l hl => q _ _ _ (Post.lst ok hl h2)⟩
  | [.tuple xs], h =>
    cases h
    obtain ⟨v, rfl, hv⟩ := one_of hr
    obtain ⟨a, vs, rfl, h1, h2⟩ := Rep.tup_inv hv
    exact call_list_of pins s σ1 H _ us Q I rv ⟨a, vs, rfl, .inr (er_full.sqT h1), fun l hl => q _ _ _ (Post.lst ok hl h2)⟩
theorem cal_tuple : CalD X (.type "tuple") (biD .tuple) := by
  intro ds r h pins s σ1 σ H S env vs us Q I rv ok hr q
  match ds, h with
  | [.list xs], h =>
    cases h
    obtain ⟨v, rfl, hv⟩ := one_of hr
    obtain ⟨a, vs, rfl, h1, h2⟩ := hv
    exact call_tuple_of pins s σ1 H _ us Q I rv ⟨a, vs, rfl, .inl ⟨h1, fun l hl => q _ _ _ (Post.tup ok hl h2)⟩⟩
  | [.tuple xs], h =>
    cases h
    obtain ⟨v, rfl, hv⟩ := one_of hr
    obtain ⟨a, vs, rfl, h1, h2⟩ := Rep.tup_inv hv
    exact call_tuple_of pins s σ1 H _ us Q I rv ⟨a, vs, rfl, .inr ⟨er_full.sqT h1, q _ _ _ (Post.same ok (show RV _ _ _ _ _ (.im (.tuple xs)) (.ref a) from .tup h1 h2) fun _ z => by cases z)⟩⟩
theorem ints_of {K : PySem.W.Frag} {F : Hp} : ∀ {vs : List V} {ds : List D} {is : List Int}, Reps K F vs ds → intsD ds = some is → vs = is.map V.int ∧ ds = is.map PyData.int
  | _, _, _, .nil, h => by cases h; exact ⟨rfl, rfl⟩
  | _, _, _, .cons (d := d) (ds := ds) h t, e => by
    cases d <;> first | (cases e; done) | skip
    rename_i i
    simp only [intsD] at e
    cases q : intsD ds with
    | none => rw [q] at e; cases e
    | some js =>
      rw [q] at e
      cases e
      obtain ⟨e1, e2⟩ := ints_of t q
      rw [e1, e2, h.int_inv]
      exact ⟨rfl, rfl⟩
theorem strs_of {K : PySem.W.Frag} {F : Hp} : ∀ {vs : List V} {ds : List D} {is : List Str}, Reps K F vs ds → strsD ds = some is → vs = is.map V.str ∧ ds = is.map PyData.str
  | _, _, _, .nil, h => by cases h; exact ⟨rfl, rfl⟩
  | _, _, _, .cons (d := d) (ds := ds) h t, e => by
    cases d <;> first | (cases e; done) | skip
    rename_i i
    simp only [strsD] at e
    cases q : strsD ds with
    | none => rw [q] at e; cases e
    | some js =>
      rw [q] at e
      cases e
      obtain ⟨e1, e2⟩ := strs_of t q
      rw [e1, e2, h.str_inv]
      exact ⟨rfl, rfl⟩
theorem bls_of {K : PySem.W.Frag} {F : Hp} : ∀ {vs : List V} {ds : List D} {is : List Bool}, Reps K F vs ds → blsD ds = some is → vs = is.map V.bl ∧ ds = is.map PyData.bool
  | _, _, _, .nil, h => by cases h; exact ⟨rfl, rfl⟩
  | _, _, _, .cons (d := d) (ds := ds) h t, e => by
    cases d <;> first | (cases e; done) | skip
    rename_i i
    simp only [blsD] at e
    cases q : blsD ds with
    | none => rw [q] at e; cases e
    | some js =>
      rw [q] at e
      cases e
      obtain ⟨e1, e2⟩ := bls_of t q
      rw [e1, e2, h.bl_inv]
      exact ⟨rfl, rfl⟩
theorem ints_reps {K : PySem.W.Frag} {F : Hp} : ∀ is : List Int, Reps K F (is.map V.int) (is.map PyData.int)
  | [] => .nil
  | i :: is => .cons (.int i) (ints_reps is)
theorem strs_reps {K : PySem.W.Frag} {F : Hp} : ∀ is : List Str, Reps K F (is.map V.str) (is.map PyData.str)
  | [] => .nil
  | i :: is => .cons (.str i) (strs_reps is)
theorem cal_sum (hc : X.calm = true) : CalD X (.builtin "sum") (biD .sum) := by
  intro ds r h pins s σ1 σ H S env vs us Q I rv ok hr q
  match ds, h with
  | [.list xs], h =>
    simp only [biD] at h
    cases e : intsD xs with
    | none => rw [e] at h; cases h
    | some is =>
      rw [e] at h
      cases h
      obtain ⟨v, rfl, hv⟩ := one_of hr
      obtain ⟨a, vs, rfl, h1, h2⟩ := hv
      obtain ⟨e1, e2⟩ := ints_of h2 e
      subst e1
      exact cr_sum hc pins s σ1 H _ us Q I rv ⟨a, is, rfl, h1, q _ _ _ (Post.leaf (F := H) ok (.int _) rfl)⟩
theorem cal_all (hc : X.calm = true) : CalD X (.builtin "all") (biD .all) := by
  intro ds r h pins s σ1 σ H S env vs us Q I rv ok hr q
  match ds, h with
  | [.list xs], h =>
    simp only [biD] at h
    cases e : blsD xs with
    | none => rw [e] at h; cases h
    | some is =>
      rw [e] at h
      cases h
      obtain ⟨v, rfl, hv⟩ := one_of hr
      obtain ⟨a, vs, rfl, h1, h2⟩ := hv
      obtain ⟨e1, e2⟩ := bls_of h2 e
      subst e1
      exact cr_all hc pins s σ1 H _ us Q I rv ⟨a, is, rfl, h1, q _ _ _ (Post.leaf (F := H) ok (.bl _) rfl)⟩
theorem cal_any (hc : X.calm = true) : CalD X (.builtin "any") (biD .any) := by
  intro ds r h pins s σ1 σ H S env vs us Q I rv ok hr q
  match ds, h with
  | [.list xs], h =>
    simp only [biD] at h
    cases e : blsD xs with
    | none => rw [e] at h; cases h
    | some is =>
      rw [e] at h
      cases h
      obtain ⟨v, rfl, hv⟩ := one_of hr
      obtain ⟨a, vs, rfl, h1, h2⟩ := hv
      obtain ⟨e1, e2⟩ := bls_of h2 e
      subst e1
      exact cr_any hc pins s σ1 H _ us Q I rv ⟨a, is, rfl, h1, q _ _ _ (Post.leaf (F := H) ok (.bl _) rfl)⟩
theorem cal_min (hc : X.calm = true) : CalD X (.builtin "min") (biD .min) := by
  intro ds r h pins s σ1 σ H S env vs us Q I rv ok hr q
  match ds, h with
  | [.int i, .int j], h =>
    cases h
    obtain ⟨v, w, rfl, hv, hw⟩ := two_of hr
    cases (Rep.int_inv hv)
    cases (Rep.int_inv hw)
    exact call_min2 hc pins s σ1 H _ us Q I rv ⟨i, j, rfl, q _ _ _ (Post.leaf (F := H) ok (.int _) rfl)⟩
theorem cal_max (hc : X.calm = true) : CalD X (.builtin "max") (biD .max) := by
  intro ds r h pins s σ1 σ H S env vs us Q I rv ok hr q
  match ds, h with
  | [.int i, .int j], h =>
    cases h
    obtain ⟨v, w, rfl, hv, hw⟩ := two_of hr
    cases (Rep.int_inv hv)
    cases (Rep.int_inv hw)
    exact call_max2 hc pins s σ1 H _ us Q I rv ⟨i, j, rfl, q _ _ _ (Post.leaf (F := H) ok (.int _) rfl)⟩
end
end DI

set_option maxRecDepth 100000
/-! DI8: sorted, isinstance, methods of lists. -/
namespace DI
open PySem PySem.Spec PyProof.Rows L2
/-! ### sorting: one order of its own -/
section
variable {α : Type} {lt : α → α → Bool}
theorem insBy_perm (x : α) : ∀ l : List α, (sortBy.insBy' lt x l).Perm (x :: l)
  | [] => .refl _
  | y :: r => by
    unfold sortBy.insBy'
    split
    · exact (List.Perm.cons y (insBy_perm x r)).trans (List.Perm.swap x y r)
    · exact .refl _
theorem sortBy_perm : ∀ l : List α, (sortBy lt l).Perm l
  | [] => .refl _
  | x :: r => (insBy_perm x _).trans ((sortBy_perm r).cons x)
theorem insBy_sorted (tr : ∀ a b c, lt b a = false → lt c b = false → lt c a = false) (as : ∀ a b, lt a b = true → lt b a = false) (x : α) : ∀ l : List α, l.Pairwise (fun a b => lt b a = false) → (sortBy.insBy' lt x l).Pairwise (fun a b => lt b a = false)
  | [], _ => List.pairwise_singleton _ _
  | y :: r, h => by
    unfold sortBy.insBy'
    obtain ⟨h1, h2⟩ := List.pairwise_cons.mp h
    split
    · rename_i hc
      refine List.pairwise_cons.mpr ⟨fun z hz => ?_, insBy_sorted tr as x r h2⟩
      rcases List.mem_cons.mp ((insBy_perm (lt := lt) x r).mem_iff.mp hz) with rfl | hz
      · exact as _ _ hc
      · exact h1 z hz
    · rename_i hc
      have hc' : lt y x = false := by simpa using hc
      refine List.pairwise_cons.mpr ⟨fun z hz => ?_, h⟩
      rcases List.mem_cons.mp hz with rfl | hz
      · exact hc'
      · exact tr _ _ _ hc' (h1 z hz)
theorem sortBy_sorted (tr : ∀ a b c, lt b a = false → lt c b = false → lt c a = false) (as : ∀ a b, lt a b = true → lt b a = false) : ∀ l : List α, (sortBy lt l).Pairwise (fun a b => lt b a = false)
  | [] => .nil
  | x :: r => insBy_sorted tr as x _ (sortBy_sorted tr as r)
theorem sorted_eq (an : ∀ a b, lt a b = false → lt b a = false → a = b) : ∀ {l m : List α}, l.Perm m → l.Pairwise (fun a b => lt b a = false) → m.Pairwise (fun a b => lt b a = false) → l = m
  | [], m, p, _, _ => by
    rw [List.nil_perm.mp p]
  | x :: r, [], p, _, _ => by
    have := p.length_eq
    simp at this
  | x :: r, y :: t, p, h, g => by
    obtain ⟨h1, h2⟩ := List.pairwise_cons.mp h
    obtain ⟨g1, g2⟩ := List.pairwise_cons.mp g
    have e : x = y := by
      rcases List.mem_cons.mp (p.mem_iff.mp List.mem_cons_self) with e | hx
      · exact e
      · rcases List.mem_cons.mp (p.mem_iff.mpr List.mem_cons_self) with e | hy
        · exact e.symm
        · exact an x y (g1 x hx) (h1 y hy)
    subst e
    rw [sorted_eq an (List.Perm.cons_inv p) h2 g2]
end
theorem intLt_an : ∀ a b : Int, decide (a < b) = false → decide (b < a) = false → a = b := fun a b h1 h2 => by
  have h1 := of_decide_eq_false h1
  have h2 := of_decide_eq_false h2
  omega
theorem sortInts_eq {ns ms : List Int} (p : ns.Perm ms) (h : ns.Pairwise (· ≤ ·)) : ns = sortBy (fun a b => decide (a < b)) ms := by
  refine sorted_eq intLt_an (p.trans (sortBy_perm ms).symm) (h.imp fun h => decide_eq_false (by omega)) (sortBy_sorted (fun a b c h1 h2 => ?_) (fun a b h1 => ?_) ms)
  · have h1 := of_decide_eq_false h1
    have h2 := of_decide_eq_false h2
    exact decide_eq_false (by omega)
  · have h1 := of_decide_eq_true h1
    exact decide_eq_false (by omega)
theorem listNat_lt_irrefl (a : List Nat) : ¬ a < a := List.lt_irrefl a
theorem strLt_an : ∀ a b : Str, strLt a b = false → strLt b a = false → a = b := fun a b h1 h2 => by
  have h1 : ¬ a.cps.toList < b.cps.toList := of_decide_eq_false h1
  have h2 : ¬ b.cps.toList < a.cps.toList := of_decide_eq_false h2
  have e : a.cps.toList = b.cps.toList := List.le_antisymm (List.not_lt.mp h2) (List.not_lt.mp h1)
  obtain ⟨⟨la⟩⟩ := a
  obtain ⟨⟨lb⟩⟩ := b
  cases (show la = lb from e)
  rfl
theorem strLt_as : ∀ a b : Str, strLt a b = true → strLt b a = false := fun a b h1 => by
  have h1 : a.cps.toList < b.cps.toList := of_decide_eq_true h1
  exact decide_eq_false fun h2 => List.lt_irrefl _ (List.lt_trans h1 h2)
theorem strLt_tr : ∀ a b c : Str, strLt b a = false → strLt c b = false → strLt c a = false := fun a b c h1 h2 => by
  have h1 : ¬ b.cps.toList < a.cps.toList := of_decide_eq_false h1
  have h2 : ¬ c.cps.toList < b.cps.toList := of_decide_eq_false h2
  exact decide_eq_false (List.not_lt.mpr (List.le_trans (List.not_lt.mp h1) (List.not_lt.mp h2)))
theorem risingS_pair : ∀ (p : Str) (l : List Str), risingS p l = true → (p :: l).Pairwise (fun a b => strLt b a = false)
  | p, [], _ => List.pairwise_singleton _ _
  | p, x :: r, h => by
    have h' : (!ltCps x.cps.toList p.cps.toList && risingS x r) = true := h
    rw [Bool.and_eq_true, ltCps_eq] at h'
    obtain ⟨h1, h2⟩ := h'
    have h3 : strLt x p = false := by simpa [strLt] using h1
    have ih := risingS_pair x r h2
    refine List.pairwise_cons.mpr ⟨fun z hz => ?_, ih⟩
    rcases List.mem_cons.mp hz with rfl | hz
    · exact h3
    · exact strLt_tr _ _ _ h3 ((List.pairwise_cons.mp ih).1 z hz)
theorem sortedS_pair {l : List Str} (h : sortedS l = true) : l.Pairwise (fun a b => strLt b a = false) := by
  cases l with
  | nil => exact .nil
  | cons x r => exact risingS_pair x r h
theorem sortStrs_eq {ns ms : List Str} (p : ns.Perm ms) (h : sortedS ns = true) : ns = sortBy strLt ms :=
  sorted_eq strLt_an (p.trans (sortBy_perm ms).symm) (sortedS_pair h) (sortBy_sorted strLt_tr strLt_as ms)
section
variable {Φ : Fns} {X : Cx} {a b c e : Expr} {es rest : List Expr} {xa xb xc x xl xh : Xp} {xs : Xps} {pos p2 : Pos}
theorem cal_sorted : CalD X (.builtin "sorted") (biD .sorted) := by
  intro ds r h pins s σ1 σ H S env vs us Q I rv ok hr q
  match ds, h with
  | [.list xs], h =>
    obtain ⟨v, rfl, hv⟩ := one_of hr
    obtain ⟨a, vs, rfl, h1, h2⟩ := hv
    simp only [biD] at h
    match xs, h, h2 with
    | [], h, h2 =>
      cases h
      cases h2
      refine cr_sorted pins s σ1 H _ us Q I rv ⟨a, [], rfl, h1, by decide, fun ns' p hp _ hn => ?_⟩
      cases (List.perm_nil.mp hp)
      exact q _ _ _ (Post.lst ok hn .nil)
    | .int i :: r', h, h2 =>
      simp only [sortedD] at h
      cases e : intsD r' with
      | none => rw [e] at h; cases h
      | some is =>
        rw [e] at h
        dsimp only at h
        split at h
        · rename_i hl
          cases h
          obtain ⟨e1, e2⟩ := ints_of (is := i :: is) h2 (by simp only [intsD, e, Option.map_some])
          subst e1
          refine cr_sorted pins s σ1 H _ us Q I rv ⟨a, i :: is, rfl, h1, by rw [List.length_cons]; omega, fun ns' p hp hw hn => ?_⟩
          rw [sortInts_eq hp hw]
          exact q _ _ _ (Post.lst ok hn (ints_reps _))
        · cases h
    | .str i :: r', h, h2 =>
      simp only [sortedD] at h
      cases e : strsD r' with
      | none => rw [e] at h; cases h
      | some is =>
        rw [e] at h
        dsimp only at h
        split at h
        · rename_i hl
          cases h
          obtain ⟨e1, e2⟩ := strs_of (is := i :: is) h2 (by simp only [strsD, e, Option.map_some])
          subst e1
          refine cr_sortedS pins s σ1 H _ us Q I rv ⟨a, i :: is, rfl, h1, by rw [List.length_cons]; omega, fun ns' p hp hw hn => ?_⟩
          rw [sortStrs_eq hp hw]
          exact q _ _ _ (Post.lst ok hn (strs_reps _))
        · cases h
    | .none :: _, h, _ => cases h
    | .bool _ :: _, h, _ => cases h
    | .list _ :: _, h, _ => cases h
    | .tuple _ :: _, h, _ => cases h
    | .dict _ :: _, h, _ => cases h

/-! ### isinstance -/
theorem tyx_of {K : PySem.W.Frag} {H : Hp} {v : V} {d : D} (h : Rep K H v d) : TyX K H v (.type (tyD d)) := by
  cases h with
  | non => exact .base .non
  | bl b => exact .base (.bl b)
  | int i => exact .base (.int i)
  | str x => exact .base (.str x)
  | lst h1 h2 =>
    rcases h1 with (h1 | ⟨o, h1⟩) | ⟨o, its, n, hk, hc, _⟩
    · exact .base (.lst h1)
    · exact .base (.frz h1)
    · exact .kList hk hc
  | tup h1 h2 =>
    rcases h1 with (h1 | ⟨o, h1⟩) | ⟨o, its, n, hk, hc, _⟩
    · exact .base (.tup h1)
    · exact .fTuple h1
    · exact .kTuple hk hc
  | dic h1 h2 =>
    rcases h1 with h1 | ⟨o, h1⟩
    · exact .base (.dK h1)
    · exact .fDict h1
theorem tyIs_kit {a t : String} {k : Bool} (ha : a ∈ ["NoneType", "bool", "int", "str", "list", "tuple", "dict"]) (h : tyIs a t = some k) : kitB a t = some k := by
  have all : ∀ a ∈ ["NoneType", "bool", "int", "str", "list", "tuple", "dict"], ∀ t ∈ ["int", "bool", "str", "list", "tuple", "dict"], kitB a t = tyIs a t := by decide +kernel
  by_cases ht : t ∈ ["int", "bool", "str", "list", "tuple", "dict"]
  · rw [all a ha t ht]
    exact h
  · unfold tyIs at h
    split at h <;> first | (exact absurd (by decide) ht) | cases h
theorem isTy_kit {d : D} {t : String} {k : Bool} (h : isTy d t = some k) : kitB (tyD d) t = some k := by
  refine tyIs_kit ?_ h
  cases d <;> simp [tyD]
theorem isTys_kit {K : PySem.W.Frag} {d : D} : ∀ {ts : List String} {k : Bool}, isTys d ts = some k → PySem.W.kitAny K (.type (tyD d)) (ts.map Value.type) = some k
  | [], k, h => by
    cases h
    exact kitAny_nil
  | t :: ts, k, h => by
    simp only [isTys] at h
    cases e : isTy d t with
    | none => rw [e] at h; cases h
    | some b =>
      rw [e] at h
      cases b with
      | true =>
        cases h
        exact kitAny_cons (kit_ty (isTy_kit e)) (fun z => by cases z) fun _ => rfl
      | false => exact kitAny_cons (kit_ty (isTy_kit e)) (fun _ => isTys_kit h) fun z => by cases z
theorem ev_isi_inv {tys : List String} {env env' : Env} {r : R} (h : ev Φ (.isi xa tys) env = some (r, env')) : ∃ r1 d k, ev Φ xa env = some (r1, env') ∧ r1.val env' = some d ∧ isTys d tys = some k ∧ r = .im (.bool k) := by
  simp only [ev] at h
  obtain ⟨r1, en1, e1, h⟩ := ev_inv1 h
  cases f1 : r1.val en1 with
  | none => rw [f1] at h; cases h
  | some d =>
    rw [f1] at h
    dsimp only at h
    cases g : isTys d tys with
    | none => rw [g] at h; cases h
    | some k =>
      rw [g] at h
      cases h
      exact ⟨r1, d, k, e1, f1, g, rfl⟩
/-- names of built-in classes, as arguments -/
def PTys (X : Cx) (es : List Expr) (tys : List String) : Prop := PA X es (fun _ H Q => Q (tys.map V.ty) H)
theorem ptys_nil : PTys X [] [] := pa_nil
theorem ptys_cons {y T : String} {p : Pos} {tys : List String} (hg : Gl X (y : Str)) (hm : X.mg (y : Str) = none) (hv : bootBuiltins (y : Str) = some (.type T)) (h : PTys X es tys) (hn : (y : Str) ≠ "__name__" := by decide) (hdb : ((y : Str) == ("__debug__" : Str)) = false := by decide)
    (hs : starEach (.Name (y : Str) p :: es) X.env = (false, eval (.Name (y : Str) p) X.env) :: starEach es X.env := by rfl) : PTys X (.Name (y : Str) p :: es) (T :: tys) :=
  ⟨fun pos pins s σ H Q I hq => (pa_cons (pe_bltn (v := .ty T) hg hm hv rfl hn hdb) h hs).run pos pins s σ H Q I hq⟩
theorem snd_isi1 {T : String} {t : Expr} {y : Str} {p : Pos} (hg : Gl X y) (hm : X.mg y = none) (hv : bootBuiltins y = some (.builtin "isinstance")) (ha : Snd Φ X a xa) (ht : PTys X [t] [T]) (hn : y ≠ "__name__" := by decide) (hdb : (y == ("__debug__" : Str)) = false := by decide)
    (hs : starEach [a, t] X.env = (false, eval a X.env) :: starEach [t] X.env := by exact star_cons rfl) (hpl : (backTo pos (starEach [t] X.env)).any (·.1) = false := by rfl) : Snd Φ X (.Call (.Name y p) [a, t] [] pos) (.isi xa [T]) := .mk fun env r env' h S σ H ok Q q => by
  obtain ⟨r1, d, k, e1, f1, g, rfl⟩ := ev_isi_inv h
  refine any_of (pe_callB call_isi hg hm hv (pa_cons pe_any ht hs) hn hdb hs hpl) (ha env r1 env' e1 S σ H ok _ fun v S1 H1 P => ?_)
  have g' : PySem.W.kitOne X.K (.type (tyD d)) (.type T) = some k := by
    simp only [isTys] at g
    cases e : isTy d T with
    | none => rw [e] at g; cases g
    | some b =>
      rw [e] at g
      cases b <;> (cases g; exact kit_ty (isTy_kit e))
  exact ⟨v, .ty T, _, _, k, rfl, .ty T, tyx_of (P.rv.rep P.ok f1), g', q _ _ _ ((Post.leaf (F := H1) P.ok (.bl _) rfl).after P.fw)⟩
theorem paired_ty : ∀ tys : List String, Paired ClsV (tys.map V.ty) (tys.map Value.type)
  | [] => .nil
  | t :: ts => .cons (.ty t) (paired_ty ts)
theorem snd_isiT {tys : List String} {ts : List Expr} {y : Str} {p p3 : Pos} {k3 : Nat} (hg : Gl X y) (hm : X.mg y = none) (hv : bootBuiltins y = some (.builtin "isinstance")) (ha : Snd Φ X a xa) (ht : PTys X ts tys) (hl : tys.length ≤ lim := by decide) (hn : y ≠ "__name__" := by decide) (hdb : (y == ("__debug__" : Str)) = false := by decide)
    (hs : starEach [a, .Tuple ts k3 p3] X.env = (false, eval a X.env) :: starEach [.Tuple ts k3 p3] X.env := by exact star_cons rfl) (hs2 : starEach [.Tuple ts k3 p3] X.env = (false, eval (.Tuple ts k3 p3) X.env) :: starEach [] X.env := by exact star_cons rfl) (hpl : (backTo pos (starEach [.Tuple ts k3 p3] X.env)).any (·.1) = false := by rfl) : Snd Φ X (.Call (.Name y p) [a, .Tuple ts k3 p3] [] pos) (.isi xa tys) := .mk fun env r env' h S σ H ok Q q => by
  obtain ⟨r1, d, k, e1, f1, g, rfl⟩ := ev_isi_inv h
  refine any_of (pe_callB call_isiT hg hm hv (pa_cons pe_any (pa_cons (pe_tup ht) pa_nil hs2) hs) hn hdb hs hpl) (ha env r1 env' e1 S σ H ok _ fun v S1 H1 P => ?_)
  refine ⟨lim_line (by rw [List.length_map]; exact hl), fun tp htp => ?_⟩
  refine ⟨v, tp, _, _, _, k, rfl, upd_same, paired_ty tys, tyx_of ((P.rv.rep P.ok f1).mono (le_upd htp)), isTys_kit g, ?_⟩
  exact q _ _ _ ((Post.leaf (F := H1) (P.ok.new htp) (.bl _) rfl).after (P.fw.trans (Fw.new htp)))

/-! ### methods of a list that a slot owns -/
/-- a method of a list does what meD says -/
def MeD (X : Cx) (id : String) (m : Me) : Prop := ∀ xs ds d ys, meD m xs ds = some (d, ys) → ∀ (pins : List (Addr × Obj)) (s : Shared) (σ1 : L2.St) (H F : Hp) (l : Addr) (vs ws : List V) (v : Value) (us : List Value) (Q : VK),
  Inv X pins σ1 H s → RelV (.ref l) v → Vals ws us → H l = some (.lst vs) → Reps X.K F vs xs → Reps X.K F ws ds → (∀ y vs', Rep X.K F y d → Reps X.K F vs' ys → Q y (upd H l (.lst vs'))) → wpAny (model X.prog X.w) X.A (call (.builtin id) (v :: us)) (EP X pins σ1 Q) X.xe s
theorem med_append : MeD X "list.append" .append := by
  intro xs ds d ys h pins s σ1 H F l vs ws v us Q I rx rv hl h1 h2 q
  match ds, h with
  | [y], h =>
    simp only [meD] at h
    split at h
    · rename_i hc
      cases h
      cases h2 with
      | cons g1 g2 =>
        cases g2
        exact mt_append pins s σ1 H _ _ v us Q I rx rv ⟨l, vs, _, rfl, rfl, hl, by rw [h1.length, sizeLine_eq]; unfold lim at hc; omega, q _ _ .non (h1.append (.cons g1 .nil))⟩
    · cases h
theorem Reps.dropLast {K : PySem.W.Frag} {F : Hp} {v : List V} {d : List D} (h : Reps K F v d) : Reps K F v.dropLast d.dropLast := by
  rw [List.dropLast_eq_take, List.dropLast_eq_take, h.length]
  exact h.take _
theorem med_pop : MeD X "list.pop" .pop := by
  intro xs ds d ys h pins s σ1 H F l vs ws v us Q I rx rv hl h1 h2 q
  match ds, h with
  | [], h =>
    simp only [meD] at h
    cases e : xs[xs.length - 1]? with
    | none => rw [e] at h; cases h
    | some y =>
      rw [e] at h
      cases h
      cases h2
      obtain ⟨w, g1, g2⟩ := h1.get e
      rw [← h1.length] at g1
      exact mt_pop pins s σ1 H _ _ v us Q I rx rv ⟨l, vs, w, rfl, rfl, hl, g1, q _ _ g2 h1.dropLast⟩
theorem med_popAt : MeD X "list.pop" .popAt := by
  intro xs ds d ys h pins s σ1 H F l vs ws v us Q I rx rv hl h1 h2 q
  match ds, h with
  | [.int i], h =>
    simp only [meD] at h
    cases e : ixN xs.length i with
    | none => rw [e] at h; cases h
    | some k =>
      rw [e] at h
      dsimp only at h
      cases e2 : xs[k]? with
      | none => rw [e2] at h; cases h
      | some y =>
        rw [e2] at h
        dsimp only at h
        split at h
        · rename_i hc
          cases h
          rw [Bool.and_eq_true, decide_eq_true_iff, decide_eq_true_iff] at hc
          obtain ⟨w, g1, g2⟩ := h1.get e2
          cases h2 with
          | cons g3 g4 =>
            cases g4
            cases (g3.int_inv)
            exact mt_popAt pins s σ1 H _ _ v us Q I rx rv ⟨l, vs, i, k, w, rfl, rfl, hl, hc.1, hc.2, (by rw [h1.length]; exact (ixN_seq e).1), g1, q _ _ g2 (h1.eraseIdx k)⟩
        · cases h
theorem med_reverse : MeD X "list.reverse" .reverse := by
  intro xs ds d ys h pins s σ1 H F l vs ws v us Q I rx rv hl h1 h2 q
  match ds, h with
  | [], h =>
    cases h
    cases h2
    exact mt_reverse pins s σ1 H _ _ v us Q I rx rv ⟨l, vs, rfl, rfl, hl, q _ _ .non h1.reverse⟩
end
end DI

set_option maxRecDepth 100000
/-! DI9: methods and calls in an expression. -/
namespace DI
open PySem PySem.Spec PyProof.Rows L2
section
variable {K : PySem.W.Frag} {S S' : Addr → Prop} {H H' : Hp} {σ : L2.St} {env env' : Env}
theorem mut_not_frz {p : Addr} {u : HO} (h : Rd H p u) (m : Mut (H p)) : H p = some u := by
  rcases h with h | ⟨o, h⟩
  · exact h
  · rw [h] at m; exact m.elim
theorem er_upd {p : Addr} {o : HO} (hs : S p) : er S (upd H p o) = er S H := by
  funext a
  unfold er
  by_cases ha : S a
  · rw [if_pos ha, if_pos ha]
  · rw [if_neg ha, if_neg ha, upd_ne (fun z => ha (by rw [z]; exact hs))]
/-- a list or dict that a slot owns is changed -/
theorem EnvOk.mutate {i : Nat} {k : Kd} {d d' : D} {p : Addr} {o : HO} (ok : EnvOk K S σ H env) (e : env[i]? = some (.ow k d)) (hk : k ≠ .lck) (hp : σ[i]? = some (some (.ref p))) (ho : Own K (er S H) (upd H p o) p d') (hm : Mut (some o)) :
    EnvOk K S σ (upd H p o) (env.set i (.ow k d')) ∧ Fw S H σ env S (upd H p o) σ (env.set i (.ow k d')) := by
  obtain ⟨p', q1, hs, q3, q4⟩ := ok.ow i _ d e
  rw [hp] at q1
  cases q1
  have hi : i < env.length := (List.getElem?_eq_some_iff.mp e).1
  have get : ∀ (j : Nat) (s : Sl), (env.set i (.ow k d'))[j]? = some s → (i = j ∧ s = .ow k d') ∨ (i ≠ j ∧ env[j]? = some s) := fun j s h => getElem?_set_cases h
  refine ⟨⟨by rw [List.length_set]; exact ok.len, fun a h => upd_dom (ok.dom a h), fun j d1 e1 => ?_, fun j l d1 e1 => ?_, fun j1 j2 l1 l2 d1 d2 q h1 h2 h3 h4 => ?_⟩, ⟨fun a h => .inl h, fun a h _ _ => h, fun a u h n => ?_, fun a h => ?_, fun j d1 h => ?_, fun j d1 h => ?_, fun j d1 h => ?_, fun j d1 h => ?_, fun a h => upd_dom h⟩⟩
  · rw [er_upd hs]
    rcases get j _ e1 with ⟨_, z⟩ | ⟨_, z⟩
    · cases z
    · exact ok.im j d1 z
  · rw [er_upd hs]
    rcases get j _ e1 with ⟨rfl, z⟩ | ⟨ne, z⟩
    · cases z
      exact ⟨p, hp, hs, ho, fun _ => by rw [upd_same]; exact hm⟩
    · obtain ⟨q, h1, h2, h3, h4⟩ := ok.ow j l d1 z
      have nq : q ≠ p := fun w => by
        subst w
        exact ne (ok.inj i j _ _ _ _ _ e z hp h1)
      refine ⟨q, h1, h2, h3.mono (Le.refl _) (fun u r => ?_), fun w => by rw [upd_ne nq]; exact h4 w⟩
      unfold Rd at r ⊢
      rw [upd_ne nq]
      exact r
  · have f : ∀ (j : Nat) l d1, (env.set i (.ow k d'))[j]? = some (.ow l d1) → ∃ l' d', env[j]? = some (.ow l' d') := fun j l d1 h => by
      rcases get j _ h with ⟨rfl, _⟩ | ⟨_, z⟩
      · exact ⟨_, _, e⟩
      · exact ⟨_, _, z⟩
    obtain ⟨_, _, g1⟩ := f j1 _ _ h1
    obtain ⟨_, _, g2⟩ := f j2 _ _ h2
    exact ok.inj j1 j2 _ _ _ _ q g1 g2 h3 h4
  · have np : a ≠ p := fun z => by
      subst z
      cases k with
      | own => exact n (.inl ⟨i, d, e, hp⟩)
      | bor => exact n (.inr ⟨i, d, e, hp⟩)
      | lck => exact hk rfl
    rw [upd_ne np]
    exact h
  · obtain ⟨j, d1, h1, h2⟩ := h
    rcases get j _ h1 with ⟨rfl, z⟩ | ⟨_, z⟩
    · cases z
      exact .inl ⟨i, d, e, h2⟩
    · exact .inl ⟨j, d1, z, h2⟩
  · by_cases q : i = j
    · subst q
      rw [e] at h
      cases h
      exact ⟨d', by rw [List.getElem?_set_self hi], rfl⟩
    · exact ⟨d1, by rw [List.getElem?_set_ne q]; exact h, rfl⟩
  · rcases get j _ h with ⟨rfl, z⟩ | ⟨_, z⟩
    · cases z
      exact ⟨d, e, rfl⟩
    · exact ⟨d1, z, rfl⟩
  · have q : i ≠ j := fun q => by
      subst q
      rw [e] at h
      cases h
      exact hk rfl
    exact ⟨by rw [List.getElem?_set_ne q]; exact h, rfl⟩
  · rcases get j _ h with ⟨rfl, z⟩ | ⟨_, z⟩
    · cases z
      exact absurd rfl hk
    · exact ⟨z, rfl⟩
end
section
variable {Φ : Fns} {X : Cx} {a b c e : Expr} {es rest : List Expr} {xa xb xc x xl xh : Xp} {xs : Xps} {pos apos cpos p2 : Pos}
/-- what a method wants of its values, whatever the slots are -/
def rMet (X : Cx) (id : String) : V → List V → Hp → VK → Prop := fun x xs H Q => ∀ (pins : List (Addr × Obj)) (s : Shared) (σ1 : L2.St) (v : Value) (us : List Value), Inv X pins σ1 H s → RelV x v → Vals xs us → wpAny (model X.prog X.w) X.A (call (.builtin id) (v :: us)) (EP X pins σ1 Q) X.xe s
theorem rMet_ok {id : String} : MtR X id (rMet X id) := fun pins s σ H x xs v us Q I rx r h => h pins s σ v us I rx r
theorem ev_me_inv {m : Me} {i : Nat} {env env' : Env} {r : R} (h : ev Φ (.me m i xs) env = some (r, env')) : ∃ k0 xs0 ds en1 k zs d ys, env[i]? = some (.ow k0 (.list xs0)) ∧ evS Φ xs env = some (ds, en1) ∧ en1[i]? = some (.ow k (.list zs)) ∧ k ≠ .lck ∧ meD m zs ds = some (d, ys) ∧ r = .im d ∧ env' = en1.set i (.ow k (.list ys)) := by
  simp only [ev] at h
  cases e0 : env[i]? with
  | none => rw [e0] at h; cases h
  | some s0 =>
    rw [e0] at h
    cases s0 with
    | un => cases h
    | im d => cases h
    | ow k0 d0 =>
      cases d0 <;> first | cases h | skip
      rename_i xs0
      dsimp only at h
      cases e1 : evS Φ xs env with
      | none => rw [e1] at h; cases h
      | some p1 =>
        obtain ⟨ds, en1⟩ := p1
        rw [e1] at h
        dsimp only at h
        cases e2 : en1[i]? with
        | none => rw [e2] at h; cases h
        | some s1 =>
          rw [e2] at h
          cases s1 with
          | un => cases h
          | im d => cases h
          | ow k d1 =>
            cases d1 <;> first | cases h | skip
            rename_i zs
            dsimp only at h
            by_cases hk : k = .lck
            · rw [if_pos hk] at h; cases h
            · rw [if_neg hk] at h
              cases e3 : meD m zs ds with
              | none => rw [e3] at h; cases h
              | some p3 =>
                obtain ⟨d, ys⟩ := p3
                rw [e3] at h
                cases h
                exact ⟨k0, xs0, ds, en1, k, zs, d, ys, rfl, rfl, e2, hk, e3, rfl, rfl⟩
theorem me_run {m : Me} {id : String} {i : Nat} (hm : MeD X id m) (hv : Snd Φ X a (.v i)) (ha : SndS Φ X es xs) {env env' : Env} {r : R} (h : ev Φ (.me m i xs) env = some (r, env')) {S : Addr → Prop} {σ : L2.St} {H : Hp} (ok : EnvOk X.K S σ H env) {Q : VK} (q : ∀ v S' H', Post X.K S H σ env r env' v S' H' → Q v H') :
    tBM X.K "list" (rMet X id) (AnyE X a) (AnyA X es) σ H Q := by
  obtain ⟨k0, xs0, ds, en1, k, zs, d, ys, e0, e1, e2, hk, e3, rfl, rfl⟩ := ev_me_inv h
  have ev0 : ev Φ (.v i) env = some (.al i, env) := by simp only [ev, e0]
  refine hv env (.al i) env ev0 S σ H ok _ fun v S1 H1 P => ?_
  have hσ : σ[i]? = some (some v) := P.rv
  obtain ⟨p, g1, _, g2, _⟩ := P.ok.ow i _ _ e0
  rw [hσ] at g1
  cases g1
  obtain ⟨ws, g3, _⟩ := g2
  refine ⟨.inl ⟨rfl, ws, .inl g3⟩, ha env ds en1 e1 S1 σ H1 P.ok _ fun vs S2 H2 f2 ok2 rs pins s σ1 v us I rx rv => ?_⟩
  obtain ⟨p', g1', g4, g5, g6⟩ := ok2.ow i _ _ e2
  rw [hσ] at g1'
  cases g1'
  obtain ⟨ws', g7, g8⟩ := g5
  have hl := mut_not_frz g7 (g6 hk)
  refine hm zs ds d ys e3 pins s σ1 H2 (er S2 H2) p ws' vs v us Q I rx rv hl g8 rs fun y vs' r1 r2 => ?_
  obtain ⟨m1, m2⟩ := ok2.mutate (d' := .list ys) (o := .lst vs') e2 hk hσ ⟨vs', .inl upd_same, r2⟩ True.intro
  refine q _ _ _ ⟨(P.fw.trans f2).trans m2, m1, ?_, fun _ _ z => by cases z⟩
  show Rep X.K (er S2 (upd H2 p (.lst vs'))) y d
  rw [er_upd g4]
  exact r1
theorem snd_me {m : Me} {id : String} {nm : Str} {i : Nat} (slot : Slot "list" nm id) (hty : typeOf (.builtin id) = pure (.type "method_descriptor")) (hm : MeD X id m) (hv : Snd Φ X a (.v i)) (ha : SndS Φ X (e :: es) xs)
    (hbase : attributeBase a nm X.env (eval a X.env) = eval a X.env := by rfl)
    (hfew : ((backTo cpos (starEach (e :: es) X.env)).all (fun x => !x.1) && (backToKw cpos (keywordEach [] X.env)).all (fun x => x.1.isSome)
      && decide ((e :: es).length + ([] : List Keyword).length + (if ([] : List Keyword).isEmpty then 0 else 1) < 30)) = true := by rfl)
    (hline : (apos.endLine == cpos.line) = true := by rfl) (hs : starEach (e :: es) X.env = (false, eval e X.env) :: starEach es X.env := by exact star_cons rfl) (hplain : (backTo cpos (starEach es X.env)).any (·.1) = false := by rfl) :
    Snd Φ X (.Call (.Attribute a nm apos) (e :: es) [] cpos) (.me m i xs) := .mk fun env r env' h S σ H ok Q q =>
  any_of (pe_bm PySem.F.plainAttrs_list slot hty rMet_ok pe_any pa_any hbase hfew hline hs hplain) (me_run hm hv ha h ok q)
theorem snd_me0 {m : Me} {id : String} {nm : Str} {i : Nat} (slot : Slot "list" nm id) (hty : typeOf (.builtin id) = pure (.type "method_descriptor")) (hm : MeD X id m) (hv : Snd Φ X a (.v i))
    (hbase : attributeBase a nm X.env (eval a X.env) = eval a X.env := by rfl) (hline : (apos.endLine == cpos.line) = true := by rfl) :
    Snd Φ X (.Call (.Attribute a nm apos) [] [] cpos) (.me m i .nil) := .mk fun env r env' h S σ H ok Q q => by
  have t := me_run hm hv sndS_nil h ok q
  refine any_of (pe_bm0 PySem.F.plainAttrs_list slot hty rMet_ok pe_any hbase hline) ?_
  obtain ⟨k0, xs0, ds, en1, k, zs, d, ys, e0, e1, e2, hk, e3, rfl, rfl⟩ := ev_me_inv h
  simp only [evS] at e1
  cases e1
  have ev0 : ev Φ (.v i) env = some (.al i, env) := by simp only [ev, e0]
  refine hv env (.al i) env ev0 S σ H ok _ fun v S1 H1 P => ?_
  have hσ : σ[i]? = some (some v) := P.rv
  obtain ⟨p, g1, g4, g2, g6⟩ := P.ok.ow i _ _ e2
  rw [hσ] at g1
  cases g1
  obtain ⟨ws', g7, g8⟩ := g2
  have hl := mut_not_frz g7 (g6 hk)
  refine ⟨.inl ⟨rfl, ws', .inl g7⟩, fun pins s σ1 v us I rx rv => ?_⟩
  refine hm zs [] d ys e3 pins s σ1 H1 (er S1 H1) p ws' [] v us Q I rx rv hl g8 .nil fun y vs' r1 r2 => ?_
  obtain ⟨m1, m2⟩ := P.ok.mutate (d' := .list ys) (o := .lst vs') e2 hk hσ ⟨vs', .inl upd_same, r2⟩ True.intro
  refine q _ _ _ ⟨P.fw.trans m2, m1, ?_, fun _ _ z => by cases z⟩
  show Rep X.K (er S1 (upd H1 p (.lst vs'))) y d
  rw [er_upd g4]
  exact r1

/-! ### calls of defs -/
/-- a def's promise: it does what g says of its parameters' slots -/
def spD (K : PySem.W.Frag) (g : List Sl → Option (R × List Sl)) : Sp := fun vs H Q _ => ∃ (S : Addr → Prop) (args : List Sl) (r : R) (fin : List Sl), g args = some (r, fin) ∧ EnvOk K S (vs.map some) H args ∧
  (∀ (i : Nat) d, args[i]? ≠ some (.ow .own d)) ∧ ∀ v S2 H2, Post K S H (vs.map some) args r fin v S2 H2 → Q v H2
theorem back_cases : ∀ (rs : List R) (fin : List Sl) (env : Env) (i : Nat) (s : Sl), (alsOf rs).Nodup → (backSl env rs fin)[i]? = some s →
    (∃ (n : Nat) (k : Kd) (d0 d : D), rs[n]? = some (.al i) ∧ fin[n]? = some (.ow .bor d) ∧ env[i]? = some (.ow k d0) ∧ s = .ow k d) ∨ (env[i]? = some s ∧ ¬ ∃ (n : Nat) (d : D) (k : Kd) (d0 : D), rs[n]? = some (.al i) ∧ fin[n]? = some (.ow .bor d) ∧ env[i]? = some (.ow k d0))
  | [], fin, env, i, s, _, h => by
    have h' : env[i]? = some s := by
      cases fin <;> exact h
    exact .inr ⟨h', fun ⟨n, d, k, d0, q, _⟩ => by simp at q⟩
  | r :: rs, [], env, i, s, _, h => by
    have h' : env[i]? = some s := by
      cases r <;> exact h
    exact .inr ⟨h', fun ⟨n, d, k, d0, _, q, _⟩ => by simp at q⟩
  | r :: rs, f :: fin, env, i, s, nd, h => by
    -- the plain step: nothing is done at this place
    have plain : (alsOf rs).Nodup → (backSl env rs fin)[i]? = some s → (∀ d k d0, ¬ (r = .al i ∧ f = .ow .bor d ∧ env[i]? = some (.ow k d0))) →
        (∃ (n : Nat) (k : Kd) (d0 d : D), (r :: rs)[n]? = some (.al i) ∧ (f :: fin)[n]? = some (.ow .bor d) ∧ env[i]? = some (.ow k d0) ∧ s = .ow k d) ∨ (env[i]? = some s ∧ ¬ ∃ (n : Nat) (d : D) (k : Kd) (d0 : D), (r :: rs)[n]? = some (.al i) ∧ (f :: fin)[n]? = some (.ow .bor d) ∧ env[i]? = some (.ow k d0)) := fun nd' h' no => by
      rcases back_cases rs fin env i s nd' h' with ⟨n, k, d0, d, h1, h2, h3, h4⟩ | ⟨h1, h2⟩
      · exact .inl ⟨n + 1, k, d0, d, by simpa using h1, by simpa using h2, h3, h4⟩
      · refine .inr ⟨h1, fun ⟨n, d, k, d0, q1, q2, q3⟩ => ?_⟩
        cases n with
        | zero => exact no d k d0 ⟨by simpa using q1, by simpa using q2, q3⟩
        | succ n => exact h2 ⟨n, d, k, d0, by simpa using q1, by simpa using q2, q3⟩
    cases r with
    | im d => exact plain nd (by cases f <;> exact h) fun d k d0 q => by cases q.1
    | fr d => exact plain nd (by cases f <;> exact h) fun d k d0 q => by cases q.1
    | al j =>
      have nd' : (alsOf rs).Nodup := (List.nodup_cons.mp nd).2
      have nj : j ∉ alsOf rs := (List.nodup_cons.mp nd).1
      have jn : ∀ n : Nat, rs[n]? ≠ some (.al j) := fun n q => by
        have : ∀ (rs : List R) (n : Nat), rs[n]? = some (.al j) → j ∈ alsOf rs := fun rs => by
          induction rs with
          | nil => intro n q; simp at q
          | cons r rs ih =>
            intro n q
            cases n with
            | zero =>
              have e : r = .al j := by simpa using q
              subst e
              exact List.mem_cons_self
            | succ n =>
              have m := ih n (by simpa using q)
              cases r with
              | im d => exact m
              | fr d => exact m
              | al l => exact List.mem_cons_of_mem _ m
        exact nj (this rs n q)
      cases f with
      | un => exact plain nd' h fun d k d0 q => by cases q.2.1
      | im d => exact plain nd' h fun d k d0 q => by cases q.2.1
      | ow kf df =>
        cases kf with
        | own => exact plain nd' h fun d k d0 q => by cases q.2.1
        | lck => exact plain nd' h fun d k d0 q => by cases q.2.1
        | bor =>
          simp only [backSl] at h
          cases q : env[j]? with
          | none =>
            rw [q] at h
            exact plain nd' h fun d k d0 z => by
              have e : j = i := by simpa using z.1
              rw [← e, q] at z
              cases z.2.2
          | some sj =>
            rw [q] at h
            cases sj with
            | un =>
              exact plain nd' h fun d k d0 z => by
                have e : j = i := by simpa using z.1
                rw [← e, q] at z
                cases z.2.2
            | im dj =>
              exact plain nd' h fun d k d0 z => by
                have e : j = i := by simpa using z.1
                rw [← e, q] at z
                cases z.2.2
            | ow k dj =>
              dsimp only at h
              have hj : j < env.length := (List.getElem?_eq_some_iff.mp q).1
              rcases back_cases rs fin _ i s nd' h with ⟨n, k', d0, d, h1, h2, h3, h4⟩ | ⟨h1, h2⟩
              · have ne : j ≠ i := fun z => by
                  subst z
                  exact jn n h1
                rw [List.getElem?_set_ne ne] at h3
                exact .inl ⟨n + 1, k', d0, d, by simpa using h1, by simpa using h2, h3, h4⟩
              · by_cases e : j = i
                · subst e
                  rw [List.getElem?_set_self hj] at h1
                  cases h1
                  exact .inl ⟨0, k, dj, df, rfl, rfl, q, rfl⟩
                · rw [List.getElem?_set_ne e] at h1 h2
                  refine .inr ⟨h1, fun ⟨n, d, k', d0, q1, q2, q3⟩ => ?_⟩
                  cases n with
                  | zero =>
                    have z : j = i := by simpa using q1
                    exact e z
                  | succ n => exact h2 ⟨n, d, k', d0, by simpa using q1, by simpa using q2, q3⟩
theorem back_len : ∀ (rs : List R) (fin : List Sl) (env : Env), (backSl env rs fin).length = env.length
  | [], fin, env => by cases fin <;> rfl
  | r :: rs, [], env => by cases r <;> rfl
  | r :: rs, f :: fin, env => by
    cases r with
    | im d => cases f <;> exact back_len rs fin env
    | fr d => cases f <;> exact back_len rs fin env
    | al j =>
      cases f with
      | un => exact back_len rs fin env
      | im d => exact back_len rs fin env
      | ow kf df =>
        cases kf with
        | own => exact back_len rs fin env
        | lck => exact back_len rs fin env
        | bor =>
          simp only [backSl]
          split
          · rw [back_len rs fin _, List.length_set]
          · exact back_len rs fin env
end
end DI

set_option maxRecDepth 100000
/-! DI10: calls of defs. -/
namespace DI
open PySem PySem.Spec PyProof.Rows L2
section
variable {K : PySem.W.Frag} {S S' S0 : Addr → Prop} {H H' H0 : Hp} {σ : L2.St} {env env' env0 : Env}
theorem RVs.length : ∀ {rs : List R} {vs : List V}, RVs K S H σ env rs vs → rs.length = vs.length
  | _, _, .nil => rfl
  | _, _, .cons _ t => congrArg (· + 1) (RVs.length t)
theorem RVs.get : ∀ {rs : List R} {vs : List V} {n : Nat} {r : R}, RVs K S H σ env rs vs → rs[n]? = some r → ∃ v, vs[n]? = some v ∧ RV K S H σ env r v
  | _, _, _, _, .nil, h => by simp at h
  | _, _, 0, _, .cons h _, e => by simp at e; subst e; exact ⟨_, rfl, h⟩
  | _, _, n + 1, r, .cons _ t, e => by
    obtain ⟨v, h1, h2⟩ := RVs.get (n := n) t (by simpa using e)
    exact ⟨v, by simpa using h1, h2⟩
theorem par_len : ∀ {rs : List R} {ss : List Sl}, parSls env rs = some ss → ss.length = rs.length
  | [], ss, h => by cases h; rfl
  | r :: rs, ss, h => by
    simp only [parSls] at h
    cases e1 : parSl env r with
    | none => rw [e1] at h; cases h
    | some s =>
      cases e2 : parSls env rs with
      | none => rw [e1, e2] at h; cases h
      | some t =>
        rw [e1, e2] at h
        cases h
        exact congrArg (· + 1) (par_len e2)
theorem par_get : ∀ {rs : List R} {ss : List Sl} {n : Nat} {s : Sl}, parSls env rs = some ss → ss[n]? = some s → ∃ r, rs[n]? = some r ∧ parSl env r = some s
  | [], ss, n, s, h, e => by cases h; simp at e
  | r :: rs, ss, n, s, h, e => by
    simp only [parSls] at h
    cases e1 : parSl env r with
    | none => rw [e1] at h; cases h
    | some s1 =>
      cases e2 : parSls env rs with
      | none => rw [e1, e2] at h; cases h
      | some t =>
        rw [e1, e2] at h
        cases h
        cases n with
        | zero =>
          have e' : s1 = s := by simpa using e
          subst e'
          exact ⟨r, rfl, e1⟩
        | succ n =>
          obtain ⟨r', h1, h2⟩ := par_get e2 (n := n) (by simpa using e)
          exact ⟨r', by simpa using h1, h2⟩
theorem als_inj {a : Nat} : ∀ {rs : List R} {i j : Nat}, (alsOf rs).Nodup → rs[i]? = some (.al a) → rs[j]? = some (.al a) → i = j := by
  intro rs
  have mem : ∀ (rs : List R) (n : Nat), rs[n]? = some (.al a) → a ∈ alsOf rs := fun rs => by
    induction rs with
    | nil => intro n q; simp at q
    | cons r rs ih =>
      intro n q
      cases n with
      | zero =>
        have e : r = .al a := by simpa using q
        subst e
        exact List.mem_cons_self
      | succ n =>
        have m := ih n (by simpa using q)
        cases r with
        | im d => exact m
        | fr d => exact m
        | al l => exact List.mem_cons_of_mem _ m
  induction rs with
  | nil => intro i j _ h; simp at h
  | cons r rs ih =>
    intro i j nd h1 h2
    have nd' : (alsOf rs).Nodup := by
      cases r with
      | im d => exact nd
      | fr d => exact nd
      | al l => exact (List.nodup_cons.mp nd).2
    cases i with
    | zero =>
      cases j with
      | zero => rfl
      | succ j =>
        have e : r = .al a := by simpa using h1
        subst e
        exact absurd (mem rs j (by simpa using h2)) (List.nodup_cons.mp nd).1
    | succ i =>
      cases j with
      | zero =>
        have e : r = .al a := by simpa using h2
        subst e
        exact absurd (mem rs i (by simpa using h1)) (List.nodup_cons.mp nd).1
      | succ j => rw [ih nd' (i := i) (j := j) (by simpa using h1) (by simpa using h2)]
theorem frs_mem {p : Addr} : ∀ {rs : List R} {vs : List V} {n : Nat} {d : D}, rs[n]? = some (.fr d) → vs[n]? = some (.ref p) → p ∈ frsA rs vs
  | [], _, n, _, h, _ => by simp at h
  | r :: rs, [], n, _, _, h => by simp at h
  | r :: rs, v :: vs, 0, d, h1, h2 => by
    have e1 : r = .fr d := by simpa using h1
    have e2 : v = .ref p := by simpa using h2
    subst e1 e2
    simp [frsA]
  | r :: rs, v :: vs, n + 1, d, h1, h2 => by
    have m := frs_mem (rs := rs) (vs := vs) (n := n) (d := d) (by simpa using h1) (by simpa using h2)
    unfold frsA at m ⊢
    rw [List.zip_cons_cons, List.filterMap_cons]
    split
    · exact m
    · exact List.mem_cons_of_mem _ m
theorem frs_inj {p : Addr} : ∀ {rs : List R} {vs : List V} {i j : Nat} {d e : D}, (frsA rs vs).Nodup → rs[i]? = some (.fr d) → rs[j]? = some (.fr e) → vs[i]? = some (.ref p) → vs[j]? = some (.ref p) → i = j
  | [], _, i, _, _, _, _, h, _, _, _ => by simp at h
  | r :: rs, [], i, _, _, _, _, _, _, h, _ => by simp at h
  | r :: rs, v :: vs, i, j, d, e, nd, h1, h2, h3, h4 => by
    have nd' : (frsA rs vs).Nodup := by
      unfold frsA at nd ⊢
      rw [List.zip_cons_cons, List.filterMap_cons] at nd
      split at nd
      · exact nd
      · exact (List.nodup_cons.mp nd).2
    have hd : ∀ {d : D}, r = .fr d → v = .ref p → p ∉ frsA rs vs := fun {d} e1 e2 => by
      subst e1 e2
      unfold frsA at nd ⊢
      rw [List.zip_cons_cons, List.filterMap_cons] at nd
      exact (List.nodup_cons.mp nd).1
    cases i with
    | zero =>
      cases j with
      | zero => rfl
      | succ j => exact absurd (frs_mem (n := j) (by simpa using h2) (by simpa using h4)) (hd (by simpa using h1) (by simpa using h3))
    | succ i =>
      cases j with
      | zero => exact absurd (frs_mem (n := i) (by simpa using h1) (by simpa using h3)) (hd (by simpa using h2) (by simpa using h4))
      | succ j => rw [frs_inj nd' (i := i) (j := j) (by simpa using h1) (by simpa using h2) (by simpa using h3) (by simpa using h4)]
/-- where a slot of a call's comes from -/
theorem arg_ow {rs : List R} {vs : List V} {ss : List Sl} (P : PostR K S0 H0 σ env0 rs env vs S H) (hp : parSls env rs = some ss) {i : Nat} {k : Kd} {d : D} (h : ss[i]? = some (.ow k d)) :
    ∃ p, vs[i]? = some (.ref p) ∧ S p ∧ Own K (er S H) H p d ∧ (k ≠ .lck → Mut (H p)) ∧
      ((∃ j k', rs[i]? = some (.al j) ∧ env[j]? = some (.ow k' d) ∧ σ[j]? = some (some (.ref p)) ∧ (k = .lck ↔ k' = .lck)) ∨ (rs[i]? = some (.fr d) ∧ k = .bor ∧ ¬ Ch σ env p ∧ ¬ OwnsK .lck σ env p)) ∧ k ≠ .own := by
  obtain ⟨r, h1, h2⟩ := par_get hp h
  obtain ⟨v, g1, g2⟩ := P.rv.get h1
  cases r with
  | im e => cases h2
  | fr e =>
    cases h2
    obtain ⟨p, rfl, q1, q2, q3, q4, q5⟩ := g2
    exact ⟨p, g1, q1, q4, fun _ => q5, .inr ⟨h1, rfl, q2, q3⟩, fun z => by cases z⟩
  | al j =>
    simp only [parSl] at h2
    cases q : env[j]? with
    | none => rw [q] at h2; cases h2
    | some s =>
      rw [q] at h2
      have gv : σ[j]? = some (some v) := g2
      cases s with
      | un => cases h2
      | im e => cases h2
      | ow k' e =>
        obtain ⟨p, q1, q2, q3, q4⟩ := P.ok.ow j _ _ q
        rw [gv] at q1
        cases q1
        cases k' with
        | own => cases h2; exact ⟨p, g1, q2, q3, fun _ => q4 (fun z => by cases z), .inl ⟨j, _, h1, q, gv, ⟨fun z => (by cases z), fun z => (by cases z)⟩⟩, fun z => by cases z⟩
        | bor => cases h2; exact ⟨p, g1, q2, q3, fun _ => q4 (fun z => by cases z), .inl ⟨j, _, h1, q, gv, ⟨fun z => (by cases z), fun z => (by cases z)⟩⟩, fun z => by cases z⟩
        | lck => cases h2; exact ⟨p, g1, q2, q3, q4, .inl ⟨j, _, h1, q, gv, ⟨fun _ => rfl, fun _ => rfl⟩⟩, fun z => by cases z⟩
theorem args_ok {rs : List R} {vs : List V} {ss : List Sl} (P : PostR K S0 H0 σ env0 rs env vs S H) (nd : (alsOf rs).Nodup) (hp : parSls env rs = some ss) : EnvOk K S (vs.map some) H ss := by
  refine ⟨by rw [List.length_map, par_len hp, P.rv.length], P.ok.dom, fun i d h => ?_, fun i k d h => ?_, fun i j k l d e p h1 h2 h3 h4 => ?_⟩
  · obtain ⟨r, h1, h2⟩ := par_get hp h
    obtain ⟨v, g1, g2⟩ := P.rv.get h1
    refine ⟨v, by rw [List.getElem?_map, g1]; rfl, ?_⟩
    cases r with
    | im e => cases h2; exact g2
    | fr e => cases h2
    | al j =>
      simp only [parSl] at h2
      cases q : env[j]? with
      | none => rw [q] at h2; cases h2
      | some s =>
        rw [q] at h2
        have gv : σ[j]? = some (some v) := g2
        cases s with
        | un => cases h2
        | im e =>
          cases h2
          obtain ⟨w, q1, q2⟩ := P.ok.im j _ q
          rw [gv] at q1
          cases q1
          exact q2
        | ow k e => cases k <;> cases h2
  · obtain ⟨p, g1, g2, g3, g4, _⟩ := arg_ow P hp h
    exact ⟨p, by rw [List.getElem?_map, g1]; rfl, g2, g3, g4⟩
  · obtain ⟨p1, a1, _, _, _, a5, _⟩ := arg_ow P hp h1
    obtain ⟨p2, b1, _, _, _, b5, _⟩ := arg_ow P hp h2
    rw [List.getElem?_map, a1] at h3
    rw [List.getElem?_map, b1] at h4
    cases h3
    cases h4
    rcases a5 with ⟨x, k', c1, c2, c3, _⟩ | ⟨c1, c2, c3, c4⟩
    · rcases b5 with ⟨y, l', d1, d2, d3, _⟩ | ⟨d1, d2, d3, d4⟩
      · have e := P.ok.inj x y _ _ _ _ p c2 d2 c3 d3
        subst e
        exact als_inj nd c1 d1
      · exfalso
        cases k' with
        | own => exact d3 (.inl ⟨x, _, c2, c3⟩)
        | bor => exact d3 (.inr ⟨x, _, c2, c3⟩)
        | lck => exact d4 ⟨x, _, c2, c3⟩
    · rcases b5 with ⟨y, l', d1, d2, d3, _⟩ | ⟨d1, d2, d3, d4⟩
      · exfalso
        cases l' with
        | own => exact c3 (.inl ⟨y, _, d2, d3⟩)
        | bor => exact c3 (.inr ⟨y, _, d2, d3⟩)
        | lck => exact c4 ⟨y, _, d2, d3⟩
      · exact frs_inj P.nd c1 d1 a1 b1
/-- behind a call: the caller's slots -/
theorem call_post {rs : List R} {vs : List V} {ss fin : List Sl} {S2 : Addr → Prop} {H2 : Hp} {v : V} {r : R} (P : PostR K S0 H0 σ env0 rs env vs S H) (ok0 : EnvOk K S0 σ H0 env0) (nd : (alsOf rs).Nodup) (hp : parSls env rs = some ss) (C : Post K S H (vs.map some) ss r fin v S2 H2) (hr : ∀ i, r ≠ .al i) :
    Post K S0 H0 σ env0 r (backSl env rs fin) v S2 H2 := by
  have cf := C.fw
  have A := args_ok P nd hp
  -- an address that changes in the callee
  have ch : ∀ a, Ch (vs.map some) ss a → Ch σ env a ∨ a ∈ frsA rs vs := fun a h => by
    have go : ∀ k, k ≠ .lck → OwnsK k (vs.map some) ss a → Ch σ env a ∨ a ∈ frsA rs vs := fun k hk h => by
      obtain ⟨i, d, h1, h2⟩ := h
      obtain ⟨p, g1, _, _, _, g5, _⟩ := arg_ow P hp h1
      rw [List.getElem?_map, g1] at h2
      cases h2
      rcases g5 with ⟨j, k', c1, c2, c3, c4⟩ | ⟨c1, _⟩
      · cases k' with
        | own => exact .inl (.inl ⟨j, d, c2, c3⟩)
        | bor => exact .inl (.inr ⟨j, d, c2, c3⟩)
        | lck => exact absurd (c4.mpr rfl) hk
      · exact .inr (frs_mem c1 g1)
    rcases h with h | h
    · exact go _ (fun z => by cases z) h
    · exact go _ (fun z => by cases z) h
  -- what stays
  have stay : ∀ a o, H0 a = some o → ¬ Ch σ env0 a → H2 a = some o := fun a o h n => by
    refine cf.fr a o (P.fw.fr a o h n) fun q => ?_
    rcases ch a q with q | q
    · rcases P.fw.ch q with q | q
      · exact n q
      · rw [h] at q; cases q
    · rw [P.new a q] at h; cases h
  have kinds : ∀ (i : Nat) k d, (backSl env rs fin)[i]? = some (.ow k d) → ∃ d', env[i]? = some (.ow k d') := fun i k d h => by
    rcases back_cases rs fin env i _ nd h with ⟨n, k', d0, d1, h1, h2, h3, h4⟩ | ⟨h1, _⟩
    · cases h4
      exact ⟨d0, h3⟩
    · exact ⟨d, h1⟩
  have kinds' : ∀ (i : Nat) k d, env[i]? = some (.ow k d) → ∃ d', (backSl env rs fin)[i]? = some (.ow k d') := fun i k d h => by
    have hi : i < (backSl env rs fin).length := by rw [back_len]; exact (List.getElem?_eq_some_iff.mp h).1
    obtain ⟨s, hs⟩ : ∃ s, (backSl env rs fin)[i]? = some s := ⟨_, List.getElem?_eq_getElem hi⟩
    rcases back_cases rs fin env i s nd hs with ⟨n, k', d0, d1, h1, h2, h3, h4⟩ | ⟨h1, _⟩
    · rw [h] at h3
      cases h3
      exact ⟨d1, by rw [hs, h4]⟩
    · rw [h] at h1
      cases h1
      exact ⟨d, hs⟩
  -- a locked slot is not bor in fin
  have lckfin : ∀ (i : Nat) d, env[i]? = some (.ow .lck d) → (backSl env rs fin)[i]? = some (.ow .lck d) := fun i d h => by
    have hi : i < (backSl env rs fin).length := by rw [back_len]; exact (List.getElem?_eq_some_iff.mp h).1
    obtain ⟨s, hs⟩ : ∃ s, (backSl env rs fin)[i]? = some s := ⟨_, List.getElem?_eq_getElem hi⟩
    rcases back_cases rs fin env i s nd hs with ⟨n, k', d0, d1, h1, h2, h3, h4⟩ | ⟨h1, _⟩
    · exfalso
      -- ss at n is lck, so fin at n is lck
      have hn : n < ss.length := by rw [par_len hp]; exact (List.getElem?_eq_some_iff.mp h1).1
      obtain ⟨sn, hsn⟩ : ∃ sn, ss[n]? = some sn := ⟨_, List.getElem?_eq_getElem hn⟩
      obtain ⟨rn, hr1, hr2⟩ := par_get hp hsn
      rw [h1] at hr1
      cases hr1
      simp only [parSl] at hr2
      rw [h] at hr2
      cases hr2
      obtain ⟨z, _⟩ := cf.lk n _ hsn
      rw [h2] at z
      cases z
    · rw [h] at h1
      cases h1
      exact hs
  have leC : Le (er S H) (er S2 H2) := Fw.le A cf
  refine ⟨⟨fun a h => ?_, fun a h1 h2 h3 => ?_, stay, fun a h => ?_, fun i d h => ?_, fun i d h => ?_, fun i d h => ?_, fun i d h => ?_, fun a h => cf.dm a (P.fw.dm a h)⟩,
    ⟨by rw [back_len]; exact P.ok.len, C.ok.dom, fun i d h => ?_, fun i k d h => ?_, fun i j k l d e p h1 h2 h3 h4 => ?_⟩, ?_, fun d p e1 e2 => none_back P.fw.dm (C.new d p e1 e2)⟩
  · rcases cf.sub a h with h | h
    · exact P.fw.sub a h
    · exact .inr (none_back P.fw.dm h)
  · refine cf.kp a (P.fw.kp a h1 h2 h3) (P.fw.dm a h2) fun q => ?_
    obtain ⟨i, d, q1, q2⟩ := q
    obtain ⟨_, _, _, _, _, _, q3⟩ := arg_ow P hp q1
    exact q3 rfl
  · obtain ⟨i, d, h1, h2⟩ := h
    obtain ⟨d', h3⟩ := kinds i _ _ h1
    exact P.fw.own a ⟨i, d', h3, h2⟩
  · obtain ⟨d1, h1, _⟩ := P.fw.bo i d h
    obtain ⟨d2, h2⟩ := kinds' i _ _ h1
    exact ⟨d2, h2, rfl⟩
  · obtain ⟨d1, h1⟩ := kinds i _ _ h
    obtain ⟨d2, h2, _⟩ := P.fw.bo' i d1 h1
    exact ⟨d2, h2, rfl⟩
  · obtain ⟨h1, _⟩ := P.fw.lk i d h
    exact ⟨lckfin i d h1, rfl⟩
  · obtain ⟨d1, h1⟩ := kinds i _ _ h
    have h2 := lckfin i d1 h1
    rw [h2] at h
    cases h
    obtain ⟨h3, _⟩ := P.fw.lk' i d h1
    exact ⟨h3, rfl⟩
  · rcases back_cases rs fin env i _ nd h with ⟨n, k', d0, d1, h1, h2, h3, h4⟩ | ⟨h1, _⟩
    · cases h4
    · obtain ⟨w, g1, g2⟩ := P.ok.im i d h1
      exact ⟨w, g1, g2.mono leC⟩
  · rcases back_cases rs fin env i _ nd h with ⟨n, k', d0, d1, h1, h2, h3, h4⟩ | ⟨h1, hno⟩
    · cases h4
      -- handed over as n
      obtain ⟨p, q1, q2, q3, q4⟩ := P.ok.ow i _ _ h3
      obtain ⟨v', g1, g2⟩ := P.rv.get h1
      have gv : σ[i]? = some (some v') := g2
      rw [q1] at gv
      cases gv
      obtain ⟨p', c1, c2, c3, c4⟩ := C.ok.ow n _ _ h2
      rw [List.getElem?_map, g1] at c1
      cases c1
      exact ⟨p, q1, c2, c3, fun _ => c4 fun z => by cases z⟩
    · obtain ⟨p, q1, q2, q3, q4⟩ := P.ok.ow i _ _ h1
      have np : ¬ Ch (vs.map some) ss p := fun z => by
        have go : ∀ k', k' ≠ .lck → OwnsK k' (vs.map some) ss p → False := fun k' hk' z => by
          obtain ⟨n, dn, z1, z2⟩ := z
          obtain ⟨p', g1, _, _, _, g5, g6⟩ := arg_ow P hp z1
          rw [List.getElem?_map, g1] at z2
          cases z2
          rcases g5 with ⟨j, kj, c1, c2, c3, c4⟩ | ⟨_, _, c3, c4⟩
          · have e := P.ok.inj i j _ _ _ _ p h1 c2 q1 c3
            subst e
            cases k' with
            | own => exact g6 rfl
            | lck => exact hk' rfl
            | bor =>
              obtain ⟨d', e1, _⟩ := cf.bo n _ z1
              exact hno ⟨n, d', _, _, c1, e1, h1⟩
          · cases k with
            | own => exact c3 (.inl ⟨i, d, h1, q1⟩)
            | bor => exact c3 (.inr ⟨i, d, h1, q1⟩)
            | lck => exact c4 ⟨i, d, h1, q1⟩
        rcases z with z | z
        · exact go _ (fun w => by cases w) z
        · exact go _ (fun w => by cases w) z
      have hdom := P.ok.dom p q2
      have e2 : H2 p = H p := by
        cases q : H p with
        | none => exact absurd q hdom
        | some o => exact cf.fr p o q np
      refine ⟨p, q1, cf.kp p q2 hdom fun z => ?_, q3.mono leC (fun u r => by unfold Rd at r ⊢; rw [e2]; exact r), fun z => by rw [e2]; exact q4 z⟩
      obtain ⟨n, dn, z1, z2⟩ := z
      obtain ⟨_, _, _, _, _, _, q3'⟩ := arg_ow P hp z1
      exact q3' rfl
  · obtain ⟨d', g1⟩ := kinds i _ _ h1
    obtain ⟨e', g2⟩ := kinds j _ _ h2
    exact P.ok.inj i j _ _ _ _ p g1 g2 h3 h4
  · cases r with
    | al i => exact absurd rfl (hr i)
    | im d => exact C.rv
    | fr d =>
      obtain ⟨p, rfl, c1, c2, c3, c4, c5⟩ := C.rv
      have hn : H p = none := C.new _ _ rfl rfl
      refine ⟨p, rfl, c1, fun z => ?_, fun z => ?_, c4, c5⟩
      · have go : ∀ k, OwnsK k σ (backSl env rs fin) p → False := fun k z => by
          obtain ⟨i, d', z1, z2⟩ := z
          obtain ⟨d2, z3⟩ := kinds i _ _ z1
          obtain ⟨p', y1, y2, _⟩ := P.ok.ow i _ _ z3
          rw [z2] at y1
          cases y1
          exact P.ok.dom p y2 hn
        rcases z with z | z
        · exact go _ z
        · exact go _ z
      · obtain ⟨i, d', z1, z2⟩ := z
        obtain ⟨d2, z3⟩ := kinds i _ _ z1
        obtain ⟨p', y1, y2, _⟩ := P.ok.ow i _ _ z3
        rw [z2] at y1
        cases y1
        exact P.ok.dom p y2 hn
end
section
variable {Φ : Fns} {X : Cx} {a b c e : Expr} {es rest : List Expr} {xs : Xps} {pos : Pos}
/-- what a def answers is no slot of its own -/
def NoAl (Φ : Fns) : Prop := ∀ f args r fin, Φ f args = some (r, fin) → ∀ i, r ≠ .al i
theorem ev_call_inv {f : Str} {env env' : Env} {r : R} (h : ev Φ (.call f xs) env = some (r, env')) : ∃ rs en1 ss fin, evR Φ xs env = some (rs, en1) ∧ (alsOf rs).Nodup ∧ parSls en1 rs = some ss ∧ Φ f ss = some (r, fin) ∧ env' = backSl en1 rs fin := by
  simp only [ev] at h
  cases e1 : evR Φ xs env with
  | none => rw [e1] at h; cases h
  | some p1 =>
    obtain ⟨rs, en1⟩ := p1
    rw [e1] at h
    dsimp only at h
    split at h
    · rename_i nd
      cases e2 : parSls en1 rs with
      | none => rw [e2] at h; cases h
      | some ss =>
        rw [e2] at h
        dsimp only at h
        cases e3 : Φ f ss with
        | none => rw [e3] at h; cases h
        | some p3 =>
          obtain ⟨r', fin⟩ := p3
          rw [e3] at h
          cases h
          exact ⟨rs, en1, ss, fin, rfl, nd, e2, e3, rfl⟩
    · cases h
/-- a def that stands behind a name of the module does what Φ says -/
structure Has (Φ : Fns) (X : Cx) (x : Str) (k : Nat) (ps : List Str) : Prop where
  fn : ∃ f fd, FnOk X.prog X.w X.K X.mg X.base CX0 k f fd ps (spD X.K (Φ x)) ∧ X.mg x = some (.ref f) ∧ PySem.W.keepIn X.K (.ref f) = true ∧ Binds X.K fd ps []
  room : Room k X.A
theorem call_run {f : Str} (na : NoAl Φ) (ha : SndR Φ X es xs) {env env' : Env} {r : R} (h : ev Φ (.call f xs) env = some (r, env')) {S : Addr → Prop} {σ : L2.St} {H : Hp} (ok : EnvOk X.K S σ H env) {Q : VK} (q : ∀ v S' H', Post X.K S H σ env r env' v S' H' → Q v H') {E : XK} :
    tCall (spD X.K (Φ f)) [] E (AnyA X es) σ H Q := by
  obtain ⟨rs, en1, ss, fin, e1, nd, e2, e3, rfl⟩ := ev_call_inv h
  refine ha env rs en1 e1 S σ H ok _ fun vs S1 H1 P => ?_
  rw [List.append_nil]
  refine ⟨S1, ss, r, fin, e3, args_ok P nd e2, fun i d z => ?_, fun v S2 H2 C => q _ _ _ (call_post P ok nd e2 C (na f ss r fin e3))⟩
  obtain ⟨_, _, _, _, _, _, z3⟩ := arg_ow P e2 z
  exact z3 rfl
theorem snd_call {f : Str} {p : Pos} {k : Nat} {ps : List Str} (F : Has Φ X f k ps) (na : NoAl Φ) (hg : Gl X f) (ha : SndR Φ X (e :: es) xs) (hdb : (f == ("__debug__" : Str)) = false := by decide) (he : starEach (e :: es) X.env = (false, eval e X.env) :: starEach es X.env := by exact star_cons rfl) (hpl : (backTo pos (starEach es X.env)).any (·.1) = false := by rfl) :
    Snd Φ X (.Call (.Name f p) (e :: es) [] pos) (.call f xs) := .mk fun env r env' h S σ H ok Q q => by
  obtain ⟨fa, fd, F1, F2, F3, F4⟩ := F.fn
  exact any_of (pe_call F1 F.room hg F2 F3 F4 .nil pass0 pa_any hdb he hpl) (call_run (E := E0) na ha h ok q)
theorem snd_call0 {f : Str} {p : Pos} {k : Nat} {ps : List Str} (F : Has Φ X f k ps) (na : NoAl Φ) (hg : Gl X f) (hdb : (f == ("__debug__" : Str)) = false := by decide) :
    Snd Φ X (.Call (.Name f p) [] [] pos) (.call f .nil) := .mk fun env r env' h S σ H ok Q q => by
  obtain ⟨fa, fd, F1, F2, F3, F4⟩ := F.fn
  refine any_of (pe_call0 F1 F.room hg F2 F3 F4 .nil pass0 hdb) ?_
  have t := call_run (E := E0) na sndR_nil h ok q
  obtain ⟨rs, en1, ss, fin, e1, nd, e2, e3, rfl⟩ := ev_call_inv h
  simp only [evR] at e1
  cases e1
  have P : PostR X.K S H σ env [] env [] S H := ⟨Fw.refl, ok, .nil, fun _ h => (by cases h), .nil⟩
  refine ⟨S, ss, r, fin, e3, args_ok P nd e2, fun i d z => ?_, fun v S2 H2 C => q _ _ _ (call_post P ok nd e2 C (na f ss r fin e3))⟩
  obtain ⟨_, _, _, _, _, _, z3⟩ := arg_ow P e2 z
  exact z3 rfl
end
end DI

set_option maxRecDepth 100000
/-! DI11: what is walked, targets, list comprehensions. -/
namespace DI
open PySem PySem.Spec PyProof.Rows L2
/-! ### slots locked, wiped, put back -/
theorem lock_len (env : Env) : ∀ ls : List Nat, (lockE env ls).length = env.length
  | [] => rfl
  | i :: is => by
    simp only [lockE]
    split
    · rw [List.length_set]; exact lock_len env is
    · exact lock_len env is
theorem lock_cases (env : Env) : ∀ (ls : List Nat) (j : Nat) (s : Sl), (lockE env ls)[j]? = some s → (∃ k d, j ∈ ls ∧ env[j]? = some (.ow k d) ∧ s = .ow .lck d) ∨ (env[j]? = some s ∧ (j ∈ ls → ∀ k d, s ≠ .ow k d))
  | [], j, s, h => .inr ⟨h, fun z => by cases z⟩
  | i :: is, j, s, h => by
    simp only [lockE] at h
    cases q : (lockE env is)[i]? with
    | none =>
      rw [q] at h
      rcases lock_cases env is j s h with ⟨k, d, h1, h2, h3⟩ | ⟨h1, h2⟩
      · exact .inl ⟨k, d, List.mem_cons_of_mem _ h1, h2, h3⟩
      · refine .inr ⟨h1, fun m => ?_⟩
        rcases List.mem_cons.mp m with rfl | m
        · rw [q] at h; cases h
        · exact h2 m
    | some si =>
      rw [q] at h
      cases si with
      | un =>
        rcases lock_cases env is j s h with ⟨k, d, h1, h2, h3⟩ | ⟨h1, h2⟩
        · exact .inl ⟨k, d, List.mem_cons_of_mem _ h1, h2, h3⟩
        · refine .inr ⟨h1, fun m => ?_⟩
          rcases List.mem_cons.mp m with rfl | m
          · rw [q] at h; cases h; exact fun k d z => by cases z
          · exact h2 m
      | im di =>
        rcases lock_cases env is j s h with ⟨k, d, h1, h2, h3⟩ | ⟨h1, h2⟩
        · exact .inl ⟨k, d, List.mem_cons_of_mem _ h1, h2, h3⟩
        · refine .inr ⟨h1, fun m => ?_⟩
          rcases List.mem_cons.mp m with rfl | m
          · rw [q] at h; cases h; exact fun k d z => by cases z
          · exact h2 m
      | ow ki di =>
        dsimp only at h
        rcases getElem?_set_cases h with ⟨rfl, e⟩ | ⟨ne, h'⟩
        · subst e
          rcases lock_cases env is i _ q with ⟨k, d, h1, h2, h3⟩ | ⟨h1, h2⟩
          · cases h3
            exact .inl ⟨k, _, List.mem_cons_self, h2, rfl⟩
          · exact .inl ⟨ki, di, List.mem_cons_self, h1, rfl⟩
        · rcases lock_cases env is j s h' with ⟨k, d, h1, h2, h3⟩ | ⟨h1, h2⟩
          · exact .inl ⟨k, d, List.mem_cons_of_mem _ h1, h2, h3⟩
          · refine .inr ⟨h1, fun m => ?_⟩
            rcases List.mem_cons.mp m with rfl | m
            · exact absurd rfl ne
            · exact h2 m
theorem unlock_len (env0 env : Env) : ∀ ls : List Nat, (unlockE env0 env ls).length = env.length
  | [] => rfl
  | i :: is => by
    simp only [unlockE]
    split
    · rw [List.length_set]; exact unlock_len env0 env is
    · exact unlock_len env0 env is
theorem unlock_cases (env0 env : Env) : ∀ (ls : List Nat) (j : Nat) (s : Sl), (unlockE env0 env ls)[j]? = some s → (∃ k d, j ∈ ls ∧ env0[j]? = some (.ow k d) ∧ s = .ow k d) ∨ (env[j]? = some s ∧ (j ∈ ls → ∀ k d, env0[j]? ≠ some (.ow k d)))
  | [], j, s, h => .inr ⟨h, fun z => by cases z⟩
  | i :: is, j, s, h => by
    simp only [unlockE] at h
    have skip : (unlockE env0 env is)[j]? = some s → (∀ k d, env0[i]? ≠ some (.ow k d)) → (∃ k d, j ∈ i :: is ∧ env0[j]? = some (.ow k d) ∧ s = .ow k d) ∨ (env[j]? = some s ∧ (j ∈ i :: is → ∀ k d, env0[j]? ≠ some (.ow k d))) := fun h no => by
      rcases unlock_cases env0 env is j s h with ⟨k, d, h1, h2, h3⟩ | ⟨h1, h2⟩
      · exact .inl ⟨k, d, List.mem_cons_of_mem _ h1, h2, h3⟩
      · refine .inr ⟨h1, fun m => ?_⟩
        rcases List.mem_cons.mp m with rfl | m
        · exact no
        · exact h2 m
    cases q : env0[i]? with
    | none => rw [q] at h; exact skip h fun k d z => by rw [q] at z; cases z
    | some si =>
      rw [q] at h
      cases si with
      | un => exact skip h fun k d z => by rw [q] at z; cases z
      | im di => exact skip h fun k d z => by rw [q] at z; cases z
      | ow ki di =>
        dsimp only at h
        rcases getElem?_set_cases h with ⟨rfl, e⟩ | ⟨ne, h'⟩
        · exact .inl ⟨ki, di, List.mem_cons_self, q, e⟩
        · rcases unlock_cases env0 env is j s h' with ⟨k, d, h1, h2, h3⟩ | ⟨h1, h2⟩
          · exact .inl ⟨k, d, List.mem_cons_of_mem _ h1, h2, h3⟩
          · refine .inr ⟨h1, fun m => ?_⟩
            rcases List.mem_cons.mp m with rfl | m
            · exact absurd rfl ne
            · exact h2 m
theorem wipeE_len (env : Env) : ∀ vs : List Nat, (wipeE env vs).length = env.length
  | [] => rfl
  | i :: is => by
    simp only [wipeE]
    rw [List.length_set, wipeE_len env is]
theorem wipeE_cases (env : Env) : ∀ (vs : List Nat) (j : Nat) (s : Sl), (wipeE env vs)[j]? = some s → (j ∈ vs ∧ s = .un) ∨ (j ∉ vs ∧ env[j]? = some s)
  | [], j, s, h => .inr ⟨by simp, h⟩
  | i :: is, j, s, h => by
    simp only [wipeE] at h
    rcases getElem?_set_cases h with ⟨rfl, e⟩ | ⟨ne, h'⟩
    · exact .inl ⟨List.mem_cons_self, e⟩
    · rcases wipeE_cases env is j s h' with ⟨h1, h2⟩ | ⟨h1, h2⟩
      · exact .inl ⟨List.mem_cons_of_mem _ h1, h2⟩
      · refine .inr ⟨fun m => ?_, h2⟩
        rcases List.mem_cons.mp m with rfl | m
        · exact ne rfl
        · exact h1 m
theorem wipeE_out (env : Env) : ∀ (vs : List Nat) (j : Nat), j ∉ vs → (wipeE env vs)[j]? = env[j]?
  | [], j, _ => rfl
  | i :: is, j, h => by
    simp only [wipeE]
    rw [List.getElem?_set_ne fun e => h (by rw [e]; exact List.mem_cons_self)]
    exact wipeE_out env is j fun m => h (List.mem_cons_of_mem _ m)
theorem backE_len (env0 env : Env) : ∀ vs : List Nat, (backE env0 env vs).length = env.length
  | [] => rfl
  | i :: is => by
    simp only [backE]
    split
    · rw [List.length_set]; exact backE_len env0 env is
    · exact backE_len env0 env is
theorem backE_cases (env0 env : Env) (hl : env0.length = env.length) : ∀ (vs : List Nat) (j : Nat) (s : Sl), (backE env0 env vs)[j]? = some s → (j ∈ vs ∧ env0[j]? = some s) ∨ (j ∉ vs ∧ env[j]? = some s)
  | [], j, s, h => .inr ⟨by simp, h⟩
  | i :: is, j, s, h => by
    simp only [backE] at h
    cases q : env0[i]? with
    | none =>
      rw [q] at h
      rcases backE_cases env0 env hl is j s h with ⟨h1, h2⟩ | ⟨h1, h2⟩
      · exact .inl ⟨List.mem_cons_of_mem _ h1, h2⟩
      · refine .inr ⟨fun m => ?_, h2⟩
        rcases List.mem_cons.mp m with rfl | m
        · have := (List.getElem?_eq_some_iff.mp h2).1
          rw [List.getElem?_eq_none_iff] at q
          omega
        · exact h1 m
    | some si =>
      rw [q] at h
      dsimp only at h
      rcases getElem?_set_cases h with ⟨rfl, e⟩ | ⟨ne, h'⟩
      · subst e
        exact .inl ⟨List.mem_cons_self, q⟩
      · rcases backE_cases env0 env hl is j s h' with ⟨h1, h2⟩ | ⟨h1, h2⟩
        · exact .inl ⟨List.mem_cons_of_mem _ h1, h2⟩
        · refine .inr ⟨fun m => ?_, h2⟩
          rcases List.mem_cons.mp m with rfl | m
          · exact ne rfl
          · exact h1 m
section
variable {K : PySem.W.Frag} {S S' S0 : Addr → Prop} {H H' H0 : Hp} {σ σ' : L2.St} {env env' env0 : Env}
theorem lock_kind {ls : List Nat} {i : Nat} {k : Kd} {d : D} (h : (lockE env ls)[i]? = some (.ow k d)) : ∃ k', env[i]? = some (.ow k' d) ∧ (k ≠ .lck → k' = k) := by
  rcases lock_cases env ls i _ h with ⟨k', d', _, h2, h3⟩ | ⟨h1, _⟩
  · cases h3
    exact ⟨k', h2, fun z => absurd rfl z⟩
  · exact ⟨k, h1, fun _ => rfl⟩
theorem EnvOk.lock (ok : EnvOk K S σ H env) (ls : List Nat) : EnvOk K S σ H (lockE env ls) := by
  refine ⟨by rw [lock_len]; exact ok.len, ok.dom, fun i d h => ?_, fun i k d h => ?_, fun i j k l d e p h1 h2 h3 h4 => ?_⟩
  · rcases lock_cases env ls i _ h with ⟨k', d', _, h2, h3⟩ | ⟨h1, _⟩
    · cases h3
    · exact ok.im i d h1
  · obtain ⟨k', h1, h2⟩ := lock_kind h
    obtain ⟨p, g1, g2, g3, g4⟩ := ok.ow i k' d h1
    exact ⟨p, g1, g2, g3, fun z => g4 (by rw [h2 z]; exact z)⟩
  · obtain ⟨k', g1, _⟩ := lock_kind h1
    obtain ⟨l', g2, _⟩ := lock_kind h2
    exact ok.inj i j _ _ _ _ p g1 g2 h3 h4
theorem lock_ch {ls : List Nat} {a : Addr} (h : Ch σ (lockE env ls) a) : Ch σ env a := by
  rcases h with ⟨i, d, h1, h2⟩ | ⟨i, d, h1, h2⟩
  · obtain ⟨k', g1, g2⟩ := lock_kind h1
    rw [g2 (fun z => by cases z)] at g1
    exact .inl ⟨i, d, g1, h2⟩
  · obtain ⟨k', g1, g2⟩ := lock_kind h1
    rw [g2 (fun z => by cases z)] at g1
    exact .inr ⟨i, d, g1, h2⟩

/-! ### what is walked -/
/-- a walk over what stands for ds, from S, H on, as long as what may not change does not -/
def WalkD (K : PySem.W.Frag) (J : L2.It) (ds : List D) (S : Addr → Prop) (H : Hp) (σ : L2.St) (env : Env) : Prop :=
  ∃ (G : Hp → Prop) (Y : Nat → Hp → V → Hp → Prop), Walk J ds.length G Y ∧ (∀ H', (∀ a o, H a = some o → ¬ Ch σ env a → H' a = some o) → G H') ∧
    ∀ i H1 x H2, i < ds.length → G H1 → Y i H1 x H2 → ∃ d, ds[i]? = some d ∧ (H2 = H1 ∨ ∃ T o, H1 T = none ∧ H2 = upd H1 T o) ∧ ∀ S' : Addr → Prop, Le (er S H) (er S' H1) → (∀ a, S' a → H1 a ≠ none) → Rep K (er S' H2) x d
theorem keepRd {a : Addr} {u : HO} (h : Rd H a u) (hc : ¬ Ch σ env a) (k : ∀ a o, H a = some o → ¬ Ch σ env a → H' a = some o) : Rd H' a u := by
  rcases h with h | ⟨o, h⟩
  · exact .inl (k a _ h hc)
  · exact .inr ⟨o, k a _ h hc⟩
theorem walkd_list {a : Addr} {xs : List V} {ds : List D} (h : (∀ H', (∀ a o, H a = some o → ¬ Ch σ env a → H' a = some o) → SqL K H' a xs)) (r : Reps K (er S H) xs ds) : WalkD K (Itl K a) ds S H σ env := by
  refine ⟨fun H' => SqL K H' a xs, YAt xs, by rw [← r.length]; exact walk_list, h, fun i H1 x H2 hi g y => ?_⟩
  · obtain ⟨rfl, hx⟩ := y
    obtain ⟨d, h1, h2⟩ := r.getV hx
    exact ⟨d, h1, .inl rfl, fun S' le _ => h2.mono le⟩
theorem walkd_tup {a : Addr} {xs : List V} {ds : List D} (ok : EnvOk K S σ H env) (h : SqT K (er S H) a xs) (r : Reps K (er S H) xs ds) : WalkD K (Itt K a) ds S H σ env := by
  refine ⟨fun H' => SqT K H' a xs, YAt xs, by rw [← r.length]; exact walk_tup, fun H' k => ?_, fun i H1 x H2 hi g y => ?_⟩
  · rcases h with h | h
    · refine .inl (keepRd (σ := σ) (env := env) (er_full _ _ h) (fun z => ?_) k)
      have hs := ok.ch z
      rcases h with h | ⟨o, h⟩
      · exact (er_some h).1 hs
      · exact (er_some h).1 hs
    · exact .inr h
  · obtain ⟨rfl, hx⟩ := y
    obtain ⟨d, h1, h2⟩ := r.getV hx
    exact ⟨d, h1, .inl rfl, fun S' le _ => h2.mono le⟩
theorem walkd_str {z : Str} : WalkD K (Its z) (z.cps.toList.map fun c => .str ⟨#[c]⟩) S H σ env := by
  refine ⟨fun _ => True, _, by rw [List.length_map, Array.length_toList]; exact walk_str, fun _ _ => True.intro, fun i H1 x H2 hi g y => ?_⟩
  obtain ⟨rfl, c, h1, rfl⟩ := y
  refine ⟨.str ⟨#[c]⟩, ?_, .inl rfl, fun _ _ _ => .str _⟩
  rw [List.getElem?_map, Array.getElem?_toList, h1]
  rfl
theorem rangeL_len : ∀ (n : Nat) (lo : Int), (rangeL lo n).length = n
  | 0, _ => rfl
  | n + 1, lo => congrArg (· + 1) (rangeL_len n (lo + 1))
theorem rangeL_get : ∀ (n : Nat) (lo : Int) (i : Nat), i < n → (rangeL lo n)[i]? = some (.int (lo + i))
  | n + 1, lo, 0, _ => by
    show some _ = some _
    simp
  | n + 1, lo, i + 1, h => by
    show (rangeL (lo + 1) n)[i]? = _
    rw [rangeL_get n (lo + 1) i (by omega)]
    congr 2
    omega
theorem walkd_range {lo : Int} {n : Nat} : WalkD K (Itr lo n) (rangeL lo n) S H σ env := by
  refine ⟨fun _ => True, YFn fun i => .int (lo + i), by rw [rangeL_len]; exact walk_range, fun _ _ => True.intro, fun i H1 x H2 hi g y => ?_⟩
  obtain ⟨rfl, rfl⟩ := y
  rw [rangeL_len] at hi
  exact ⟨_, rangeL_get n lo i hi, .inl rfl, fun _ _ _ => .int _⟩
theorem rep_pair {S' : Addr → Prop} {H1 : Hp} {T : Addr} {x y : V} {dx dy : D} (hT : H1 T = none) (dom : ∀ a, S' a → H1 a ≠ none) (hx : Rep K (er S' H1) x dx) (hy : Rep K (er S' H1) y dy) : Rep K (er S' (upd H1 T (.tup [x, y]))) (.ref T) (.tuple [dx, dy]) := by
  have hs : ¬ S' T := fun z => dom T z hT
  have le : Le (er S' H1) (er S' (upd H1 T (.tup [x, y]))) := er_le fun a o h1 h2 => ⟨h1, upd_some hT h2⟩
  exact .tup (.inl (.inl ((er_of hs).trans upd_same))) (.cons (hx.mono le) (.cons (hy.mono le) .nil))
theorem zipw_get {xs ys : List D} {i : Nat} {x y : D} (h1 : xs[i]? = some x) (h2 : ys[i]? = some y) : (List.zipWith (fun a b => PyData.tuple [a, b]) xs ys)[i]? = some (.tuple [x, y]) := by
  rw [List.getElem?_zipWith, h1, h2]
theorem walkd_zipL {a b : Addr} {xs ys : List V} {ds es : List D} (h : (∀ H', (∀ a o, H a = some o → ¬ Ch σ env a → H' a = some o) → SqL K H' a xs)) (h' : (∀ H', (∀ a o, H a = some o → ¬ Ch σ env a → H' a = some o) → SqL K H' b ys)) (r : Reps K (er S H) xs ds) (r' : Reps K (er S H) ys es) : WalkD K (Itz K a b) (List.zipWith (fun a b => .tuple [a, b]) ds es) S H σ env := by
  refine ⟨fun H' => SqL K H' a xs ∧ SqL K H' b ys, _, by rw [List.length_zipWith, ← r.length, ← r'.length]; exact walk_zip rfl, fun H' k => ⟨h H' k, h' H' k⟩, fun i H1 x H2 hi g y => ?_⟩
  · obtain ⟨T, v, w, rfl, hT, rfl, h1, h2⟩ := y
    obtain ⟨d, e1, e2⟩ := r.getV h1
    obtain ⟨e, f1, f2⟩ := r'.getV h2
    exact ⟨_, zipw_get e1 f1, .inr ⟨T, _, hT, rfl⟩, fun S' le dom => rep_pair hT dom (e2.mono le) (f2.mono le)⟩
theorem enum_len : ∀ (n : Nat) (ds : List D), (enumFrom n ds).length = ds.length
  | _, [] => rfl
  | n, _ :: r => congrArg (· + 1) (enum_len (n + 1) r)
theorem enum_get : ∀ (n : Nat) (ds : List D) (i : Nat) (d : D), ds[i]? = some d → (enumFrom n ds)[i]? = some (.tuple [.int ((n + i : Nat) : Int), d])
  | _, [], _, _, h => by simp at h
  | n, x :: r, 0, d, h => by
    have e : x = d := by simpa using h
    subst e
    rfl
  | n, x :: r, i + 1, d, h => by
    show (enumFrom (n + 1) r)[i]? = _
    rw [enum_get (n + 1) r i d (by simpa using h)]
    have e : n + 1 + i = n + (i + 1) := by omega
    rw [e]
theorem walkd_enumL {a : Addr} {xs : List V} {ds : List D} (h : (∀ H', (∀ a o, H a = some o → ¬ Ch σ env a → H' a = some o) → SqL K H' a xs)) (r : Reps K (er S H) xs ds) : WalkD K (Ite K a) (enumFrom 0 ds) S H σ env := by
  refine ⟨fun H' => SqL K H' a xs, _, by rw [enum_len, ← r.length]; exact walk_enum, h, fun i H1 x H2 hi g y => ?_⟩
  · obtain ⟨T, v, w, rfl, hT, rfl, h1, h2⟩ := y
    obtain ⟨d, e1, e2⟩ := r.getV h2
    have ev : v = .int (i : Nat) := (Option.some.inj h1).symm
    subst ev
    have eg := enum_get 0 ds i d e1
    rw [Nat.zero_add] at eg
    exact ⟨_, eg, .inr ⟨T, _, hT, rfl⟩, fun S' le dom => rep_pair hT dom (.int _) (e2.mono le)⟩
/-- a list at hand, and that it is not changed while its slot is locked -/
theorem rv_list {r : R} {v : V} {ds : List D} {ls : List Nat} (ok : EnvOk K S σ H env) (h : RV K S H σ env r v) (hv : r.val env = some (.list ds)) (hl : ∀ i, r = .al i → i ∈ ls) :
    ∃ a xs, v = .ref a ∧ SqL K H a xs ∧ Reps K (er S H) xs ds ∧ (∀ H', (∀ a o, H a = some o → ¬ Ch σ (lockE env ls) a → H' a = some o) → SqL K H' a xs) := by
  have im : ∀ {v : V}, Rep K (er S H) v (.list ds) → ∃ a xs, v = .ref a ∧ SqL K H a xs ∧ Reps K (er S H) xs ds ∧ (∀ H', (∀ a o, H a = some o → ¬ Ch σ (lockE env ls) a → H' a = some o) → SqL K H' a xs) := fun {v} h => by
    cases h with
    | @lst a xs _ h1 h2 =>
      rcases h1 with h1 | h1
      · refine ⟨a, xs, rfl, .inl (er_full _ _ h1), h2, fun H' k => .inl (keepRd (er_full _ _ h1) (fun hc => ?_) k)⟩
        have hs := ok.ch (lock_ch hc)
        rcases h1 with h1 | ⟨o, h1⟩
        · exact (er_some h1).1 hs
        · exact (er_some h1).1 hs
      · exact ⟨a, xs, rfl, .inr h1, h2, fun _ _ => .inr h1⟩
  cases r with
  | im d => cases hv; exact im h
  | fr d =>
    cases hv
    obtain ⟨p, rfl, _, q, _, ⟨xs, g1, g2⟩, _⟩ := h
    exact ⟨p, xs, rfl, .inl g1, g2, fun H' k => .inl (keepRd g1 (fun hc => q (lock_ch hc)) k)⟩
  | al i =>
    have hσ : σ[i]? = some (some v) := h
    rcases slD_some hv with e | ⟨k, e⟩
    · obtain ⟨w, h1, h2⟩ := ok.im i _ e
      rw [hσ] at h1
      cases h1
      exact im h2
    · obtain ⟨p, h1, hs, ⟨xs, g1, g2⟩, _⟩ := ok.ow i k _ e
      rw [hσ] at h1
      cases h1
      refine ⟨p, xs, rfl, .inl g1, g2, fun H' k => .inl (keepRd g1 (fun hc => ?_) k)⟩
      have go : ∀ k', k' ≠ .lck → OwnsK k' σ (lockE env ls) p → False := fun k' hk z => by
        obtain ⟨j, d, z1, z2⟩ := z
        rcases lock_cases env ls j _ z1 with ⟨k2, d', m, y1, y2⟩ | ⟨y1, y2⟩
        · cases y2
          exact hk rfl
        · have e2 := ok.inj i j _ _ _ _ p e y1 hσ z2
          subst e2
          exact y2 (hl i rfl) k' d rfl
      rcases hc with hc | hc
      · exact go _ (fun z => by cases z) hc
      · exact go _ (fun z => by cases z) hc
end
end DI

set_option maxRecDepth 100000
/-! DI12: walks, targets, list comprehensions. -/
namespace DI
open PySem PySem.Spec PyProof.Rows L2 RZ
def AnyI (X : Cx) (tg iter : Expr) : L2.TI := fun σ H R => ∀ (pins : List (Addr × Obj)) (s : Shared), Inv X pins σ H s →
  wpAny (model X.prog X.w) X.A (eval iter X.env) (fun v s1 => wpAny (model X.prog X.w) X.A (pyIter v) (PIE X pins σ tg R) X.xe s1) X.xe s
theorem pi_any {X : Cx} {tg iter : Expr} : PI X tg iter (AnyI X tg iter) := ⟨fun pins s σ H R I h => h pins s I⟩
theorem anyI_of {X : Cx} {tg iter : Expr} {wi : L2.TI} (p : PI X tg iter wi) {σ : L2.St} {H : Hp} {R : L2.It → Hp → Prop} (h : wi σ H R) : AnyI X tg iter σ H R := fun pins s I => p.run pins s σ H R I h
structure SndI (Φ : Fns) (X : Cx) (tg iter : Expr) (it : It) : Prop where
  run : ∀ env ls ds env', evI Φ it env = some (ls, ds, env') → ∀ (S : Addr → Prop) (σ : L2.St) (H : Hp), EnvOk X.K S σ H env →
  ∀ R : L2.It → Hp → Prop, (∀ J S' H', Fw S H σ env S' H' σ env' → EnvOk X.K S' σ H' env' → WalkD X.K J ds S' H' σ (lockE env' ls) → R J H') → AnyI X tg iter σ H R
instance {Φ : Fns} {X : Cx} {tg iter : Expr} {it : It} : CoeFun (SndI Φ X tg iter it) fun _ => ∀ env ls ds env', evI Φ it env = some (ls, ds, env') → ∀ (S : Addr → Prop) (σ : L2.St) (H : Hp), EnvOk X.K S σ H env →
    ∀ R : L2.It → Hp → Prop, (∀ J S' H', Fw S H σ env S' H' σ env' → EnvOk X.K S' σ H' env' → WalkD X.K J ds S' H' σ (lockE env' ls) → R J H') → AnyI X tg iter σ H R := ⟨SndI.run⟩
section
variable {Φ : Fns} {X : Cx} {a b c e tg iter : Expr} {xa xb xc x : Xp} {xs : Xps} {it : It} {pos p p2 : Pos}
theorem bindD_inv {o : Option D} {f : D → Option (List D)} {ds : List D} (h : o.bind f = some ds) : ∃ d, o = some d ∧ f d = some ds := by
  cases o with
  | none => cases h
  | some d => exact ⟨d, rfl, h⟩
theorem rv_str {K : PySem.W.Frag} {S : Addr → Prop} {H : Hp} {σ : L2.St} {env : Env} {r : R} {v : V} {d : D} (ok : EnvOk K S σ H env) (h : RV K S H σ env r v) (hv : r.val env = some d) : RepC K S H v d := h.repC ok hv
theorem sndI_x (he : Snd Φ X e x) : SndI Φ X tg e (.x x) := .mk fun env ls ds env' h S σ H ok R q => by
  simp only [evI] at h
  cases e1 : ev Φ x env with
  | none => rw [e1] at h; cases h
  | some p1 =>
    obtain ⟨r, en1⟩ := p1
    rw [e1] at h
    dsimp only at h
    cases e2 : (r.val en1).bind itemsD with
    | none => rw [e2] at h; cases h
    | some ds' =>
      rw [e2] at h
      cases h
      obtain ⟨d, f1, f2⟩ := bindD_inv e2
      have hl : ∀ i, r = .al i → i ∈ alsOf [r] := fun i z => by subst z; exact List.mem_cons_self
      cases d with
      | list xs =>
        cases f2
        refine anyI_of (pi_list pe_any) (he env r env' e1 S σ H ok _ fun v S1 H1 P => ?_)
        obtain ⟨a, vs, rfl, h1, h2, h3⟩ := rv_list (ls := alsOf [r]) P.ok P.rv f1 hl
        exact ⟨a, rfl, ⟨vs, h1⟩, q _ S1 H1 P.fw P.ok (walkd_list h3 h2)⟩
      | tuple xs =>
        cases f2
        refine anyI_of (pi_tup pe_any) (he env r env' e1 S σ H ok _ fun v S1 H1 P => ?_)
        obtain ⟨a, vs, rfl, h1, h2⟩ := Rep.tup_inv (P.rv.repC P.ok f1)
        exact ⟨a, rfl, ⟨vs, er_full.sqT h1⟩, q _ S1 H1 P.fw P.ok (walkd_tup (P.ok.lock _) h1 h2)⟩
      | str z =>
        cases f2
        refine anyI_of (pi_str pe_any) (he env r env' e1 S σ H ok _ fun v S1 H1 P => ?_)
        exact ⟨z, Rep.str_inv (P.rv.repC P.ok f1), q _ S1 H1 P.fw P.ok walkd_str⟩
      | _ => cases f2
theorem in62_iff {i : Int} : in62 i = true ↔ (-(2 ^ 62) ≤ i ∧ i < 2 ^ 62) := by
  unfold in62
  rw [Bool.and_eq_true, decide_eq_true_iff, decide_eq_true_iff]
theorem sndI_r1 (hg : Gl X "range") (hm : X.mg "range" = none) (ha : Snd Φ X a xa) (hs : starEach [a] X.env = [(false, eval a X.env)] := by exact star_cons rfl) : SndI Φ X tg (.Call (.Name "range" p) [a] [] pos) (.r1 xa) := .mk fun env ls ds env' h S σ H ok R q => by
  simp only [evI] at h
  cases e1 : ev Φ xa env with
  | none => rw [e1] at h; cases h
  | some p1 =>
    obtain ⟨r, en1⟩ := p1
    rw [e1] at h
    dsimp only at h
    cases f1 : r.val en1 with
    | none => rw [f1] at h; cases h
    | some d =>
      rw [f1] at h
      cases d <;> first | cases h | skip
      rename_i j
      dsimp only at h
      split at h
      · rename_i hc
        cases h
        obtain ⟨c1, c2⟩ := in62_iff.mp hc
        refine anyI_of (pi_range1 hg hm (pa_cons pe_any pa_nil hs) hs) (ha env r env' e1 S σ H ok _ fun v S1 H1 P => ?_)
        exact ⟨j, by rw [Rep.int_inv (P.rv.rep P.ok f1)], c1, c2, q _ S1 H1 P.fw P.ok walkd_range⟩
      · cases h
theorem sndI_r2 (hg : Gl X "range") (hm : X.mg "range" = none) (ha : Snd Φ X a xa) (hb : Snd Φ X b xb) (hs : starEach [a, b] X.env = [(false, eval a X.env), (false, eval b X.env)] := by exact star_cons rfl) (hs2 : starEach [b] X.env = [(false, eval b X.env)] := by exact star_cons rfl) : SndI Φ X tg (.Call (.Name "range" p) [a, b] [] pos) (.r2 xa xb) := .mk fun env ls ds env' h S σ H ok R q => by
  simp only [evI] at h
  cases e1 : ev Φ xa env with
  | none => rw [e1] at h; cases h
  | some p1 =>
    obtain ⟨r1, en1⟩ := p1
    rw [e1] at h
    dsimp only at h
    cases e2 : ev Φ xb en1 with
    | none => rw [e2] at h; cases h
    | some p2 =>
      obtain ⟨r2, en2⟩ := p2
      rw [e2] at h
      dsimp only at h
      cases f1 : r1.val en2 with
      | none => rw [f1] at h; cases h
      | some d1 =>
        cases f2 : r2.val en2 with
        | none => rw [f1, f2] at h; cases d1 <;> cases h
        | some d2 =>
          rw [f1, f2] at h
          cases d1 <;> first | cases h | skip
          cases d2 <;> first | cases h | skip
          rename_i i j
          dsimp only at h
          split at h
          · rename_i hc
            cases h
            rw [Bool.and_eq_true, in62_iff, in62_iff] at hc
            refine anyI_of (pi_range2 hg hm (pa_cons pe_any (pa_cons pe_any pa_nil hs2) (by rw [hs, hs2])) hs hs2) (seq2 (x := .non) (y := .non) (Q := fun _ _ => True) ha hb e1 e2 ok fun v w S2 H2 h1 h2 h3 h4 => ?_)
            exact ⟨i, j, by rw [Rep.int_inv (h3.rep h2 f1), Rep.int_inv (h4.rep h2 f2)], ⟨hc.1.1, hc.1.2, hc.2.1, hc.2.2⟩, q _ S2 H2 h1 h2 walkd_range⟩
          · cases h
theorem sndI_e {elts : List Expr} {kk : Nat} {tpos : Pos} (hg : Gl X "enumerate") (hm : X.mg "enumerate" = none) (ha : Snd Φ X a xa) (hs : starEach [a] X.env = [(false, eval a X.env)] := by exact star_cons rfl) : SndI Φ X (.Tuple elts kk tpos) (.Call (.Name "enumerate" p) [a] [] pos) (.e xa) := .mk fun env ls ds env' h S σ H ok R q => by
  simp only [evI] at h
  cases e1 : ev Φ xa env with
  | none => rw [e1] at h; cases h
  | some p1 =>
    obtain ⟨r, en1⟩ := p1
    rw [e1] at h
    dsimp only at h
    cases e2 : (r.val en1).bind lstD with
    | none => rw [e2] at h; cases h
    | some ds' =>
      rw [e2] at h
      cases h
      obtain ⟨d, f1, f2⟩ := bindD_inv e2
      have hl : ∀ i, r = .al i → i ∈ alsOf [r] := fun i z => by subst z; exact List.mem_cons_self
      cases d <;> first | cases f2 | skip
      refine anyI_of (pi_enum hg hm (pa_cons pe_any pa_nil hs) hs) (ha env r env' e1 S σ H ok _ fun v S1 H1 P => ?_)
      obtain ⟨a, vs, rfl, h1, h2, h3⟩ := rv_list (ls := alsOf [r]) P.ok P.rv f1 hl
      exact ⟨a, vs, rfl, h1, q _ S1 H1 P.fw P.ok (walkd_enumL h3 h2)⟩
theorem als_two_l {r1 r2 : R} : ∀ i, r1 = .al i → i ∈ alsOf [r1, r2] := fun i z => by subst z; exact List.mem_cons_self
theorem als_two_r {r1 r2 : R} : ∀ i, r2 = .al i → i ∈ alsOf [r1, r2] := fun i z => by
  subst z
  cases r1 with
  | im d => exact List.mem_cons_self
  | fr d => exact List.mem_cons_self
  | al j => exact List.mem_cons_of_mem _ List.mem_cons_self
theorem walk_zipT {K : PySem.W.Frag} {a b : Addr} {xs ys : List V} {n : Nat} (hn : n = min xs.length ys.length) : Walk (ItzT K a b) n (fun H => SqT K H a xs ∧ SqT K H b ys) (YPair (fun i => xs[i]?) (fun i => ys[i]?)) := by
  subst hn
  refine ⟨fun i H hi g => ?_, fun H g => ?_, fun i H x H' _ g y => ?_⟩
  · have h1 : i < xs.length := by omega
    have h2 : i < ys.length := by omega
    exact ⟨xs, ys, _, _, g.1, g.2, List.getElem?_eq_getElem h1, List.getElem?_eq_getElem h2⟩
  · refine ⟨xs, ys, g.1, g.2, ?_⟩
    omega
  · obtain ⟨T, x1, x2, rfl, nT, rfl, f1, f2⟩ := y
    exact ⟨T, x1, x2, rfl, nT, rfl, f1 _ g.1, f2 _ g.2⟩
theorem walkd_zipT {K : PySem.W.Frag} {S : Addr → Prop} {H : Hp} {σ : L2.St} {env : Env} {a b : Addr} {xs ys : List V} {ds es : List D} (ok : EnvOk K S σ H env) (h : SqT K (er S H) a xs) (h' : SqT K (er S H) b ys) (r : Reps K (er S H) xs ds) (r' : Reps K (er S H) ys es) : WalkD K (ItzT K a b) (List.zipWith (fun a b => .tuple [a, b]) ds es) S H σ env := by
  have kp : ∀ {a : Addr} {xs : List V}, SqT K (er S H) a xs → ∀ H', (∀ a o, H a = some o → ¬ Ch σ env a → H' a = some o) → SqT K H' a xs := fun {a xs} h H' k => by
    rcases h with h | h
    · refine .inl (keepRd (σ := σ) (env := env) (er_full _ _ h) (fun z => ?_) k)
      have hs := ok.ch z
      rcases h with h | ⟨o, h⟩
      · exact (er_some h).1 hs
      · exact (er_some h).1 hs
    · exact .inr h
  refine ⟨fun H' => SqT K H' a xs ∧ SqT K H' b ys, _, by rw [List.length_zipWith, ← r.length, ← r'.length]; exact walk_zipT rfl, fun H' k => ⟨kp h H' k, kp h' H' k⟩, fun i H1 x H2 hi g y => ?_⟩
  obtain ⟨T, v, w, rfl, hT, rfl, h1, h2⟩ := y
  obtain ⟨d, e1, e2⟩ := r.getV h1
  obtain ⟨e, f1, f2⟩ := r'.getV h2
  exact ⟨_, zipw_get e1 f1, .inr ⟨T, _, hT, rfl⟩, fun S' le dom => rep_pair hT dom (e2.mono le) (f2.mono le)⟩
theorem sndI_z {elts : List Expr} {kk : Nat} {tpos : Pos} (hg : Gl X "zip") (hm : X.mg "zip" = none) (ha : Snd Φ X a xa) (hb : Snd Φ X b xb) (hs : starEach [a, b] X.env = (false, eval a X.env) :: starEach [b] X.env := by exact star_cons rfl) (hs2 : starEach [b] X.env = (false, eval b X.env) :: starEach [] X.env := by exact star_cons rfl) (hpl : (backTo pos (starEach [b] X.env)).any (·.1) = false := by rfl) : SndI Φ X (.Tuple elts kk tpos) (.Call (.Name "zip" p) [a, b] [] pos) (.z xa xb) := .mk fun env ls ds env' h S σ H ok R q => by
  simp only [evI] at h
  cases e1 : ev Φ xa env with
  | none => rw [e1] at h; cases h
  | some p1 =>
    obtain ⟨r1, en1⟩ := p1
    rw [e1] at h
    dsimp only at h
    cases e2 : ev Φ xb en1 with
    | none => rw [e2] at h; cases h
    | some p2 =>
      obtain ⟨r2, en2⟩ := p2
      rw [e2] at h
      dsimp only at h
      cases f1 : r1.val en2 with
      | none => rw [f1] at h; cases h
      | some d1 =>
        cases f2 : r2.val en2 with
        | none => rw [f1, f2] at h; cases h
        | some d2 =>
          rw [f1, f2] at h
          dsimp only at h
          cases g : zipD d1 d2 with
          | none => rw [g] at h; cases h
          | some ds' =>
            rw [g] at h
            cases h
            refine anyI_of (pi_zipA hg hm (pa_cons pe_any (pa_cons pe_any pa_nil hs2) hs) hs hpl) (seq2 (x := .non) (y := .non) (Q := fun _ _ => True) ha hb e1 e2 ok fun v w S2 H2 h1 h2 h3 h4 => ?_)
            cases d1 with
            | list xs =>
              cases d2 <;> first | cases g | skip
              obtain ⟨a1, vs1, rfl, g1, g2, g3⟩ := rv_list (ls := alsOf [r1, r2]) h2 h3 f1 als_two_l
              obtain ⟨a2, vs2, rfl, g4, g5, g6⟩ := rv_list (ls := alsOf [r1, r2]) h2 h4 f2 als_two_r
              exact ⟨a1, a2, vs1, vs2, rfl, .inl ⟨g1, g4, q _ S2 H2 h1 h2 (walkd_zipL g3 g6 g2 g5)⟩⟩
            | tuple xs =>
              cases d2 <;> first | cases g | skip
              obtain ⟨a1, vs1, rfl, g1, g2⟩ := Rep.tup_inv (h3.repC h2 f1)
              obtain ⟨a2, vs2, rfl, g4, g5⟩ := Rep.tup_inv (h4.repC h2 f2)
              exact ⟨a1, a2, vs1, vs2, rfl, .inr ⟨er_full.sqT g1, er_full.sqT g4, q _ S2 H2 h1 h2 (walkd_zipT (h2.lock _) g1 g4 g2 g5)⟩⟩
            | _ => cases d2 <;> cases g
end
/-! ### a slot is set -/
section
variable {K : PySem.W.Frag} {S S0 : Addr → Prop} {H H0 : Hp} {σ σ0 : L2.St} {env env' env0 : Env}
theorem setSl_inv {i : Nat} {s : Sl} (h : setSl env i s = some env') : i < env.length ∧ env' = env.set i s ∧ (∀ d, env[i]? ≠ some (.ow .bor d)) ∧ (∀ d, env[i]? ≠ some (.ow .lck d)) := by
  unfold setSl at h
  cases q : env[i]? with
  | none => rw [q] at h; cases h
  | some t =>
    have hi := (List.getElem?_eq_some_iff.mp q).1
    rw [q] at h
    cases t with
    | un => cases h; exact ⟨hi, rfl, (fun d z => by cases z), (fun d z => by cases z)⟩
    | im e => cases h; exact ⟨hi, rfl, (fun d z => by cases z), (fun d z => by cases z)⟩
    | ow k e =>
      cases k with
      | own => cases h; exact ⟨hi, rfl, (fun d z => by cases z), (fun d z => by cases z)⟩
      | bor => cases h
      | lck => cases h
/-- what may be put into a slot -/
def SlOk (K : PySem.W.Frag) (S : Addr → Prop) (H : Hp) (σ : L2.St) (env : Env) (H0 : Hp) (s : Sl) (v : V) : Prop :=
  match s with
  | .im d => Rep K (er S H) v d
  | .ow .own d => ∃ p, v = .ref p ∧ S p ∧ H0 p = none ∧ (∀ k, ¬ OwnsK k σ env p) ∧ Own K (er S H) H p d ∧ Mut (H p)
  | _ => False
theorem set_ok {i : Nat} {s : Sl} {v : V} (F : Fw S0 H0 σ0 env0 S H σ env) (ok : EnvOk K S σ H env) (h : setSl env i s = some env') (hv : SlOk K S H σ env H0 s v) : EnvOk K S (σ.set i (some v)) H env' ∧ Fw S0 H0 σ0 env0 S H (σ.set i (some v)) env' := by
  obtain ⟨hi, rfl, nb, nl⟩ := setSl_inv h
  have hiσ : i < σ.length := by rw [ok.len]; exact hi
  have sne : ∀ {j : Nat}, i ≠ j → (σ.set i (some v))[j]? = σ[j]? := fun ne => List.getElem?_set_ne ne
  -- an owned slot behind it: the new one, or another one as it was
  have ow : ∀ (j : Nat) k d, (env.set i s)[j]? = some (.ow k d) → (i = j ∧ k = .own ∧ s = .ow .own d) ∨ (i ≠ j ∧ env[j]? = some (.ow k d)) := fun j k d z => by
    rcases getElem?_set_cases z with ⟨e, z⟩ | ⟨ne, z⟩
    · subst z
      cases k with
      | own => exact .inl ⟨e, rfl, rfl⟩
      | bor => exact hv.elim
      | lck => exact hv.elim
    · exact .inr ⟨ne, z⟩
  refine ⟨⟨by rw [List.length_set, List.length_set]; exact ok.len, ok.dom, fun j d z => ?_, fun j k d z => ?_, fun j1 j2 k l d e p h1 h2 h3 h4 => ?_⟩, ⟨F.sub, F.kp, F.fr, fun a z => ?_, fun j d z => ?_, fun j d z => ?_, fun j d z => ?_, fun j d z => ?_, F.dm⟩⟩
  · rcases getElem?_set_cases z with ⟨rfl, z'⟩ | ⟨ne, z⟩
    · subst z'
      exact ⟨v, List.getElem?_set_self hiσ, hv⟩
    · obtain ⟨w, g1, g2⟩ := ok.im j d z
      exact ⟨w, by rw [sne ne]; exact g1, g2⟩
  · rcases ow j k d z with ⟨rfl, rfl, rfl⟩ | ⟨ne, z⟩
    · obtain ⟨p, rfl, g1, g2, g3, g4, g5⟩ := hv
      exact ⟨p, List.getElem?_set_self hiσ, g1, g4, fun _ => g5⟩
    · obtain ⟨p, g1, g2, g3, g4⟩ := ok.ow j k d z
      exact ⟨p, by rw [sne ne]; exact g1, g2, g3, g4⟩
  · rcases ow j1 k d h1 with ⟨rfl, rfl, rfl⟩ | ⟨ne1, z1⟩
    · rcases ow j2 l e h2 with ⟨rfl, _, _⟩ | ⟨ne2, z2⟩
      · rfl
      · exfalso
        obtain ⟨p', rfl, g1, g2, g3, g4, g5⟩ := hv
        rw [List.getElem?_set_self hiσ] at h3
        cases h3
        rw [sne ne2] at h4
        exact g3 l ⟨j2, e, z2, h4⟩
    · rcases ow j2 l e h2 with ⟨rfl, rfl, rfl⟩ | ⟨ne2, z2⟩
      · exfalso
        obtain ⟨p', rfl, g1, g2, g3, g4, g5⟩ := hv
        rw [List.getElem?_set_self hiσ] at h4
        cases h4
        rw [sne ne1] at h3
        exact g3 k ⟨j1, d, z1, h3⟩
      · rw [sne ne1] at h3
        rw [sne ne2] at h4
        exact ok.inj j1 j2 k l d e p z1 z2 h3 h4
  · obtain ⟨j, d, z1, z2⟩ := z
    rcases ow j .own d z1 with ⟨rfl, _, rfl⟩ | ⟨ne, z1⟩
    · obtain ⟨p', rfl, g1, g2, g3, g4, g5⟩ := hv
      rw [List.getElem?_set_self hiσ] at z2
      cases z2
      exact .inr g2
    · rw [sne ne] at z2
      exact F.own a ⟨j, d, z1, z2⟩
  · obtain ⟨d', g1, g2⟩ := F.bo j d z
    have ne : i ≠ j := fun e => by subst e; exact nb _ g1
    exact ⟨d', by rw [List.getElem?_set_ne ne]; exact g1, by rw [sne ne]; exact g2⟩
  · rcases ow j .bor d z with ⟨_, e, _⟩ | ⟨ne, z⟩
    · cases e
    · obtain ⟨d', g1, g2⟩ := F.bo' j d z
      exact ⟨d', g1, by rw [sne ne]; exact g2⟩
  · obtain ⟨g1, g2⟩ := F.lk j d z
    have ne : i ≠ j := fun e => by subst e; exact nl _ g1
    exact ⟨by rw [List.getElem?_set_ne ne]; exact g1, by rw [sne ne]; exact g2⟩
  · rcases ow j .lck d z with ⟨_, e, _⟩ | ⟨ne, z⟩
    · cases e
    · obtain ⟨g1, g2⟩ := F.lk' j d z
      exact ⟨g1, by rw [sne ne]; exact g2⟩

/-! ### targets -/
def gNames : List Nat → L2.TGs
  | [] => gNil
  | i :: is => gCons (gName i) (gNames is)
def gOf (K : PySem.W.Frag) : Tg → L2.TG
  | .n i => gName i
  | .t is => gTup K is.length (gNames is)
def Tg.ixs : Tg → List Nat
  | .n i => [i]
  | .t is => is
theorem wipe_set {σ : L2.St} {i : Nat} {x : Option V} : ∀ {vs : List Nat}, i ∈ vs → wipe (σ.set i x) vs = wipe σ vs
  | [], h => by cases h
  | v :: vs, h => by
    unfold wipe
    by_cases e : v = i
    · subst e
      by_cases m : v ∈ vs
      · rw [wipe_set m]
      · have com : ∀ (vs : List Nat), v ∉ vs → wipe (σ.set v x) vs = (wipe σ vs).set v x := fun vs => by
          induction vs with
          | nil => intro _; rfl
          | cons w ws ih =>
            intro m
            unfold wipe
            rw [ih fun z => m (List.mem_cons_of_mem _ z)]
            rw [List.set_comm _ _ fun z => m (by rw [z]; exact List.mem_cons_self)]
        rw [com vs m, List.set_set]
    · rcases List.mem_cons.mp h with z | m
      · exact absurd z.symm e
      · rw [wipe_set m]
/-- what holds of the frame ahead of a store holds behind it -/
def FwTo (S : Addr → Prop) (H : Hp) (σ : L2.St) (env : Env) (σ' : L2.St) (env' : Env) : Prop := ∀ (S0 : Addr → Prop) (H0 : Hp) (σ0 : L2.St) (env0 : Env), Fw S0 H0 σ0 env0 S H σ env → Fw S0 H0 σ0 env0 S H σ' env'
theorem set_im {i : Nat} {d : D} {v : V} (ok : EnvOk K S σ H env) (h : setSl env i (.im d) = some env') (hv : Rep K (er S H) v d) : EnvOk K S (σ.set i (some v)) H env' ∧ FwTo S H σ env (σ.set i (some v)) env' :=
  ⟨(set_ok (s := .im d) (S0 := S) (H0 := H) (σ0 := σ) (env0 := env) Fw.refl ok h hv).1, fun S0 H0 σ0 env0 F => (set_ok (s := .im d) F ok h hv).2⟩
theorem binds_ok (ok : EnvOk K S σ H env) : ∀ {is : List Nat} {ds : List D} {xs : List V}, bindTs is ds env = some env' → Reps K (er S H) xs ds →
    ∀ {Q : L2.St → Hp → Prop}, (∀ σ', EnvOk K S σ' H env' → FwTo S H σ env σ' env' → (∀ vs : List Nat, (∀ i ∈ is, i ∈ vs) → wipe σ' vs = wipe σ vs) → Q σ' H) → gNames is xs σ H Q := by
  intro is
  induction is generalizing σ env with
  | nil =>
    intro ds xs h r Q q
    cases ds with
    | nil =>
      cases h
      cases r
      exact ⟨rfl, q σ ok (fun _ _ _ _ F => F) fun _ _ => rfl⟩
    | cons d ds => cases h
  | cons i is ih =>
    intro ds xs h r Q q
    cases ds with
    | nil => cases h
    | cons d ds =>
      cases r with
      | cons r1 r2 =>
        simp only [bindTs] at h
        cases e : setSl env i (.im d) with
        | none => rw [e] at h; cases h
        | some en1 =>
          rw [e] at h
          obtain ⟨ok1, F1⟩ := set_im ok e r1
          refine ⟨_, _, rfl, ih ok1 h r2 fun σ' ok' F' hw => q σ' ok' (fun S0 H0 σ0 env0 F => F' _ _ _ _ (F1 _ _ _ _ F)) fun vs hv => ?_⟩
          rw [hw vs fun j hj => hv j (List.mem_cons_of_mem _ hj), wipe_set (hv i List.mem_cons_self)]
theorem bind_len : ∀ {is : List Nat} {ds : List D} {env env' : Env}, bindTs is ds env = some env' → ds.length = is.length
  | [], [], _, _, _ => rfl
  | [], _ :: _, _, _, h => by cases h
  | _ :: _, [], _, _, h => by cases h
  | i :: is, d :: ds, env, env', h => by
    simp only [bindTs] at h
    cases e : setSl env i (.im d) with
    | none => rw [e] at h; cases h
    | some en1 =>
      rw [e] at h
      exact congrArg (· + 1) (bind_len h)
theorem bind_ok {tg : Tg} {d : D} {v : V} (ok : EnvOk K S σ H env) (h : bindT tg d env = some env') (r : Rep K (er S H) v d)
    {Q : L2.St → Hp → Prop} (q : ∀ σ', EnvOk K S σ' H env' → FwTo S H σ env σ' env' → (∀ vs : List Nat, (∀ i ∈ tg.ixs, i ∈ vs) → wipe σ' vs = wipe σ vs) → Q σ' H) : gOf K tg v σ H Q := by
  cases tg with
  | n i =>
    obtain ⟨ok1, F1⟩ := set_im ok h r
    exact q _ ok1 F1 fun vs hv => wipe_set (hv i List.mem_cons_self)
  | t is =>
    cases d <;> first | cases h | skip
    obtain ⟨a, xs, rfl, h1, h2⟩ := Rep.tup_inv r
    exact ⟨a, xs, rfl, er_full.sqT h1, by rw [h2.length]; exact bind_len h, binds_ok ok h h2 q⟩
theorem wipe_wipe (σ : L2.St) (vs : List Nat) : wipe (wipe σ vs) vs = wipe σ vs := by
  have go : ∀ ws : List Nat, (∀ i ∈ ws, i ∈ vs) → wipe (wipe σ ws) vs = wipe σ vs := fun ws => by
    induction ws with
    | nil => intro _; rfl
    | cons w ws ih =>
      intro h
      show wipe ((wipe σ ws).set w none) vs = wipe σ vs
      rw [wipe_set (h w List.mem_cons_self)]
      exact ih fun i hi => h i (List.mem_cons_of_mem _ hi)
  exact go vs fun _ h => h
end
end DI

set_option maxRecDepth 100000
/-! DI13: list comprehensions. -/
namespace DI
open PySem PySem.Spec PyProof.Rows L2
section
variable {K : PySem.W.Frag} {S S' S0 S1 : Addr → Prop} {H H' H0 H1 : Hp} {σ σ' : L2.St} {env env' env0 env1 en : Env}
theorem EnvOk.wipe (ok : EnvOk K S σ H env) (vs : List Nat) : EnvOk K S (L2.wipe σ vs) H (wipeE env vs) := by
  have ow : ∀ (i : Nat) s, s ≠ .un → (wipeE env vs)[i]? = some s → i ∉ vs ∧ env[i]? = some s := fun i s hs h => by
    rcases wipeE_cases env vs i s h with ⟨_, e⟩ | h
    · exact absurd e hs
    · exact h
  refine ⟨by rw [wipe_length, wipeE_len]; exact ok.len, ok.dom, fun i d h => ?_, fun i k d h => ?_, fun i j k l d e p h1 h2 h3 h4 => ?_⟩
  · obtain ⟨h1, h2⟩ := ow i _ (fun z => by cases z) h
    obtain ⟨v, g1, g2⟩ := ok.im i d h2
    exact ⟨v, by rw [wipe_out h1]; exact g1, g2⟩
  · obtain ⟨h1, h2⟩ := ow i _ (fun z => by cases z) h
    obtain ⟨p, g1, g2⟩ := ok.ow i k d h2
    exact ⟨p, by rw [wipe_out h1]; exact g1, g2⟩
  · obtain ⟨a1, a2⟩ := ow i _ (fun z => by cases z) h1
    obtain ⟨b1, b2⟩ := ow j _ (fun z => by cases z) h2
    rw [wipe_out a1] at h3
    rw [wipe_out b1] at h4
    exact ok.inj i j k l d e p a2 b2 h3 h4
theorem ownsK_wipe {k : Kd} {vs : List Nat} {a : Addr} (h : OwnsK k (L2.wipe σ vs) (wipeE env vs) a) : OwnsK k σ env a := by
  obtain ⟨i, d, h1, h2⟩ := h
  rcases wipeE_cases env vs i _ h1 with ⟨_, e⟩ | ⟨g1, g2⟩
  · cases e
  · rw [wipe_out g1] at h2
    exact ⟨i, d, g2, h2⟩
theorem ch_wipe {vs : List Nat} {a : Addr} (h : Ch (L2.wipe σ vs) (wipeE env vs) a) : Ch σ env a := by
  rcases h with h | h
  · exact .inl (ownsK_wipe h)
  · exact .inr (ownsK_wipe h)
/-- the slots of a block wiped again -/
theorem Fw.wipe {vs : List Nat} {σw : L2.St} {envB : Env} (F : Fw S0 H0 σw (wipeE envB vs) S H σ env) : Fw S0 H0 σw (wipeE envB vs) S H (L2.wipe σ vs) (wipeE env vs) := by
  have nv : ∀ (i : Nat) s, s ≠ .un → (wipeE envB vs)[i]? = some s → i ∉ vs := fun i s hs h => by
    rcases wipeE_cases envB vs i s h with ⟨_, e⟩ | ⟨h, _⟩
    · exact absurd e hs
    · exact h
  refine ⟨F.sub, F.kp, F.fr, fun a h => F.own a (ownsK_wipe h), fun i d h => ?_, fun i d h => ?_, fun i d h => ?_, fun i d h => ?_, F.dm⟩
  · obtain ⟨d', g1, g2⟩ := F.bo i d h
    have hi := nv i _ (fun z => by cases z) h
    exact ⟨d', by rw [wipeE_out env vs i hi]; exact g1, by rw [wipe_out hi]; exact g2⟩
  · rcases wipeE_cases env vs i _ h with ⟨_, e⟩ | ⟨h1, h2⟩
    · cases e
    · obtain ⟨d', g1, g2⟩ := F.bo' i d h2
      exact ⟨d', g1, by rw [wipe_out h1]; exact g2⟩
  · obtain ⟨g1, g2⟩ := F.lk i d h
    have hi := nv i _ (fun z => by cases z) h
    exact ⟨by rw [wipeE_out env vs i hi]; exact g1, by rw [wipe_out hi]; exact g2⟩
  · rcases wipeE_cases env vs i _ h with ⟨_, e⟩ | ⟨h1, h2⟩
    · cases e
    · obtain ⟨g1, g2⟩ := F.lk' i d h2
      exact ⟨g1, by rw [wipe_out h1]; exact g2⟩
theorem free_at {vs : List Nat} (h : freeE env vs = true) {i : Nat} (hi : i ∈ vs) : (∀ d, env[i]? ≠ some (.ow .bor d)) ∧ ∀ d, env[i]? ≠ some (.ow .lck d) := by
  unfold freeE at h
  have h' := List.all_eq_true.mp h i hi
  constructor
  · intro d e
    rw [e] at h'
    cases h'
  · intro d e
    rw [e] at h'
    cases h'
/-- behind a block: the slots as they were, what was walked open again -/
theorem lc_end {vs ls : List Nat} (ok1 : EnvOk K S1 σ H1 env1) (free : freeE env1 vs = true) (F : Fw S1 H1 (L2.wipe σ vs) (wipeE (lockE env1 ls) vs) S' H' (L2.wipe σ vs) en) (okE : EnvOk K S' (L2.wipe σ vs) H' en) :
    EnvOk K S' σ H' (unlockE env1 (backE (lockE env1 ls) en vs) ls) ∧ Fw S1 H1 σ env1 S' H' σ (unlockE env1 (backE (lockE env1 ls) en vs) ls) ∧
      ∀ k a, OwnsK k σ (unlockE env1 (backE (lockE env1 ls) en vs) ls) a → OwnsK k σ env1 a ∨ OwnsK k (L2.wipe σ vs) en a := by
  have okL := ok1.lock ls
  have okW := okL.wipe vs
  have le : Le (er S1 H1) (er S' H') := Fw.le okW F
  have hlen : (lockE env1 ls).length = en.length := by
    rw [lock_len, ← ok1.len, ← wipe_length σ vs, okE.len]
  -- where a slot comes from
  have src : ∀ (j : Nat) (s : Sl), (unlockE env1 (backE (lockE env1 ls) en vs) ls)[j]? = some s → (env1[j]? = some s ∧ ((∃ k d, s = .ow k d ∧ j ∈ ls) ∨ j ∈ vs)) ∨ (en[j]? = some s ∧ j ∉ vs ∧ (j ∈ ls → ∀ k d, env1[j]? ≠ some (.ow k d))) := fun j s h => by
    rcases unlock_cases env1 _ ls j s h with ⟨k, d, h1, h2, h3⟩ | ⟨h1, h2⟩
    · subst h3
      exact .inl ⟨h2, .inl ⟨k, d, rfl, h1⟩⟩
    · rcases backE_cases (lockE env1 ls) en hlen vs j s h1 with ⟨g1, g2⟩ | ⟨g1, g2⟩
      · rcases lock_cases env1 ls j s g2 with ⟨k, d, q1, q2, _⟩ | ⟨q1, _⟩
        · exact absurd q2 (h2 q1 k d)
        · exact .inl ⟨q1, .inr g1⟩
      · exact .inr ⟨g2, g1, h2⟩
  -- a slot of env1 that is locked or wiped owns nothing that changes
  have quiet : ∀ (j : Nat) k d p, env1[j]? = some (.ow k d) → σ[j]? = some (some (.ref p)) → (j ∈ ls ∨ j ∈ vs) → ¬ Ch (L2.wipe σ vs) (wipeE (lockE env1 ls) vs) p := fun j k d p h1 h2 h3 hc => by
    have go : ∀ k', k' ≠ .lck → OwnsK k' (L2.wipe σ vs) (wipeE (lockE env1 ls) vs) p → False := fun k' hk z => by
      obtain ⟨i, d', z1, z2⟩ := z
      rcases wipeE_cases _ vs i _ z1 with ⟨_, e⟩ | ⟨z3, z4⟩
      · cases e
      · rw [wipe_out z3] at z2
        obtain ⟨k2, y1, y2⟩ := lock_kind z4
        have e := ok1.inj j i _ _ _ _ p h1 y1 h2 z2
        subst e
        rcases h3 with h3 | h3
        · rcases lock_cases env1 ls j _ z4 with ⟨_, _, _, _, x⟩ | ⟨_, x⟩
          · cases x
            exact hk rfl
          · exact x h3 k' d' rfl
        · exact z3 h3
    rcases hc with hc | hc
    · exact go _ (fun z => by cases z) hc
    · exact go _ (fun z => by cases z) hc
  have ownW : ∀ {k a}, OwnsK k (L2.wipe σ vs) (wipeE (lockE env1 ls) vs) a → k ≠ .lck → OwnsK k σ env1 a := fun {k a} h hk => by
    obtain ⟨i, d, h1, h2⟩ := ownsK_wipe h
    obtain ⟨k', g1, g2⟩ := lock_kind h1
    rw [g2 hk] at g1
    exact ⟨i, d, g1, h2⟩
  have same : ∀ (j : Nat) k d p, env1[j]? = some (.ow k d) → σ[j]? = some (some (.ref p)) → (j ∈ ls ∨ j ∈ vs) → S' p ∧ H' p = H1 p := fun j k d p h1 h2 h3 => by
    have q := quiet j k d p h1 h2 h3
    obtain ⟨p', g1, g2, _⟩ := ok1.ow j k d h1
    rw [h2] at g1
    cases g1
    have hd := ok1.dom p g2
    refine ⟨F.kp p g2 hd fun z => q (.inl z), ?_⟩
    cases e : H1 p with
    | none => exact absurd e hd
    | some o => exact F.fr p o e q
  have nv_bor : ∀ (i : Nat) d, env1[i]? = some (.ow .bor d) → i ∉ vs := fun i d h m => (free_at free m).1 d h
  have nv_lck : ∀ (i : Nat) d, env1[i]? = some (.ow .lck d) → i ∉ vs := fun i d h m => (free_at free m).2 d h
  have there : ∀ (i : Nat) s, env1[i]? = some s → ∃ t, (unlockE env1 (backE (lockE env1 ls) en vs) ls)[i]? = some t := fun i s h => by
    have hi := (List.getElem?_eq_some_iff.mp h).1
    exact ⟨_, List.getElem?_eq_getElem (by rw [unlock_len, backE_len, ← hlen, lock_len]; exact hi)⟩
  refine ⟨⟨by rw [unlock_len, backE_len, ← hlen, lock_len]; exact ok1.len, okE.dom, fun j d h => ?_, fun j k d h => ?_, fun i j k l d e p h1 h2 h3 h4 => ?_⟩, ⟨F.sub, fun a h1 h2 h3 => F.kp a h1 h2 fun z => h3 (ownW z (fun w => by cases w)), fun a o h n => F.fr a o h fun z => n (lock_ch (ch_wipe z)), fun a h => ?_, fun i d h => ?_, fun i d h => ?_, fun i d h => ?_, fun i d h => ?_, F.dm⟩, fun k a h => ?_⟩
  · rcases src j _ h with ⟨h1, _⟩ | ⟨h1, h2, _⟩
    · obtain ⟨v, g1, g2⟩ := ok1.im j d h1
      exact ⟨v, g1, g2.mono le⟩
    · obtain ⟨v, g1, g2⟩ := okE.im j d h1
      exact ⟨v, by rw [← wipe_out h2]; exact g1, g2⟩
  · rcases src j _ h with ⟨h1, h2⟩ | ⟨h1, h2, _⟩
    · have h2' : j ∈ ls ∨ j ∈ vs := h2.elim (fun ⟨_, _, _, m⟩ => .inl m) .inr
      obtain ⟨p, g1, g2, g3, g4⟩ := ok1.ow j k d h1
      obtain ⟨q1, q2⟩ := same j k d p h1 g1 h2'
      exact ⟨p, g1, q1, g3.mono le (fun u r => by unfold Rd at r ⊢; rw [q2]; exact r), fun z => by rw [q2]; exact g4 z⟩
    · obtain ⟨p, g1, g2⟩ := okE.ow j k d h1
      exact ⟨p, by rw [← wipe_out h2]; exact g1, g2⟩
  · -- no two slots own one object
    have mixed : ∀ (i j : Nat) k l d e, env1[i]? = some (.ow k d) → (i ∈ ls ∨ i ∈ vs) → en[j]? = some (.ow l e) → j ∉ vs → σ[i]? = some (some (.ref p)) → σ[j]? = some (some (.ref p)) → i = j := fun i j k l d e a1 a2 b1 b2 c1 c2 => by
      have q := quiet i k d p a1 c1 a2
      have hd : H1 p ≠ none := by
        obtain ⟨p', g1, g2, _⟩ := ok1.ow i k d a1
        rw [c1] at g1
        cases g1
        exact ok1.dom p g2
      have c2' : (L2.wipe σ vs)[j]? = some (some (.ref p)) := by rw [wipe_out b2]; exact c2
      cases l with
      | own =>
        rcases F.own p ⟨j, e, b1, c2'⟩ with z | z
        · exact absurd (.inl z) q
        · exact absurd z hd
      | bor =>
        obtain ⟨e', z1, z2⟩ := F.bo' j e b1
        exact absurd (.inr ⟨j, e', z1, by rw [← z2]; exact c2'⟩) q
      | lck =>
        obtain ⟨z1, _⟩ := F.lk' j e b1
        rcases wipeE_cases _ vs j _ z1 with ⟨m, _⟩ | ⟨_, z3⟩
        · exact absurd m b2
        · obtain ⟨k', y1, _⟩ := lock_kind z3
          exact ok1.inj i j _ _ _ _ p a1 y1 c1 c2
    have ors : ∀ {j : Nat} {s : Sl}, (∃ k d, s = .ow k d ∧ j ∈ ls) ∨ j ∈ vs → j ∈ ls ∨ j ∈ vs := fun h => h.elim (fun ⟨_, _, _, m⟩ => .inl m) .inr
    rcases src i _ h1 with ⟨a1, a2⟩ | ⟨a1, a2, _⟩
    · rcases src j _ h2 with ⟨b1, b2⟩ | ⟨b1, b2, _⟩
      · exact ok1.inj i j _ _ _ _ p a1 b1 h3 h4
      · exact mixed i j _ _ _ _ a1 (ors a2) b1 b2 h3 h4
    · rcases src j _ h2 with ⟨b1, b2⟩ | ⟨b1, b2, _⟩
      · exact (mixed j i _ _ _ _ b1 (ors b2) a1 a2 h4 h3).symm
      · exact okE.inj i j _ _ _ _ p a1 b1 (by rw [wipe_out a2]; exact h3) (by rw [wipe_out b2]; exact h4)
  · obtain ⟨j, d, h1, h2⟩ := h
    rcases src j _ h1 with ⟨a1, _⟩ | ⟨a1, a2, _⟩
    · exact .inl ⟨j, d, a1, h2⟩
    · rcases F.own a ⟨j, d, a1, by rw [wipe_out a2]; exact h2⟩ with z | z
      · exact .inl (ownW z (fun w => by cases w))
      · exact .inr z
  · obtain ⟨t, ht⟩ := there i _ h
    have hv := nv_bor i d h
    rcases src i t ht with ⟨a1, _⟩ | ⟨a1, a2, a3⟩
    · rw [h] at a1
      cases a1
      exact ⟨d, ht, rfl⟩
    · have hl : i ∉ ls := fun m => a3 m _ _ h
      have hL : (lockE env1 ls)[i]? = some (.ow .bor d) := by
        obtain ⟨s', hs'⟩ : ∃ s', (lockE env1 ls)[i]? = some s' := ⟨_, List.getElem?_eq_getElem (by rw [lock_len]; exact (List.getElem?_eq_some_iff.mp h).1)⟩
        rcases lock_cases env1 ls i s' hs' with ⟨_, _, m, _⟩ | ⟨q, _⟩
        · exact absurd m hl
        · rw [h] at q
          cases q
          exact hs'
      obtain ⟨d', g1, _⟩ := F.bo i d (by rw [wipeE_out _ vs i hv]; exact hL)
      rw [a1] at g1
      cases g1
      exact ⟨d', ht, rfl⟩
  · rcases src i _ h with ⟨a1, _⟩ | ⟨a1, a2, _⟩
    · exact ⟨d, a1, rfl⟩
    · obtain ⟨d', g1, _⟩ := F.bo' i d a1
      rcases wipeE_cases _ vs i _ g1 with ⟨m, _⟩ | ⟨_, z3⟩
      · exact absurd m a2
      · obtain ⟨k', y1, y2⟩ := lock_kind z3
        rw [y2 (fun z => by cases z)] at y1
        exact ⟨d', y1, rfl⟩
  · obtain ⟨t, ht⟩ := there i _ h
    have hv := nv_lck i d h
    rcases src i t ht with ⟨a1, _⟩ | ⟨a1, a2, a3⟩
    · rw [h] at a1
      cases a1
      exact ⟨ht, rfl⟩
    · have hl : i ∉ ls := fun m => a3 m _ _ h
      have hL : (lockE env1 ls)[i]? = some (.ow .lck d) := by
        obtain ⟨s', hs'⟩ : ∃ s', (lockE env1 ls)[i]? = some s' := ⟨_, List.getElem?_eq_getElem (by rw [lock_len]; exact (List.getElem?_eq_some_iff.mp h).1)⟩
        rcases lock_cases env1 ls i s' hs' with ⟨_, _, m, _⟩ | ⟨q, _⟩
        · exact absurd m hl
        · rw [h] at q
          cases q
          exact hs'
      obtain ⟨g1, _⟩ := F.lk i d (by rw [wipeE_out _ vs i hv]; exact hL)
      rw [a1] at g1
      cases g1
      exact ⟨ht, rfl⟩
  · rcases src i _ h with ⟨a1, _⟩ | ⟨a1, a2, a3⟩
    · exact ⟨a1, rfl⟩
    · obtain ⟨g1, _⟩ := F.lk' i d a1
      rcases wipeE_cases _ vs i _ g1 with ⟨m, _⟩ | ⟨_, z3⟩
      · exact absurd m a2
      · rcases lock_cases env1 ls i _ z3 with ⟨k', d', m, q, z⟩ | ⟨q, _⟩
        · exact absurd q (a3 m k' d')
        · exact ⟨q, rfl⟩
  · obtain ⟨j, d, h1, h2⟩ := h
    rcases src j _ h1 with ⟨a1, _⟩ | ⟨a1, a2, _⟩
    · exact .inl ⟨j, d, a1, h2⟩
    · exact .inr ⟨j, d, a1, by rw [wipe_out a2]; exact h2⟩
/-- a temporary object is changed -/
theorem EnvOk.temp {p : Addr} {o : HO} (ok : EnvOk K S σ H env) (hs : S p) (hn : ∀ k, ¬ OwnsK k σ env p) : EnvOk K S σ (upd H p o) env := by
  refine ok.move (by rw [er_upd hs]; exact Le.refl _) (fun k a h => ⟨ok.owns h, upd_ne fun z => hn k (by rw [← z]; exact h)⟩) fun a h => upd_dom (ok.dom a h)
end
end DI

set_option maxRecDepth 100000
/-! DI14: list comprehensions do what the evaluator says. -/
namespace DI
open PySem PySem.Spec PyProof.Rows L2
/-- a clause's tests -/
def AnyF (X : Cx) (ifs : List Expr) : TT := fun σ H Q => ∀ (pins : List (Addr × Obj)) (s : Shared), Inv X pins σ H s →
  wpAny (model X.prog X.w) X.A (forIn ifs true fun c r => if r = true then do let ok ← isTrue c X.env (eval c X.env); pure (ForInStep.yield ok) else pure (ForInStep.yield r)) (TP X pins σ Q) X.xe s
structure SndF (Φ : Fns) (X : Cx) (ifs : List Expr) (x : Xp) : Prop where
  run : ∀ env k env', tstX Φ x env = some (k, env') → ∀ (S : Addr → Prop) (σ : L2.St) (H : Hp), EnvOk X.K S σ H env →
  ∀ Q : Bool → Hp → Prop, (∀ S' H', Fw S H σ env S' H' σ env' → EnvOk X.K S' σ H' env' → Q k H') → AnyF X ifs σ H Q
instance {Φ : Fns} {X : Cx} {ifs : List Expr} {x : Xp} : CoeFun (SndF Φ X ifs x) fun _ => ∀ env k env', tstX Φ x env = some (k, env') → ∀ (S : Addr → Prop) (σ : L2.St) (H : Hp), EnvOk X.K S σ H env →
    ∀ Q : Bool → Hp → Prop, (∀ S' H', Fw S H σ env S' H' σ env' → EnvOk X.K S' σ H' env' → Q k H') → AnyF X ifs σ H Q := ⟨SndF.run⟩
section
variable {Φ : Fns} {X : Cx} {a b c e tg iter elt : Expr} {xa xb xc x xe xt : Xp} {xs : Xps} {it : It} {pos p p2 : Pos} {ifs : List Expr}
theorem sndF_nil : SndF Φ X [] (.c (.bool true)) := .mk fun env k env' h S σ H ok Q q pins s I => by
  simp only [tstX, ev, R.val, Option.bind, truthD] at h
  cases h
  exact pts_nil.run pins s σ H Q I (q S H Fw.refl ok)
theorem sndF_one (h : SndT Φ X c x) : SndF Φ X [c] x := .mk fun env k env' hv S σ H ok Q q pins s I =>
  (pts_one pt_any).run pins s σ H Q I (h env k env' hv S σ H ok Q q)
/-- the contexts of a comprehension's block -/
def Blk (X : Cx) (scope : Scope) (P : Cx → Prop) : Prop := ∀ (s : Shared) (H : Hp) (C : Addr) (cl : List (Str × Addr)) (fp : List Addr), P (X.blk s H scope (compEnvC scope cl C X.env) fp)
/-- a comprehension's turn -/
def lcTurn (Φ : Fns) (vs : List Nat) (tg : Tg) (tt e : Xp) : D → Env → Option (Option D × Env) := fun d en => match bindT tg d en with
  | some en1 => match ev Φ tt en1 with
    | some (rt, en2) => match (rt.val en2).bind truthD with
      | some true => match ev Φ e en2 with
        | some (re, en3) => match sto re en3 with
          | some (y, en4) => some (some y, wipeE en4 vs)
          | none => none
        | none => none
      | some false => some (none, wipeE en2 vs)
      | none => none
    | none => none
  | none => none
theorem lcTurn_inv {vs : List Nat} {tg : Tg} {tt e : Xp} {d : D} {en en' : Env} {o : Option D} (h : lcTurn Φ vs tg tt e d en = some (o, en')) :
    ∃ en1 en2 k, bindT tg d en = some en1 ∧ tstX Φ tt en1 = some (k, en2) ∧ ((k = true ∧ ∃ re en3 y en4, ev Φ e en2 = some (re, en3) ∧ sto re en3 = some (y, en4) ∧ o = some y ∧ en' = wipeE en4 vs) ∨ (k = false ∧ o = none ∧ en' = wipeE en2 vs)) := by
  unfold lcTurn at h
  cases e1 : bindT tg d en with
  | none => rw [e1] at h; cases h
  | some en1 =>
    rw [e1] at h
    dsimp only at h
    cases e2 : ev Φ tt en1 with
    | none => rw [e2] at h; cases h
    | some p2 =>
      obtain ⟨rt, en2⟩ := p2
      rw [e2] at h
      dsimp only at h
      cases e3 : (rt.val en2).bind truthD with
      | none => rw [e3] at h; cases h
      | some k =>
        rw [e3] at h
        have ts : tstX Φ tt en1 = some (k, en2) := by simp only [tstX, e2, e3]
        cases k with
        | false =>
          cases h
          exact ⟨en1, en2, false, rfl, ts, .inr ⟨rfl, rfl, rfl⟩⟩
        | true =>
          dsimp only at h
          cases e4 : ev Φ e en2 with
          | none => rw [e4] at h; cases h
          | some p4 =>
            obtain ⟨re, en3⟩ := p4
            rw [e4] at h
            dsimp only at h
            cases e5 : sto re en3 with
            | none => rw [e5] at h; cases h
            | some p5 =>
              obtain ⟨y, en4⟩ := p5
              rw [e5] at h
              cases h
              exact ⟨en1, en2, true, rfl, ts, .inl ⟨rfl, re, en3, y, en4, e4, e5, rfl, rfl⟩⟩
theorem ev_lc_inv {vs : List Nat} {tg : Tg} {tt e : Xp} {env env' : Env} {r : R} (h : ev Φ (.lc vs it tg tt e) env = some (r, env')) :
    ∃ ls ds env1 ys en, evI Φ it env = some (ls, ds, env1) ∧ freeE env1 vs = true ∧ ds.length ≤ lim ∧ goL (lcTurn Φ vs tg tt e) ds (wipeE (lockE env1 ls) vs) = some (ys, en) ∧ r = .fr (.list ys) ∧ env' = unlockE env1 (backE (lockE env1 ls) en vs) ls := by
  simp only [ev] at h
  cases e1 : evI Φ it env with
  | none => rw [e1] at h; cases h
  | some p1 =>
    obtain ⟨ls, ds, env1⟩ := p1
    rw [e1] at h
    dsimp only at h
    split at h
    · rename_i hc
      rw [Bool.and_eq_true, decide_eq_true_iff] at hc
      change (match goL (lcTurn Φ vs tg tt e) ds (wipeE (lockE env1 ls) vs) with
        | some (ys, en) => some (R.fr (.list ys), unlockE env1 (backE (lockE env1 ls) en vs) ls)
        | none => none) = some (r, env') at h
      cases e2 : goL (lcTurn Φ vs tg tt e) ds (wipeE (lockE env1 ls) vs) with
      | none => rw [e2] at h; cases h
      | some p2 =>
        obtain ⟨ys, en⟩ := p2
        rw [e2] at h
        cases h
        exact ⟨ls, ds, env1, ys, en, rfl, hc.1, hc.2, e2, rfl, rfl⟩
    · cases h
theorem goL_cons {f : D → Env → Option (Option D × Env)} {d : D} {ds : List D} {en en' : Env} {ys : List D} (h : goL f (d :: ds) en = some (ys, en')) : ∃ o en1 zs, f d en = some (o, en1) ∧ goL f ds en1 = some (zs, en') ∧ ys = (match o with | some y => y :: zs | none => zs) := by
  simp only [goL] at h
  cases e1 : f d en with
  | none => rw [e1] at h; cases h
  | some p1 =>
    obtain ⟨o, en1⟩ := p1
    rw [e1] at h
    dsimp only at h
    cases e2 : goL f ds en1 with
    | none => rw [e2] at h; cases h
    | some p2 =>
      obtain ⟨zs, en2⟩ := p2
      rw [e2] at h
      cases h
      exact ⟨o, en1, zs, rfl, e2, rfl⟩
/-- the block's readings, whatever its context -/
def ttB (X : Cx) (scope : Scope) (ifs : List Expr) : TT := fun σ H Q => ∀ (s : Shared) (H0 : Hp) (C : Addr) (cl : List (Str × Addr)) (fp : List Addr), AnyF (X.blk s H0 scope (compEnvC scope cl C X.env) fp) ifs σ H Q
def teB (X : Cx) (scope : Scope) (elt : Expr) : TE := fun σ H Q => ∀ (s : Shared) (H0 : Hp) (C : Addr) (cl : List (Str × Addr)) (fp : List Addr), AnyE (X.blk s H0 scope (compEnvC scope cl C X.env) fp) elt σ H Q
theorem pt_B {scope : Scope} (s : Shared) (H : Hp) (C : Addr) (cl : List (Str × Addr)) (fp : List Addr) : PTs (X.blk s H scope (compEnvC scope cl C X.env) fp) ifs (ttB X scope ifs) := ⟨fun pins s1 σ1 H1 Q1 I hw => hw s H C cl fp pins s1 I⟩
theorem pe_B {scope : Scope} (s : Shared) (H : Hp) (C : Addr) (cl : List (Str × Addr)) (fp : List Addr) : PE (X.blk s H scope (compEnvC scope cl C X.env) fp) elt (teB X scope elt) := ⟨fun pins s1 σ1 H1 Q1 I hw => hw s H C cl fp pins s1 I⟩
theorem lc_run {scope : Scope} {own : List (Str × Nat)} {tgE : Expr} {tg : Tg} (hi : SndI Φ X tgE iter it)
    (ht : Blk X scope fun X' => SndF Φ X' ifs xt) (he : Blk X scope fun X' => Snd Φ X' elt xe) (hv : ∀ i ∈ tg.ixs, i ∈ own.map (·.2)) {env env' : Env} {r : R} (h : ev Φ (.lc (own.map (·.2)) it tg xt xe) env = some (r, env')) {S : Addr → Prop} {σ : L2.St} {H : Hp} (okE : EnvOk X.K S σ H env) {Q : VK} (q : ∀ v S' H', Post X.K S H σ env r env' v S' H' → Q v H') :
    tLc (AnyI X tgE iter) (gOf X.K tg) (ttB X scope ifs) (teB X scope elt) (own.map (·.2)) σ H Q := by
  obtain ⟨ls, ds, env1, ys, en, e1, free, hlen, e2, rfl, rfl⟩ := ev_lc_inv h
  refine hi env ls ds env1 e1 S σ H okE _ fun J S1 H1 f1 ok1 wd => ?_
  obtain ⟨G, Y, w, keep, yl⟩ := wd
  intro Dd hD
  have okW := (ok1.lock ls).wipe (own.map (·.2))
  have hDS : ¬ S1 Dd := fun z => ok1.dom Dd z hD
  refine lc_it w (fun i H' => ∃ (S' : Addr → Prop) (en' : Env) (vacc : List V) (acc rest : List D), goL (lcTurn Φ (own.map (·.2)) tg xt xe) (ds.drop i) en' = some (rest, en) ∧ ys = acc ++ rest ∧ acc.length ≤ i ∧
      EnvOk X.K S' (L2.wipe σ (own.map (·.2))) H' en' ∧ Fw S1 H1 (L2.wipe σ (own.map (·.2))) (wipeE (lockE env1 ls) (own.map (·.2))) S' H' (L2.wipe σ (own.map (·.2))) en' ∧ S' Dd ∧ (∀ k, ¬ OwnsK k (L2.wipe σ (own.map (·.2))) en' Dd) ∧ H' Dd = some (.lst vacc) ∧ Reps X.K (er S' H') vacc acc)
    ⟨_, _, [], [], ys, by rw [List.drop_zero]; exact e2, rfl, Nat.le_refl _, okW.newS hD, Fw.newS hD, .inr rfl, fun k z => hDS (okW.owns z), upd_same, .nil⟩ (fun i H' _ hp => ?_) (fun i x Ha Hb hi' hp hy => ?_) (fun H' hp => ?_)
  · obtain ⟨S', en', vacc, acc, rest, _, _, _, okI, fI, _⟩ := hp
    exact keep H' fun a o h1 h2 => fI.fr a o h1 fun z => h2 (ch_wipe z)
  · obtain ⟨S', en', vacc, acc, rest, g1, g2, g3, okI, fI, sD, nD, hl, hr⟩ := hp
    have hG : G Ha := keep Ha fun a o h1 h2 => fI.fr a o h1 fun z => h2 (ch_wipe z)
    obtain ⟨d, y1, y2, y3⟩ := yl i Ha x Hb hi' hG hy
    have hdrop : ds.drop i = d :: ds.drop (i + 1) := by
      obtain ⟨hlt, hd⟩ := List.getElem?_eq_some_iff.mp y1
      rw [List.drop_eq_getElem_cons hlt, hd]
    rw [hdrop] at g1
    obtain ⟨o, en1', zs, t1, t2, t3⟩ := goL_cons g1
    obtain ⟨en1, en2, k, b1, b2, b3⟩ := lcTurn_inv t1
    -- the item
    have le1 : Le (er S1 H1) (er S' Ha) := Fw.le okW fI
    have rx : Rep X.K (er S' Hb) x d := y3 S' le1 okI.dom
    have fb : Fw S' Ha (L2.wipe σ (own.map (·.2))) en' S' Hb (L2.wipe σ (own.map (·.2))) en' := by
      rcases y2 with rfl | ⟨T, ob, hT, rfl⟩
      · exact Fw.refl
      · exact Fw.new hT
    have okB : EnvOk X.K S' (L2.wipe σ (own.map (·.2))) Hb en' := by
      rcases y2 with rfl | ⟨T, ob, hT, rfl⟩
      · exact okI
      · exact okI.new hT
    refine bind_ok okB b1 rx fun σ2 ok2 f2 hw2 => ⟨by rw [hw2 _ hv]; exact (wipe_wipe σ _), ?_⟩
    have hσ2 : L2.wipe σ2 (own.map (·.2)) = L2.wipe σ (own.map (·.2)) := by rw [hw2 _ hv]; exact (wipe_wipe σ _)
    -- from the turn's beginning; from the loop's
    have fT := f2 _ _ _ _ fb
    have fL := f2 _ _ _ _ (fI.trans fb)
    have hDa : Ha Dd ≠ none := by rw [hl]; exact fun z => by cases z
    -- the new list is nobody's, whatever comes within the turn
    have nobody : ∀ {S3 : Addr → Prop} {H3 : Hp} {en3 : Env}, Fw S' Ha (L2.wipe σ (own.map (·.2))) en' S3 H3 σ2 en3 → (∀ k, ¬ OwnsK k σ2 en3 Dd) ∧ S3 Dd ∧ H3 Dd = some (.lst vacc) := fun {S3 H3 en3} F => by
      have nc : ¬ Ch (L2.wipe σ (own.map (·.2))) en' Dd := fun z => z.elim (nD _) (nD _)
      refine ⟨fun k z => ?_, F.kp Dd sD hDa (nD _), F.fr Dd _ hl nc⟩
      cases k with
      | own =>
        rcases F.own Dd z with z | z
        · exact nD _ z
        · exact hDa z
      | bor =>
        obtain ⟨i', d', z1, z2⟩ := z
        obtain ⟨d2, z3, z4⟩ := F.bo' i' d' z1
        exact nD .bor ⟨i', d2, z3, by rw [← z4]; exact z2⟩
      | lck =>
        obtain ⟨i', d', z1, z2⟩ := z
        obtain ⟨z3, z4⟩ := F.lk' i' d' z1
        exact nD .lck ⟨i', d', z3, by rw [← z4]; exact z2⟩
    intro s0 H00 C0 cl0 fp0
    refine (ht s0 H00 C0 cl0 fp0) en1 k en2 b2 S' σ2 Hb ok2 _ fun S3 H3 f3 ok3 => ?_
    have fT3 := fT.trans f3
    have fL3 := fL.trans f3
    rcases b3 with ⟨rfl, re, en3, y, en4, c1, c2, rfl, rfl⟩ | ⟨rfl, rfl, rfl⟩
    · rw [if_pos rfl]
      intro s0 H00 C0 cl0 fp0
      refine (he s0 H00 C0 cl0 fp0) en2 re en3 c1 S3 σ2 H3 ok3 _ fun v S4 H4 P4 => ?_
      obtain ⟨S5, f5, ok5, r5⟩ := P4.sto c2
      have fT5 := fT3.trans f5
      have fL5 := fL3.trans f5
      obtain ⟨n5, s5, l5⟩ := nobody fT5
      refine ⟨vacc, l5, by rw [hr.length, sizeLine_eq]; unfold lim at hlen; omega, S5, wipeE en4 (own.map (·.2)), vacc ++ [v], acc ++ [y], zs, t2, by rw [g2, t3, List.append_assoc]; rfl, by rw [List.length_append]; simp only [List.length_cons, List.length_nil]; omega, ?_, ?_, s5, fun k z => n5 k (ownsK_wipe (by rw [hσ2]; exact z)), upd_same, ?_⟩
      · rw [← hσ2]
        exact (ok5.temp s5 n5).wipe _
      · have F6 : Fw S1 H1 (L2.wipe σ (own.map (·.2))) (wipeE (lockE env1 ls) (own.map (·.2))) S5 (upd H4 Dd (.lst (vacc ++ [v]))) σ2 en4 := by
          refine ⟨fL5.sub, fL5.kp, fun a o h1 h2 => ?_, fL5.own, fL5.bo, fL5.bo', fL5.lk, fL5.lk', fun a h => upd_dom (fL5.dm a h)⟩
          have na : a ≠ Dd := fun z => by rw [z, hD] at h1; cases h1
          rw [upd_ne na]
          exact fL5.fr a o h1 h2
        have W := Fw.wipe F6
        rw [hσ2] at W
        exact W
      · rw [er_upd s5]
        exact (hr.mono (Fw.le okI fT5)).append (.cons r5 .nil)
    · rw [if_neg Bool.false_ne_true]
      obtain ⟨n3, s3, l3⟩ := nobody fT3
      refine ⟨S3, wipeE en2 (own.map (·.2)), vacc, acc, zs, t2, by rw [g2, t3], by omega, ?_, ?_, s3, fun k z => n3 k (ownsK_wipe (by rw [hσ2]; exact z)), l3, hr.mono (Fw.le okI fT3)⟩
      · rw [← hσ2]
        exact ok3.wipe _
      · have := Fw.wipe fL3
        rw [hσ2] at this
        exact this
  · obtain ⟨S', en', vacc, acc, rest, g1, g2, g3, okI, fI, sD, nD, hl, hr⟩ := hp
    rw [List.drop_length] at g1
    cases g1
    rw [List.append_nil] at g2
    subst g2
    obtain ⟨z1, z2, z3⟩ := lc_end ok1 free fI okI
    have nn : ∀ k, ¬ OwnsK k σ (unlockE env1 (backE (lockE env1 ls) en (own.map (·.2))) ls) Dd := fun k z => by
      rcases z3 k Dd z with z | z
      · exact hDS (ok1.owns z)
      · exact nD k z
    refine q _ _ _ ⟨f1.trans z2, z1, ⟨Dd, rfl, sD, fun z => z.elim (nn _) (nn _), nn _, ⟨vacc, .inl hl, hr⟩, by rw [hl]; exact True.intro⟩, fun d p e1 e2 => ?_⟩
    cases e2
    exact none_back f1.dm hD
theorem snd_lc {scope : Scope} {own : List (Str × Nat)} {tgE : Expr} {tg : Tg} (hc : X.calm = true) (hN : X.N.Nodup) (hi : SndI Φ X tgE iter it) (ok : BlkOk X.N X.env.scope scope own)
    (hg : Blk X scope fun X' => PG X' tgE (gOf X.K tg)) (ht : Blk X scope fun X' => SndF Φ X' ifs xt) (he : Blk X scope fun X' => Snd Φ X' elt xe) (hv : ∀ i ∈ tg.ixs, i ∈ own.map (·.2)) (hs : ∀ x, foldedSetIterable iter X.env x = pure x := by intro _; rfl) :
    Snd Φ X (.ListComp elt [⟨tgE, iter, ifs, 0⟩] scope pos) (.lc (own.map (·.2)) it tg xt xe) := .mk fun env r env' h S σ H okE Q q =>
  any_of (pe_lc hc hN pi_any ok hg pt_B pe_B hs) (lc_run hi ht he hv h okE q)
end
end DI

set_option maxRecDepth 100000
/-! DI15: statements do what the evaluator says. -/
namespace DI
open PySem PySem.Spec PyProof.Rows L2
def AnyS (X : Cx) (st : Stmt) : TS := fun D σ H => ∀ (pins : List (Addr × Obj)) (s : Shared), Inv X pins σ H s → wpAny (model X.prog X.w) X.A (PySem.exec st X.env) (SP X pins D) X.xe s
theorem ps_any {X : Cx} {st : Stmt} : PS X st (AnyS X st) := ⟨fun pins s σ H D I h => h pins s I⟩
theorem anyS_of {X : Cx} {st : Stmt} {t : TS} (p : PS X st t) {D : Ends} {σ : L2.St} {H : Hp} (h : t D σ H) : AnyS X st D σ H := fun pins s I => p.run pins s σ H D I h
def AnySs (X : Cx) (st : List Stmt) : TS := fun D σ H => ∀ (pins : List (Addr × Obj)) (s : Shared), Inv X pins σ H s → wpAny (model X.prog X.w) X.A (PySem.execs st X.env) (SP X pins D) X.xe s
theorem pss_any {X : Cx} {st : List Stmt} : PSs X st (AnySs X st) := ⟨fun pins s σ H D I h => h pins s I⟩
theorem anySs_of {X : Cx} {st : List Stmt} {t : TS} (p : PSs X st t) {D : Ends} {σ : L2.St} {H : Hp} (h : t D σ H) : AnySs X st D σ H := fun pins s I => p.run pins s σ H D I h
/-- what the ends are to take -/
def EndsOk (K : PySem.W.Frag) (S0 : Addr → Prop) (H0 : Hp) (σ0 : L2.St) (env0 : Env) (D : Ends) : Out → Prop
  | .nx env => ∀ σ' S' H', Fw S0 H0 σ0 env0 S' H' σ' env → EnvOk K S' σ' H' env → D.nx σ' H'
  | .bk env => ∀ σ' S' H', Fw S0 H0 σ0 env0 S' H' σ' env → EnvOk K S' σ' H' env → D.bk σ' H'
  | .ct env => ∀ σ' S' H', Fw S0 H0 σ0 env0 S' H' σ' env → EnvOk K S' σ' H' env → D.ct σ' H'
  | .rt r env => ∀ v σ' S' H', Fw S0 H0 σ0 env0 S' H' σ' env → EnvOk K S' σ' H' env → RV K S' H' σ' env r v → (∀ d p, r = .fr d → v = .ref p → OwnsK .own σ0 env0 p ∨ H0 p = none) → (∀ i, r ≠ .al i) → D.rt v H'
structure SndSt (Φ : Fns) (X : Cx) (st : Stmt) (sm : Sm) : Prop where
  run : ∀ env o, exec Φ sm env = some o → ∀ (S : Addr → Prop) (σ : L2.St) (H : Hp), EnvOk X.K S σ H env → ∀ D : Ends, EndsOk X.K S H σ env D o → AnyS X st D σ H
instance {Φ : Fns} {X : Cx} {st : Stmt} {sm : Sm} : CoeFun (SndSt Φ X st sm) fun _ => ∀ env o, exec Φ sm env = some o → ∀ (S : Addr → Prop) (σ : L2.St) (H : Hp), EnvOk X.K S σ H env → ∀ D : Ends, EndsOk X.K S H σ env D o → AnyS X st D σ H := ⟨SndSt.run⟩
structure SndSts (Φ : Fns) (X : Cx) (st : List Stmt) (sm : Sms) : Prop where
  run : ∀ env o, execs Φ sm env = some o → ∀ (S : Addr → Prop) (σ : L2.St) (H : Hp), EnvOk X.K S σ H env → ∀ D : Ends, EndsOk X.K S H σ env D o → AnySs X st D σ H
instance {Φ : Fns} {X : Cx} {st : List Stmt} {sm : Sms} : CoeFun (SndSts Φ X st sm) fun _ => ∀ env o, execs Φ sm env = some o → ∀ (S : Addr → Prop) (σ : L2.St) (H : Hp), EnvOk X.K S σ H env → ∀ D : Ends, EndsOk X.K S H σ env D o → AnySs X st D σ H := ⟨SndSts.run⟩
section
variable {K : PySem.W.Frag} {S S' S0 S1 S2 : Addr → Prop} {H H' H0 H1 H2 : Hp} {σ σ' σ0 σ1 : L2.St} {env env' env0 env1 env2 en pre : Env}
theorem EndsOk.shift (F : Fw S0 H0 σ0 env0 S1 H1 σ1 env1) {D : Ends} {o : Out} (h : EndsOk K S0 H0 σ0 env0 D o) : EndsOk K S1 H1 σ1 env1 D o := by
  cases o with
  | nx e => exact fun σ' S' H' f ok => h σ' S' H' (F.trans f) ok
  | bk e => exact fun σ' S' H' f ok => h σ' S' H' (F.trans f) ok
  | ct e => exact fun σ' S' H' f ok => h σ' S' H' (F.trans f) ok
  | rt r e =>
    refine fun v σ' S' H' f ok rv new na => h v σ' S' H' (F.trans f) ok rv (fun d p e1 e2 => ?_) na
    rcases new d p e1 e2 with q | q
    · exact F.own p q
    · exact .inr (none_back F.dm q)
/-- slots given up -/
theorem EnvOk.drop (ok : EnvOk K S σ H env) (len : env'.length = env.length) (hd : ∀ (j : Nat) s, env'[j]? = some s → s = .un ∨ env[j]? = some s) : EnvOk K S σ H env' := by
  have ow : ∀ (j : Nat) s, s ≠ .un → env'[j]? = some s → env[j]? = some s := fun j s hs h => (hd j s h).resolve_left hs
  exact ⟨by rw [len]; exact ok.len, ok.dom, fun i d h => ok.im i d (ow i _ (fun z => by cases z) h), fun i k d h => ok.ow i k d (ow i _ (fun z => by cases z) h),
    fun i j k l d e p h1 h2 => ok.inj i j k l d e p (ow i _ (fun z => by cases z) h1) (ow j _ (fun z => by cases z) h2)⟩
theorem drop_owns (hd : ∀ (j : Nat) s, env'[j]? = some s → s = .un ∨ env[j]? = some s) {k : Kd} {a : Addr} (h : OwnsK k σ env' a) : OwnsK k σ env a := by
  obtain ⟨i, d, h1, h2⟩ := h
  exact ⟨i, d, (hd i _ h1).resolve_left (fun z => by cases z), h2⟩
theorem Fw.drop (F : Fw S0 H0 σ0 env0 S H σ env) (hd : ∀ (j : Nat) s, env'[j]? = some s → s = .un ∨ env[j]? = some s) (hk : ∀ (j : Nat) k d, k ≠ .own → env[j]? = some (.ow k d) → env'[j]? = env[j]?) : Fw S0 H0 σ0 env0 S H σ env' := by
  refine ⟨F.sub, F.kp, F.fr, fun a h => F.own a (drop_owns hd h), fun i d h => ?_, fun i d h => ?_, fun i d h => ?_, fun i d h => ?_, F.dm⟩
  · obtain ⟨d', h1, h2⟩ := F.bo i d h
    exact ⟨d', by rw [hk i _ _ (fun z => by cases z) h1]; exact h1, h2⟩
  · exact F.bo' i d ((hd i _ h).resolve_left (fun z => by cases z))
  · obtain ⟨h1, h2⟩ := F.lk i d h
    exact ⟨by rw [hk i _ _ (fun z => by cases z) h1]; exact h1, h2⟩
  · exact F.lk' i d ((hd i _ h).resolve_left (fun z => by cases z))
theorem forget_len : ∀ (pre env : Env), (forget pre env).length = env.length
  | [], env => by cases env <;> rfl
  | p :: pre, [] => by cases p <;> rfl
  | p :: pre, s :: env => by
    have ih := forget_len pre env
    cases p <;> exact congrArg (· + 1) ih
theorem forget_cases : ∀ (pre env : Env) (j : Nat) (s : Sl), (forget pre env)[j]? = some s → s = .un ∨ env[j]? = some s
  | [], env, j, s, h => by
    have e : forget [] env = env := by cases env <;> rfl
    rw [e] at h
    exact .inr h
  | p :: pre, [], j, s, h => by
    have e : forget (p :: pre) [] = [] := by cases p <;> rfl
    rw [e] at h
    exact .inr h
  | p :: pre, t :: env, j, s, h => by
    cases j with
    | zero =>
      cases p with
      | un => exact .inl (Option.some.inj h).symm
      | im d => exact .inr h
      | ow k d => exact .inr h
    | succ j =>
      have h' : (forget pre env)[j]? = some s := by cases p <;> simpa [forget] using h
      rcases forget_cases pre env j s h' with z | z
      · exact .inl z
      · exact .inr (by simpa using z)
theorem forget_keep : ∀ (pre env : Env) (j : Nat), pre[j]? ≠ some .un → (forget pre env)[j]? = env[j]?
  | [], env, j, h => by
    have e : forget [] env = env := by cases env <;> rfl
    rw [e]
  | p :: pre, [], j, h => by
    have e : forget (p :: pre) [] = [] := by cases p <;> rfl
    rw [e]
  | p :: pre, t :: env, j, h => by
    cases j with
    | zero =>
      cases p with
      | un => exact absurd rfl h
      | im d => rfl
      | ow k d => rfl
    | succ j =>
      have ih := forget_keep pre env j (by simpa using h)
      cases p <;> simpa [forget] using ih
theorem forget_fw (F : Fw S0 H0 σ0 pre S H σ env) : Fw S0 H0 σ0 pre S H σ (forget pre env) := by
  refine F.drop (forget_cases pre env) fun j k d hk h => forget_keep pre env j fun z => ?_
  cases k with
  | own => exact hk rfl
  | bor =>
    obtain ⟨d', h1, _⟩ := F.bo' j d h
    rw [z] at h1
    cases h1
  | lck =>
    obtain ⟨h1, _⟩ := F.lk' j d h
    rw [z] at h1
    cases h1
theorem forget_ok (ok : EnvOk K S σ H env) : EnvOk K S σ H (forget pre env) := ok.drop (forget_len pre env) (forget_cases pre env)
/-- behind a loop: what it walked is open again -/
theorem for_end {ls : List Nat} (ok1 : EnvOk K S1 σ H1 env1) (F : Fw S1 H1 σ (lockE env1 ls) S' H' σ' en) (ok' : EnvOk K S' σ' H' en) :
    EnvOk K S' σ' H' (unlockE env1 en ls) ∧ Fw S1 H1 σ env1 S' H' σ' (unlockE env1 en ls) ∧ ∀ k a, OwnsK k σ' (unlockE env1 en ls) a → ∃ k', OwnsK k' σ' en a := by
  -- a slot that was locked is locked still
  have was : ∀ (i : Nat) k d, i ∈ ls → env1[i]? = some (.ow k d) → en[i]? = some (.ow .lck d) ∧ σ'[i]? = σ[i]? := fun i k d m h => by
    refine F.lk i d ?_
    obtain ⟨s', hs'⟩ : ∃ s', (lockE env1 ls)[i]? = some s' := ⟨_, List.getElem?_eq_getElem (by rw [lock_len]; exact (List.getElem?_eq_some_iff.mp h).1)⟩
    rcases lock_cases env1 ls i s' hs' with ⟨k', d', _, q, z⟩ | ⟨q, z⟩
    · rw [h] at q
      cases q
      rw [hs', z]
    · rw [h] at q
      cases q
      exact absurd rfl (z m k d)
  have src : ∀ (j : Nat) (s : Sl), (unlockE env1 en ls)[j]? = some s → (∃ k d, j ∈ ls ∧ env1[j]? = some (.ow k d) ∧ s = .ow k d ∧ en[j]? = some (.ow .lck d) ∧ σ'[j]? = σ[j]?) ∨ (en[j]? = some s ∧ (j ∈ ls → ∀ k d, env1[j]? ≠ some (.ow k d))) := fun j s h => by
    rcases unlock_cases env1 en ls j s h with ⟨k, d, m, q, z⟩ | q
    · obtain ⟨a, b⟩ := was j k d m q
      exact .inl ⟨k, d, m, q, z, a, b⟩
    · exact .inr q
  have there : ∀ (j : Nat) (s : Sl), en[j]? = some s → ∃ t, (unlockE env1 en ls)[j]? = some t := fun j s h => ⟨_, List.getElem?_eq_getElem (by rw [unlock_len]; exact (List.getElem?_eq_some_iff.mp h).1)⟩
  have lock_there : ∀ (i : Nat) k d, k ≠ .lck → (lockE env1 ls)[i]? = some (.ow k d) → env1[i]? = some (.ow k d) := fun i k d hk h => by
    rcases lock_cases env1 ls i _ h with ⟨k', d', _, q, z⟩ | ⟨q, _⟩
    · cases z
      exact absurd rfl hk
    · exact q
  have out_lock : ∀ (i : Nat) s, (i ∈ ls → ∀ k d, env1[i]? ≠ some (.ow k d)) → env1[i]? = some s → (lockE env1 ls)[i]? = some s := fun i s n h => by
    obtain ⟨s', hs'⟩ : ∃ s', (lockE env1 ls)[i]? = some s' := ⟨_, List.getElem?_eq_getElem (by rw [lock_len]; exact (List.getElem?_eq_some_iff.mp h).1)⟩
    rcases lock_cases env1 ls i s' hs' with ⟨k', d', m, q, z⟩ | ⟨q, z⟩
    · exact absurd q (n m k' d')
    · rw [h] at q
      cases q
      exact hs'
  refine ⟨⟨by rw [unlock_len]; exact ok'.len, ok'.dom, fun i d h => ?_, fun i k d h => ?_, fun i j k l d e p h1 h2 h3 h4 => ?_⟩, ⟨F.sub, fun a h1 h2 h3 => F.kp a h1 h2 fun z => h3 ?_, fun a o h1 h2 => F.fr a o h1 fun z => h2 (lock_ch z), fun a h => ?_, fun i d h => ?_, fun i d h => ?_, fun i d h => ?_, fun i d h => ?_, F.dm⟩, fun k a h => ?_⟩
  · rcases src i _ h with ⟨k, d', m, q, z, _⟩ | ⟨q, _⟩
    · cases z
    · exact ok'.im i d q
  · rcases src i _ h with ⟨k', d', m, q, z, a, b⟩ | ⟨q, _⟩
    · cases z
      obtain ⟨p, g1, g2, g3, g4⟩ := ok'.ow i _ _ a
      refine ⟨p, g1, g2, g3, fun hk => ?_⟩
      obtain ⟨p', e1, e2, e3, e4⟩ := ok1.ow i _ _ q
      rw [b, e1] at g1
      cases g1
      -- it was locked: as it was
      have nc : ¬ Ch σ (lockE env1 ls) p := fun w => by
        have go : ∀ kk, kk ≠ .lck → OwnsK kk σ (lockE env1 ls) p → False := fun kk hkk w => by
          obtain ⟨j, dj, w1, w2⟩ := w
          have w3 := lock_there j kk dj hkk w1
          have e := ok1.inj i j _ _ _ _ p q w3 e1 w2
          subst e
          rcases lock_cases env1 ls i _ w1 with ⟨k2, d2, _, _, z2⟩ | ⟨_, z2⟩
          · cases z2
            exact hkk rfl
          · exact z2 m _ _ rfl
        rcases w with w | w
        · exact go _ (fun z => by cases z) w
        · exact go _ (fun z => by cases z) w
      have e5 := e4 hk
      cases hq : H1 p with
      | none => exact absurd hq (ok1.dom p e2)
      | some o =>
        rw [F.fr p o hq nc, ← hq]
        exact e5
    · exact ok'.ow i k d q
  · have f : ∀ (j : Nat) k d, (unlockE env1 en ls)[j]? = some (.ow k d) → ∃ k' d', en[j]? = some (.ow k' d') := fun j k d h => by
      rcases src j _ h with ⟨_, _, _, _, _, a, _⟩ | ⟨q, _⟩
      · exact ⟨_, _, a⟩
      · exact ⟨_, _, q⟩
    obtain ⟨_, _, a1⟩ := f i _ _ h1
    obtain ⟨_, _, a2⟩ := f j _ _ h2
    exact ok'.inj i j _ _ _ _ p a1 a2 h3 h4
  · obtain ⟨i, d, w1, w2⟩ := z
    exact ⟨i, d, lock_there i _ _ (fun z => by cases z) w1, w2⟩
  · obtain ⟨i, d, w1, w2⟩ := h
    rcases src i _ w1 with ⟨k', d', m, q, z, x, y⟩ | ⟨q, _⟩
    · cases z
      exact .inl ⟨i, d, q, by rw [← y]; exact w2⟩
    · rcases F.own a ⟨i, d, q, w2⟩ with ⟨j, dj, z1, z2⟩ | z
      · exact .inl ⟨j, dj, lock_there j _ _ (fun z => by cases z) z1, z2⟩
      · exact .inr z
  · by_cases m : i ∈ ls
    · obtain ⟨a, b⟩ := was i _ _ m h
      obtain ⟨t, ht⟩ := there i _ a
      rcases src i _ ht with ⟨k', d', _, q, z, _, _⟩ | ⟨_, q⟩
      · rw [h] at q
        cases q
        exact ⟨d, by rw [ht, z], b⟩
      · exact absurd h (q m _ _)
    · obtain ⟨d', a, b⟩ := F.bo i d (out_lock i _ (fun z => absurd z m) h)
      obtain ⟨t, ht⟩ := there i _ a
      rcases src i _ ht with ⟨k', _, z, _⟩ | ⟨q, _⟩
      · exact absurd z m
      · rw [a] at q
        cases q
        exact ⟨d', ht, b⟩
  · rcases src i _ h with ⟨k', d', m, q, z, x, y⟩ | ⟨q, _⟩
    · cases z
      exact ⟨d, q, y⟩
    · obtain ⟨d', z1, z2⟩ := F.bo' i d q
      exact ⟨d', lock_there i _ _ (fun z => by cases z) z1, z2⟩
  · by_cases m : i ∈ ls
    · obtain ⟨a, b⟩ := was i _ _ m h
      obtain ⟨t, ht⟩ := there i _ a
      rcases src i _ ht with ⟨k', d', _, q, z, _, _⟩ | ⟨_, q⟩
      · rw [h] at q
        cases q
        exact ⟨by rw [ht, z], b⟩
      · exact absurd h (q m _ _)
    · obtain ⟨a, b⟩ := F.lk i d (out_lock i _ (fun z => absurd z m) h)
      obtain ⟨t, ht⟩ := there i _ a
      rcases src i _ ht with ⟨k', _, z, _⟩ | ⟨q, _⟩
      · exact absurd z m
      · rw [a] at q
        cases q
        exact ⟨ht, b⟩
  · rcases src i _ h with ⟨k', d', m, q, z, x, y⟩ | ⟨q, n⟩
    · cases z
      exact ⟨q, y⟩
    · obtain ⟨z1, z2⟩ := F.lk' i d q
      rcases lock_cases env1 ls i _ z1 with ⟨k2, d2, m2, q2, _⟩ | ⟨q2, _⟩
      · exact absurd q2 (n m2 _ _)
      · exact ⟨q2, z2⟩
  · obtain ⟨i, d, w1, w2⟩ := h
    rcases src i _ w1 with ⟨_, _, _, _, _, x, _⟩ | ⟨q, _⟩
    · exact ⟨_, i, _, x, w2⟩
    · exact ⟨_, i, _, q, w2⟩
theorem slot_ok {r : R} {v : V} {s : Sl} (P : Post K S0 H0 σ env0 r env1 v S1 H1) (h : slotOf r env1 = some (s, env2)) : ∃ S2, Fw S0 H0 σ env0 S2 H1 σ env2 ∧ EnvOk K S2 σ H1 env2 ∧ SlOk K S2 H1 σ env2 H0 s v := by
  cases r with
  | im d => cases h; exact ⟨S1, P.fw, P.ok, P.rv⟩
  | fr d =>
    cases h
    obtain ⟨p, rfl, hs, hc, hl, ho, hm⟩ := P.rv
    refine ⟨S1, P.fw, P.ok, p, rfl, hs, P.new _ _ rfl rfl, fun k => ?_, ho, hm⟩
    cases k with
    | own => exact fun q => hc (.inl q)
    | bor => exact fun q => hc (.inr q)
    | lck => exact hl
  | al i =>
    simp only [slotOf] at h
    cases e : DI.sto (.al i) env1 with
    | none => rw [e] at h; cases h
    | some q =>
      obtain ⟨d, en⟩ := q
      rw [e] at h
      cases h
      obtain ⟨S', f, ok, rp⟩ := P.sto e
      exact ⟨S', f, ok, rp⟩
theorem ret_ok {r r' : R} {v : V} (P : Post K S0 H0 σ env0 r env1 v S1 H1) (h : retR r env1 = some (r', env2)) :
    Fw S0 H0 σ env0 S1 H1 σ env2 ∧ EnvOk K S1 σ H1 env2 ∧ RV K S1 H1 σ env2 r' v ∧ (∀ d p, r' = .fr d → v = .ref p → OwnsK .own σ env0 p ∨ H0 p = none) ∧ ∀ i, r' ≠ .al i := by
  cases r with
  | im d => cases h; exact ⟨P.fw, P.ok, P.rv, fun _ _ z => (by cases z), fun _ z => (by cases z)⟩
  | fr d => cases h; exact ⟨P.fw, P.ok, P.rv, fun d p e1 e2 => .inr (P.new d p e1 e2), fun _ z => (by cases z)⟩
  | al i =>
    simp only [retR] at h
    have hv : σ[i]? = some (some v) := P.rv
    cases q : env1[i]? with
    | none => rw [q] at h; cases h
    | some s =>
      rw [q] at h
      cases s with
      | un => cases h
      | im d =>
        cases h
        obtain ⟨w, h1, h2⟩ := P.ok.im i _ q
        rw [hv] at h1
        cases h1
        exact ⟨P.fw, P.ok, h2, fun _ _ z => (by cases z), fun _ z => (by cases z)⟩
      | ow k d =>
        cases k with
        | bor => cases h
        | lck => cases h
        | own =>
          cases h
          obtain ⟨p, h1, h2, h3, h4⟩ := P.ok.ow i _ _ q
          rw [hv] at h1
          cases h1
          have hd : ∀ (j : Nat) s, (env1.set i .un)[j]? = some s → s = .un ∨ env1[j]? = some s := fun j s z => by
            rcases getElem?_set_cases z with ⟨_, e⟩ | ⟨_, e⟩
            · exact .inl e
            · exact .inr e
          have hk : ∀ (j : Nat) k d, k ≠ .own → env1[j]? = some (.ow k d) → (env1.set i .un)[j]? = env1[j]? := fun j k d' hk z => by
            refine List.getElem?_set_ne fun e => ?_
            subst e
            rw [q] at z
            cases z
            exact hk rfl
          have no : ∀ k, ¬ OwnsK k σ (env1.set i .un) p := fun k z => by
            obtain ⟨j, d', z1, z2⟩ := z
            rcases getElem?_set_cases z1 with ⟨_, e⟩ | ⟨ne, e⟩
            · cases e
            · exact ne (P.ok.inj i j _ _ _ _ p q e hv z2)
          exact ⟨P.fw.drop hd hk, P.ok.drop (by rw [List.length_set]) hd, ⟨p, rfl, h2, fun z => z.elim (no _) (no _), no _, h3, h4 (fun z => by cases z)⟩, fun d' p' _ e => by
            cases e
            exact P.fw.own p ⟨i, d, q, hv⟩, fun _ z => by cases z⟩
end
section
variable {Φ : Fns} {X : Cx} {a b c e tgE iter elt : Expr} {es : List Expr} {xa xb xc x xe xt : Xp} {xs : Xps} {it : It} {pos p p2 : Pos} {st : Stmt} {sts body body2 : List Stmt} {sm : Sm} {sms smb smb2 : Sms}
theorem snds_nil : SndSts Φ X [] .nil := .mk fun env o h S σ H ok D q => by
  cases h
  exact anySs_of pss_nil (q σ S H Fw.refl ok)
theorem snds_cons (h1 : SndSt Φ X st sm) (h2 : SndSts Φ X sts sms) : SndSts Φ X (st :: sts) (.cons sm sms) := .mk fun env o h S σ H ok D q => by
  simp only [execs] at h
  cases e1 : exec Φ sm env with
  | none => rw [e1] at h; cases h
  | some o1 =>
    rw [e1] at h
    refine anySs_of (pss_cons ps_any pss_any) (h1 env o1 e1 S σ H ok _ ?_)
    cases o1 with
    | nx env1 => exact fun σ' S' H' f ok' => h2 env1 o h S' σ' H' ok' D (q.shift f)
    | bk env1 => cases h; exact q
    | ct env1 => cases h; exact q
    | rt r env1 => cases h; exact q
theorem snd_nev : SndSt Φ X st .nev := .mk fun env o h => by cases h
theorem snd_pas : SndSt Φ X (.Pass pos) .pas := .mk fun env o h S σ H ok D q => by cases h; exact anyS_of ps_pass (q σ S H Fw.refl ok)
theorem snd_doc {x : Str} {j : Nat} {pos pos' : Pos} : SndSt Φ X (.Expr (.Constant (.str x) j pos) pos') .pas := .mk fun env o h S σ H ok D q => by cases h; exact anyS_of ps_doc (q σ S H Fw.refl ok)
theorem snd_brk : SndSt Φ X (.Break pos) .brk := .mk fun env o h S σ H ok D q => by cases h; exact anyS_of ps_break (q σ S H Fw.refl ok)
theorem snd_cnt : SndSt Φ X (.Continue pos) .cnt := .mk fun env o h S σ H ok D q => by cases h; exact anyS_of ps_continue (q σ S H Fw.refl ok)
theorem snd_ex (he : Snd Φ X e x) (hs : swapsWith e none pos.line X.env = pure false := by rfl) : SndSt Φ X (.Expr e pos) (.ex x) := .mk fun env o h S σ H ok D q => by
  simp only [exec] at h
  cases e1 : ev Φ x env with
  | none => rw [e1] at h; cases h
  | some p1 =>
    rw [e1] at h
    cases h
    exact anyS_of (ps_expr pe_any hs) (he env p1.1 p1.2 e1 S σ H ok _ fun v S1 H1 P => q σ S1 H1 P.fw P.ok)
theorem snd_ret (he : Snd Φ X e x) : SndSt Φ X (.Return (some e) pos) (.ret x) := .mk fun env o h S σ H ok D q => by
  simp only [exec] at h
  cases e1 : ev Φ x env with
  | none => rw [e1] at h; cases h
  | some p1 =>
    obtain ⟨r, en1⟩ := p1
    rw [e1] at h
    dsimp only at h
    cases e2 : retR r en1 with
    | none => rw [e2] at h; cases h
    | some p2 =>
      obtain ⟨r', en2⟩ := p2
      rw [e2] at h
      cases h
      refine anyS_of (ps_ret pe_any) (he env r en1 e1 S σ H ok _ fun v S1 H1 P => ?_)
      obtain ⟨f, ok2, rv, new, na⟩ := ret_ok P e2
      exact q v σ S1 H1 f ok2 rv new na
theorem snd_retN : SndSt Φ X (.Return none pos) (.ret (.c .none)) := .mk fun env o h S σ H ok D q => by
  simp only [exec, ev, retR] at h
  cases h
  exact anyS_of ps_retN (q .non σ S H Fw.refl ok Rep.non (fun _ _ z => by cases z) fun _ z => by cases z)
theorem snd_iff (ht : SndT Φ X c xc) (ha : SndSts Φ X body smb) (hb : SndSts Φ X body2 smb2) : SndSt Φ X (.If c body body2 pos) (.iff xc smb smb2) := .mk fun env o h S σ H ok D q => by
  simp only [exec] at h
  cases e1 : tstX Φ xc env with
  | none => rw [e1] at h; cases h
  | some p1 =>
    obtain ⟨k, en1⟩ := p1
    rw [e1] at h
    refine anyS_of (ps_if pt_any pss_any pss_any) (ht env k en1 e1 S σ H ok _ fun S1 H1 f1 ok1 => ?_)
    cases k with
    | true =>
      rw [if_pos rfl]
      exact ha en1 o h S1 σ H1 ok1 D (q.shift f1)
    | false =>
      rw [if_neg Bool.false_ne_true]
      exact hb en1 o h S1 σ H1 ok1 D (q.shift f1)
theorem set_inv {i : Nat} {env : Env} {o : Out} (h : exec Φ (.set i x) env = some o) : ∃ r en1 s en2 en3, ev Φ x env = some (r, en1) ∧ slotOf r en1 = some (s, en2) ∧ setSl en2 i s = some en3 ∧ o = .nx en3 := by
  simp only [exec] at h
  cases e1 : ev Φ x env with
  | none => rw [e1] at h; cases h
  | some p1 =>
    obtain ⟨r, en1⟩ := p1
    rw [e1] at h
    dsimp only at h
    cases e2 : slotOf r en1 with
    | none => rw [e2] at h; cases h
    | some p2 =>
      obtain ⟨s, en2⟩ := p2
      rw [e2] at h
      dsimp only at h
      cases e3 : setSl en2 i s with
      | none => rw [e3] at h; cases h
      | some en3 =>
        rw [e3] at h
        cases h
        exact ⟨r, en1, s, en2, en3, rfl, e2, e3, rfl⟩
theorem snd_set {i : Nat} {x : Str} {pos' : Pos} (hN : X.N.Nodup) (hi : X.N[i]? = some x) (hx : Loc X.env.scope x) (he : Snd Φ X e xe) (hs : swapsWith e (some (.Name x pos')) pos.line X.env = pure false := by rfl) (hf : X.fn x = true ∨ X.env.scope.names.lookup x = some .local := by first | exact .inl rfl | exact .inr rfl | assumption) :
    SndSt Φ X (.Assign [.Name x pos'] e pos) (.set i xe) := .mk fun env o h S σ H ok D q => by
  obtain ⟨r, en1, s, en2, en3, e1, e2, e3, rfl⟩ := set_inv h
  refine anyS_of (ps_set hN hi hx pe_any hs hf) (he env r en1 e1 S σ H ok _ fun v S1 H1 P => ?_)
  obtain ⟨S2, f2, ok2, sl⟩ := slot_ok P e2
  obtain ⟨ok3, f3⟩ := set_ok f2 ok2 e3 sl
  exact q _ S2 H1 f3 ok3
theorem snd_setLc {i : Nat} {y : Str} {py spos : Pos} {ifs : List Expr} {scope : Scope} {own : List (Str × Nat)} {tg : Tg} (hc : X.calm = true) (hN : X.N.Nodup) (hy : X.N[i]? = some y) (hyl : X.env.scope.names.lookup y = some .local)
    (hsw : swapsWith (.ListComp elt [⟨tgE, iter, ifs, 0⟩] scope pos) (some (.Name y py)) spos.line X.env = pure true) (hi : SndI Φ X tgE iter it) (ok : BlkOk X.N X.env.scope scope own)
    (hg : Blk X scope fun X' => PG X' tgE (gOf X.K tg)) (ht : Blk X scope fun X' => SndF Φ X' ifs xt) (he : Blk X scope fun X' => Snd Φ X' elt xe) (hv : ∀ i ∈ tg.ixs, i ∈ own.map (·.2)) (hs : ∀ x, foldedSetIterable iter X.env x = pure x := by intro _; rfl) :
    SndSt Φ X (.Assign [.Name y py] (.ListComp elt [⟨tgE, iter, ifs, 0⟩] scope pos) spos) (.set i (.lc (own.map (·.2)) it tg xt xe)) := .mk fun env o h S σ H okE D q => by
  obtain ⟨r, en1, s, en2, en3, e1, e2, e3, rfl⟩ := set_inv h
  refine anyS_of (ps_setLc hc hN hy hyl hsw pi_any ok hg pt_B pe_B hs) (lc_run hi ht he hv e1 okE fun v S1 H1 P => ?_)
  obtain ⟨S2, f2, ok2, sl⟩ := slot_ok P e2
  obtain ⟨ok3, f3⟩ := set_ok f2 ok2 e3 sl
  exact q _ S2 H1 f3 ok3
/-- a for's turn -/
def forTurn (Φ : Fns) (tg : Tg) (b : Sms) : D → Env → Option Out := fun d en => match bindT tg d en with
  | some en1 => execs Φ b en1
  | none => none
theorem snd_for {tg : Tg} (hp : PassesOwn (model X.prog X.w) X.A X.env X.xe) (hc : X.calm = true) (hi : SndI Φ X tgE iter it) (hg : PG X tgE (gOf X.K tg)) (hb : SndSts Φ X body smb) (hs : ∀ x, foldedSetIterable iter X.env x = pure x := by intro _; rfl) :
    SndSt Φ X (.For tgE iter body [] pos) (.for it tg smb) := .mk fun env o h S σ H ok D q => by
  simp only [exec] at h
  cases e1 : evI Φ it env with
  | none => rw [e1] at h; cases h
  | some p1 =>
    obtain ⟨ls, ds, env1⟩ := p1
    rw [e1] at h
    change (match forS (forTurn Φ tg smb) (lockE env1 ls) ds (lockE env1 ls) with
      | some o => some (endFor env1 ls o)
      | none => none) = some o at h
    cases e2 : forS (forTurn Φ tg smb) (lockE env1 ls) ds (lockE env1 ls) with
    | none => rw [e2] at h; cases h
    | some o' =>
      rw [e2] at h
      cases h
      refine anyS_of (ps_for hp hc pi_any hg pss_any hs) (hi env ls ds env1 e1 S σ H ok _ fun J S1 H1 f1 ok1 wd => ?_)
      obtain ⟨G, Y, w, keep, yl⟩ := wd
      have q1 := q.shift f1
      refine for_it w (fun i σ' H' => ∃ (S' : Addr → Prop) (en' : Env), forS (forTurn Φ tg smb) (lockE env1 ls) (ds.drop i) en' = some o' ∧ EnvOk X.K S' σ' H' en' ∧ Fw S1 H1 σ (lockE env1 ls) S' H' σ' en')
        ⟨S1, lockE env1 ls, by rw [List.drop_zero]; exact e2, ok1.lock ls, Fw.refl⟩ (fun i σ' H' _ hp => ?_) (fun i x σ' Ha Hb hi' hp hy => ?_) (fun σ' H' hp => ?_)
      · obtain ⟨S', en', _, _, fI⟩ := hp
        exact keep H' fun a o h1 h2 => fI.fr a o h1 h2
      · obtain ⟨S', en', g1, okI, fI⟩ := hp
        have hG : G Ha := keep Ha fun a o h1 h2 => fI.fr a o h1 h2
        obtain ⟨d, y1, y2, y3⟩ := yl i Ha x Hb hi' hG hy
        have hdrop : ds.drop i = d :: ds.drop (i + 1) := by
          obtain ⟨hlt, hd⟩ := List.getElem?_eq_some_iff.mp y1
          rw [List.drop_eq_getElem_cons hlt, hd]
        rw [hdrop] at g1
        simp only [forS] at g1
        cases e3 : forTurn Φ tg smb d en' with
        | none => rw [e3] at g1; cases g1
        | some o1 =>
          rw [e3] at g1
          unfold forTurn at e3
          cases e4 : bindT tg d en' with
          | none => rw [e4] at e3; cases e3
          | some en1 =>
            rw [e4] at e3
            dsimp only at e3
            have le1 : Le (er S1 H1) (er S' Ha) := Fw.le (ok1.lock ls) fI
            have rx : Rep X.K (er S' Hb) x d := y3 S' le1 okI.dom
            have fb : Fw S' Ha σ' en' S' Hb σ' en' := by
              rcases y2 with rfl | ⟨T, ob, hT, rfl⟩
              · exact Fw.refl
              · exact Fw.new hT
            have okB : EnvOk X.K S' σ' Hb en' := by
              rcases y2 with rfl | ⟨T, ob, hT, rfl⟩
              · exact okI
              · exact okI.new hT
            refine bind_ok okB e4 rx fun σ2 ok2 f2 _ => ?_
            have fL := f2 _ _ _ _ (fI.trans fb)
            refine hb en1 o1 e3 S' σ2 Hb ok2 _ ?_
            cases o1 with
            | nx en3 => exact fun σ3 S3 H3 f3 ok3 => ⟨S3, forget (lockE env1 ls) en3, g1, forget_ok ok3, forget_fw (fL.trans f3)⟩
            | ct en3 => exact fun σ3 S3 H3 f3 ok3 => ⟨S3, forget (lockE env1 ls) en3, g1, forget_ok ok3, forget_fw (fL.trans f3)⟩
            | bk en3 =>
              cases g1
              intro σ3 S3 H3 f3 ok3
              obtain ⟨z1, z2, _⟩ := for_end ok1 (forget_fw (fL.trans f3)) (forget_ok ok3)
              exact q1 _ _ _ z2 z1
            | rt r en3 =>
              cases g1
              intro v σ3 S3 H3 f3 ok3 rv new na
              obtain ⟨z1, z2, z3⟩ := for_end ok1 (fL.trans f3) ok3
              refine q1 v _ _ _ z2 z1 ?_ (fun d p h1 h2 => ?_) na
              · cases r with
                | im d => exact rv
                | al i => exact absurd rfl (na i)
                | fr d =>
                  obtain ⟨p, rfl, r1, r2, r3, r4, r5⟩ := rv
                  have no : ∀ k, ¬ OwnsK k σ3 (unlockE env1 en3 ls) p := fun k z => by
                    obtain ⟨k', z⟩ := z3 k p z
                    cases k' with
                    | own => exact r2 (.inl z)
                    | bor => exact r2 (.inr z)
                    | lck => exact r3 z
                  exact ⟨p, rfl, r1, fun z => z.elim (no _) (no _), no _, r4, r5⟩
              · rcases new d p h1 h2 with z | z
                · rcases fL.own p z with z | z
                  · obtain ⟨i', d', w1, w2⟩ := z
                    rcases lock_cases env1 ls i' _ w1 with ⟨_, _, _, _, z2⟩ | ⟨z2, _⟩
                    · cases z2
                    · exact .inl ⟨i', d', z2, w2⟩
                  · exact .inr z
                · exact .inr (none_back fL.dm z)
      · obtain ⟨S', en', g1, okI, fI⟩ := hp
        rw [List.drop_length] at g1
        cases g1
        obtain ⟨z1, z2, _⟩ := for_end ok1 fI okI
        exact q1 _ _ _ z2 z1
theorem snd_whl (hp : PassesOwn (model X.prog X.w) X.A X.env X.xe) (ht : SndT Φ X c xc) (hb : SndSts Φ X body smb) : SndSt Φ X (.While c body [] pos) (.whl xc smb) := .mk fun env o h S σ H ok D q => by
  simp only [exec] at h
  refine anyS_of (ps_while hp pt_any pss_any) ?_
  refine ⟨fun m σ' H' => ∃ (S' : Addr → Prop) (en' : Env), whS (tstX Φ xc) (execs Φ smb) env m en' = some o ∧ EnvOk X.K S' σ' H' en' ∧ Fw S H σ env S' H' σ' en', ⟨1000000, S, env, h, ok, Fw.refl⟩, ?_⟩
  rintro m σ' H' ⟨S', en', g, okI, fI⟩
  cases m with
  | zero => cases g
  | succ m =>
    simp only [whS] at g
    cases e1 : tstX Φ xc en' with
    | none => rw [e1] at g; cases g
    | some p1 =>
      obtain ⟨k, en1⟩ := p1
      rw [e1] at g
      refine ht en' k en1 e1 S' σ' H' okI _ fun S2 H2 f2 ok2 => ?_
      cases k with
      | false =>
        rw [if_neg Bool.false_ne_true]
        cases g
        exact q _ _ _ (fI.trans f2) ok2
      | true =>
        rw [if_pos rfl]
        dsimp only at g
        cases e2 : execs Φ smb en1 with
        | none => rw [e2] at g; cases g
        | some o1 =>
          rw [e2] at g
          refine ⟨fun σ3 H3 => ∃ (S3 : Addr → Prop) (en3 : Env), whS (tstX Φ xc) (execs Φ smb) env m en3 = some o ∧ EnvOk X.K S3 σ3 H3 en3 ∧ Fw S H σ env S3 H3 σ3 en3, fun σ3 H3 hN => ⟨m, Nat.lt_succ_self m, hN⟩, hb en1 o1 e2 S2 σ' H2 ok2 _ ?_⟩
          have fL := fI.trans f2
          cases o1 with
          | nx en3 => exact fun σ3 S3 H3 f3 ok3 => ⟨S3, forget env en3, g, forget_ok ok3, forget_fw (fL.trans f3)⟩
          | ct en3 => exact fun σ3 S3 H3 f3 ok3 => ⟨S3, forget env en3, g, forget_ok ok3, forget_fw (fL.trans f3)⟩
          | bk en3 =>
            cases g
            exact fun σ3 S3 H3 f3 ok3 => q _ _ _ (forget_fw (fL.trans f3)) (forget_ok ok3)
          | rt r en3 =>
            cases g
            exact q.shift fL
end
end DI

set_option maxRecDepth 100000
/-! DI16: more statements; reversed slices; calls by keyword. -/
namespace DI
open PySem PySem.Spec PyProof.Rows L2
/-! ### several names at once -/
section
variable {K : PySem.W.Frag} {S S' S0 S1 S2 : Addr → Prop} {H H' H0 H1 H2 : Hp} {σ σ' σ0 σ1 : L2.St} {env env' env0 env1 env2 en : Env}
inductive SlOks (K : PySem.W.Frag) (S : Addr → Prop) (H : Hp) (σ : L2.St) (env : Env) (H0 : Hp) : List Sl → List V → Prop
  | nil : SlOks K S H σ env H0 [] []
  | cons {s : Sl} {v : V} {ss : List Sl} {vs : List V} : SlOk K S H σ env H0 s v → SlOks K S H σ env H0 ss vs → SlOks K S H σ env H0 (s :: ss) (v :: vs)
def ownA (s : Sl) (v : V) : List Addr := match s, v with
  | .ow _ _, .ref a => [a]
  | _, _ => []
def ownsA : List Sl → List V → List Addr
  | s :: ss, v :: vs => ownA s v ++ ownsA ss vs
  | _, _ => []
theorem fw_nob {p : Addr} (F : Fw S H σ env S' H' σ env') (hp : H p ≠ none) (h : ∀ k, ¬ OwnsK k σ env p) : ∀ k, ¬ OwnsK k σ env' p := fun k z => by
  cases k with
  | own =>
    rcases F.own p z with z | z
    · exact h _ z
    · exact hp z
  | bor =>
    obtain ⟨i, d, z1, z2⟩ := z
    obtain ⟨d', z3, z4⟩ := F.bo' i d z1
    exact h .bor ⟨i, d', z3, z2⟩
  | lck =>
    obtain ⟨i, d, z1, z2⟩ := z
    obtain ⟨z3, z4⟩ := F.lk' i d z1
    exact h .lck ⟨i, d, z3, z2⟩
theorem SlOk.step {s : Sl} {v : V} (ok : EnvOk K S σ H env) (F : Fw S H σ env S' H' σ env') (h : SlOk K S H σ env H0 s v) : SlOk K S' H' σ env' H0 s v := by
  cases s with
  | un => exact h
  | im d => exact Rep.mono (F.le ok) h
  | ow k d =>
    cases k with
    | bor => exact h
    | lck => exact h
    | own =>
      obtain ⟨p, rfl, h1, h2, h3, h4, h5⟩ := h
      have hn := ok.dom p h1
      have e2 : H' p = H p := by
        cases q : H p with
        | none => exact absurd q hn
        | some o => exact F.fr p o q fun z => z.elim (h3 _) (h3 _)
      exact ⟨p, rfl, F.kp p h1 hn (h3 _), h2, fw_nob F hn h3, h4.mono (F.le ok) (fun u r => by unfold Rd at r ⊢; rw [e2]; exact r), by rw [e2]; exact h5⟩
theorem slot_ok2 {r : R} {v : V} {s : Sl} (F : Fw S0 H0 σ env0 S1 H1 σ env1) (ok : EnvOk K S1 σ H1 env1) (rv : RV K S1 H1 σ env1 r v) (new : ∀ d p, r = .fr d → v = .ref p → H0 p = none) (h : slotOf r env1 = some (s, env2)) :
    ∃ S2, Fw S1 H1 σ env1 S2 H1 σ env2 ∧ EnvOk K S2 σ H1 env2 ∧ SlOk K S2 H1 σ env2 H0 s v ∧ ownA s v = frsA [r] [v] := by
  cases r with
  | im d => cases h; exact ⟨S1, Fw.refl, ok, rv, rfl⟩
  | fr d =>
    cases h
    obtain ⟨p, rfl, hs, hc, hl, ho, hm⟩ := rv
    refine ⟨S1, Fw.refl, ok, ⟨p, rfl, hs, new _ _ rfl rfl, fun k => ?_, ho, hm⟩, rfl⟩
    cases k with
    | own => exact fun q => hc (.inl q)
    | bor => exact fun q => hc (.inr q)
    | lck => exact hl
  | al i =>
    simp only [slotOf] at h
    cases e : DI.sto (.al i) env1 with
    | none => rw [e] at h; cases h
    | some q =>
      obtain ⟨d, en⟩ := q
      rw [e] at h
      cases h
      obtain ⟨S', f, ok', rp⟩ := (Post.same ok rv fun _ z => by cases z).sto e
      exact ⟨S', f, ok', rp, by cases v <;> rfl⟩
theorem frsA_cons {r : R} {v : V} {rs : List R} {vs : List V} : frsA (r :: rs) (v :: vs) = frsA [r] [v] ++ frsA rs vs := by
  unfold frsA
  rw [List.zip_cons_cons, List.zip_cons_cons, List.zip_nil_right, ← List.singleton_append, List.filterMap_append]
theorem slots_ok : ∀ {rs : List R} {ss : List Sl} {vs : List V} {S1 : Addr → Prop} {env1 env2 : Env}, slotsOf rs env1 = some (ss, env2) → Fw S0 H0 σ env0 S1 H1 σ env1 → EnvOk K S1 σ H1 env1 → RVs K S1 H1 σ env1 rs vs → (∀ a ∈ frsA rs vs, H0 a = none) →
    ∃ S2, Fw S1 H1 σ env1 S2 H1 σ env2 ∧ EnvOk K S2 σ H1 env2 ∧ SlOks K S2 H1 σ env2 H0 ss vs ∧ ownsA ss vs = frsA rs vs
  | [], ss, vs, S1, env1, env2, h, F, ok, rv, new => by
    cases h
    cases rv
    exact ⟨S1, Fw.refl, ok, .nil, rfl⟩
  | r :: rs, ss, vs, S1, env1, env2, h, F, ok, rv, new => by
    cases rv with
    | cons r1 r2 =>
      rename_i v vs
      simp only [slotsOf] at h
      cases e1 : slotOf r env1 with
      | none => rw [e1] at h; cases h
      | some p1 =>
        obtain ⟨s, en1⟩ := p1
        rw [e1] at h
        dsimp only at h
        cases e2 : slotsOf rs en1 with
        | none => rw [e2] at h; cases h
        | some p2 =>
          obtain ⟨ss', en2⟩ := p2
          rw [e2] at h
          cases h
          rw [frsA_cons] at new
          obtain ⟨S2, f2, ok2, sl, ea⟩ := slot_ok2 F ok r1 (fun d p q1 q2 => new p (List.mem_append_left _ (by subst q1; subst q2; exact List.mem_singleton.mpr rfl))) e1
          obtain ⟨S3, f3, ok3, sls, eb⟩ := slots_ok e2 (F.trans f2) ok2 (r2.step ok f2) fun a ha => new a (List.mem_append_right _ ha)
          exact ⟨S3, f2.trans f3, ok3, .cons (sl.step ok2 f3) sls, by show ownA s v ++ ownsA ss' vs = _; rw [ea, eb]; exact frsA_cons.symm⟩
def setsV (σ : L2.St) : List Nat → List V → L2.St
  | i :: is, v :: vs => setsV (σ.set i (some v)) is vs
  | _, _ => σ
theorem set_step {i : Nat} {s : Sl} {v : V} (h : setSl env i s = some env') {t : Sl} {w : V} (hw : SlOk K S H σ env H0 t w) (nd : ∀ a ∈ ownA s v, a ∉ ownA t w) : SlOk K S H (σ.set i (some v)) env' H0 t w := by
  cases t with
  | un => exact hw
  | im d => exact hw
  | ow k d =>
    cases k with
    | bor => exact hw
    | lck => exact hw
    | own =>
      obtain ⟨p, rfl, h1, h2, h3, h4, h5⟩ := hw
      obtain ⟨hi, rfl, _, _⟩ := setSl_inv h
      refine ⟨p, rfl, h1, h2, fun k z => ?_, h4, h5⟩
      obtain ⟨j, d', z1, z2⟩ := z
      rcases getElem?_set_cases z1 with ⟨rfl, e⟩ | ⟨ne, e⟩
      · subst e
        have e3 : v = .ref p := by
          rcases getElem?_set_cases z2 with ⟨_, e⟩ | ⟨ne, _⟩
          · exact (Option.some.inj e).symm
          · exact absurd rfl ne
        subst e3
        exact nd p (List.mem_singleton.mpr rfl) (List.mem_singleton.mpr rfl)
      · rw [List.getElem?_set_ne ne] at z2
        exact h3 k ⟨j, d', e, z2⟩
theorem sets_ok : ∀ {is : List Nat} {ss : List Sl} {vs : List V} {σ : L2.St} {env env' : Env}, setAll is ss env = some env' → Fw S0 H0 σ0 env0 S H σ env → EnvOk K S σ H env → SlOks K S H σ env H0 ss vs → (ownsA ss vs).Nodup →
    is.length = vs.length ∧ EnvOk K S (setsV σ is vs) H env' ∧ Fw S0 H0 σ0 env0 S H (setsV σ is vs) env'
  | [], [], vs, σ, env, env', h, F, ok, sl, nd => by
    cases h
    cases sl
    exact ⟨rfl, ok, F⟩
  | [], _ :: _, vs, σ, env, env', h, F, ok, sl, nd => by cases h
  | _ :: _, [], vs, σ, env, env', h, F, ok, sl, nd => by cases h
  | i :: is, s :: ss, vs, σ, env, env', h, F, ok, sl, nd => by
    cases sl with
    | cons s1 s2 =>
      rename_i v vs
      simp only [setAll] at h
      cases e1 : setSl env i s with
      | none => rw [e1] at h; cases h
      | some en1 =>
        rw [e1] at h
        obtain ⟨ok1, F1⟩ := set_ok F ok e1 s1
        have nd' : (ownA s v ++ ownsA ss vs).Nodup := nd
        rw [List.nodup_append] at nd'
        have st : ∀ {ts : List Sl} {ws : List V}, SlOks K S H σ env H0 ts ws → (∀ a ∈ ownA s v, a ∉ ownsA ts ws) → SlOks K S H (σ.set i (some v)) en1 H0 ts ws := fun {ts ws} q => by
          induction q with
          | nil => exact fun _ => .nil
          | cons q1 q2 ih => exact fun n => .cons (set_step e1 q1 fun a ha z => n a ha (List.mem_append_left _ z)) (ih fun a ha z => n a ha (List.mem_append_right _ z))
        obtain ⟨l, ok2, F2⟩ := sets_ok h F1 ok1 (st s2 fun a ha hb => nd'.2.2 a ha a hb rfl) nd'.2.1
        exact ⟨congrArg (· + 1) l, ok2, F2⟩
end
section
variable {Φ : Fns} {X : Cx} {a b c e o i : Expr} {es : List Expr} {xa xb xc x xe xt xi : Xp} {xs : Xps} {it : It} {pos p p2 : Pos}
theorem par_inv {is : List Nat} {env : Env} {o : Out} (h : exec Φ (.par is xs) env = some o) : ∃ rs en1 ss en2 en3, evR Φ xs env = some (rs, en1) ∧ slotsOf rs en1 = some (ss, en2) ∧ setAll is ss en2 = some en3 ∧ o = .nx en3 := by
  simp only [exec] at h
  cases e1 : evR Φ xs env with
  | none => rw [e1] at h; cases h
  | some p1 =>
    obtain ⟨r, en1⟩ := p1
    rw [e1] at h
    dsimp only at h
    cases e2 : slotsOf r en1 with
    | none => rw [e2] at h; cases h
    | some p2 =>
      obtain ⟨s, en2⟩ := p2
      rw [e2] at h
      dsimp only at h
      cases e3 : setAll is s en2 with
      | none => rw [e3] at h; cases h
      | some en3 =>
        rw [e3] at h
        cases h
        exact ⟨r, en1, s, en2, en3, rfl, e2, e3, rfl⟩
theorem snd_par2 {i j : Nat} {x y : Str} {px py pt : Pos} {kt k2 pt2} (hc : X.calm = true) (hN : X.N.Nodup) (hi : X.N[i]? = some x) (hj : X.N[j]? = some y) (hij : i ≠ j)
    (hx : X.env.scope.names.lookup x = some .local) (hy : X.env.scope.names.lookup y = some .local) (ha : SndR Φ X [a, b] xs)
    (hw : swappedStores [.Tuple [.Name x px, .Name y py] kt pt] (.Tuple [a, b] k2 pt2) X.env = pure (some [x, y]))
    (hs : swapsWithSole [.Tuple [.Name x px, .Name y py] kt pt] (.Tuple [a, b] k2 pt2) pos.line X.env = pure false := by rfl) :
    SndSt Φ X (.Assign [.Tuple [.Name x px, .Name y py] kt pt] (.Tuple [a, b] k2 pt2) pos) (.par [i, j] xs) := .mk fun env o h S σ H ok D q => by
  obtain ⟨rs, en1, ss, en2, en3, e1, e2, e3, rfl⟩ := par_inv h
  refine anyS_of (ps_par hc hN hi hj hij hx hy pa_any hw hs) (ha env rs en1 e1 S σ H ok _ fun vs S1 H1 P => ?_)
  obtain ⟨S2, f2, ok2, sl, eo⟩ := slots_ok e2 P.fw P.ok P.rv P.new
  obtain ⟨l, ok3, f3⟩ := sets_ok e3 (P.fw.trans f2) ok2 sl (by rw [eo]; exact P.nd)
  match vs, l, ok3, f3 with
  | [v, w], _, ok3, f3 => exact ⟨v, w, rfl, q _ S2 H1 f3 ok3⟩
theorem snd_par3 {i j l : Nat} {x y z : Str} {px py pz pt : Pos} {kt k2 pt2} (hc : X.calm = true) (hN : X.N.Nodup) (hi : X.N[i]? = some x) (hj : X.N[j]? = some y) (hl : X.N[l]? = some z) (hij : i ≠ j) (hil : i ≠ l) (hjl : j ≠ l)
    (hx : X.env.scope.names.lookup x = some .local) (hy : X.env.scope.names.lookup y = some .local) (hz : X.env.scope.names.lookup z = some .local) (ha : SndR Φ X [a, b, c] xs)
    (hw : swappedStores [.Tuple [.Name x px, .Name y py, .Name z pz] kt pt] (.Tuple [a, b, c] k2 pt2) X.env = pure (some [x, y, z]))
    (hs : swapsWithSole [.Tuple [.Name x px, .Name y py, .Name z pz] kt pt] (.Tuple [a, b, c] k2 pt2) pos.line X.env = pure false := by rfl) :
    SndSt Φ X (.Assign [.Tuple [.Name x px, .Name y py, .Name z pz] kt pt] (.Tuple [a, b, c] k2 pt2) pos) (.par [i, j, l] xs) := .mk fun env o h S σ H ok D q => by
  obtain ⟨rs, en1, ss, en2, en3, e1, e2, e3, rfl⟩ := par_inv h
  refine anyS_of (ps_par3 hc hN hi hj hl hij hil hjl hx hy hz pa_any hw hs) (ha env rs en1 e1 S σ H ok _ fun vs S1 H1 P => ?_)
  obtain ⟨S2, f2, ok2, sl, eo⟩ := slots_ok e2 P.fw P.ok P.rv P.new
  obtain ⟨l, ok3, f3⟩ := sets_ok e3 (P.fw.trans f2) ok2 sl (by rw [eo]; exact P.nd)
  match vs, l, ok3, f3 with
  | [v, w, u], _, ok3, f3 => exact ⟨v, w, u, rfl, q _ S2 H1 f3 ok3⟩
/-! ### a, b = a tuple or a list -/
def gSeq (K : PySem.W.Frag) (n : Nat) (t : L2.TGs) : L2.TG := fun v σ H Q => gTup K n t v σ H Q ∨ gUnl K n t v σ H Q
theorem pg_seq {es : List Expr} {k : Nat} {t : L2.TGs} {n : Nat} (hc : X.calm = true) (h : PGs X es t) (hn : (assignEach es X.env).length = n := by rfl) (hst : (assignEach es X.env).findIdx? (·.1) = none := by rfl) : PG X (.Tuple es k pos) (gSeq X.K n t) :=
  ⟨fun pins s σ H v u Q I r hw => by
    rcases hw with hw | hw
    · exact (pg_tup hc h hn hst).run pins s σ H v u Q I r hw
    · exact (pg_unl hc h hn hst).run pins s σ H v u Q I r hw⟩
theorem snd_setT {is : List Nat} {tg : Expr} (hg : PG X tg (gSeq X.K is.length (gNames is))) (he : Snd Φ X e xe) (hs : swapsWithSole [tg] e pos.line X.env = pure false := by rfl) (hw : swappedStores [tg] e X.env = pure none := by rfl)
    (h1 : (assignEach [tg] X.env).map (·.2) = [assign tg X.env] := by rfl) : SndSt Φ X (.Assign [tg] e pos) (.setT is xe) := .mk fun env o h S σ H ok D q => by
  simp only [exec] at h
  cases e1 : ev Φ xe env with
  | none => rw [e1] at h; cases h
  | some p1 =>
    obtain ⟨r, en1⟩ := p1
    rw [e1] at h
    dsimp only at h
    cases e2 : r.val en1 with
    | none => rw [e2] at h; cases h
    | some d =>
      rw [e2] at h
      dsimp only [Option.bind] at h
      refine anyS_of (ps_asg pe_any hg hs hw h1) (he env r en1 e1 S σ H ok _ fun v S1 H1 P => ?_)
      have rc := P.rv.repC P.ok e2
      have fin : ∀ {ds : List DI.D} {xs : List V}, (match bindTs is ds en1 with
          | some env2 => some (Out.nx env2)
          | none => none) = some o → Reps X.K (er S1 H1) xs ds → gNames is xs σ H1 D.nx ∧ xs.length = is.length := fun {ds xs} h r => by
        cases e3 : bindTs is ds en1 with
        | none => rw [e3] at h; cases h
        | some en2 =>
          rw [e3] at h
          cases h
          exact ⟨binds_ok P.ok e3 r fun σ' ok' F' _ => q σ' S1 H1 (F' _ _ _ _ P.fw) ok', by rw [r.length]; exact bind_len e3⟩
      cases d with
      | list ds =>
        obtain ⟨a, xs, rfl, g1, g2⟩ := rc
        obtain ⟨z1, z2⟩ := fin h g2
        exact .inr ⟨a, xs, rfl, g1, z2, z1⟩
      | tuple ds =>
        obtain ⟨a, xs, rfl, g1, g2⟩ := Rep.tup_inv rc
        obtain ⟨z1, z2⟩ := fin h g2
        exact .inl ⟨a, xs, rfl, er_full.sqT g1, z2, z1⟩
      | _ => cases h
/-! ### o[i] = e -/
theorem set_any (hu : X.A.units + 1 < cLine) : PSet X fun o i v H Q => rSetL o i v H Q ∨ rSetD o i v H Q := by
  intro pins s σ H o i v ov iv u Q I ro ri rv h
  rcases h with h | h
  · exact set_list pins s σ H o i v ov iv u Q I ro ri rv h
  · exact set_dict hu pins s σ H o i v ov iv u Q I ro ri rv h
theorem RepKV.length {K : PySem.W.Frag} {F : Hp} : ∀ {ws : List (Key × V)} {ds : List (D × D)}, RepKV K F ws ds → ws.length = ds.length
  | _, _, .nil => rfl
  | _, _, .cons _ r => congrArg (· + 1) (RepKV.length r)
theorem key_eqv (k j : Key) : PyData.eqv (kD k) (kD j) = decide (k = j) := by
  cases k with
  | inl a =>
    cases j with
    | inl b =>
      by_cases e : a = b
      · subst e; simp [kD, PyData.eqv]
      · have : (Sum.inl a : Key) ≠ Sum.inl b := fun z => e (Sum.inl.inj z)
        simp [kD, PyData.eqv, e, this]
    | inr b => simp [kD, PyData.eqv]
  | inr a =>
    cases j with
    | inl b => simp [kD, PyData.eqv]
    | inr b =>
      by_cases e : a = b
      · subst e; simp [kD, PyData.eqv]
      · have : (Sum.inr a : Key) ≠ Sum.inr b := fun z => e (Sum.inr.inj z)
        simp [kD, PyData.eqv, e, this]
theorem RepKV.anyK {K : PySem.W.Frag} {F : Hp} {key : Key} : ∀ {ws : List (Key × V)} {ds : List (D × D)}, RepKV K F ws ds → (ws.any fun kv => decide (kv.1 = key)) = ds.any fun kv => PyData.eqv kv.1 (kD key)
  | _, _, .nil => rfl
  | _, _, .cons h1 h2 => by rw [List.any_cons, List.any_cons, RepKV.anyK h2, key_eqv]
theorem RepKV.mapK {K : PySem.W.Frag} {F : Hp} {key : Key} {v : V} {d : D} (r : Rep K F v d) : ∀ {ws : List (Key × V)} {ds : List (D × D)}, RepKV K F ws ds → RepKV K F (ws.map fun kv => if kv.1 = key then (kv.1, v) else kv) (ds.map fun kv => if PyData.eqv kv.1 (kD key) then (kv.1, d) else kv)
  | _, _, .nil => .nil
  | _, _, .cons (k := k) h1 h2 => by
    rw [List.map_cons, List.map_cons, key_eqv]
    by_cases c : k = key
    · rw [if_pos c, if_pos (decide_eq_true c)]
      exact .cons r (RepKV.mapK r h2)
    · rw [if_neg c, if_neg (fun z => c (of_decide_eq_true z))]
      exact .cons h1 (RepKV.mapK r h2)
theorem RepKV.snoc {K : PySem.W.Frag} {F : Hp} {key : Key} {v : V} {d : D} (r : Rep K F v d) : ∀ {ws : List (Key × V)} {ds : List (D × D)}, RepKV K F ws ds → RepKV K F (ws ++ [(key, v)]) (ds ++ [(kD key, d)])
  | _, _, .nil => .cons r .nil
  | _, _, .cons h1 h2 => .cons h1 (RepKV.snoc r h2)
theorem RepKV.put {K : PySem.W.Frag} {F : Hp} {key : Key} {v : V} {d : D} (r : Rep K F v d) {ws : List (Key × V)} {ds : List (D × D)} (h : RepKV K F ws ds) : RepKV K F (putK ws key v) (putD ds (kD key) d) := by
  unfold putK putD
  rw [h.anyK]
  split
  · exact h.mapK r
  · exact h.snoc r
theorem snd_setIx {n : Nat} {tpos : Pos} (hu : X.A.units + 1 < cLine) (ho : Snd Φ X o (.v n)) (hi : Snd Φ X i xi) (he : Snd Φ X e xe) (hs : swapsWithSole [.Subscript o i tpos] e pos.line X.env = pure false := by rfl) (hw : swappedStores [.Subscript o i tpos] e X.env = pure none := by rfl)
    (h1 : (assignEach [.Subscript o i tpos] X.env).map (·.2) = [assign (.Subscript o i tpos) X.env] := by rfl)
    (ha : ∀ v, assign (.Subscript o i tpos) X.env v = (do
      let ov ← holding [v] (eval o X.env)
      let iv ← holding [v, ov] (eval i X.env)
      standAt tpos
      holding [v, ov, iv] (setItem ov iv v)
      release [v, ov, iv] []) := by intro _; rfl) : SndSt Φ X (.Assign [.Subscript o i tpos] e pos) (.setIx n xi xe) := .mk fun env ot h S σ H ok D q => by
  simp only [exec] at h
  cases e1 : ev Φ xe env with
  | none => rw [e1] at h; cases h
  | some p1 =>
    obtain ⟨r, en1⟩ := p1
    rw [e1] at h
    dsimp only at h
    cases e2 : DI.sto r en1 with
    | none => rw [e2] at h; cases h
    | some p2 =>
      obtain ⟨d, en2⟩ := p2
      rw [e2] at h
      dsimp only at h
      cases e0 : en2[n]? with
      | none => rw [e0] at h; cases h
      | some sl0 =>
        rw [e0] at h
        cases sl0 with
        | un => cases h
        | im z => cases h
        | ow k0 c0 =>
          have ev0 : ev Φ (.v n) en2 = some (.al n, en2) := by simp only [ev, e0]
          cases e3 : ev Φ xi en2 with
          | none => rw [e3] at h; cases h
          | some p3 =>
            obtain ⟨rk, en3⟩ := p3
            rw [e3] at h
            dsimp only at h
            cases e4 : rk.val en3 with
            | none => rw [e4] at h; cases h
            | some kd =>
              rw [e4] at h
              cases e5 : en3[n]? with
              | none => rw [e5] at h; cases h
              | some sl =>
                rw [e5] at h
                cases sl with
                | un => cases h
                | im z => cases h
                | ow kk cc =>
                  dsimp only at h
                  by_cases hk : kk = .lck
                  · rw [if_pos hk] at h; cases h
                  · rw [if_neg hk] at h
                    cases e6 : setIxD cc kd d with
                    | none => rw [e6] at h; cases h
                    | some c' =>
                      rw [e6] at h
                      cases h
                      refine anyS_of (ps_asg pe_any (pg_sub pe_any pe_any (set_any hu) ha) hs hw h1) (he env r en1 e1 S σ H ok _ fun v S1 H1 P => ?_)
                      obtain ⟨S2, f2, ok2, rp⟩ := P.sto e2
                      refine ho en2 _ _ ev0 S2 σ H1 ok2 _ fun w S3 H3 P3 => ?_
                      refine hi en2 rk en3 e3 S3 σ H3 P3.ok _ fun u S4 H4 P4 => ?_
                      have hσ : σ[n]? = some (some w) := P3.rv
                      obtain ⟨p', g1, g4, g5, g6⟩ := P4.ok.ow n _ _ e5
                      rw [hσ] at g1
                      cases g1
                      have le : Le (er S2 H1) (er S4 H4) := (Fw.le ok2 P3.fw).trans (Fw.le P3.ok P4.fw)
                      cases cc with
                      | list ys =>
                        cases kd <;> first | cases e6 | skip
                        rename_i j
                        simp only [setIxD] at e6
                        cases e7 : ixN ys.length j with
                        | none => rw [e7] at e6; cases e6
                        | some m =>
                          rw [e7] at e6
                          cases e6
                          obtain ⟨ws, g7, g8⟩ := g5
                          have hl := mut_not_frz g7 (g6 hk)
                          have ek := Rep.int_inv (P4.rv.rep P4.ok e4)
                          obtain ⟨m1, m2⟩ := P4.ok.mutate (d' := .list (ys.set m d)) (o := .lst (ws.set m v)) e5 hk hσ ⟨ws.set m v, .inl upd_same, g8.set (rp.mono le) m⟩ True.intro
                          exact .inl ⟨p', ws, j, m, rfl, ek, hl, by rw [g8.length]; exact e7, q _ _ _ (((f2.trans P3.fw).trans P4.fw).trans m2) m1⟩
                      | dict kvs =>
                        simp only [setIxD] at e6
                        split at e6
                        · rename_i hc
                          cases e6
                          rw [Bool.and_eq_true, decide_eq_true_iff] at hc
                          obtain ⟨ws, g7, g8⟩ := g5
                          have hl := mut_not_frz g7 (g6 hk)
                          obtain ⟨key, ek, ev⟩ := key_of (P4.rv.rep P4.ok e4) hc.1
                          subst ek
                          obtain ⟨m1, m2⟩ := P4.ok.mutate (d' := .dict (putD kvs (kD key) d)) (o := .dK (putK ws key v)) e5 hk hσ ⟨putK ws key v, .inl upd_same, g8.put (rp.mono le)⟩ True.intro
                          exact .inr ⟨p', _, rfl, .inl ⟨ws, key, hl, ev, by rw [g8.length, sizeLine_eq]; have := hc.2; unfold lim at this; omega, rfl⟩, q _ _ _ (((f2.trans P3.fw).trans P4.fw).trans m2) m1⟩
                        · cases e6
                      | _ => cases e6
end
end DI

set_option maxRecDepth 100000
/-! DI17: a def, called. -/
namespace DI
open PySem PySem.Spec PyProof.Rows L2
theorem finSl_len : ∀ (args env : Env), (finSl args env).length = args.length
  | [], env => by cases env <;> rfl
  | a :: args, [] => by
    cases a with
    | ow k d => cases k <;> rfl
    | _ => rfl
  | a :: args, e :: env => by
    have ih := finSl_len args env
    cases a with
    | ow k d => cases k <;> exact congrArg (· + 1) ih
    | _ => exact congrArg (· + 1) ih
theorem finSl_cases : ∀ (args env : Env) (j : Nat) (s : Sl), (finSl args env)[j]? = some s →
    ∃ a, args[j]? = some a ∧ (((∃ d, a = .ow .bor d) ∧ env[j]? = some s) ∨ (((∀ d, a ≠ .ow .bor d) ∨ env[j]? = none) ∧ s = a))
  | [], env, j, s, h => by
    have e : finSl [] env = [] := by cases env <;> rfl
    rw [e] at h
    simp at h
  | a :: args, [], j, s, h => by
    have e : finSl (a :: args) [] = a :: args := by
      cases a with
      | ow k d => cases k <;> rfl
      | _ => rfl
    rw [e] at h
    exact ⟨s, h, .inr ⟨.inr rfl, rfl⟩⟩
  | a :: args, e :: env, 0, s, h => by
    refine ⟨a, rfl, ?_⟩
    cases a with
    | ow k d =>
      cases k with
      | bor => exact .inl ⟨⟨d, rfl⟩, h⟩
      | own => exact .inr ⟨.inl fun _ z => (by cases z), (Option.some.inj h).symm⟩
      | lck => exact .inr ⟨.inl fun _ z => (by cases z), (Option.some.inj h).symm⟩
    | un => exact .inr ⟨.inl fun _ z => (by cases z), (Option.some.inj h).symm⟩
    | im d => exact .inr ⟨.inl fun _ z => (by cases z), (Option.some.inj h).symm⟩
  | a :: args, e :: env, j + 1, s, h => by
    have h' : (finSl args env)[j]? = some s := by
      cases a with
      | ow k d => cases k <;> simpa [finSl] using h
      | un => simpa [finSl] using h
      | im d => simpa [finSl] using h
    obtain ⟨b, h1, h2⟩ := finSl_cases args env j s h'
    exact ⟨b, by simpa using h1, by simpa using h2⟩
section
variable {K : PySem.W.Frag} {S S' : Addr → Prop} {H H' : Hp} {σ' : L2.St} {env' args : Env} {vs : List V} {N : List Str} {m : Nat}
theorem start_in {i : Nat} (h : i < vs.length) : (start N vs)[i]? = (vs.map some)[i]? := by
  unfold L2.start
  rw [List.getElem?_append_left (by rw [List.length_map]; exact h)]
theorem ent_in {i : Nat} (h : i < args.length) : (args ++ List.replicate m Sl.un)[i]? = args[i]? := List.getElem?_append_left h
theorem ent_ow {i : Nat} {s : Sl} (hs : s ≠ .un) (h : (args ++ List.replicate m Sl.un)[i]? = some s) : i < args.length ∧ args[i]? = some s := by
  by_cases hi : i < args.length
  · exact ⟨hi, by rw [← ent_in (m := m) hi]; exact h⟩
  · rw [List.getElem?_append_right (by omega)] at h
    have := List.mem_of_getElem? h
    rw [List.mem_replicate] at this
    exact absurd this.2 hs
theorem ent_ok (ok : EnvOk K S (vs.map some) H args) (hm : m = N.length - vs.length) : EnvOk K S (start N vs) H (args ++ List.replicate m .un) := by
  have hl : vs.length = args.length := by
    have := ok.len
    rw [List.length_map] at this
    exact this
  have st : ∀ {i : Nat}, i < args.length → (start N vs)[i]? = (vs.map some)[i]? := fun h => start_in (by rw [hl]; exact h)
  refine ⟨?_, ok.dom, fun i d h => ?_, fun i k d h => ?_, fun i j k l d e p h1 h2 h3 h4 => ?_⟩
  · unfold L2.start
    rw [List.length_append, List.length_append, List.length_map, List.length_replicate, List.length_replicate, hm, hl]
  · obtain ⟨hi, h'⟩ := ent_ow (fun z => by cases z) h
    rw [st hi]
    exact ok.im i d h'
  · obtain ⟨hi, h'⟩ := ent_ow (fun z => by cases z) h
    rw [st hi]
    exact ok.ow i k d h'
  · obtain ⟨hi, h1'⟩ := ent_ow (fun z => by cases z) h1
    obtain ⟨hj, h2'⟩ := ent_ow (fun z => by cases z) h2
    rw [st hi] at h3
    rw [st hj] at h4
    exact ok.inj i j k l d e p h1' h2' h3 h4
theorem ent_owns {k : Kd} {a : Addr} (hl : vs.length = args.length) (h : OwnsK k (start N vs) (args ++ List.replicate m .un) a) : OwnsK k (vs.map some) args a := by
  obtain ⟨i, d, h1, h2⟩ := h
  obtain ⟨hi, h1'⟩ := ent_ow (fun z => by cases z) h1
  rw [start_in (by rw [hl]; exact hi)] at h2
  exact ⟨i, d, h1', h2⟩
theorem fin_post {r : R} {v : V} (ok : EnvOk K S (vs.map some) H args) (nown : ∀ (i : Nat) d, args[i]? ≠ some (.ow .own d)) (hm : m = N.length - vs.length)
    (F : Fw S H (start N vs) (args ++ List.replicate m .un) S' H' σ' env') (ok' : EnvOk K S' σ' H' env') (rv : RV K S' H' σ' env' r v) (new : ∀ d p, r = .fr d → v = .ref p → OwnsK .own (start N vs) (args ++ List.replicate m .un) p ∨ H p = none) (na : ∀ i, r ≠ .al i) :
    Post K S H (vs.map some) args r (finSl args env') v S' H' := by
  have hl : vs.length = args.length := by
    have := ok.len
    rw [List.length_map] at this
    exact this
  have st : ∀ {i : Nat}, i < args.length → (start N vs)[i]? = (vs.map some)[i]? := fun h => start_in (by rw [hl]; exact h)
  have le : Le (er S H) (er S' H') := Fw.le (ent_ok ok hm) F
  have lt : ∀ {i : Nat} {s : Sl}, args[i]? = some s → i < args.length := fun h => (List.getElem?_eq_some_iff.mp h).1
  have bor : ∀ (i : Nat) d, args[i]? = some (.ow .bor d) → ∃ d', env'[i]? = some (.ow .bor d') ∧ σ'[i]? = (vs.map some)[i]? := fun i d h => by
    obtain ⟨d', h1, h2⟩ := F.bo i d (by rw [ent_in (lt h)]; exact h)
    exact ⟨d', h1, by rw [h2]; exact st (lt h)⟩
  have lck : ∀ (i : Nat) d, args[i]? = some (.ow .lck d) → env'[i]? = some (.ow .lck d) ∧ σ'[i]? = (vs.map some)[i]? := fun i d h => by
    obtain ⟨h1, h2⟩ := F.lk i d (by rw [ent_in (lt h)]; exact h)
    exact ⟨h1, by rw [h2]; exact st (lt h)⟩
  -- a slot behind it
  have src : ∀ (i : Nat) s, (finSl args env')[i]? = some s → (∃ d d', args[i]? = some (.ow .bor d) ∧ s = .ow .bor d' ∧ env'[i]? = some s ∧ σ'[i]? = (vs.map some)[i]?) ∨ (args[i]? = some s ∧ ∀ d, s ≠ .ow .bor d) := fun i s h => by
    obtain ⟨a, h1, h2⟩ := finSl_cases args env' i s h
    rcases h2 with ⟨⟨d, rfl⟩, h3⟩ | ⟨h3, rfl⟩
    · obtain ⟨d', h4, h5⟩ := bor i d h1
      rw [h3] at h4
      cases h4
      exact .inl ⟨d, d', h1, rfl, h3, h5⟩
    · refine .inr ⟨h1, fun d z => ?_⟩
      subst z
      rcases h3 with h3 | h3
      · exact h3 d rfl
      · obtain ⟨d', h4, _⟩ := bor i d h1
        rw [h3] at h4
        cases h4
  have fow : ∀ (i : Nat) k d, (finSl args env')[i]? = some (.ow k d) → env'[i]? = some (.ow k d) ∧ σ'[i]? = (vs.map some)[i]? ∧ k ≠ .own := fun i k d h => by
    rcases src i _ h with ⟨d0, d', h1, h2, h3, h4⟩ | ⟨h1, h2⟩
    · cases h2
      exact ⟨h3, h4, fun z => by cases z⟩
    · cases k with
      | own => exact absurd h1 (nown i d)
      | bor => exact absurd rfl (h2 d)
      | lck =>
        obtain ⟨h3, h4⟩ := lck i d h1
        exact ⟨h3, h4, fun z => by cases z⟩
  have fowns : ∀ k a, OwnsK k (vs.map some) (finSl args env') a → OwnsK k σ' env' a := fun k a h => by
    obtain ⟨i, d, h1, h2⟩ := h
    obtain ⟨h3, h4, _⟩ := fow i k d h1
    exact ⟨i, d, h3, by rw [h4]; exact h2⟩
  have there : ∀ {i : Nat} {s : Sl}, args[i]? = some s → ∃ t, (finSl args env')[i]? = some t := fun h => ⟨_, List.getElem?_eq_getElem (by rw [finSl_len]; exact lt h)⟩
  have no : ∀ a, OwnsK .own (vs.map some) args a → False := fun a ⟨i, d, h, _⟩ => nown i d h
  refine ⟨⟨F.sub, fun a h1 h2 h3 => F.kp a h1 h2 fun z => no a (ent_owns hl z), fun a o h1 h2 => F.fr a o h1 fun z => h2 ?_, fun a h => ?_, fun i d h => ?_, fun i d h => ?_, fun i d h => ?_, fun i d h => ?_, F.dm⟩,
    ⟨by rw [finSl_len]; exact ok.len, ok'.dom, fun i d h => ?_, fun i k d h => ?_, fun i j k l d e p h1 h2 h3 h4 => ?_⟩, ?_, fun d p e1 e2 => ?_⟩
  · rcases z with z | z
    · exact .inl (ent_owns hl z)
    · exact .inr (ent_owns hl z)
  · obtain ⟨i, d, h1, _⟩ := h
    exact absurd rfl (fow i _ d h1).2.2
  · obtain ⟨t, ht⟩ := there h
    rcases src i t ht with ⟨d0, d', h1, h2, h3, h4⟩ | ⟨h1, h2⟩
    · subst h2
      exact ⟨d', ht, rfl⟩
    · rw [h] at h1
      cases h1
      exact absurd rfl (h2 d)
  · rcases src i _ h with ⟨d0, d', h1, h2, h3, h4⟩ | ⟨h1, h2⟩
    · exact ⟨d0, h1, rfl⟩
    · exact absurd rfl (h2 d)
  · obtain ⟨t, ht⟩ := there h
    rcases src i t ht with ⟨d0, d', h1, h2, h3, h4⟩ | ⟨h1, h2⟩
    · rw [h] at h1
      cases h1
    · rw [h] at h1
      cases h1
      exact ⟨ht, rfl⟩
  · rcases src i _ h with ⟨d0, d', h1, h2, h3, h4⟩ | ⟨h1, h2⟩
    · cases h2
    · exact ⟨h1, rfl⟩
  · rcases src i _ h with ⟨d0, d', h1, h2, h3, h4⟩ | ⟨h1, h2⟩
    · cases h2
    · obtain ⟨w, g1, g2⟩ := ok.im i d h1
      exact ⟨w, g1, g2.mono le⟩
  · obtain ⟨h1, h2, _⟩ := fow i k d h
    rw [← h2]
    exact ok'.ow i k d h1
  · obtain ⟨a1, a2, _⟩ := fow i k d h1
    obtain ⟨b1, b2, _⟩ := fow j l e h2
    exact ok'.inj i j k l d e p a1 b1 (by rw [a2]; exact h3) (by rw [b2]; exact h4)
  · cases r with
    | im d => exact rv
    | al i => exact absurd rfl (na i)
    | fr d =>
      obtain ⟨p, rfl, r1, r2, r3, r4, r5⟩ := rv
      refine ⟨p, rfl, r1, fun z => r2 ?_, fun z => r3 (fowns _ p z), r4, r5⟩
      rcases z with z | z
      · exact .inl (fowns _ p z)
      · exact .inr (fowns _ p z)
  · rcases new d p e1 e2 with z | z
    · exact absurd (ent_owns hl z) (no p)
    · exact z
end
section
variable {P : Program} {w : World} {K : PySem.W.Frag} {mg : Str → Option Value} {base : Heap} {Φ : Fns}
/-- what execs answers, as a result -/
def outR (args : List Sl) : Option Out → Option (R × List Sl)
  | some (.rt (.im d) env) => some (.im d, finSl args env)
  | some (.rt (.fr d) env) => some (.fr d, finSl args env)
  | some (.nx env) => some (.im .none, finSl args env)
  | _ => none
theorem run_eq (d : Dfn) (args : List Sl) : d.run Φ args = if args.length = d.np then outR args (execs Φ d.body (args ++ List.replicate (d.ns - d.np) .un)) else none := by
  unfold Dfn.run
  split
  · cases execs Φ d.body (args ++ List.replicate (d.ns - d.np) .un) with
    | none => rfl
    | some o =>
      cases o with
      | rt r e => cases r <;> rfl
      | _ => rfl
  · rfl
theorem fn_ok {x qual : Str} {st : Stmt} {f : Addr} {fd : FuncData} {N ps : List Str} {n : Nat} {d : Dfn} (F : Fun K x qual st f fd) (Sc : FnScope N ps (defScope st)) (hnp : d.np = ps.length) (hns : d.ns = N.length)
    (body : ∀ (cdv : Value) (A : Around) (outer : List PySem.Env) (s : Shared) (H : Hp) (E : XK), Room n (A.deeper (envOfC qual (defScope st) s.heap.objs.size f cdv)) → SndSts Φ (cxOf CX0 P w K mg base N qual (defScope st) f cdv A outer s H E).nox (defBody st) d.body) :
    FnOk P w K mg base CX0 (n + 1) f fd ps (spD K (d.run Φ)) := by
  have arr : ∀ {vs : List V} {S : Addr → Prop} {H : Hp} {args : List Sl} {r : R} {fin : List Sl}, d.run Φ args = some (r, fin) → EnvOk K S (vs.map some) H args → vs.length = ps.length ∧ args.length = d.np := fun {vs S H args r fin} h ok => by
    rw [run_eq] at h
    split at h
    · rename_i e
      have := ok.len
      rw [List.length_map] at this
      exact ⟨by rw [this, e, hnp], e⟩
    · cases h
  refine F.ok Sc (fun vs H Q E h => ?_) (fun cdv A outer s H vs Q E hr h => ?_)
  · obtain ⟨S, args, r, fin, h1, h2, _⟩ := h
    exact (arr h1 h2).1
  · obtain ⟨S, args, r, fin, h1, h2, h3, h4⟩ := h
    obtain ⟨l1, l2⟩ := arr h1 h2
    have hm : d.ns - d.np = N.length - vs.length := by rw [hns, hnp, l1]
    rw [run_eq, if_pos l2] at h1
    cases e : execs Φ d.body (args ++ List.replicate (d.ns - d.np) .un) with
    | none => rw [e] at h1; cases h1
    | some o =>
      rw [e] at h1
      refine ⟨_, pss_any, body cdv A outer s H E hr _ o e S (start N vs) H (ent_ok h2 hm) _ ?_⟩
      cases o with
      | nx env' =>
        cases h1
        exact fun σ' S' H' f ok' => h4 .non S' H' (fin_post (r := .im .none) h2 h3 hm f ok' Rep.non (fun _ _ z => by cases z) fun _ z => by cases z)
      | rt r' env' =>
        cases r' with
        | al i => cases h1
        | im d =>
          cases h1
          exact fun v σ' S' H' f ok' rv new na => h4 v S' H' (fin_post h2 h3 hm f ok' rv new na)
        | fr d =>
          cases h1
          exact fun v σ' S' H' f ok' rv new na => h4 v S' H' (fin_post h2 h3 hm f ok' rv new na)
      | bk env' => cases h1
      | ct env' => cases h1
/-! ### the defs of a text -/
/-- all but the room -/
def HasG (Φ : Fns) (P : Program) (w : World) (K : PySem.W.Frag) (mg : Str → Option Value) (base : Heap) (k : Nat) (x : Str) (ps : List Str) : Prop :=
  ∃ f fd, FnOk P w K mg base CX0 k f fd ps (spD K (Φ x)) ∧ mg x = some (.ref f) ∧ PySem.W.keepIn K (.ref f) = true ∧ Binds K fd ps []
theorem has_of {X : Cx} {k : Nat} {x : Str} {ps : List Str} (h : HasG Φ X.prog X.w X.K X.mg X.base k x ps) (r : Room k X.A) : Has Φ X x k ps := ⟨h, r⟩
theorem run_noal {d : Dfn} {args : List Sl} {r : R} {fin : List Sl} (h : d.run Φ args = some (r, fin)) (i : Nat) : r ≠ .al i := fun z => by
  subst z
  rw [run_eq] at h
  split at h
  · cases e : execs Φ d.body (args ++ List.replicate (d.ns - d.np) .un) with
    | none => rw [e] at h; cases h
    | some o =>
      rw [e] at h
      cases o with
      | rt r e => cases r <;> cases h
      | _ => cases h
  · cases h
theorem fns_noal (tbl : List (Str × Dfn)) : ∀ n, NoAl (fns tbl n)
  | 0 => fun f args r fin h => by cases h
  | n + 1 => fun f args r fin h => by
    simp only [fns] at h
    cases e : tbl.lookup f with
    | none => rw [e] at h; cases h
    | some d => rw [e] at h; exact run_noal h
/-- to no depth: nothing is promised -/
theorem has0 {tbl : List (Str × Dfn)} {x : Str} {ps : List Str} {f : Addr} {fd : FuncData} (hm : mg x = some (.ref f)) (hk : PySem.W.keepIn K (.ref f) = true) (hb : Binds K fd ps []) : HasG (fns tbl 0) P w K mg base 0 x ps :=
  ⟨f, fd, ⟨(fun vs H Q E h => by obtain ⟨S, args, r, fin, h1, _⟩ := h; cases h1), (fun A outer s H args us vs Q E _ _ _ _ h => by obtain ⟨S, args, r, fin, h1, _⟩ := h; cases h1)⟩, hm, hk, hb⟩
theorem hasS {tbl : List (Str × Dfn)} {x : Str} {ps : List Str} {f : Addr} {fd : FuncData} {n : Nat} {d : Dfn} (hm : mg x = some (.ref f)) (hk : PySem.W.keepIn K (.ref f) = true) (hb : Binds K fd ps []) (hd : tbl.lookup x = some d)
    (h : FnOk P w K mg base CX0 (n + 1) f fd ps (spD K (d.run (fns tbl n)))) : HasG (fns tbl (n + 1)) P w K mg base (n + 1) x ps := by
  have e : fns tbl (n + 1) x = d.run (fns tbl n) := by
    funext args
    simp only [fns, hd]
  exact ⟨f, fd, by rw [e]; exact h, hm, hk, hb⟩
end
end DI

set_option maxRecDepth 100000
/-! DI18: t[::-1]; f(k = e). -/
namespace DI
open PySem PySem.Spec PyProof.Rows L2
section
variable {prog : Program} {w : World} {A : Around} {E : Value → Shared → Prop} {s : Shared}
theorem places_rev (n : Nat) : Builtin.Slice.slicePlaces ((n : Int) - 1) (-1) (-1) = n := by
  unfold Builtin.Slice.slicePlaces
  rw [if_neg (by decide)]
  split
  · rw [show (-(-1 : Int)) = 1 by decide, Int.ediv_one]
    omega
  · omega
theorem fm_congr {α β : Type} {f g : α → Option β} : ∀ l : List α, (∀ x ∈ l, f x = g x) → l.filterMap f = l.filterMap g
  | [], _ => rfl
  | x :: l, h => by
    rw [List.filterMap_cons, List.filterMap_cons, h x List.mem_cons_self, fm_congr l fun y hy => h y (List.mem_cons_of_mem _ hy)]
theorem pick_rev (xs : Array Value) : ((List.range xs.size).filterMap fun (m : Nat) => xs[(((xs.size : Int) - 1) + (m : Int) * (-1)).toNat]?) = xs.toList.reverse := by
  have e : (List.range xs.size).filterMap (fun (m : Nat) => xs[(((xs.size : Int) - 1) + (m : Int) * (-1)).toNat]?) = ((List.range xs.size).map fun k => xs.size - 1 - k).filterMap (xs[·]?) := by
    rw [List.filterMap_map]
    refine fm_congr _ fun m hm => ?_
    have := List.mem_range.mp hm
    show xs[(((xs.size : Int) - 1) + (m : Int) * (-1)).toNat]? = xs[xs.size - 1 - m]?
    rw [show (((xs.size : Int) - 1) + (m : Int) * (-1)).toNat = xs.size - 1 - m by omega]
  rw [e, PySem.W.krv_range, List.filterMap_reverse, PySem.W.krv_all]
theorem get_tup_rev {t sl : Addr} {its : Array Value} {x : Value} {Q : Value → Shared → Prop} (ht : IsTup s.heap t its) (hs : s.heap.IsSliceOf sl .none .none x) (px : IsPart x (some (-1))) (hz : its.size ≤ sizeLine)
    (q : Q (.ref s.heap.objs.size) { s with heap := s.heap.push { cls := .type "tuple", data := .seq its.toList.reverse.toArray } }) : wpAny (model prog w) A (getItem (.ref t) (.ref sl)) Q E s := by
  obtain ⟨so, g1, g2, g3⟩ := id hs
  have fits : sizeOk (.seq its.toList.reverse.toArray) := by
    show its.toList.reverse.toArray.size ≤ sizeLine
    rw [List.size_toArray, List.length_reverse, Array.length_toList]
    exact hz
  unfold getItem
  refine wpAny_holding (wpAny_bind (wpAny_sequenceKey ht.typeIs (by decide) (wpAny_bind (wpAny_callSpecial?_slot (name := Str.ofString "__getitem__") ht.typeIs slot_tuple_getitem (wpAny_call_entry slot_tuple_getitem ht.typeIs entry_tuple_getitem ?_ (args_tuple_getitem _ _))))))
  show wpAny _ _ (Builtin.Tuple.tupleItemsOf (.ref t) >>= _) _ _ s
  refine wpAny_bind (tupleItemsOf_ ht (wpAny_bind (wpAny_typeOf (show s.TypeIs (.ref sl) "slice" from ⟨so, g1, g2⟩) ?_)))
  rw [if_pos (by decide)]
  refine wpAny_bind ?_
  unfold Builtin.Slice.sliceApplied Builtin.Slice.sliceFields
  refine wpAny_bind (wpAny_bind (wpAny_field g1 g3 (x := .none) rfl (wpAny_bind (wpAny_field g1 g3 (x := .none) rfl (wpAny_bind (wpAny_field g1 g3 (x := x) rfl (wpAny_pure ?_)))))))
  refine wpAny_bind (HT.slicePart_ px ?_)
  show wpAny _ _ (if ((-1 : Int) == 0) = true then _ else _) _ _ s
  rw [if_neg (by decide)]
  refine wpAny_bind (HT.slicePart_ .none (wpAny_bind (HT.slicePart_ .none (wpAny_bind (wpAny_pure ?_)))))
  show wpAny _ _ (pure (((its.size : Int) - 1), (-1 : Int), Builtin.Slice.slicePlaces ((its.size : Int) - 1) (-1) (-1))) _ _ s
  rw [places_rev]
  refine wpAny_pure ?_
  show wpAny _ _ (if (((its.size : Int) - 1) == 0 && (-1 : Int) == 1 && its.size == its.size) = true then _ else _) _ _ s
  rw [show ((-1 : Int) == 1) = false by decide, Bool.and_false, Bool.false_and, if_neg Bool.false_ne_true, pick_rev]
  first
    | exact wpAny_bind (m := Builtin.Tuple.tupleExact _) (wpAny_newObj_type (wpAny_pure ⟨_, rfl, wpAny_pure q⟩) fits)
    | exact wpAny_bind (m := Builtin.Tuple.tupleExact _) (wpAny_newObj_type (wpAny_bind (wpAny_pure (wpAny_pure ⟨_, rfl, wpAny_pure q⟩))) fits)
    | exact wpAny_bind (wpAny_bind (m := Builtin.Tuple.tupleExact _) (wpAny_newObj_type (wpAny_pure (wpAny_pure ⟨_, rfl, wpAny_pure q⟩)) fits))
    | exact wpAny_bind (wpAny_bind (m := Builtin.Tuple.tupleExact _) (wpAny_newObj_type (wpAny_pure ⟨_, rfl, wpAny_pure q⟩) fits))
end
section
variable {Φ : Fns} {X : Cx} {a b c e o i : Expr} {es : List Expr} {xa xb xc x xe xt xi : Xp} {xs : Xps} {pos p p1 p2 p3 : Pos} {te : TE} {k : Nat}
def tRevT (K : PySem.W.Frag) (te : TE) : TE := fun σ H Q => te σ H fun x H1 => ∃ a xs, x = .ref a ∧ SqT K H1 a xs ∧ ∀ p, H1 p = none → Q (.ref p) (upd H1 p (.tup xs.reverse))
theorem pe_revT (he : PE X e te) : PE X (.Subscript e (.Slice none none (some (.UnaryOp .USub (.Constant (.int 1) k p1) p2)) p3) pos) (tRevT X.K te) := ⟨fun pins s σ H Q I h => by
  refine Subscript_ (thn (he.run pins s σ H _ I h) fun v s1 ⟨x, H1, I1, r1, a, xs, ex, hx, q⟩ => ?_)
  subst ex
  cases r1
  have hst : PO X (some (.UnaryOp .USub (.Constant (.int 1) k p1) p2)) (tPart (tUn (rU fun i => .int (-i)) (tC (.int 1)))) := po_some (pe_un un_neg pe_int)
  refine wpAny_Slice (thn (po_none.run pins s1 σ H1 (fun o H2 => o = none ∧ H2 = H1) I1 ⟨rfl, rfl⟩) fun v1 s2 ⟨o1, H2, I2, g1, eo1, eh1⟩ => ?_)
  subst eo1 eh1
  refine thn (po_none.run pins s2 σ H2 (fun o H3 => o = none ∧ H3 = H2) I2 ⟨rfl, rfl⟩) fun v2 s3 ⟨o2, H3, I3, g2, eo2, eh2⟩ => ?_
  subst eo2 eh2
  refine thn (hst.run pins s3 σ H3 (fun o H4 => o = some (-1) ∧ H4 = H3) I3 ⟨1, rfl, -1, rfl, rfl, rfl⟩) fun v3 s4 ⟨o3, H4, I4, g3, eo3, eh3⟩ => ?_
  subst eo3 eh3
  cases g1
  cases g2
  have I5 : Inv X pins σ H4 { s4 with heap := s4.heap.push { cls := .type "slice", data := .fields #[.none, .none, v3] } } := I4.kept (t' := s4.toks) fun b ob q => Heap.get?_push_of_some _ q
  obtain ⟨its, r, ht, hz⟩ := I5.tuple hx
  have hl := r.length
  show wpAny (model X.prog X.w) X.A (subscriptTail e (.Slice none none (some (.UnaryOp .USub (.Constant (.int 1) k p1) p2)) p3) (.ref a) (.ref s4.heap.objs.size)) (EP X pins σ Q) X.xe { s4 with heap := s4.heap.push { cls := .type "slice", data := .fields #[.none, .none, v3] } }
  refine tail_any (ops := [.ref a, .ref s4.heap.objs.size]) ht.typeIs slot_tuple_getitem.lookup (get_tup_rev ht (Heap.IsSliceOf.new _ _ _ v3) g3 (by rw [List.size_toArray, ← hl]; exact hz) ?_) (by with_unfolding_all rfl)
  exact ⟨.ref _, _, I5.laid (t' := s4.toks) (o := .tup xs.reverse) (fun b ob q => Heap.get?_push_of_some _ q) (Nat.le_refl _) ⟨by rw [List.length_reverse]; exact hz, _, r.reverse, IsTup.new _ _⟩, rfl, q _ (I5.hok.fresh (Nat.le_refl _))⟩⟩
theorem snd_rev (ha : Snd Φ X e x) : Snd Φ X (.Subscript e (.Slice none none (some (.UnaryOp .USub (.Constant (.int 1) k p1) p2)) p3) pos) (.rev x) := .mk fun env r env' h S σ H ok Q q => by
  simp only [ev] at h
  obtain ⟨r1, en1, e1, h⟩ := ev_inv1 h
  cases e2 : r1.val en1 with
  | none => rw [e2] at h; cases h
  | some d =>
    rw [e2] at h
    cases d <;> first | cases h | skip
    · refine any_of (pe_revL pe_any) (ha env r1 _ e1 S σ H ok _ fun v S1 H1 P => ?_)
      obtain ⟨a, vs, rfl, g1, g2⟩ := P.rv.repC P.ok e2
      exact ⟨a, vs, rfl, g1, fun p hp => q _ _ _ ((Post.lst P.ok hp g2.reverse).after P.fw)⟩
    · refine any_of (pe_revT pe_any) (ha env r1 _ e1 S σ H ok _ fun v S1 H1 P => ?_)
      obtain ⟨a, vs, rfl, g1, g2⟩ := Rep.tup_inv (P.rv.repC P.ok e2)
      exact ⟨a, vs, rfl, er_full.sqT g1, fun p hp => q _ _ _ ((Post.tup P.ok hp g2.reverse).after P.fw)⟩
/-! ### calls by keyword -/
def AnyK (X : Cx) (kws : List Keyword) : TA := fun σ H Q => ∀ (pos : Pos) (pins : List (Addr × Obj)) (s : Shared), Inv X pins σ H s → wpAny (model X.prog X.w) X.A (evalAll ((backToKw pos (keywordEach kws X.env)).map (·.2))) (AP X pins σ Q) X.xe s
theorem pk_any {kws : List Keyword} : PK X kws (AnyK X kws) := ⟨fun pos pins s σ H Q I h => h pos pins s I⟩
/-- how a def's keywords bind: in the parameters' order behind what is given by place -/
def HasK (Φ : Fns) (P : Program) (w : World) (K : PySem.W.Frag) (mg : Str → Option Value) (base : Heap) (k : Nat) (x : Str) (ps ks : List Str) : Prop :=
  ∃ f fd, FnOk P w K mg base CX0 k f fd ps (spD K (Φ x)) ∧ mg x = some (.ref f) ∧ PySem.W.keepIn K (.ref f) = true ∧ KBinds K fd ps ks (fun us ws => us ++ ws) (fun vs zs => vs ++ zs)
theorem pe_callK0 {kk : Nat} {f : Addr} {fd : FuncData} {ps ks : List Str} {sp : Sp} {E : XK} {y : Str} {kws : List Keyword} {tk : TA} {CX : CXT} {g : List Value → List Value → List Value} {gV : List V → List V → List V} (F : FnOk X.prog X.w X.K X.mg X.base CX kk f fd ps sp) (hr : Room kk X.A) (hg : Gl X y) (hm : X.mg y = some (.ref f)) (hk : PySem.W.keepIn X.K (.ref f) = true) (hb : KBinds X.K fd ps ks g gV) (hx : Passes CX X E)
    (hkw : PK X kws tk) (hall : (backToKw pos (keywordEach kws X.env)).all (·.1.isSome) = true := by rfl) (hks : (backToKw pos (keywordEach kws X.env)).filterMap (·.1) = ks := by rfl) (hdb : (y == ("__debug__" : Str)) = false := by decide)
    (hpl : ((backTo pos (starEach [] X.env)).any (·.1) || (backToKw pos (keywordEach kws X.env)).any (·.1.isNone)) = false := by rfl) : PE X (.Call (.Name y p) [] kws pos) (fun σ H Q => tk σ H fun zs H1 => sp (gV [] zs) H1 Q E) := ⟨fun pins s σ H Q I h => by
  refine wpAny_Call_Name_kw (ld_glob I hg hm ?_ hdb)
  refine PySem.W.callWith_KW0 (h₀ := X.base) I.ok.mod.kin hk hall (thn (hkw.run pos pins s σ H _ I h) fun ws s1 ⟨zs, H1, I1, rz, q⟩ => ⟨I1.kIn, ?_⟩) hpl
  rw [hks]
  exact run_fnk (us := []) (vs := []) F hr hb hx I1 .nil rz q⟩
/-- keywords' values, as they are -/
structure SndK (Φ : Fns) (X : Cx) (kws : List Keyword) (xs : Xps) : Prop where
  run : ∀ env rs env', evR Φ xs env = some (rs, env') → ∀ (S : Addr → Prop) (σ : L2.St) (H : Hp), EnvOk X.K S σ H env →
  ∀ Q : List V → Hp → Prop, (∀ vs S' H', PostR X.K S H σ env rs env' vs S' H' → Q vs H') → AnyK X kws σ H Q
instance {Φ : Fns} {X : Cx} {kws : List Keyword} {xs : Xps} : CoeFun (SndK Φ X kws xs) fun _ => ∀ env rs env', evR Φ xs env = some (rs, env') → ∀ (S : Addr → Prop) (σ : L2.St) (H : Hp), EnvOk X.K S σ H env →
    ∀ Q : List V → Hp → Prop, (∀ vs S' H', PostR X.K S H σ env rs env' vs S' H' → Q vs H') → AnyK X kws σ H Q := ⟨SndK.run⟩
theorem sndK_one {nm : Option Str} {kpos : Pos} (he : Snd Φ X e x) : SndK Φ X [⟨nm, e, kpos⟩] (.cons x .nil) := .mk fun env rs env' h S σ H ok Q q => by
  simp only [evR] at h
  cases e1 : ev Φ x env with
  | none => rw [e1] at h; cases h
  | some p1 =>
    obtain ⟨r, en1⟩ := p1
    rw [e1] at h
    cases h
    intro pos pins s I
    refine (pk_cons pe_any pk_nil).run pos pins s σ H Q I (he env r _ e1 S σ H ok _ fun v S1 H1 P => q [v] S1 H1 ⟨P.fw, P.ok, .cons P.rv .nil, ?_, ?_⟩)
    · intro a ha
      cases r with
      | im d => cases ha
      | al i => cases ha
      | fr d =>
        obtain ⟨p, rfl, _⟩ := P.rv
        have ea : a = p := List.mem_singleton.mp ha
        rw [ea]
        exact P.new _ _ rfl rfl
    · cases r with
      | im d => exact .nil
      | al i => exact .nil
      | fr d => obtain ⟨p, rfl, _⟩ := P.rv; exact List.nodup_cons.mpr ⟨by simp, .nil⟩
theorem snd_callK0 {f : Str} {kk : Nat} {ps ks : List Str} {kws : List Keyword} (F : HasK Φ X.prog X.w X.K X.mg X.base kk f ps ks) (hr : Room kk X.A) (na : NoAl Φ) (hg : Gl X f) (ha : SndK Φ X kws xs) (hall : (backToKw pos (keywordEach kws X.env)).all (·.1.isSome) = true := by rfl) (hks : (backToKw pos (keywordEach kws X.env)).filterMap (·.1) = ks := by rfl) (hdb : (f == ("__debug__" : Str)) = false := by decide)
    (hpl : ((backTo pos (starEach [] X.env)).any (·.1) || (backToKw pos (keywordEach kws X.env)).any (·.1.isNone)) = false := by rfl) :
    Snd Φ X (.Call (.Name f p) [] kws pos) (.call f xs) := .mk fun env r env' h S σ H ok Q q => by
  obtain ⟨fa, fd, F1, F2, F3, F4⟩ := F
  refine any_of (pe_callK0 (E := E0) F1 hr hg F2 F3 F4 pass0 pk_any hall hks hdb hpl) ?_
  obtain ⟨rs, en1, ss, fin, e1, nd, e2, e3, rfl⟩ := ev_call_inv h
  refine ha env rs en1 e1 S σ H ok _ fun vs S1 H1 P => ?_
  refine ⟨S1, ss, r, fin, e3, args_ok P nd e2, fun i d z => ?_, fun v S2 H2 C => q _ _ _ (call_post P ok nd e2 C (na f ss r fin e3))⟩
  obtain ⟨_, _, _, _, _, _, z3⟩ := arg_ow P e2 z
  exact z3 rfl
section
variable {P : Program} {w : World} {K : PySem.W.Frag} {mg : Str → Option Value} {base : Heap}
theorem fns_at {tbl : List (Str × Dfn)} {x : Str} {d : Dfn} {n : Nat} (hd : tbl.lookup x = some d) : fns tbl (n + 1) x = d.run (fns tbl n) := by
  funext args
  simp only [fns, hd]
theorem hasK0 {tbl : List (Str × Dfn)} {x : Str} {ps ks : List Str} {f : Addr} {fd : FuncData} (hm : mg x = some (.ref f)) (hk : PySem.W.keepIn K (.ref f) = true) (hb : KBinds K fd ps ks (fun us ws => us ++ ws) (fun vs zs => vs ++ zs)) : HasK (fns tbl 0) P w K mg base 0 x ps ks :=
  ⟨f, fd, ⟨(fun vs H Q E h => by obtain ⟨S, args, r, fin, h1, _⟩ := h; cases h1), (fun A outer s H args us vs Q E _ _ _ _ h => by obtain ⟨S, args, r, fin, h1, _⟩ := h; cases h1)⟩, hm, hk, hb⟩
theorem hasKS {tbl : List (Str × Dfn)} {x : Str} {ps ks : List Str} {f : Addr} {fd : FuncData} {n : Nat} {d : Dfn} (hm : mg x = some (.ref f)) (hk : PySem.W.keepIn K (.ref f) = true) (hb : KBinds K fd ps ks (fun us ws => us ++ ws) (fun vs zs => vs ++ zs)) (hd : tbl.lookup x = some d)
    (h : FnOk P w K mg base CX0 (n + 1) f fd ps (spD K (d.run (fns tbl n)))) : HasK (fns tbl (n + 1)) P w K mg base (n + 1) x ps ks :=
  ⟨f, fd, by rw [fns_at hd]; exact h, hm, hk, hb⟩
end
/-- a slice's end, any expression -/
theorem sndO_any (h : Snd Φ X e x) : SndO Φ X (some e) x := .mk fun env r env' oi d h1 h2 h3 S σ H ok Q q pins s I => by
  rw [evalPart_some]
  refine thn ((pe_any).run pins s σ H (fun v H1 => ∃ o, optI d = some o ∧ Q o H1 ∧ ((d = .none ∧ v = .non) ∨ ∃ i, d = .int i ∧ v = .int i)) I (h env r env' h1 S σ H ok _ fun v S1 H1 P => ?_)) fun u s1 ⟨v, H1, I1, r1, o, g1, g2, g3⟩ => ?_
  · refine ⟨oi, h3, q _ _ P.fw P.ok, ?_⟩
    have rp := P.rv.rep P.ok h2
    cases rp with
    | non => exact .inl ⟨rfl, rfl⟩
    | int i => exact .inr ⟨i, rfl, rfl⟩
    | _ => cases h3
  · refine ⟨o, H1, I1, ?_, g2⟩
    rcases g3 with ⟨rfl, rfl⟩ | ⟨i, rfl, rfl⟩
    · cases g1
      cases r1
      exact .none
    · cases g1
      obtain ⟨t, rfl⟩ := r1
      exact .int i t
/-- an expression that is never come to -/
theorem snd_dis {ks vs : Xps} : Snd Φ X e (.disp ks vs) := .mk fun env r env' h => by cases h
/-- a constant of the module -/
theorem snd_gc {y : Str} {v : V} {d : D} (h : ∃ u, X.mg y = some u ∧ RelV v u) (hg : Gl X y) (hd : Rep X.K (fun _ => none) v d) (l : leaf d = true) (hdb : (y == ("__debug__" : Str)) = false := by decide) : Snd Φ X (.Name y pos) (.c d) := by
  obtain ⟨u, h1, h2⟩ := h
  exact snd_glob hg h1 h2 hd l hdb
/-- the law's own promise -/
theorem spD_of {K : PySem.W.Frag} {H : Hp} {a : Addr} {ns : List Int} {g : List Sl → Option (R × List Sl)} (hS : SqL K H a (ns.map V.int)) (h : ∃ fin, g [.im (.list (ns.map .int))] = some (.im (.bool true), fin)) : spD K g [.ref a] H (fun v _ => v = .bl true) fun _ _ _ => False := by
  obtain ⟨fin, h⟩ := h
  have e : er (fun _ => False) H = H := by
    funext b
    exact er_of fun z => z
  refine ⟨fun _ => False, _, _, fin, h, ⟨rfl, fun _ z => z.elim, fun i d z => ?_, fun i k d z => ?_, fun i j k l d e p z => ?_⟩, fun i d z => ?_, fun v S2 H2 P => Rep.bl_inv P.rv⟩
  · cases i with
    | zero =>
      cases z
      exact ⟨_, rfl, .lst (by rw [e]; exact hS) (ints_reps ns)⟩
    | succ i => simp at z
  · cases i with
    | zero => cases z
    | succ i => simp at z
  · cases i with
    | zero => cases z
    | succ i => simp at z
  · cases i with
    | zero => cases z
    | succ i => simp at z
theorem u65 {k : Nat} {A : Around} (r : Room k A) : A.units + 65 < cLine := by have := r.un; omega
theorem u1 {k : Nat} {A : Around} (r : Room k A) : A.units + 1 < cLine := by have := r.un; omega
end
end DI

set_option maxRecDepth 100000
set_option maxHeartbeats 4000000
namespace DI.Law
open PySem PySem.Spec PyProof.Rows L2 DI
def topS (i : Nat) : Stmt := PySem.Challenge.pw_sameloops_k00_wirings_or_none.main.body.getD i (.Pass ⟨0, 0, 0, 0⟩)
abbrev s_is_name : Stmt := topS 3
def n_is_name : List Str := ["thing", "sign"]
theorem sc_is_name : FnScope n_is_name ["thing"] (defScope s_is_name) := ⟨rfl, rfl, rfl, by decide +kernel, rfl, by decide +kernel, by decide +kernel⟩
def d_is_name : Dfn := ⟨1, 2, (.cons (.iff (.orX (.notX (.isi (.v 0) ["str"])) (.orX (.cmp .Eq (.v 0) (.c (.str ""))) (.cmp .NotIn (.ix (.v 0) (.c (.int 0))) (.c (.str "abcdefghijklmnopqrstuvwxyz"))))) (.cons (.ret (.c (.bool false))) .nil) .nil) (.cons (.ret (.bi .all (.cons (.lc [1] (.x (.v 0)) (.n 1) (.c (.bool true)) (.cmp .In (.v 1) (.c (.str "abcdefghijklmnopqrstuvwxyz0123456789.")))) .nil))) .nil))⟩
abbrev s_rises : Stmt := topS 4
def n_rises : List Str := ["row", "one", "other"]
theorem sc_rises : FnScope n_rises ["row"] (defScope s_rises) := ⟨rfl, rfl, rfl, by decide +kernel, rfl, by decide +kernel, by decide +kernel⟩
def d_rises : Dfn := ⟨1, 3, (.cons (.ret (.bi .all (.cons (.lc [1, 2] (.z (.v 0) (.sl (.v 0) (.c (.int 1)) .nil)) (.t [1, 2]) (.c (.bool true)) (.cmp .Lt (.v 1) (.v 2))) .nil))) .nil)⟩
abbrev s_is_wiring : Stmt := topS 5
def n_is_wiring : List Str := ["thing", "row", "part"]
theorem sc_is_wiring : FnScope n_is_wiring ["thing"] (defScope s_is_wiring) := ⟨rfl, rfl, rfl, by decide +kernel, rfl, by decide +kernel, by decide +kernel⟩
def d_is_wiring : Dfn := ⟨1, 3, (.cons (.iff (.notX (.isi (.v 0) ["tuple"])) (.cons (.ret (.c (.bool false))) .nil) .nil) (.cons (.for (.x (.v 0)) (.n 1) (.cons (.iff (.orX (.notX (.isi (.v 1) ["tuple"])) (.orX (.cmp .NotEq (.bi .len (.cons (.v 1) .nil)) (.c (.int 3))) (.notX (.bi .all (.cons (.lc [2] (.x (.v 1)) (.n 2) (.c (.bool true)) (.call "is_name" (.cons (.v 2) .nil))) .nil))))) (.cons (.ret (.c (.bool false))) .nil) .nil) .nil)) (.cons (.ret (.call "rises" (.cons (.lc [1] (.x (.v 0)) (.n 1) (.c (.bool true)) (.ix (.v 1) (.c (.int 0)))) .nil))) .nil)))⟩
abbrev s_l_box : Stmt := topS 7
def n_l_box : List Str := ["_law_script", "_law_k", "_law_cell"]
theorem sc_l_box : FnScope n_l_box ["_law_script", "_law_k"] (defScope s_l_box) := ⟨rfl, rfl, rfl, by decide +kernel, rfl, by decide +kernel, by decide +kernel⟩
def d_l_box : Dfn := ⟨2, 3, (.cons (.set 2 (.ite (.cmp .Lt (.v 1) (.bi .len (.cons (.v 0) .nil))) (.ix (.v 0) (.v 1)) (.c (.int 0)))) (.cons (.ret (.lst (.cons (.bin .Mult (.bi .abs (.cons (.v 2) .nil)) (.bi .int (.cons (.cmp .GtE (.bi .abs (.cons (.v 2) .nil)) (.bin .Pow (.c (.int 10)) (.c (.int 18)))) .nil))) (.cons (.bin .Add (.bin .Add (.bin .Mod (.bi .int (.cons (.v 2) .nil)) (.c (.int 2305843009213693951))) (.bin .Mult (.c (.int 39373)) (.v 1))) (.c (.int 331))) (.cons (.c (.int 0)) .nil))))) .nil))⟩
abbrev s_l_take : Stmt := topS 8
def n_l_take : List Str := ["_law_box_here", "_law_below", "_law_digit_so", "_law_once", "_law_far", "_law_twice"]
theorem sc_l_take : FnScope n_l_take ["_law_box_here", "_law_below"] (defScope s_l_take) := ⟨rfl, rfl, rfl, by decide +kernel, rfl, by decide +kernel, by decide +kernel⟩
def d_l_take : Dfn := ⟨2, 6, (.cons (.iff (.cmp .Gt (.ix (.v 0) (.c (.int 0))) (.c (.int 0))) (.cons (.set 2 (.bin .Mod (.bi .int (.cons (.ix (.v 0) (.c (.int 0))) .nil)) (.v 1))) (.cons (.setIx 0 (.c (.int 0)) (.bin .FloorDiv (.ix (.v 0) (.c (.int 0))) (.v 1))) (.cons (.ret (.v 2)) .nil))) .nil) (.cons (.setIx 0 (.c (.int 2)) (.bin .Add (.ix (.v 0) (.c (.int 2))) (.c (.int 1)))) (.cons (.set 3 (.bin .Mod (.bi .int (.cons (.bin .Mult (.bin .Add (.ix (.v 0) (.c (.int 1))) (.bin .Mult (.c (.int 48271)) (.ix (.v 0) (.c (.int 2))))) (.bin .Add (.c (.int 39373)) (.ix (.v 0) (.c (.int 2))))) .nil)) (.c (.int 2147483647)))) (.cons (.set 4 (.bin .Add (.bin .Mod (.bi .int (.cons (.v 3) .nil)) (.c (.int 40009))) (.c (.int 7)))) (.cons (.set 5 (.bin .Mod (.bi .int (.cons (.bin .Mult (.bin .Add (.bin .Add (.v 3) (.ix (.v 0) (.c (.int 2)))) (.bin .FloorDiv (.ix (.v 0) (.c (.int 1))) (.c (.int 1000003)))) (.v 4)) .nil)) (.c (.int 2147483629)))) (.cons (.ret (.bin .Mod (.bi .int (.cons (.bin .FloorDiv (.bin .Mod (.bi .int (.cons (.bin .Add (.bin .Mult (.v 5) (.c (.int 48271))) (.v 3)) .nil)) (.c (.int 2147483587))) (.c (.int 64))) .nil)) (.v 1))) .nil))))))⟩
abbrev s_l_cells : Stmt := topS 9
def n_l_cells : List Str := ["_law_script", "_law_most", "_law_cells_here", "_law_k", "_law_cell", "_law_at_so"]
theorem sc_l_cells : FnScope n_l_cells ["_law_script", "_law_most"] (defScope s_l_cells) := ⟨rfl, rfl, rfl, by decide +kernel, rfl, by decide +kernel, by decide +kernel⟩
def d_l_cells : Dfn := ⟨2, 6, (.cons (.set 2 (.orX (.bi .list (.cons (.sl (.v 0) .nil (.v 1)) .nil)) (.lst (.cons (.c (.int 0)) .nil)))) (.cons (.for (.e (.sl (.v 0) (.v 1) (.c (.int 63)))) (.t [3, 4]) (.cons (.set 5 (.bin .Mod (.bi .int (.cons (.v 3) .nil)) (.v 1))) (.cons (.setIx 2 (.v 5) (.bin .Add (.ix (.v 2) (.v 5)) (.bin .Mult (.v 4) (.bin .Add (.v 3) (.c (.int 2)))))) .nil))) (.cons (.ret (.v 2)) .nil)))⟩
abbrev s_l_of : Stmt := topS 10
def n_l_of : List Str := ["_law_box_here", "_law_some"]
theorem sc_l_of : FnScope n_l_of ["_law_box_here", "_law_some"] (defScope s_l_of) := ⟨rfl, rfl, rfl, by decide +kernel, rfl, by decide +kernel, by decide +kernel⟩
def d_l_of : Dfn := ⟨2, 2, (.cons (.ret (.ix (.v 1) (.call "_law_take" (.cons (.v 0) (.cons (.bi .len (.cons (.v 1) .nil)) .nil))))) .nil)⟩
abbrev s_l_pick : Stmt := topS 11
def n_l_pick : List Str := ["_law_box_here", "_law_pool", "_law_size_so", "_law_rest", "_law_some", "_law_turn"]
theorem sc_l_pick : FnScope n_l_pick ["_law_box_here", "_law_pool", "_law_size_so"] (defScope s_l_pick) := ⟨rfl, rfl, rfl, by decide +kernel, rfl, by decide +kernel, by decide +kernel⟩
def d_l_pick : Dfn := ⟨3, 6, (.cons (.par [3, 4] (.cons (.bi .list (.cons (.v 1) .nil)) (.cons (.lst .nil) .nil))) (.cons (.for (.r1 (.bi .min (.cons (.v 2) (.cons (.bi .len (.cons (.v 3) .nil)) .nil)))) (.n 5) (.cons (.ex (.me .append 4 (.cons (.me .popAt 3 (.cons (.call "_law_take" (.cons (.v 0) (.cons (.bi .len (.cons (.v 3) .nil)) .nil))) .nil)) .nil))) .nil)) (.cons (.ret (.v 4)) .nil)))⟩
abbrev s_l_same : Stmt := topS 12
def n_l_same : List Str := ["_law_got", "_law_due", "_law_mine", "_law_its"]
theorem sc_l_same : FnScope n_l_same ["_law_got", "_law_due"] (defScope s_l_same) := ⟨rfl, rfl, rfl, by decide +kernel, rfl, by decide +kernel, by decide +kernel⟩
def d_l_same : Dfn := ⟨2, 4, (.cons (.iff (.isi (.v 1) ["list", "tuple"]) (.cons (.iff (.orX (.cmp .NotEq (.isi (.v 0) ["list"]) (.isi (.v 1) ["list"])) (.cmp .NotEq (.isi (.v 0) ["tuple"]) (.isi (.v 1) ["tuple"]))) (.cons (.ret (.c (.bool false))) .nil) .nil) (.cons (.ret (.andX (.cmp .Eq (.bi .len (.cons (.v 0) .nil)) (.bi .len (.cons (.v 1) .nil))) (.bi .all (.cons (.lc [2, 3] (.z (.v 0) (.v 1)) (.t [2, 3]) (.c (.bool true)) (.call "_law_same" (.cons (.v 2) (.cons (.v 3) .nil)))) .nil)))) .nil)) .nil) (.cons (.iff (.orX (.cmp .Is (.v 1) (.c .none)) (.isi (.v 1) ["bool", "str"])) (.cons (.ret (.andX (.cmp .Eq (.v 0) (.v 1)) (.andX (.cmp .Eq (.isi (.v 0) ["bool"]) (.isi (.v 1) ["bool"])) (.cmp .Eq (.cmp .Is (.v 0) (.c .none)) (.cmp .Is (.v 1) (.c .none)))))) .nil) .nil) (.cons (.ret (.andX (.isi (.v 0) ["int"]) (.andX (.notX (.isi (.v 0) ["bool"])) (.cmp .Eq (.v 0) (.v 1))))) .nil)))⟩
abbrev s_l_web : Stmt := topS 13
def n_l_web : List Str := ["_law_box_here", "_law_most", "_law_spots", "_law_pool", "_law_tags", "_law_found", "_law_tag", "_law_here", "_law_there"]
theorem sc_l_web : FnScope n_l_web ["_law_box_here", "_law_most", "_law_spots"] (defScope s_l_web) := ⟨rfl, rfl, rfl, by decide +kernel, rfl, by decide +kernel, by decide +kernel⟩
def d_l_web : Dfn := ⟨3, 9, (.cons (.set 3 (.call "_law_pick" (.cons (.v 0) (.cons (.lst (.cons (.c (.str "a")) (.cons (.c (.str "b2")) (.cons (.c (.str "c.x")) (.cons (.c (.str "k")) (.cons (.c (.str "m")) (.cons (.c (.str "n")) (.cons (.c (.str "q")) (.cons (.c (.str "s")) (.cons (.c (.str "t")) (.cons (.c (.str "z")) .nil))))))))))) (.cons (.bi .max (.cons (.c (.int 1)) (.cons (.bin .Add (.c (.int 1)) (.call "_law_take" (.cons (.v 0) (.cons (.v 2) .nil)))) .nil))) .nil))))) (.cons (.set 4 (.bi .sorted (.cons (.call "_law_pick" (.cons (.v 0) (.cons (.lst (.cons (.c (.str "a")) (.cons (.c (.str "c")) (.cons (.c (.str "d2")) (.cons (.c (.str "e")) (.cons (.c (.str "f.f")) (.cons (.c (.str "k")) (.cons (.c (.str "l")) (.cons (.c (.str "n")) (.cons (.c (.str "p")) (.cons (.c (.str "r1")) (.cons (.c (.str "s")) (.cons (.c (.str "u")) (.cons (.c (.str "w")) (.cons (.c (.str "y")) .nil))))))))))))))) (.cons (.v 1) .nil)))) .nil))) (.cons (.set 5 (.lst .nil)) (.cons (.for (.x (.sl (.v 4) .nil (.bin .Add (.c (.int 1)) (.call "_law_take" (.cons (.v 0) (.cons (.v 1) .nil)))))) (.n 6) (.cons (.par [7, 8] (.cons (.call "_law_of" (.cons (.v 0) (.cons (.v 3) .nil))) (.cons (.call "_law_of" (.cons (.v 0) (.cons (.v 3) .nil))) .nil))) (.cons (.iff (.andX (.cmp .Eq (.v 7) (.v 8)) (.cmp .Gt (.call "_law_take" (.cons (.v 0) (.cons (.c (.int 4)) .nil))) (.c (.int 0)))) (.cons (.set 8 (.call "_law_of" (.cons (.v 0) (.cons (.v 3) .nil)))) .nil) .nil) (.cons (.ex (.me .append 5 (.cons (.tup (.cons (.v 6) (.cons (.v 7) (.cons (.v 8) .nil)))) .nil))) .nil)))) (.cons (.ret (.bi .tuple (.cons (.v 5) .nil))) .nil)))))⟩
abbrev s_l_is_mark : Stmt := topS 14
def n_l_is_mark : List Str := ["_law_matter", "_law_sign"]
theorem sc_l_is_mark : FnScope n_l_is_mark ["_law_matter"] (defScope s_l_is_mark) := ⟨rfl, rfl, rfl, by decide +kernel, rfl, by decide +kernel, by decide +kernel⟩
def d_l_is_mark : Dfn := ⟨1, 2, (.cons (.iff (.orX (.notX (.isi (.v 0) ["str"])) (.orX (.cmp .Eq (.v 0) (.c (.str ""))) (.cmp .NotIn (.ix (.v 0) (.c (.int 0))) (.c (.str "abcdefghijklmnopqrstuvwxyz"))))) (.cons (.ret (.c (.bool false))) .nil) .nil) (.cons (.ret (.cmp .Eq (.lc [1] (.x (.v 0)) (.n 1) (.cmp .NotIn (.v 1) (.c (.str "abcdefghijklmnopqrstuvwxyz0123456789."))) (.v 1)) (.lst .nil))) .nil))⟩
abbrev s_l_is_web : Stmt := topS 15
def n_l_is_web : List Str := ["_law_matter", "_law_row", "_law_k", "_law_tag"]
theorem sc_l_is_web : FnScope n_l_is_web ["_law_matter"] (defScope s_l_is_web) := ⟨rfl, rfl, rfl, by decide +kernel, rfl, by decide +kernel, by decide +kernel⟩
def d_l_is_web : Dfn := ⟨1, 4, (.cons (.iff (.notX (.isi (.v 0) ["tuple"])) (.cons (.ret (.c (.bool false))) .nil) .nil) (.cons (.for (.x (.v 0)) (.n 1) (.cons (.iff (.orX (.notX (.isi (.v 1) ["tuple"])) (.orX (.cmp .NotEq (.bi .len (.cons (.v 1) .nil)) (.c (.int 3))) (.cmp .NotEq (.lc [3] (.x (.v 1)) (.n 3) (.notX (.call "_law_is_mark" (.cons (.v 3) .nil))) (.v 3)) (.lst .nil)))) (.cons (.ret (.c (.bool false))) .nil) .nil) .nil)) (.cons (.ret (.cmp .Eq (.lc [2] (.r2 (.c (.int 1)) (.bi .len (.cons (.v 0) .nil))) (.n 2) (.notX (.cmp .Lt (.ix (.ix (.v 0) (.bin .Sub (.v 2) (.c (.int 1)))) (.c (.int 0))) (.ix (.ix (.v 0) (.v 2)) (.c (.int 0))))) (.v 2)) (.lst .nil))) .nil)))⟩
abbrev s_l_spoilt : Stmt := topS 16
def n_l_spoilt : List Str := ["_law_box_here", "_law_matter", "_law_pool", "_law_deep", "_law_k", "_law_way_so"]
theorem sc_l_spoilt : FnScope n_l_spoilt ["_law_box_here", "_law_matter", "_law_pool", "_law_deep"] (defScope s_l_spoilt) := ⟨rfl, rfl, rfl, by decide +kernel, rfl, by decide +kernel, by decide +kernel⟩
def d_l_spoilt : Dfn := ⟨4, 6, (.cons (.iff (.orX (.cmp .Eq (.v 3) (.c (.int 0))) (.orX (.notX (.isi (.v 1) ["tuple"])) (.orX (.cmp .Eq (.bi .len (.cons (.v 1) .nil)) (.c (.int 0))) (.cmp .Eq (.call "_law_take" (.cons (.v 0) (.cons (.c (.int 6)) .nil))) (.c (.int 0)))))) (.cons (.ret (.call "_law_of" (.cons (.v 0) (.cons (.v 2) .nil)))) .nil) .nil) (.cons (.par [4, 5] (.cons (.call "_law_take" (.cons (.v 0) (.cons (.bi .len (.cons (.v 1) .nil)) .nil))) (.cons (.call "_law_take" (.cons (.v 0) (.cons (.c (.int 9)) .nil))) .nil))) (.cons (.iff (.cmp .Eq (.v 5) (.c (.int 0))) (.cons (.ret (.bin .Add (.sl (.v 1) .nil (.v 4)) (.sl (.v 1) (.bin .Add (.v 4) (.c (.int 1))) .nil))) .nil) .nil) (.cons (.iff (.cmp .Eq (.v 5) (.c (.int 1))) (.cons (.ret (.bin .Add (.bin .Add (.sl (.v 1) .nil (.v 4)) (.tup (.cons (.ix (.v 1) (.v 4)) .nil))) (.sl (.v 1) (.v 4) .nil))) .nil) .nil) (.cons (.iff (.cmp .Eq (.v 5) (.c (.int 2))) (.cons (.ret (.rev (.v 1))) .nil) .nil) (.cons (.iff (.cmp .Eq (.v 5) (.c (.int 3))) (.cons (.ret (.bi .list (.cons (.v 1) .nil))) .nil) .nil) (.cons (.ret (.bin .Add (.bin .Add (.sl (.v 1) .nil (.v 4)) (.tup (.cons (.call "_law_spoilt" (.cons (.v 0) (.cons (.ix (.v 1) (.v 4)) (.cons (.v 2) (.cons (.bin .Sub (.v 3) (.c (.int 1))) .nil))))) .nil))) (.sl (.v 1) (.bin .Add (.v 4) (.c (.int 1))) .nil))) .nil)))))))⟩
abbrev s_l_hand_right : Stmt := topS 17
def n_l_hand_right : List Str := ["_law_deep", "_law_turn", "_law_some", "_law_bad", "_law_own"]
theorem sc_l_hand_right : FnScope n_l_hand_right [] (defScope s_l_hand_right) := ⟨rfl, rfl, rfl, by decide +kernel, rfl, by decide +kernel, by decide +kernel⟩
def d_l_hand_right : Dfn := ⟨0, 5, (.cons (.set 0 (.c (.int 7))) (.cons (.for (.r1 (.c (.int 10))) (.n 1) (.cons (.set 0 (.ite (.cmp .Lt (.v 1) (.c (.int 5))) (.tup (.cons (.v 0) .nil)) (.lst (.cons (.v 0) .nil)))) .nil)) (.cons (.set 2 (.lst (.cons (.tup .nil) (.cons (.tup (.cons (.tup (.cons (.c (.str "a")) (.cons (.c (.str "a")) (.cons (.c (.str "a")) .nil)))) .nil)) (.cons (.tup (.cons (.tup (.cons (.c (.str "a")) (.cons (.c (.str "n")) (.cons (.c (.str "m")) .nil)))) (.cons (.tup (.cons (.c (.str "b")) (.cons (.c (.str "n")) (.cons (.c (.str "m")) .nil)))) .nil))) (.cons (.tup (.cons (.tup (.cons (.c (.str "a.1")) (.cons (.c (.str "n..")) (.cons (.c (.str "m9")) .nil)))) (.cons (.tup (.cons (.c (.str "a1")) (.cons (.c (.str "z")) (.cons (.c (.str "z")) .nil)))) .nil))) .nil)))))) (.cons (.set 3 (.lst (.cons (.tup (.cons (.tup (.cons (.c (.str "b")) (.cons (.c (.str "n")) (.cons (.c (.str "m")) .nil)))) (.cons (.tup (.cons (.c (.str "a")) (.cons (.c (.str "n")) (.cons (.c (.str "m")) .nil)))) .nil))) (.cons (.tup (.cons (.tup (.cons (.c (.str "a")) (.cons (.c (.str "n")) (.cons (.c (.str "m")) .nil)))) (.cons (.tup (.cons (.c (.str "a")) (.cons (.c (.str "m")) (.cons (.c (.str "k")) .nil)))) .nil))) (.cons (.tup (.cons (.tup (.cons (.c (.str "a")) (.cons (.c (.str "n")) .nil))) .nil)) .nil))))) (.cons (.ex (.me .append 3 (.cons (.tup (.cons (.tup (.cons (.c (.str "a")) (.cons (.c (.str "n")) (.cons (.c (.str "m")) (.cons (.c (.str "k")) .nil))))) .nil)) .nil))) (.cons (.set 3 (.bin .Add (.v 3) (.lst (.cons (.tup (.cons (.tup (.cons (.c (.str "A")) (.cons (.c (.str "n")) (.cons (.c (.str "m")) .nil)))) .nil)) (.cons (.tup (.cons (.tup (.cons (.c (.str "a")) (.cons (.c (.str "1")) (.cons (.c (.str "m")) .nil)))) .nil)) (.cons (.tup (.cons (.tup (.cons (.c (.str "a")) (.cons (.c (.str "n")) (.cons (.c (.str "")) .nil)))) .nil)) (.cons (.tup (.cons (.tup (.cons (.c (.str "a")) (.cons (.c (.str "n")) (.cons (.c (.str "m_")) .nil)))) .nil)) (.cons (.tup (.cons (.tup (.cons (.c (.str "abc-")) (.cons (.c (.str "n")) (.cons (.c (.str "m")) .nil)))) .nil)) .nil)))))))) (.cons (.set 3 (.bin .Add (.v 3) (.lst (.cons (.lst (.cons (.tup (.cons (.c (.str "a")) (.cons (.c (.str "n")) (.cons (.c (.str "m")) .nil)))) .nil)) (.cons (.tup (.cons (.lst (.cons (.c (.str "a")) (.cons (.c (.str "n")) (.cons (.c (.str "m")) .nil)))) .nil)) (.cons (.tup (.cons (.c (.str "a")) (.cons (.c (.str "n")) (.cons (.c (.str "m")) .nil)))) (.cons (.tup (.cons (.tup (.cons (.c (.str "a")) (.cons (.c (.str "n")) (.cons (.c (.int 3)) .nil)))) .nil)) (.cons (.tup (.cons (.tup (.cons (.c (.str "a")) (.cons (.c .none) (.cons (.c (.str "m")) .nil)))) .nil)) .nil)))))))) (.cons (.set 3 (.bin .Add (.v 3) (.lst (.cons (.c .none) (.cons (.c (.int 0)) (.cons (.c (.str "")) .nil)))))) (.cons (.set 3 (.bin .Add (.v 3) (.lst (.cons (.tup (.cons (.tup (.cons (.c (.str "aB")) (.cons (.c (.str "n")) (.cons (.c (.str "m")) .nil)))) .nil)) (.cons (.tup (.cons (.tup (.cons (.c (.str "a")) (.cons (.c (.str "nM")) (.cons (.c (.str "m")) .nil)))) .nil)) (.cons (.tup (.cons (.tup (.cons (.c (.str "a")) (.cons (.c (.str "n")) (.cons (.c (.str "a b")) .nil)))) .nil)) (.cons (.tup (.cons (.tup (.cons (.c (.str "a")) (.cons (.c (.str "n")) (.cons (.c (.str "m\n")) .nil)))) .nil)) .nil))))))) (.cons (.set 3 (.bin .Add (.v 3) (.lst (.cons (.c (.str "a")) (.cons (.c (.bool true)) (.cons (.lst .nil) (.cons (.tup (.cons (.tup .nil) .nil)) (.cons (.v 0) (.cons (.tup (.cons (.v 0) .nil)) (.cons (.tup (.cons (.tup (.cons (.c (.str "a")) (.cons (.c (.str "n")) (.cons (.v 0) .nil)))) .nil)) (.cons (.tup (.cons (.tup (.cons (.c (.str "a")) (.cons (.c (.str "n")) (.cons (.c (.str "m")) .nil)))) (.cons (.c .none) .nil))) .nil))))))))))) (.cons (.iff (.orX (.notX (.call "_law_same" (.cons (.lc [4] (.x (.v 2)) (.n 4) (.c (.bool true)) (.call "is_wiring" (.cons (.v 4) .nil))) (.cons (.rep (.cons (.c (.bool true)) .nil) (.c (.int 4))) .nil)))) (.cmp .IsNot (.call "is_wiring" (.cons (.ix (.v 2) (.c (.int 1))) .nil)) (.c (.bool true)))) (.cons (.ret (.c (.bool false))) .nil) .nil) (.cons (.ret (.call "_law_same" (.cons (.lc [4] (.x (.v 3)) (.n 4) (.c (.bool true)) (.call "is_wiring" (.cons (.v 4) .nil))) (.cons (.rep (.cons (.c (.bool false)) .nil) (.bi .len (.cons (.v 3) .nil))) .nil)))) .nil))))))))))))⟩
abbrev s_l_right : Stmt := topS 18
def n_l_right : List Str := ["_law_box_here", "_law_turn", "_law_web_here", "_law_pool", "_law_part"]
theorem sc_l_right : FnScope n_l_right ["_law_box_here"] (defScope s_l_right) := ⟨rfl, rfl, rfl, by decide +kernel, rfl, by decide +kernel, by decide +kernel⟩
def d_l_right : Dfn := ⟨1, 5, (.cons (.iff (.notX (.call "_law_hand_right" .nil)) (.cons (.ret (.c (.bool false))) .nil) .nil) (.cons (.for (.r1 (.c (.int 14))) (.n 1) (.cons (.set 2 (.call "_law_web" (.cons (.v 0) (.cons (.c (.int 7)) (.cons (.c (.int 5)) .nil))))) (.cons (.iff (.cmp .IsNot (.call "is_wiring" (.cons (.v 2) .nil)) (.c (.bool true))) (.cons (.ret (.c (.bool false))) .nil) .nil) (.cons (.set 3 (.lst (.cons (.c (.int 0)) (.cons (.c (.int 1)) (.cons (.c (.bool true)) (.cons (.c .none) (.cons (.c (.str "")) (.cons (.c (.str "a")) (.cons (.c (.str "zz")) (.cons (.c (.str "1")) (.cons (.c (.str "a b")) (.cons (.c (.str "A")) (.cons (.c (.str "ab1-")) (.cons (.c (.str "aa_")) (.cons (.tup .nil) (.cons (.lst .nil) (.cons (.tup (.cons (.c (.str "a")) .nil)) (.cons (.tup (.cons (.c (.str "a")) (.cons (.c (.str "n")) (.cons (.c (.str "m")) .nil)))) .nil)))))))))))))))))) (.cons (.set 3 (.bin .Add (.v 3) (.lst (.cons (.ix (.v 2) (.c (.int 0))) (.cons (.ix (.v 2) (.neg (.c (.int 1)))) (.cons (.ix (.ix (.v 2) (.c (.int 0))) (.c (.int 0))) (.cons (.ix (.ix (.v 2) (.neg (.c (.int 1)))) (.c (.int 0))) (.cons (.ix (.ix (.v 2) (.neg (.c (.int 1)))) (.c (.int 2))) .nil)))))))) (.cons (.set 4 (.call "_law_spoilt" (.cons (.v 0) (.cons (.v 2) (.cons (.v 3) (.cons (.c (.int 2)) .nil)))))) (.cons (.iff (.notX (.call "_law_same" (.cons (.call "is_wiring" (.cons (.v 4) .nil)) (.cons (.call "_law_is_web" (.cons (.v 4) .nil)) .nil)))) (.cons (.ret (.c (.bool false))) .nil) .nil) .nil))))))) (.cons (.ret (.c (.bool true))) .nil)))⟩
abbrev s_law : Stmt := topS 19
def n_law : List Str := ["_law_script", "_law_cells_here", "_law_k"]
theorem sc_law : FnScope n_law ["_law_script"] (defScope s_law) := ⟨rfl, rfl, rfl, by decide +kernel, rfl, by decide +kernel, by decide +kernel⟩
def d_law : Dfn := ⟨1, 3, (.cons (.set 1 (.call "_law_cells" (.cons (.v 0) (.cons (.c (.int 3)) .nil)))) (.cons (.ret (.bi .all (.cons (.lc [2] (.r1 (.bi .len (.cons (.v 1) .nil))) (.n 2) (.c (.bool true)) (.call "_law_right" (.cons (.call "_law_box" (.cons (.v 1) (.cons (.v 2) .nil))) .nil))) .nil))) .nil))⟩
def tbl : List (Str × Dfn) := [("is_name", d_is_name), ("rises", d_rises), ("is_wiring", d_is_wiring), ("_law_box", d_l_box), ("_law_take", d_l_take), ("_law_cells", d_l_cells), ("_law_of", d_l_of), ("_law_pick", d_l_pick), ("_law_same", d_l_same), ("_law_web", d_l_web), ("_law_is_mark", d_l_is_mark), ("_law_is_web", d_l_is_web), ("_law_spoilt", d_l_spoilt), ("_law_hand_right", d_l_hand_right), ("_law_right", d_l_right), ("law", d_law)]
structure Gs (mg : Str → Option Value) : Prop where
  g_abs : mg "abs" = none
  g_all : mg "all" = none
  g_bool : mg "bool" = none
  g_enumerate : mg "enumerate" = none
  g_int : mg "int" = none
  g_isinstance : mg "isinstance" = none
  g_len : mg "len" = none
  g_list : mg "list" = none
  g_max : mg "max" = none
  g_min : mg "min" = none
  g_range : mg "range" = none
  g_sorted : mg "sorted" = none
  g_str : mg "str" = none
  g_tuple : mg "tuple" = none
  g_zip : mg "zip" = none
  v_LETTERS : ∃ u, mg "LETTERS" = some u ∧ RelV (.str "abcdefghijklmnopqrstuvwxyz") u
  v_SIGNS : ∃ u, mg "SIGNS" = some u ∧ RelV (.str "abcdefghijklmnopqrstuvwxyz0123456789.") u
structure Cs (Φ : Fns) (P : Program) (w : World) (K : PySem.W.Frag) (mg : Str → Option Value) (base : Heap) (n : Nat) : Prop where
  c_is_name : HasG Φ P w K mg base n "is_name" ["thing"]
  c_rises : HasG Φ P w K mg base n "rises" ["row"]
  c_is_wiring : HasG Φ P w K mg base n "is_wiring" ["thing"]
  c_l_box : HasG Φ P w K mg base n "_law_box" ["_law_script", "_law_k"]
  c_l_take : HasG Φ P w K mg base n "_law_take" ["_law_box_here", "_law_below"]
  c_l_cells : HasG Φ P w K mg base n "_law_cells" ["_law_script", "_law_most"]
  c_l_of : HasG Φ P w K mg base n "_law_of" ["_law_box_here", "_law_some"]
  c_l_pick : HasG Φ P w K mg base n "_law_pick" ["_law_box_here", "_law_pool", "_law_size_so"]
  c_l_same : HasG Φ P w K mg base n "_law_same" ["_law_got", "_law_due"]
  c_l_web : HasG Φ P w K mg base n "_law_web" ["_law_box_here", "_law_most", "_law_spots"]
  c_l_is_mark : HasG Φ P w K mg base n "_law_is_mark" ["_law_matter"]
  c_l_is_web : HasG Φ P w K mg base n "_law_is_web" ["_law_matter"]
  c_l_spoilt : HasG Φ P w K mg base n "_law_spoilt" ["_law_box_here", "_law_matter", "_law_pool", "_law_deep"]
  c_l_hand_right : HasG Φ P w K mg base n "_law_hand_right" []
  c_l_right : HasG Φ P w K mg base n "_law_right" ["_law_box_here"]
  c_law : HasG Φ P w K mg base n "law" ["_law_script"]
  k_is_wiring : HasK Φ P w K mg base n "is_wiring" ["thing"] ["thing"]
section
variable {P : Program} {w : World} {K : PySem.W.Frag} {mg : Str → Option Value} {base : Heap} {Φ : Fns} {n : Nat} {f : Addr} {cdv : Value} {A : Around} {outer : List PySem.Env} {s : Shared} {H : Hp} {E : XK}
theorem b_is_name (na : NoAl Φ) (C : Cs Φ P w K mg base n) (G : Gs mg) (hr : Room n (A.deeper (envOfC "is_name" (defScope s_is_name) s.heap.objs.size f cdv))) : SndSts Φ (cxOf CX0 P w K mg base n_is_name "is_name" (defScope s_is_name) f cdv A outer s H E).nox (defBody s_is_name) d_is_name.body :=
  (snds_cons (snd_iff (sndT_w (sndW_or (sndT_not (sndT_v (snd_isi1 rfl G.g_isinstance (by rfl) (snd_v 0) (ptys_cons (y := "str") rfl G.g_str (by rfl) ptys_nil)))) (sndW_or (sndT_cmp (opd_eq (u65 hr)) (nomark _) (snd_v 0) snd_str) (sndW_or1 (sndT_notin (u65 hr) (by rfl) (snd_ix (u65 hr) (fun _ _ => rfl) (snd_v 0) snd_int) (snd_gc G.v_LETTERS rfl (.str _) rfl)))))) (snds_cons (snd_ret snd_bool) snds_nil) snds_nil) (snds_cons (snd_ret (snd_biB (cal_all rfl) rfl G.g_all (by rfl) (sndR_cons (snd_lc (own := [("sign", 1)]) (tg := (.n 1)) rfl sc_is_name.nd (sndI_x (snd_v 0)) (blkOk_by (own := [("sign", 1)]) (N := n_is_name) (by kernel_rfl)) (fun _ _ _ _ _ => (pg_name (i := 1) sc_is_name.nd rfl (by first | exact .inl rfl | exact .inr rfl))) (fun _ _ _ _ _ => sndF_nil) (fun _ _ _ _ _ => (snd_in (u65 hr) (by rfl) (snd_v 1) (snd_gc G.v_SIGNS rfl (.str _) rfl))) (by decide)) sndR_nil))) snds_nil))
theorem b_rises (na : NoAl Φ) (C : Cs Φ P w K mg base n) (G : Gs mg) (hr : Room n (A.deeper (envOfC "rises" (defScope s_rises) s.heap.objs.size f cdv))) : SndSts Φ (cxOf CX0 P w K mg base n_rises "rises" (defScope s_rises) f cdv A outer s H E).nox (defBody s_rises) d_rises.body :=
  (snds_cons (snd_ret (snd_biB (cal_all rfl) rfl G.g_all (by rfl) (sndR_cons (snd_lc (own := [("one", 1), ("other", 2)]) (tg := (.t [1, 2])) rfl sc_rises.nd (sndI_z rfl G.g_zip (snd_v 0) (snd_sl (snd_v 0) (sndO_any snd_int) sndO_none)) (blkOk_by (own := [("one", 1), ("other", 2)]) (N := n_rises) (by kernel_rfl)) (fun _ _ _ _ _ => (pg_tup rfl (pgs_cons (pg_name (i := 1) sc_rises.nd rfl (by first | exact .inl rfl | exact .inr rfl)) (pgs_cons (pg_name (i := 2) sc_rises.nd rfl (by first | exact .inl rfl | exact .inr rfl)) pgs_nil)))) (fun _ _ _ _ _ => sndF_nil) (fun _ _ _ _ _ => (snd_cmp opd_lt (nomark _) (snd_v 1) (snd_v 2))) (by decide)) sndR_nil))) snds_nil)
theorem b_is_wiring (na : NoAl Φ) (C : Cs Φ P w K mg base n) (G : Gs mg) (hr : Room n (A.deeper (envOfC "is_wiring" (defScope s_is_wiring) s.heap.objs.size f cdv))) : SndSts Φ (cxOf CX0 P w K mg base n_is_wiring "is_wiring" (defScope s_is_wiring) f cdv A outer s H E).nox (defBody s_is_wiring) d_is_wiring.body :=
  (snds_cons (snd_iff (sndT_not (sndT_v (snd_isi1 rfl G.g_isinstance (by rfl) (snd_v 0) (ptys_cons (y := "tuple") rfl G.g_tuple (by rfl) ptys_nil)))) (snds_cons (snd_ret snd_bool) snds_nil) snds_nil) (snds_cons (snd_for PassesOwn.never rfl (sndI_x (snd_v 0)) (pg_name (i := 1) sc_is_wiring.nd rfl (by first | exact .inl rfl | exact .inr rfl)) (snds_cons (snd_iff (sndT_w (sndW_or (sndT_not (sndT_v (snd_isi1 rfl G.g_isinstance (by rfl) (snd_v 1) (ptys_cons (y := "tuple") rfl G.g_tuple (by rfl) ptys_nil)))) (sndW_or (sndT_cmp (opd_ne (u65 hr)) (nomark _) (snd_biB cal_len rfl G.g_len (by rfl) (sndR_cons (snd_v 1) sndR_nil)) snd_int) (sndW_or1 (sndT_not (sndT_v (snd_biB (cal_all rfl) rfl G.g_all (by rfl) (sndR_cons (snd_lc (own := [("part", 2)]) (tg := (.n 2)) rfl sc_is_wiring.nd (sndI_x (snd_v 1)) (blkOk_by (own := [("part", 2)]) (N := n_is_wiring) (by kernel_rfl)) (fun _ _ _ _ _ => (pg_name (i := 2) sc_is_wiring.nd rfl (by first | exact .inl rfl | exact .inr rfl))) (fun _ _ _ _ _ => sndF_nil) (fun _ _ _ _ _ => (snd_call (has_of C.c_is_name hr) na rfl (sndR_cons (snd_v 2) sndR_nil))) (by decide)) sndR_nil)))))))) (snds_cons (snd_ret snd_bool) snds_nil) snds_nil) snds_nil)) (snds_cons (snd_ret (snd_call (has_of C.c_rises hr) na rfl (sndR_cons (snd_lc (own := [("row", 1)]) (tg := (.n 1)) rfl sc_is_wiring.nd (sndI_x (snd_v 0)) (blkOk_by (own := [("row", 1)]) (N := n_is_wiring) (by kernel_rfl)) (fun _ _ _ _ _ => (pg_name (i := 1) sc_is_wiring.nd rfl (by first | exact .inl rfl | exact .inr rfl))) (fun _ _ _ _ _ => sndF_nil) (fun _ _ _ _ _ => (snd_ix (u65 hr) (fun _ _ => rfl) (snd_v 1) snd_int)) (by decide)) sndR_nil))) snds_nil)))
theorem b_l_box (na : NoAl Φ) (C : Cs Φ P w K mg base n) (G : Gs mg) (hr : Room n (A.deeper (envOfC "_law_box" (defScope s_l_box) s.heap.objs.size f cdv))) : SndSts Φ (cxOf CX0 P w K mg base n_l_box "_law_box" (defScope s_l_box) f cdv A outer s H E).nox (defBody s_l_box) d_l_box.body :=
  (snds_cons (snd_set (i := 2) sc_l_box.nd rfl (by first | exact .inl rfl | exact .inr rfl) (snd_ite (sndT_cmp opd_lt (nomark _) (snd_v 1) (snd_biB cal_len rfl G.g_len (by rfl) (sndR_cons (snd_v 0) sndR_nil))) (snd_ix (u65 hr) (fun _ _ => rfl) (snd_v 0) (snd_v 1)) snd_int)) (snds_cons (snd_ret (snd_lst (sndS_cons (snd_bin opd_mul (snd_biB cal_abs rfl G.g_abs (by rfl) (sndR_cons (snd_v 2) sndR_nil)) (snd_biT cal_int rfl G.g_int (by rfl) (sndR_cons (snd_cmp opd_ge (nomark _) (snd_biB cal_abs rfl G.g_abs (by rfl) (sndR_cons (snd_v 2) sndR_nil)) (snd_bin opd_pow snd_int snd_int)) sndR_nil))) (sndS_cons (snd_bin opd_add (snd_bin opd_add (snd_bin opd_mod (snd_biT cal_int rfl G.g_int (by rfl) (sndR_cons (snd_v 2) sndR_nil)) snd_int) (snd_bin opd_mul snd_int (snd_v 1))) snd_int) (sndS_cons snd_int sndS_nil))))) snds_nil))
theorem b_l_take (na : NoAl Φ) (C : Cs Φ P w K mg base n) (G : Gs mg) (hr : Room n (A.deeper (envOfC "_law_take" (defScope s_l_take) s.heap.objs.size f cdv))) : SndSts Φ (cxOf CX0 P w K mg base n_l_take "_law_take" (defScope s_l_take) f cdv A outer s H E).nox (defBody s_l_take) d_l_take.body :=
  (snds_cons (snd_iff (sndT_cmp opd_gt (nomark _) (snd_ix (u65 hr) (fun _ _ => rfl) (snd_v 0) snd_int) snd_int) (snds_cons (snd_set (i := 2) sc_l_take.nd rfl (by first | exact .inl rfl | exact .inr rfl) (snd_bin opd_mod (snd_biT cal_int rfl G.g_int (by rfl) (sndR_cons (snd_ix (u65 hr) (fun _ _ => rfl) (snd_v 0) snd_int) sndR_nil)) (snd_v 1))) (snds_cons (snd_setIx (u1 hr) (snd_v 0) snd_int (snd_bin opd_fdiv (snd_ix (u65 hr) (fun _ _ => rfl) (snd_v 0) snd_int) (snd_v 1))) (snds_cons (snd_ret (snd_v 2)) snds_nil))) snds_nil) (snds_cons (snd_setIx (u1 hr) (snd_v 0) snd_int (snd_bin opd_add (snd_ix (u65 hr) (fun _ _ => rfl) (snd_v 0) snd_int) snd_int)) (snds_cons (snd_set (i := 3) sc_l_take.nd rfl (by first | exact .inl rfl | exact .inr rfl) (snd_bin opd_mod (snd_biT cal_int rfl G.g_int (by rfl) (sndR_cons (snd_bin opd_mul (snd_bin opd_add (snd_ix (u65 hr) (fun _ _ => rfl) (snd_v 0) snd_int) (snd_bin opd_mul snd_int (snd_ix (u65 hr) (fun _ _ => rfl) (snd_v 0) snd_int))) (snd_bin opd_add snd_int (snd_ix (u65 hr) (fun _ _ => rfl) (snd_v 0) snd_int))) sndR_nil)) snd_int)) (snds_cons (snd_set (i := 4) sc_l_take.nd rfl (by first | exact .inl rfl | exact .inr rfl) (snd_bin opd_add (snd_bin opd_mod (snd_biT cal_int rfl G.g_int (by rfl) (sndR_cons (snd_v 3) sndR_nil)) snd_int) snd_int)) (snds_cons (snd_set (i := 5) sc_l_take.nd rfl (by first | exact .inl rfl | exact .inr rfl) (snd_bin opd_mod (snd_biT cal_int rfl G.g_int (by rfl) (sndR_cons (snd_bin opd_mul (snd_bin opd_add (snd_bin opd_add (snd_v 3) (snd_ix (u65 hr) (fun _ _ => rfl) (snd_v 0) snd_int)) (snd_bin opd_fdiv (snd_ix (u65 hr) (fun _ _ => rfl) (snd_v 0) snd_int) snd_int)) (snd_v 4)) sndR_nil)) snd_int)) (snds_cons (snd_ret (snd_bin opd_mod (snd_biT cal_int rfl G.g_int (by rfl) (sndR_cons (snd_bin opd_fdiv (snd_bin opd_mod (snd_biT cal_int rfl G.g_int (by rfl) (sndR_cons (snd_bin opd_add (snd_bin opd_mul (snd_v 5) snd_int) (snd_v 3)) sndR_nil)) snd_int) snd_int) sndR_nil)) (snd_v 1))) snds_nil))))))
theorem b_l_cells (na : NoAl Φ) (C : Cs Φ P w K mg base n) (G : Gs mg) (hr : Room n (A.deeper (envOfC "_law_cells" (defScope s_l_cells) s.heap.objs.size f cdv))) : SndSts Φ (cxOf CX0 P w K mg base n_l_cells "_law_cells" (defScope s_l_cells) f cdv A outer s H E).nox (defBody s_l_cells) d_l_cells.body :=
  (snds_cons (snd_set (i := 2) sc_l_cells.nd rfl (by first | exact .inl rfl | exact .inr rfl) (snd_or (snd_biT cal_list rfl G.g_list (by rfl) (sndR_cons (snd_sl (snd_v 0) sndO_none (sndO_any (snd_v 1))) sndR_nil)) (snd_or1 (snd_lst (sndS_cons snd_int sndS_nil))))) (snds_cons (snd_for PassesOwn.never rfl (sndI_e rfl G.g_enumerate (snd_sl (snd_v 0) (sndO_any (snd_v 1)) (sndO_any snd_int))) (pg_tup rfl (pgs_cons (pg_name (i := 3) sc_l_cells.nd rfl (by first | exact .inl rfl | exact .inr rfl)) (pgs_cons (pg_name (i := 4) sc_l_cells.nd rfl (by first | exact .inl rfl | exact .inr rfl)) pgs_nil))) (snds_cons (snd_set (i := 5) sc_l_cells.nd rfl (by first | exact .inl rfl | exact .inr rfl) (snd_bin opd_mod (snd_biT cal_int rfl G.g_int (by rfl) (sndR_cons (snd_v 3) sndR_nil)) (snd_v 1))) (snds_cons (snd_setIx (u1 hr) (snd_v 2) (snd_v 5) (snd_bin opd_add (snd_ix (u65 hr) (fun _ _ => rfl) (snd_v 2) (snd_v 5)) (snd_bin opd_mul (snd_v 4) (snd_bin opd_add (snd_v 3) snd_int)))) snds_nil))) (snds_cons (snd_ret (snd_v 2)) snds_nil)))
theorem b_l_of (na : NoAl Φ) (C : Cs Φ P w K mg base n) (G : Gs mg) (hr : Room n (A.deeper (envOfC "_law_of" (defScope s_l_of) s.heap.objs.size f cdv))) : SndSts Φ (cxOf CX0 P w K mg base n_l_of "_law_of" (defScope s_l_of) f cdv A outer s H E).nox (defBody s_l_of) d_l_of.body :=
  (snds_cons (snd_ret (snd_ix (u65 hr) (fun _ _ => rfl) (snd_v 1) (snd_call (has_of C.c_l_take hr) na rfl (sndR_cons (snd_v 0) (sndR_cons (snd_biB cal_len rfl G.g_len (by rfl) (sndR_cons (snd_v 1) sndR_nil)) sndR_nil))))) snds_nil)
theorem b_l_pick (na : NoAl Φ) (C : Cs Φ P w K mg base n) (G : Gs mg) (hr : Room n (A.deeper (envOfC "_law_pick" (defScope s_l_pick) s.heap.objs.size f cdv))) : SndSts Φ (cxOf CX0 P w K mg base n_l_pick "_law_pick" (defScope s_l_pick) f cdv A outer s H E).nox (defBody s_l_pick) d_l_pick.body :=
  (snds_cons (snd_par2 (i := 3) (j := 4) rfl sc_l_pick.nd rfl rfl (by decide) rfl rfl (sndR_cons (snd_biT cal_list rfl G.g_list (by rfl) (sndR_cons (snd_v 1) sndR_nil)) (sndR_cons (snd_lst sndS_nil) sndR_nil)) (by kernel_rfl)) (snds_cons (snd_for PassesOwn.never rfl (sndI_r1 rfl G.g_range (snd_biB (cal_min rfl) rfl G.g_min (by rfl) (sndR_cons (snd_v 2) (sndR_cons (snd_biB cal_len rfl G.g_len (by rfl) (sndR_cons (snd_v 3) sndR_nil)) sndR_nil)))) (pg_name (i := 5) sc_l_pick.nd rfl (by first | exact .inl rfl | exact .inr rfl)) (snds_cons (snd_ex (snd_me PySem.F.slot_list_append PySem.F.type_list_append med_append (snd_v 4) (sndS_cons (snd_me PySem.F.slot_list_pop PySem.F.type_list_pop med_popAt (snd_v 3) (sndS_cons (snd_call (has_of C.c_l_take hr) na rfl (sndR_cons (snd_v 0) (sndR_cons (snd_biB cal_len rfl G.g_len (by rfl) (sndR_cons (snd_v 3) sndR_nil)) sndR_nil))) sndS_nil)) sndS_nil))) snds_nil)) (snds_cons (snd_ret (snd_v 4)) snds_nil)))
theorem b_l_same (na : NoAl Φ) (C : Cs Φ P w K mg base n) (G : Gs mg) (hr : Room n (A.deeper (envOfC "_law_same" (defScope s_l_same) s.heap.objs.size f cdv))) : SndSts Φ (cxOf CX0 P w K mg base n_l_same "_law_same" (defScope s_l_same) f cdv A outer s H E).nox (defBody s_l_same) d_l_same.body :=
  (snds_cons (snd_iff (sndT_v (snd_isiT rfl G.g_isinstance (by rfl) (snd_v 1) (ptys_cons (y := "list") rfl G.g_list (by rfl) (ptys_cons (y := "tuple") rfl G.g_tuple (by rfl) ptys_nil)))) (snds_cons (snd_iff (sndT_w (sndW_or (sndT_cmp (opd_ne (u65 hr)) (nomark _) (snd_isi1 rfl G.g_isinstance (by rfl) (snd_v 0) (ptys_cons (y := "list") rfl G.g_list (by rfl) ptys_nil)) (snd_isi1 rfl G.g_isinstance (by rfl) (snd_v 1) (ptys_cons (y := "list") rfl G.g_list (by rfl) ptys_nil))) (sndW_or1 (sndT_cmp (opd_ne (u65 hr)) (nomark _) (snd_isi1 rfl G.g_isinstance (by rfl) (snd_v 0) (ptys_cons (y := "tuple") rfl G.g_tuple (by rfl) ptys_nil)) (snd_isi1 rfl G.g_isinstance (by rfl) (snd_v 1) (ptys_cons (y := "tuple") rfl G.g_tuple (by rfl) ptys_nil)))))) (snds_cons (snd_ret snd_bool) snds_nil) snds_nil) (snds_cons (snd_ret (snd_and (snd_cmp (opd_eq (u65 hr)) (nomark _) (snd_biB cal_len rfl G.g_len (by rfl) (sndR_cons (snd_v 0) sndR_nil)) (snd_biB cal_len rfl G.g_len (by rfl) (sndR_cons (snd_v 1) sndR_nil))) (snd_and1 (snd_biB (cal_all rfl) rfl G.g_all (by rfl) (sndR_cons (snd_lc (own := [("_law_mine", 2), ("_law_its", 3)]) (tg := (.t [2, 3])) rfl sc_l_same.nd (sndI_z rfl G.g_zip (snd_v 0) (snd_v 1)) (blkOk_by (own := [("_law_mine", 2), ("_law_its", 3)]) (N := n_l_same) (by kernel_rfl)) (fun _ _ _ _ _ => (pg_tup rfl (pgs_cons (pg_name (i := 2) sc_l_same.nd rfl (by first | exact .inl rfl | exact .inr rfl)) (pgs_cons (pg_name (i := 3) sc_l_same.nd rfl (by first | exact .inl rfl | exact .inr rfl)) pgs_nil)))) (fun _ _ _ _ _ => sndF_nil) (fun _ _ _ _ _ => (snd_call (has_of C.c_l_same hr) na rfl (sndR_cons (snd_v 2) (sndR_cons (snd_v 3) sndR_nil)))) (by decide)) sndR_nil))))) snds_nil)) snds_nil) (snds_cons (snd_iff (sndT_w (sndW_or (sndT_cmp opd_is (nomark _) (snd_v 1) snd_none) (sndW_or1 (sndT_v (snd_isiT rfl G.g_isinstance (by rfl) (snd_v 1) (ptys_cons (y := "bool") rfl G.g_bool (by rfl) (ptys_cons (y := "str") rfl G.g_str (by rfl) ptys_nil))))))) (snds_cons (snd_ret (snd_and (snd_cmp (opd_eq (u65 hr)) (nomark _) (snd_v 0) (snd_v 1)) (snd_and (snd_cmp (opd_eq (u65 hr)) (nomark _) (snd_isi1 rfl G.g_isinstance (by rfl) (snd_v 0) (ptys_cons (y := "bool") rfl G.g_bool (by rfl) ptys_nil)) (snd_isi1 rfl G.g_isinstance (by rfl) (snd_v 1) (ptys_cons (y := "bool") rfl G.g_bool (by rfl) ptys_nil))) (snd_and1 (snd_cmp (opd_eq (u65 hr)) (nomark _) (snd_cmp opd_is (nomark _) (snd_v 0) snd_none) (snd_cmp opd_is (nomark _) (snd_v 1) snd_none)))))) snds_nil) snds_nil) (snds_cons (snd_ret (snd_and (snd_isi1 rfl G.g_isinstance (by rfl) (snd_v 0) (ptys_cons (y := "int") rfl G.g_int (by rfl) ptys_nil)) (snd_and (snd_not (snd_isi1 rfl G.g_isinstance (by rfl) (snd_v 0) (ptys_cons (y := "bool") rfl G.g_bool (by rfl) ptys_nil))) (snd_and1 (snd_cmp (opd_eq (u65 hr)) (nomark _) (snd_v 0) (snd_v 1)))))) snds_nil)))
theorem b_l_web (na : NoAl Φ) (C : Cs Φ P w K mg base n) (G : Gs mg) (hr : Room n (A.deeper (envOfC "_law_web" (defScope s_l_web) s.heap.objs.size f cdv))) : SndSts Φ (cxOf CX0 P w K mg base n_l_web "_law_web" (defScope s_l_web) f cdv A outer s H E).nox (defBody s_l_web) d_l_web.body :=
  (snds_cons (snd_set (i := 3) sc_l_web.nd rfl (by first | exact .inl rfl | exact .inr rfl) (snd_call (has_of C.c_l_pick hr) na rfl (sndR_cons (snd_v 0) (sndR_cons (snd_lst (sndS_cons snd_str (sndS_cons snd_str (sndS_cons snd_str (sndS_cons snd_str (sndS_cons snd_str (sndS_cons snd_str (sndS_cons snd_str (sndS_cons snd_str (sndS_cons snd_str (sndS_cons snd_str sndS_nil))))))))))) (sndR_cons (snd_biB (cal_max rfl) rfl G.g_max (by rfl) (sndR_cons snd_int (sndR_cons (snd_bin opd_add snd_int (snd_call (has_of C.c_l_take hr) na rfl (sndR_cons (snd_v 0) (sndR_cons (snd_v 2) sndR_nil)))) sndR_nil))) sndR_nil))))) (snds_cons (snd_set (i := 4) sc_l_web.nd rfl (by first | exact .inl rfl | exact .inr rfl) (snd_biB cal_sorted rfl G.g_sorted (by rfl) (sndR_cons (snd_call (has_of C.c_l_pick hr) na rfl (sndR_cons (snd_v 0) (sndR_cons (snd_lst (sndS_cons snd_str (sndS_cons snd_str (sndS_cons snd_str (sndS_cons snd_str (sndS_cons snd_str (sndS_cons snd_str (sndS_cons snd_str (sndS_cons snd_str (sndS_cons snd_str (sndS_cons snd_str (sndS_cons snd_str (sndS_cons snd_str (sndS_cons snd_str (sndS_cons snd_str sndS_nil))))))))))))))) (sndR_cons (snd_v 1) sndR_nil)))) sndR_nil))) (snds_cons (snd_set (i := 5) sc_l_web.nd rfl (by first | exact .inl rfl | exact .inr rfl) (snd_lst sndS_nil)) (snds_cons (snd_for PassesOwn.never rfl (sndI_x (snd_sl (snd_v 4) sndO_none (sndO_any (snd_bin opd_add snd_int (snd_call (has_of C.c_l_take hr) na rfl (sndR_cons (snd_v 0) (sndR_cons (snd_v 1) sndR_nil))))))) (pg_name (i := 6) sc_l_web.nd rfl (by first | exact .inl rfl | exact .inr rfl)) (snds_cons (snd_par2 (i := 7) (j := 8) rfl sc_l_web.nd rfl rfl (by decide) rfl rfl (sndR_cons (snd_call (has_of C.c_l_of hr) na rfl (sndR_cons (snd_v 0) (sndR_cons (snd_v 3) sndR_nil))) (sndR_cons (snd_call (has_of C.c_l_of hr) na rfl (sndR_cons (snd_v 0) (sndR_cons (snd_v 3) sndR_nil))) sndR_nil)) (by kernel_rfl)) (snds_cons (snd_iff (sndT_w (sndW_and (sndT_cmp (opd_eq (u65 hr)) (nomark _) (snd_v 7) (snd_v 8)) (sndW_and1 (sndT_cmp opd_gt (nomark _) (snd_call (has_of C.c_l_take hr) na rfl (sndR_cons (snd_v 0) (sndR_cons snd_int sndR_nil))) snd_int)))) (snds_cons (snd_set (i := 8) sc_l_web.nd rfl (by first | exact .inl rfl | exact .inr rfl) (snd_call (has_of C.c_l_of hr) na rfl (sndR_cons (snd_v 0) (sndR_cons (snd_v 3) sndR_nil)))) snds_nil) snds_nil) (snds_cons (snd_ex (snd_me PySem.F.slot_list_append PySem.F.type_list_append med_append (snd_v 5) (sndS_cons (snd_tup (sndS_cons (snd_v 6) (sndS_cons (snd_v 7) (sndS_cons (snd_v 8) sndS_nil)))) sndS_nil))) snds_nil)))) (snds_cons (snd_ret (snd_biT cal_tuple rfl G.g_tuple (by rfl) (sndR_cons (snd_v 5) sndR_nil))) snds_nil)))))
theorem b_l_is_mark (na : NoAl Φ) (C : Cs Φ P w K mg base n) (G : Gs mg) (hr : Room n (A.deeper (envOfC "_law_is_mark" (defScope s_l_is_mark) s.heap.objs.size f cdv))) : SndSts Φ (cxOf CX0 P w K mg base n_l_is_mark "_law_is_mark" (defScope s_l_is_mark) f cdv A outer s H E).nox (defBody s_l_is_mark) d_l_is_mark.body :=
  (snds_cons (snd_iff (sndT_w (sndW_or (sndT_not (sndT_v (snd_isi1 rfl G.g_isinstance (by rfl) (snd_v 0) (ptys_cons (y := "str") rfl G.g_str (by rfl) ptys_nil)))) (sndW_or (sndT_cmp (opd_eq (u65 hr)) (nomark _) (snd_v 0) snd_str) (sndW_or1 (sndT_notin (u65 hr) (by rfl) (snd_ix (u65 hr) (fun _ _ => rfl) (snd_v 0) snd_int) snd_str))))) (snds_cons (snd_ret snd_bool) snds_nil) snds_nil) (snds_cons (snd_ret (snd_cmp (opd_eq (u65 hr)) (nomark _) (snd_lc (own := [("_law_sign", 1)]) (tg := (.n 1)) rfl sc_l_is_mark.nd (sndI_x (snd_v 0)) (blkOk_by (own := [("_law_sign", 1)]) (N := n_l_is_mark) (by kernel_rfl)) (fun _ _ _ _ _ => (pg_name (i := 1) sc_l_is_mark.nd rfl (by first | exact .inl rfl | exact .inr rfl))) (fun _ _ _ _ _ => (sndF_one (sndT_notin (u65 hr) (by rfl) (snd_v 1) snd_str))) (fun _ _ _ _ _ => (snd_v 1)) (by decide)) (snd_lst sndS_nil))) snds_nil))
theorem b_l_is_web (na : NoAl Φ) (C : Cs Φ P w K mg base n) (G : Gs mg) (hr : Room n (A.deeper (envOfC "_law_is_web" (defScope s_l_is_web) s.heap.objs.size f cdv))) : SndSts Φ (cxOf CX0 P w K mg base n_l_is_web "_law_is_web" (defScope s_l_is_web) f cdv A outer s H E).nox (defBody s_l_is_web) d_l_is_web.body :=
  (snds_cons (snd_iff (sndT_not (sndT_v (snd_isi1 rfl G.g_isinstance (by rfl) (snd_v 0) (ptys_cons (y := "tuple") rfl G.g_tuple (by rfl) ptys_nil)))) (snds_cons (snd_ret snd_bool) snds_nil) snds_nil) (snds_cons (snd_for PassesOwn.never rfl (sndI_x (snd_v 0)) (pg_name (i := 1) sc_l_is_web.nd rfl (by first | exact .inl rfl | exact .inr rfl)) (snds_cons (snd_iff (sndT_w (sndW_or (sndT_not (sndT_v (snd_isi1 rfl G.g_isinstance (by rfl) (snd_v 1) (ptys_cons (y := "tuple") rfl G.g_tuple (by rfl) ptys_nil)))) (sndW_or (sndT_cmp (opd_ne (u65 hr)) (nomark _) (snd_biB cal_len rfl G.g_len (by rfl) (sndR_cons (snd_v 1) sndR_nil)) snd_int) (sndW_or1 (sndT_cmp (opd_ne (u65 hr)) (nomark _) (snd_lc (own := [("_law_tag", 3)]) (tg := (.n 3)) rfl sc_l_is_web.nd (sndI_x (snd_v 1)) (blkOk_by (own := [("_law_tag", 3)]) (N := n_l_is_web) (by kernel_rfl)) (fun _ _ _ _ _ => (pg_name (i := 3) sc_l_is_web.nd rfl (by first | exact .inl rfl | exact .inr rfl))) (fun _ _ _ _ _ => (sndF_one (sndT_not (sndT_v (snd_call (has_of C.c_l_is_mark hr) na rfl (sndR_cons (snd_v 3) sndR_nil)))))) (fun _ _ _ _ _ => (snd_v 3)) (by decide)) (snd_lst sndS_nil)))))) (snds_cons (snd_ret snd_bool) snds_nil) snds_nil) snds_nil)) (snds_cons (snd_ret (snd_cmp (opd_eq (u65 hr)) (nomark _) (snd_lc (own := [("_law_k", 2)]) (tg := (.n 2)) rfl sc_l_is_web.nd (sndI_r2 rfl G.g_range snd_int (snd_biB cal_len rfl G.g_len (by rfl) (sndR_cons (snd_v 0) sndR_nil))) (blkOk_by (own := [("_law_k", 2)]) (N := n_l_is_web) (by kernel_rfl)) (fun _ _ _ _ _ => (pg_name (i := 2) sc_l_is_web.nd rfl (by first | exact .inl rfl | exact .inr rfl))) (fun _ _ _ _ _ => (sndF_one (sndT_not (sndT_cmp opd_lt (nomark _) (snd_ix (u65 hr) (fun _ _ => rfl) (snd_ix (u65 hr) (fun _ _ => rfl) (snd_v 0) (snd_bin opd_sub (snd_v 2) snd_int)) snd_int) (snd_ix (u65 hr) (fun _ _ => rfl) (snd_ix (u65 hr) (fun _ _ => rfl) (snd_v 0) (snd_v 2)) snd_int))))) (fun _ _ _ _ _ => (snd_v 2)) (by decide)) (snd_lst sndS_nil))) snds_nil)))
theorem b_l_spoilt (na : NoAl Φ) (C : Cs Φ P w K mg base n) (G : Gs mg) (hr : Room n (A.deeper (envOfC "_law_spoilt" (defScope s_l_spoilt) s.heap.objs.size f cdv))) : SndSts Φ (cxOf CX0 P w K mg base n_l_spoilt "_law_spoilt" (defScope s_l_spoilt) f cdv A outer s H E).nox (defBody s_l_spoilt) d_l_spoilt.body :=
  (snds_cons (snd_iff (sndT_w (sndW_or (sndT_cmp (opd_eq (u65 hr)) (nomark _) (snd_v 3) snd_int) (sndW_or (sndT_not (sndT_v (snd_isi1 rfl G.g_isinstance (by rfl) (snd_v 1) (ptys_cons (y := "tuple") rfl G.g_tuple (by rfl) ptys_nil)))) (sndW_or (sndT_cmp (opd_eq (u65 hr)) (nomark _) (snd_biB cal_len rfl G.g_len (by rfl) (sndR_cons (snd_v 1) sndR_nil)) snd_int) (sndW_or1 (sndT_cmp (opd_eq (u65 hr)) (nomark _) (snd_call (has_of C.c_l_take hr) na rfl (sndR_cons (snd_v 0) (sndR_cons snd_int sndR_nil))) snd_int)))))) (snds_cons (snd_ret (snd_call (has_of C.c_l_of hr) na rfl (sndR_cons (snd_v 0) (sndR_cons (snd_v 2) sndR_nil)))) snds_nil) snds_nil) (snds_cons (snd_par2 (i := 4) (j := 5) rfl sc_l_spoilt.nd rfl rfl (by decide) rfl rfl (sndR_cons (snd_call (has_of C.c_l_take hr) na rfl (sndR_cons (snd_v 0) (sndR_cons (snd_biB cal_len rfl G.g_len (by rfl) (sndR_cons (snd_v 1) sndR_nil)) sndR_nil))) (sndR_cons (snd_call (has_of C.c_l_take hr) na rfl (sndR_cons (snd_v 0) (sndR_cons snd_int sndR_nil))) sndR_nil)) (by kernel_rfl)) (snds_cons (snd_iff (sndT_cmp (opd_eq (u65 hr)) (nomark _) (snd_v 5) snd_int) (snds_cons (snd_ret (snd_bin opd_add (snd_sl (snd_v 1) sndO_none (sndO_any (snd_v 4))) (snd_sl (snd_v 1) (sndO_any (snd_bin opd_add (snd_v 4) snd_int)) sndO_none))) snds_nil) snds_nil) (snds_cons (snd_iff (sndT_cmp (opd_eq (u65 hr)) (nomark _) (snd_v 5) snd_int) (snds_cons (snd_ret (snd_bin opd_add (snd_bin opd_add (snd_sl (snd_v 1) sndO_none (sndO_any (snd_v 4))) (snd_tup (sndS_cons (snd_ix (u65 hr) (fun _ _ => rfl) (snd_v 1) (snd_v 4)) sndS_nil))) (snd_sl (snd_v 1) (sndO_any (snd_v 4)) sndO_none))) snds_nil) snds_nil) (snds_cons (snd_iff (sndT_cmp (opd_eq (u65 hr)) (nomark _) (snd_v 5) snd_int) (snds_cons (snd_ret (snd_rev (snd_v 1))) snds_nil) snds_nil) (snds_cons (snd_iff (sndT_cmp (opd_eq (u65 hr)) (nomark _) (snd_v 5) snd_int) (snds_cons (snd_ret (snd_biT cal_list rfl G.g_list (by rfl) (sndR_cons (snd_v 1) sndR_nil))) snds_nil) snds_nil) (snds_cons (snd_ret (snd_bin opd_add (snd_bin opd_add (snd_sl (snd_v 1) sndO_none (sndO_any (snd_v 4))) (snd_tup (sndS_cons (snd_call (has_of C.c_l_spoilt hr) na rfl (sndR_cons (snd_v 0) (sndR_cons (snd_ix (u65 hr) (fun _ _ => rfl) (snd_v 1) (snd_v 4)) (sndR_cons (snd_v 2) (sndR_cons (snd_bin opd_sub (snd_v 3) snd_int) sndR_nil))))) sndS_nil))) (snd_sl (snd_v 1) (sndO_any (snd_bin opd_add (snd_v 4) snd_int)) sndO_none))) snds_nil)))))))
theorem b_l_hand_right (na : NoAl Φ) (C : Cs Φ P w K mg base n) (G : Gs mg) (hr : Room n (A.deeper (envOfC "_law_hand_right" (defScope s_l_hand_right) s.heap.objs.size f cdv))) : SndSts Φ (cxOf CX0 P w K mg base n_l_hand_right "_law_hand_right" (defScope s_l_hand_right) f cdv A outer s H E).nox (defBody s_l_hand_right) d_l_hand_right.body :=
  (snds_cons (snd_set (i := 0) sc_l_hand_right.nd rfl (by first | exact .inl rfl | exact .inr rfl) snd_int) (snds_cons (snd_for PassesOwn.never rfl (sndI_r1 rfl G.g_range snd_int) (pg_name (i := 1) sc_l_hand_right.nd rfl (by first | exact .inl rfl | exact .inr rfl)) (snds_cons (snd_set (i := 0) sc_l_hand_right.nd rfl (by first | exact .inl rfl | exact .inr rfl) (snd_ite (sndT_cmp opd_lt (nomark _) (snd_v 1) snd_int) (snd_tup (sndS_cons (snd_v 0) sndS_nil)) (snd_lst (sndS_cons (snd_v 0) sndS_nil)))) snds_nil)) (snds_cons (snd_set (i := 2) sc_l_hand_right.nd rfl (by first | exact .inl rfl | exact .inr rfl) (snd_lst (sndS_cons (snd_tup sndS_nil) (sndS_cons (snd_tup (sndS_cons (snd_tup (sndS_cons snd_str (sndS_cons snd_str (sndS_cons snd_str sndS_nil)))) sndS_nil)) (sndS_cons (snd_tup (sndS_cons (snd_tup (sndS_cons snd_str (sndS_cons snd_str (sndS_cons snd_str sndS_nil)))) (sndS_cons (snd_tup (sndS_cons snd_str (sndS_cons snd_str (sndS_cons snd_str sndS_nil)))) sndS_nil))) (sndS_cons (snd_tup (sndS_cons (snd_tup (sndS_cons snd_str (sndS_cons snd_str (sndS_cons snd_str sndS_nil)))) (sndS_cons (snd_tup (sndS_cons snd_str (sndS_cons snd_str (sndS_cons snd_str sndS_nil)))) sndS_nil))) sndS_nil)))))) (snds_cons (snd_set (i := 3) sc_l_hand_right.nd rfl (by first | exact .inl rfl | exact .inr rfl) (snd_lst (sndS_cons (snd_tup (sndS_cons (snd_tup (sndS_cons snd_str (sndS_cons snd_str (sndS_cons snd_str sndS_nil)))) (sndS_cons (snd_tup (sndS_cons snd_str (sndS_cons snd_str (sndS_cons snd_str sndS_nil)))) sndS_nil))) (sndS_cons (snd_tup (sndS_cons (snd_tup (sndS_cons snd_str (sndS_cons snd_str (sndS_cons snd_str sndS_nil)))) (sndS_cons (snd_tup (sndS_cons snd_str (sndS_cons snd_str (sndS_cons snd_str sndS_nil)))) sndS_nil))) (sndS_cons (snd_tup (sndS_cons (snd_tup (sndS_cons snd_str (sndS_cons snd_str sndS_nil))) sndS_nil)) sndS_nil))))) (snds_cons (snd_ex (snd_me PySem.F.slot_list_append PySem.F.type_list_append med_append (snd_v 3) (sndS_cons (snd_tup (sndS_cons (snd_tup (sndS_cons snd_str (sndS_cons snd_str (sndS_cons snd_str (sndS_cons snd_str sndS_nil))))) sndS_nil)) sndS_nil))) (snds_cons (snd_set (i := 3) sc_l_hand_right.nd rfl (by first | exact .inl rfl | exact .inr rfl) (snd_bin opd_add (snd_v 3) (snd_lst (sndS_cons (snd_tup (sndS_cons (snd_tup (sndS_cons snd_str (sndS_cons snd_str (sndS_cons snd_str sndS_nil)))) sndS_nil)) (sndS_cons (snd_tup (sndS_cons (snd_tup (sndS_cons snd_str (sndS_cons snd_str (sndS_cons snd_str sndS_nil)))) sndS_nil)) (sndS_cons (snd_tup (sndS_cons (snd_tup (sndS_cons snd_str (sndS_cons snd_str (sndS_cons snd_str sndS_nil)))) sndS_nil)) (sndS_cons (snd_tup (sndS_cons (snd_tup (sndS_cons snd_str (sndS_cons snd_str (sndS_cons snd_str sndS_nil)))) sndS_nil)) (sndS_cons (snd_tup (sndS_cons (snd_tup (sndS_cons snd_str (sndS_cons snd_str (sndS_cons snd_str sndS_nil)))) sndS_nil)) sndS_nil)))))))) (snds_cons (snd_set (i := 3) sc_l_hand_right.nd rfl (by first | exact .inl rfl | exact .inr rfl) (snd_bin opd_add (snd_v 3) (snd_lst (sndS_cons (snd_lst (sndS_cons (snd_tup (sndS_cons snd_str (sndS_cons snd_str (sndS_cons snd_str sndS_nil)))) sndS_nil)) (sndS_cons (snd_tup (sndS_cons (snd_lst (sndS_cons snd_str (sndS_cons snd_str (sndS_cons snd_str sndS_nil)))) sndS_nil)) (sndS_cons (snd_tup (sndS_cons snd_str (sndS_cons snd_str (sndS_cons snd_str sndS_nil)))) (sndS_cons (snd_tup (sndS_cons (snd_tup (sndS_cons snd_str (sndS_cons snd_str (sndS_cons snd_int sndS_nil)))) sndS_nil)) (sndS_cons (snd_tup (sndS_cons (snd_tup (sndS_cons snd_str (sndS_cons snd_none (sndS_cons snd_str sndS_nil)))) sndS_nil)) sndS_nil)))))))) (snds_cons (snd_set (i := 3) sc_l_hand_right.nd rfl (by first | exact .inl rfl | exact .inr rfl) (snd_bin opd_add (snd_v 3) (snd_lst (sndS_cons snd_none (sndS_cons snd_int (sndS_cons snd_str sndS_nil)))))) (snds_cons (snd_set (i := 3) sc_l_hand_right.nd rfl (by first | exact .inl rfl | exact .inr rfl) (snd_bin opd_add (snd_v 3) (snd_lst (sndS_cons (snd_tup (sndS_cons (snd_tup (sndS_cons snd_str (sndS_cons snd_str (sndS_cons snd_str sndS_nil)))) sndS_nil)) (sndS_cons (snd_tup (sndS_cons (snd_tup (sndS_cons snd_str (sndS_cons snd_str (sndS_cons snd_str sndS_nil)))) sndS_nil)) (sndS_cons (snd_tup (sndS_cons (snd_tup (sndS_cons snd_str (sndS_cons snd_str (sndS_cons snd_str sndS_nil)))) sndS_nil)) (sndS_cons (snd_tup (sndS_cons (snd_tup (sndS_cons snd_str (sndS_cons snd_str (sndS_cons snd_str sndS_nil)))) sndS_nil)) sndS_nil))))))) (snds_cons (snd_set (i := 3) sc_l_hand_right.nd rfl (by first | exact .inl rfl | exact .inr rfl) (snd_bin opd_add (snd_v 3) (snd_lst (sndS_cons snd_str (sndS_cons snd_bool (sndS_cons (snd_lst sndS_nil) (sndS_cons (snd_tup (sndS_cons (snd_tup sndS_nil) sndS_nil)) (sndS_cons (snd_v 0) (sndS_cons (snd_tup (sndS_cons (snd_v 0) sndS_nil)) (sndS_cons (snd_tup (sndS_cons (snd_tup (sndS_cons snd_str (sndS_cons snd_str (sndS_cons (snd_v 0) sndS_nil)))) sndS_nil)) (sndS_cons (snd_tup (sndS_cons (snd_tup (sndS_cons snd_str (sndS_cons snd_str (sndS_cons snd_str sndS_nil)))) (sndS_cons snd_none sndS_nil))) sndS_nil))))))))))) (snds_cons (snd_iff (sndT_w (sndW_or (sndT_not (sndT_v (snd_call (has_of C.c_l_same hr) na rfl (sndR_cons (snd_lc (own := [("_law_own", 4)]) (tg := (.n 4)) rfl sc_l_hand_right.nd (sndI_x (snd_v 2)) (blkOk_by (own := [("_law_own", 4)]) (N := n_l_hand_right) (by kernel_rfl)) (fun _ _ _ _ _ => (pg_name (i := 4) sc_l_hand_right.nd rfl (by first | exact .inl rfl | exact .inr rfl))) (fun _ _ _ _ _ => sndF_nil) (fun _ _ _ _ _ => (snd_call (has_of C.c_is_wiring hr) na rfl (sndR_cons (snd_v 4) sndR_nil))) (by decide)) (sndR_cons (snd_rep (sndS_cons snd_bool sndS_nil) snd_int) sndR_nil))))) (sndW_or1 (sndT_cmp opd_isnot (nomark _) (snd_callK0 C.k_is_wiring hr na rfl (sndK_one (snd_ix (u65 hr) (fun _ _ => rfl) (snd_v 2) snd_int))) snd_bool)))) (snds_cons (snd_ret snd_bool) snds_nil) snds_nil) (snds_cons (snd_ret (snd_call (has_of C.c_l_same hr) na rfl (sndR_cons (snd_lc (own := [("_law_own", 4)]) (tg := (.n 4)) rfl sc_l_hand_right.nd (sndI_x (snd_v 3)) (blkOk_by (own := [("_law_own", 4)]) (N := n_l_hand_right) (by kernel_rfl)) (fun _ _ _ _ _ => (pg_name (i := 4) sc_l_hand_right.nd rfl (by first | exact .inl rfl | exact .inr rfl))) (fun _ _ _ _ _ => sndF_nil) (fun _ _ _ _ _ => (snd_call (has_of C.c_is_wiring hr) na rfl (sndR_cons (snd_v 4) sndR_nil))) (by decide)) (sndR_cons (snd_rep (sndS_cons snd_bool sndS_nil) (snd_biB cal_len rfl G.g_len (by rfl) (sndR_cons (snd_v 3) sndR_nil))) sndR_nil)))) snds_nil))))))))))))
theorem b_l_right (na : NoAl Φ) (C : Cs Φ P w K mg base n) (G : Gs mg) (hr : Room n (A.deeper (envOfC "_law_right" (defScope s_l_right) s.heap.objs.size f cdv))) : SndSts Φ (cxOf CX0 P w K mg base n_l_right "_law_right" (defScope s_l_right) f cdv A outer s H E).nox (defBody s_l_right) d_l_right.body :=
  (snds_cons (snd_iff (sndT_not (sndT_v (snd_call0 (has_of C.c_l_hand_right hr) na rfl))) (snds_cons (snd_ret snd_bool) snds_nil) snds_nil) (snds_cons (snd_for PassesOwn.never rfl (sndI_r1 rfl G.g_range snd_int) (pg_name (i := 1) sc_l_right.nd rfl (by first | exact .inl rfl | exact .inr rfl)) (snds_cons (snd_set (i := 2) sc_l_right.nd rfl (by first | exact .inl rfl | exact .inr rfl) (snd_call (has_of C.c_l_web hr) na rfl (sndR_cons (snd_v 0) (sndR_cons snd_int (sndR_cons snd_int sndR_nil))))) (snds_cons (snd_iff (sndT_cmp opd_isnot (nomark _) (snd_call (has_of C.c_is_wiring hr) na rfl (sndR_cons (snd_v 2) sndR_nil)) snd_bool) (snds_cons (snd_ret snd_bool) snds_nil) snds_nil) (snds_cons (snd_set (i := 3) sc_l_right.nd rfl (by first | exact .inl rfl | exact .inr rfl) (snd_lst (sndS_cons snd_int (sndS_cons snd_int (sndS_cons snd_bool (sndS_cons snd_none (sndS_cons snd_str (sndS_cons snd_str (sndS_cons snd_str (sndS_cons snd_str (sndS_cons snd_str (sndS_cons snd_str (sndS_cons snd_str (sndS_cons snd_str (sndS_cons (snd_tup sndS_nil) (sndS_cons (snd_lst sndS_nil) (sndS_cons (snd_tup (sndS_cons snd_str sndS_nil)) (sndS_cons (snd_tup (sndS_cons snd_str (sndS_cons snd_str (sndS_cons snd_str sndS_nil)))) sndS_nil)))))))))))))))))) (snds_cons (snd_set (i := 3) sc_l_right.nd rfl (by first | exact .inl rfl | exact .inr rfl) (snd_bin opd_add (snd_v 3) (snd_lst (sndS_cons (snd_ix (u65 hr) (fun _ _ => rfl) (snd_v 2) snd_int) (sndS_cons (snd_ix (u65 hr) (fun _ _ => rfl) (snd_v 2) (snd_neg snd_int)) (sndS_cons (snd_ix (u65 hr) (fun _ _ => rfl) (snd_ix (u65 hr) (fun _ _ => rfl) (snd_v 2) snd_int) snd_int) (sndS_cons (snd_ix (u65 hr) (fun _ _ => rfl) (snd_ix (u65 hr) (fun _ _ => rfl) (snd_v 2) (snd_neg snd_int)) snd_int) (sndS_cons (snd_ix (u65 hr) (fun _ _ => rfl) (snd_ix (u65 hr) (fun _ _ => rfl) (snd_v 2) (snd_neg snd_int)) snd_int) sndS_nil)))))))) (snds_cons (snd_set (i := 4) sc_l_right.nd rfl (by first | exact .inl rfl | exact .inr rfl) (snd_call (has_of C.c_l_spoilt hr) na rfl (sndR_cons (snd_v 0) (sndR_cons (snd_v 2) (sndR_cons (snd_v 3) (sndR_cons snd_int sndR_nil)))))) (snds_cons (snd_iff (sndT_not (sndT_v (snd_call (has_of C.c_l_same hr) na rfl (sndR_cons (snd_call (has_of C.c_is_wiring hr) na rfl (sndR_cons (snd_v 4) sndR_nil)) (sndR_cons (snd_call (has_of C.c_l_is_web hr) na rfl (sndR_cons (snd_v 4) sndR_nil)) sndR_nil))))) (snds_cons (snd_ret snd_bool) snds_nil) snds_nil) snds_nil))))))) (snds_cons (snd_ret snd_bool) snds_nil)))
theorem b_law (na : NoAl Φ) (C : Cs Φ P w K mg base n) (G : Gs mg) (hr : Room n (A.deeper (envOfC "law" (defScope s_law) s.heap.objs.size f cdv))) : SndSts Φ (cxOf CX0 P w K mg base n_law "law" (defScope s_law) f cdv A outer s H E).nox (defBody s_law) d_law.body :=
  (snds_cons (snd_set (i := 1) sc_law.nd rfl (by first | exact .inl rfl | exact .inr rfl) (snd_call (has_of C.c_l_cells hr) na rfl (sndR_cons (snd_v 0) (sndR_cons snd_int sndR_nil)))) (snds_cons (snd_ret (snd_biB (cal_all rfl) rfl G.g_all (by rfl) (sndR_cons (snd_lc (own := [("_law_k", 2)]) (tg := (.n 2)) rfl sc_law.nd (sndI_r1 rfl G.g_range (snd_biB cal_len rfl G.g_len (by rfl) (sndR_cons (snd_v 1) sndR_nil))) (blkOk_by (own := [("_law_k", 2)]) (N := n_law) (by kernel_rfl)) (fun _ _ _ _ _ => (pg_name (i := 2) sc_law.nd rfl (by first | exact .inl rfl | exact .inr rfl))) (fun _ _ _ _ _ => sndF_nil) (fun _ _ _ _ _ => (snd_call (has_of C.c_l_right hr) na rfl (sndR_cons (snd_call (has_of C.c_l_box hr) na rfl (sndR_cons (snd_v 1) (sndR_cons (snd_v 2) sndR_nil))) sndR_nil))) (by decide)) sndR_nil))) snds_nil))
theorem all_ok (G : Gs mg) {f_is_name : Addr} {fd_is_name : FuncData} (F_is_name : Fun K "is_name" "is_name" s_is_name f_is_name fd_is_name) (m_is_name : mg "is_name" = some (.ref f_is_name)) (bi_is_name : Binds K fd_is_name ["thing"] []) {f_rises : Addr} {fd_rises : FuncData} (F_rises : Fun K "rises" "rises" s_rises f_rises fd_rises) (m_rises : mg "rises" = some (.ref f_rises)) (bi_rises : Binds K fd_rises ["row"] []) {f_is_wiring : Addr} {fd_is_wiring : FuncData} (F_is_wiring : Fun K "is_wiring" "is_wiring" s_is_wiring f_is_wiring fd_is_wiring) (m_is_wiring : mg "is_wiring" = some (.ref f_is_wiring)) (bi_is_wiring : Binds K fd_is_wiring ["thing"] []) {f_l_box : Addr} {fd_l_box : FuncData} (F_l_box : Fun K "_law_box" "_law_box" s_l_box f_l_box fd_l_box) (m_l_box : mg "_law_box" = some (.ref f_l_box)) (bi_l_box : Binds K fd_l_box ["_law_script", "_law_k"] []) {f_l_take : Addr} {fd_l_take : FuncData} (F_l_take : Fun K "_law_take" "_law_take" s_l_take f_l_take fd_l_take) (m_l_take : mg "_law_take" = some (.ref f_l_take)) (bi_l_take : Binds K fd_l_take ["_law_box_here", "_law_below"] []) {f_l_cells : Addr} {fd_l_cells : FuncData} (F_l_cells : Fun K "_law_cells" "_law_cells" s_l_cells f_l_cells fd_l_cells) (m_l_cells : mg "_law_cells" = some (.ref f_l_cells)) (bi_l_cells : Binds K fd_l_cells ["_law_script", "_law_most"] []) {f_l_of : Addr} {fd_l_of : FuncData} (F_l_of : Fun K "_law_of" "_law_of" s_l_of f_l_of fd_l_of) (m_l_of : mg "_law_of" = some (.ref f_l_of)) (bi_l_of : Binds K fd_l_of ["_law_box_here", "_law_some"] []) {f_l_pick : Addr} {fd_l_pick : FuncData} (F_l_pick : Fun K "_law_pick" "_law_pick" s_l_pick f_l_pick fd_l_pick) (m_l_pick : mg "_law_pick" = some (.ref f_l_pick)) (bi_l_pick : Binds K fd_l_pick ["_law_box_here", "_law_pool", "_law_size_so"] []) {f_l_same : Addr} {fd_l_same : FuncData} (F_l_same : Fun K "_law_same" "_law_same" s_l_same f_l_same fd_l_same) (m_l_same : mg "_law_same" = some (.ref f_l_same)) (bi_l_same : Binds K fd_l_same ["_law_got", "_law_due"] []) {f_l_web : Addr} {fd_l_web : FuncData} (F_l_web : Fun K "_law_web" "_law_web" s_l_web f_l_web fd_l_web) (m_l_web : mg "_law_web" = some (.ref f_l_web)) (bi_l_web : Binds K fd_l_web ["_law_box_here", "_law_most", "_law_spots"] []) {f_l_is_mark : Addr} {fd_l_is_mark : FuncData} (F_l_is_mark : Fun K "_law_is_mark" "_law_is_mark" s_l_is_mark f_l_is_mark fd_l_is_mark) (m_l_is_mark : mg "_law_is_mark" = some (.ref f_l_is_mark)) (bi_l_is_mark : Binds K fd_l_is_mark ["_law_matter"] []) {f_l_is_web : Addr} {fd_l_is_web : FuncData} (F_l_is_web : Fun K "_law_is_web" "_law_is_web" s_l_is_web f_l_is_web fd_l_is_web) (m_l_is_web : mg "_law_is_web" = some (.ref f_l_is_web)) (bi_l_is_web : Binds K fd_l_is_web ["_law_matter"] []) {f_l_spoilt : Addr} {fd_l_spoilt : FuncData} (F_l_spoilt : Fun K "_law_spoilt" "_law_spoilt" s_l_spoilt f_l_spoilt fd_l_spoilt) (m_l_spoilt : mg "_law_spoilt" = some (.ref f_l_spoilt)) (bi_l_spoilt : Binds K fd_l_spoilt ["_law_box_here", "_law_matter", "_law_pool", "_law_deep"] []) {f_l_hand_right : Addr} {fd_l_hand_right : FuncData} (F_l_hand_right : Fun K "_law_hand_right" "_law_hand_right" s_l_hand_right f_l_hand_right fd_l_hand_right) (m_l_hand_right : mg "_law_hand_right" = some (.ref f_l_hand_right)) (bi_l_hand_right : Binds K fd_l_hand_right [] []) {f_l_right : Addr} {fd_l_right : FuncData} (F_l_right : Fun K "_law_right" "_law_right" s_l_right f_l_right fd_l_right) (m_l_right : mg "_law_right" = some (.ref f_l_right)) (bi_l_right : Binds K fd_l_right ["_law_box_here"] []) {f_law : Addr} {fd_law : FuncData} (F_law : Fun K "law" "law" s_law f_law fd_law) (m_law : mg "law" = some (.ref f_law)) (bi_law : Binds K fd_law ["_law_script"] []) (kb_is_wiring : KBinds K fd_is_wiring ["thing"] ["thing"] (fun us ws => us ++ ws) (fun vs zs => vs ++ zs)) : ∀ n, Cs (fns tbl n) P w K mg base n
  | 0 => { c_is_name := has0 m_is_name F_is_name.kp bi_is_name, c_rises := has0 m_rises F_rises.kp bi_rises, c_is_wiring := has0 m_is_wiring F_is_wiring.kp bi_is_wiring, c_l_box := has0 m_l_box F_l_box.kp bi_l_box, c_l_take := has0 m_l_take F_l_take.kp bi_l_take, c_l_cells := has0 m_l_cells F_l_cells.kp bi_l_cells, c_l_of := has0 m_l_of F_l_of.kp bi_l_of, c_l_pick := has0 m_l_pick F_l_pick.kp bi_l_pick, c_l_same := has0 m_l_same F_l_same.kp bi_l_same, c_l_web := has0 m_l_web F_l_web.kp bi_l_web, c_l_is_mark := has0 m_l_is_mark F_l_is_mark.kp bi_l_is_mark, c_l_is_web := has0 m_l_is_web F_l_is_web.kp bi_l_is_web, c_l_spoilt := has0 m_l_spoilt F_l_spoilt.kp bi_l_spoilt, c_l_hand_right := has0 m_l_hand_right F_l_hand_right.kp bi_l_hand_right, c_l_right := has0 m_l_right F_l_right.kp bi_l_right, c_law := has0 m_law F_law.kp bi_law, k_is_wiring := hasK0 m_is_wiring F_is_wiring.kp kb_is_wiring }
  | n + 1 => by
    have C := all_ok G F_is_name m_is_name bi_is_name F_rises m_rises bi_rises F_is_wiring m_is_wiring bi_is_wiring F_l_box m_l_box bi_l_box F_l_take m_l_take bi_l_take F_l_cells m_l_cells bi_l_cells F_l_of m_l_of bi_l_of F_l_pick m_l_pick bi_l_pick F_l_same m_l_same bi_l_same F_l_web m_l_web bi_l_web F_l_is_mark m_l_is_mark bi_l_is_mark F_l_is_web m_l_is_web bi_l_is_web F_l_spoilt m_l_spoilt bi_l_spoilt F_l_hand_right m_l_hand_right bi_l_hand_right F_l_right m_l_right bi_l_right F_law m_law bi_law kb_is_wiring n
    have o_is_name := fn_ok (P := P) (w := w) (mg := mg) (base := base) (n := n) (d := d_is_name) (Φ := fns tbl n) F_is_name sc_is_name rfl rfl fun cdv A outer s H E hr => b_is_name (fns_noal tbl n) C G hr
    have o_rises := fn_ok (P := P) (w := w) (mg := mg) (base := base) (n := n) (d := d_rises) (Φ := fns tbl n) F_rises sc_rises rfl rfl fun cdv A outer s H E hr => b_rises (fns_noal tbl n) C G hr
    have o_is_wiring := fn_ok (P := P) (w := w) (mg := mg) (base := base) (n := n) (d := d_is_wiring) (Φ := fns tbl n) F_is_wiring sc_is_wiring rfl rfl fun cdv A outer s H E hr => b_is_wiring (fns_noal tbl n) C G hr
    have o_l_box := fn_ok (P := P) (w := w) (mg := mg) (base := base) (n := n) (d := d_l_box) (Φ := fns tbl n) F_l_box sc_l_box rfl rfl fun cdv A outer s H E hr => b_l_box (fns_noal tbl n) C G hr
    have o_l_take := fn_ok (P := P) (w := w) (mg := mg) (base := base) (n := n) (d := d_l_take) (Φ := fns tbl n) F_l_take sc_l_take rfl rfl fun cdv A outer s H E hr => b_l_take (fns_noal tbl n) C G hr
    have o_l_cells := fn_ok (P := P) (w := w) (mg := mg) (base := base) (n := n) (d := d_l_cells) (Φ := fns tbl n) F_l_cells sc_l_cells rfl rfl fun cdv A outer s H E hr => b_l_cells (fns_noal tbl n) C G hr
    have o_l_of := fn_ok (P := P) (w := w) (mg := mg) (base := base) (n := n) (d := d_l_of) (Φ := fns tbl n) F_l_of sc_l_of rfl rfl fun cdv A outer s H E hr => b_l_of (fns_noal tbl n) C G hr
    have o_l_pick := fn_ok (P := P) (w := w) (mg := mg) (base := base) (n := n) (d := d_l_pick) (Φ := fns tbl n) F_l_pick sc_l_pick rfl rfl fun cdv A outer s H E hr => b_l_pick (fns_noal tbl n) C G hr
    have o_l_same := fn_ok (P := P) (w := w) (mg := mg) (base := base) (n := n) (d := d_l_same) (Φ := fns tbl n) F_l_same sc_l_same rfl rfl fun cdv A outer s H E hr => b_l_same (fns_noal tbl n) C G hr
    have o_l_web := fn_ok (P := P) (w := w) (mg := mg) (base := base) (n := n) (d := d_l_web) (Φ := fns tbl n) F_l_web sc_l_web rfl rfl fun cdv A outer s H E hr => b_l_web (fns_noal tbl n) C G hr
    have o_l_is_mark := fn_ok (P := P) (w := w) (mg := mg) (base := base) (n := n) (d := d_l_is_mark) (Φ := fns tbl n) F_l_is_mark sc_l_is_mark rfl rfl fun cdv A outer s H E hr => b_l_is_mark (fns_noal tbl n) C G hr
    have o_l_is_web := fn_ok (P := P) (w := w) (mg := mg) (base := base) (n := n) (d := d_l_is_web) (Φ := fns tbl n) F_l_is_web sc_l_is_web rfl rfl fun cdv A outer s H E hr => b_l_is_web (fns_noal tbl n) C G hr
    have o_l_spoilt := fn_ok (P := P) (w := w) (mg := mg) (base := base) (n := n) (d := d_l_spoilt) (Φ := fns tbl n) F_l_spoilt sc_l_spoilt rfl rfl fun cdv A outer s H E hr => b_l_spoilt (fns_noal tbl n) C G hr
    have o_l_hand_right := fn_ok (P := P) (w := w) (mg := mg) (base := base) (n := n) (d := d_l_hand_right) (Φ := fns tbl n) F_l_hand_right sc_l_hand_right rfl rfl fun cdv A outer s H E hr => b_l_hand_right (fns_noal tbl n) C G hr
    have o_l_right := fn_ok (P := P) (w := w) (mg := mg) (base := base) (n := n) (d := d_l_right) (Φ := fns tbl n) F_l_right sc_l_right rfl rfl fun cdv A outer s H E hr => b_l_right (fns_noal tbl n) C G hr
    have o_law := fn_ok (P := P) (w := w) (mg := mg) (base := base) (n := n) (d := d_law) (Φ := fns tbl n) F_law sc_law rfl rfl fun cdv A outer s H E hr => b_law (fns_noal tbl n) C G hr
    exact { c_is_name := hasS m_is_name F_is_name.kp bi_is_name (by kernel_rfl) o_is_name, c_rises := hasS m_rises F_rises.kp bi_rises (by kernel_rfl) o_rises, c_is_wiring := hasS m_is_wiring F_is_wiring.kp bi_is_wiring (by kernel_rfl) o_is_wiring, c_l_box := hasS m_l_box F_l_box.kp bi_l_box (by kernel_rfl) o_l_box, c_l_take := hasS m_l_take F_l_take.kp bi_l_take (by kernel_rfl) o_l_take, c_l_cells := hasS m_l_cells F_l_cells.kp bi_l_cells (by kernel_rfl) o_l_cells, c_l_of := hasS m_l_of F_l_of.kp bi_l_of (by kernel_rfl) o_l_of, c_l_pick := hasS m_l_pick F_l_pick.kp bi_l_pick (by kernel_rfl) o_l_pick, c_l_same := hasS m_l_same F_l_same.kp bi_l_same (by kernel_rfl) o_l_same, c_l_web := hasS m_l_web F_l_web.kp bi_l_web (by kernel_rfl) o_l_web, c_l_is_mark := hasS m_l_is_mark F_l_is_mark.kp bi_l_is_mark (by kernel_rfl) o_l_is_mark, c_l_is_web := hasS m_l_is_web F_l_is_web.kp bi_l_is_web (by kernel_rfl) o_l_is_web, c_l_spoilt := hasS m_l_spoilt F_l_spoilt.kp bi_l_spoilt (by kernel_rfl) o_l_spoilt, c_l_hand_right := hasS m_l_hand_right F_l_hand_right.kp bi_l_hand_right (by kernel_rfl) o_l_hand_right, c_l_right := hasS m_l_right F_l_right.kp bi_l_right (by kernel_rfl) o_l_right, c_law := hasS m_law F_law.kp bi_law (by kernel_rfl) o_law, k_is_wiring := hasKS m_is_wiring F_is_wiring.kp kb_is_wiring (by kernel_rfl) o_is_wiring }
theorem all_mk {l : PySem.W.OpenLaw} {w : World} {K : PySem.W.Frag} {h : Heap} {mg : Str → Option Value} {fa : Addr} (X : K.In h) (Gh : h.Ns mainGlobals mg) (hfa : mg "law" = some (.ref fa))
    {f_is_name : Addr} {oc_is_name kV_is_name dc_is_name pm_is_name cd_is_name ct_is_name : Value} {od_is_name an_is_name : Option Addr} {sl_is_name : Array (Option Value)}
    (a_is_name : PySem.W.nsIn K mainGlobals "is_name" = some (some (.ref f_is_name))) (l_is_name : K.lookup f_is_name = some ⟨oc_is_name, od_is_name, .func (PySem.W.fnOf "is_name" "is_name" (defArgs s_is_name) (defBody s_is_name) (defScope s_is_name) .none kV_is_name dc_is_name pm_is_name an_is_name cd_is_name ct_is_name), sl_is_name⟩) (c_is_name : PySem.W.codeIn K cd_is_name "is_name" = true) (k_is_name : PySem.W.keepIn K (.ref f_is_name) = true)
    {f_rises : Addr} {oc_rises kV_rises dc_rises pm_rises cd_rises ct_rises : Value} {od_rises an_rises : Option Addr} {sl_rises : Array (Option Value)}
    (a_rises : PySem.W.nsIn K mainGlobals "rises" = some (some (.ref f_rises))) (l_rises : K.lookup f_rises = some ⟨oc_rises, od_rises, .func (PySem.W.fnOf "rises" "rises" (defArgs s_rises) (defBody s_rises) (defScope s_rises) .none kV_rises dc_rises pm_rises an_rises cd_rises ct_rises), sl_rises⟩) (c_rises : PySem.W.codeIn K cd_rises "rises" = true) (k_rises : PySem.W.keepIn K (.ref f_rises) = true)
    {f_is_wiring : Addr} {oc_is_wiring kV_is_wiring dc_is_wiring pm_is_wiring cd_is_wiring ct_is_wiring : Value} {od_is_wiring an_is_wiring : Option Addr} {sl_is_wiring : Array (Option Value)}
    (a_is_wiring : PySem.W.nsIn K mainGlobals "is_wiring" = some (some (.ref f_is_wiring))) (l_is_wiring : K.lookup f_is_wiring = some ⟨oc_is_wiring, od_is_wiring, .func (PySem.W.fnOf "is_wiring" "is_wiring" (defArgs s_is_wiring) (defBody s_is_wiring) (defScope s_is_wiring) .none kV_is_wiring dc_is_wiring pm_is_wiring an_is_wiring cd_is_wiring ct_is_wiring), sl_is_wiring⟩) (c_is_wiring : PySem.W.codeIn K cd_is_wiring "is_wiring" = true) (k_is_wiring : PySem.W.keepIn K (.ref f_is_wiring) = true)
    {f_l_box : Addr} {oc_l_box kV_l_box dc_l_box pm_l_box cd_l_box ct_l_box : Value} {od_l_box an_l_box : Option Addr} {sl_l_box : Array (Option Value)}
    (a_l_box : PySem.W.nsIn K mainGlobals "_law_box" = some (some (.ref f_l_box))) (l_l_box : K.lookup f_l_box = some ⟨oc_l_box, od_l_box, .func (PySem.W.fnOf "_law_box" "_law_box" (defArgs s_l_box) (defBody s_l_box) (defScope s_l_box) .none kV_l_box dc_l_box pm_l_box an_l_box cd_l_box ct_l_box), sl_l_box⟩) (c_l_box : PySem.W.codeIn K cd_l_box "_law_box" = true) (k_l_box : PySem.W.keepIn K (.ref f_l_box) = true)
    {f_l_take : Addr} {oc_l_take kV_l_take dc_l_take pm_l_take cd_l_take ct_l_take : Value} {od_l_take an_l_take : Option Addr} {sl_l_take : Array (Option Value)}
    (a_l_take : PySem.W.nsIn K mainGlobals "_law_take" = some (some (.ref f_l_take))) (l_l_take : K.lookup f_l_take = some ⟨oc_l_take, od_l_take, .func (PySem.W.fnOf "_law_take" "_law_take" (defArgs s_l_take) (defBody s_l_take) (defScope s_l_take) .none kV_l_take dc_l_take pm_l_take an_l_take cd_l_take ct_l_take), sl_l_take⟩) (c_l_take : PySem.W.codeIn K cd_l_take "_law_take" = true) (k_l_take : PySem.W.keepIn K (.ref f_l_take) = true)
    {f_l_cells : Addr} {oc_l_cells kV_l_cells dc_l_cells pm_l_cells cd_l_cells ct_l_cells : Value} {od_l_cells an_l_cells : Option Addr} {sl_l_cells : Array (Option Value)}
    (a_l_cells : PySem.W.nsIn K mainGlobals "_law_cells" = some (some (.ref f_l_cells))) (l_l_cells : K.lookup f_l_cells = some ⟨oc_l_cells, od_l_cells, .func (PySem.W.fnOf "_law_cells" "_law_cells" (defArgs s_l_cells) (defBody s_l_cells) (defScope s_l_cells) .none kV_l_cells dc_l_cells pm_l_cells an_l_cells cd_l_cells ct_l_cells), sl_l_cells⟩) (c_l_cells : PySem.W.codeIn K cd_l_cells "_law_cells" = true) (k_l_cells : PySem.W.keepIn K (.ref f_l_cells) = true)
    {f_l_of : Addr} {oc_l_of kV_l_of dc_l_of pm_l_of cd_l_of ct_l_of : Value} {od_l_of an_l_of : Option Addr} {sl_l_of : Array (Option Value)}
    (a_l_of : PySem.W.nsIn K mainGlobals "_law_of" = some (some (.ref f_l_of))) (l_l_of : K.lookup f_l_of = some ⟨oc_l_of, od_l_of, .func (PySem.W.fnOf "_law_of" "_law_of" (defArgs s_l_of) (defBody s_l_of) (defScope s_l_of) .none kV_l_of dc_l_of pm_l_of an_l_of cd_l_of ct_l_of), sl_l_of⟩) (c_l_of : PySem.W.codeIn K cd_l_of "_law_of" = true) (k_l_of : PySem.W.keepIn K (.ref f_l_of) = true)
    {f_l_pick : Addr} {oc_l_pick kV_l_pick dc_l_pick pm_l_pick cd_l_pick ct_l_pick : Value} {od_l_pick an_l_pick : Option Addr} {sl_l_pick : Array (Option Value)}
    (a_l_pick : PySem.W.nsIn K mainGlobals "_law_pick" = some (some (.ref f_l_pick))) (l_l_pick : K.lookup f_l_pick = some ⟨oc_l_pick, od_l_pick, .func (PySem.W.fnOf "_law_pick" "_law_pick" (defArgs s_l_pick) (defBody s_l_pick) (defScope s_l_pick) .none kV_l_pick dc_l_pick pm_l_pick an_l_pick cd_l_pick ct_l_pick), sl_l_pick⟩) (c_l_pick : PySem.W.codeIn K cd_l_pick "_law_pick" = true) (k_l_pick : PySem.W.keepIn K (.ref f_l_pick) = true)
    {f_l_same : Addr} {oc_l_same kV_l_same dc_l_same pm_l_same cd_l_same ct_l_same : Value} {od_l_same an_l_same : Option Addr} {sl_l_same : Array (Option Value)}
    (a_l_same : PySem.W.nsIn K mainGlobals "_law_same" = some (some (.ref f_l_same))) (l_l_same : K.lookup f_l_same = some ⟨oc_l_same, od_l_same, .func (PySem.W.fnOf "_law_same" "_law_same" (defArgs s_l_same) (defBody s_l_same) (defScope s_l_same) .none kV_l_same dc_l_same pm_l_same an_l_same cd_l_same ct_l_same), sl_l_same⟩) (c_l_same : PySem.W.codeIn K cd_l_same "_law_same" = true) (k_l_same : PySem.W.keepIn K (.ref f_l_same) = true)
    {f_l_web : Addr} {oc_l_web kV_l_web dc_l_web pm_l_web cd_l_web ct_l_web : Value} {od_l_web an_l_web : Option Addr} {sl_l_web : Array (Option Value)}
    (a_l_web : PySem.W.nsIn K mainGlobals "_law_web" = some (some (.ref f_l_web))) (l_l_web : K.lookup f_l_web = some ⟨oc_l_web, od_l_web, .func (PySem.W.fnOf "_law_web" "_law_web" (defArgs s_l_web) (defBody s_l_web) (defScope s_l_web) .none kV_l_web dc_l_web pm_l_web an_l_web cd_l_web ct_l_web), sl_l_web⟩) (c_l_web : PySem.W.codeIn K cd_l_web "_law_web" = true) (k_l_web : PySem.W.keepIn K (.ref f_l_web) = true)
    {f_l_is_mark : Addr} {oc_l_is_mark kV_l_is_mark dc_l_is_mark pm_l_is_mark cd_l_is_mark ct_l_is_mark : Value} {od_l_is_mark an_l_is_mark : Option Addr} {sl_l_is_mark : Array (Option Value)}
    (a_l_is_mark : PySem.W.nsIn K mainGlobals "_law_is_mark" = some (some (.ref f_l_is_mark))) (l_l_is_mark : K.lookup f_l_is_mark = some ⟨oc_l_is_mark, od_l_is_mark, .func (PySem.W.fnOf "_law_is_mark" "_law_is_mark" (defArgs s_l_is_mark) (defBody s_l_is_mark) (defScope s_l_is_mark) .none kV_l_is_mark dc_l_is_mark pm_l_is_mark an_l_is_mark cd_l_is_mark ct_l_is_mark), sl_l_is_mark⟩) (c_l_is_mark : PySem.W.codeIn K cd_l_is_mark "_law_is_mark" = true) (k_l_is_mark : PySem.W.keepIn K (.ref f_l_is_mark) = true)
    {f_l_is_web : Addr} {oc_l_is_web kV_l_is_web dc_l_is_web pm_l_is_web cd_l_is_web ct_l_is_web : Value} {od_l_is_web an_l_is_web : Option Addr} {sl_l_is_web : Array (Option Value)}
    (a_l_is_web : PySem.W.nsIn K mainGlobals "_law_is_web" = some (some (.ref f_l_is_web))) (l_l_is_web : K.lookup f_l_is_web = some ⟨oc_l_is_web, od_l_is_web, .func (PySem.W.fnOf "_law_is_web" "_law_is_web" (defArgs s_l_is_web) (defBody s_l_is_web) (defScope s_l_is_web) .none kV_l_is_web dc_l_is_web pm_l_is_web an_l_is_web cd_l_is_web ct_l_is_web), sl_l_is_web⟩) (c_l_is_web : PySem.W.codeIn K cd_l_is_web "_law_is_web" = true) (k_l_is_web : PySem.W.keepIn K (.ref f_l_is_web) = true)
    {f_l_spoilt : Addr} {oc_l_spoilt kV_l_spoilt dc_l_spoilt pm_l_spoilt cd_l_spoilt ct_l_spoilt : Value} {od_l_spoilt an_l_spoilt : Option Addr} {sl_l_spoilt : Array (Option Value)}
    (a_l_spoilt : PySem.W.nsIn K mainGlobals "_law_spoilt" = some (some (.ref f_l_spoilt))) (l_l_spoilt : K.lookup f_l_spoilt = some ⟨oc_l_spoilt, od_l_spoilt, .func (PySem.W.fnOf "_law_spoilt" "_law_spoilt" (defArgs s_l_spoilt) (defBody s_l_spoilt) (defScope s_l_spoilt) .none kV_l_spoilt dc_l_spoilt pm_l_spoilt an_l_spoilt cd_l_spoilt ct_l_spoilt), sl_l_spoilt⟩) (c_l_spoilt : PySem.W.codeIn K cd_l_spoilt "_law_spoilt" = true) (k_l_spoilt : PySem.W.keepIn K (.ref f_l_spoilt) = true)
    {f_l_hand_right : Addr} {oc_l_hand_right kV_l_hand_right dc_l_hand_right pm_l_hand_right cd_l_hand_right ct_l_hand_right : Value} {od_l_hand_right an_l_hand_right : Option Addr} {sl_l_hand_right : Array (Option Value)}
    (a_l_hand_right : PySem.W.nsIn K mainGlobals "_law_hand_right" = some (some (.ref f_l_hand_right))) (l_l_hand_right : K.lookup f_l_hand_right = some ⟨oc_l_hand_right, od_l_hand_right, .func (PySem.W.fnOf "_law_hand_right" "_law_hand_right" (defArgs s_l_hand_right) (defBody s_l_hand_right) (defScope s_l_hand_right) .none kV_l_hand_right dc_l_hand_right pm_l_hand_right an_l_hand_right cd_l_hand_right ct_l_hand_right), sl_l_hand_right⟩) (c_l_hand_right : PySem.W.codeIn K cd_l_hand_right "_law_hand_right" = true) (k_l_hand_right : PySem.W.keepIn K (.ref f_l_hand_right) = true)
    {f_l_right : Addr} {oc_l_right kV_l_right dc_l_right pm_l_right cd_l_right ct_l_right : Value} {od_l_right an_l_right : Option Addr} {sl_l_right : Array (Option Value)}
    (a_l_right : PySem.W.nsIn K mainGlobals "_law_right" = some (some (.ref f_l_right))) (l_l_right : K.lookup f_l_right = some ⟨oc_l_right, od_l_right, .func (PySem.W.fnOf "_law_right" "_law_right" (defArgs s_l_right) (defBody s_l_right) (defScope s_l_right) .none kV_l_right dc_l_right pm_l_right an_l_right cd_l_right ct_l_right), sl_l_right⟩) (c_l_right : PySem.W.codeIn K cd_l_right "_law_right" = true) (k_l_right : PySem.W.keepIn K (.ref f_l_right) = true)
    {f_law : Addr} {oc_law kV_law dc_law pm_law cd_law ct_law : Value} {od_law an_law : Option Addr} {sl_law : Array (Option Value)}
    (a_law : PySem.W.nsIn K mainGlobals "law" = some (some (.ref f_law))) (l_law : K.lookup f_law = some ⟨oc_law, od_law, .func (PySem.W.fnOf "law" "law" (defArgs s_law) (defBody s_law) (defScope s_law) .none kV_law dc_law pm_law an_law cd_law ct_law), sl_law⟩) (c_law : PySem.W.codeIn K cd_law "law" = true) (k_law : PySem.W.keepIn K (.ref f_law) = true)
    (z_abs : PySem.W.nsIn K mainGlobals "abs" = some none)
    (z_all : PySem.W.nsIn K mainGlobals "all" = some none)
    (z_bool : PySem.W.nsIn K mainGlobals "bool" = some none)
    (z_enumerate : PySem.W.nsIn K mainGlobals "enumerate" = some none)
    (z_int : PySem.W.nsIn K mainGlobals "int" = some none)
    (z_isinstance : PySem.W.nsIn K mainGlobals "isinstance" = some none)
    (z_len : PySem.W.nsIn K mainGlobals "len" = some none)
    (z_list : PySem.W.nsIn K mainGlobals "list" = some none)
    (z_max : PySem.W.nsIn K mainGlobals "max" = some none)
    (z_min : PySem.W.nsIn K mainGlobals "min" = some none)
    (z_range : PySem.W.nsIn K mainGlobals "range" = some none)
    (z_sorted : PySem.W.nsIn K mainGlobals "sorted" = some none)
    (z_str : PySem.W.nsIn K mainGlobals "str" = some none)
    (z_tuple : PySem.W.nsIn K mainGlobals "tuple" = some none)
    (z_zip : PySem.W.nsIn K mainGlobals "zip" = some none)
    {u_LETTERS : Value} (y_LETTERS : PySem.W.nsIn K mainGlobals "LETTERS" = some (some u_LETTERS)) (r_LETTERS : RelV (.str "abcdefghijklmnopqrstuvwxyz") u_LETTERS)
    {u_SIGNS : Value} (y_SIGNS : PySem.W.nsIn K mainGlobals "SIGNS" = some (some u_SIGNS)) (r_SIGNS : RelV (.str "abcdefghijklmnopqrstuvwxyz0123456789.") u_SIGNS)
    (n : Nat) : ∃ fd : FuncData, (∀ (s : Shared) (v : Value), BindsTo s fd ⟨[v], []⟩ [("_law_script", v)]) ∧ ∀ base : Heap, K.In base → base.Ns mainGlobals mg → FnOk l.prog w K mg base CX0 (n + 1) fa fd ["_law_script"] (spD K (fns tbl (n + 1) "law")) := by
  have e := hfa.symm.trans (PySem.W.mg_of X Gh a_law)
  cases e
  have F_is_name := fun_mk (st := s_is_name) l_is_name c_is_name k_is_name
  have bi_is_name := F_is_name.binds (ps := ["thing"]) fun _ _ _ _ _ _ us hl => match us, hl with | [_], _ => rfl
  have F_rises := fun_mk (st := s_rises) l_rises c_rises k_rises
  have bi_rises := F_rises.binds (ps := ["row"]) fun _ _ _ _ _ _ us hl => match us, hl with | [_], _ => rfl
  have F_is_wiring := fun_mk (st := s_is_wiring) l_is_wiring c_is_wiring k_is_wiring
  have bi_is_wiring := F_is_wiring.binds (ps := ["thing"]) fun _ _ _ _ _ _ us hl => match us, hl with | [_], _ => rfl
  have F_l_box := fun_mk (st := s_l_box) l_l_box c_l_box k_l_box
  have bi_l_box := F_l_box.binds (ps := ["_law_script", "_law_k"]) fun _ _ _ _ _ _ us hl => match us, hl with | [_, _], _ => rfl
  have F_l_take := fun_mk (st := s_l_take) l_l_take c_l_take k_l_take
  have bi_l_take := F_l_take.binds (ps := ["_law_box_here", "_law_below"]) fun _ _ _ _ _ _ us hl => match us, hl with | [_, _], _ => rfl
  have F_l_cells := fun_mk (st := s_l_cells) l_l_cells c_l_cells k_l_cells
  have bi_l_cells := F_l_cells.binds (ps := ["_law_script", "_law_most"]) fun _ _ _ _ _ _ us hl => match us, hl with | [_, _], _ => rfl
  have F_l_of := fun_mk (st := s_l_of) l_l_of c_l_of k_l_of
  have bi_l_of := F_l_of.binds (ps := ["_law_box_here", "_law_some"]) fun _ _ _ _ _ _ us hl => match us, hl with | [_, _], _ => rfl
  have F_l_pick := fun_mk (st := s_l_pick) l_l_pick c_l_pick k_l_pick
  have bi_l_pick := F_l_pick.binds (ps := ["_law_box_here", "_law_pool", "_law_size_so"]) fun _ _ _ _ _ _ us hl => match us, hl with | [_, _, _], _ => rfl
  have F_l_same := fun_mk (st := s_l_same) l_l_same c_l_same k_l_same
  have bi_l_same := F_l_same.binds (ps := ["_law_got", "_law_due"]) fun _ _ _ _ _ _ us hl => match us, hl with | [_, _], _ => rfl
  have F_l_web := fun_mk (st := s_l_web) l_l_web c_l_web k_l_web
  have bi_l_web := F_l_web.binds (ps := ["_law_box_here", "_law_most", "_law_spots"]) fun _ _ _ _ _ _ us hl => match us, hl with | [_, _, _], _ => rfl
  have F_l_is_mark := fun_mk (st := s_l_is_mark) l_l_is_mark c_l_is_mark k_l_is_mark
  have bi_l_is_mark := F_l_is_mark.binds (ps := ["_law_matter"]) fun _ _ _ _ _ _ us hl => match us, hl with | [_], _ => rfl
  have F_l_is_web := fun_mk (st := s_l_is_web) l_l_is_web c_l_is_web k_l_is_web
  have bi_l_is_web := F_l_is_web.binds (ps := ["_law_matter"]) fun _ _ _ _ _ _ us hl => match us, hl with | [_], _ => rfl
  have F_l_spoilt := fun_mk (st := s_l_spoilt) l_l_spoilt c_l_spoilt k_l_spoilt
  have bi_l_spoilt := F_l_spoilt.binds (ps := ["_law_box_here", "_law_matter", "_law_pool", "_law_deep"]) fun _ _ _ _ _ _ us hl => match us, hl with | [_, _, _, _], _ => rfl
  have F_l_hand_right := fun_mk (st := s_l_hand_right) l_l_hand_right c_l_hand_right k_l_hand_right
  have bi_l_hand_right := F_l_hand_right.binds (ps := []) fun _ _ _ _ _ _ us hl => match us, hl with | [], _ => rfl
  have F_l_right := fun_mk (st := s_l_right) l_l_right c_l_right k_l_right
  have bi_l_right := F_l_right.binds (ps := ["_law_box_here"]) fun _ _ _ _ _ _ us hl => match us, hl with | [_], _ => rfl
  have F_law := fun_mk (st := s_law) l_law c_law k_law
  have bi_law := F_law.binds (ps := ["_law_script"]) fun _ _ _ _ _ _ us hl => match us, hl with | [_], _ => rfl
  have kb_is_wiring : KBinds K (PySem.W.fnOf "is_wiring" "is_wiring" (defArgs s_is_wiring) (defBody s_is_wiring) (defScope s_is_wiring) .none kV_is_wiring dc_is_wiring pm_is_wiring an_is_wiring cd_is_wiring ct_is_wiring) ["thing"] ["thing"] (fun us ws => us ++ ws) (fun vs zs => vs ++ zs) := ⟨fun s us ws _ hl => match us, ws, hl with | [], [_], _ => .of_eq rfl | [_], [], _ => .of_eq rfl, fun r1 r2 => r1.append r2⟩
  have G : Gs mg := { g_abs := PySem.W.mg_none_of X Gh z_abs, g_all := PySem.W.mg_none_of X Gh z_all, g_bool := PySem.W.mg_none_of X Gh z_bool, g_enumerate := PySem.W.mg_none_of X Gh z_enumerate, g_int := PySem.W.mg_none_of X Gh z_int, g_isinstance := PySem.W.mg_none_of X Gh z_isinstance, g_len := PySem.W.mg_none_of X Gh z_len, g_list := PySem.W.mg_none_of X Gh z_list, g_max := PySem.W.mg_none_of X Gh z_max, g_min := PySem.W.mg_none_of X Gh z_min, g_range := PySem.W.mg_none_of X Gh z_range, g_sorted := PySem.W.mg_none_of X Gh z_sorted, g_str := PySem.W.mg_none_of X Gh z_str, g_tuple := PySem.W.mg_none_of X Gh z_tuple, g_zip := PySem.W.mg_none_of X Gh z_zip, v_LETTERS := ⟨_, PySem.W.mg_of X Gh y_LETTERS, r_LETTERS⟩, v_SIGNS := ⟨_, PySem.W.mg_of X Gh y_SIGNS, r_SIGNS⟩ }
  refine ⟨PySem.W.fnOf "law" "law" (defArgs s_law) (defBody s_law) (defScope s_law) .none kV_law dc_law pm_law an_law cd_law ct_law, fun s v => .of_eq rfl, fun base _ _ => ?_⟩
  have C := all_ok (P := l.prog) (w := w) (base := base) G F_is_name (PySem.W.mg_of X Gh a_is_name) bi_is_name F_rises (PySem.W.mg_of X Gh a_rises) bi_rises F_is_wiring (PySem.W.mg_of X Gh a_is_wiring) bi_is_wiring F_l_box (PySem.W.mg_of X Gh a_l_box) bi_l_box F_l_take (PySem.W.mg_of X Gh a_l_take) bi_l_take F_l_cells (PySem.W.mg_of X Gh a_l_cells) bi_l_cells F_l_of (PySem.W.mg_of X Gh a_l_of) bi_l_of F_l_pick (PySem.W.mg_of X Gh a_l_pick) bi_l_pick F_l_same (PySem.W.mg_of X Gh a_l_same) bi_l_same F_l_web (PySem.W.mg_of X Gh a_l_web) bi_l_web F_l_is_mark (PySem.W.mg_of X Gh a_l_is_mark) bi_l_is_mark F_l_is_web (PySem.W.mg_of X Gh a_l_is_web) bi_l_is_web F_l_spoilt (PySem.W.mg_of X Gh a_l_spoilt) bi_l_spoilt F_l_hand_right (PySem.W.mg_of X Gh a_l_hand_right) bi_l_hand_right F_l_right (PySem.W.mg_of X Gh a_l_right) bi_l_right F_law (PySem.W.mg_of X Gh a_law) bi_law kb_is_wiring  n
  have o := fn_ok (n := n) (d := d_law) (Φ := fns tbl n) F_law sc_law rfl rfl fun cdv A outer s H E hr => b_law (fns_noal tbl n) C G hr
  rw [fns_at (tbl := tbl) (d := d_law) (by kernel_rfl)]
  exact o
end
end DI.Law

set_option maxRecDepth 100000
namespace DI.Law
open PySem PySem.Spec
abbrev bx (a b c : Int) : D := .list [.int a, .int b, .int c]
theorem ix0 {a : D} {r : List D} : L2.atI (a :: r) 0 = some a := L2.atI_nat (j := 0) rfl
theorem ix1 {a b : D} {r : List D} : L2.atI (a :: b :: r) 1 = some b := L2.atI_nat (j := 1) rfl
theorem ix2 {a b c : D} {r : List D} : L2.atI (a :: b :: c :: r) 2 = some c := L2.atI_nat (j := 2) rfl
theorem small_of {i : Int} (h : -(2^60) ≤ i) (h2 : i ≤ 2^60) : small64 i = true := by
  unfold small64
  rw [Bool.and_eq_true, decide_eq_true_iff, decide_eq_true_iff]
  omega
theorem f_take (n : Nat) : fns tbl (n + 1) "_law_take" = d_l_take.run (fns tbl n) := fns_at (by kernel_rfl)
theorem f_of (n : Nat) : fns tbl (n + 1) "_law_of" = d_l_of.run (fns tbl n) := fns_at (by kernel_rfl)
theorem f_pick (n : Nat) : fns tbl (n + 1) "_law_pick" = d_l_pick.run (fns tbl n) := fns_at (by kernel_rfl)
theorem f_web (n : Nat) : fns tbl (n + 1) "_law_web" = d_l_web.run (fns tbl n) := fns_at (by kernel_rfl)
theorem take_a {Φ : Fns} (a b c m : Int) (ha : 0 < a) (hm : 0 < m) (hm2 : m < 1073741824) : d_l_take.run Φ [.ow .bor (bx a b c), .im (.int m)] = some (.im (.int (a % m)), [.ow .bor (bx (a / m) b c), .im (.int m)]) := by
  simp [Dfn.run, d_l_take, ix0, ix1, ix2, ha, hm, hm2, L2.ixN]
def once (b c : Int) : Int := (b + 48271 * c) * (39373 + c) % 2147483647
def prng (b c : Int) : Int := ((once b c + c + b / 1000003) * (once b c % 40009 + 7) % 2147483629 * 48271 + once b c) % 2147483587 / 64
theorem take_b {Φ : Fns} (a b c m : Int) (ha : ¬ 0 < a) (hm : 0 < m) (hc : 0 ≤ c) (hc2 : c < 2^59) : d_l_take.run Φ [.ow .bor (bx a b c), .im (.int m)] = some (.im (.int (prng b (c + 1) % m)), [.ow .bor (bx a b (c + 1)), .im (.int m)]) := by
  have e1 : small64 (39373 + (c + 1)) = true := small_of (by omega) (by omega)
  have e2 : ∀ x : Int, small64 (x % 40009 + 7) = true := fun x => small_of (by omega) (by omega)
  have e3 : small64 48271 = true := by decide
  simp [Dfn.run, d_l_take, ix0, ix1, ix2, ha, hm, L2.ixN, e1, e2, e3, prng, once]
/-- a draw's box: its counter not above N -/
def BOk (N : Nat) (d : D) : Prop := ∃ a b c : Int, d = bx a b c ∧ 0 ≤ c ∧ c ≤ N
theorem BOk.mono {N M : Nat} {d : D} (h : BOk N d) (l : N ≤ M) : BOk M d := by
  obtain ⟨a, b, c, e, h1, h2⟩ := h
  exact ⟨a, b, c, e, h1, by omega⟩
theorem take_ok {n N : Nat} {d : D} (h : BOk N d) (hN : N < 2^59) {m : Int} (hm : 0 < m) (hm2 : m < 1073741824) : ∃ r d', fns tbl (n + 1) "_law_take" [.ow .bor d, .im (.int m)] = some (.im (.int r), [.ow .bor d', .im (.int m)]) ∧ 0 ≤ r ∧ r < m ∧ BOk (N + 1) d' := by
  obtain ⟨a, b, c, rfl, h1, h2⟩ := h
  rw [f_take]
  by_cases ha : 0 < a
  · exact ⟨_, _, take_a a b c m ha hm hm2, Int.emod_nonneg _ (by omega), Int.emod_lt_of_pos _ hm, a / m, b, c, rfl, h1, by omega⟩
  · exact ⟨_, _, take_b a b c m ha hm h1 (by omega), Int.emod_nonneg _ (by omega), Int.emod_lt_of_pos _ hm, a, b, c + 1, rfl, by omega, by omega⟩
theorem atI_lt {xs : List D} {r : Int} (h0 : 0 ≤ r) (h1 : r < xs.length) : ∃ x, L2.atI xs r = some x ∧ x ∈ xs ∧ L2.ixN xs.length r = some r.toNat ∧ xs[r.toNat]? = some x := by
  have hl : r.toNat < xs.length := by omega
  have e : L2.ixN xs.length r = some r.toNat := by unfold L2.ixN; rw [if_pos h0, if_pos h1]
  refine ⟨xs[r.toNat], ?_, List.getElem_mem hl, e, List.getElem?_eq_getElem hl⟩
  unfold L2.atI
  rw [e]
  exact List.getElem?_eq_getElem hl
/-- a list handed over: as it stands, or lent -/
def lsl (k : Bool) (xs : List D) : Sl := if k then .ow .bor (.list xs) else .im (.list xs)
theorem of_ok {n N : Nat} {d : D} (h : BOk N d) (hN : N < 2^59) {k : Bool} {xs : List D} (h0 : 0 < xs.length) (h1 : xs.length < 1000) : ∃ x d', fns tbl (n + 2) "_law_of" [.ow .bor d, lsl k xs] = some (.im x, [.ow .bor d', lsl k xs]) ∧ x ∈ xs ∧ BOk (N + 1) d' := by
  obtain ⟨r, d', e, r0, r1, hd⟩ := take_ok (n := n) h hN (m := xs.length) (by omega) (by omega)
  obtain ⟨x, g1, g2, _⟩ := atI_lt r0 r1
  refine ⟨x, d', ?_, g2, hd⟩
  rw [f_of]
  cases k <;> simp [Dfn.run, d_l_of, lsl, e, g1]
end DI.Law

set_option maxRecDepth 100000
namespace DI
theorem execs_nx {Φ : Fns} {s : Sm} {r : Sms} {env env1 : Env} {o : Option Out} (h1 : exec Φ s env = some (.nx env1)) (h2 : execs Φ r env1 = o) : execs Φ (.cons s r) env = o := by
  simp only [execs, h1]
  exact h2
theorem execs_rt {Φ : Fns} {s : Sm} {r : Sms} {env env1 : Env} {v : R} (h1 : exec Φ s env = some (.rt v env1)) : execs Φ (.cons s r) env = some (.rt v env1) := by
  simp only [execs, h1]
theorem exec_for {Φ : Fns} {it : It} {tg : Tg} {b : Sms} {env env1 : Env} {ls : List Nat} {ds : List D} {o : Out} (h1 : evI Φ it env = some (ls, ds, env1)) (h2 : forS (forTurn Φ tg b) (lockE env1 ls) ds (lockE env1 ls) = some o) : exec Φ (.for it tg b) env = some (endFor env1 ls o) := by
  simp only [exec, h1]
  change (match forS (forTurn Φ tg b) (lockE env1 ls) ds (lockE env1 ls) with
    | some o => some (endFor env1 ls o)
    | none => none) = _
  rw [h2]
theorem run_rt {Φ : Fns} {d : Dfn} {args : List Sl} {env : Env} {x : D} (hl : args.length = d.np) (h : execs Φ d.body (args ++ List.replicate (d.ns - d.np) .un) = some (.rt (.im x) env)) : d.run Φ args = some (.im x, finSl args env) := by
  rw [run_eq, if_pos hl, h]
  rfl
theorem run_rtf {Φ : Fns} {d : Dfn} {args : List Sl} {env : Env} {x : D} (hl : args.length = d.np) (h : execs Φ d.body (args ++ List.replicate (d.ns - d.np) .un) = some (.rt (.fr x) env)) : d.run Φ args = some (.fr x, finSl args env) := by
  rw [run_eq, if_pos hl, h]
  rfl
theorem forS_nx {f : D → Env → Option Out} {pre env env1 : Env} {d : D} {ds : List D} {o : Option Out} (h1 : f d env = some (.nx env1)) (h2 : forS f pre ds (forget pre env1) = o) : forS f pre (d :: ds) env = o := by
  simp only [forS, h1]
  exact h2
end DI
namespace DI.Law
open PySem PySem.Spec
abbrev pickE (d : D) (p : Sl) (z : Int) (rest some : List D) : Env := [.ow .bor d, p, .im (.int z), .ow .own (.list rest), .ow .own (.list some), .un]
def pickB : Sms := match d_l_pick.body with
  | .cons _ (.cons (.for _ _ b) _) => b
  | _ => .nil
theorem erase_perm : ∀ {l : List D} {i : Nat} {x : D}, l[i]? = some x → (x :: l.eraseIdx i).Perm l
  | [], _, _, h => by simp at h
  | y :: l, 0, x, h => by
    have e : y = x := by simpa using h
    subst e
    exact List.Perm.refl _
  | y :: l, i + 1, x, h => by
    have ih := erase_perm (l := l) (i := i) (x := x) (by simpa using h)
    exact (List.Perm.swap y x _).trans (ih.cons y)
theorem pick_turn {n N : Nat} {d : D} (h : BOk N d) (hN : N < 2^59) {k : Bool} {xs : List D} {z : Int} {rest so : List D} (t : D) (h0 : 0 < rest.length) (h1 : rest.length < 1000) (h2 : so.length < 1000) :
    ∃ d' x i env1, forTurn (fns tbl (n + 1)) (.n 5) pickB t (pickE d (lsl k xs) z rest so) = some (.nx env1) ∧ forget (pickE d (lsl k xs) z rest so) env1 = pickE d' (lsl k xs) z (rest.eraseIdx i) (so ++ [x]) ∧ BOk (N + 1) d' ∧ rest[i]? = some x := by
  obtain ⟨r, d', e, r0, r1, hd⟩ := take_ok (n := n) h hN (m := rest.length) (by omega) (by omega)
  obtain ⟨x, g1, g2, g3, g4⟩ := atI_lt r0 r1
  have lm : so.length < lim := by unfold lim; omega
  have c1 : -9223372036854775808 ≤ r := by omega
  have c2 : r < 9223372036854775808 := by omega
  refine ⟨d', x, r.toNat, [.ow .bor d', lsl k xs, .im (.int z), .ow .own (.list (rest.eraseIdx r.toNat)), .ow .own (.list (so ++ [x])), .im t], ?_, by cases k <;> rfl, hd, g4⟩
  simp [forTurn, pickB, d_l_pick, pickE, e, g3, g4, c1, c2, lm]
theorem pick_loop {n : Nat} {k : Bool} {xs : List D} {z : Int} {pre : Env} (hp : ∀ d rest so e1, forget (pickE d (lsl k xs) z rest so) e1 = forget pre e1) : ∀ (j : Nat) (lo : Int) (N : Nat) (d : D) (rest so : List D), BOk N d → N + j < 2^59 → j ≤ rest.length → rest.length < 1000 → so.length + j < 1000 →
    ∃ d' rest' so', forS (forTurn (fns tbl (n + 1)) (.n 5) pickB) pre (rangeL lo j) (pickE d (lsl k xs) z rest so) = some (.nx (pickE d' (lsl k xs) z rest' so')) ∧ BOk (N + j) d' ∧ (rest' ++ so').Perm (rest ++ so) ∧ so'.length = so.length + j
  | 0, lo, N, d, rest, so, h, hN, h1, h2, h3 => ⟨d, rest, so, rfl, h, List.Perm.refl _, rfl⟩
  | j + 1, lo, N, d, rest, so, h, hN, h1, h2, h3 => by
    obtain ⟨d', x, i, env1, e1, e2, hd, hx⟩ := pick_turn (n := n) h (by omega) (k := k) (xs := xs) (z := z) (rest := rest) (so := so) (.int lo) (by omega) h2 (by omega)
    have hi : i < rest.length := (List.getElem?_eq_some_iff.mp hx).1
    obtain ⟨d2, rest2, so2, f1, f2, f3, f4⟩ := pick_loop hp j (lo + 1) (N + 1) d' (rest.eraseIdx i) (so ++ [x]) hd (by omega) (by rw [List.length_eraseIdx]; split <;> omega) (by rw [List.length_eraseIdx]; split <;> omega) (by rw [List.length_append]; simp only [List.length_cons, List.length_nil]; omega)
    refine ⟨d2, rest2, so2, ?_, f2.mono (by omega), f3.trans ?_, by rw [f4, List.length_append]; simp only [List.length_cons, List.length_nil]; omega⟩
    · show forS _ pre (.int lo :: rangeL (lo + 1) j) _ = _
      refine forS_nx e1 ?_
      rw [← hp d rest so env1, e2]
      exact f1
    · have q := erase_perm hx
      refine List.Perm.trans ?_ (List.Perm.append_right so q)
      have a1 : (rest.eraseIdx i ++ (so ++ [x])).Perm ((so ++ [x]) ++ rest.eraseIdx i) := List.perm_append_comm
      have a2 : ((so ++ [x]) ++ rest.eraseIdx i).Perm (so ++ (x :: rest.eraseIdx i)) := by
        rw [List.append_assoc]
        exact List.Perm.refl _
      exact (a1.trans a2).trans List.perm_append_comm
theorem pick_ok {n N : Nat} {d : D} (h : BOk N d) {k : Bool} {xs : List D} {z : Nat} (hN : N + z < 2^58) (hx : xs.length < 500) (hz : z < 500) : ∃ ys d', fns tbl (n + 2) "_law_pick" [.ow .bor d, lsl k xs, .im (.int z)] = some (.fr (.list ys), [.ow .bor d', lsl k xs, .im (.int z)]) ∧ BOk (N + z) d' ∧ (∃ rest, (rest ++ ys).Perm xs) ∧ ys.length = min z xs.length := by
  obtain ⟨d', rest, so, e, hd, hp, hl⟩ := pick_loop (n := n) (k := k) (xs := xs) (z := z) (pre := pickE d (lsl k xs) z xs []) (fun d rest so e1 => by cases k <;> (match e1 with
    | [] => rfl
    | [_] => rfl
    | [_, _] => rfl
    | [_, _, _] => rfl
    | [_, _, _, _] => rfl
    | [_, _, _, _, _] => rfl
    | _ :: _ :: _ :: _ :: _ :: _ :: _ => rfl)) (min z xs.length) 0 N d xs [] h (by omega) (by omega) (by omega) (by simp only [List.length_nil]; omega)
  refine ⟨so, d', ?_, hd.mono (by omega), ⟨rest, by simpa using hp⟩, by simpa using hl⟩
  rw [f_pick]
  have ei : (if xs.length < z then (xs.length : Int) else (z : Int)) = ((min z xs.length : Nat) : Int) := by
    split <;> omega
  have i62 : in62 ((min z xs.length : Nat) : Int) = true := by
    unfold in62
    rw [Bool.and_eq_true, decide_eq_true_iff, decide_eq_true_iff]
    omega
  have key : execs (fns tbl (n + 1)) d_l_pick.body ([.ow .bor d, lsl k xs, .im (.int z)] ++ List.replicate (d_l_pick.ns - d_l_pick.np) .un) = some (.rt (.fr (.list so)) [.ow .bor d', lsl k xs, .im (.int z), .ow .own (.list rest), .un, .un]) := by
    refine execs_nx (env1 := pickE d (lsl k xs) z xs []) ?_ (execs_nx (env1 := pickE d' (lsl k xs) z rest so) (exec_for (ls := []) (ds := rangeL 0 (min z xs.length)) (env1 := pickE d (lsl k xs) z xs []) ?_ e) ?_)
    · cases k <;> simp [lsl, d_l_pick, pickE, lim]
    · simp [pickE, ei, i62]
    · simp [pickE]
  have := run_rtf (d := d_l_pick) rfl key
  rw [this]
  cases k <;> rfl
end DI.Law

set_option maxRecDepth 100000
namespace DI
open PySem PySem.Spec
theorem sortedD_strs {ss : List Str} (h : ss.length < 63) : sortedD (ss.map .str) = some ((sortBy strLt ss).map .str) := by
  have hs : ∀ ss : List Str, strsD (ss.map .str) = some ss := fun ss => by
    induction ss with
    | nil => rfl
    | cons s ss ih => simp [strsD, ih]
  cases ss with
  | nil => rfl
  | cons s ss =>
    have h2 : ss.length < 63 := by simp only [List.length_cons] at h; omega
    show (match strsD (ss.map .str) with
      | some is => if is.length < 63 then some ((sortBy strLt (s :: is)).map PyData.str) else none
      | none => none) = _
    rw [hs]
    exact if_pos h2
theorem cut_to {xs : List D} {k : Nat} : cutL xs none (some (k : Int)) = xs.take k := by
  unfold cutL
  rw [HT.sIx_none, HT.sIx_nat, List.drop_zero, Nat.sub_zero]
  rcases Nat.le_total k xs.length with h | h
  · rw [Nat.min_eq_left h]
  · rw [Nat.min_eq_right h, List.take_length, List.take_of_length_le h]
theorem sorted_strict {ss : List Str} (nd : ss.Nodup) : (sortBy strLt ss).Pairwise fun a b => strLt a b = true := by
  have h1 := sortBy_sorted (lt := strLt) strLt_tr strLt_as ss
  have h2 : (sortBy strLt ss).Nodup := (sortBy_perm (lt := strLt) ss).nodup_iff.mpr nd
  refine List.Pairwise.imp₂ (fun a b h1 h2 => ?_) h1 h2
  cases e : strLt a b with
  | true => rfl
  | false => exact absurd (strLt_an a b e h1) h2
/-- what is picked from texts is texts, each another one -/
theorem picked {ts : List Str} {rest ys : List D} (h : (rest ++ ys).Perm (ts.map .str)) (nd : ts.Nodup) : ∃ ss : List Str, ys = ss.map .str ∧ ss.Nodup ∧ ∀ s ∈ ss, s ∈ ts := by
  have hm : ∀ y ∈ ys, ∃ s ∈ ts, y = PyData.str s := fun y hy => by
    have := (h.mem_iff (a := y)).mp (List.mem_append_right _ hy)
    obtain ⟨s, h1, h2⟩ := List.mem_map.mp this
    exact ⟨s, h1, h2.symm⟩
  have go : ∀ ys : List D, (∀ y ∈ ys, ∃ s ∈ ts, y = PyData.str s) → ∃ ss : List Str, ys = ss.map .str ∧ ∀ s ∈ ss, s ∈ ts := fun ys => by
    induction ys with
    | nil => exact fun _ => ⟨[], rfl, fun _ h => by cases h⟩
    | cons y ys ih =>
      intro h
      obtain ⟨s, h1, rfl⟩ := h y List.mem_cons_self
      obtain ⟨ss, rfl, h2⟩ := ih fun z hz => h z (List.mem_cons_of_mem _ hz)
      exact ⟨s :: ss, rfl, fun t ht => by
        rcases List.mem_cons.mp ht with rfl | ht
        · exact h1
        · exact h2 t ht⟩
  obtain ⟨ss, rfl, h2⟩ := go ys hm
  refine ⟨ss, rfl, ?_, h2⟩
  have nd2 : (ts.map PyData.str).Nodup := by
    unfold List.Nodup
    rw [List.pairwise_map]
    exact nd.imp fun h z => h (PyData.str.inj z)
  have nd3 := (List.nodup_append.mp (h.nodup_iff.mpr nd2)).2.1
  unfold List.Nodup at nd3
  rw [List.pairwise_map] at nd3
  exact nd3.imp fun h z => h (by rw [z])
end DI
namespace DI.Law
open PySem PySem.Spec
def spotT : List Str := ["a", "b2", "c.x", "k", "m", "n", "q", "s", "t", "z"]
def tagT : List Str := ["a", "c", "d2", "e", "f.f", "k", "l", "n", "p", "r1", "s", "u", "w", "y"]
abbrev W3 := Str × Str × Str
def row3 (r : W3) : D := .tuple [.str r.1, .str r.2.1, .str r.2.2]
abbrev webE (d : D) (pool tags found : List D) : Env := [.ow .bor d, .im (.int 7), .im (.int 5), .ow .own (.list pool), .ow .own (.list tags), .ow .own (.list found), .un, .un, .un]
def webB : Sms := match d_l_web.body with
  | .cons _ (.cons _ (.cons _ (.cons (.for _ _ b) _))) => b
  | _ => .nil
theorem eqv_str (a b : Str) : PyData.eqv (.str a) (.str b) = (a == b) := by simp [PyData.eqv]
theorem web_turn {n N : Nat} {d : D} (h : BOk N d) (hN : N < 2^58) {ps : List Str} {tags found : List D} (t : Str) (hp : 0 < ps.length) (hp2 : ps.length < 100) (hok : ∀ p ∈ ps, SeqAt.shaped (.str p) = true) (hf : found.length < 100) :
    ∃ d' a b env1, forTurn (fns tbl (n + 2)) (.n 6) webB (.str t) (webE d (ps.map .str) tags found) = some (.nx env1) ∧ forget (webE d (ps.map .str) tags found) env1 = webE d' (ps.map .str) tags (found ++ [row3 (t, a, b)]) ∧ BOk (N + 4) d' ∧ a ∈ ps ∧ b ∈ ps := by
  have lp : 0 < (ps.map PyData.str).length := by rw [List.length_map]; exact hp
  have lp2 : (ps.map PyData.str).length < 1000 := by rw [List.length_map]; omega
  obtain ⟨x1, d1, e1, m1, h1⟩ := of_ok (n := n) h (by omega) (k := true) lp lp2
  obtain ⟨a, ma, rfl⟩ := List.mem_map.mp m1
  obtain ⟨x2, d2, e2, m2, h2⟩ := of_ok (n := n) h1 (by omega) (k := true) lp lp2
  obtain ⟨b, mb, rfl⟩ := List.mem_map.mp m2
  obtain ⟨r3, d3, e3, r30, r31, h3⟩ := take_ok (n := n + 1) h2 (by omega) (m := 4) (by omega) (by omega)
  obtain ⟨x4, d4, e4, m4, h4⟩ := of_ok (n := n) h3 (by omega) (k := true) lp lp2
  obtain ⟨c, mc, rfl⟩ := List.mem_map.mp m4
  have sa := hok a ma
  have sb := hok b mb
  have lm : found.length < lim := by unfold lim; omega
  have l3 : 3 ≤ lim := by decide
  simp only [lsl, ↓reduceIte] at e1 e2 e4
  by_cases q : a = b
  · subst q
    by_cases q2 : 0 < r3
    · refine ⟨d4, a, c, [.ow .bor d4, .im (.int 7), .im (.int 5), .ow .own (.list (ps.map .str)), .ow .own (.list tags), .ow .own (.list (found ++ [row3 (t, a, c)])), .im (.str t), .im (.str a), .im (.str c)], ?_, rfl, h4, ma, mc⟩
      simp [forTurn, webB, d_l_web, webE, e1, e2, e3, e4, sa, eqv_str, q2, lm, l3, row3]
    · refine ⟨d3, a, a, [.ow .bor d3, .im (.int 7), .im (.int 5), .ow .own (.list (ps.map .str)), .ow .own (.list tags), .ow .own (.list (found ++ [row3 (t, a, a)])), .im (.str t), .im (.str a), .im (.str a)], ?_, rfl, h3.mono (by omega), ma, mb⟩
      simp [forTurn, webB, d_l_web, webE, e1, e2, e3, sa, eqv_str, q2, lm, l3, row3]
  · refine ⟨d2, a, b, [.ow .bor d2, .im (.int 7), .im (.int 5), .ow .own (.list (ps.map .str)), .ow .own (.list tags), .ow .own (.list (found ++ [row3 (t, a, b)])), .im (.str t), .im (.str a), .im (.str b)], ?_, rfl, h2.mono (by omega), ma, mb⟩
    have qb : (a == b) = false := beq_false_of_ne q
    simp [forTurn, webB, d_l_web, webE, e1, e2, sa, sb, eqv_str, qb, lm, l3, row3]
theorem web_loop {n : Nat} {ps : List Str} {tags : List D} {pre : Env} (hp : 0 < ps.length) (hp2 : ps.length < 100) (hok : ∀ p ∈ ps, SeqAt.shaped (.str p) = true) (hpre : ∀ d found e1, forget (webE d (ps.map .str) tags found) e1 = forget pre e1) : ∀ (ts : List Str) (N : Nat) (d : D) (found : List D), BOk N d → N + 4 * ts.length < 2^57 → found.length + ts.length < 100 →
    ∃ (d' : D) (rs : List W3), forS (forTurn (fns tbl (n + 2)) (.n 6) webB) pre (ts.map .str) (webE d (ps.map .str) tags found) = some (.nx (webE d' (ps.map .str) tags (found ++ rs.map row3))) ∧ BOk (N + 4 * ts.length) d' ∧ rs.map (·.1) = ts ∧ ∀ r ∈ rs, r.2.1 ∈ ps ∧ r.2.2 ∈ ps
  | [], N, d, found, h, hN, hl => ⟨d, [], by simp [forS], h, rfl, fun _ h => by cases h⟩
  | t :: ts, N, d, found, h, hN, hl => by
    simp only [List.length_cons] at hN hl
    obtain ⟨d', a, b, env1, e1, e2, hd, ma, mb⟩ := web_turn (n := n) h (by omega) (tags := tags) (found := found) t hp hp2 hok (by omega)
    obtain ⟨d2, rs, f1, f2, f3, f4⟩ := web_loop hp hp2 hok hpre ts (N + 4) d' (found ++ [row3 (t, a, b)]) hd (by omega) (by rw [List.length_append]; simp only [List.length_cons, List.length_nil]; omega)
    refine ⟨d2, (t, a, b) :: rs, ?_, f2.mono (by simp only [List.length_cons]; omega), by simp [f3], fun r hr => ?_⟩
    · rw [List.map_cons]
      refine forS_nx e1 ?_
      rw [← hpre d found env1, e2, f1, List.append_assoc]
      rfl
    · rcases List.mem_cons.mp hr with rfl | hr
      · exact ⟨ma, mb⟩
      · exact f4 r hr
/-- a web: its rows' tags rise -/
structure WOk (rs : List W3) : Prop where
  ne : rs ≠ []
  le : rs.length ≤ 7
  up : (rs.map (·.1)).Pairwise fun a b => strLt a b = true
  tag : ∀ r ∈ rs, r.1 ∈ tagT ∧ r.2.1 ∈ spotT ∧ r.2.2 ∈ spotT
theorem web_ok {n N : Nat} {d : D} (h : BOk N d) (hN : N < 2^56) : ∃ (rs : List W3) (d' : D), fns tbl (n + 3) "_law_web" [.ow .bor d, .im (.int 7), .im (.int 5)] = some (.im (.tuple (rs.map row3)), [.ow .bor d', .im (.int 7), .im (.int 5)]) ∧ BOk (N + 50) d' ∧ WOk rs := by
  obtain ⟨r1, d1, e1, r10, r11, h1⟩ := take_ok (n := n + 1) h (by omega) (m := 5) (by omega) (by omega)
  obtain ⟨ys, d2, e2, h2, ⟨rest, hp⟩, hl2⟩ := pick_ok (n := n) h1 (k := true) (xs := spotT.map .str) (z := (1 + r1).toNat) (by omega) (by decide) (by omega)
  obtain ⟨ps, rfl, nd, hps⟩ := picked hp (by decide)
  rw [List.length_map, List.length_map] at hl2
  have ls : spotT.length = 10 := rfl
  obtain ⟨zs, d3, e3, h3, ⟨rest2, hp2⟩, hl3⟩ := pick_ok (n := n) h2 (k := true) (xs := tagT.map .str) (z := 7) (by omega) (by decide) (by omega)
  obtain ⟨ss, rfl, nds, hss⟩ := picked hp2 (by decide)
  rw [List.length_map, List.length_map] at hl3
  have lt : tagT.length = 14 := rfl
  obtain ⟨r4, d4, e4, r40, r41, h4⟩ := take_ok (n := n + 1) h3 (by omega) (m := 7) (by omega) (by omega)
  have ml : (sortBy strLt ss).length = ss.length := (sortBy_perm (lt := strLt) ss).length_eq
  obtain ⟨d5, rs, e5, h5, t5, p5⟩ := web_loop (n := n) (ps := ps) (tags := (sortBy strLt ss).map .str) (pre := webE d4 (ps.map .str) ((sortBy strLt ss).map .str) []) (by omega) (by omega)
    (fun p hp => (show ∀ p ∈ spotT, SeqAt.shaped (.str p) = true by decide +kernel) p (hps p hp)) (fun d found e1 => by match e1 with
    | [] => rfl
    | [_] => rfl
    | [_, _] => rfl
    | [_, _, _] => rfl
    | [_, _, _, _] => rfl
    | [_, _, _, _, _] => rfl
    | [_, _, _, _, _, _] => rfl
    | [_, _, _, _, _, _, _] => rfl
    | [_, _, _, _, _, _, _, _] => rfl
    | _ :: _ :: _ :: _ :: _ :: _ :: _ :: _ :: _ :: _ => rfl) ((sortBy strLt ss).take (1 + r4).toNat) (N + 1 + (1 + r1).toNat + 7 + 1) d4 [] h4 (by rw [List.length_take]; omega) (by rw [List.length_take]; simp only [List.length_nil]; omega)
  have len : rs.length = min (1 + r4).toNat (sortBy strLt ss).length := by rw [← List.length_map (f := (·.1)), t5, List.length_take]
  refine ⟨rs, d5, ?_, h5.mono (by rw [List.length_take]; omega), ⟨fun z => ?_, by omega, by rw [t5]; exact (sorted_strict nds).sublist (List.take_sublist _ _), fun r hr => ⟨?_, hps _ (p5 r hr).1, hps _ (p5 r hr).2⟩⟩⟩
  · rw [f_web]
    have key : execs (fns tbl (n + 2)) d_l_web.body ([.ow .bor d, .im (.int 7), .im (.int 5)] ++ List.replicate (d_l_web.ns - d_l_web.np) .un) = some (.rt (.im (.tuple (rs.map row3))) (webE d5 (ps.map .str) ((sortBy strLt ss).map .str) (rs.map row3))) := by
      have z1 : ((1 + r1).toNat : Int) = 1 + r1 := by omega
      have z4 : ((1 + r4).toNat : Int) = 1 + r4 := by omega
      simp only [lsl, ↓reduceIte] at e2 e3
      rw [z1] at e2
      rw [show ((7 : Nat) : Int) = 7 from rfl] at e3
      have c1 : ¬ 1 + r1 < 1 := by omega
      have mx : (if 1 < 1 + r1 then 1 + r1 else 1) = 1 + r1 := by split <;> omega
      refine execs_nx (env1 := [.ow .bor d2, .im (.int 7), .im (.int 5), .ow .own (.list (ps.map .str)), .un, .un, .un, .un, .un]) ?_ (execs_nx (env1 := [.ow .bor d3, .im (.int 7), .im (.int 5), .ow .own (.list (ps.map .str)), .ow .own (.list ((sortBy strLt ss).map .str)), .un, .un, .un, .un]) ?_
        (execs_nx (env1 := webE d3 (ps.map .str) ((sortBy strLt ss).map .str) []) ?_ (execs_nx (exec_for (ls := []) (ds := ((sortBy strLt ss).take (1 + r4).toNat).map .str) (env1 := webE d4 (ps.map .str) ((sortBy strLt ss).map .str) []) ?_ e5) ?_)))
      · have e2' := e2
        simp only [spotT, List.map_cons, List.map_nil] at e2'
        have mx2 : (if 0 < r1 then 1 + r1 else 1) = 1 + r1 := by split <;> omega
        have li : 10 ≤ lim := by decide
        simp [d_l_web, e1, mx, mx2, e2', li]
      · have e3' := e3
        simp only [tagT, List.map_cons, List.map_nil] at e3'
        have li : 14 ≤ lim := by decide
        have so : sortedD (ss.map .str) = some ((sortBy strLt ss).map .str) := sortedD_strs (by omega)
        simp [e3', li, so]
      · simp [webE, lim]
      · have cu := cut_to (xs := (sortBy strLt ss).map .str) (k := (1 + r4).toNat)
        rw [z4] at cu
        simp [webE, e4, cu, List.map_take]
      · simp [webE, unlockE]
    have := run_rt (d := d_l_web) rfl key
    rw [this]
    rfl
  · subst z
    simp only [List.length_nil] at len
    omega
  · have : r.1 ∈ rs.map (·.1) := List.mem_map_of_mem hr
    rw [t5] at this
    exact hss _ ((sortBy_perm (lt := strLt) ss).mem_iff.mp (List.mem_of_mem_take this))
end DI.Law

set_option maxRecDepth 100000
namespace DI
open PySem PySem.Spec
theorem goL_map {f : D → Env → Option (Option D × Env)} {g : D → Option D} {en : Env} : ∀ {ds : List D}, (∀ d ∈ ds, f d en = some (g d, en)) → goL f ds en = some (ds.filterMap g, en)
  | [], _ => rfl
  | d :: ds, h => by
    simp only [goL, h d List.mem_cons_self, goL_map (ds := ds) fun x hx => h x (List.mem_cons_of_mem _ hx)]
    rw [List.filterMap_cons]
    cases g d <;> rfl
theorem lc_map {Φ : Fns} {vs : List Nat} {it : It} {tg : Tg} {tt e : Xp} {env env1 env2 : Env} {ls : List Nat} {ds : List D} (g : D → Option D) (h1 : evI Φ it env = some (ls, ds, env1)) (hf : freeE env1 vs = true) (hl : ds.length ≤ lim)
    (ht : ∀ d ∈ ds, lcTurn Φ vs tg tt e d (wipeE (lockE env1 ls) vs) = some (g d, wipeE (lockE env1 ls) vs)) (he : unlockE env1 (backE (lockE env1 ls) (wipeE (lockE env1 ls) vs) vs) ls = env2) : ev Φ (.lc vs it tg tt e) env = some (.fr (.list (ds.filterMap g)), env2) := by
  simp only [ev, h1]
  rw [if_pos (by rw [Bool.and_eq_true, decide_eq_true_iff]; exact ⟨hf, hl⟩)]
  change (match goL (lcTurn Φ vs tg tt e) ds (wipeE (lockE env1 ls) vs) with
    | some (ys, en) => some (R.fr (.list ys), unlockE env1 (backE (lockE env1 ls) en vs) ls)
    | none => none) = _
  rw [goL_map ht]
  dsimp only
  rw [he]
theorem ev_bi1 {Φ : Fns} {x : Xp} {f : B} {env env1 : Env} {r r' : R} {d : D} (h : ev Φ x env = some (r, env1)) (hv : r.val env1 = some d) (hb : biD f [d] = some r') : ev Φ (.bi f (.cons x .nil)) env = some (r', env1) := by
  have e : evR Φ (.cons x .nil) env = some ([r], env1) := by simp only [evR, h]
  have v : valsR env1 [r] = some [d] := by simp only [valsR, hv]
  simp only [ev, e, v, hb]
theorem ev_cmp' {Φ : Fns} {o : CmpOp} {a b : Xp} {env env1 env2 : Env} {ra rb : R} {x y : D} {k : Bool} (h1 : ev Φ a env = some (ra, env1)) (h2 : ev Φ b env1 = some (rb, env2)) (v1 : ra.val env2 = some x) (v2 : rb.val env2 = some y) (hc : cmpD o x y = some k) : ev Φ (.cmp o a b) env = some (.im (.bool k), env2) := by
  simp only [ev, h1, h2, v1, v2, hc]
theorem exec_ret {Φ : Fns} {x : Xp} {env env1 : Env} {d : D} (h : ev Φ x env = some (.im d, env1)) : exec Φ (.ret x) env = some (.rt (.im d) env1) := by
  simp only [exec, h, retR]
theorem ev_call1f {Φ : Fns} {f : Str} {x : Xp} {env env1 : Env} {d d' : D} {r' : R} (h : ev Φ x env = some (.fr d, env1)) (hc : Φ f [.ow .bor d] = some (r', [.ow .bor d'])) : ev Φ (.call f (.cons x .nil)) env = some (r', env1) := by
  have e : evR Φ (.cons x .nil) env = some ([.fr d], env1) := by simp only [evR, h]
  simp only [ev, e]
  simp [hc]
theorem ev_not {Φ : Fns} {a : Xp} {env env1 : Env} {k : Bool} (h : ev Φ a env = some (.im (.bool k), env1)) : ev Φ (.notX a) env = some (.im (.bool (!k)), env1) := by
  simp only [ev, h, R.val, Option.bind, truthD]
theorem ev_or0 {Φ : Fns} {a b : Xp} {env env1 : Env} {k : Bool} {o : Option (R × Env)} (h : ev Φ a env = some (.im (.bool k), env1)) (hk : k = false) (h2 : ev Φ b env1 = o) : ev Φ (.orX a b) env = o := by
  subst hk
  simp only [ev, h, R.val, Option.bind, truthD]
  exact h2
theorem ev_or1 {Φ : Fns} {a b : Xp} {env env1 : Env} {k : Bool} (h : ev Φ a env = some (.im (.bool k), env1)) (hk : k = true) : ev Φ (.orX a b) env = some (.im (.bool true), env1) := by
  subst hk
  simp only [ev, h, R.val, Option.bind, truthD]
theorem tst_eq {Φ : Fns} {a : Xp} {env env1 : Env} {r : R} {d : D} {k : Bool} (h : ev Φ a env = some (r, env1)) (hv : r.val env1 = some d) (ht : truthD d = some k) : tstX Φ a env = some (k, env1) := by
  simp only [tstX, h, hv, Option.bind, ht]
theorem if_t {Φ : Fns} {t : Xp} {a b : Sms} {env env1 : Env} {o : Option Out} (h : tstX Φ t env = some (true, env1)) (h2 : execs Φ a env1 = o) : exec Φ (.iff t a b) env = o := by
  simp only [exec, h]
  exact h2
theorem if_f {Φ : Fns} {t : Xp} {a b : Sms} {env env1 : Env} {o : Option Out} (h : tstX Φ t env = some (false, env1)) (h2 : execs Φ b env1 = o) : exec Φ (.iff t a b) env = o := by
  simp only [exec, h]
  exact h2
theorem execs_one {Φ : Fns} {s : Sm} {env : Env} {o : Out} (h : exec Φ s env = some o) : execs Φ (.cons s .nil) env = some o := by
  simp only [execs, h]
  cases o <;> rfl
theorem turn_if {Φ : Fns} {tg : Tg} {s : Sm} {d : D} {env env1 : Env} {o : Out} (h1 : bindT tg d env = some env1) (h2 : exec Φ s env1 = some o) : forTurn Φ tg (.cons s .nil) d env = some o := by
  simp only [forTurn, h1]
  exact execs_one h2
theorem blsD_map {α : Type} (p : α → Bool) : ∀ l : List α, blsD (l.map fun x => .bool (p x)) = some (l.map p)
  | [] => rfl
  | x :: l => by simp [blsD, blsD_map p l]
theorem cut_from1 {xs : List D} : cutL xs (some 1) none = xs.drop 1 := by
  unfold cutL
  rw [show (1 : Int) = ((1 : Nat) : Int) from rfl, HT.sIx_none, HT.sIx_nat]
  cases xs with
  | nil => rfl
  | cons x xs =>
    rw [show min 1 (x :: xs).length = 1 by rw [List.length_cons]; omega]
    exact List.take_of_length_le (by rw [List.length_drop]; omega)
end DI
namespace DI.Law
open PySem PySem.Spec
theorem f_is_name (n : Nat) : fns tbl (n + 1) "is_name" = d_is_name.run (fns tbl n) := fns_at (by kernel_rfl)
theorem f_rises (n : Nat) : fns tbl (n + 1) "rises" = d_rises.run (fns tbl n) := fns_at (by kernel_rfl)
theorem f_is_wiring (n : Nat) : fns tbl (n + 1) "is_wiring" = d_is_wiring.run (fns tbl n) := fns_at (by kernel_rfl)
theorem f_is_mark (n : Nat) : fns tbl (n + 1) "_law_is_mark" = d_l_is_mark.run (fns tbl n) := fns_at (by kernel_rfl)
theorem f_is_web (n : Nat) : fns tbl (n + 1) "_law_is_web" = d_l_is_web.run (fns tbl n) := fns_at (by kernel_rfl)
def letT : Str := "abcdefghijklmnopqrstuvwxyz"
def sigT : Str := "abcdefghijklmnopqrstuvwxyz0123456789."
def nameL (cs : List Nat) : Bool := match cs with
  | [] => false
  | c :: r => decide (c ∈ letT.cps.toList) && (c :: r).all fun c => decide (c ∈ sigT.cps.toList)
def nameD : D → Bool
  | .str s => nameL s.cps.toList
  | _ => false
/-- a part that the defs can look at -/
structure NP (p : D) : Prop where
  lay : p.canLay0 = true
  dep : p.depth ≤ 50
  str : ∀ s, p = .str s → s.length ≤ lim
theorem str_nil {s : Str} (h : s.cps.toList = []) : s = "" := by
  obtain ⟨⟨l⟩⟩ := s
  have : l = [] := h
  subst this
  rfl
theorem str_ne {s : Str} {c : Nat} {r : List Nat} (h : s.cps.toList = c :: r) : (s == ("" : Str)) = false := by
  refine beq_false_of_ne fun z => ?_
  subst z
  cases h
theorem in_let (c : Nat) : inD (.str ⟨#[c]⟩) (.str letT) = some (decide (c ∈ letT.cps.toList)) := rfl
theorem in_sig (c : Nat) : inD (.str ⟨#[c]⟩) (.str sigT) = some (decide (c ∈ sigT.cps.toList)) := rfl
theorem name_ok {n : Nat} {p : D} (h : NP p) : fns tbl (n + 1) "is_name" [.im p] = some (.im (.bool (nameD p)), [.im p]) := by
  rw [f_is_name]
  cases p with
  | str s =>
    have hl := h.str s rfl
    have sh : SeqAt.shaped (.str s) = true := by
      have := h.lay
      simp [SeqAt.shaped, this, PyData.depth]
    have sh0 : SeqAt.shaped (.str "") = true := by decide +kernel
    cases e : s.cps.toList with
    | nil =>
      have := str_nil e
      subst this
      simp [Dfn.run, d_is_name, sh0, eqv_str, nameD, nameL, e]
    | cons c r =>
      have ne := str_ne e
      have a0 : L2.atI (c :: r) 0 = some c := L2.atI_nat (j := 0) rfl
      have il := in_let c
      unfold letT at il
      by_cases q : c ∈ letT.cps.toList
      · rw [decide_eq_true (show c ∈ (Str.ofString "abcdefghijklmnopqrstuvwxyz").cps.toList from q)] at il
        have sl : s.cps.toList.length = s.length := by simp [Str.length]
        have comp : ev (fns tbl n) (.lc [1] (.x (.v 0)) (.n 1) (.c (.bool true)) (.cmp .In (.v 1) (.c (.str "abcdefghijklmnopqrstuvwxyz0123456789.")))) [.im (.str s), .un] = some (.fr (.list ((s.cps.toList.map fun c => PyData.str ⟨#[c]⟩).filterMap fun d => (inD d (.str sigT)).map .bool)), [.im (.str s), .un]) := by
          refine lc_map (ls := []) (env1 := [.im (.str s), .un]) _ ?_ rfl (by rw [List.length_map, sl]; exact hl) (fun d hd => ?_) rfl
          · simp
          · obtain ⟨c', _, rfl⟩ := List.mem_map.mp hd
            have is := in_sig c'
            unfold sigT at is
            simp [lcTurn, wipeE, lockE, is, sigT]
        have fm : ((s.cps.toList.map fun c => PyData.str ⟨#[c]⟩).filterMap fun d => (inD d (.str sigT)).map PyData.bool) = s.cps.toList.map fun c => PyData.bool (decide (c ∈ sigT.cps.toList)) := by
          rw [List.filterMap_map, ← List.filterMap_eq_map]
          refine fm_congr _ fun c _ => ?_
          rfl
        rw [fm] at comp
        have bl := blsD_map (fun c => decide (c ∈ sigT.cps.toList)) s.cps.toList
        refine run_rt (d := d_is_name) (env := [.im (.str s), .un]) rfl (execs_nx (env1 := [.im (.str s), .un]) ?_ (execs_rt (exec_ret ?_)))
        · simp [sh, sh0, eqv_str, ne, hl, e, a0, il, d_is_name]
        · refine ev_bi1 comp rfl ?_
          simp only [biD, bl, Option.map]
          rw [nameD, e, nameL]
          simp only [List.map_cons, decide_eq_true q, Bool.true_and, List.all_cons, id, List.all_map]
          rfl
      · rw [decide_eq_false (show ¬ c ∈ (Str.ofString "abcdefghijklmnopqrstuvwxyz").cps.toList from q)] at il
        simp [Dfn.run, d_is_name, sh, sh0, eqv_str, ne, nameD, nameL, hl, e, a0, il, q]
  | _ => simp [Dfn.run, d_is_name, nameD]
theorem sh_list {l : List D} (h : ∀ p ∈ l, p.canLay0 = true ∧ p.depth ≤ 50) : SeqAt.shaped (.list l) = true := by
  have go : ∀ l : List D, (∀ p ∈ l, p.canLay0 = true ∧ p.depth ≤ 50) → PyData.canLayAll0 l = true ∧ PyData.depthAll l ≤ 50 := fun l => by
    induction l with
    | nil => exact fun _ => ⟨rfl, by simp [PyData.depthAll]⟩
    | cons p l ih =>
      intro h
      obtain ⟨a, b⟩ := ih fun q hq => h q (List.mem_cons_of_mem _ hq)
      obtain ⟨c, d⟩ := h p List.mem_cons_self
      exact ⟨by simp [PyData.canLayAll0, a, c], by simp only [PyData.depthAll]; omega⟩
  obtain ⟨a, b⟩ := go l h
  unfold SeqAt.shaped
  rw [Bool.and_eq_true, decide_eq_true_iff]
  exact ⟨by simpa [PyData.canLay0] using a, by simp only [PyData.depth]; omega⟩
theorem sh_nil : SeqAt.shaped (.list []) = true := by decide +kernel
theorem eqv_nil (l : List D) : PyData.eqv (.list l) (.list []) = l.isEmpty := by cases l <;> simp [PyData.eqv, PyData.eqvAll]
theorem mark_ok {n : Nat} {p : D} (h : NP p) : fns tbl (n + 1) "_law_is_mark" [.im p] = some (.im (.bool (nameD p)), [.im p]) := by
  rw [f_is_mark]
  cases p with
  | str s =>
    have hl := h.str s rfl
    have sh : SeqAt.shaped (.str s) = true := by
      have := h.lay
      simp [SeqAt.shaped, this, PyData.depth]
    have sh0 : SeqAt.shaped (.str "") = true := by decide +kernel
    cases e : s.cps.toList with
    | nil =>
      have := str_nil e
      subst this
      simp [Dfn.run, d_l_is_mark, sh0, eqv_str, nameD, nameL, e]
    | cons c r =>
      have ne := str_ne e
      have a0 : L2.atI (c :: r) 0 = some c := L2.atI_nat (j := 0) rfl
      have il := in_let c
      unfold letT at il
      by_cases q : c ∈ letT.cps.toList
      · rw [decide_eq_true (show c ∈ (Str.ofString "abcdefghijklmnopqrstuvwxyz").cps.toList from q)] at il
        have sl : s.cps.toList.length = s.length := by simp [Str.length]
        have comp : ev (fns tbl n) (.lc [1] (.x (.v 0)) (.n 1) (.cmp .NotIn (.v 1) (.c (.str "abcdefghijklmnopqrstuvwxyz0123456789."))) (.v 1)) [.im (.str s), .un] = some (.fr (.list ((s.cps.toList.map fun c => PyData.str ⟨#[c]⟩).filterMap fun d => if inD d (.str sigT) = some false then some d else none)), [.im (.str s), .un]) := by
          refine lc_map (ls := []) (env1 := [.im (.str s), .un]) _ ?_ rfl (by rw [List.length_map, sl]; exact hl) (fun d hd => ?_) rfl
          · simp
          · obtain ⟨c', _, rfl⟩ := List.mem_map.mp hd
            have is := in_sig c'
            unfold sigT at is
            by_cases q' : c' ∈ (Str.ofString "abcdefghijklmnopqrstuvwxyz0123456789.").cps.toList
            · rw [decide_eq_true q'] at is
              simp [lcTurn, wipeE, lockE, is, sigT]
            · rw [decide_eq_false q'] at is
              simp [lcTurn, wipeE, lockE, is, sigT]
        have emp : ((s.cps.toList.map fun c => PyData.str ⟨#[c]⟩).filterMap fun d => if inD d (.str sigT) = some false then some d else none).isEmpty = s.cps.toList.all fun c => decide (c ∈ sigT.cps.toList) := by
          generalize s.cps.toList = l
          induction l with
          | nil => rfl
          | cons x l ih =>
            rw [List.map_cons, List.filterMap_cons, in_sig, List.all_cons]
            by_cases w : x ∈ sigT.cps.toList
            · rw [decide_eq_true w]
              simpa using ih
            · rw [decide_eq_false w]
              simp
        have shl : SeqAt.shaped (.list ((s.cps.toList.map fun c => PyData.str ⟨#[c]⟩).filterMap fun d => if inD d (.str sigT) = some false then some d else none)) = true := by
          refine sh_list fun p hp => ?_
          obtain ⟨d, hd, hp⟩ := List.mem_filterMap.mp hp
          obtain ⟨c', hc', rfl⟩ := List.mem_map.mp hd
          have ep : p = .str ⟨#[c']⟩ := by
            split at hp
            · exact (Option.some.inj hp).symm
            · cases hp
          subst ep
          refine ⟨?_, by simp [PyData.depth]⟩
          have hs := h.lay
          simp only [PyData.canLay0, PyData.strOk] at hs ⊢
          have := Array.all_eq_true'.mp hs c' (Array.mem_toList_iff.mp hc')
          simpa using this
        refine run_rt (d := d_l_is_mark) (env := [.im (.str s), .un]) rfl (execs_nx (env1 := [.im (.str s), .un]) ?_ (execs_rt (exec_ret ?_)))
        · simp [sh, sh0, eqv_str, ne, hl, e, a0, il, d_l_is_mark]
        · refine ev_cmp' comp (env2 := [.im (.str s), .un]) (rb := .fr (.list [])) (by simp [lim]) rfl rfl ?_
          simp only [cmpD, shl, sh_nil, eqv_nil, emp]
          rw [nameD, e, nameL]
          simp only [decide_eq_true q, Bool.true_and]
          rfl
      · rw [decide_eq_false (show ¬ c ∈ (Str.ofString "abcdefghijklmnopqrstuvwxyz").cps.toList from q)] at il
        simp [Dfn.run, d_l_is_mark, sh, sh0, eqv_str, ne, nameD, nameL, hl, e, a0, il, q]
  | _ => simp [Dfn.run, d_l_is_mark, nameD]
end DI.Law

set_option maxRecDepth 100000
namespace DI.Law
open PySem PySem.Spec
theorem sh_int (i : Int) : SeqAt.shaped (.int i) = true := by simp [SeqAt.shaped, PyData.canLay0, PyData.depth]
theorem eqv_int (i j : Int) : PyData.eqv (.int i) (.int j) = (i == j) := by simp [PyData.eqv]
def rowB : D → Bool
  | .tuple [a, b, c] => nameD a && nameD b && nameD c
  | _ => false
def risesB : List Str → Bool
  | a :: b :: r => strLt a b && risesB (b :: r)
  | _ => true
def tagS : D → Str
  | .tuple (.str a :: _) => a
  | _ => ""
def wirB : D → Bool
  | .tuple rows => rows.all rowB && risesB (rows.map tagS)
  | _ => false
structure NW (x : D) : Prop where
  len : ∀ rows, x = .tuple rows → rows.length ≤ lim
  row : ∀ rows, x = .tuple rows → ∀ r ∈ rows, ∀ ps, r = .tuple ps → ∀ p ∈ ps, NP p
theorem loop_all {f : D → Env → Option Out} {pre : Env} {p : D → Bool} : ∀ {rows : List D}, (∀ r ∈ rows, p r = true → ∃ e, f r pre = some (.nx e) ∧ forget pre e = pre) → (∀ r ∈ rows, p r = false → ∃ e, f r pre = some (.rt (.im (.bool false)) e)) →
    (rows.all p = true → forS f pre rows pre = some (.nx pre)) ∧ (rows.all p = false → ∃ e, forS f pre rows pre = some (.rt (.im (.bool false)) e))
  | [], _, _ => ⟨fun _ => rfl, fun h => by cases h⟩
  | r :: rows, h1, h0 => by
    obtain ⟨i1, i0⟩ := loop_all (rows := rows) (fun x hx => h1 x (List.mem_cons_of_mem _ hx)) (fun x hx => h0 x (List.mem_cons_of_mem _ hx))
    rw [List.all_cons]
    cases q : p r with
    | true =>
      obtain ⟨e, e1, e2⟩ := h1 r List.mem_cons_self q
      refine ⟨fun h => forS_nx e1 ?_, fun h => ?_⟩
      · rw [e2]
        exact i1 (by simpa using h)
      · obtain ⟨e', e3⟩ := i0 (by simpa using h)
        exact ⟨e', forS_nx e1 (by rw [e2]; exact e3)⟩
    | false =>
      obtain ⟨e, e1⟩ := h0 r List.mem_cons_self q
      refine ⟨fun h => by simp at h, fun h => ⟨e, ?_⟩⟩
      simp only [forS, e1]
theorem fm_all (l : List D) (p : D → Bool) : l.filterMap (fun d => some (PyData.bool (p d))) = l.map fun d => .bool (p d) := by
  rw [← List.filterMap_eq_map]
  rfl
def wirT : Sms := match d_is_wiring.body with
  | .cons _ (.cons (.for _ _ b) _) => b
  | _ => .nil
theorem wir_turn {n : Nat} {x r : D} (h : ∀ ps, r = .tuple ps → ∀ p ∈ ps, NP p) :
    (rowB r = true → ∃ e, forTurn (fns tbl (n + 1)) (.n 1) wirT r [.im x, .un, .un] = some (.nx e) ∧ forget [.im x, .un, .un] e = [.im x, .un, .un]) ∧ (rowB r = false → ∃ e, forTurn (fns tbl (n + 1)) (.n 1) wirT r [.im x, .un, .un] = some (.rt (.im (.bool false)) e)) := by
  cases r with
  | tuple ps =>
    by_cases hl : ps.length = 3
    · have comp : ev (fns tbl (n + 1)) (.lc [2] (.x (.v 1)) (.n 2) (.c (.bool true)) (.call "is_name" (.cons (.v 2) .nil))) [.im x, .im (.tuple ps), .un] = some (.fr (.list (ps.map fun d => .bool (nameD d))), [.im x, .im (.tuple ps), .un]) := by
        rw [← fm_all]
        refine lc_map (ls := []) (env1 := [.im x, .im (.tuple ps), .un]) _ ?_ rfl (by rw [hl]; decide) (fun d hd => ?_) rfl
        · simp
        · have nm := name_ok (n := n) (h ps rfl d hd)
          simp [lcTurn, wipeE, lockE, nm]
      have al : ev (fns tbl (n + 1)) (.bi .all (.cons (.lc [2] (.x (.v 1)) (.n 2) (.c (.bool true)) (.call "is_name" (.cons (.v 2) .nil))) .nil)) [.im x, .im (.tuple ps), .un] = some (.im (.bool (ps.all nameD)), [.im x, .im (.tuple ps), .un]) := by
        refine ev_bi1 comp rfl ?_
        simp only [biD, blsD_map, Option.map, List.all_map]
        rfl
      have rb : rowB (.tuple ps) = ps.all nameD := by
        match ps, hl with
        | [a, b, c], _ => simp [rowB, Bool.and_assoc]
      rw [rb]
      have test : tstX (fns tbl (n + 1)) (.orX (.notX (.isi (.v 1) ["tuple"])) (.orX (.cmp .NotEq (.bi .len (.cons (.v 1) .nil)) (.c (.int 3))) (.notX (.bi .all (.cons (.lc [2] (.x (.v 1)) (.n 2) (.c (.bool true)) (.call "is_name" (.cons (.v 2) .nil))) .nil))))) [.im x, .im (.tuple ps), .un] = some (!ps.all nameD, [.im x, .im (.tuple ps), .un]) := by
        have t1 : ev (fns tbl (n + 1)) (.notX (.isi (.v 1) ["tuple"])) [.im x, .im (.tuple ps), .un] = some (.im (.bool false), [.im x, .im (.tuple ps), .un]) := by simp
        have t2 : ev (fns tbl (n + 1)) (.cmp .NotEq (.bi .len (.cons (.v 1) .nil)) (.c (.int 3))) [.im x, .im (.tuple ps), .un] = some (.im (.bool false), [.im x, .im (.tuple ps), .un]) := by simp [sh_int, eqv_int, hl]
        have t3 := ev_not al
        exact tst_eq (ev_or0 t1 rfl (ev_or0 t2 rfl t3)) rfl rfl
      refine ⟨fun q => ⟨[.im x, .im (.tuple ps), .un], ?_, rfl⟩, fun q => ⟨[.im x, .im (.tuple ps), .un], ?_⟩⟩
      · rw [q] at test
        exact turn_if (by simp) (if_f test rfl)
      · rw [q] at test
        exact turn_if (by simp) (if_t test (by simp))
    · have rb : rowB (.tuple ps) = false := by
        match ps, hl with
        | [], _ => rfl
        | [_], _ => rfl
        | [_, _], _ => rfl
        | [_, _, _], h => exact absurd rfl h
        | _ :: _ :: _ :: _ :: _, _ => rfl
      rw [rb]
      have t2 : ev (fns tbl (n + 1)) (.cmp .NotEq (.bi .len (.cons (.v 1) .nil)) (.c (.int 3))) [.im x, .im (.tuple ps), .un] = some (.im (.bool true), [.im x, .im (.tuple ps), .un]) := by
        have : ((ps.length : Int) == 3) = false := beq_false_of_ne fun z => hl (by omega)
        simp [sh_int, eqv_int, this]
      have t1 : ev (fns tbl (n + 1)) (.notX (.isi (.v 1) ["tuple"])) [.im x, .im (.tuple ps), .un] = some (.im (.bool false), [.im x, .im (.tuple ps), .un]) := by simp
      refine ⟨fun h => (by cases h), fun _ => ⟨[.im x, .im (.tuple ps), .un], turn_if (by simp) (if_t (tst_eq (ev_or0 t1 rfl (ev_or1 t2 rfl)) rfl rfl) (by simp))⟩⟩
  | _ => exact ⟨fun h => (by cases h), fun _ => ⟨_, by simp [forTurn, wirT, d_is_wiring]; rfl⟩⟩
end DI.Law

set_option maxRecDepth 100000
namespace DI.Law
open PySem PySem.Spec
def pairS (ss : List Str) : List (Str × Str) := List.zip ss (ss.drop 1)
theorem rises_zip : ∀ ss : List Str, ((pairS ss).map fun p => strLt p.1 p.2).all id = risesB ss
  | [] => rfl
  | [_] => rfl
  | a :: b :: r => by
    have ih := rises_zip (b :: r)
    show (strLt a b :: ((pairS (b :: r)).map fun p => strLt p.1 p.2)).all id = _
    rw [List.all_cons, ih]
    rfl
theorem zip_str : ∀ ss ts : List Str, List.zipWith (fun a b => PyData.tuple [a, b]) (ss.map .str) (ts.map .str) = (List.zip ss ts).map fun p => .tuple [.str p.1, .str p.2]
  | [], _ => by simp
  | _ :: _, [] => by simp
  | s :: ss, t :: ts => by simp [zip_str ss ts]
def ltD : D → Option D
  | .tuple [.str a, .str b] => some (.bool (strLt a b))
  | _ => none
theorem rises_ok {n : Nat} {ss : List Str} (hl : ss.length ≤ lim) : fns tbl (n + 1) "rises" [.ow .bor (.list (ss.map .str))] = some (.im (.bool (risesB ss)), [.ow .bor (.list (ss.map .str))]) := by
  rw [f_rises]
  have comp : ev (fns tbl n) (.lc [1, 2] (.z (.v 0) (.sl (.v 0) (.c (.int 1)) .nil)) (.t [1, 2]) (.c (.bool true)) (.cmp .Lt (.v 1) (.v 2))) [.ow .bor (.list (ss.map .str)), .un, .un] = some (.fr (.list (((pairS ss).map fun p => PyData.tuple [.str p.1, .str p.2]).filterMap ltD)), [.ow .bor (.list (ss.map .str)), .un, .un]) := by
    refine lc_map (ls := [0]) (env1 := [.ow .bor (.list (ss.map .str)), .un, .un]) _ ?_ rfl ?_ (fun d hd => ?_) rfl
    · have z := zip_str ss (ss.drop 1)
      rw [List.map_drop, List.drop_one, List.drop_one] at z
      simp [cut_from1, z, pairS]
    · rw [List.length_map]
      unfold pairS
      rw [List.length_zip]
      omega
    · obtain ⟨p, _, rfl⟩ := List.mem_map.mp hd
      simp [lcTurn, wipeE, lockE, ltD]
  have fm : ((pairS ss).map fun p => PyData.tuple [.str p.1, .str p.2]).filterMap ltD = (pairS ss).map fun p => .bool (strLt p.1 p.2) := by
    rw [List.filterMap_map, ← List.filterMap_eq_map]
    exact fm_congr _ fun _ _ => rfl
  rw [fm] at comp
  refine run_rt (d := d_rises) (env := [.ow .bor (.list (ss.map .str)), .un, .un]) rfl (execs_rt (exec_ret (ev_bi1 comp rfl ?_)))
  rw [biD, blsD_map]
  simp only [Option.map, rises_zip]
theorem fm_some (g : D → D) (l : List D) : l.filterMap (fun d => some (g d)) = l.map g := by
  rw [← List.filterMap_eq_map]
  rfl
theorem name_str {d : D} (h : nameD d = true) : ∃ s, d = .str s := by
  cases d <;> first | exact ⟨_, rfl⟩ | cases h
theorem row_str {r : D} (h : rowB r = true) : ∃ w : W3, r = row3 w := by
  unfold rowB at h
  split at h
  · rename_i a b c
    rw [Bool.and_eq_true, Bool.and_eq_true] at h
    obtain ⟨x, rfl⟩ := name_str h.1.1
    obtain ⟨y, rfl⟩ := name_str h.1.2
    obtain ⟨z, rfl⟩ := name_str h.2
    exact ⟨(x, y, z), rfl⟩
  · cases h
theorem rows_str : ∀ {rows : List D}, rows.all rowB = true → ∃ ws : List W3, rows = ws.map row3
  | [], _ => ⟨[], rfl⟩
  | r :: rows, h => by
    rw [List.all_cons, Bool.and_eq_true] at h
    obtain ⟨w, rfl⟩ := row_str h.1
    obtain ⟨ws, rfl⟩ := rows_str h.2
    exact ⟨w :: ws, rfl⟩
theorem tags_row (ws : List W3) : (ws.map row3).map tagS = ws.map (·.1) := by
  rw [List.map_map]
  rfl
theorem wiring_ok {n : Nat} {x : D} (h : NW x) : fns tbl (n + 2) "is_wiring" [.im x] = some (.im (.bool (wirB x)), [.im x]) := by
  rw [f_is_wiring]
  cases x with
  | tuple rows =>
    have hl := h.len rows rfl
    obtain ⟨l1, l0⟩ := loop_all (f := forTurn (fns tbl (n + 1)) (.n 1) wirT) (pre := [.im (.tuple rows), .un, .un]) (p := rowB) (rows := rows) (fun r hr => (wir_turn (h.row rows rfl r hr)).1) (fun r hr => (wir_turn (h.row rows rfl r hr)).2)
    have hI : evI (fns tbl (n + 1)) (.x (.v 0)) [.im (.tuple rows), .un, .un] = some ([], rows, [.im (.tuple rows), .un, .un]) := by simp
    have s1 : exec (fns tbl (n + 1)) (.iff (.notX (.isi (.v 0) ["tuple"])) (.cons (.ret (.c (.bool false))) .nil) .nil) [.im (.tuple rows), .un, .un] = some (.nx [.im (.tuple rows), .un, .un]) := by simp
    cases q : rows.all rowB with
    | false =>
      obtain ⟨e, he⟩ := l0 q
      have key : execs (fns tbl (n + 1)) d_is_wiring.body [.im (.tuple rows), .un, .un] = some (.rt (.im (.bool false)) (unlockE [.im (.tuple rows), .un, .un] e [])) := execs_nx s1 (execs_rt (exec_for hI he))
      have := run_rt (d := d_is_wiring) (args := [.im (.tuple rows)]) rfl key
      rw [this]
      simp only [wirB, q, Bool.false_and]
      cases e <;> rfl
    | true =>
      obtain ⟨ws, rfl⟩ := rows_str q
      rw [List.length_map] at hl
      have comp : ev (fns tbl (n + 1)) (.lc [1] (.x (.v 0)) (.n 1) (.c (.bool true)) (.ix (.v 1) (.c (.int 0)))) [.im (.tuple (ws.map row3)), .un, .un] = some (.fr (.list ((ws.map row3).filterMap fun d => some (.str (tagS d)))), [.im (.tuple (ws.map row3)), .un, .un]) := by
        refine lc_map (ls := []) (env1 := [.im (.tuple (ws.map row3)), .un, .un]) _ (by simp) rfl (by rw [List.length_map]; exact hl) (fun d hd => ?_) rfl
        obtain ⟨w, _, rfl⟩ := List.mem_map.mp hd
        simp [lcTurn, wipeE, lockE, tagS, row3, ix0]
      have fm : (ws.map row3).filterMap (fun d => some (PyData.str (tagS d))) = ((ws.map row3).map tagS).map .str := by
        rw [fm_some (fun d => PyData.str (tagS d))]
        exact (List.map_map (f := tagS) (g := PyData.str)).symm
      rw [fm] at comp
      have rs := rises_ok (n := n) (ss := (ws.map row3).map tagS) (by rw [List.length_map, List.length_map]; exact hl)
      have key : execs (fns tbl (n + 1)) d_is_wiring.body [.im (.tuple (ws.map row3)), .un, .un] = some (.rt (.im (.bool (risesB ((ws.map row3).map tagS)))) [.im (.tuple (ws.map row3)), .un, .un]) :=
        execs_nx s1 (execs_nx (exec_for hI (l1 q)) (execs_rt (exec_ret (ev_call1f comp rs))))
      have := run_rt (d := d_is_wiring) (args := [.im (.tuple (ws.map row3))]) rfl key
      rw [this]
      simp only [wirB, q, Bool.true_and]
      rfl
  | _ => simp [Dfn.run, d_is_wiring, wirB]
end DI.Law

set_option maxRecDepth 100000
namespace DI.Law
open PySem PySem.Spec
def webT : Sms := match d_l_is_web.body with
  | .cons _ (.cons (.for _ _ b) _) => b
  | _ => .nil
theorem emp_all (p : D → Bool) : ∀ l : List D, (l.filterMap fun d => if p d then none else some d).isEmpty = l.all p
  | [] => rfl
  | d :: l => by
    rw [List.filterMap_cons, List.all_cons]
    cases h : p d with
    | true => simpa using emp_all p l
    | false => simp
theorem lck_turn {n : Nat} {x r : D} (h : ∀ ps, r = .tuple ps → ∀ p ∈ ps, NP p) :
    (rowB r = true → ∃ e, forTurn (fns tbl (n + 1)) (.n 1) webT r [.im x, .un, .un, .un] = some (.nx e) ∧ forget [.im x, .un, .un, .un] e = [.im x, .un, .un, .un]) ∧ (rowB r = false → ∃ e, forTurn (fns tbl (n + 1)) (.n 1) webT r [.im x, .un, .un, .un] = some (.rt (.im (.bool false)) e)) := by
  cases r with
  | tuple ps =>
    have t1 : ev (fns tbl (n + 1)) (.notX (.isi (.v 1) ["tuple"])) [.im x, .im (.tuple ps), .un, .un] = some (.im (.bool false), [.im x, .im (.tuple ps), .un, .un]) := by simp
    by_cases hl : ps.length = 3
    · have comp : ev (fns tbl (n + 1)) (.lc [3] (.x (.v 1)) (.n 3) (.notX (.call "_law_is_mark" (.cons (.v 3) .nil))) (.v 3)) [.im x, .im (.tuple ps), .un, .un] = some (.fr (.list (ps.filterMap fun d => if nameD d then none else some d)), [.im x, .im (.tuple ps), .un, .un]) := by
        refine lc_map (ls := []) (env1 := [.im x, .im (.tuple ps), .un, .un]) _ ?_ rfl (by rw [hl]; decide) (fun d hd => ?_) rfl
        · simp
        · have nm := mark_ok (n := n) (h ps rfl d hd)
          cases q : nameD d with
          | true =>
            rw [q] at nm
            simp [lcTurn, wipeE, lockE, nm]
          | false =>
            rw [q] at nm
            simp [lcTurn, wipeE, lockE, nm]
      have shl : SeqAt.shaped (.list (ps.filterMap fun d => if nameD d then none else some d)) = true := sh_list fun p hp => by
        obtain ⟨d, hd, e⟩ := List.mem_filterMap.mp hp
        split at e
        · cases e
        · cases e
          exact ⟨(h ps rfl p hd).lay, (h ps rfl p hd).dep⟩
      have ne : ev (fns tbl (n + 1)) (.cmp .NotEq (.lc [3] (.x (.v 1)) (.n 3) (.notX (.call "_law_is_mark" (.cons (.v 3) .nil))) (.v 3)) (.lst .nil)) [.im x, .im (.tuple ps), .un, .un] = some (.im (.bool (!ps.all nameD)), [.im x, .im (.tuple ps), .un, .un]) := by
        refine ev_cmp' comp (env2 := [.im x, .im (.tuple ps), .un, .un]) (rb := .fr (.list [])) (by simp [lim]) rfl rfl ?_
        simp only [cmpD, shl, sh_nil, eqv_nil, emp_all]
        rfl
      have rb : rowB (.tuple ps) = ps.all nameD := by
        match ps, hl with
        | [a, b, c], _ => simp [rowB, Bool.and_assoc]
      rw [rb]
      have t2 : ev (fns tbl (n + 1)) (.cmp .NotEq (.bi .len (.cons (.v 1) .nil)) (.c (.int 3))) [.im x, .im (.tuple ps), .un, .un] = some (.im (.bool false), [.im x, .im (.tuple ps), .un, .un]) := by simp [sh_int, eqv_int, hl]
      have test := tst_eq (ev_or0 t1 rfl (ev_or0 t2 rfl ne)) rfl rfl
      refine ⟨fun q => ⟨[.im x, .im (.tuple ps), .un, .un], ?_, rfl⟩, fun q => ⟨[.im x, .im (.tuple ps), .un, .un], ?_⟩⟩
      · rw [q] at test
        exact turn_if (by simp) (if_f test rfl)
      · rw [q] at test
        exact turn_if (by simp) (if_t test (by simp))
    · have rb : rowB (.tuple ps) = false := by
        match ps, hl with
        | [], _ => rfl
        | [_], _ => rfl
        | [_, _], _ => rfl
        | [_, _, _], h => exact absurd rfl h
        | _ :: _ :: _ :: _ :: _, _ => rfl
      rw [rb]
      have t2 : ev (fns tbl (n + 1)) (.cmp .NotEq (.bi .len (.cons (.v 1) .nil)) (.c (.int 3))) [.im x, .im (.tuple ps), .un, .un] = some (.im (.bool true), [.im x, .im (.tuple ps), .un, .un]) := by
        have : ((ps.length : Int) == 3) = false := beq_false_of_ne fun z => hl (by omega)
        simp [sh_int, eqv_int, this]
      refine ⟨fun h => (by cases h), fun _ => ⟨[.im x, .im (.tuple ps), .un, .un], turn_if (by simp) (if_t (tst_eq (ev_or0 t1 rfl (ev_or1 t2 rfl)) rfl rfl) (by simp))⟩⟩
  | _ => exact ⟨fun h => (by cases h), fun _ => ⟨_, by simp [forTurn, webT, d_l_is_web]; rfl⟩⟩
def upB (ws : List W3) : D → Bool
  | .int k => match ws[(k - 1).toNat]?, ws[k.toNat]? with
    | some a, some b => strLt a.1 b.1
    | _, _ => true
  | _ => true
theorem range_mem : ∀ (m : Nat) (lo : Int) (d : D), d ∈ rangeL lo m → ∃ i : Nat, i < m ∧ d = .int (lo + i)
  | 0, lo, d, h => by cases h
  | m + 1, lo, d, h => by
    rcases List.mem_cons.mp h with rfl | h
    · exact ⟨0, by omega, by simp⟩
    · obtain ⟨i, h1, rfl⟩ := range_mem m (lo + 1) d h
      exact ⟨i + 1, by omega, by congr 1; omega⟩
theorem range_up (ws : List W3) : ∀ (m k : Nat), k + 1 + m = ws.length → (rangeL (k + 1) m).all (upB ws) = risesB ((ws.drop k).map (·.1))
  | 0, k, h => by
    have : (ws.drop k).length = 1 := by rw [List.length_drop]; omega
    match ws.drop k, this with
    | [w], _ => rfl
  | m + 1, k, h => by
    have l1 : k < ws.length := by omega
    have l2 : k + 1 < ws.length := by omega
    have ih := range_up ws m (k + 1) (by omega)
    show (upB ws (.int (k + 1)) && (rangeL ((k : Int) + 1 + 1) m).all (upB ws)) = _
    rw [show ((k : Int) + 1 + 1) = (((k + 1 : Nat) : Int) + 1) by omega, ih]
    rw [List.drop_eq_getElem_cons l1, List.drop_eq_getElem_cons l2, List.map_cons, List.map_cons]
    have e : upB ws (.int (k + 1)) = strLt ws[k].1 ws[k + 1].1 := by
      unfold upB
      dsimp only
      rw [show ((k : Int) + 1 - 1).toNat = k by omega, show ((k : Int) + 1).toNat = k + 1 by omega, List.getElem?_eq_getElem l1, List.getElem?_eq_getElem l2]
    rw [e]
    rfl
theorem web_check {n : Nat} {x : D} (h : NW x) : fns tbl (n + 2) "_law_is_web" [.im x] = some (.im (.bool (wirB x)), [.im x]) := by
  rw [f_is_web]
  cases x with
  | tuple rows =>
    have hl := h.len rows rfl
    obtain ⟨l1, l0⟩ := loop_all (f := forTurn (fns tbl (n + 1)) (.n 1) webT) (pre := [.im (.tuple rows), .un, .un, .un]) (p := rowB) (rows := rows) (fun r hr => (lck_turn (h.row rows rfl r hr)).1) (fun r hr => (lck_turn (h.row rows rfl r hr)).2)
    have hI : evI (fns tbl (n + 1)) (.x (.v 0)) [.im (.tuple rows), .un, .un, .un] = some ([], rows, [.im (.tuple rows), .un, .un, .un]) := by simp
    have s1 : exec (fns tbl (n + 1)) (.iff (.notX (.isi (.v 0) ["tuple"])) (.cons (.ret (.c (.bool false))) .nil) .nil) [.im (.tuple rows), .un, .un, .un] = some (.nx [.im (.tuple rows), .un, .un, .un]) := by simp
    cases q : rows.all rowB with
    | false =>
      obtain ⟨e, he⟩ := l0 q
      have key : execs (fns tbl (n + 1)) d_l_is_web.body [.im (.tuple rows), .un, .un, .un] = some (.rt (.im (.bool false)) (unlockE [.im (.tuple rows), .un, .un, .un] e [])) := execs_nx s1 (execs_rt (exec_for hI he))
      have := run_rt (d := d_l_is_web) (args := [.im (.tuple rows)]) rfl key
      rw [this]
      simp only [wirB, q, Bool.false_and]
      cases e <;> rfl
    | true =>
      obtain ⟨ws, rfl⟩ := rows_str q
      rw [List.length_map] at hl
      have lb : ws.length ≤ 100000 := hl
      have comp : ev (fns tbl (n + 1)) (.lc [2] (.r2 (.c (.int 1)) (.bi .len (.cons (.v 0) .nil))) (.n 2) (.notX (.cmp .Lt (.ix (.ix (.v 0) (.bin .Sub (.v 2) (.c (.int 1)))) (.c (.int 0))) (.ix (.ix (.v 0) (.v 2)) (.c (.int 0))))) (.v 2)) [.im (.tuple (ws.map row3)), .un, .un, .un] = some (.fr (.list ((rangeL 1 (ws.length - 1)).filterMap fun d => if upB ws d then none else some d)), [.im (.tuple (ws.map row3)), .un, .un, .un]) := by
        refine lc_map (ls := []) (env1 := [.im (.tuple (ws.map row3)), .un, .un, .un]) _ ?_ rfl (by rw [rangeL_len]; omega) (fun d hd => ?_) rfl
        · have i1 : in62 1 = true := by decide
          have i2 : in62 (ws.length : Int) = true := by
            unfold in62
            rw [Bool.and_eq_true, decide_eq_true_iff, decide_eq_true_iff]
            omega
          have e3 : ((ws.length : Int) - 1).toNat = ws.length - 1 := by omega
          simp [i1, i2, e3]
        · obtain ⟨i, hi, rfl⟩ := range_mem _ _ _ hd
          have l1 : i < ws.length := by omega
          have l2 : i + 1 < ws.length := by omega
          have a1 : L2.atI (ws.map row3) (1 + (i : Int) - 1) = some (row3 ws[i]) := by
            rw [show (1 + (i : Int) - 1) = (i : Int) by omega]
            exact L2.atI_nat (by rw [List.getElem?_map, List.getElem?_eq_getElem l1]; rfl)
          have a2 : L2.atI (ws.map row3) (1 + (i : Int)) = some (row3 ws[i + 1]) := by
            rw [show (1 + (i : Int)) = ((i + 1 : Nat) : Int) by omega]
            exact L2.atI_nat (by rw [List.getElem?_map, List.getElem?_eq_getElem l2]; rfl)
          have up : upB ws (.int (1 + i)) = strLt ws[i].1 ws[i + 1].1 := by
            unfold upB
            dsimp only
            rw [show (1 + (i : Int) - 1).toNat = i by omega, show (1 + (i : Int)).toNat = i + 1 by omega, List.getElem?_eq_getElem l1, List.getElem?_eq_getElem l2]
          rw [up]
          have r1 : ∀ w : W3, ixD (row3 w) (.int 0) = some (.str w.1) := fun w => ix0
          cases z : strLt ws[i].1 ws[i + 1].1 with
          | true => simp [lcTurn, wipeE, lockE, a1, a2, row3, ix0, z]
          | false => simp [lcTurn, wipeE, lockE, a1, a2, row3, ix0, z]
      have shl : SeqAt.shaped (.list ((rangeL 1 (ws.length - 1)).filterMap fun d => if upB ws d then none else some d)) = true := sh_list fun p hp => by
        obtain ⟨d, hd, e⟩ := List.mem_filterMap.mp hp
        obtain ⟨i, _, rfl⟩ := range_mem _ _ _ hd
        split at e
        · cases e
        · cases e
          exact ⟨rfl, by simp [PyData.depth]⟩
      have fin : (rangeL 1 (ws.length - 1)).all (upB ws) = risesB ((ws.map row3).map tagS) := by
        rw [tags_row]
        cases ws with
        | nil => rfl
        | cons w ws => exact range_up (w :: ws) _ 0 (by simp only [List.length_cons]; omega)
      have ev' : ev (fns tbl (n + 1)) (.cmp .Eq (.lc [2] (.r2 (.c (.int 1)) (.bi .len (.cons (.v 0) .nil))) (.n 2) (.notX (.cmp .Lt (.ix (.ix (.v 0) (.bin .Sub (.v 2) (.c (.int 1)))) (.c (.int 0))) (.ix (.ix (.v 0) (.v 2)) (.c (.int 0))))) (.v 2)) (.lst .nil)) [.im (.tuple (ws.map row3)), .un, .un, .un] = some (.im (.bool (risesB ((ws.map row3).map tagS))), [.im (.tuple (ws.map row3)), .un, .un, .un]) := by
        refine ev_cmp' comp (env2 := [.im (.tuple (ws.map row3)), .un, .un, .un]) (rb := .fr (.list [])) (by simp [lim]) rfl rfl ?_
        simp only [cmpD, shl, sh_nil, eqv_nil, emp_all, fin]
        rfl
      have key : execs (fns tbl (n + 1)) d_l_is_web.body [.im (.tuple (ws.map row3)), .un, .un, .un] = some (.rt (.im (.bool (risesB ((ws.map row3).map tagS)))) [.im (.tuple (ws.map row3)), .un, .un, .un]) :=
        execs_nx s1 (execs_nx (exec_for hI (l1 q)) (execs_rt (exec_ret ev')))
      have := run_rt (d := d_l_is_web) (args := [.im (.tuple (ws.map row3))]) rfl key
      rw [this]
      simp only [wirB, q, Bool.true_and]
      rfl
  | _ => simp [Dfn.run, d_l_is_web, wirB]
end DI.Law

set_option maxRecDepth 100000
namespace DI
open PySem PySem.Spec
theorem cut_from {xs : List D} {k : Nat} : cutL xs (some (k : Int)) none = xs.drop k := by
  unfold cutL
  rw [HT.sIx_none, HT.sIx_nat]
  rcases Nat.le_total k xs.length with h | h
  · rw [Nat.min_eq_left h]
    exact List.take_of_length_le (by rw [List.length_drop]; omega)
  · rw [Nat.min_eq_right h, List.drop_length, List.take_nil, List.drop_of_length_le h]
end DI
namespace DI.Law
open PySem PySem.Spec
theorem f_spoilt (n : Nat) : fns tbl (n + 1) "_law_spoilt" = d_l_spoilt.run (fns tbl n) := fns_at (by kernel_rfl)
/-- a result as data -/
def RD (r : R) (y : D) : Prop := r = .im y ∨ (r = .fr y ∧ ∃ ys, y = .list ys)
abbrev spA (d x : D) (pool : List D) (k : Int) : List Sl := [.ow .bor d, .im x, .ow .bor (.list pool), .im (.int k)]
theorem spoilt_end {n N : Nat} {d x : D} {pool : List D} {k : Int} (h : BOk N d) (hN : N < 2^58) (h0 : 0 < pool.length) (h1 : pool.length < 1000) (hx : k = 0 ∨ (∀ xs, x ≠ .tuple xs) ∨ x = .tuple []) :
    ∃ y d', fns tbl (n + 3) "_law_spoilt" (spA d x pool k) = some (.im y, spA d' x pool k) ∧ y ∈ pool ∧ BOk (N + 1) d' := by
  obtain ⟨y, d', e, m, hd⟩ := of_ok (n := n) h (by omega) (k := true) h0 h1
  simp only [lsl, ↓reduceIte] at e
  refine ⟨y, d', ?_, m, hd⟩
  rw [f_spoilt]
  by_cases hk : k = 0
  · subst hk
    simp [Dfn.run, d_l_spoilt, sh_int, eqv_int, e]
  · have bk : (k == 0) = false := beq_false_of_ne hk
    rcases hx with hx | hx | rfl
    · exact absurd hx hk
    · cases x with
      | tuple xs => exact absurd rfl (hx xs)
      | _ => simp [Dfn.run, d_l_spoilt, sh_int, eqv_int, e, bk]
    · simp [Dfn.run, d_l_spoilt, sh_int, eqv_int, e, bk]
theorem spoilt_mid {n N M : Nat} {d : D} {xs pool : List D} {k : Int} (P : D → Prop) (h : BOk N d) (hN : N + M < 2^57) (h0 : 0 < pool.length) (h1 : pool.length < 1000) (hk : k ≠ 0) (hx : xs ≠ []) (hl : xs.length < 100) (hp : ∀ x ∈ xs, P x)
    (ih : ∀ d x, x ∈ xs → BOk (N + 3) d → ∃ r y d', fns tbl (n + 2) "_law_spoilt" (spA d x pool (k - 1)) = some (r, spA d' x pool (k - 1)) ∧ RD r y ∧ P y ∧ BOk (N + 3 + M) d') :
    ∃ r y d', fns tbl (n + 3) "_law_spoilt" (spA d (.tuple xs) pool k) = some (r, spA d' (.tuple xs) pool k) ∧ RD r y ∧ BOk (N + 3 + M) d' ∧ (y ∈ pool ∨ (∃ ys, y = .list ys) ∨ ∃ ys, y = .tuple ys ∧ ys.length ≤ xs.length + 1 ∧ ∀ z ∈ ys, P z) := by
  rw [f_spoilt]
  have bk : (k == 0) = false := beq_false_of_ne hk
  have bl : ((xs.length : Int) == 0) = false := beq_false_of_ne fun z => hx (List.eq_nil_of_length_eq_zero (by omega))
  have lx : 0 < xs.length := by
    cases xs with
    | nil => exact absurd rfl hx
    | cons x xs => simp
  obtain ⟨r0, d0, e0, _, _, g0⟩ := take_ok (n := n + 1) h (by omega) (m := 6) (by omega) (by omega)
  by_cases q0 : r0 = 0
  · subst q0
    obtain ⟨y, d', e, m, hd⟩ := of_ok (n := n) g0 (by omega) (k := true) h0 h1
    simp only [lsl, ↓reduceIte] at e
    refine ⟨.im y, y, d', ?_, .inl rfl, hd.mono (by omega), .inl m⟩
    simp [Dfn.run, d_l_spoilt, sh_int, eqv_int, e, bk, bl, e0]
  · have b0 : (r0 == 0) = false := beq_false_of_ne q0
    obtain ⟨r1, d1, e1, p1, p2, g1⟩ := take_ok (n := n + 1) g0 (by omega) (m := xs.length) (by omega) (by omega)
    obtain ⟨r2, d2, e2, p3, p4, g2⟩ := take_ok (n := n + 1) g1 (by omega) (m := 9) (by omega) (by omega)
    obtain ⟨x, x1, x2, x3, x4⟩ := atI_lt p1 p2
    have ek : ((r1.toNat : Nat) : Int) = r1 := by omega
    have c1 : cutL xs none (some r1) = xs.take r1.toNat := by rw [← ek]; exact cut_to
    have c2 : cutL xs (some r1) none = xs.drop r1.toNat := by rw [← ek]; exact cut_from
    have c3 : cutL xs (some (r1 + 1)) none = xs.drop (r1.toNat + 1) := by
      rw [show r1 + 1 = ((r1.toNat + 1 : Nat) : Int) by omega]
      exact cut_from
    have tk : (xs.take r1.toNat).length = r1.toNat := by rw [List.length_take]; omega
    have lm1 : r1.toNat + (xs.length - (r1.toNat + 1)) ≤ lim := by unfold lim; omega
    have lm2 : r1.toNat + 1 ≤ lim := by unfold lim; omega
    have lm3 : r1.toNat + 1 + (xs.length - r1.toNat) ≤ lim := by unfold lim; omega
    have lm4 : r1.toNat + 1 + (xs.length - (r1.toNat + 1)) ≤ lim := by unfold lim; omega
    have mn : min r1.toNat xs.length = r1.toNat := by omega
    have li : 1 ≤ lim := by decide
    by_cases w0 : r2 = 0
    · subst w0
      refine ⟨.im (.tuple (xs.take r1.toNat ++ xs.drop (r1.toNat + 1))), _, d2, ?_, .inl rfl, g2.mono (by omega), .inr (.inr ⟨_, rfl, by rw [List.length_append, tk, List.length_drop]; omega, fun z hz => ?_⟩)⟩
      · simp [Dfn.run, d_l_spoilt, sh_int, eqv_int, bk, bl, e0, b0, e1, e2, c1, c3, mn, lm1]
      · rcases List.mem_append.mp hz with hz | hz
        · exact hp z (List.mem_of_mem_take hz)
        · exact hp z (List.mem_of_mem_drop hz)
    · have v0 : (r2 == 0) = false := beq_false_of_ne w0
      by_cases w1 : r2 = 1
      · subst w1
        refine ⟨.im (.tuple (xs.take r1.toNat ++ [x] ++ xs.drop r1.toNat)), _, d2, ?_, .inl rfl, g2.mono (by omega), .inr (.inr ⟨_, rfl, by rw [List.length_append, List.length_append, tk, List.length_drop]; simp only [List.length_cons, List.length_nil]; omega, fun z hz => ?_⟩)⟩
        · simp [Dfn.run, d_l_spoilt, sh_int, eqv_int, bk, bl, e0, b0, e1, e2, c1, c2, mn, lm2, lm3, x1, li]
        · rcases List.mem_append.mp hz with hz | hz
          · rcases List.mem_append.mp hz with hz | hz
            · exact hp z (List.mem_of_mem_take hz)
            · rw [List.mem_singleton.mp hz]
              exact hp x x2
          · exact hp z (List.mem_of_mem_drop hz)
      · have v1 : (r2 == 1) = false := beq_false_of_ne w1
        by_cases w2 : r2 = 2
        · subst w2
          refine ⟨.im (.tuple xs.reverse), _, d2, ?_, .inl rfl, g2.mono (by omega), .inr (.inr ⟨_, rfl, by rw [List.length_reverse]; omega, fun z hz => hp z (List.mem_reverse.mp hz)⟩)⟩
          simp [Dfn.run, d_l_spoilt, sh_int, eqv_int, bk, bl, e0, b0, e1, e2]
        · have v2 : (r2 == 2) = false := beq_false_of_ne w2
          by_cases w3 : r2 = 3
          · subst w3
            refine ⟨.fr (.list xs), _, d2, ?_, .inr ⟨rfl, _, rfl⟩, g2.mono (by omega), .inr (.inl ⟨_, rfl⟩)⟩
            simp [Dfn.run, d_l_spoilt, sh_int, eqv_int, bk, bl, e0, b0, e1, e2]
          · have v3 : (r2 == 3) = false := beq_false_of_ne w3
            obtain ⟨r, y, d3, e3, rd, py, g3⟩ := ih d2 x x2 g2
            refine ⟨.im (.tuple (xs.take r1.toNat ++ [y] ++ xs.drop (r1.toNat + 1))), _, d3, ?_, .inl rfl, g3, .inr (.inr ⟨_, rfl, by rw [List.length_append, List.length_append, tk, List.length_drop]; simp only [List.length_cons, List.length_nil]; omega, fun z hz => ?_⟩)⟩
            · rcases rd with rfl | ⟨rfl, _⟩
              · simp [Dfn.run, d_l_spoilt, sh_int, eqv_int, bk, bl, e0, b0, e1, e2, v0, v1, v2, v3, c1, c3, mn, lm2, lm4, x1, li, e3]
              · simp [Dfn.run, d_l_spoilt, sh_int, eqv_int, bk, bl, e0, b0, e1, e2, v0, v1, v2, v3, c1, c3, mn, lm2, lm4, x1, li, e3]
            · rcases List.mem_append.mp hz with hz | hz
              · rcases List.mem_append.mp hz with hz | hz
                · exact hp z (List.mem_of_mem_take hz)
                · rw [List.mem_singleton.mp hz]
                  exact py
              · exact hp z (List.mem_of_mem_drop hz)
end DI.Law

set_option maxRecDepth 100000
namespace DI.Law
open PySem PySem.Spec
theorem f_same (n : Nat) : fns tbl (n + 1) "_law_same" = d_l_same.run (fns tbl n) := fns_at (by kernel_rfl)
theorem f_right (n : Nat) : fns tbl (n + 1) "_law_right" = d_l_right.run (fns tbl n) := fns_at (by kernel_rfl)
theorem same_ok {n : Nat} (a : Bool) : fns tbl (n + 1) "_law_same" [.im (.bool a), .im (.bool a)] = some (.im (.bool true), [.im (.bool a), .im (.bool a)]) := by
  rw [f_same]
  cases a <;> kernel_rfl
theorem hand_ok : fns tbl 39 "_law_hand_right" [] = some (.im (.bool true), []) := by kernel_rfl
def npB (p : D) : Bool := p.canLay0 && decide (p.depth ≤ 40) && (match p with | .str s => decide (s.length ≤ 50) | _ => true)
theorem np_of {p : D} (h : npB p = true) : NP p := by
  unfold npB at h
  rw [Bool.and_eq_true, Bool.and_eq_true, decide_eq_true_iff] at h
  refine ⟨h.1.1, by omega, fun s e => ?_⟩
  subst e
  have := of_decide_eq_true h.2
  unfold lim
  omega
def row1B : D → Bool
  | .tuple ps => ps.all npB
  | _ => true
def topB : D → Bool
  | .tuple rows => decide (rows.length ≤ 50) && rows.all row1B
  | _ => true
theorem nw_of {x : D} (h : topB x = true) : NW x := by
  refine ⟨fun rows e => ?_, fun rows e r hr ps e2 p hp => ?_⟩
  · subst e
    unfold topB at h
    rw [Bool.and_eq_true, decide_eq_true_iff] at h
    unfold lim
    omega
  · subst e
    unfold topB at h
    rw [Bool.and_eq_true] at h
    have h2 := List.all_eq_true.mp h.2 r hr
    subst e2
    exact np_of (List.all_eq_true.mp h2 p hp)
def goodB (y : D) : Bool := npB y && row1B y && topB y
theorem good_np {y : D} (h : goodB y = true) : npB y = true ∧ row1B y = true ∧ topB y = true := by
  unfold goodB at h
  rw [Bool.and_eq_true, Bool.and_eq_true] at h
  exact ⟨h.1.1, h.1.2, h.2⟩
def poolC : List D := [.int 0, .int 1, .bool true, .none, .str "", .str "a", .str "zz", .str "1", .str "a b", .str "A", .str "ab1-", .str "aa_", .tuple [], .list [], .tuple [.str "a"], .tuple [.str "a", .str "n", .str "m"]]
def poolW (w v : W3) : List D := poolC ++ [row3 w, row3 v, .str w.1, .str v.1, .str v.2.2]
theorem good_c : ∀ y ∈ poolC, goodB y = true := by decide +kernel
theorem good_t : ∀ t ∈ tagT, goodB (.str t) = true := by decide +kernel
theorem good_s : ∀ t ∈ spotT, goodB (.str t) = true := by decide +kernel
theorem good_r : ∀ t ∈ tagT, ∀ a ∈ spotT, ∀ b ∈ spotT, goodB (row3 (t, a, b)) = true := by decide +kernel
theorem name_t : ∀ t ∈ tagT, nameD (.str t) = true := by decide +kernel
theorem name_s : ∀ t ∈ spotT, nameD (.str t) = true := by decide +kernel
theorem pool_good {ws : List W3} (ok : WOk ws) {w v : W3} (hw : w ∈ ws) (hv : v ∈ ws) : ∀ y ∈ poolW w v, goodB y = true := fun y hy => by
  obtain ⟨a1, a2, a3⟩ := ok.tag w hw
  obtain ⟨b1, b2, b3⟩ := ok.tag v hv
  rcases List.mem_append.mp hy with hy | hy
  · exact good_c y hy
  · simp only [List.mem_cons, List.not_mem_nil, or_false] at hy
    rcases hy with rfl | rfl | rfl | rfl | rfl
    · exact good_r _ a1 _ a2 _ a3
    · exact good_r _ b1 _ b2 _ b3
    · exact good_t _ a1
    · exact good_t _ b1
    · exact good_s _ b3
theorem rises_pair : ∀ ss : List Str, ss.Pairwise (fun a b => strLt a b = true) → risesB ss = true
  | [], _ => rfl
  | [_], _ => rfl
  | a :: b :: r, h => by
    rw [List.pairwise_cons] at h
    show (strLt a b && risesB (b :: r)) = true
    rw [h.1 b List.mem_cons_self, rises_pair (b :: r) h.2]
    rfl
theorem web_wir {ws : List W3} (ok : WOk ws) : wirB (.tuple (ws.map row3)) = true ∧ topB (.tuple (ws.map row3)) = true := by
  have l := ok.le
  refine ⟨?_, ?_⟩
  · unfold wirB
    rw [Bool.and_eq_true, tags_row]
    refine ⟨List.all_eq_true.mpr fun r hr => ?_, rises_pair _ ok.up⟩
    obtain ⟨w, hw, rfl⟩ := List.mem_map.mp hr
    obtain ⟨a1, a2, a3⟩ := ok.tag w hw
    show (nameD (.str w.1) && nameD (.str w.2.1) && nameD (.str w.2.2)) = true
    rw [name_t _ a1, name_s _ a2, name_s _ a3]
    rfl
  · unfold topB
    rw [Bool.and_eq_true, decide_eq_true_iff, List.length_map]
    refine ⟨by omega, List.all_eq_true.mpr fun r hr => ?_⟩
    obtain ⟨w, hw, rfl⟩ := List.mem_map.mp hr
    obtain ⟨a1, a2, a3⟩ := ok.tag w hw
    exact (good_np (good_r _ a1 _ a2 _ a3)).2.1
theorem spoilt1 {N : Nat} {d : D} {pool : List D} {w : W3} (h : BOk N d) (hN : N < 2^50) (h0 : 0 < pool.length) (h1 : pool.length < 1000) (hp : ∀ y ∈ pool, goodB y = true) (hw : row1B (row3 w) = true) :
    ∃ r y d', fns tbl 38 "_law_spoilt" (spA d (row3 w) pool 1) = some (r, spA d' (row3 w) pool 1) ∧ RD r y ∧ row1B y = true ∧ BOk (N + 4) d' := by
  obtain ⟨r, y, d', e, rd, hd, cs⟩ := spoilt_mid (n := 35) (M := 1) (fun p => npB p = true) h (by omega) h0 h1 (k := 1) (by decide) (xs := [.str w.1, .str w.2.1, .str w.2.2]) (by simp) (by simp) (fun x hx => List.all_eq_true.mp hw x hx) fun d x hx hd => by
    obtain ⟨y, d', e, m, hd'⟩ := spoilt_end (n := 34) (x := x) (k := 0) hd (by omega) h0 h1 (.inl rfl)
    exact ⟨.im y, y, d', e, .inl rfl, (good_np (hp y m)).1, hd'⟩
  refine ⟨r, y, d', e, rd, ?_, hd⟩
  rcases cs with m | ⟨ys, rfl⟩ | ⟨ys, rfl, _, hy⟩
  · exact (good_np (hp y m)).2.1
  · rfl
  · exact List.all_eq_true.mpr hy
theorem spoilt2 {N : Nat} {d : D} {pool : List D} {ws : List W3} (h : BOk N d) (hN : N < 2^49) (h0 : 0 < pool.length) (h1 : pool.length < 1000) (hp : ∀ y ∈ pool, goodB y = true) (ok : WOk ws) :
    ∃ r y d', fns tbl 39 "_law_spoilt" (spA d (.tuple (ws.map row3)) pool 2) = some (r, spA d' (.tuple (ws.map row3)) pool 2) ∧ RD r y ∧ topB y = true ∧ BOk (N + 7) d' := by
  have rows : ∀ x ∈ ws.map row3, row1B x = true := fun x hx => by
    obtain ⟨w, hw, rfl⟩ := List.mem_map.mp hx
    obtain ⟨a1, a2, a3⟩ := ok.tag w hw
    exact (good_np (good_r _ a1 _ a2 _ a3)).2.1
  have l := ok.le
  obtain ⟨r, y, d', e, rd, hd, cs⟩ := spoilt_mid (n := 36) (M := 4) (fun p => row1B p = true) h (by omega) h0 h1 (k := 2) (by decide) (xs := ws.map row3) (fun z => ok.ne (List.map_eq_nil_iff.mp z)) (by rw [List.length_map]; omega) rows fun d x hx hd => by
    have hr := rows x hx
    obtain ⟨w, hw, rfl⟩ := List.mem_map.mp hx
    exact spoilt1 hd (by omega) h0 h1 hp hr
  refine ⟨r, y, d', e, rd, ?_, hd⟩
  rcases cs with m | ⟨ys, rfl⟩ | ⟨ys, rfl, hl, hy⟩
  · exact (good_np (hp y m)).2.2
  · rfl
  · unfold topB
    rw [Bool.and_eq_true, decide_eq_true_iff]
    rw [List.length_map] at hl
    exact ⟨by omega, List.all_eq_true.mpr hy⟩
theorem last_row {ws : List W3} (h : ws ≠ []) : ∃ v ∈ ws, L2.atI (ws.map row3) (-1) = some (row3 v) := by
  refine ⟨ws.getLast h, List.getLast_mem h, ?_⟩
  have : ws.map row3 = ws.dropLast.map row3 ++ [row3 (ws.getLast h)] := by
    rw [← List.map_singleton, ← List.map_append, List.dropLast_concat_getLast]
  rw [this]
  unfold L2.atI L2.ixN
  rw [if_neg (by decide), if_pos (by rw [List.length_append]; simp only [List.length_cons, List.length_nil]; omega)]
  rw [show ((-1 : Int) + ((ws.dropLast.map row3 ++ [row3 (ws.getLast h)]).length : Int)).toNat = (ws.dropLast.map row3).length by rw [List.length_append]; simp only [List.length_cons, List.length_nil]; omega]
  simp
theorem wir_list {n : Nat} (ys : List D) : fns tbl (n + 1) "is_wiring" [.ow .bor (.list ys)] = some (.im (.bool false), [.ow .bor (.list ys)]) ∧ fns tbl (n + 1) "_law_is_web" [.ow .bor (.list ys)] = some (.im (.bool false), [.ow .bor (.list ys)]) := by
  rw [f_is_wiring, f_is_web]
  constructor
  · simp [Dfn.run, d_is_wiring]
  · simp [Dfn.run, d_l_is_web]
end DI.Law

set_option maxRecDepth 100000
namespace DI.Law
open PySem PySem.Spec
def rightB : Sms := match d_l_right.body with
  | .cons _ (.cons (.for _ _ b) _) => b
  | _ => .nil
@[simp] def slR : R → Sl
  | .fr z => .ow .own z
  | .im z => .im z
  | .al _ => .un
abbrev riE (d : D) : Env := [.ow .bor d, .un, .un, .un, .un]
theorem right_turn {N : Nat} {d : D} (h : BOk N d) (hN : N < 2^48) (t : D) : ∃ d' e1, forTurn (fns tbl 39) (.n 1) rightB t (riE d) = some (.nx e1) ∧ forget (riE d) e1 = riE d' ∧ BOk (N + 60) d' := by
  obtain ⟨ws, d1, e1, g1, ok⟩ := web_ok (n := 36) h (by omega)
  obtain ⟨ww, wt⟩ := web_wir ok
  have iw := wiring_ok (n := 37) (nw_of wt)
  rw [ww] at iw
  obtain ⟨v, hv, hl⟩ := last_row ok.ne
  obtain ⟨w, ws', rfl⟩ : ∃ w ws', ws = w :: ws' := by
    cases ws with
    | nil => exact absurd rfl ok.ne
    | cons w ws' => exact ⟨w, ws', rfl⟩
  have pg := pool_good ok List.mem_cons_self hv
  have pl : (poolW w v).length = 21 := rfl
  obtain ⟨r, y, d2, e2, rd, ty, g2⟩ := spoilt2 (pool := poolW w v) g1 (by omega) (by omega) (by omega) pg ok
  have hf : L2.atI ((w :: ws').map row3) 0 = some (row3 w) := ix0
  have li : 16 ≤ lim := by decide
  have li2 : 5 ≤ lim := by decide
  have li3 : 21 ≤ lim := by decide
  let wb : D := .tuple ((w :: ws').map row3)
  have s1 : exec (fns tbl 39) (.set 2 (.call "_law_web" (.cons (.v 0) (.cons (.c (.int 7)) (.cons (.c (.int 5)) .nil))))) [.ow .bor d, .im t, .un, .un, .un] = some (.nx [.ow .bor d1, .im t, .im wb, .un, .un]) := by
    simp [e1, wb]
  have s2 : exec (fns tbl 39) (.iff (.cmp .IsNot (.call "is_wiring" (.cons (.v 2) .nil)) (.c (.bool true))) (.cons (.ret (.c (.bool false))) .nil) .nil) [.ow .bor d1, .im t, .im wb, .un, .un] = some (.nx [.ow .bor d1, .im t, .im wb, .un, .un]) := by
    have iw' : fns tbl 39 "is_wiring" [.im wb] = some (.im (.bool true), [.im wb]) := iw
    simp [iw']
  have s5 : exec (fns tbl 39) (.set 4 (.call "_law_spoilt" (.cons (.v 0) (.cons (.v 2) (.cons (.v 3) (.cons (.c (.int 2)) .nil)))))) [.ow .bor d1, .im t, .im wb, .ow .own (.list (poolW w v)), .un] = some (.nx [.ow .bor d2, .im t, .im wb, .ow .own (.list (poolW w v)), slR r]) := by
    have e2' : fns tbl 39 "_law_spoilt" [.ow .bor d1, .im wb, .ow .bor (.list (poolW w v)), .im (.int 2)] = some (r, [.ow .bor d2, .im wb, .ow .bor (.list (poolW w v)), .im (.int 2)]) := e2
    rcases rd with rfl | ⟨rfl, _⟩
    · simp [e2']
    · simp [e2']
  have s6 : exec (fns tbl 39) (.iff (.notX (.call "_law_same" (.cons (.call "is_wiring" (.cons (.v 4) .nil)) (.cons (.call "_law_is_web" (.cons (.v 4) .nil)) .nil)))) (.cons (.ret (.c (.bool false))) .nil) .nil) [.ow .bor d2, .im t, .im wb, .ow .own (.list (poolW w v)), slR r] = some (.nx [.ow .bor d2, .im t, .im wb, .ow .own (.list (poolW w v)), slR r]) := by
    rcases rd with rfl | ⟨rfl, ys, rfl⟩
    · have a1 : fns tbl 39 "is_wiring" [.im y] = some (.im (.bool (wirB y)), [.im y]) := wiring_ok (n := 37) (nw_of ty)
      have a2 : fns tbl 39 "_law_is_web" [.im y] = some (.im (.bool (wirB y)), [.im y]) := web_check (n := 37) (nw_of ty)
      have a3 : fns tbl 39 "_law_same" [.im (.bool (wirB y)), .im (.bool (wirB y))] = some (.im (.bool true), [.im (.bool (wirB y)), .im (.bool (wirB y))]) := same_ok (n := 38) _
      simp [a1, a2, a3]
    · have a1 : fns tbl 39 "is_wiring" [.ow .bor (.list ys)] = some (.im (.bool false), [.ow .bor (.list ys)]) := (wir_list (n := 38) ys).1
      have a2 : fns tbl 39 "_law_is_web" [.ow .bor (.list ys)] = some (.im (.bool false), [.ow .bor (.list ys)]) := (wir_list (n := 38) ys).2
      have a3 : fns tbl 39 "_law_same" [.im (.bool false), .im (.bool false)] = some (.im (.bool true), [.im (.bool false), .im (.bool false)]) := same_ok (n := 38) _
      simp [a1, a2, a3]
  refine ⟨d2, [.ow .bor d2, .im t, .im wb, .ow .own (.list (poolW w v)), slR r], ?_, rfl, g2.mono (by omega)⟩
  have b0 : bindT (.n 1) t (riE d) = some [.ow .bor d, .im t, .un, .un, .un] := by simp [riE]
  unfold forTurn
  rw [b0]
  refine execs_nx s1 (execs_nx s2 (execs_nx (env1 := [.ow .bor d1, .im t, .im wb, .ow .own (.list poolC), .un]) ?_ (execs_nx (env1 := [.ow .bor d1, .im t, .im wb, .ow .own (.list (poolW w v)), .un]) ?_ (execs_nx s5 (execs_nx s6 rfl)))))
  · simp [lim, poolC]
  · have hf' : L2.atI (row3 w :: List.map row3 ws') 0 = some (row3 w) := ix0
    have hl' : L2.atI (row3 w :: List.map row3 ws') (-1) = some (row3 v) := hl
    have pc : poolC.length = 16 := rfl
    have rx0 : ∀ w : W3, ixD (row3 w) (.int 0) = some (.str w.1) := fun w => ix0
    have rx2 : ∀ w : W3, ixD (row3 w) (.int 2) = some (.str w.2.2) := fun w => ix2
    have rt : ∀ (xs : List D) (i : Int), ixD (.tuple xs) (.int i) = L2.atI xs i := fun _ _ => rfl
    simp [-ixD, wb, hf', hl', rx0, rx2, rt, lim, poolW, pc]
theorem right_loop : ∀ (j : Nat) (lo : Int) (N : Nat) (d : D), BOk N d → N + 60 * j < 2^48 → ∃ d', forS (forTurn (fns tbl 39) (.n 1) rightB) (riE d) (rangeL lo j) (riE d) = some (.nx (riE d'))
  | 0, lo, N, d, h, hN => ⟨d, rfl⟩
  | j + 1, lo, N, d, h, hN => by
    obtain ⟨d1, e1, a1, a2, g1⟩ := right_turn h (by omega) (.int lo)
    obtain ⟨d2, a3⟩ := right_loop j (lo + 1) (N + 60) d1 g1 (by omega)
    refine ⟨d2, ?_⟩
    show forS _ (riE d) (.int lo :: rangeL (lo + 1) j) (riE d) = _
    refine forS_nx a1 ?_
    rw [a2]
    have same : ∀ (ds : List D) (env : Env), forS (forTurn (fns tbl 39) (.n 1) rightB) (riE d) ds env = forS (forTurn (fns tbl 39) (.n 1) rightB) (riE d1) ds env := fun ds => by
      have fg : ∀ e : Env, forget (riE d) e = forget (riE d1) e := fun e => by
        cases e <;> rfl
      induction ds with
      | nil => exact fun _ => rfl
      | cons x ds ih =>
        intro env
        simp only [forS, fg, ih]
    rw [same]
    exact a3
theorem right_ok {d : D} (h : BOk 0 d) : ∃ d', fns tbl 40 "_law_right" [.ow .bor d] = some (.im (.bool true), [.ow .bor d']) := by
  obtain ⟨d', e⟩ := right_loop 14 0 0 d h (by omega)
  refine ⟨d', ?_⟩
  rw [f_right]
  have s1 : exec (fns tbl 39) (.iff (.notX (.call "_law_hand_right" .nil)) (.cons (.ret (.c (.bool false))) .nil) .nil) (riE d) = some (.nx (riE d)) := by
    have hh := hand_ok
    simp [riE, hh]
  have hI : evI (fns tbl 39) (.r1 (.c (.int 14))) (riE d) = some ([], rangeL 0 14, riE d) := by
    have i1 : in62 14 = true := by decide
    simp [i1]
  have key : execs (fns tbl 39) d_l_right.body ([.ow .bor d] ++ List.replicate (d_l_right.ns - d_l_right.np) .un) = some (.rt (.im (.bool true)) (riE d')) :=
    execs_nx s1 (execs_nx (exec_for hI e) (execs_rt (by simp [unlockE, riE])))
  have := run_rt (d := d_l_right) rfl key
  rw [this]
  rfl
end DI.Law

set_option maxRecDepth 100000
namespace DI.Law
open PySem PySem.Spec
theorem f_cells (n : Nat) : fns tbl (n + 1) "_law_cells" = d_l_cells.run (fns tbl n) := fns_at (by kernel_rfl)
theorem f_box (n : Nat) : fns tbl (n + 1) "_law_box" = d_l_box.run (fns tbl n) := fns_at (by kernel_rfl)
theorem f_law (n : Nat) : fns tbl (n + 1) "law" = d_law.run (fns tbl n) := fns_at (by kernel_rfl)
def cellB : Sms := match d_l_cells.body with
  | .cons _ (.cons (.for _ _ b) _) => b
  | _ => .nil
abbrev ceE (x : D) (cs : List Int) : Env := [.im x, .im (.int 3), .ow .own (.list (cs.map .int)), .un, .un, .un]
theorem cell_turn {n : Nat} {x : D} {cs : List Int} (h3 : cs.length = 3) (i : Nat) (hi : i < 1000) (c : Int) : ∃ cs' e1, forTurn (fns tbl n) (.t [3, 4]) cellB (.tuple [.int i, .int c]) (ceE x cs) = some (.nx e1) ∧ forget (ceE x cs) e1 = ceE x cs' ∧ cs'.length = 3 := by
  have sm : small64 ((i : Int) + 2) = true := small_of (by omega) (by omega)
  have m0 : 0 ≤ (i : Int) % 3 := Int.emod_nonneg _ (by omega)
  have m1 : (i : Int) % 3 < 3 := Int.emod_lt_of_pos _ (by omega)
  have lt : ((i : Int) % 3).toNat < cs.length := by omega
  have a1 : L2.atI (cs.map PyData.int) ((i : Int) % 3) = some (.int cs[((i : Int) % 3).toNat]) := by
    obtain ⟨x, g1, _, _, g4⟩ := atI_lt (xs := cs.map PyData.int) m0 (by rw [List.length_map, h3]; exact m1)
    rw [g1]
    rw [List.getElem?_map, List.getElem?_eq_getElem lt] at g4
    exact g4.symm
  have a2 : L2.ixN cs.length ((i : Int) % 3) = some ((i : Int) % 3).toNat := by
    unfold L2.ixN
    rw [if_pos m0, if_pos (by rw [h3]; exact m1)]
  refine ⟨cs.set ((i : Int) % 3).toNat (cs[((i : Int) % 3).toNat] + c * (i + 2)), [.im x, .im (.int 3), .ow .own (.list ((cs.set ((i : Int) % 3).toNat (cs[((i : Int) % 3).toNat] + c * (i + 2))).map .int)), .im (.int i), .im (.int c), .im (.int (i % 3))], ?_, rfl, by rw [List.length_set]; exact h3⟩
  simp [forTurn, cellB, d_l_cells, ceE, a1, a2, sm, List.map_set]
theorem cell_loop {n : Nat} {x : D} : ∀ (zs : List Int) (i : Nat) (cs : List Int) (pre : Env), cs.length = 3 → i + zs.length < 1000 → (∀ cs e, forget (ceE x cs) e = forget pre e) → ∃ cs', forS (forTurn (fns tbl n) (.t [3, 4]) cellB) pre (enumFrom i (zs.map .int)) (ceE x cs) = some (.nx (ceE x cs')) ∧ cs'.length = 3
  | [], i, cs, pre, h3, hi, hp => ⟨cs, rfl, h3⟩
  | z :: zs, i, cs, pre, h3, hi, hp => by
    simp only [List.length_cons] at hi
    obtain ⟨cs1, e1, a1, a2, a3⟩ := cell_turn (n := n) (x := x) h3 i (by omega) z
    obtain ⟨cs2, a4, a5⟩ := cell_loop zs (i + 1) cs1 pre a3 (by omega) hp
    refine ⟨cs2, ?_, a5⟩
    show forS _ pre (.tuple [.int i, .int z] :: enumFrom (i + 1) (zs.map .int)) (ceE x cs) = _
    refine forS_nx a1 ?_
    rw [← hp cs e1, a2]
    exact a4
theorem cells_ok {n : Nat} {ns : List Int} (hl : ns.length ≤ 63) : ∃ cs : List Int, fns tbl (n + 1) "_law_cells" [.im (.list (ns.map .int)), .im (.int 3)] = some (.fr (.list (cs.map .int)), [.im (.list (ns.map .int)), .im (.int 3)]) ∧ cs.length ≤ 3 := by
  have c1 : cutL (ns.map PyData.int) none (some 3) = (ns.map PyData.int).take 3 := cut_to (k := 3)
  obtain ⟨zs, hz, hzl⟩ : ∃ zs : List Int, cutL (ns.map PyData.int) (some 3) (some 63) = zs.map .int ∧ zs.length ≤ 63 ∧ (3 < ns.length ∨ zs = []) := by
    refine ⟨(ns.drop (HT.sIx ns.length 0 (some 3))).take (HT.sIx ns.length ns.length (some 63) - HT.sIx ns.length 0 (some 3)), ?_, ?_, ?_⟩
    · unfold cutL
      rw [List.length_map, List.map_take, List.map_drop]
    · rw [List.length_take, List.length_drop]
      omega
    · by_cases q : 3 < ns.length
      · exact .inl q
      · refine .inr ?_
        have s3 : HT.sIx ns.length 0 (some 3) = ns.length := by
          have := HT.sIx_nat ns.length 0 3
          rw [show ((3 : Nat) : Int) = 3 from rfl] at this
          rw [this]
          omega
        rw [s3, List.drop_length, List.take_nil]
  have hI : ∀ cs : List Int, evI (fns tbl n) (.e (.sl (.v 0) (.v 1) (.c (.int 63)))) (ceE (.list (ns.map .int)) cs) = some ([], enumFrom 0 (zs.map .int), ceE (.list (ns.map .int)) cs) := fun cs => by
    simp [ceE, hz]
  have fin : ∀ cs : List Int, cs.length ≤ 3 → (cs.length = 3 ∨ zs = []) → exec (fns tbl n) (.set 2 (.orX (.bi .list (.cons (.sl (.v 0) .nil (.v 1)) .nil)) (.lst (.cons (.c (.int 0)) .nil)))) [.im (.list (ns.map .int)), .im (.int 3), .un, .un, .un, .un] = some (.nx (ceE (.list (ns.map .int)) cs)) →
      ∃ cs : List Int, d_l_cells.run (fns tbl n) [.im (.list (ns.map .int)), .im (.int 3)] = some (.fr (.list (cs.map .int)), [.im (.list (ns.map .int)), .im (.int 3)]) ∧ cs.length ≤ 3 := fun cs h1 h2 s1 => by
    obtain ⟨cs', e, h3⟩ : ∃ cs' : List Int, forS (forTurn (fns tbl n) (.t [3, 4]) cellB) (ceE (.list (ns.map .int)) cs) (enumFrom 0 (zs.map .int)) (ceE (.list (ns.map .int)) cs) = some (.nx (ceE (.list (ns.map .int)) cs')) ∧ cs'.length ≤ 3 := by
      rcases h2 with h2 | rfl
      · obtain ⟨cs', e, h⟩ := cell_loop (n := n) (x := .list (ns.map .int)) zs 0 cs (ceE (.list (ns.map .int)) cs) h2 (by omega) (fun cs' e => by
          match e with
          | [] => rfl
          | [_] => rfl
          | [_, _] => rfl
          | [_, _, _] => rfl
          | [_, _, _, _] => rfl
          | [_, _, _, _, _] => rfl
          | _ :: _ :: _ :: _ :: _ :: _ :: _ => rfl)
        exact ⟨cs', e, by omega⟩
      · exact ⟨cs, rfl, h1⟩
    have key : execs (fns tbl n) d_l_cells.body ([.im (.list (ns.map .int)), .im (.int 3)] ++ List.replicate (d_l_cells.ns - d_l_cells.np) .un) = some (.rt (.fr (.list (cs'.map .int))) [.im (.list (ns.map .int)), .im (.int 3), .un, .un, .un, .un]) :=
      execs_nx s1 (execs_nx (exec_for (hI cs) e) (execs_rt (by simp [unlockE, ceE])))
    have := run_rtf (d := d_l_cells) rfl key
    exact ⟨cs', by rw [this]; rfl, h3⟩
  rw [f_cells]
  cases ns with
  | nil =>
    have c1' : cutL ([] : List D) none (some 3) = [] := c1
    exact fin [0] (by simp) (.inr (hzl.2.resolve_left (by simp))) (by simp [ceE, c1', lim])
  | cons a ns =>
    refine fin ((a :: ns).take 3) (by rw [List.length_take]; omega) ?_ ?_
    · rcases hzl.2 with q | q
      · exact .inl (by rw [List.length_take]; omega)
      · exact .inr q
    · rw [List.map_cons] at c1 ⊢
      simp [ceE, c1, List.map_take]
theorem box_ok {n : Nat} {cs : List Int} {k : Nat} (hk : k < cs.length) : ∃ a b, fns tbl (n + 1) "_law_box" [.ow .bor (.list (cs.map .int)), .im (.int k)] = some (.fr (bx a b 0), [.ow .bor (.list (cs.map .int)), .im (.int k)]) := by
  have a1 : L2.atI (cs.map PyData.int) (k : Int) = some (.int cs[k]) := L2.atI_nat (by rw [List.getElem?_map, List.getElem?_eq_getElem hk]; rfl)
  have s1 : small64 39373 = true := by decide
  have s2 : small64 1 = true := by decide
  have s3 : small64 0 = true := by decide
  rw [f_box]
  by_cases q : (1000000000000000000 : Int) ≤ (if cs[k] < 0 then -cs[k] else cs[k])
  · refine ⟨(if cs[k] < 0 then -cs[k] else cs[k]) * 1, cs[k] % 2305843009213693951 + 39373 * k + 331, ?_⟩
    simp [Dfn.run, d_l_box, a1, hk, s1, s2, s3, q, lim]
  · refine ⟨(if cs[k] < 0 then -cs[k] else cs[k]) * 0, cs[k] % 2305843009213693951 + 39373 * k + 331, ?_⟩
    simp [Dfn.run, d_l_box, a1, hk, s1, s2, s3, q, lim]
theorem law_true (ns : List Int) (hl : ns.length ≤ 63) : ∃ fin, DI.fns tbl (40 + 1) "law" [.im (.list (ns.map .int))] = some (.im (.bool true), fin) := by
  obtain ⟨cs, e1, h3⟩ := cells_ok (n := 39) hl
  have s1 : exec (fns tbl 40) (.set 1 (.call "_law_cells" (.cons (.v 0) (.cons (.c (.int 3)) .nil)))) [.im (.list (ns.map .int)), .un, .un] = some (.nx [.im (.list (ns.map .int)), .ow .own (.list (cs.map .int)), .un]) := by
    simp [e1]
  have comp : ev (fns tbl 40) (.lc [2] (.r1 (.bi .len (.cons (.v 1) .nil))) (.n 2) (.c (.bool true)) (.call "_law_right" (.cons (.call "_law_box" (.cons (.v 1) (.cons (.v 2) .nil))) .nil))) [.im (.list (ns.map .int)), .ow .own (.list (cs.map .int)), .un] = some (.fr (.list ((rangeL 0 cs.length).filterMap fun _ => some (.bool true))), [.im (.list (ns.map .int)), .ow .own (.list (cs.map .int)), .un]) := by
    have l3 : cs.length ≤ lim := by unfold lim; omega
    refine lc_map (ls := []) (env1 := [.im (.list (ns.map .int)), .ow .own (.list (cs.map .int)), .un]) _ ?_ rfl (by rw [rangeL_len]; exact l3) (fun d hd => ?_) rfl
    · have i2 : in62 (cs.length : Int) = true := by
        unfold in62
        rw [Bool.and_eq_true, decide_eq_true_iff, decide_eq_true_iff]
        omega
      simp [i2]
    · obtain ⟨i, hi, rfl⟩ := range_mem _ _ _ hd
      rw [Int.zero_add]
      obtain ⟨a, b, e2⟩ := box_ok (n := 39) hi
      obtain ⟨d', e3⟩ := right_ok (d := bx a b 0) ⟨a, b, 0, rfl, by omega, by omega⟩
      simp [lcTurn, wipeE, lockE, e2, e3]
  have fm : (rangeL 0 cs.length).filterMap (fun _ => some (PyData.bool true)) = (rangeL 0 cs.length).map fun _ => .bool true := by
    rw [← List.filterMap_eq_map]
    rfl
  rw [fm] at comp
  have al : ev (fns tbl 40) (.bi .all (.cons (.lc [2] (.r1 (.bi .len (.cons (.v 1) .nil))) (.n 2) (.c (.bool true)) (.call "_law_right" (.cons (.call "_law_box" (.cons (.v 1) (.cons (.v 2) .nil))) .nil))) .nil)) [.im (.list (ns.map .int)), .ow .own (.list (cs.map .int)), .un] = some (.im (.bool true), [.im (.list (ns.map .int)), .ow .own (.list (cs.map .int)), .un]) := by
    refine ev_bi1 comp rfl ?_
    rw [biD, blsD_map (fun _ => true)]
    simp
  have key : execs (fns tbl 40) d_law.body ([.im (.list (ns.map .int))] ++ List.replicate (d_law.ns - d_law.np) .un) = some (.rt (.im (.bool true)) [.im (.list (ns.map .int)), .ow .own (.list (cs.map .int)), .un]) :=
    execs_nx s1 (execs_rt (exec_ret al))
  have := run_rt (d := d_law) rfl key
  rw [f_law]
  exact ⟨_, this⟩
end DI.Law

open PySem PySem.W PyProof.Rows in
set_option maxHeartbeats 0 in
theorem PySem.Challenge.cw_sameloops_k00_wirings_or_none_holds : PySem.Challenge.rw_sameloops_k00_wirings_or_none.Holds := by
  w_on; o_law; k_head; (case hw => w_witness2)
  k_fill
  refine L2.walk_of (l := PySem.Challenge.rw_sameloops_k00_wirings_or_none) (n := 63) (k := 40 + 1) (x := "_law_script") (CX := fun _ => L2.CX0) (sp := fun w => DI.spD _ (DI.fns DI.Law.tbl (40 + 1) "law")) rfl (by decide) rfl ⟨rfl, by decide, by decide⟩ (fun w h Y => PySem.W.kIn_of Y) ?F (fun _ _ a ns hl _ hS => DI.spD_of hS (DI.Law.law_true ns hl)) (fun _ _ _ _ _ h => h)
  case F =>
    intro w mg fa h KX G hmg
    refine' DI.Law.all_mk KX G hmg ?a_is_name ?l_is_name ?c_is_name ?k_is_name ?a_rises ?l_rises ?c_rises ?k_rises ?a_is_wiring ?l_is_wiring ?c_is_wiring ?k_is_wiring ?a_l_box ?l_l_box ?c_l_box ?k_l_box ?a_l_take ?l_l_take ?c_l_take ?k_l_take ?a_l_cells ?l_l_cells ?c_l_cells ?k_l_cells ?a_l_of ?l_l_of ?c_l_of ?k_l_of ?a_l_pick ?l_l_pick ?c_l_pick ?k_l_pick ?a_l_same ?l_l_same ?c_l_same ?k_l_same ?a_l_web ?l_l_web ?c_l_web ?k_l_web ?a_l_is_mark ?l_l_is_mark ?c_l_is_mark ?k_l_is_mark ?a_l_is_web ?l_l_is_web ?c_l_is_web ?k_l_is_web ?a_l_spoilt ?l_l_spoilt ?c_l_spoilt ?k_l_spoilt ?a_l_hand_right ?l_l_hand_right ?c_l_hand_right ?k_l_hand_right ?a_l_right ?l_l_right ?c_l_right ?k_l_right ?a_law ?l_law ?c_law ?k_law ?z_abs ?z_all ?z_bool ?z_enumerate ?z_int ?z_isinstance ?z_len ?z_list ?z_max ?z_min ?z_range ?z_sorted ?z_str ?z_tuple ?z_zip ?y_LETTERS ?r_LETTERS ?y_SIGNS ?r_SIGNS 40
    (case a_is_name => k_is)
    (case l_is_name => k_is)
    (case c_is_name => k_is)
    (case k_is_name => k_is)
    (case a_rises => k_is)
    (case l_rises => k_is)
    (case c_rises => k_is)
    (case k_rises => k_is)
    (case a_is_wiring => k_is)
    (case l_is_wiring => k_is)
    (case c_is_wiring => k_is)
    (case k_is_wiring => k_is)
    (case a_l_box => k_is)
    (case l_l_box => k_is)
    (case c_l_box => k_is)
    (case k_l_box => k_is)
    (case a_l_take => k_is)
    (case l_l_take => k_is)
    (case c_l_take => k_is)
    (case k_l_take => k_is)
    (case a_l_cells => k_is)
    (case l_l_cells => k_is)
    (case c_l_cells => k_is)
    (case k_l_cells => k_is)
    (case a_l_of => k_is)
    (case l_l_of => k_is)
    (case c_l_of => k_is)
    (case k_l_of => k_is)
    (case a_l_pick => k_is)
    (case l_l_pick => k_is)
    (case c_l_pick => k_is)
    (case k_l_pick => k_is)
    (case a_l_same => k_is)
    (case l_l_same => k_is)
    (case c_l_same => k_is)
    (case k_l_same => k_is)
    (case a_l_web => k_is)
    (case l_l_web => k_is)
    (case c_l_web => k_is)
    (case k_l_web => k_is)
    (case a_l_is_mark => k_is)
    (case l_l_is_mark => k_is)
    (case c_l_is_mark => k_is)
    (case k_l_is_mark => k_is)
    (case a_l_is_web => k_is)
    (case l_l_is_web => k_is)
    (case c_l_is_web => k_is)
    (case k_l_is_web => k_is)
    (case a_l_spoilt => k_is)
    (case l_l_spoilt => k_is)
    (case c_l_spoilt => k_is)
    (case k_l_spoilt => k_is)
    (case a_l_hand_right => k_is)
    (case l_l_hand_right => k_is)
    (case c_l_hand_right => k_is)
    (case k_l_hand_right => k_is)
    (case a_l_right => k_is)
    (case l_l_right => k_is)
    (case c_l_right => k_is)
    (case k_l_right => k_is)
    (case a_law => k_is)
    (case l_law => k_is)
    (case c_law => k_is)
    (case k_law => k_is)
    (case z_abs => k_is)
    (case z_all => k_is)
    (case z_bool => k_is)
    (case z_enumerate => k_is)
    (case z_int => k_is)
    (case z_isinstance => k_is)
    (case z_len => k_is)
    (case z_list => k_is)
    (case z_max => k_is)
    (case z_min => k_is)
    (case z_range => k_is)
    (case z_sorted => k_is)
    (case z_str => k_is)
    (case z_tuple => k_is)
    (case z_zip => k_is)
    (case y_LETTERS => k_is)
    (case r_LETTERS => exact ⟨_, rfl⟩)
    (case y_SIGNS => k_is)
    (case r_SIGNS => exact ⟨_, rfl⟩)
