import PyProof.Rows.All
import Wide.All
import OpenK.AllK
import Wide.FinOn
import PyProof.EqAt
import PyProof.EqKinds
import PyProof.TupleCall
import HandS.ForMost
import HandS.ForExc
import HandS.Wide
import HandS.IsInst
import HandS.Style
import HandS.Sort
import HandS.TryMany
import HandS.Lambda
import HandS.Deep
import HandS.TupAny
import HandS.RaiseMore
import KE.KExcInit
import HandS.ExcField
import HandS.ExcInit
import HandS.WideBits
import HandS.Iter
import HandS.Zip
import KE.KRevSl
import KE.KExcLine
import HandS.Star
import HandS.Conv
import HandS.Text
import HandS.Replace
import HandS.TupSets
import HandS.SortInts
import KE.SortData
import HandS.SetFor
import HandS.Strs
import KE.KNestM
import PySem.Challenge.RW_grownquorums_k07_errors_of_sets
set_option Elab.async false
set_option linter.all false
set_option maxHeartbeats 4000000
set_option maxRecDepth 100000
/-! # L3: what a def does, told over data: values without addresses, a store of mutable cells, and for each construct the rule that joins it with the hand layer -/
namespace L3
open PySem PySem.Spec PyProof.Rows L2

/-! ## Data -/
/-- data: tuples, lists and dicts that nobody changes stand by themselves; what may change is a cell of the store -/
inductive D where
  | non | bl (b : Bool) | int (i : Int) | str (x : Str)
  | tup (xs : List D) | lst (xs : List D) | scr (xs : List D) | dic (kvs : List (Key × D)) | cell (n : Nat)
/-- a mutable thing -/
inductive C where
  | lst (xs : List D) | dic (kvs : List (Key × D)) | gone | tab (x : Str)
abbrev Sto := List C
/-- an exception: its class by name, what it keeps -/
structure Ex where
  cls : Str
  fs : List (Str × D)
inductive R (α : Type) where
  | ok (a : α) (s : Sto) | ex (x : Ex) (s : Sto) | bad
abbrev M (α : Type) := Sto → R α
def M.pure {α : Type} (a : α) : M α := fun s => .ok a s
def M.bind {α β : Type} (m : M α) (f : α → M β) : M β := fun s => match m s with
  | .ok a s' => f a s'
  | .ex x s' => .ex x s'
  | .bad => .bad
def M.bad {α : Type} : M α := fun _ => .bad
def M.opt {α : Type} : Option α → M α
  | some a => M.pure a
  | none => M.bad
@[simp] theorem M.pure_bind {α β : Type} (a : α) (f : α → M β) : M.bind (M.pure a) f = f a := rfl
@[simp] theorem M.bad_bind {α β : Type} (f : α → M β) : M.bind M.bad f = M.bad := rfl
theorem M.bind_assoc {α β γ : Type} (m : M α) (f : α → M β) (g : β → M γ) : M.bind (M.bind m f) g = M.bind m fun a => M.bind (f a) g := by
  funext s
  unfold M.bind
  cases m s <;> rfl
@[simp] theorem M.opt_some {α : Type} (a : α) : M.opt (some a) = M.pure a := rfl
@[simp] theorem M.opt_none {α : Type} : M.opt (none : Option α) = M.bad := rfl
@[simp] theorem M.pure_app {α : Type} (a : α) (s : Sto) : M.pure a s = .ok a s := rfl
theorem M.bind_app {α β : Type} (m : M α) (f : α → M β) (s : Sto) : M.bind m f s = match m s with | .ok a s' => f a s' | .ex x s' => .ex x s' | .bad => .bad := rfl
theorem M.bind_ok {α β : Type} {m : M α} {f : α → M β} {s s' : Sto} {a : α} (h : m s = .ok a s') : M.bind m f s = f a s' := by rw [M.bind_app, h]
theorem M.bind_ex {α β : Type} {m : M α} {f : α → M β} {s s' : Sto} {x : Ex} (h : m s = .ex x s') : M.bind m f s = .ex x s' := by rw [M.bind_app, h]

/-! ## How data lies in the heap: G what stands for good, ι the addresses of the cells -/
mutual
inductive DV (K : PySem.W.Frag) (G : Hp) (ι : List Addr) : V → D → Prop
  | non : DV K G ι .non .non
  | bl (b : Bool) : DV K G ι (.bl b) (.bl b)
  | int (i : Int) : DV K G ι (.int i) (.int i)
  | str (x : Str) : DV K G ι (.str x) (.str x)
  | tup {a : Addr} {xs : List V} {ds : List D} : SqT K G a xs → DVs K G ι xs ds → DV K G ι (.ref a) (.tup ds)
  | lst {a : Addr} {xs : List V} {ds : List D} : G a = some (.lst xs) → DVs K G ι xs ds → DV K G ι (.ref a) (.lst ds)
  | scr {a : Addr} {xs : List V} {ds : List D} : SqL K G a xs → DVs K G ι xs ds → DV K G ι (.ref a) (.scr ds)
  | dic {a : Addr} {kvs : List (Key × V)} {kds : List (Key × D)} : G a = some (.dK kvs) → DVk K G ι kvs kds → DV K G ι (.ref a) (.dic kds)
  | cell {n : Nat} {a : Addr} : ι[n]? = some a → DV K G ι (.ref a) (.cell n)
inductive DVs (K : PySem.W.Frag) (G : Hp) (ι : List Addr) : List V → List D → Prop
  | nil : DVs K G ι [] []
  | cons {v : V} {d : D} {vs : List V} {ds : List D} : DV K G ι v d → DVs K G ι vs ds → DVs K G ι (v :: vs) (d :: ds)
inductive DVk (K : PySem.W.Frag) (G : Hp) (ι : List Addr) : List (Key × V) → List (Key × D) → Prop
  | nil : DVk K G ι [] []
  | cons {k : Key} {v : V} {d : D} {vs : List (Key × V)} {ds : List (Key × D)} : DV K G ι v d → DVk K G ι vs ds → DVk K G ι ((k, v) :: vs) ((k, d) :: ds)
end
section
variable {K : PySem.W.Frag} {G G' : Hp} {ι ι' : List Addr}
theorem _root_.L2.Same.rd {H H' : Hp} {a : Addr} {u : HO} (e : Same H H') (h : Rd H a u) : Rd H' a u := by
  rcases h with h | ⟨o, h⟩
  · exact .inl (e _ _ h)
  · exact .inr ⟨o, e _ _ h⟩
theorem _root_.L2.Same.tup {H H' : Hp} {a : Addr} {xs : List V} (e : Same H H') (h : SqT K H a xs) : SqT K H' a xs := by
  rcases h with h | h
  · exact .inl (e.rd h)
  · exact .inr h
theorem ix_mono {n : Nat} {a : Addr} (p : ∃ t, ι' = ι ++ t) (h : ι[n]? = some a) : ι'[n]? = some a := by
  obtain ⟨t, rfl⟩ := p
  rw [List.getElem?_append_left (List.getElem?_eq_some_iff.mp h).1]
  exact h
mutual
theorem DV.mono (sm : Same G G') (p : ∃ t, ι' = ι ++ t) : ∀ {v : V} {d : D}, DV K G ι v d → DV K G' ι' v d
  | _, _, .non => .non
  | _, _, .bl b => .bl b
  | _, _, .int i => .int i
  | _, _, .str x => .str x
  | _, _, .tup h hs => .tup (sm.tup h) (DVs.mono sm p hs)
  | _, _, .lst h hs => .lst (sm _ _ h) (DVs.mono sm p hs)
  | _, _, .scr h hs => .scr (sm.seq h) (DVs.mono sm p hs)
  | _, _, .dic h hs => .dic (sm _ _ h) (DVk.mono sm p hs)
  | _, _, .cell h => .cell (ix_mono p h)
theorem DVs.mono (sm : Same G G') (p : ∃ t, ι' = ι ++ t) : ∀ {v : List V} {d : List D}, DVs K G ι v d → DVs K G' ι' v d
  | _, _, .nil => .nil
  | _, _, .cons h hs => .cons (DV.mono sm p h) (DVs.mono sm p hs)
theorem DVk.mono (sm : Same G G') (p : ∃ t, ι' = ι ++ t) : ∀ {v : List (Key × V)} {d : List (Key × D)}, DVk K G ι v d → DVk K G' ι' v d
  | _, _, .nil => .nil
  | _, _, .cons h hs => .cons (DV.mono sm p h) (DVk.mono sm p hs)
end
theorem DVs.length : ∀ {vs : List V} {ds : List D}, DVs K G ι vs ds → vs.length = ds.length
  | _, _, .nil => rfl
  | _, _, .cons _ t => by simp [DVs.length t]
theorem DVs.get : ∀ {vs : List V} {ds : List D} {i : Nat} {d : D}, DVs K G ι vs ds → ds[i]? = some d → ∃ v, vs[i]? = some v ∧ DV K G ι v d
  | _, _, _, _, .nil, e => by simp at e
  | _, _, 0, _, .cons r _, e => by simp at e; subst e; exact ⟨_, rfl, r⟩
  | _, _, i + 1, _, .cons _ t, e => by
    obtain ⟨v, h1, h2⟩ := DVs.get (i := i) t (by simpa using e)
    exact ⟨v, by simpa using h1, h2⟩
theorem DVs.getV : ∀ {vs : List V} {ds : List D} {i : Nat} {v : V}, DVs K G ι vs ds → vs[i]? = some v → ∃ d, ds[i]? = some d ∧ DV K G ι v d
  | _, _, _, _, .nil, e => by simp at e
  | _, _, 0, _, .cons r _, e => by simp at e; subst e; exact ⟨_, rfl, r⟩
  | _, _, i + 1, _, .cons _ t, e => by
    obtain ⟨v, h1, h2⟩ := DVs.getV (i := i) t (by simpa using e)
    exact ⟨v, by simpa using h1, h2⟩
theorem DVs.append : ∀ {vs ws : List V} {ds es : List D}, DVs K G ι vs ds → DVs K G ι ws es → DVs K G ι (vs ++ ws) (ds ++ es)
  | _, _, _, _, .nil, s => s
  | _, _, _, _, .cons r t, s => .cons r (DVs.append t s)
theorem DVs.set {v : V} {d : D} (r : DV K G ι v d) : ∀ {vs : List V} {ds : List D} (i : Nat), DVs K G ι vs ds → DVs K G ι (vs.set i v) (ds.set i d)
  | _, _, _, .nil => .nil
  | _, _, 0, .cons _ t => .cons r t
  | _, _, i + 1, .cons q t => .cons q (DVs.set r i t)
theorem DVs.take : ∀ {vs : List V} {ds : List D} (n : Nat), DVs K G ι vs ds → DVs K G ι (vs.take n) (ds.take n)
  | _, _, 0, _ => .nil
  | _, _, _ + 1, .nil => .nil
  | _, _, n + 1, .cons r t => .cons r (DVs.take n t)
theorem DVs.drop : ∀ {vs : List V} {ds : List D} (n : Nat), DVs K G ι vs ds → DVs K G ι (vs.drop n) (ds.drop n)
  | _, _, 0, r => r
  | _, _, _ + 1, .nil => .nil
  | _, _, n + 1, .cons _ t => DVs.drop n t
theorem DVs.reverse : ∀ {vs : List V} {ds : List D}, DVs K G ι vs ds → DVs K G ι vs.reverse ds.reverse
  | _, _, .nil => .nil
  | _, _, .cons r t => by
    rw [List.reverse_cons, List.reverse_cons]
    exact DVs.append (DVs.reverse t) (.cons r .nil)
end

/-! ## Cells -/
def CellR (K : PySem.W.Frag) (G : Hp) (ι : List Addr) (H : Hp) (a : Addr) : C → Prop
  | .lst ds => G a = none ∧ ∃ vs, H a = some (.lst vs) ∧ DVs K G ι vs ds
  | .dic ds => G a = none ∧ ∃ vs, H a = some (.dK vs) ∧ DVk K G ι vs ds
  | .gone => False
  | .tab x => G a = none ∧ (PySem.W.tabIn K x).map (·.2) = some a ∧ ∃ ps : Array Value, H a = some (.tbl ps) ∧ TriplesOk ps.toList ∧ ∀ (pos : Pos) (cv : Value), codeAmong pos ps.toList = some cv → ∃ c : Addr, cv = .ref c ∧ G c = some (LamX.CodeO c (x ++ ".<locals>.<lambda>"))
/-- G and the cells ι with the contents st, in H -/
structure WH (K : PySem.W.Frag) (G : Hp) (ι : List Addr) (st : Sto) (H : Hp) : Prop where
  same : Same G H
  len : ι.length = st.length
  nd : ι.Nodup
  there : ∀ a ∈ ι, H a ≠ none
  cells : ∀ (n : Nat) (a : Addr) (c : C), ι[n]? = some a → st[n]? = some c → CellR K G ι H a c
/-- what a piece of code leaves -/
structure Ext (ι ι' : List Addr) (H H' G G' : Hp) : Prop where
  fr : ∀ a o, H a = some o → a ∉ ι → H' a = some o
  sm : Same G G'
  pre : ∃ t, ι' = ι ++ t
  new : ∀ a ∈ ι', a ∈ ι ∨ H a = none
  gn : ∀ a o, G' a = some o → G a = some o ∨ H a = none ∨ a ∈ ι
section
variable {K : PySem.W.Frag} {G G' G'' : Hp} {ι ι' ι'' : List Addr} {H H' H'' : Hp} {st st' : Sto}
theorem Ext.refl : Ext ι ι H H G G := ⟨fun _ _ h _ => h, fun _ _ h => h, ⟨[], by simp⟩, fun _ h => .inl h, fun _ _ h => .inl h⟩
theorem Ext.trans (a : Ext ι ι' H H' G G') (b : Ext ι' ι'' H' H'' G' G'') (wb : ∀ x, H' x = none → H x = none) : Ext ι ι'' H H'' G G'' where
  fr := fun x o h hn => b.fr x o (a.fr x o h hn) fun hx => by
    rcases a.new x hx with z | z
    · exact hn z
    · rw [z] at h; cases h
  sm := a.sm.trans b.sm
  pre := by
    obtain ⟨t, e⟩ := a.pre
    obtain ⟨u, f⟩ := b.pre
    exact ⟨t ++ u, by rw [f, e, List.append_assoc]⟩
  new := fun x hx => by
    rcases b.new x hx with z | z
    · exact a.new x z
    · exact .inr (wb x z)
  gn := fun x o h => by
    rcases b.gn x o h with z | z | z
    · exact a.gn x o z
    · exact .inr (.inl (wb x z))
    · rcases a.new x z with y | y
      · exact .inr (.inr y)
      · exact .inr (.inl y)
/-- nothing that was tracked is lost -/
theorem Ext.back (a : Ext ι ι' H H' G G') (w : WH K G' ι' st' H') (x : Addr) (h : H' x = none) : H x = none := by
  cases e : H x with
  | none => rfl
  | some o =>
    by_cases hx : x ∈ ι
    · obtain ⟨t, ht⟩ := a.pre
      have : x ∈ ι' := by rw [ht]; exact List.mem_append_left _ hx
      exact absurd h (w.there x this)
    · rw [a.fr x o e hx] at h; cases h
theorem Ext.cons (a : Ext ι ι' H H' G G') (w : WH K G' ι' st' H') (b : Ext ι' ι'' H' H'' G' G'') : Ext ι ι'' H H'' G G'' := a.trans b (a.back w)
theorem Ext.dv (a : Ext ι ι' H H' G G') {v : V} {d : D} (h : DV K G ι v d) : DV K G' ι' v d := h.mono a.sm a.pre
theorem Ext.dvs (a : Ext ι ι' H H' G G') {v : List V} {d : List D} (h : DVs K G ι v d) : DVs K G' ι' v d := h.mono a.sm a.pre
end

/-- a name that holds a function: its slot, the function's address, what is known of it -/
structure FnI where
  slot : Nat
  f : Addr
  ok : Hp → List Addr → Prop
  mono : ∀ {G G' : Hp} {ι ι' : List Addr}, Same G G' → (∃ t, ι' = ι ++ t) → ok G ι → ok G' ι'
/-- the classes of the program's own exceptions -/
structure CT where
  addr : Str → Option Addr
  /-- the exception that is being handled: its name's slot, its address, its dict, its fields -/
  cur : Option (Nat × Addr × Addr × List (Str × D)) := none
  fn : Option FnI := none
inductive DVf (K : PySem.W.Frag) (G : Hp) (ι : List Addr) : List (Str × V) → List (Str × D) → Prop
  | nil : DVf K G ι [] []
  | cons {k : Str} {v : V} {d : D} {vs : List (Str × V)} {ds : List (Str × D)} : DV K G ι v d → DVf K G ι vs ds → DVf K G ι ((k, v) :: vs) ((k, d) :: ds)
section
variable {K : PySem.W.Frag} {G G' : Hp} {ι ι' : List Addr}
theorem DVf.mono {vs : List (Str × V)} {ds : List (Str × D)} (h : DVf K G ι vs ds) (a : Same G G') (b : ∃ t, ι' = ι ++ t) : DVf K G' ι' vs ds := by
  induction h with
  | nil => exact .nil
  | cons r _ ih => exact .cons (r.mono a b) ih
end
def CT.ok (T : CT) (K : PySem.W.Frag) (G : Hp) (ι : List Addr) (σ : L2.St) (env : List (Option D)) : Prop :=
  (∀ i a d fs, T.cur = some (i, a, d, fs) → (env[i]? = some none → σ[i]? = some (some (.ref a))) ∧ ∃ vs, G d = some (.xd vs) ∧ DVf K G ι vs fs) ∧
  ∀ I, T.fn = some I → (env[I.slot]? = some none → σ[I.slot]? = some (some (.ref I.f))) ∧ I.ok G ι
def CT.curfr (T : CT) (j : Nat) : Bool := match T.cur with
  | none => true
  | some (i, _) => i != j
def CT.fnfr (T : CT) (j : Nat) : Bool := match T.fn with
  | none => true
  | some I => I.slot != j
def CT.fr (T : CT) (j : Nat) : Bool := T.curfr j && T.fnfr j
theorem CT.ok.mono {T : CT} {K : PySem.W.Frag} {G G' : Hp} {ι ι' : List Addr} {σ : L2.St} {env : List (Option D)} (h : T.ok K G ι σ env) (a : Same G G') (b : ∃ t, ι' = ι ++ t) : T.ok K G' ι' σ env := by
  refine ⟨fun i x d fs e => ?_, fun I e => ?_⟩
  · obtain ⟨h0, vs, h1, h2⟩ := h.1 i x d fs e
    exact ⟨h0, vs, a _ _ h1, h2.mono a b⟩
  · obtain ⟨h0, h1⟩ := h.2 I e
    exact ⟨h0, I.mono a b h1⟩
theorem CT.ok.set {T : CT} {K : PySem.W.Frag} {G : Hp} {ι : List Addr} {σ : L2.St} {env : List (Option D)} (h : T.ok K G ι σ env) {i : Nat} {v : V} {d : D} : T.ok K G ι (σ.set i (some v)) (env.set i (some d)) := by
  have key : ∀ {j : Nat} {x : V}, (env[j]? = some none → σ[j]? = some (some x)) → (env.set i (some d))[j]? = some none → (σ.set i (some v))[j]? = some (some x) := fun {j x} h0 z => by
    by_cases hj : i = j
    · subst hj
      by_cases hl : i < env.length
      · rw [List.getElem?_set_self hl] at z; cases z
      · rw [List.getElem?_eq_none (by simpa using hl)] at z; cases z
    · rw [List.getElem?_set_ne hj] at z
      rw [List.getElem?_set_ne hj]
      exact h0 z
  refine ⟨fun j b d' fs e => ?_, fun I e => ?_⟩
  · obtain ⟨h0, h1⟩ := h.1 j b d' fs e
    exact ⟨key h0, h1⟩
  · obtain ⟨h0, h1⟩ := h.2 I e
    exact ⟨key h0, h1⟩
theorem CT.ok.forget {T : CT} {K : PySem.W.Frag} {G : Hp} {ι : List Addr} {σ : L2.St} {env : List (Option D)} (h : T.ok K G ι σ env) {i : Nat} (hi : T.fr i = true) : T.ok K G ι (σ.set i none) (env.set i none) := by
  unfold CT.fr at hi
  rw [Bool.and_eq_true] at hi
  have key : ∀ {j : Nat} {x : V}, i ≠ j → (env[j]? = some none → σ[j]? = some (some x)) → (env.set i none)[j]? = some none → (σ.set i none)[j]? = some (some x) := fun {j x} hj h0 z => by
    rw [List.getElem?_set_ne hj] at z
    rw [List.getElem?_set_ne hj]
    exact h0 z
  refine ⟨fun j b d' fs e => ?_, fun I e => ?_⟩
  · obtain ⟨h0, h1⟩ := h.1 j b d' fs e
    refine ⟨key (fun z => ?_) h0, h1⟩
    have q := hi.1
    unfold CT.curfr at q
    rw [e] at q
    simp [z] at q
  · obtain ⟨h0, h1⟩ := h.2 I e
    refine ⟨key (fun z => ?_) h0, h1⟩
    have q := hi.2
    unfold CT.fnfr at q
    rw [e] at q
    simp [z] at q

/-! ## The names of a frame -/
abbrev DEnv := List (Option D)
structure EnvR (K : PySem.W.Frag) (T : CT) (G : Hp) (ι : List Addr) (σ : L2.St) (env : DEnv) : Prop where
  len : σ.length = env.length
  at_ : ∀ (i : Nat) (d : D), env[i]? = some (some d) → ∃ v, σ[i]? = some (some v) ∧ DV K G ι v d
  cur : T.ok K G ι σ env
section
variable {K : PySem.W.Frag} {T : CT} {G G' : Hp} {ι ι' : List Addr} {H H' : Hp} {σ : L2.St} {env : DEnv}
theorem EnvR.mono (e : EnvR K T G ι σ env) (a : Ext ι ι' H H' G G') : EnvR K T G' ι' σ env := ⟨e.len, fun i d h => by
  obtain ⟨v, h1, h2⟩ := e.at_ i d h
  exact ⟨v, h1, a.dv h2⟩, e.cur.mono a.sm a.pre⟩
theorem EnvR.set (e : EnvR K T G ι σ env) {v : V} {d : D} (h : DV K G ι v d) (i : Nat) : EnvR K T G ι (σ.set i (some v)) (env.set i (some d)) := ⟨by simp [e.len], fun j x hx => by
  by_cases hj : i = j
  · subst hj
    by_cases hl : i < env.length
    · rw [List.getElem?_set_self hl] at hx
      cases hx
      exact ⟨v, by rw [List.getElem?_set_self (by rw [e.len]; exact hl)], h⟩
    · rw [List.getElem?_eq_none (by simpa using hl)] at hx; cases hx
  · rw [List.getElem?_set_ne hj] at hx
    rw [List.getElem?_set_ne hj]
    exact e.at_ j x hx, e.cur.set⟩
theorem EnvR.forget (e : EnvR K T G ι σ env) (i : Nat) (hi : T.fr i = true) : EnvR K T G ι (σ.set i none) (env.set i none) := ⟨by simp [e.len], fun j x hx => by
  by_cases hj : i = j
  · subst hj
    by_cases hl : i < env.length
    · rw [List.getElem?_set_self hl] at hx
      cases hx
    · rw [List.getElem?_eq_none (by simpa using hl)] at hx; cases hx
  · rw [List.getElem?_set_ne hj] at hx
    rw [List.getElem?_set_ne hj]
    exact e.at_ j x hx, e.cur.forget hi⟩
theorem EnvR.wipe (e : EnvR K T G ι σ env) : ∀ vs : List Nat, (∀ j ∈ vs, T.fr j = true) → EnvR K T G ι (L2.wipe σ vs) (vs.foldr (fun v en => en.set v none) env)
  | [], _ => e
  | v :: vs, h => by
    unfold L2.wipe
    exact (EnvR.wipe e vs fun j hj => h j (List.mem_cons_of_mem _ hj)).forget v (h v (List.mem_cons_self ..))
end

/-! ## Exceptions, ends -/
def ExR (K : PySem.W.Frag) (T : CT) (G : Hp) (ι : List Addr) (c : Value) (dd : Option Addr) (x : Ex) : Prop :=
  ∃ a, T.addr x.cls = some a ∧ c = .ref a ∧ ((x.fs = [] ∧ dd = none) ∨ ∃ b vs, dd = some b ∧ G b = some (.xd vs) ∧ DVf K G ι vs x.fs)
section
variable (K : PySem.W.Frag) (T : CT) (G : Hp) (ι : List Addr) (H : Hp)
def PostE (r : R D) (E : XK) (Q : VK) : Prop := match r with
  | .ok d st' => ∀ v G' ι' H', Ext ι ι' H H' G G' → WH K G' ι' st' H' → DV K G' ι' v d → Q v H'
  | .ex x st' => ∀ c dd G' ι' H', Ext ι ι' H H' G G' → WH K G' ι' st' H' → ExR K T G' ι' c dd x → E c dd H'
  | .bad => False
def PostB (r : R Bool) (E : XK) (Q : Bool → Hp → Prop) : Prop := match r with
  | .ok b st' => ∀ G' ι' H', Ext ι ι' H H' G G' → WH K G' ι' st' H' → Q b H'
  | .ex x st' => ∀ c dd G' ι' H', Ext ι ι' H H' G G' → WH K G' ι' st' H' → ExR K T G' ι' c dd x → E c dd H'
  | .bad => False
def PostA (r : R (List D)) (E : XK) (Q : List V → Hp → Prop) : Prop := match r with
  | .ok d st' => ∀ v G' ι' H', Ext ι ι' H H' G G' → WH K G' ι' st' H' → DVs K G' ι' v d → Q v H'
  | .ex x st' => ∀ c dd G' ι' H', Ext ι ι' H H' G G' → WH K G' ι' st' H' → ExR K T G' ι' c dd x → E c dd H'
  | .bad => False
end
section
variable {K : PySem.W.Frag} {T : CT} {G : Hp} {ι : List Addr} {H : Hp} {st : Sto} {E : XK}
theorem PostE.ok {d : D} {st' : Sto} {Q : VK} (p : PostE K T G ι H (.ok d st') E Q) {v : V} (w : WH K G ι st' H) (r : DV K G ι v d) : Q v H := p v G ι H .refl w r
/-- one behind another -/
theorem PostE.bind {m : M D} {f : D → M D} {Q Q' : VK} (p : PostE K T G ι H (M.bind m f st) E Q)
    (h : ∀ d st1 v G1 ι1 H1, Ext ι ι1 H H1 G G1 → WH K G1 ι1 st1 H1 → DV K G1 ι1 v d → PostE K T G1 ι1 H1 (f d st1) E Q → Q' v H1) : PostE K T G ι H (m st) E Q' := by
  rw [M.bind_app] at p
  cases e : m st with
  | bad => rw [e] at p; exact p
  | ex x s => rw [e] at p; exact p
  | ok d s =>
    rw [e] at p
    dsimp only at p
    intro v G1 ι1 H1 x1 w1 r1
    refine h d s v G1 ι1 H1 x1 w1 r1 ?_
    cases e2 : f d s with
    | bad => rw [e2] at p; exact p
    | ex x s2 =>
      rw [e2] at p
      exact fun c dd G' ι' H' x2 w2 r2 => p c dd G' ι' H' (x1.cons w1 x2) w2 r2
    | ok d2 s2 =>
      rw [e2] at p
      exact fun v2 G' ι' H' x2 w2 r2 => p v2 G' ι' H' (x1.cons w1 x2) w2 r2
end
end L3
namespace L3
open PySem PySem.Spec PyProof.Rows L2

/-! ## New things -/
section
variable {K : PySem.W.Frag} {T : CT} {G : Hp} {ι : List Addr} {H : Hp} {st : Sto} {E : XK}
theorem WH.off (w : WH K G ι st H) {p : Addr} (hp : H p = none) : G p = none := w.same.free hp
theorem WH.ne (w : WH K G ι st H) {p a : Addr} (hp : H p = none) (ha : a ∈ ι) : a ≠ p := fun e => w.there a ha (by rw [e]; exact hp)
theorem upd_sameS {G H : Hp} {p : Addr} {o : HO} (s : Same G H) : Same (upd G p o) (upd H p o) := fun b u h => by
  by_cases e : b = p
  · subst e; rw [upd_same] at h; rw [upd_same]; exact h
  · rw [upd_ne e] at h; rw [upd_ne e]; exact s b u h
theorem Same.upd_new {G : Hp} {p : Addr} {o : HO} (hp : G p = none) : Same G (upd G p o) := fun b u h => by
  rw [upd_ne (ne_of_none h hp)]; exact h
theorem CellR.keep {G' H' : Hp} {ι' : List Addr} {a : Addr} {c : C} (h : CellR K G ι H a c) (sm : Same G G') (p : ∃ t, ι' = ι ++ t) (hg : G a = none → G' a = none) (hh : ∀ o, H a = some o → H' a = some o) : CellR K G' ι' H' a c := by
  cases c with
  | lst ds => obtain ⟨g, vs, e, r⟩ := h; exact ⟨hg g, vs, hh _ e, r.mono sm p⟩
  | dic ds => obtain ⟨g, vs, e, r⟩ := h; exact ⟨hg g, vs, hh _ e, r.mono sm p⟩
  | gone => exact h
  | tab x => obtain ⟨g, e, ps, e1, e2, e3⟩ := h; exact ⟨hg g, e, ps, hh _ e1, e2, fun pos cv q => by obtain ⟨c, e4, e5⟩ := e3 pos cv q; exact ⟨c, e4, sm _ _ e5⟩⟩
/-- a new thing that stands for good -/
theorem WH.fz (w : WH K G ι st H) {p : Addr} (hp : H p = none) (o : HO) : WH K (upd G p o) ι st (upd H p o) where
  same := upd_sameS w.same
  len := w.len
  nd := w.nd
  there := fun a ha => by rw [upd_ne (w.ne hp ha)]; exact w.there a ha
  cells := fun n a c h1 h2 => by
    have ha : a ∈ ι := List.mem_of_getElem? h1
    refine (w.cells n a c h1 h2).keep (Same.upd_new (w.off hp)) ⟨[], by simp⟩ (fun g => by rw [upd_ne (w.ne hp ha)]; exact g) fun o' e => by rw [upd_ne (w.ne hp ha)]; exact e
theorem WH.fzExt (w : WH K G ι st H) {p : Addr} (hp : H p = none) (o : HO) : Ext ι ι H (upd H p o) G (upd G p o) where
  fr := fun a u h _ => by rw [upd_ne (ne_of_none h hp)]; exact h
  sm := Same.upd_new (w.off hp)
  pre := ⟨[], by simp⟩
  new := fun _ h => .inl h
  gn := fun a u h => by
    by_cases e : a = p
    · subst e; exact .inr (.inl hp)
    · rw [upd_ne e] at h; exact .inl h
/-- a new cell -/
theorem WH.cl (w : WH K G ι st H) {p : Addr} (hp : H p = none) {o : HO} {c : C} (hc : CellR K G (ι ++ [p]) (upd H p o) p c) : WH K G (ι ++ [p]) (st ++ [c]) (upd H p o) where
  same := fun b u h => by rw [upd_ne (ne_of_none (w.same b u h) hp)]; exact w.same b u h
  len := by simp [w.len]
  nd := by
    rw [List.nodup_append]
    refine ⟨w.nd, by simp, fun a ha b hb => ?_⟩
    have e : b = p := by simpa using hb
    rw [e]
    exact w.ne hp ha
  there := fun a ha => by
    rcases List.mem_append.mp ha with h | h
    · rw [upd_ne (w.ne hp h)]; exact w.there a h
    · have e : a = p := by simpa using h
      rw [e, upd_same]; exact Option.some_ne_none _
  cells := fun n a c' h1 h2 => by
    by_cases hn : n < ι.length
    · rw [List.getElem?_append_left hn] at h1
      rw [List.getElem?_append_left (by rw [← w.len]; exact hn)] at h2
      have ha : a ∈ ι := List.mem_of_getElem? h1
      exact (w.cells n a c' h1 h2).keep (fun _ _ h => h) ⟨[p], rfl⟩ (fun g => g) fun o' e => by rw [upd_ne (w.ne hp ha)]; exact e
    · have hn' : ι.length ≤ n := by omega
      rw [List.getElem?_append_right hn'] at h1
      rw [List.getElem?_append_right (by rw [← w.len]; exact hn')] at h2
      rw [← w.len] at h2
      cases e : n - ι.length with
      | zero =>
        rw [e] at h1 h2
        have e1 : p = a := by simpa using h1
        have e2 : c = c' := by simpa using h2
        rw [← e1, ← e2]
        exact hc
      | succ k => rw [e] at h1; simp at h1
theorem WH.clExt (w : WH K G ι st H) {p : Addr} (hp : H p = none) (o : HO) : Ext ι (ι ++ [p]) H (upd H p o) G G where
  fr := fun a u h _ => by rw [upd_ne (ne_of_none h hp)]; exact h
  sm := fun _ _ h => h
  pre := ⟨[p], rfl⟩
  new := fun a h => by
    rcases List.mem_append.mp h with h | h
    · exact .inl h
    · have e : a = p := by simpa using h
      rw [e]; exact .inr hp
  gn := fun _ _ h => .inl h
/-- a cell is written -/
theorem WH.put (w : WH K G ι st H) {n : Nat} {a : Addr} {o : HO} {c : C} (h1 : ι[n]? = some a) (hg : G a = none) (hc : CellR K G ι (upd H a o) a c) : WH K G ι (st.set n c) (upd H a o) where
  same := fun b u h => by
    by_cases e : b = a
    · subst e; rw [hg] at h; cases h
    · rw [upd_ne e]; exact w.same b u h
  len := by simp [w.len]
  nd := w.nd
  there := fun b hb => by
    by_cases e : b = a
    · subst e; rw [upd_same]; exact Option.some_ne_none _
    · rw [upd_ne e]; exact w.there b hb
  cells := fun m b c' h2 h3 => by
    by_cases hm : n = m
    · subst hm
      rw [h1] at h2
      cases h2
      have hl : n < st.length := by rw [← w.len]; exact (List.getElem?_eq_some_iff.mp h1).1
      rw [List.getElem?_set_self hl] at h3
      cases h3
      exact hc
    · rw [List.getElem?_set_ne hm] at h3
      have ne : b ≠ a := fun e => by
        subst e
        obtain ⟨l1, e1⟩ := List.getElem?_eq_some_iff.mp h1
        obtain ⟨l2, e2⟩ := List.getElem?_eq_some_iff.mp h2
        exact hm ((List.getElem_inj w.nd).mp (e1.trans e2.symm))
      exact (w.cells m b c' h2 h3).keep (fun _ _ h => h) ⟨[], by simp⟩ (fun g => g) fun o' e => by rw [upd_ne ne]; exact e
theorem WH.putExt {n : Nat} {a : Addr} {o : HO} (h1 : ι[n]? = some a) : Ext ι ι H (upd H a o) G G where
  fr := fun b u h hn => by
    rw [upd_ne (fun e => hn (by rw [e]; exact List.mem_of_getElem? h1))]; exact h
  sm := fun _ _ h => h
  pre := ⟨[], by simp⟩
  new := fun _ h => .inl h
  gn := fun _ _ h => .inl h
end

/-! ## What is read of a list, wherever it stands -/
def slsOf (st : Sto) : D → Option (List D)
  | .lst xs => some xs
  | .cell n => match st[n]? with
    | some (.lst xs) => some xs
    | _ => none
  | _ => none
def lstOf (st : Sto) : D → Option (List D)
  | .lst xs => some xs
  | .scr xs => some xs
  | .cell n => match st[n]? with
    | some (.lst xs) => some xs
    | _ => none
  | _ => none
def tupOf : D → Option (List D)
  | .tup xs => some xs
  | _ => none
@[simp] theorem slsOf_lst (st : Sto) (xs : List D) : slsOf st (.lst xs) = some xs := rfl
@[simp] theorem lstOf_scr (st : Sto) (xs : List D) : lstOf st (.scr xs) = some xs := rfl
@[simp] theorem lstOf_lst (st : Sto) (xs : List D) : lstOf st (.lst xs) = some xs := rfl
@[simp] theorem tupOf_tup (xs : List D) : tupOf (.tup xs) = some xs := rfl
theorem lstOf_cell {st : Sto} {n : Nat} {xs : List D} (h : st[n]? = some (.lst xs)) : lstOf st (.cell n) = some xs := by
  show (match st[n]? with | some (.lst xs) => some xs | _ => none) = some xs
  rw [h]
theorem slsOf_cell {st : Sto} {n : Nat} {xs : List D} (h : st[n]? = some (.lst xs)) : slsOf st (.cell n) = some xs := by
  show (match st[n]? with | some (.lst xs) => some xs | _ => none) = some xs
  rw [h]
section
variable {K : PySem.W.Frag} {T : CT} {G : Hp} {ι : List Addr} {H : Hp} {st : Sto}
theorem cell_at (w : WH K G ι st H) {n : Nat} {c : C} (h : st[n]? = some c) : ∃ a, ι[n]? = some a ∧ CellR K G ι H a c := by
  have hl : n < ι.length := by rw [w.len]; exact (List.getElem?_eq_some_iff.mp h).1
  exact ⟨ι[n], List.getElem?_eq_getElem hl, w.cells n _ c (List.getElem?_eq_getElem hl) h⟩
theorem sls_at (w : WH K G ι st H) {v : V} {d : D} {ds : List D} (r : DV K G ι v d) (h : slsOf st d = some ds) : ∃ a vs, v = .ref a ∧ H a = some (.lst vs) ∧ DVs K G ι vs ds := by
  cases r with
  | lst q hs =>
    rw [slsOf_lst] at h
    cases h
    exact ⟨_, _, rfl, w.same _ _ q, hs⟩
  | @cell n a q =>
    have h' : (match st[n]? with | some (.lst xs) => some xs | _ => none) = some ds := h
    cases e2 : st[n]? with
    | none => rw [e2] at h'; cases h'
    | some c =>
      rw [e2] at h'
      cases c with
      | lst xs =>
        cases h'
        have z : ∃ vs, H a = some (.lst vs) ∧ DVs K G ι vs ds := (w.cells n a _ q e2).2
        obtain ⟨vs, e3, r3⟩ := z
        exact ⟨a, vs, rfl, e3, r3⟩
      | dic _ => cases h'
      | gone => cases h'
      | tab _ => cases h'
  | scr => cases h
  | non => cases h
  | bl => cases h
  | int => cases h
  | str => cases h
  | tup => cases h
  | dic => cases h
theorem lst_atS (w : WH K G ι st H) {v : V} {d : D} {ds : List D} (r : DV K G ι v d) (h : lstOf st d = some ds) : ∃ a vs, v = .ref a ∧ SqL K H a vs ∧ DVs K G ι vs ds := by
  cases d with
  | scr xs =>
    cases h
    cases r with
    | scr q hs => exact ⟨_, _, rfl, w.same.seq q, hs⟩
  | lst xs =>
    obtain ⟨a, vs, e, q, r'⟩ := sls_at w r (show slsOf st (.lst xs) = some ds from h)
    exact ⟨a, vs, e, .of q, r'⟩
  | cell n =>
    obtain ⟨a, vs, e, q, r'⟩ := sls_at w r (show slsOf st (.cell n) = some ds from h)
    exact ⟨a, vs, e, .of q, r'⟩
  | non => cases h
  | bl => cases h
  | int => cases h
  | str => cases h
  | tup => cases h
  | dic => cases h
theorem tup_at (w : WH K G ι st H) {v : V} {d : D} {ds : List D} (r : DV K G ι v d) (h : tupOf d = some ds) : ∃ a vs, v = .ref a ∧ SqT K H a vs ∧ DVs K G ι vs ds := by
  cases r with
  | tup q hs =>
    cases h
    exact ⟨_, _, rfl, w.same.tup q, hs⟩
  | lst => cases h
  | scr => cases h
  | cell => cases h
  | non => cases h
  | bl => cases h
  | int => cases h
  | str => cases h
  | dic => cases h
end

/-! ## Readings over data -/
abbrev EM := DEnv → M D
abbrev BM := DEnv → M Bool
abbrev AM := DEnv → M (List D)
def M.rd {α : Type} (f : Sto → Option α) : M α := fun st => match f st with
  | some a => .ok a st
  | none => .bad
theorem M.rd_ok {α : Type} {f : Sto → Option α} {st : Sto} {a : α} (h : f st = some a) : M.rd f st = .ok a st := by unfold M.rd; rw [h]
@[simp] theorem M.rd_const {α : Type} (o : Option α) : M.rd (fun _ => o) = M.opt o := by
  funext st
  cases o <;> rfl
section
variable (K : PySem.W.Frag) (T : CT) (W : WX)
def tOf (m : EM) : TE := fun σ H Q => ∃ G ι st env, WH K G ι st H ∧ EnvR K T G ι σ env ∧ PostE K T G ι H (m env st) (fun c d H' => W c d σ H') Q
def bOf (m : BM) : TT := fun σ H Q => ∃ G ι st env, WH K G ι st H ∧ EnvR K T G ι σ env ∧ PostB K T G ι H (m env st) (fun c d H' => W c d σ H') Q
def aOf (m : AM) : TA := fun σ H Q => ∃ G ι st env, WH K G ι st H ∧ EnvR K T G ι σ env ∧ PostA K T G ι H (m env st) (fun c d H' => W c d σ H') Q
/-- what an operation gives that changes no cell -/
def PostO (G : Hp) (ι : List Addr) (st : Sto) (H : Hp) (o : Option D) (Q : VK) : Prop := match o with
  | some d => ∀ v G' H', Ext ι ι H H' G G' → WH K G' ι st H' → DV K G' ι v d → Q v H'
  | none => False
def rOf (op : Sto → D → D → Option D) : R2 := fun x y H Q => ∃ G ι st dx dy, WH K G ι st H ∧ DV K G ι x dx ∧ DV K G ι y dy ∧ PostO K G ι st H (op st dx dy) Q
def uOf (op : Sto → D → Option D) : V → Hp → VK → Prop := fun x H Q => ∃ G ι st dx, WH K G ι st H ∧ DV K G ι x dx ∧ PostO K G ι st H (op st dx) Q
def cOf (op : Sto → List D → Option D) : List V → Hp → VK → Prop := fun xs H Q => ∃ G ι st ds, WH K G ι st H ∧ DVs K G ι xs ds ∧ PostO K G ι st H (op st ds) Q
end
def DE (X : Cx) (T : CT) (W : WX) (e : Expr) (m : EM) : Prop := PE X e (tOf X.K T W m)
def DT (X : Cx) (T : CT) (W : WX) (e : Expr) (m : BM) : Prop := PT X e (bOf X.K T W m)
def DA (X : Cx) (T : CT) (W : WX) (es : List Expr) (m : AM) : Prop := PA X es (aOf X.K T W m)
def OpD (X : Cx) (f : Value → Value → Sem Value) (op : Sto → D → D → Option D) : Prop := OpR X f (rOf X.K op)
def UnD (X : Cx) (f : Value → Sem Value) (op : Sto → D → Option D) : Prop := UnR X f (uOf X.K op)
def CallD (X : Cx) (f : Value) (op : Sto → List D → Option D) : Prop := CallR X f (cOf X.K op)
def IxD (X : Cx) (op : Sto → D → D → Option D) : Prop := IxR X (rOf X.K op)
section
variable {X : Cx} {T : CT} {W : WX} {e : Expr}
theorem DE.of {t : TE} {m : EM} (h : PE X e t) (ht : ∀ σ H Q G ι st env, WH X.K G ι st H → EnvR X.K T G ι σ env → PostE X.K T G ι H (m env st) (fun c d H' => W c d σ H') Q → t σ H Q) : DE X T W e m :=
  ⟨fun pins s σ H Q I ⟨G, ι, st, env, w, r, p⟩ => h.run pins s σ H Q I (ht σ H Q G ι st env w r p)⟩
theorem DT.of {t : TT} {m : BM} (h : PT X e t) (ht : ∀ σ H Q G ι st env, WH X.K G ι st H → EnvR X.K T G ι σ env → PostB X.K T G ι H (m env st) (fun c d H' => W c d σ H') Q → t σ H Q) : DT X T W e m :=
  ⟨fun pins s σ H Q I ⟨G, ι, st, env, w, r, p⟩ => h.run pins s σ H Q I (ht σ H Q G ι st env w r p)⟩
theorem DA.of {es : List Expr} {t : TA} {m : AM} (h : PA X es t) (ht : ∀ σ H Q G ι st env, WH X.K G ι st H → EnvR X.K T G ι σ env → PostA X.K T G ι H (m env st) (fun c d H' => W c d σ H') Q → t σ H Q) : DA X T W es m :=
  ⟨fun pos pins s σ H Q I ⟨G, ι, st, env, w, r, p⟩ => h.run pos pins s σ H Q I (ht σ H Q G ι st env w r p)⟩
theorem OpD.of {f : Value → Value → Sem Value} {r : R2} {op : Sto → D → D → Option D} (h : OpR X f r) (ht : ∀ G ι st H x y dx dy Q, WH X.K G ι st H → DV X.K G ι x dx → DV X.K G ι y dy → PostO X.K G ι st H (op st dx dy) Q → r x y H Q) : OpD X f op :=
  fun pins s σ H x y v u Q I rx ry ⟨G, ι, st, dx, dy, w, hx, hy, p⟩ => h pins s σ H x y v u Q I rx ry (ht G ι st H x y dx dy Q w hx hy p)
theorem UnD.of {f : Value → Sem Value} {r : V → Hp → VK → Prop} {op : Sto → D → Option D} (h : UnR X f r) (ht : ∀ G ι st H x dx Q, WH X.K G ι st H → DV X.K G ι x dx → PostO X.K G ι st H (op st dx) Q → r x H Q) : UnD X f op :=
  fun pins s σ H x v Q I rx ⟨G, ι, st, dx, w, hx, p⟩ => h pins s σ H x v Q I rx (ht G ι st H x dx Q w hx p)
theorem CallD.of {f : Value} {r : List V → Hp → VK → Prop} {op : Sto → List D → Option D} (h : CallR X f r) (ht : ∀ G ι st H xs ds Q, WH X.K G ι st H → DVs X.K G ι xs ds → PostO X.K G ι st H (op st ds) Q → r xs H Q) : CallD X f op :=
  fun pins s σ H xs us Q I rx ⟨G, ι, st, ds, w, hx, p⟩ => h pins s σ H xs us Q I rx (ht G ι st H xs ds Q w hx p)
theorem IxD.of {r : R2} {op : Sto → D → D → Option D} (h : IxR X r) (ht : ∀ G ι st H x y dx dy Q, WH X.K G ι st H → DV X.K G ι x dx → DV X.K G ι y dy → PostO X.K G ι st H (op st dx dy) Q → r x y H Q) : IxD X op :=
  fun value slice pins s σ H x y v u Q I rx ry ⟨G, ι, st, dx, dy, w, hx, hy, p⟩ hs => h value slice pins s σ H x y v u Q I rx ry (ht G ι st H x y dx dy Q w hx hy p) hs
/-- where the first operation has no answer, the second one -/
def orO {α : Type} (o : Option α) (o' : Option α) : Option α := match o with
  | some a => some a
  | none => o'
theorem PostO.or {K : PySem.W.Frag} {G : Hp} {ι : List Addr} {st : Sto} {H : Hp} {o o' : Option D} {Q : VK} (p : PostO K G ι st H (orO o o') Q) : PostO K G ι st H o Q ∨ PostO K G ι st H o' Q := by
  cases o with
  | none => exact .inr p
  | some d => exact .inl p
theorem OpD.or {f : Value → Value → Sem Value} {op op' : Sto → D → D → Option D} (h : OpD X f op) (h' : OpD X f op') : OpD X f (fun st x y => orO (op st x y) (op' st x y)) :=
  OpD.of (OpR.or h h') fun G ι st H x y dx dy Q w hx hy p => by
    rcases p.or with p | p
    · exact .inl ⟨G, ι, st, dx, dy, w, hx, hy, p⟩
    · exact .inr ⟨G, ι, st, dx, dy, w, hx, hy, p⟩
theorem IxD.or {op op' : Sto → D → D → Option D} (h : IxD X op) (h' : IxD X op') : IxD X (fun st x y => orO (op st x y) (op' st x y)) :=
  IxD.of (IxR.or h h') fun G ι st H x y dx dy Q w hx hy p => by
    rcases p.or with p | p
    · exact .inl ⟨G, ι, st, dx, dy, w, hx, hy, p⟩
    · exact .inr ⟨G, ι, st, dx, dy, w, hx, hy, p⟩
theorem CallD.or {f : Value} {op op' : Sto → List D → Option D} (h : CallD X f op) (h' : CallD X f op') : CallD X f (fun st xs => orO (op st xs) (op' st xs)) :=
  fun pins s σ H xs us Q I rx ⟨G, ι, st, ds, w, hx, p⟩ => by
    rcases p.or with p | p
    · exact h pins s σ H xs us Q I rx ⟨G, ι, st, ds, w, hx, p⟩
    · exact h' pins s σ H xs us Q I rx ⟨G, ι, st, ds, w, hx, p⟩
end

section
variable {K : PySem.W.Frag} {T : CT} {G : Hp} {ι : List Addr} {H : Hp} {st : Sto} {E : XK}
theorem PostO.val {d : D} {Q : VK} (p : PostO K G ι st H (some d) Q) (w : WH K G ι st H) {v : V} (r : DV K G ι v d) : Q v H := p v G H .refl w r
theorem PostE.rd {f : Sto → Option D} {Q : VK} (p : PostE K T G ι H (M.rd f st) E Q) : PostO K G ι st H (f st) Q := by
  unfold M.rd at p
  cases e : f st with
  | none => rw [e] at p; exact p
  | some d => rw [e] at p; exact fun v G' H' x w r => p v G' ι H' x w r
theorem PostE.bindB {m : M Bool} {f : Bool → M D} {Q : VK} {Q' : Bool → Hp → Prop} (p : PostE K T G ι H (M.bind m f st) E Q)
    (h : ∀ d st1 G1 ι1 H1, Ext ι ι1 H H1 G G1 → WH K G1 ι1 st1 H1 → PostE K T G1 ι1 H1 (f d st1) E Q → Q' d H1) : PostB K T G ι H (m st) E Q' := by
  rw [M.bind_app] at p
  cases e : m st with
  | bad => rw [e] at p; exact p
  | ex x s => rw [e] at p; exact p
  | ok d s =>
    rw [e] at p
    dsimp only at p
    intro G1 ι1 H1 x1 w1
    refine h d s G1 ι1 H1 x1 w1 ?_
    cases e2 : f d s with
    | bad => rw [e2] at p; exact p
    | ex x s2 =>
      rw [e2] at p
      exact fun c dd G' ι' H' x2 w2 r2 => p c dd G' ι' H' (x1.cons w1 x2) w2 r2
    | ok d2 s2 =>
      rw [e2] at p
      exact fun v2 G' ι' H' x2 w2 r2 => p v2 G' ι' H' (x1.cons w1 x2) w2 r2
theorem PostB.bindE {m : M D} {f : D → M Bool} {Q : Bool → Hp → Prop} {Q' : VK} (p : PostB K T G ι H (M.bind m f st) E Q)
    (h : ∀ d st1 v G1 ι1 H1, Ext ι ι1 H H1 G G1 → WH K G1 ι1 st1 H1 → DV K G1 ι1 v d → PostB K T G1 ι1 H1 (f d st1) E Q → Q' v H1) : PostE K T G ι H (m st) E Q' := by
  rw [M.bind_app] at p
  cases e : m st with
  | bad => rw [e] at p; exact p
  | ex x s => rw [e] at p; exact p
  | ok d s =>
    rw [e] at p
    dsimp only at p
    intro v G1 ι1 H1 x1 w1 r1
    refine h d s v G1 ι1 H1 x1 w1 r1 ?_
    cases e2 : f d s with
    | bad => rw [e2] at p; exact p
    | ex x s2 =>
      rw [e2] at p
      exact fun c dd G' ι' H' x2 w2 r2 => p c dd G' ι' H' (x1.cons w1 x2) w2 r2
    | ok d2 s2 =>
      rw [e2] at p
      exact fun G' ι' H' x2 w2 => p G' ι' H' (x1.cons w1 x2) w2
theorem PostB.bindB {m : M Bool} {f : Bool → M Bool} {Q : Bool → Hp → Prop} {Q' : Bool → Hp → Prop} (p : PostB K T G ι H (M.bind m f st) E Q)
    (h : ∀ d st1 G1 ι1 H1, Ext ι ι1 H H1 G G1 → WH K G1 ι1 st1 H1 → PostB K T G1 ι1 H1 (f d st1) E Q → Q' d H1) : PostB K T G ι H (m st) E Q' := by
  rw [M.bind_app] at p
  cases e : m st with
  | bad => rw [e] at p; exact p
  | ex x s => rw [e] at p; exact p
  | ok d s =>
    rw [e] at p
    dsimp only at p
    intro G1 ι1 H1 x1 w1
    refine h d s G1 ι1 H1 x1 w1 ?_
    cases e2 : f d s with
    | bad => rw [e2] at p; exact p
    | ex x s2 =>
      rw [e2] at p
      exact fun c dd G' ι' H' x2 w2 r2 => p c dd G' ι' H' (x1.cons w1 x2) w2 r2
    | ok d2 s2 =>
      rw [e2] at p
      exact fun G' ι' H' x2 w2 => p G' ι' H' (x1.cons w1 x2) w2
theorem PostE.bindA {m : M (List D)} {f : List D → M D} {Q : VK} {Q' : List V → Hp → Prop} (p : PostE K T G ι H (M.bind m f st) E Q)
    (h : ∀ d st1 v G1 ι1 H1, Ext ι ι1 H H1 G G1 → WH K G1 ι1 st1 H1 → DVs K G1 ι1 v d → PostE K T G1 ι1 H1 (f d st1) E Q → Q' v H1) : PostA K T G ι H (m st) E Q' := by
  rw [M.bind_app] at p
  cases e : m st with
  | bad => rw [e] at p; exact p
  | ex x s => rw [e] at p; exact p
  | ok d s =>
    rw [e] at p
    dsimp only at p
    intro v G1 ι1 H1 x1 w1 r1
    refine h d s v G1 ι1 H1 x1 w1 r1 ?_
    cases e2 : f d s with
    | bad => rw [e2] at p; exact p
    | ex x s2 =>
      rw [e2] at p
      exact fun c dd G' ι' H' x2 w2 r2 => p c dd G' ι' H' (x1.cons w1 x2) w2 r2
    | ok d2 s2 =>
      rw [e2] at p
      exact fun v2 G' ι' H' x2 w2 r2 => p v2 G' ι' H' (x1.cons w1 x2) w2 r2
theorem PostA.bindE {m : M D} {f : D → M (List D)} {Q : List V → Hp → Prop} {Q' : VK} (p : PostA K T G ι H (M.bind m f st) E Q)
    (h : ∀ d st1 v G1 ι1 H1, Ext ι ι1 H H1 G G1 → WH K G1 ι1 st1 H1 → DV K G1 ι1 v d → PostA K T G1 ι1 H1 (f d st1) E Q → Q' v H1) : PostE K T G ι H (m st) E Q' := by
  rw [M.bind_app] at p
  cases e : m st with
  | bad => rw [e] at p; exact p
  | ex x s => rw [e] at p; exact p
  | ok d s =>
    rw [e] at p
    dsimp only at p
    intro v G1 ι1 H1 x1 w1 r1
    refine h d s v G1 ι1 H1 x1 w1 r1 ?_
    cases e2 : f d s with
    | bad => rw [e2] at p; exact p
    | ex x s2 =>
      rw [e2] at p
      exact fun c dd G' ι' H' x2 w2 r2 => p c dd G' ι' H' (x1.cons w1 x2) w2 r2
    | ok d2 s2 =>
      rw [e2] at p
      exact fun v2 G' ι' H' x2 w2 r2 => p v2 G' ι' H' (x1.cons w1 x2) w2 r2
theorem PostA.bindA {m : M (List D)} {f : List D → M (List D)} {Q : List V → Hp → Prop} {Q' : List V → Hp → Prop} (p : PostA K T G ι H (M.bind m f st) E Q)
    (h : ∀ d st1 v G1 ι1 H1, Ext ι ι1 H H1 G G1 → WH K G1 ι1 st1 H1 → DVs K G1 ι1 v d → PostA K T G1 ι1 H1 (f d st1) E Q → Q' v H1) : PostA K T G ι H (m st) E Q' := by
  rw [M.bind_app] at p
  cases e : m st with
  | bad => rw [e] at p; exact p
  | ex x s => rw [e] at p; exact p
  | ok d s =>
    rw [e] at p
    dsimp only at p
    intro v G1 ι1 H1 x1 w1 r1
    refine h d s v G1 ι1 H1 x1 w1 r1 ?_
    cases e2 : f d s with
    | bad => rw [e2] at p; exact p
    | ex x s2 =>
      rw [e2] at p
      exact fun c dd G' ι' H' x2 w2 r2 => p c dd G' ι' H' (x1.cons w1 x2) w2 r2
    | ok d2 s2 =>
      rw [e2] at p
      exact fun v2 G' ι' H' x2 w2 r2 => p v2 G' ι' H' (x1.cons w1 x2) w2 r2
end

/-! ## Expressions -/
def eVar (i : Nat) : EM := fun env => match env[i]? with
  | some (some d) => M.pure d
  | _ => M.bad
def eC (d : D) : EM := fun _ => M.pure d
def eBin (op : Sto → D → D → Option D) (a b : EM) : EM := fun env => M.bind (a env) fun x => M.bind (b env) fun y => M.rd fun st => op st x y
def eUn (op : Sto → D → Option D) (a : EM) : EM := fun env => M.bind (a env) fun x => M.rd fun st => op st x
def asB : D → M Bool
  | .bl b => M.pure b
  | _ => M.bad
@[simp] theorem asB_bl (b : Bool) : asB (.bl b) = M.pure b := rfl
def bE (a : EM) : BM := fun env => M.bind (a env) asB
def eAnd (a b : EM) : EM := fun env => M.bind (a env) fun x => M.bind (asB x) fun c => if c = true then b env else M.pure (.bl false)
def eOr (a b : EM) : EM := fun env => M.bind (a env) fun x => M.bind (asB x) fun c => if c = true then M.pure (.bl true) else b env
def eNot (a : EM) : EM := fun env => M.bind (a env) fun x => M.bind (asB x) fun c => M.pure (.bl (!c))
def eIf (c : BM) (a b : EM) : EM := fun env => M.bind (c env) fun k => if k = true then a env else b env
def bAnd (a b : BM) : BM := fun env => M.bind (a env) fun c => if c = true then b env else M.pure false
def bOr (a b : BM) : BM := fun env => M.bind (a env) fun c => if c = true then M.pure true else b env
def bNot (a : BM) : BM := fun env => M.bind (a env) fun c => M.pure (!c)
def aNil : AM := fun _ => M.pure []
def aCons (a : EM) (b : AM) : AM := fun env => M.bind (a env) fun x => M.bind (b env) fun xs => M.pure (x :: xs)
def fits (n : Nat) : Bool := decide (n ≤ 16777216)
theorem fits_line {n : Nat} (h : fits n = true) : n ≤ sizeLine := by
  rw [sizeLine_eq]; exact of_decide_eq_true h
def eTup (a : AM) : EM := fun env => M.bind (a env) fun xs => M.opt (if fits xs.length then some (.tup xs) else none)
def eLst (a : AM) : EM := fun env => M.bind (a env) fun xs => M.opt (if fits xs.length then some (.lst xs) else none)
def M.new (c : C) : M D := fun st => .ok (.cell st.length) (st ++ [c])
def eLstC (a : AM) : EM := fun env => M.bind (a env) fun xs => if fits xs.length then M.new (.lst xs) else M.bad
def eCall (op : Sto → List D → Option D) (a : AM) : EM := fun env => M.bind (a env) fun xs => M.rd fun st => op st xs
def eChain (op op' : Sto → D → D → Option D) (a b c : EM) : EM := fun env => M.bind (a env) fun x => M.bind (b env) fun y => M.bind (M.rd fun st => op st x y) fun z => M.bind (asB z) fun k =>
  if k = true then M.bind (c env) fun u => M.rd fun st => op' st y u else M.pure (.bl false)
section
variable {X : Cx} {T : CT} {W : WX} {e a b c : Expr} {es : List Expr} {m ma mb mc : EM} {pos : Pos}
theorem PostE.asB {K : PySem.W.Frag} {G : Hp} {ι : List Addr} {H : Hp} {st : Sto} {E : XK} {x : D} {f : Bool → M D} {Q : VK} {v : V} (r : DV K G ι v x) (p : PostE K T G ι H (M.bind (L3.asB x) f st) E Q) : ∃ k, v = .bl k ∧ x = .bl k ∧ PostE K T G ι H (f k st) E Q := by
  cases r with
  | bl k => exact ⟨k, rfl, rfl, p⟩
  | _ => exact p.elim
theorem PostB.asB {K : PySem.W.Frag} {G : Hp} {ι : List Addr} {H : Hp} {st : Sto} {E : XK} {x : D} {Q : Bool → Hp → Prop} {v : V} (w : WH K G ι st H) (r : DV K G ι v x) (p : PostB K T G ι H (L3.asB x st) E Q) : ∃ k, v = .bl k ∧ Q k H := by
  cases r with
  | bl k => exact ⟨k, rfl, p G ι H .refl w⟩
  | _ => exact p.elim
theorem de_var {i : Nat} (h : PE X e (tVar i)) : DE X T W e (eVar i) := DE.of h fun σ H Q G ι st env w r p => by
  unfold eVar at p
  cases hd : env[i]? with
  | none => rw [hd] at p; exact p.elim
  | some o =>
    rw [hd] at p
    cases o with
    | none => exact p.elim
    | some d =>
      obtain ⟨v, h1, h2⟩ := r.at_ i d hd
      exact ⟨v, h1, PostE.ok p w h2⟩
theorem de_c {v : V} {d : D} (h : PE X e (tC v)) (hv : ∀ G ι, DV X.K G ι v d := by intro _ _; constructor) : DE X T W e (eC d) := DE.of h fun σ H Q G ι st env w r p => p.ok w (hv G ι)
theorem de_bin {op : Operator} {g : Sto → D → D → Option D} (ho : OpD X (binaryOp op) g) (ha : DE X T W a ma) (hb : DE X T W b mb) : DE X T W (.BinOp a op b pos) (eBin g ma mb) :=
  DE.of (pe_op ho ha hb) fun σ H Q G ι st env w r p => ⟨G, ι, st, env, w, r, p.bind fun d st1 v G1 ι1 H1 x1 w1 r1 p1 =>
    ⟨G1, ι1, st1, env, w1, r.mono x1, p1.bind fun d2 st2 v2 G2 ι2 H2 x2 w2 r2 p2 => ⟨G2, ι2, st2, d, d2, w2, x2.dv r1, r2, p2.rd⟩⟩⟩
theorem de_cmp {op : CmpOp} {g : Sto → D → D → Option D} (ho : OpD X (compareOp op) g) (ha : DE X T W a ma) (hb : DE X T W b mb) (hm : behindInMarks op b = false := by first | exact nomark _ | rfl) : DE X T W (.Compare a [op] [b] pos) (eBin g ma mb) :=
  DE.of (pe_cmpR ho ha hb hm) fun σ H Q G ι st env w r p => ⟨G, ι, st, env, w, r, p.bind fun d st1 v G1 ι1 H1 x1 w1 r1 p1 =>
    ⟨G1, ι1, st1, env, w1, r.mono x1, p1.bind fun d2 st2 v2 G2 ι2 H2 x2 w2 r2 p2 => ⟨G2, ι2, st2, d, d2, w2, x2.dv r1, r2, p2.rd⟩⟩⟩
theorem de_un {op : UnaryOp} {g : Sto → D → Option D} (ho : UnD X (unaryOp op) g) (ha : DE X T W a ma) : DE X T W (.UnaryOp op a pos) (eUn g ma) :=
  DE.of (pe_un ho ha) fun σ H Q G ι st env w r p => ⟨G, ι, st, env, w, r, p.bind fun d st1 v G1 ι1 H1 x1 w1 r1 p1 => ⟨G1, ι1, st1, d, w1, r1, p1.rd⟩⟩
/-- a value as a test -/
theorem dt_val (ha : DE X T W a ma) (he : ∀ whole, isTrue a X.env whole = (do let v ← whole; standAt a.pos; holding [v] (truthy v)) := by intro _; rfl) : DT X T W a (bE ma) :=
  DT.of (pt_val ha he) fun σ H Q G ι st env w r p => ⟨G, ι, st, env, w, r, p.bindE fun d st1 v G1 ι1 H1 x1 w1 r1 p1 => p1.asB w1 r1⟩
theorem dt_cmp {op : CmpOp} {g : Sto → D → D → Option D} (ho : OpD X (compareOp op) g) (ha : DE X T W a ma) (hb : DE X T W b mb) (hm : behindInMarks op b = false := by first | exact nomark _ | rfl) : DT X T W (.Compare a [op] [b] pos) (bE (eBin g ma mb)) :=
  DT.of (pt_cmpR ho ha hb hm) fun σ H Q G ι st env w r p => by
    unfold bE eBin at p
    rw [M.bind_assoc] at p
    refine ⟨G, ι, st, env, w, r, p.bindE fun d st1 v G1 ι1 H1 x1 w1 r1 p1 => ?_⟩
    rw [M.bind_assoc] at p1
    refine ⟨G1, ι1, st1, env, w1, r.mono x1, p1.bindE fun d2 st2 v2 G2 ι2 H2 x2 w2 r2 p2 => ⟨G2, ι2, st2, d, d2, w2, x2.dv r1, r2, ?_⟩⟩
    rw [M.bind_app] at p2
    unfold M.rd at p2
    dsimp only at p2
    cases e : g st2 d d2 with
    | none => rw [e] at p2; exact p2
    | some z =>
      rw [e] at p2
      intro v3 G3 H3 x3 w3 r3
      dsimp only at p2
      refine PostB.asB (T := T) (E := fun c d H' => W c d σ H') w3 r3 ?_
      cases e2 : asB z st2 with
      | bad => rw [e2] at p2; exact p2
      | ex x s2 => rw [e2] at p2; exact fun c dd G' ι' H' x4 w4 r4 => p2 c dd G' ι' H' (x3.cons w3 x4) w4 r4
      | ok k s2 => rw [e2] at p2; exact fun G' ι' H' x4 w4 => p2 G' ι' H' (x3.cons w3 x4) w4
theorem de_and (ha : DE X T W a ma) (hb : DE X T W (.BoolOp .And (b :: es) pos) mb) : DE X T W (.BoolOp .And (a :: b :: es) pos) (eAnd ma mb) :=
  DE.of (pe_and ha hb) fun σ H Q G ι st env w r p => ⟨G, ι, st, env, w, r, p.bind fun d st1 v G1 ι1 H1 x1 w1 r1 p1 => by
    obtain ⟨k, e1, _, p2⟩ := PostE.asB r1 p1
    refine ⟨k, e1, ?_⟩
    cases k with
    | true => exact ⟨G1, ι1, st1, env, w1, r.mono x1, p2⟩
    | false => exact p2.ok w1 (.bl false)⟩
theorem de_or (ha : DE X T W a ma) (hb : DE X T W (.BoolOp .Or (b :: es) pos) mb) : DE X T W (.BoolOp .Or (a :: b :: es) pos) (eOr ma mb) :=
  DE.of (pe_or ha hb) fun σ H Q G ι st env w r p => ⟨G, ι, st, env, w, r, p.bind fun d st1 v G1 ι1 H1 x1 w1 r1 p1 => by
    obtain ⟨k, e1, _, p2⟩ := PostE.asB r1 p1
    refine ⟨k, e1, ?_⟩
    cases k with
    | false => exact ⟨G1, ι1, st1, env, w1, r.mono x1, p2⟩
    | true => exact p2.ok w1 (.bl true)⟩
theorem de_one {op : PySem.BoolOp} (ha : DE X T W a ma) : DE X T W (.BoolOp op [a] pos) ma := pe_one ha
theorem de_not (ha : DE X T W a ma) : DE X T W (.UnaryOp .Not a pos) (eNot ma) :=
  DE.of (pe_not ha) fun σ H Q G ι st env w r p => ⟨G, ι, st, env, w, r, p.bind fun d st1 v G1 ι1 H1 x1 w1 r1 p1 => by
    obtain ⟨k, e1, _, p2⟩ := PostE.asB r1 p1
    exact ⟨k, e1, p2.ok w1 (.bl _)⟩⟩
theorem de_if {k : BM} (hc : DT X T W c k) (ha : DE X T W a ma) (hb : DE X T W b mb) : DE X T W (.IfExp c a b pos) (eIf k ma mb) :=
  DE.of (pe_ifExp hc ha hb) fun σ H Q G ι st env w r p => ⟨G, ι, st, env, w, r, p.bindB fun d st1 G1 ι1 H1 x1 w1 p1 => by
    cases d with
    | true => exact ⟨G1, ι1, st1, env, w1, r.mono x1, p1⟩
    | false => exact ⟨G1, ι1, st1, env, w1, r.mono x1, p1⟩⟩
end
end L3
namespace L3
open PySem PySem.Spec PyProof.Rows L2

/-! ## Arguments, displays, calls -/
section
variable {X : Cx} {T : CT} {W : WX} {e a b c : Expr} {es : List Expr} {m ma mb mc : EM} {mas : AM} {pos : Pos}
theorem PostO.fresh {K : PySem.W.Frag} {G : Hp} {ι : List Addr} {H : Hp} {st : Sto} {d : D} {Q : VK} (p : PostO K G ι st H (some d) Q) (w : WH K G ι st H) {q : Addr} (hq : H q = none) {o : HO} (r : DV K (upd G q o) ι (.ref q) d) : Q (.ref q) (upd H q o) :=
  p _ _ _ (w.fzExt hq o) (w.fz hq o) r
theorem WH.dvs_new {K : PySem.W.Frag} {G : Hp} {ι : List Addr} {H : Hp} {st : Sto} (w : WH K G ι st H) {q : Addr} (hq : H q = none) {o : HO} {vs : List V} {ds : List D} (r : DVs K G ι vs ds) : DVs K (upd G q o) ι vs ds :=
  r.mono (Same.upd_new (w.off hq)) ⟨[], by simp⟩
theorem dv_tup {K : PySem.W.Frag} {G : Hp} {ι : List Addr} {H : Hp} {st : Sto} (w : WH K G ι st H) {q : Addr} (hq : H q = none) {vs : List V} {ds : List D} (r : DVs K G ι vs ds) : DV K (upd G q (.tup vs)) ι (.ref q) (.tup ds) :=
  .tup (.of upd_same) (w.dvs_new hq r)
theorem dv_lst {K : PySem.W.Frag} {G : Hp} {ι : List Addr} {H : Hp} {st : Sto} (w : WH K G ι st H) {q : Addr} (hq : H q = none) {vs : List V} {ds : List D} (r : DVs K G ι vs ds) : DV K (upd G q (.lst vs)) ι (.ref q) (.lst ds) :=
  .lst upd_same (w.dvs_new hq r)
theorem da_nil : DA X T W [] aNil := DA.of pa_nil fun σ H Q G ι st env w r p => p [] G ι H .refl w .nil
theorem da_cons (ha : DE X T W e ma) (hr : DA X T W es mas) (hs : starEach (e :: es) X.env = (false, eval e X.env) :: starEach es X.env := by rfl) : DA X T W (e :: es) (aCons ma mas) :=
  DA.of (pa_cons ha hr hs) fun σ H Q G ι st env w r p => ⟨G, ι, st, env, w, r, PostA.bindE p fun d st1 v G1 ι1 H1 x1 w1 r1 p1 =>
    ⟨G1, ι1, st1, env, w1, r.mono x1, p1.bindA fun ds st2 vs G2 ι2 H2 x2 w2 r2 p2 => p2 (v :: vs) G2 ι2 H2 .refl w2 (.cons (x2.dv r1) r2)⟩⟩
theorem de_tup {x1} (h : DA X T W es mas) : DE X T W (.Tuple es x1 pos) (eTup mas) :=
  DE.of (pe_tup h) fun σ H Q G ι st env w r p => ⟨G, ι, st, env, w, r, p.bindA fun ds st1 vs G1 ι1 H1 x1 w1 r1 p1 => by
    by_cases hf : fits ds.length = true
    · rw [if_pos hf] at p1
      refine ⟨by rw [r1.length]; exact fits_line hf, fun q hq => ?_⟩
      exact PostO.fresh (d := .tup ds) (PostE.rd (f := fun _ => some (.tup ds)) p1) w1 hq (dv_tup w1 hq r1)
    · rw [if_neg hf] at p1
      exact p1.elim⟩
theorem de_lst (h : DA X T W es mas) : DE X T W (.List es pos) (eLst mas) :=
  DE.of (pe_lst h) fun σ H Q G ι st env w r p => ⟨G, ι, st, env, w, r, p.bindA fun ds st1 vs G1 ι1 H1 x1 w1 r1 p1 => by
    by_cases hf : fits ds.length = true
    · rw [if_pos hf] at p1
      refine ⟨by rw [r1.length]; exact fits_line hf, fun q hq => ?_⟩
      exact PostO.fresh (d := .lst ds) (PostE.rd (f := fun _ => some (.lst ds)) p1) w1 hq (dv_lst w1 hq r1)
    · rw [if_neg hf] at p1
      exact p1.elim⟩
/-- a list that will be changed: a new cell -/
theorem de_lstC (h : DA X T W es mas) : DE X T W (.List es pos) (eLstC mas) :=
  DE.of (pe_lst h) fun σ H Q G ι st env w r p => ⟨G, ι, st, env, w, r, p.bindA fun ds st1 vs G1 ι1 H1 x1 w1 r1 p1 => by
    by_cases hf : fits ds.length = true
    · rw [if_pos hf] at p1
      refine ⟨by rw [r1.length]; exact fits_line hf, fun q hq => ?_⟩
      have cr : CellR X.K G1 (ι1 ++ [q]) (upd H1 q (.lst vs)) q (.lst ds) := ⟨w1.off hq, vs, upd_same, r1.mono (fun _ _ h => h) ⟨[q], rfl⟩⟩
      refine p1 _ _ _ _ (w1.clExt hq _) (w1.cl hq cr) (.cell ?_)
      rw [← w1.len, List.getElem?_append_right (Nat.le_refl _)]
      simp
    · rw [if_neg hf] at p1
      exact p1.elim⟩
theorem de_callB {x : Str} {id : String} {p : Pos} {g : Sto → List D → Option D} (hc : CallD X (.builtin id) g) (hg : Gl X x) (hm : X.mg x = none) (hv : bootBuiltins x = some (.builtin id)) (ha : DA X T W (e :: es) mas) (hn : x ≠ "__name__" := by decide) (hdb : (x == ("__debug__" : Str)) = false := by decide)
    (he : starEach (e :: es) X.env = (false, eval e X.env) :: starEach es X.env := by rfl) (hpl : (backTo pos (starEach es X.env)).any (·.1) = false := by rfl) : DE X T W (.Call (.Name x p) (e :: es) [] pos) (eCall g mas) :=
  DE.of (pe_callB hc hg hm hv ha hn hdb he hpl) fun σ H Q G ι st env w r p => ⟨G, ι, st, env, w, r, p.bindA fun ds st1 vs G1 ι1 H1 x1 w1 r1 p1 => ⟨G1, ι1, st1, ds, w1, r1, p1.rd⟩⟩
theorem de_callTy {x : Str} {T' : String} {p : Pos} {g : Sto → List D → Option D} (hc : CallD X (.type T') g) (hg : Gl X x) (hm : X.mg x = none) (hv : bootBuiltins x = some (.type T')) (ha : DA X T W (e :: es) mas) (hn : x ≠ "__name__" := by decide) (hdb : (x == ("__debug__" : Str)) = false := by decide)
    (he : starEach (e :: es) X.env = (false, eval e X.env) :: starEach es X.env := by rfl) (hpl : (backTo pos (starEach es X.env)).any (·.1) = false := by rfl) : DE X T W (.Call (.Name x p) (e :: es) [] pos) (eCall g mas) :=
  DE.of (pe_callTy hc hg hm hv ha hn hdb he hpl) fun σ H Q G ι st env w r p => ⟨G, ι, st, env, w, r, p.bindA fun ds st1 vs G1 ι1 H1 x1 w1 r1 p1 => ⟨G1, ι1, st1, ds, w1, r1, p1.rd⟩⟩
theorem de_ix {g : Sto → D → D → Option D} (hr : IxD X g) (ha : DE X T W a ma) (hb : DE X T W b mb) (hs : PlainIx b := by exact fun _ _ => rfl) : DE X T W (.Subscript a b pos) (eBin g ma mb) :=
  DE.of (pe_ix hr ha hb hs) fun σ H Q G ι st env w r p => ⟨G, ι, st, env, w, r, p.bind fun d st1 v G1 ι1 H1 x1 w1 r1 p1 =>
    ⟨G1, ι1, st1, env, w1, r.mono x1, p1.bind fun d2 st2 v2 G2 ι2 H2 x2 w2 r2 p2 => ⟨G2, ι2, st2, d, d2, w2, x2.dv r1, r2, p2.rd⟩⟩⟩
theorem de_chain {op op' : CmpOp} {g g' : Sto → D → D → Option D} (ho : OpD X (compareOp op) g) (ho' : OpD X (compareOp op') g') (ha : DE X T W a ma) (hb : DE X T W b mb) (hc : DE X T W c mc) (hm : lastMarks [op, op'] [b, c] = false := by with_unfolding_all rfl) :
    DE X T W (.Compare a [op, op'] [b, c] pos) (eChain g g' ma mb mc) :=
  DE.of (pe_chain ho ho' ha hb hc hm) fun σ H Q G ι st env w r p => ⟨G, ι, st, env, w, r, p.bind fun d st1 v G1 ι1 H1 x1 w1 r1 p1 =>
    ⟨G1, ι1, st1, env, w1, r.mono x1, p1.bind fun d2 st2 v2 G2 ι2 H2 x2 w2 r2 p2 => ⟨G2, ι2, st2, d, d2, w2, x2.dv r1, r2, (p2.bind (Q' := fun z H3 => ∃ k, z = .bl k ∧ (if k = true then tOf X.K T W mc σ H3 fun w' H4 => rOf X.K g' v2 w' H4 Q else Q (.bl false) H3)) fun d3 st3 v3 G3 ι3 H3 x3 w3 r3 p3 => by
      obtain ⟨k, e1, _, p4⟩ := PostE.asB r3 p3
      refine ⟨k, e1, ?_⟩
      cases k with
      | true =>
        exact ⟨G3, ι3, st3, env, w3, ((r.mono x1).mono x2).mono x3, p4.bind fun d4 st4 v4 G4 ι4 H4 x4 w4 r4 p5 => ⟨G4, ι4, st4, d2, d4, w4, x4.dv (x3.dv r2), r4, p5.rd⟩⟩
      | false => exact p4.ok w3 (.bl false)).rd⟩⟩⟩
end

/-! ## Statements -/
inductive SR where
  | nx (e : DEnv) (s : Sto) | rt (d : D) (s : Sto) | bk (e : DEnv) (s : Sto) | ct (e : DEnv) (s : Sto) | ex (x : Ex) (e : DEnv) (s : Sto) | bad
abbrev SM := DEnv → Sto → SR
section
variable (K : PySem.W.Frag) (T : CT) (W : WX)
def PostS (G : Hp) (ι : List Addr) (H : Hp) (r : SR) (Dd : Ends) : Prop := match r with
  | .nx env st' => ∀ σ G' ι' H', Ext ι ι' H H' G G' → WH K G' ι' st' H' → EnvR K T G' ι' σ env → Dd.nx σ H'
  | .bk env st' => ∀ σ G' ι' H', Ext ι ι' H H' G G' → WH K G' ι' st' H' → EnvR K T G' ι' σ env → Dd.bk σ H'
  | .ct env st' => ∀ σ G' ι' H', Ext ι ι' H H' G G' → WH K G' ι' st' H' → EnvR K T G' ι' σ env → Dd.ct σ H'
  | .rt d st' => ∀ v G' ι' H', Ext ι ι' H H' G G' → WH K G' ι' st' H' → DV K G' ι' v d → Dd.rt v H'
  | .ex x env st' => ∀ c dd σ G' ι' H', Ext ι ι' H H' G G' → WH K G' ι' st' H' → EnvR K T G' ι' σ env → ExR K T G' ι' c dd x → W c dd σ H'
  | .bad => False
def sOf (m : SM) : TS := fun Dd σ H => ∃ G ι st env, WH K G ι st H ∧ EnvR K T G ι σ env ∧ PostS K T W G ι H (m env st) Dd
end
def DS (X : Cx) (T : CT) (W : WX) (s : Stmt) (m : SM) : Prop := PS X s (sOf X.K T W m)
def DSs (X : Cx) (T : CT) (W : WX) (s : List Stmt) (m : SM) : Prop := PSs X s (sOf X.K T W m)
section
variable {K : PySem.W.Frag} {T : CT} {W : WX} {G G1 : Hp} {ι ι1 : List Addr} {H H1 : Hp} {st : Sto} {Dd : Ends}
/-- later is as good -/
theorem PostS.later {r : SR} (p : PostS K T W G ι H r Dd) {st1 : Sto} (x : Ext ι ι1 H H1 G G1) (w : WH K G1 ι1 st1 H1) : PostS K T W G1 ι1 H1 r Dd := by
  cases r with
  | nx env s => exact fun σ G' ι' H' x2 w2 r2 => p σ G' ι' H' (x.cons w x2) w2 r2
  | bk env s => exact fun σ G' ι' H' x2 w2 r2 => p σ G' ι' H' (x.cons w x2) w2 r2
  | ct env s => exact fun σ G' ι' H' x2 w2 r2 => p σ G' ι' H' (x.cons w x2) w2 r2
  | rt d s => exact fun v G' ι' H' x2 w2 r2 => p v G' ι' H' (x.cons w x2) w2 r2
  | ex y env s => exact fun c dd σ G' ι' H' x2 w2 r2 r3 => p c dd σ G' ι' H' (x.cons w x2) w2 r2 r3
  | bad => exact p
theorem PostE.later {E : XK} {Q : VK} {r : R D} (p : PostE K T G ι H r E Q) {st1 : Sto} (x : Ext ι ι1 H H1 G G1) (w : WH K G1 ι1 st1 H1) : PostE K T G1 ι1 H1 r E Q := by
  cases r with
  | ok d s => exact fun v G' ι' H' x2 w2 r2 => p v G' ι' H' (x.cons w x2) w2 r2
  | ex y s => exact fun c dd G' ι' H' x2 w2 r2 => p c dd G' ι' H' (x.cons w x2) w2 r2
  | bad => exact p
end
/-- an expression within a statement -/
def sE (m : EM) (f : D → SM) : SM := fun env st => match m env st with
  | .ok d s => f d env s
  | .ex x s => .ex x env s
  | .bad => .bad
def sB (m : BM) (f : Bool → SM) : SM := fun env st => match m env st with
  | .ok d s => f d env s
  | .ex x s => .ex x env s
  | .bad => .bad
section
variable {K : PySem.W.Frag} {T : CT} {W : WX} {G : Hp} {ι : List Addr} {H : Hp} {st : Sto} {Dd : Ends} {σ : L2.St} {env : DEnv}
theorem PostS.bindE {m : EM} {f : D → SM} {Q : VK} (re : EnvR K T G ι σ env) (p : PostS K T W G ι H (sE m f env st) Dd)
    (h : ∀ d st1 v G1 ι1 H1, Ext ι ι1 H H1 G G1 → WH K G1 ι1 st1 H1 → DV K G1 ι1 v d → PostS K T W G1 ι1 H1 (f d env st1) Dd → Q v H1) : PostE K T G ι H (m env st) (fun c d H' => W c d σ H') Q := by
  unfold sE at p
  cases e : m env st with
  | bad => rw [e] at p; exact p
  | ex x s => rw [e] at p; exact fun c dd G' ι' H' x2 w2 r2 => p c dd σ G' ι' H' x2 w2 (re.mono x2) r2
  | ok d s =>
    rw [e] at p
    exact fun v G1 ι1 H1 x1 w1 r1 => h d s v G1 ι1 H1 x1 w1 r1 (PostS.later p x1 w1)
theorem PostS.bindB {m : BM} {f : Bool → SM} {Q : Bool → Hp → Prop} (re : EnvR K T G ι σ env) (p : PostS K T W G ι H (sB m f env st) Dd)
    (h : ∀ d st1 G1 ι1 H1, Ext ι ι1 H H1 G G1 → WH K G1 ι1 st1 H1 → PostS K T W G1 ι1 H1 (f d env st1) Dd → Q d H1) : PostB K T G ι H (m env st) (fun c d H' => W c d σ H') Q := by
  unfold sB at p
  cases e : m env st with
  | bad => rw [e] at p; exact p
  | ex x s => rw [e] at p; exact fun c dd G' ι' H' x2 w2 r2 => p c dd σ G' ι' H' x2 w2 (re.mono x2) r2
  | ok d s =>
    rw [e] at p
    exact fun G1 ι1 H1 x1 w1 => h d s G1 ι1 H1 x1 w1 (PostS.later p x1 w1)
theorem PostS.nx {env' : DEnv} (p : PostS K T W G ι H (.nx env' st) Dd) (w : WH K G ι st H) {σ' : L2.St} (r : EnvR K T G ι σ' env') : Dd.nx σ' H := p σ' G ι H .refl w r
theorem PostS.rt {d : D} (p : PostS K T W G ι H (.rt d st) Dd) (w : WH K G ι st H) {v : V} (r : DV K G ι v d) : Dd.rt v H := p v G ι H .refl w r
end
def sNext : SM := fun env st => .nx env st
def sSeq (a b : SM) : SM := fun env st => match a env st with
  | .nx e s => b e s
  | .rt d s => .rt d s
  | .bk e s => .bk e s
  | .ct e s => .ct e s
  | .ex x e s => .ex x e s
  | .bad => .bad
def sSet (i : Nat) (m : EM) : SM := sE m fun d env st => .nx (env.set i (some d)) st
def sExpr (m : EM) : SM := sE m fun _ env st => .nx env st
def sRet (m : EM) : SM := sE m fun d _ st => .rt d st
def sRetN : SM := fun _ st => .rt .non st
def sIf (c : BM) (a b : SM) : SM := sB c fun k env st => if k = true then a env st else b env st
def sBreak : SM := fun env st => .bk env st
def sCont : SM := fun env st => .ct env st
section
variable {X : Cx} {T : CT} {W : WX} {s : Stmt} {ss : List Stmt} {e : Expr} {m : EM} {k : BM} {a b : SM} {pos : Pos}
theorem DS.of {t : TS} {m : SM} (h : PS X s t) (ht : ∀ Dd σ H G ι st env, WH X.K G ι st H → EnvR X.K T G ι σ env → PostS X.K T W G ι H (m env st) Dd → t Dd σ H) : DS X T W s m :=
  ⟨fun pins s σ H Dd I ⟨G, ι, st, env, w, r, p⟩ => h.run pins s σ H Dd I (ht Dd σ H G ι st env w r p)⟩
theorem DSs.of {t : TS} {m : SM} (h : PSs X ss t) (ht : ∀ Dd σ H G ι st env, WH X.K G ι st H → EnvR X.K T G ι σ env → PostS X.K T W G ι H (m env st) Dd → t Dd σ H) : DSs X T W ss m :=
  ⟨fun pins s σ H Dd I ⟨G, ι, st, env, w, r, p⟩ => h.run pins s σ H Dd I (ht Dd σ H G ι st env w r p)⟩
theorem dss_nil : DSs X T W [] sNext := DSs.of pss_nil fun Dd σ H G ι st env w r p => p.nx w r
theorem dss_one (h : DS X T W s a) : DSs X T W [s] a := pss_one h
theorem dss_cons (h1 : DS X T W s a) (h2 : DSs X T W ss b) : DSs X T W (s :: ss) (sSeq a b) :=
  DSs.of (pss_cons h1 h2) fun Dd σ H G ι st env w r p => by
    refine ⟨G, ι, st, env, w, r, ?_⟩
    unfold sSeq at p
    cases e : a env st with
    | bad => rw [e] at p; exact p
    | ex x e' s' => rw [e] at p; exact p
    | rt d s' => rw [e] at p; exact p
    | bk e' s' => rw [e] at p; exact p
    | ct e' s' => rw [e] at p; exact p
    | nx e' s' =>
      rw [e] at p
      exact fun σ' G' ι' H' x' w' r' => ⟨G', ι', s', e', w', r', PostS.later p x' w'⟩
theorem ds_pass : DS X T W (.Pass pos) sNext := DS.of ps_pass fun Dd σ H G ι st env w r p => p.nx w r
theorem ds_break : DS X T W (.Break pos) sBreak := DS.of ps_break fun Dd σ H G ι st env w r p => p σ G ι H .refl w r
theorem ds_continue : DS X T W (.Continue pos) sCont := DS.of ps_continue fun Dd σ H G ι st env w r p => p σ G ι H .refl w r
theorem ds_expr (he : DE X T W e m) (hs : swapsWith e none pos.line X.env = pure false := by rfl) : DS X T W (.Expr e pos) (sExpr m) :=
  DS.of (ps_expr he hs) fun Dd σ H G ι st env w r p => ⟨G, ι, st, env, w, r, PostS.bindE r p fun d st1 v G1 ι1 H1 x1 w1 r1 p1 => p1.nx w1 (r.mono x1)⟩
theorem ds_ret (he : DE X T W e m) : DS X T W (.Return (some e) pos) (sRet m) :=
  DS.of (ps_ret he) fun Dd σ H G ι st env w r p => ⟨G, ι, st, env, w, r, PostS.bindE r p fun d st1 v G1 ι1 H1 x1 w1 r1 p1 => p1.rt w1 r1⟩
theorem ds_retN : DS X T W (.Return none pos) sRetN := DS.of ps_retN fun Dd σ H G ι st env w r p => p.rt w .non
theorem ds_set {i : Nat} {x : Str} {pos' : Pos} (hN : X.N.Nodup) (hi : X.N[i]? = some x) (hx : Loc X.env.scope x) (he : DE X T W e m) (hs : swapsWith e (some (.Name x pos')) pos.line X.env = pure false := by rfl) (hf : X.fn x = true ∨ X.env.scope.names.lookup x = some .local := by first | exact .inl rfl | exact .inr rfl | assumption) :
    DS X T W (.Assign [.Name x pos'] e pos) (sSet i m) :=
  DS.of (ps_set hN hi hx he hs hf) fun Dd σ H G ι st env w r p => ⟨G, ι, st, env, w, r, PostS.bindE r p fun d st1 v G1 ι1 H1 x1 w1 r1 p1 => p1.nx w1 ((r.mono x1).set r1 i)⟩
theorem ds_if {c : Expr} {as bs : List Stmt} (hc : DT X T W c k) (ha : DSs X T W as a) (hb : DSs X T W bs b) : DS X T W (.If c as bs pos) (sIf k a b) :=
  DS.of (ps_if hc ha hb) fun Dd σ H G ι st env w r p => ⟨G, ι, st, env, w, r, PostS.bindB r p fun d st1 G1 ι1 H1 x1 w1 p1 => by
    cases d with
    | true => exact ⟨G1, ι1, st1, env, w1, r.mono x1, p1⟩
    | false => exact ⟨G1, ι1, st1, env, w1, r.mono x1, p1⟩⟩
end

/-! ## Targets -/
section
variable (K : PySem.W.Frag) (T : CT)
def gOf (vs : List Nat) (g : D → DEnv → Option DEnv) : TG := fun v σ H Q => ∃ G ι st env d, WH K G ι st H ∧ EnvR K T G ι σ env ∧ DV K G ι v d ∧ match g d env with
  | some env' => ∀ σ', EnvR K T G ι σ' env' → σ'.length = σ.length → (∀ j, j ∉ vs → σ'[j]? = σ[j]?) → Q σ' H
  | none => False
end
def DG (X : Cx) (e : Expr) (vs : List Nat) (g : D → DEnv → Option DEnv) : Prop := ∀ T : CT, PG X e (gOf X.K T vs g)
def gN (i : Nat) : D → DEnv → Option DEnv := fun d env => some (env.set i (some d))
def gT2 (i j : Nat) : D → DEnv → Option DEnv := fun d env => match d with
  | .tup [x, y] => some ((env.set i (some x)).set j (some y))
  | _ => none
def gT3 (i j k : Nat) : D → DEnv → Option DEnv := fun d env => match d with
  | .tup [x, y, z] => some (((env.set i (some x)).set j (some y)).set k (some z))
  | _ => none
section
variable {X : Cx} {T : CT} {W : WX} {e : Expr} {m : EM} {pos : Pos}
theorem dg_name {i : Nat} {x : Str} (hN : X.N.Nodup) (hi : X.N[i]? = some x) (hx : Loc X.env.scope x) (hf : X.fn x = true ∨ X.env.scope.names.lookup x = some .local := by first | exact .inl rfl | exact .inr rfl | assumption) : DG X (.Name x pos) [i] (gN i) := by
  refine fun T => ⟨fun pins s σ H v u Q I rv ⟨G, ι, st, env, d, w, r, rd, p⟩ => (pg_name hN hi hx hf).run pins s σ H v u Q I rv (p _ (r.set rd i) (by simp) fun j hj => ?_)⟩
  rw [List.getElem?_set_ne (fun z => hj (by simp [z]))]
theorem dg_tup2 {i j : Nat} {x y : Str} {px py : Pos} {k : Nat} (hc : X.calm = true) (hN : X.N.Nodup) (hi : X.N[i]? = some x) (hx : Loc X.env.scope x) (hj : X.N[j]? = some y) (hy : Loc X.env.scope y)
    (hfx : X.fn x = true ∨ X.env.scope.names.lookup x = some .local := by first | exact .inl rfl | exact .inr rfl | assumption) (hfy : X.fn y = true ∨ X.env.scope.names.lookup y = some .local := by first | exact .inl rfl | exact .inr rfl | assumption)
    (h1 : (assignEach [.Name x px, .Name y py] X.env).length = 2 := by rfl) (h2 : (assignEach [.Name x px, .Name y py] X.env).findIdx? (·.1) = none := by rfl)
    (h3 : (assignEach (.Name x px :: [.Name y py]) X.env).map (·.2) = assign (.Name x px) X.env :: (assignEach [.Name y py] X.env).map (·.2) := by rfl)
    (h4 : (assignEach (.Name y py :: []) X.env).map (·.2) = assign (.Name y py) X.env :: (assignEach [] X.env).map (·.2) := by rfl) : DG X (.Tuple [.Name x px, .Name y py] k pos) [i, j] (gT2 i j) := by
  refine fun T => ⟨fun pins s σ H v u Q I rv ⟨G, ι, st, env, d, w, r, rd, p⟩ => (pg_tup hc (pgs_cons (pg_name hN hi hx hfx) (pgs_cons (pg_name hN hj hy hfy) pgs_nil h4) h3) h1 h2).run pins s σ H v u Q I rv ?_⟩
  cases rd with
  | @tup a xs ds q hs =>
    cases hs with
    | nil => exact p.elim
    | cons r1 hs =>
      cases hs with
      | nil => exact p.elim
      | cons r2 hs =>
        cases hs with
        | cons _ _ => exact p.elim
        | nil =>
          refine ⟨a, _, rfl, w.same.tup q, rfl, _, _, rfl, _, _, rfl, rfl, ?_⟩
          refine p _ ((r.set r1 i).set r2 j) (by simp) fun l hl => ?_
          rw [List.getElem?_set_ne (fun z => hl (by simp [z])), List.getElem?_set_ne (fun z => hl (by simp [z]))]
  | _ => exact p.elim
theorem dg_tup3 {i j l : Nat} {x y z : Str} {px py pz : Pos} {k : Nat} (hc : X.calm = true) (hN : X.N.Nodup) (hi : X.N[i]? = some x) (hx : Loc X.env.scope x) (hj : X.N[j]? = some y) (hy : Loc X.env.scope y) (hl : X.N[l]? = some z) (hz : Loc X.env.scope z)
    (hfx : X.fn x = true ∨ X.env.scope.names.lookup x = some .local := by first | exact .inl rfl | exact .inr rfl | assumption) (hfy : X.fn y = true ∨ X.env.scope.names.lookup y = some .local := by first | exact .inl rfl | exact .inr rfl | assumption)
    (hfz : X.fn z = true ∨ X.env.scope.names.lookup z = some .local := by first | exact .inl rfl | exact .inr rfl | assumption)
    (h1 : (assignEach [.Name x px, .Name y py, .Name z pz] X.env).length = 3 := by rfl) (h2 : (assignEach [.Name x px, .Name y py, .Name z pz] X.env).findIdx? (·.1) = none := by rfl)
    (h3 : (assignEach (.Name x px :: [.Name y py, .Name z pz]) X.env).map (·.2) = assign (.Name x px) X.env :: (assignEach [.Name y py, .Name z pz] X.env).map (·.2) := by rfl)
    (h4 : (assignEach (.Name y py :: [.Name z pz]) X.env).map (·.2) = assign (.Name y py) X.env :: (assignEach [.Name z pz] X.env).map (·.2) := by rfl)
    (h5 : (assignEach (.Name z pz :: []) X.env).map (·.2) = assign (.Name z pz) X.env :: (assignEach [] X.env).map (·.2) := by rfl) : DG X (.Tuple [.Name x px, .Name y py, .Name z pz] k pos) [i, j, l] (gT3 i j l) := by
  refine fun T => ⟨fun pins s σ H v u Q I rv ⟨G, ι, st, env, d, w, r, rd, p⟩ => (pg_tup hc (pgs_cons (pg_name hN hi hx hfx) (pgs_cons (pg_name hN hj hy hfy) (pgs_cons (pg_name hN hl hz hfz) pgs_nil h5) h4) h3) h1 h2).run pins s σ H v u Q I rv ?_⟩
  cases rd with
  | @tup a xs ds q hs =>
    cases hs with
    | nil => exact p.elim
    | cons r1 hs =>
      cases hs with
      | nil => exact p.elim
      | cons r2 hs =>
        cases hs with
        | nil => exact p.elim
        | cons r3 hs =>
          cases hs with
          | cons _ _ => exact p.elim
          | nil =>
            refine ⟨a, _, rfl, w.same.tup q, rfl, _, _, rfl, _, _, rfl, _, _, rfl, rfl, ?_⟩
            refine p _ (((r.set r1 i).set r2 j).set r3 l) (by simp) fun n hn => ?_
            rw [List.getElem?_set_ne (fun z => hn (by simp [z])), List.getElem?_set_ne (fun z => hn (by simp [z])), List.getElem?_set_ne (fun z => hn (by simp [z]))]
  | _ => exact p.elim
/-- target = value, the target of any form -/
def sAsg (g : D → DEnv → Option DEnv) (m : EM) : SM := sE m fun d env st => match g d env with
  | some e => .nx e st
  | none => .bad
theorem ds_asg {tg : Expr} {vs : List Nat} {g : D → DEnv → Option DEnv} (hg : DG X tg vs g) (he : DE X T W e m) (hs : swapsWithSole [tg] e pos.line X.env = pure false := by rfl) (hw : swappedStores [tg] e X.env = pure none := by rfl)
    (h1 : (assignEach [tg] X.env).map (·.2) = [assign tg X.env] := by rfl) : DS X T W (.Assign [tg] e pos) (sAsg g m) :=
  DS.of (ps_asg he (hg T) hs hw h1) fun Dd σ H G ι st env w r p => ⟨G, ι, st, env, w, r, PostS.bindE r p fun d st1 v G1 ι1 H1 x1 w1 r1 p1 => by
    refine ⟨G1, ι1, st1, env, d, w1, r.mono x1, r1, ?_⟩
    cases e2 : g d env with
    | none => rw [e2] at p1; exact p1
    | some env' => rw [e2] at p1; exact fun σ' r' _ _ => p1.nx w1 r'⟩
/-- a, b = x, y (both sides written) -/
def sPar (i j : Nat) (ma mb : EM) : SM := sE ma fun x env st => (sE mb fun y env st => .nx ((env.set i (some x)).set j (some y)) st) env st
theorem ds_par {i j : Nat} {x y : Str} {a b : Expr} {ma mb : EM} {px py pt : Pos} {kt k2 pt2} (hc : X.calm = true) (hN : X.N.Nodup) (hi : X.N[i]? = some x) (hj : X.N[j]? = some y) (hij : i ≠ j)
    (hx : X.env.scope.names.lookup x = some .local) (hy : X.env.scope.names.lookup y = some .local) (ha : DE X T W a ma) (hb : DE X T W b mb)
    (hw : swappedStores [.Tuple [.Name x px, .Name y py] kt pt] (.Tuple [a, b] k2 pt2) X.env = pure (some [x, y]) := by rfl)
    (hs : swapsWithSole [.Tuple [.Name x px, .Name y py] kt pt] (.Tuple [a, b] k2 pt2) pos.line X.env = pure false := by rfl)
    (h1 : starEach (a :: [b]) X.env = (false, eval a X.env) :: starEach [b] X.env := by rfl) (h2 : starEach (b :: []) X.env = (false, eval b X.env) :: starEach [] X.env := by rfl) :
    DS X T W (.Assign [.Tuple [.Name x px, .Name y py] kt pt] (.Tuple [a, b] k2 pt2) pos) (sPar i j ma mb) :=
  DS.of (ps_par hc hN hi hj hij hx hy (pa_cons ha (pa_cons hb pa_nil h2) h1) hw hs) fun Dd σ H G ι st env w r p => ⟨G, ι, st, env, w, r, PostS.bindE r p fun d st1 v G1 ι1 H1 x1 w1 r1 p1 =>
    ⟨G1, ι1, st1, env, w1, r.mono x1, PostS.bindE (r.mono x1) p1 fun d2 st2 v2 G2 ι2 H2 x2 w2 r2 p2 => ⟨v, v2, rfl, p2.nx w2 ((((r.mono x1).mono x2).set (x2.dv r1) i).set r2 j)⟩⟩⟩
def sPar3 (i j l : Nat) (ma mb mc : EM) : SM := sE ma fun x env st => (sE mb fun y env st => (sE mc fun z env st => .nx (((env.set i (some x)).set j (some y)).set l (some z)) st) env st) env st
theorem ds_par3 {i j l : Nat} {x y z : Str} {a b c : Expr} {ma mb mc : EM} {px py pz pt : Pos} {kt k2 pt2} (hc : X.calm = true) (hN : X.N.Nodup) (hi : X.N[i]? = some x) (hj : X.N[j]? = some y) (hl : X.N[l]? = some z) (hij : i ≠ j) (hil : i ≠ l) (hjl : j ≠ l)
    (hx : X.env.scope.names.lookup x = some .local) (hy : X.env.scope.names.lookup y = some .local) (hz : X.env.scope.names.lookup z = some .local) (ha : DE X T W a ma) (hb : DE X T W b mb) (hcc : DE X T W c mc)
    (hw : swappedStores [.Tuple [.Name x px, .Name y py, .Name z pz] kt pt] (.Tuple [a, b, c] k2 pt2) X.env = pure (some [x, y, z]) := by rfl)
    (hs : swapsWithSole [.Tuple [.Name x px, .Name y py, .Name z pz] kt pt] (.Tuple [a, b, c] k2 pt2) pos.line X.env = pure false := by rfl)
    (h1 : starEach (a :: [b, c]) X.env = (false, eval a X.env) :: starEach [b, c] X.env := by rfl) (h2 : starEach (b :: [c]) X.env = (false, eval b X.env) :: starEach [c] X.env := by rfl) (h3 : starEach (c :: []) X.env = (false, eval c X.env) :: starEach [] X.env := by rfl) :
    DS X T W (.Assign [.Tuple [.Name x px, .Name y py, .Name z pz] kt pt] (.Tuple [a, b, c] k2 pt2) pos) (sPar3 i j l ma mb mc) :=
  DS.of (ps_par3 hc hN hi hj hl hij hil hjl hx hy hz (pa_cons ha (pa_cons hb (pa_cons hcc pa_nil h3) h2) h1) hw hs) fun Dd σ H G ι st env w r p => ⟨G, ι, st, env, w, r, PostS.bindE r p fun d st1 v G1 ι1 H1 x1 w1 r1 p1 =>
    ⟨G1, ι1, st1, env, w1, r.mono x1, PostS.bindE (r.mono x1) p1 fun d2 st2 v2 G2 ι2 H2 x2 w2 r2 p2 =>
      ⟨G2, ι2, st2, env, w2, (r.mono x1).mono x2, PostS.bindE ((r.mono x1).mono x2) p2 fun d3 st3 v3 G3 ι3 H3 x3 w3 r3 p3 => ⟨v, v2, v3, rfl, p3.nx w3 ((((((r.mono x1).mono x2).mono x3).set (x3.dv (x2.dv r1)) i).set (x3.dv r2) j).set r3 l)⟩⟩⟩⟩
end
end L3
namespace L3
open PySem PySem.Spec PyProof.Rows L2

/-! ## Equal data -/
mutual
def D.beq : D → D → Bool
  | .non, .non => true
  | .bl a, .bl b => a == b
  | .int a, .int b => a == b
  | .str a, .str b => decide (a = b)
  | .tup a, .tup b => D.beqs a b
  | .lst a, .lst b => D.beqs a b
  | .scr a, .scr b => D.beqs a b
  | .dic a, .dic b => D.beqk a b
  | .cell a, .cell b => a == b
  | _, _ => false
def D.beqs : List D → List D → Bool
  | [], [] => true
  | a :: as, b :: bs => D.beq a b && D.beqs as bs
  | _, _ => false
def D.beqk : List (Key × D) → List (Key × D) → Bool
  | [], [] => true
  | (k, a) :: as, (l, b) :: bs => decide (k = l) && (D.beq a b && D.beqk as bs)
  | _, _ => false
end
mutual
theorem D.beq_eq : ∀ {a b : D}, D.beq a b = true → a = b
  | .non, b, h => by cases b <;> simp_all [D.beq]
  | .bl x, b, h => by cases b <;> simp_all [D.beq]
  | .int x, b, h => by cases b <;> simp_all [D.beq]
  | .str x, b, h => by cases b <;> simp_all [D.beq]
  | .cell x, b, h => by cases b <;> simp_all [D.beq]
  | .tup x, b, h => by
    cases b with
    | tup y => rw [D.beqs_eq (show D.beqs x y = true by simpa [D.beq] using h)]
    | _ => simp [D.beq] at h
  | .lst x, b, h => by
    cases b with
    | lst y => rw [D.beqs_eq (show D.beqs x y = true by simpa [D.beq] using h)]
    | _ => simp [D.beq] at h
  | .scr x, b, h => by
    cases b with
    | scr y => rw [D.beqs_eq (show D.beqs x y = true by simpa [D.beq] using h)]
    | _ => simp [D.beq] at h
  | .dic x, b, h => by
    cases b with
    | dic y => rw [D.beqk_eq (show D.beqk x y = true by simpa [D.beq] using h)]
    | _ => simp [D.beq] at h
theorem D.beqs_eq : ∀ {a b : List D}, D.beqs a b = true → a = b
  | [], b, h => by cases b <;> simp_all [D.beqs]
  | a :: as, [], h => by simp [D.beqs] at h
  | a :: as, b :: bs, h => by
    have h' : D.beq a b = true ∧ D.beqs as bs = true := by simpa [D.beqs] using h
    rw [D.beq_eq h'.1, D.beqs_eq h'.2]
theorem D.beqk_eq : ∀ {a b : List (Key × D)}, D.beqk a b = true → a = b
  | [], b, h => by cases b <;> simp_all [D.beqk]
  | (k, a) :: as, [], h => by simp [D.beqk] at h
  | (k, a) :: as, (l, b) :: bs, h => by
    have h' : k = l ∧ D.beq a b = true ∧ D.beqk as bs = true := by simpa [D.beqk] using h
    rw [h'.1, D.beq_eq h'.2.1, D.beqk_eq h'.2.2]
end
mutual
theorem D.beq_refl : ∀ a : D, D.beq a a = true
  | .non => by simp [D.beq]
  | .bl x => by simp [D.beq]
  | .int x => by simp [D.beq]
  | .str x => by simp [D.beq]
  | .cell x => by simp [D.beq]
  | .tup x => by simp [D.beq, D.beqs_refl x]
  | .lst x => by simp [D.beq, D.beqs_refl x]
  | .scr x => by simp [D.beq, D.beqs_refl x]
  | .dic x => by simp [D.beq, D.beqk_refl x]
theorem D.beqs_refl : ∀ a : List D, D.beqs a a = true
  | [] => by simp [D.beqs]
  | a :: as => by simp [D.beqs, D.beq_refl a, D.beqs_refl as]
theorem D.beqk_refl : ∀ a : List (Key × D), D.beqk a a = true
  | [] => by simp [D.beqk]
  | (k, a) :: as => by simp [D.beqk, D.beq_refl a, D.beqk_refl as]
end

/-! ## What is walked -/
/-- the cell that is walked, as it was (none: the source stands for good) -/
abbrev Src := Option (Nat × List D)
def Src.ok (c : Src) (st : Sto) : Bool := match c with
  | none => true
  | some (n, xs) => match st[n]? with
    | some (.lst ys) => D.beqs ys xs
    | _ => false
@[simp] theorem Src.ok_none (st : Sto) : Src.ok none st = true := rfl
theorem Src.ok_some {n : Nat} {xs : List D} {st : Sto} (h : st[n]? = some (.lst xs)) : Src.ok (some (n, xs)) st = true := by
  unfold Src.ok
  dsimp only
  rw [h]
  exact D.beqs_refl xs
theorem Src.at_ {n : Nat} {xs : List D} {st : Sto} (h : Src.ok (some (n, xs)) st = true) : st[n]? = some (.lst xs) := by
  unfold Src.ok at h
  dsimp only at h
  cases e : st[n]? with
  | none => rw [e] at h; cases h
  | some c =>
    rw [e] at h
    cases c with
    | lst ys => rw [D.beqs_eq h]
    | dic _ => cases h
    | gone => cases h
    | tab _ => cases h
def ItD (K : PySem.W.Frag) (G0 : Hp) (ι0 : List Addr) (J : It) (items : List D) (c : Src) : Prop := ∀ G ι st H, Same G0 G → (∃ t, ι = ι0 ++ t) → WH K G ι st H → c.ok st = true →
  (∀ i, items.length ≤ i → J.stop i H) ∧ ∀ i d, items[i]? = some d → J.go i H ∧ ∀ x H', J.yld i H x H' → ∃ G', Ext ι ι H H' G G' ∧ WH K G' ι st H' ∧ DV K G' ι x d
abbrev IM := DEnv → M (List D × Src)
section
variable (K : PySem.W.Frag) (T : CT) (W : WX)
def PostI (G : Hp) (ι : List Addr) (H : Hp) (r : R (List D × Src)) (E : XK) (Q : It → Hp → Prop) : Prop := match r with
  | .ok d st' => ∀ J G' ι' H', Ext ι ι' H H' G G' → WH K G' ι' st' H' → ItD K G' ι' J d.1 d.2 → Q J H'
  | .ex x st' => ∀ c dd G' ι' H', Ext ι ι' H H' G G' → WH K G' ι' st' H' → ExR K T G' ι' c dd x → E c dd H'
  | .bad => False
def iOf (m : IM) : TI := fun σ H Q => ∃ G ι st env, WH K G ι st H ∧ EnvR K T G ι σ env ∧ PostI K T G ι H (m env st) (fun c d H' => W c d σ H') Q
end
def DI (X : Cx) (T : CT) (W : WX) (tg e : Expr) (m : IM) : Prop := PI X tg e (iOf X.K T W m)
section
variable {X : Cx} {T : CT} {W : WX} {tg e : Expr} {m : EM} {pos : Pos}
theorem DI.of {t : TI} {m : IM} (h : PI X tg e t) (ht : ∀ σ H Q G ι st env, WH X.K G ι st H → EnvR X.K T G ι σ env → PostI X.K T G ι H (m env st) (fun c d H' => W c d σ H') Q → t σ H Q) : DI X T W tg e m :=
  ⟨fun pins s σ H Q I ⟨G, ι, st, env, w, r, p⟩ => h.run pins s σ H Q I (ht σ H Q G ι st env w r p)⟩
theorem PostI.bindE {K : PySem.W.Frag} {G : Hp} {ι : List Addr} {H : Hp} {st : Sto} {E : XK} {m : M D} {f : D → M (List D × Src)} {Q : It → Hp → Prop} {Q' : VK} (p : PostI K T G ι H (M.bind m f st) E Q)
    (h : ∀ d st1 v G1 ι1 H1, Ext ι ι1 H H1 G G1 → WH K G1 ι1 st1 H1 → DV K G1 ι1 v d → PostI K T G1 ι1 H1 (f d st1) E Q → Q' v H1) : PostE K T G ι H (m st) E Q' := by
  rw [M.bind_app] at p
  cases e : m st with
  | bad => rw [e] at p; exact p
  | ex x s => rw [e] at p; exact p
  | ok d s =>
    rw [e] at p
    dsimp only at p
    intro v G1 ι1 H1 x1 w1 r1
    refine h d s v G1 ι1 H1 x1 w1 r1 ?_
    cases e2 : f d s with
    | bad => rw [e2] at p; exact p
    | ex x s2 =>
      rw [e2] at p
      exact fun c dd G' ι' H' x2 w2 r2 => p c dd G' ι' H' (x1.cons w1 x2) w2 r2
    | ok d2 s2 =>
      rw [e2] at p
      exact fun J G' ι' H' x2 w2 r2 => p J G' ι' H' (x1.cons w1 x2) w2 r2
theorem PostI.bindA {K : PySem.W.Frag} {G : Hp} {ι : List Addr} {H : Hp} {st : Sto} {E : XK} {m : M (List D)} {f : List D → M (List D × Src)} {Q : It → Hp → Prop} {Q' : List V → Hp → Prop} (p : PostI K T G ι H (M.bind m f st) E Q)
    (h : ∀ d st1 v G1 ι1 H1, Ext ι ι1 H H1 G G1 → WH K G1 ι1 st1 H1 → DVs K G1 ι1 v d → PostI K T G1 ι1 H1 (f d st1) E Q → Q' v H1) : PostA K T G ι H (m st) E Q' := by
  rw [M.bind_app] at p
  cases e : m st with
  | bad => rw [e] at p; exact p
  | ex x s => rw [e] at p; exact p
  | ok d s =>
    rw [e] at p
    dsimp only at p
    intro v G1 ι1 H1 x1 w1 r1
    refine h d s v G1 ι1 H1 x1 w1 r1 ?_
    cases e2 : f d s with
    | bad => rw [e2] at p; exact p
    | ex x s2 =>
      rw [e2] at p
      exact fun c dd G' ι' H' x2 w2 r2 => p c dd G' ι' H' (x1.cons w1 x2) w2 r2
    | ok d2 s2 =>
      rw [e2] at p
      exact fun J G' ι' H' x2 w2 r2 => p J G' ι' H' (x1.cons w1 x2) w2 r2
/-- range(n) -/
def rngD (lo hi : Int) : List D := (List.range (hi - lo).toNat).map fun i => .int (lo + (i : Nat))
def small62 (i : Int) : Bool := decide (-(2 ^ 62) ≤ i) && decide (i < 2 ^ 62)
theorem small62_lt {i : Int} (h : small62 i = true) : -(2 ^ 62) ≤ i ∧ i < 2 ^ 62 := by
  unfold small62 at h
  simpa using h
theorem itd_range {K : PySem.W.Frag} {G : Hp} {ι : List Addr} (lo hi : Int) : ItD K G ι (Itr lo (hi - lo).toNat) (rngD lo hi) none := fun G1 ι1 st H sm pre w _ => by
  refine ⟨fun i hi' => ?_, fun i d hd => ?_⟩
  · show (hi - lo).toNat ≤ i
    unfold rngD at hi'
    simpa using hi'
  · unfold rngD at hd
    rw [List.getElem?_map] at hd
    by_cases hl : i < (hi - lo).toNat
    · rw [List.getElem?_range hl] at hd
      cases hd
      refine ⟨hl, fun x H' y => ?_⟩
      obtain ⟨e1, e2⟩ := y
      subst e1 e2
      exact ⟨G1, .refl, w, .int _⟩
    · rw [List.getElem?_eq_none (by simpa using hl)] at hd
      cases hd
def iRange1 (m : EM) : IM := fun env => M.bind (m env) fun d => M.opt (match d with
  | .int j => if small62 j then some (rngD 0 j, none) else none
  | _ => none)
def iRange2 (ma mb : EM) : IM := fun env => M.bind (ma env) fun x => M.bind (mb env) fun y => M.opt (match x, y with
  | .int i, .int j => if small62 i && small62 j then some (rngD i j, none) else none
  | _, _ => none)
theorem di_range1 {a : Expr} {p : Pos} (hg : Gl X "range") (hm : X.mg "range" = none) (ha : DE X T W a m) (hs : starEach [a] X.env = [(false, eval a X.env)] := by rfl) (h1 : starEach (a :: []) X.env = (false, eval a X.env) :: starEach [] X.env := by rfl) : DI X T W tg (.Call (.Name "range" p) [a] [] pos) (iRange1 m) :=
  DI.of (pi_range1 hg hm (pa_cons ha pa_nil h1) hs) fun σ H Q G ι st env w r p => ⟨G, ι, st, env, w, r, PostI.bindE p fun d st1 v G1 ι1 H1 x1 w1 r1 p1 => by
    cases r1 with
    | int j =>
      dsimp only at p1
      by_cases hs : small62 j = true
      · rw [if_pos hs] at p1
        obtain ⟨h1, h2⟩ := small62_lt hs
        refine ⟨j, rfl, h1, h2, ?_⟩
        have z : ItD X.K G1 ι1 (Itr 0 (j - 0).toNat) (rngD 0 j) none := itd_range 0 j
        rw [Int.sub_zero] at z
        exact p1 _ G1 ι1 H1 .refl w1 z
      · rw [if_neg hs] at p1
        exact p1.elim
    | _ => exact p1.elim⟩
theorem di_range2 {a b : Expr} {mb : EM} {p : Pos} (hg : Gl X "range") (hm : X.mg "range" = none) (ha : DE X T W a m) (hb : DE X T W b mb) (hs : starEach [a, b] X.env = [(false, eval a X.env), (false, eval b X.env)] := by rfl) (hs2 : starEach [b] X.env = [(false, eval b X.env)] := by rfl)
    (h1 : starEach (a :: [b]) X.env = (false, eval a X.env) :: starEach [b] X.env := by rfl) (h2 : starEach (b :: []) X.env = (false, eval b X.env) :: starEach [] X.env := by rfl) : DI X T W tg (.Call (.Name "range" p) [a, b] [] pos) (iRange2 m mb) :=
  DI.of (pi_range2 hg hm (pa_cons ha (pa_cons hb pa_nil h2) h1) hs hs2) fun σ H Q G ι st env w r p => ⟨G, ι, st, env, w, r, PostI.bindE p fun d st1 v G1 ι1 H1 x1 w1 r1 p1 =>
    ⟨G1, ι1, st1, env, w1, r.mono x1, PostI.bindE p1 fun d2 st2 v2 G2 ι2 H2 x2 w2 r2 p2 => by
      cases r1 with
      | int i =>
        cases r2 with
        | int j =>
          dsimp only at p2
          by_cases hs : (small62 i && small62 j) = true
          · rw [if_pos hs] at p2
            rw [Bool.and_eq_true] at hs
            obtain ⟨h1, h2⟩ := small62_lt hs.1
            obtain ⟨h3, h4⟩ := small62_lt hs.2
            exact ⟨i, j, rfl, ⟨h1, h2, h3, h4⟩, p2 _ G2 ι2 H2 .refl w2 (itd_range i j)⟩
          · rw [if_neg hs] at p2
            exact p2.elim
        | _ => exact p2.elim
      | _ => exact p2.elim⟩⟩
/-- a tuple; a list, wherever it stands -/
def srcOf : D → List D → Src
  | .cell n, xs => some (n, xs)
  | _, _ => none
def iSeqT (m : EM) : IM := fun env => M.bind (m env) fun d => M.opt ((tupOf d).map fun xs => (xs, none))
def iSeqL (m : EM) : IM := fun env => M.bind (m env) fun d => M.rd fun st => (lstOf st d).map fun xs => (xs, srcOf d xs)
theorem di_tup (ha : DE X T W e m) : DI X T W tg e (iSeqT m) :=
  DI.of (pi_tup ha) fun σ H Q G ι st env w r p => ⟨G, ι, st, env, w, r, PostI.bindE p fun d st1 v G1 ι1 H1 x1 w1 r1 p1 => by
    cases r1 with
    | @tup a xs ds q hs =>
      refine ⟨a, rfl, ⟨xs, w1.same.tup q⟩, p1 _ G1 ι1 H1 .refl w1 fun G2 ι2 st2 H2 sm pre w2 _ => ⟨fun i hi => ⟨xs, w2.same.tup (sm.tup q), by rw [hs.length]; exact hi⟩, fun i d hd => ?_⟩⟩
      obtain ⟨v, h1, h2⟩ := hs.get hd
      refine ⟨⟨xs, v, w2.same.tup (sm.tup q), h1⟩, fun x H' y => ?_⟩
      obtain ⟨e1, e2⟩ := y
      subst e1
      have e3 := e2 xs (w2.same.tup (sm.tup q))
      rw [h1] at e3
      cases e3
      exact ⟨G2, .refl, w2, h2.mono sm pre⟩
    | _ => exact p1.elim⟩
theorem di_lst (ha : DE X T W e m) : DI X T W tg e (iSeqL m) :=
  DI.of (pi_list ha) fun σ H Q G ι st env w r p => ⟨G, ι, st, env, w, r, PostI.bindE p fun d st1 v G1 ι1 H1 x1 w1 r1 p1 => by
    have fin : ∀ {a : Addr} {vs : List V} {ds : List D} {c : Src}, (∃ xs, SqL X.K H1 a xs) → (∀ G2 ι2 st2 H2, Same G1 G2 → (∃ t, ι2 = ι1 ++ t) → WH X.K G2 ι2 st2 H2 → c.ok st2 = true → ∃ vs, SqL X.K H2 a vs ∧ DVs X.K G2 ι2 vs ds) →
        PostI X.K T G1 ι1 H1 (.ok (ds, c) st1) (fun c d H' => W c d σ H') Q → v = .ref a → ∃ a, v = .ref a ∧ (∃ xs, SqL X.K H1 a xs) ∧ Q (Itl X.K a) H1 := fun {a vs ds c} hx h p2 e => by
      refine ⟨a, e, hx, p2 _ G1 ι1 H1 .refl w1 fun G2 ι2 st2 H2 sm pre w2 ok => ?_⟩
      obtain ⟨vs, q, hs⟩ := h G2 ι2 st2 H2 sm pre w2 ok
      refine ⟨fun i hi => ⟨vs, q, by rw [hs.length]; exact hi⟩, fun i d hd => ?_⟩
      obtain ⟨v, h1, h2⟩ := hs.get hd
      refine ⟨⟨vs, v, q, h1⟩, fun x H' y => ?_⟩
      obtain ⟨e1, e2⟩ := y
      subst e1
      have e3 := e2 vs q
      rw [h1] at e3
      cases e3
      exact ⟨G2, .refl, w2, h2⟩
    unfold M.rd at p1
    cases r1 with
    | @lst a xs ds q hs => exact fin (vs := xs) ⟨xs, .of (w1.same _ _ q)⟩ (fun G2 ι2 st2 H2 sm pre w2 _ => ⟨xs, .of (w2.same _ _ (sm _ _ q)), hs.mono sm pre⟩) p1 rfl
    | @scr a xs ds q hs => exact fin (vs := xs) ⟨xs, w1.same.seq q⟩ (fun G2 ι2 st2 H2 sm pre w2 _ => ⟨xs, w2.same.seq (sm.seq q), hs.mono sm pre⟩) p1 rfl
    | @cell n a q =>
      cases e2 : lstOf st1 (.cell n) with
      | none => dsimp only at p1; rw [e2] at p1; exact p1.elim
      | some ds =>
        dsimp only at p1
        rw [e2] at p1
        obtain ⟨b, vs, e3, h3, h4⟩ := lst_atS w1 (.cell q) e2
        cases e3
        refine fin (vs := vs) ⟨vs, h3⟩ (fun G2 ι2 st2 H2 sm pre w2 ok => ?_) p1 rfl
        have z : ∃ ws, H2 a = some (.lst ws) ∧ DVs X.K G2 ι2 ws ds := (w2.cells n a _ (ix_mono pre q) (Src.at_ ok)).2
        obtain ⟨ws, h5, h6⟩ := z
        exact ⟨ws, .of h5, h6⟩
    | _ => exact p1.elim⟩
end

/-! ## for -/
def forD (c : Src) (g : D → DEnv → Option DEnv) (b : SM) : List D → SM
  | [] => fun env st => if c.ok st then .nx env st else .bad
  | x :: xs => fun env st => if c.ok st then (match g x env with
    | none => .bad
    | some e1 => match b e1 st with
      | .nx e2 s2 => forD c g b xs e2 s2
      | .ct e2 s2 => forD c g b xs e2 s2
      | .bk e2 s2 => .nx e2 s2
      | .rt d s2 => .rt d s2
      | .ex y e2 s2 => .ex y e2 s2
      | .bad => .bad) else .bad
def sFor (i : IM) (g : D → DEnv → Option DEnv) (b : SM) : SM := fun env st => match i env st with
  | .ok d s => forD d.2 g b d.1 env s
  | .ex x s => .ex x env s
  | .bad => .bad
section
variable {X : Cx} {T : CT} {W : WX} {tg e : Expr} {body : List Stmt} {i : IM} {g : D → DEnv → Option DEnv} {vs : List Nat} {b : SM} {pos : Pos}
theorem ds_for (hp : PassesOwn (model X.prog X.w) X.A X.env X.xe) (hc : X.calm = true) (hi : DI X T W tg e i) (hg : DG X tg vs g) (hb : DSs X T W body b) (hs : ∀ x, foldedSetIterable e X.env x = pure x := by intro _; rfl) : DS X T W (.For tg e body [] pos) (sFor i g b) :=
  DS.of (ps_for hp hc hi (hg T) hb hs) fun Dd σ H G ι st env w r p => by
    refine ⟨G, ι, st, env, w, r, ?_⟩
    unfold sFor at p
    cases e1 : i env st with
    | bad => rw [e1] at p; exact p
    | ex x s => rw [e1] at p; exact fun c dd G' ι' H' x2 w2 r2 => p c dd σ G' ι' H' x2 w2 (r.mono x2) r2
    | ok ds s =>
      obtain ⟨items, c⟩ := ds
      rw [e1] at p
      intro J G1 ι1 H1 x1 w1 j1
      have p1 := PostS.later p x1 w1
      dsimp only at p1 j1
      refine ⟨fun n m σ H => n ≤ items.length ∧ m = items.length - n ∧ ∃ G ι st env, Same G1 G ∧ (∃ t, ι = ι1 ++ t) ∧ WH X.K G ι st H ∧ EnvR X.K T G ι σ env ∧ PostS X.K T W G ι H (forD c g b (items.drop n) env st) Dd,
        ⟨items.length, Nat.zero_le _, rfl, G1, ι1, s, env, fun _ _ h => h, ⟨[], by simp⟩, w1, r.mono x1, p1⟩, ?_⟩
      rintro n m σ2 H2 ⟨hn, hm, G2, ι2, st2, env2, sm, pre, w2, r2, p2⟩
      have ok : c.ok st2 = true := by
        cases h : c.ok st2 with
        | true => rfl
        | false =>
          cases h2 : items.drop n with
          | nil => rw [h2] at p2; unfold forD at p2; rw [h] at p2; exact p2.elim
          | cons x xs => rw [h2] at p2; unfold forD at p2; rw [h] at p2; exact p2.elim
      obtain ⟨js, jg⟩ := j1 G2 ι2 st2 H2 sm pre w2 ok
      cases h2 : items.drop n with
      | nil =>
        rw [h2] at p2
        unfold forD at p2
        rw [if_pos ok] at p2
        have hl : items.length ≤ n := by
          have := congrArg List.length h2
          rw [List.length_drop] at this
          simp at this
          omega
        exact .inl ⟨js n hl, p2.nx w2 r2⟩
      | cons x xs =>
        rw [h2] at p2
        unfold forD at p2
        rw [if_pos ok] at p2
        have hx : items[n]? = some x := by
          have := congrArg (·[0]?) h2
          simpa using this
        have hlt : n < items.length := (List.getElem?_eq_some_iff.mp hx).1
        have hxs : items.drop (n + 1) = xs := by
          have := congrArg (List.drop 1) h2
          rw [List.drop_drop] at this
          simpa [Nat.add_comm] using this
        obtain ⟨go, yl⟩ := jg n x hx
        refine .inr ⟨go, fun σ' H' => ∃ G ι st env, Same G1 G ∧ (∃ t, ι = ι1 ++ t) ∧ WH X.K G ι st H' ∧ EnvR X.K T G ι σ' env ∧ PostS X.K T W G ι H' (forD c g b xs env st) Dd, ?_, ?_⟩
        · rintro σ' H' ⟨G3, ι3, st3, env3, sm3, pre3, w3, r3, p3⟩
          refine ⟨items.length - (n + 1), by omega, hlt, rfl, G3, ι3, st3, env3, sm3, pre3, w3, r3, ?_⟩
          rw [hxs]
          exact p3
        · intro v H3 y
          obtain ⟨G3, x3, w3, r3⟩ := yl v H3 y
          refine ⟨G3, ι2, st2, env2, x, w3, r2.mono x3, r3, ?_⟩
          cases e2 : g x env2 with
          | none => rw [e2] at p2; exact p2.elim
          | some env3 =>
            rw [e2] at p2
            dsimp only at p2
            intro σ3 rr _ _
            refine ⟨G3, ι2, st2, env3, w3, rr, ?_⟩
            have p3 := PostS.later p2 x3 w3
            have sm3 : Same G1 G3 := sm.trans x3.sm
            have again : ∀ {e4 : DEnv} {s4 : Sto}, PostS X.K T W G3 ι2 H3 (forD c g b xs e4 s4) Dd → ∀ σ G' ι' H', Ext ι2 ι' H3 H' G3 G' → WH X.K G' ι' s4 H' → EnvR X.K T G' ι' σ e4 →
                ∃ G ι st env, Same G1 G ∧ (∃ t, ι = ι1 ++ t) ∧ WH X.K G ι st H' ∧ EnvR X.K T G ι σ env ∧ PostS X.K T W G ι H' (forD c g b xs env st) Dd := fun {e4 s4} p4 σ G' ι' H' x4 w4 r4 => by
              refine ⟨G', ι', s4, e4, sm3.trans x4.sm, ?_, w4, r4, PostS.later p4 x4 w4⟩
              obtain ⟨t, e5⟩ := pre
              obtain ⟨t', e6⟩ := x4.pre
              exact ⟨t ++ t', by rw [e6, e5, List.append_assoc]⟩
            cases e4 : b env3 st2 with
            | bad => rw [e4] at p3; exact p3
            | ex y e5 s5 => rw [e4] at p3; exact p3
            | rt d s5 => rw [e4] at p3; exact p3
            | bk e5 s5 => rw [e4] at p3; exact p3
            | nx e5 s5 => rw [e4] at p3; exact again p3
            | ct e5 s5 => rw [e4] at p3; exact again p3

/-! ## while -/
def whileD (c : BM) (b : SM) : Nat → SM
  | 0 => fun _ _ => .bad
  | n + 1 => sB c fun k env st => if k = true then (match b env st with
    | .nx e2 s2 => whileD c b n e2 s2
    | .ct e2 s2 => whileD c b n e2 s2
    | .bk e2 s2 => .nx e2 s2
    | .rt d s2 => .rt d s2
    | .ex y e2 s2 => .ex y e2 s2
    | .bad => .bad) else .nx env st
theorem ds_while {c : Expr} {k : BM} (n : Nat) (hp : PassesOwn (model X.prog X.w) X.A X.env X.xe) (hc : DT X T W c k) (hb : DSs X T W body b) : DS X T W (.While c body [] pos) (whileD k b n) :=
  DS.of (ps_while hp hc hb) fun Dd σ H G ι st env w r p => by
    refine ⟨fun m σ H => ∃ G ι st env, WH X.K G ι st H ∧ EnvR X.K T G ι σ env ∧ PostS X.K T W G ι H (whileD k b m env st) Dd, ⟨n, G, ι, st, env, w, r, p⟩, ?_⟩
    rintro m σ1 H1 ⟨G1, ι1, st1, env1, w1, r1, p1⟩
    cases m with
    | zero => exact p1.elim
    | succ m =>
      refine ⟨G1, ι1, st1, env1, w1, r1, PostS.bindB r1 p1 fun d st2 G2 ι2 H2 x2 w2 p2 => ?_⟩
      cases d with
      | false => exact p2.nx w2 (r1.mono x2)
      | true =>
        rw [if_pos rfl] at p2 ⊢
        refine ⟨fun σ' H' => ∃ G ι st env, WH X.K G ι st H' ∧ EnvR X.K T G ι σ' env ∧ PostS X.K T W G ι H' (whileD k b m env st) Dd, fun σ' H' z => ⟨m, Nat.lt_succ_self _, z⟩, G2, ι2, st2, env1, w2, r1.mono x2, ?_⟩
        cases e4 : b env1 st2 with
        | bad => rw [e4] at p2; exact p2
        | ex y e5 s5 => rw [e4] at p2; exact p2
        | rt d s5 => rw [e4] at p2; exact p2
        | bk e5 s5 => rw [e4] at p2; exact p2
        | nx e5 s5 => rw [e4] at p2; exact fun σ G' ι' H' x4 w4 r4 => ⟨G', ι', s5, e5, w4, r4, PostS.later p2 x4 w4⟩
        | ct e5 s5 => rw [e4] at p2; exact fun σ G' ι' H' x4 w4 r4 => ⟨G', ι', s5, e5, w4, r4, PostS.later p2 x4 w4⟩
end
end L3
namespace L3
open PySem PySem.Spec PyProof.Rows L2

/-! ## List comprehensions -/
def forget (env : DEnv) (vs : List Nat) : DEnv := vs.foldr (fun v en => en.set v none) env
/-- nothing is let out -/
def M.nox {α : Type} (m : M α) : M α := fun st => match m st with
  | .ok a s => .ok a s
  | _ => .bad
theorem M.nox_ok {α : Type} {m : M α} {st s : Sto} {a : α} (h : m st = .ok a s) : M.nox m st = .ok a s := by unfold M.nox; rw [h]
/-- the items made, one behind the other -/
def lcD (c : Src) (g : D → DEnv → Option DEnv) (t : BM) (el : EM) (env : DEnv) : List D → List D → M (List D)
  | [], acc => fun st => if c.ok st then .ok acc st else .bad
  | x :: xs, acc => fun st => if c.ok st then (match g x env with
    | none => .bad
    | some e1 => M.bind (M.nox (t e1)) (fun k => if k = true then M.bind (M.nox (el e1)) (fun y => if decide (acc.length < 16777216) then lcD c g t el env xs (acc ++ [y]) else M.bad) else lcD c g t el env xs acc) st) else .bad
def eLc (i : IM) (vs : List Nat) (g : D → DEnv → Option DEnv) (t : BM) (el : EM) : EM := fun env => M.bind (i env) fun d => M.bind (lcD d.2 g t el (forget env vs) d.1 []) fun xs => M.pure (.lst xs)
def bYes : BM := fun _ => M.pure true
theorem wipe_of {σ σ2 : L2.St} {vs : List Nat} (hl : σ2.length = σ.length) (h : ∀ j, j ∉ vs → σ2[j]? = (L2.wipe σ vs)[j]?) : L2.wipe σ2 vs = L2.wipe σ vs := by
  have len : ∀ σ : L2.St, (L2.wipe σ vs).length = σ.length := fun σ => L2.wipe_length σ vs
  have inn : ∀ (ws : List Nat) (σ : L2.St) (j : Nat), j ∈ ws → j < σ.length → (L2.wipe σ ws)[j]? = some none := by
    intro ws
    induction ws with
    | nil => intro σ j hj; cases hj
    | cons v ws ih =>
      intro σ j hj hlt
      unfold L2.wipe
      by_cases e : v = j
      · subst e
        rw [List.getElem?_set_self (by rw [L2.wipe_length]; exact hlt)]
      · rw [List.getElem?_set_ne e]
        rcases List.mem_cons.mp hj with z | z
        · exact absurd z.symm e
        · exact ih σ j z hlt
  have out : ∀ (ws : List Nat) (σ : L2.St) (j : Nat), j ∉ ws → (L2.wipe σ ws)[j]? = σ[j]? := by
    intro ws
    induction ws with
    | nil => intro σ j _; rfl
    | cons v ws ih =>
      intro σ j hj
      unfold L2.wipe
      rw [List.getElem?_set_ne (fun e => hj (by simp [e]))]
      exact ih σ j fun z => hj (List.mem_cons_of_mem _ z)
  refine List.ext_getElem? fun j => ?_
  by_cases hj : j ∈ vs
  · by_cases hlt : j < σ.length
    · rw [inn vs σ2 j hj (by rw [hl]; exact hlt), inn vs σ j hj hlt]
    · rw [List.getElem?_eq_none (by rw [len, hl]; omega), List.getElem?_eq_none (by rw [len]; omega)]
  · rw [out vs σ2 j hj, h j hj]
/-- what a comprehension's block may let out: nothing -/
abbrev W0 : WX := fun _ _ _ _ => False
section
variable {K : PySem.W.Frag} {T : CT} {G G1 : Hp} {ι ι1 : List Addr} {H H1 H2 : Hp} {st st1 : Sto} {E : XK}
/-- a thing apart is written -/
theorem WH.other (w : WH K G ι st H) {a : Addr} (hg : G a = none) (hi : a ∉ ι) (o : HO) : WH K G ι st (upd H a o) where
  same := fun b u h => by rw [upd_ne (ne_of_none h hg)]; exact w.same b u h
  len := w.len
  nd := w.nd
  there := fun b hb => by rw [upd_ne (fun e => hi (by rw [← e]; exact hb))]; exact w.there b hb
  cells := fun n b c h1 h2 => (w.cells n b c h1 h2).keep (fun _ _ h => h) ⟨[], by simp⟩ (fun g => g) fun o' e => by rw [upd_ne (fun e => hi (by rw [← e]; exact List.mem_of_getElem? h1))]; exact e
theorem Ext.other (x : Ext ι ι1 H H1 G G1) {a : Addr} (h : H a = none) (o : HO) : Ext ι ι1 H (upd H1 a o) G G1 :=
  ⟨fun b u hb hn => by rw [upd_ne (ne_of_none hb h)]; exact x.fr b u hb hn, x.sm, x.pre, x.new, x.gn⟩
/-- .. and then stands for good -/
theorem WH.still (w : WH K G ι st H) {a : Addr} (hg : G a = none) (hi : a ∉ ι) {o : HO} (h : H a = some o) : WH K (upd G a o) ι st H where
  same := fun b u hb => by
    by_cases e : b = a
    · subst e; rw [upd_same] at hb; cases hb; exact h
    · rw [upd_ne e] at hb; exact w.same b u hb
  len := w.len
  nd := w.nd
  there := w.there
  cells := fun n b c h1 h2 => (w.cells n b c h1 h2).keep (Same.upd_new hg) ⟨[], by simp⟩ (fun g => by rw [upd_ne (fun e => hi (by rw [← e]; exact List.mem_of_getElem? h1))]; exact g) fun o' e => e
theorem Ext.still (x : Ext ι ι1 H H1 G G1) {a : Addr} (h : H a = none) (hg : G1 a = none) (o : HO) : Ext ι ι1 H H1 G (upd G1 a o) :=
  ⟨x.fr, x.sm.trans (Same.upd_new hg), x.pre, x.new, fun b u hb => by
    by_cases e : b = a
    · subst e; exact .inr (.inl h)
    · rw [upd_ne e] at hb; exact x.gn b u hb⟩
end
section
variable {X : Cx} {T : CT} {W : WX} {tg elt iter : Expr} {ifs : List Expr} {scope : Scope} {own : List (Str × Nat)} {pos : Pos} {i : IM} {g : D → DEnv → Option DEnv} {t : BM} {el : EM}
/-- the reading of a comprehension's walk -/
theorem lc_read {vs : List Nat} {σ : L2.St} {H : Hp} {Q : VK} {G : Hp} {ι : List Addr} {st : Sto} {env : DEnv} (w : WH X.K G ι st H) (r : EnvR X.K T G ι σ env) (hv : ∀ j ∈ vs, T.fr j = true)
    (p : PostE X.K T G ι H (eLc i vs g t el env st) (fun c d H' => W c d σ H') Q) : tLc (iOf X.K T W i) (gOf X.K T vs g) (bOf X.K T W0 t) (tOf X.K T W0 el) vs σ H Q := by
  refine ⟨G, ι, st, env, w, r, ?_⟩
  unfold eLc at p
  rw [M.bind_app] at p
  cases e1 : i env st with
  | bad => rw [e1] at p; exact p
  | ex x s => rw [e1] at p; exact p
  | ok ds s =>
    obtain ⟨items, c⟩ := ds
    rw [e1] at p
    dsimp only at p
    intro J G1 ι1 H1 x1 w1 j1 Dl hD
    dsimp only at j1
    have p1 := PostE.later p x1 w1
    have gD : G1 Dl = none := w1.off hD
    have iD : Dl ∉ ι1 := fun z => w1.there Dl z hD
    refine ⟨fun n m H => n ≤ items.length ∧ m = items.length - n ∧ ∃ G ι st acc vacc, Ext ι1 ι H1 H G1 G ∧ WH X.K G ι st H ∧ G Dl = none ∧ Dl ∉ ι ∧ H Dl = some (.lst vacc) ∧ DVs X.K G ι vacc acc ∧
      PostE X.K T G1 ι1 H1 (M.bind (lcD c g t el (forget env vs) (items.drop n) acc) (fun xs => M.pure (.lst xs)) st) (fun c d H' => W c d σ H') Q,
      ⟨items.length, Nat.zero_le _, rfl, G1, ι1, s, [], [], Ext.other .refl hD _, w1.other gD iD _, gD, iD, upd_same, .nil, by rw [List.drop_zero]; exact p1⟩, ?_⟩
    rintro n m H2 ⟨hn, hm, G2, ι2, st2, acc, vacc, x2, w2, gd, di, hd, ra, p2⟩
    rw [M.bind_app] at p2
    have ok : c.ok st2 = true := by
      cases h : c.ok st2 with
      | true => rfl
      | false =>
        cases h2 : items.drop n with
        | nil => rw [h2] at p2; unfold lcD at p2; rw [h] at p2; exact p2.elim
        | cons x xs => rw [h2] at p2; unfold lcD at p2; rw [h] at p2; exact p2.elim
    obtain ⟨js, jg⟩ := j1 G2 ι2 st2 H2 x2.sm x2.pre w2 ok
    cases h2 : items.drop n with
    | nil =>
      rw [h2] at p2
      unfold lcD at p2
      rw [if_pos ok] at p2
      have hl : items.length ≤ n := by
        have := congrArg List.length h2
        rw [List.length_drop] at this
        simp at this
        omega
      exact .inl ⟨js n hl, p2 (.ref Dl) _ ι2 H2 (x2.still hD gd (.lst vacc)) (w2.still gd di hd) (.lst upd_same (ra.mono (Same.upd_new gd) ⟨[], by simp⟩))⟩
    | cons x xs =>
      rw [h2] at p2
      unfold lcD at p2
      rw [if_pos ok] at p2
      have hx : items[n]? = some x := by
        have := congrArg (·[0]?) h2
        simpa using this
      have hlt : n < items.length := (List.getElem?_eq_some_iff.mp hx).1
      have hxs : items.drop (n + 1) = xs := by
        have := congrArg (List.drop 1) h2
        rw [List.drop_drop] at this
        simpa [Nat.add_comm] using this
      obtain ⟨go, yl⟩ := jg n x hx
      refine .inr ⟨go, fun H' => ∃ G ι st acc vacc, Ext ι1 ι H1 H' G1 G ∧ WH X.K G ι st H' ∧ G Dl = none ∧ Dl ∉ ι ∧ H' Dl = some (.lst vacc) ∧ DVs X.K G ι vacc acc ∧
        PostE X.K T G1 ι1 H1 (M.bind (lcD c g t el (forget env vs) xs acc) (fun xs => M.pure (.lst xs)) st) (fun c d H' => W c d σ H') Q, ?_, ?_⟩
      · rintro H' ⟨G3, ι3, st3, acc3, vacc3, z⟩
        exact ⟨items.length - (n + 1), by omega, hlt, rfl, G3, ι3, st3, acc3, vacc3, by rw [hxs]; exact z⟩
      · intro v H3 y
        obtain ⟨G3, x3, w3, r3⟩ := yl v H3 y
        have gd3 : ∀ {G' : Hp} {ι' : List Addr} {H' : Hp}, Ext ι2 ι' H2 H' G2 G' → G' Dl = none ∧ Dl ∉ ι' ∧ H' Dl = some (.lst vacc) := fun {G' ι' H'} z => by
          refine ⟨?_, ?_, z.fr _ _ hd di⟩
          · cases q : G' Dl with
            | none => rfl
            | some o =>
              rcases z.gn _ _ q with z | z | z
              · rw [gd] at z; cases z
              · rw [hd] at z; cases z
              · exact absurd z di
          · intro q
            rcases z.new _ q with z | z
            · exact di z
            · rw [hd] at z; cases z
        cases e2 : g x (forget env vs) with
        | none => rw [e2] at p2; exact p2.elim
        | some env3 =>
          rw [e2] at p2
          dsimp only at p2
          refine ⟨G3, ι2, st2, forget env vs, x, w3, (EnvR.wipe ((r.mono (x1.cons w1 x2)).mono x3) vs hv), r3, ?_⟩
          rw [e2]
          intro σ3 rr hl hσ
          refine ⟨wipe_of (by rw [hl, L2.wipe_length]) hσ, G3, ι2, st2, env3, w3, rr, ?_⟩
          rw [M.bind_app] at p2
          unfold M.nox at p2
          cases e3 : t env3 st2 with
          | bad => rw [e3] at p2; exact p2.elim
          | ex y s3 => rw [e3] at p2; exact p2.elim
          | ok k s3 =>
            rw [e3] at p2
            dsimp only at p2
            intro G4 ι4 H4 x4 w4
            cases k with
            | false =>
              obtain ⟨a1, a2, a3⟩ := gd3 (x3.cons w3 x4)
              exact ⟨G4, ι4, s3, acc, vacc, x2.cons w2 (x3.cons w3 x4), w4, a1, a2, a3, (x3.cons w3 x4).dvs ra, p2⟩
            | true =>
              rw [if_pos rfl] at p2 ⊢
              refine ⟨G4, ι4, s3, env3, w4, rr.mono x4, ?_⟩
              rw [M.bind_app] at p2
              cases e4 : el env3 s3 with
              | bad => rw [e4] at p2; exact p2.elim
              | ex y s4 => rw [e4] at p2; exact p2.elim
              | ok y s4 =>
                rw [e4] at p2
                dsimp only at p2
                intro v5 G5 ι5 H5 x5 w5 r5
                have x25 := x3.cons w3 (x4.cons w4 x5)
                obtain ⟨a1, a2, a3⟩ := gd3 x25
                have hsz : acc.length < 16777216 := by
                  by_cases hz : acc.length < 16777216
                  · exact hz
                  · rw [if_neg (by simpa using hz)] at p2
                    exact p2.elim
                rw [if_pos (by simpa using hsz)] at p2
                have rv := x25.dvs ra
                refine ⟨vacc, a3, by rw [rv.length, sizeLine_eq]; exact hsz, G5, ι5, s4, acc ++ [y], vacc ++ [v5], (x2.cons w2 x25).other hD _, w5.other a1 a2 _, a1, a2, upd_same, rv.append (.cons r5 .nil), p2⟩
theorem de_lc (hc : X.calm = true) (hN : X.N.Nodup) (hi : DI X T W tg iter i) (ok : BlkOk X.N X.env.scope scope own)
    (hg : ∀ (s : Shared) (H : Hp) (C : Addr) (cl : List (Str × Addr)) (fp : List Addr), DG (X.blk s H scope (compEnvC scope cl C X.env) fp) tg (own.map (·.2)) g)
    (ht : ∀ (s : Shared) (H : Hp) (C : Addr) (cl : List (Str × Addr)) (fp : List Addr), PTs (X.blk s H scope (compEnvC scope cl C X.env) fp) ifs (bOf X.K T W0 t))
    (he : ∀ (s : Shared) (H : Hp) (C : Addr) (cl : List (Str × Addr)) (fp : List Addr), DE (X.blk s H scope (compEnvC scope cl C X.env) fp) T W0 elt el) (hs : ∀ x, foldedSetIterable iter X.env x = pure x := by intro _; rfl) (hv : ∀ j ∈ own.map (·.2), T.fr j = true := by intro _ _; rfl) :
    DE X T W (.ListComp elt [⟨tg, iter, ifs, 0⟩] scope pos) (eLc i (own.map (·.2)) g t el) :=
  DE.of (pe_lc (wi := iOf X.K T W i) (g := gOf X.K T (own.map fun p : Str × Nat => p.2) g) (tt := bOf X.K T W0 t) (te := tOf X.K T W0 el) hc hN hi ok (fun s H C cl fp => hg s H C cl fp T) ht he hs) fun σ H Q G ι st env w r p => lc_read w r hv p
/-- a block's tests -/
theorem dts_nil {Y : Cx} {K : PySem.W.Frag} (hk : Y.K = K := by rfl) : PTs Y [] (bOf K T W0 bYes) := by
  subst hk
  exact ⟨fun pins s σ H Q I ⟨G, ι, st, env, w, r, p⟩ => pts_nil.run pins s σ H Q I (p G ι H .refl w)⟩
theorem dts_one {Y : Cx} {K : PySem.W.Frag} {c : Expr} (h : DT Y T W0 c t) (hk : Y.K = K := by rfl) : PTs Y [c] (bOf K T W0 t) := by
  subst hk
  exact pts_one h
/-- x = [..] -/
theorem ds_setLc {j : Nat} {y : Str} {py spos : Pos} (hc : X.calm = true) (hN : X.N.Nodup) (hy : X.N[j]? = some y) (hyl : X.env.scope.names.lookup y = some .local)
    (hsw : swapsWith (.ListComp elt [⟨tg, iter, ifs, 0⟩] scope pos) (some (.Name y py)) spos.line X.env = pure true) (hi : DI X T W tg iter i) (ok : BlkOk X.N X.env.scope scope own)
    (hg : ∀ (s : Shared) (H : Hp) (C : Addr) (cl : List (Str × Addr)) (fp : List Addr), DG (X.blk s H scope (compEnvC scope cl C X.env) fp) tg (own.map (·.2)) g)
    (ht : ∀ (s : Shared) (H : Hp) (C : Addr) (cl : List (Str × Addr)) (fp : List Addr), PTs (X.blk s H scope (compEnvC scope cl C X.env) fp) ifs (bOf X.K T W0 t))
    (he : ∀ (s : Shared) (H : Hp) (C : Addr) (cl : List (Str × Addr)) (fp : List Addr), DE (X.blk s H scope (compEnvC scope cl C X.env) fp) T W0 elt el) (hs : ∀ x, foldedSetIterable iter X.env x = pure x := by intro _; rfl) (hv : ∀ j ∈ own.map (·.2), T.fr j = true := by intro _ _; rfl) :
    DS X T W (.Assign [.Name y py] (.ListComp elt [⟨tg, iter, ifs, 0⟩] scope pos) spos) (sSet j (eLc i (own.map (·.2)) g t el)) :=
  DS.of (ps_setLc (wi := iOf X.K T W i) (g := gOf X.K T (own.map fun p : Str × Nat => p.2) g) (tt := bOf X.K T W0 t) (te := tOf X.K T W0 el) hc hN hy hyl hsw hi ok (fun s H C cl fp => hg s H C cl fp T) ht he hs) fun Dd σ H G ι st env w r p => by
    refine lc_read w r hv ?_
    exact PostS.bindE r p fun d st1 v G1 ι1 H1 x1 w1 r1 p1 => p1.nx w1 ((r.mono x1).set r1 j)
end
end L3
namespace L3
open PySem PySem.Spec PyProof.Rows L2

/-! ## Defs, where nothing is being shown around (repr asks it) -/
structure RoomG (k : Nat) (A : Around) : Prop where
  r : Room k A
  g : A.guards = some []
theorem RoomG.mono {j k : Nat} {A : Around} (h : RoomG k A) (l : j ≤ k) : RoomG j A := ⟨h.r.mono l, h.g⟩
/-- what operations ask of where they stand; an except suite has it too -/
structure RoomS (A : Around) : Prop where
  un : A.units + 200 < cLine
  g : A.guards = some []
theorem RoomS.units {A : Around} (h : RoomS A) : A.units + 64 < cLine := by
  have := h.un
  omega
theorem RoomG.s {k : Nat} {A : Around} (h : RoomG k A) : RoomS A := ⟨by have := h.r.un; omega, h.g⟩
theorem RoomS.mark {A : Around} (h : RoomS A) (v : Option Value) : RoomS (A.mark v) := ⟨h.un, h.g⟩
def spD (K : PySem.W.Frag) (T : CT) (sem : List D → M D) : Sp := fun vs H Q E => ∃ G ι st ds, WH K G ι st H ∧ DVs K G ι vs ds ∧ PostE K T G ι H (sem ds st) E Q
structure FnG (P : Program) (w : World) (K : PySem.W.Frag) (mg : Str → Option Value) (base : Heap) (k : Nat) (f : Addr) (fd : FuncData) (ps : List Str) (sp : Sp) : Prop where
  len : ∀ vs H Q E, sp vs H Q E → vs.length = ps.length
  run : ∀ (A : Around) (outer : List Env) (s : Shared) (H : Hp) (args : Args) (us : List Value) (vs : List V) (Q : VK) (E : XK), RoomG k A → Env0 P w K mg base A outer s H →
    BindsTo s fd args (ps.zip us) → Vals vs us → sp vs H Q E → codeAny (model P w) A (.call (.ref f) args) (CR (L2.CX P w) outer P w H s Q E) s
abbrev FnD (P : Program) (w : World) (K : PySem.W.Frag) (mg : Str → Option Value) (base : Heap) (T : CT) (k : Nat) (f : Addr) (fd : FuncData) (ps : List Str) (sem : List D → M D) : Prop :=
  FnG P w K mg base k f fd ps (spD K T sem)
/-- the body b of a def with n parameters and l names -/
def funD (n l : Nat) (b : SM) : List D → M D := fun ds st => if ds.length = n then (match b (ds.map some ++ List.replicate (l - n) none) st with
  | .nx _ s => .ok .non s
  | .rt d s => .ok d s
  | .ex x _ s => .ex x s
  | _ => .bad) else .bad
theorem EnvR.start {K : PySem.W.Frag} {T : CT} {G : Hp} {ι : List Addr} {N : List Str} {vs : List V} {ds : List D} (hT : T.cur = none) (r : DVs K G ι vs ds) (hT2 : T.fn = none) : EnvR K T G ι (L2.start N vs) (ds.map some ++ List.replicate (N.length - ds.length) none) := by
  unfold L2.start
  refine ⟨by simp [r.length], fun i d h => ?_, ⟨(fun i a d fs h => by rw [hT] at h; cases h), (fun I h => by rw [hT2] at h; cases h)⟩⟩
  by_cases hi : i < ds.length
  · rw [List.getElem?_append_left (by simpa using hi), List.getElem?_map] at h
    cases e : ds[i]? with
    | none => rw [e] at h; cases h
    | some d' =>
      rw [e] at h
      cases h
      obtain ⟨v, h1, h2⟩ := r.get e
      refine ⟨v, ?_, h2⟩
      rw [List.getElem?_append_left (by simpa [r.length] using hi), List.getElem?_map, h1]
      rfl
  · rw [List.getElem?_append_right (by simpa using hi)] at h
    rw [List.getElem?_replicate] at h
    split at h <;> cases h
section
variable {P : Program} {w : World} {K : PySem.W.Frag} {mg : Str → Option Value} {base : Heap} {T : CT}
theorem fn_ok {x qual : Str} {st : Stmt} {f : Addr} {fd : FuncData} {N ps : List Str} {k : Nat} {b : SM} (F : Fun K x qual st f fd) (S : FnScope N ps (defScope st))
    (hb : ∀ (cdv : Value) (A : Around) (outer : List Env) (s : Shared) (H : Hp) (E : XK), RoomG k (A.deeper (envOfC qual (defScope st) s.heap.objs.size f cdv)) →
      DSs (cxOf (L2.CX P w) P w K mg base N qual (defScope st) f cdv A outer s H E) T (fun cls d _ H => E cls d H) (defBody st) b) {n l : Nat} (hn : ps.length = n := by rfl) (hl : N.length = l := by rfl) (hT : T.cur = none := by rfl) (hT2 : T.fn = none := by rfl) : FnD P w K mg base T (k + 1) f fd ps (funD n l b) := by
  subst hn hl
  obtain ⟨oc, od, kV, doc, pm, an, cdv, ct, osl, rfl, lk, hcd⟩ := F.ex
  have len : ∀ vs H Q E, spD K T (funD ps.length N.length b) vs H Q E → vs.length = ps.length := fun vs H Q E h => by
    obtain ⟨G, ι, st, ds, _, r, p⟩ := h
    unfold funD at p
    by_cases hl : ds.length = ps.length
    · rw [r.length]; exact hl
    · rw [if_neg hl] at p; exact p.elim
  refine ⟨len, fun A outer s H args us vs Q E hr e0 hbi rv hsp => ?_⟩
  have hl := len _ _ _ _ hsp
  -- the frame's names
  have KX : K.In s.heap := e0.mod.kin.keeps fun a o e => (e0.bs a o e).1
  have lim : s.heap.NoLimit := e0.mod.nolimit.keeps fun a o e => (e0.bs a o e).1
  have places : ∀ y ∈ ps.zip us, (defScope st).names.lookup y.1 = some .local ∨ ((defScope st).names.lookup y.1 = some .cell ∧
      ((cellsFrom (s.heap.objs.size + 1) (defScope st).names []).lookup y.1).isSome = true) := fun ⟨n, v⟩ hy =>
    (S.par n (List.of_mem_zip hy).1).elim .inl fun q => .inr ⟨q, PySem.W.cellsFrom_some _ _ _ (.inl q)⟩
  refine codeAny_call_function hr.r.depth (KX _ _ lk) rfl S.co S.gen rfl (PySem.W.codeRec_of KX hcd) (hbi _ _ _ _ ?_)
  refine wpAny_newFunctionEnv_cells S.kind places fun env he s1 x => ?_
  subst he
  refine ⟨lim.keeps x.toInCall.keep, codeAny_func ?_⟩
  have hbody := hb cdv A outer s H E ⟨hr.r.deeper _, hr.g⟩
  have I : Inv (cxOf (L2.CX P w) P w K mg base N qual (defScope st) f cdv A outer s H E) [] (L2.start N vs) H s1 := inv_start S hr.r.hd e0 hl rv x
  obtain ⟨G, ι, sto, ds, wh, r, p⟩ := hsp
  have hbs : sOf K T (fun cls d _ H => E cls d H) b { nx := fun _ H' => Q .non H', rt := Q } (L2.start N vs) H := by
    refine ⟨G, ι, sto, _, wh, EnvR.start hT r hT2, ?_⟩
    unfold funD at p
    by_cases hl : ds.length = ps.length
    · rw [if_pos hl, ← hl] at p
      cases e : b (ds.map some ++ List.replicate (N.length - ds.length) none) sto with
      | bad => rw [e] at p; exact p
      | bk _ _ => rw [e] at p; exact p.elim
      | ct _ _ => rw [e] at p; exact p.elim
      | ex y _ s2 => rw [e] at p; exact fun c dd σ G' ι' H' x2 w2 _ r2 => p c dd G' ι' H' x2 w2 r2
      | rt d s2 => rw [e] at p; exact fun v G' ι' H' x2 w2 r2 => p v G' ι' H' x2 w2 r2
      | nx _ s2 => rw [e] at p; exact fun σ G' ι' H' x2 w2 _ => p .non G' ι' H' x2 w2 .non
    · rw [if_neg hl] at p; exact p.elim
  refine wpAny_mono (hbody.run [] s1 (L2.start N vs) H _ I hbs) (fun fl s' hs => ?_) fun e s' hs => hs
  cases fl with
  | ret u =>
    obtain ⟨v, σ', H', J, rv', q⟩ := hs
    exact ⟨v, H', J.os, J.bare, J.base, J.hok, rv', q⟩
  | next =>
    obtain ⟨σ', H', J, q⟩ := hs
    exact ⟨.non, H', J.os, J.bare, J.base, J.hok, rfl, q⟩
  | brk => exact False.elim (let ⟨_, _, _, q⟩ := hs; q)
  | cont => exact False.elim (let ⟨_, _, _, q⟩ := hs; q)
theorem FnG.imp {k : Nat} {f : Addr} {fd : FuncData} {ps : List Str} {sp sp' : Sp} (F : FnG P w K mg base k f fd ps sp) (h : ∀ vs H Q E, sp' vs H Q E → sp vs H Q E) : FnG P w K mg base k f fd ps sp' :=
  ⟨fun vs H Q E q => F.len vs H Q E (h _ _ _ _ q), fun A outer s H args us vs Q E hr e0 hb hv hs => F.run A outer s H args us vs Q E hr e0 hb hv (h _ _ _ _ hs)⟩
theorem FnG.mono {j k : Nat} {f : Addr} {fd : FuncData} {ps : List Str} {sp : Sp} (F : FnG P w K mg base j f fd ps sp) (h : j ≤ k) : FnG P w K mg base k f fd ps sp :=
  ⟨F.len, fun A outer s H args us vs Q E hr => F.run A outer s H args us vs Q E (hr.mono h)⟩
/-- a def whose meaning is known under another name -/
theorem FnG.as {k : Nat} {f : Addr} {fd : FuncData} {ps : List Str} {sem sem' : List D → M D} (h : FnD P w K mg base T k f fd ps sem) (e : ∀ ds st, sem' ds st ≠ .bad → sem ds st = sem' ds st) : FnD P w K mg base T k f fd ps sem' :=
  h.imp fun vs H Q E ⟨G, ι, st, ds, wh, r, p⟩ => ⟨G, ι, st, ds, wh, r, by
    rw [e ds st]
    · exact p
    · intro z
      rw [z] at p
      exact p⟩
end
def eApp (sem : List D → M D) (a : AM) : EM := fun env => M.bind (a env) sem
section
variable {X : Cx} {T : CT} {W : WX} {e : Expr} {es : List Expr} {mas : AM} {pos p : Pos} {k : Nat} {f : Addr} {fd : FuncData} {ps : List Str} {sem : List D → M D} {x : Str}
theorem run_g {sp : Sp} {E : L2.St → XK} {pins : List (Addr × Obj)} {σ : L2.St} {H : Hp} {s : Shared} {Q : VK} {us : List Value} {vs : List V} (F : FnG X.prog X.w X.K X.mg X.base k f fd ps sp) (hr : RoomG k X.A) (hb : Binds X.K fd ps []) (hx : PassesAt (L2.CX X.prog X.w) X σ (E σ))
    (I : Inv X pins σ H s) (r : Vals vs us) (h : sp vs H Q (E σ)) : wpAny (model X.prog X.w) X.A (PySem.call (.ref f) us) (EP X pins σ Q) X.xe s := by
  have hl : us.length = ps.length := r.length.symm.trans (F.len _ _ _ _ h)
  have b := hb s us I.kIn (by rw [List.append_nil]; exact hl)
  rw [List.append_nil] at b
  refine wpAny_call (codeAny_mono (F.run X.A X.stack s H ⟨us, []⟩ us vs Q (E σ) hr I.env0 b r h) fun res s' hq => ?_)
  match res, hq with
  | .error e, hq => exact hx pins H s e s' I hq
  | .ok (.ret u), hq => exact I.after hq
  | .ok .next, hq => exact False.elim hq
  | .ok .brk, hq => exact False.elim hq
  | .ok .cont, hq => exact False.elim hq
theorem de_call (F : FnD X.prog X.w X.K X.mg X.base T k f fd ps sem) (hr : RoomG k X.A) (hg : Gl X x) (hm : X.mg x = some (.ref f)) (hk : PySem.W.keepIn X.K (.ref f) = true) (hb : Binds X.K fd ps []) (tk : Takes X W)
    (ha : DA X T W (e :: es) mas) (hdb : (x == ("__debug__" : Str)) = false := by decide) (he : starEach (e :: es) X.env = (false, eval e X.env) :: starEach es X.env := by rfl) (hpl : (backTo pos (starEach es X.env)).any (·.1) = false := by rfl) :
    DE X T W (.Call (.Name x p) (e :: es) [] pos) (eApp sem mas) := by
  refine ⟨fun pins s σ H Q I ⟨G, ι, st, env, w, r, q⟩ => ?_⟩
  refine wpAny_Call_Name_kw (ld_glob I hg hm ?_ hdb)
  refine PySem.W.callWith_K (h₀ := X.base) I.ok.mod.kin hk (thn (ha.run pos pins s σ H (fun vs H1 => spD X.K T sem vs H1 Q (WE W σ)) I ⟨G, ι, st, env, w, r, ?_⟩) fun us s1 ⟨vs, H1, I1, r1, q1⟩ => ⟨I1.kIn, ?_⟩) he hpl
  · exact PostE.bindA q fun ds st1 vs G1 ι1 H1 x1 w1 r1 p1 => ⟨G1, ι1, st1, ds, w1, r1, p1⟩
  · exact run_g (E := WE W) F hr hb (passAt tk σ) I1 r1 q1
theorem de_call0 (F : FnD X.prog X.w X.K X.mg X.base T k f fd ps sem) (hr : RoomG k X.A) (hg : Gl X x) (hm : X.mg x = some (.ref f)) (hk : PySem.W.keepIn X.K (.ref f) = true) (hb : Binds X.K fd ps []) (tk : Takes X W)
    (hdb : (x == ("__debug__" : Str)) = false := by decide) : DE X T W (.Call (.Name x p) [] [] pos) (fun _ => sem []) := by
  refine ⟨fun pins s σ H Q I ⟨G, ι, st, env, w, r, q⟩ => ?_⟩
  refine wpAny_Call_Name_kw (ld_glob I hg hm ?_ hdb)
  exact PySem.W.callWith_K0 I.kIn hk (run_g (us := []) (E := WE W) F hr hb (passAt tk σ) I .nil ⟨G, ι, st, [], w, .nil, q⟩)
end

/-! ## The end of a law -/
theorem law_sp {K : PySem.W.Frag} {T : CT} {sem : List D → M D} {n : Nat} (h : ∀ ns : List Int, ns.length ≤ n → ∃ st, sem [.scr (ns.map D.int)] [] = .ok (.bl true) st) (H : Hp) (a : Addr) (ns : List Int) (hl : ns.length ≤ n) (hS : SqL K H a (ns.map V.int)) :
    spD K T sem [.ref a] H (fun v _ => v = .bl true) fun _ _ _ => False := by
  obtain ⟨st, e⟩ := h ns hl
  refine ⟨H, [], [], [.scr (ns.map D.int)], ⟨fun _ _ h => h, rfl, by simp, by simp, fun n a c h1 => by simp at h1⟩, .cons (.scr hS ?_) .nil, ?_⟩
  · clear e hl hS
    induction ns with
    | nil => exact .nil
    | cons i r ih => exact .cons (.int i) ih
  · rw [e]
    intro v G' ι' H' x w r
    cases r
    rfl
section
variable {P : Program} {w : World} {K : PySem.W.Frag} {mg mb : Str → Option Value} {k : Nat} {fa a : Addr} {fd : FuncData} {x : Str} {sp : Sp} {s₁ : Shared} {vs : List Value} {ns : List Int}
/-- from a heap in which nothing but the script may be tracked -/
theorem law_core (KX : K.In s₁.heap) (hns : s₁.heap.Ns mainGlobals mg) (hb : s₁.heap.Ns builtinsNs mb) (hbb : ∀ x : Str, x ≠ "__name__" → mb x = bootBuiltins x) (hlim : s₁.heap.NoLimit) (hg : s₁.gens = #[])
    (ha : s₁.heap.get? a = some { cls := .type "list", data := .seq vs.toArray }) (hr : RoomG k callerA) (F : ∀ base : Heap, K.In base → base.Ns mainGlobals mg → FnG P w K mg base k fa fd [x] sp) (hbind : ∀ (s : Shared) (u : Value), BindsTo s fd ⟨[u], []⟩ [(x, u)])
    {H : Hp} (hq : sp [.ref a] H (fun v _ => v = .bl true) fun _ _ _ => False) (hO : Only H) (hok : HOk P w H s₁.heap) (hA : ∀ b u, H b = some u → b = a) (hK : ∀ u, H a = some u → K.lookup a = none) :
    codeAny (model P w) callerA (.call (.ref fa) ⟨[.ref a], []⟩) (fun r s' => r = .ok (.ret (.bool true)) ∧ OldK s₁.heap s'.heap ∧ s'.os = s₁.os ∧ AllBare s'.gens) s₁ := by
  have free : ∀ {b : Addr} {o : Obj}, s₁.heap.get? b = some o → (∀ vs n, o.data ≠ .seq vs n) → H b = none := fun {b o} e d => by
    cases q : H b with
    | none => rfl
    | some u =>
      have e' := hA b u q
      subst e'
      rw [ha] at e
      cases e
      exact absurd rfl (d _ _)
  have ns_ : ∀ {b : Addr} {m : Str → Option Value}, s₁.heap.Ns b m → (hidT s₁.heap H).Ns b m := fun {b m} ⟨o, es, ep, e, d, r⟩ =>
    ⟨o, es, ep, hidT_get e (free e fun vs n z => by rw [d] at z; cases z), d, r⟩
  have kin : K.In (hidT s₁.heap H) := fun b o e => hidT_get (KX b o e) (by
    cases q : H b with
    | none => rfl
    | some u =>
      have e' := hA b u q
      subst e'
      rw [hK u q] at e
      cases e)
  have md : Mod K mg (hidT s₁.heap H) := ⟨kin, ns_ hns, ⟨mb, ns_ hb, hbb⟩, let ⟨mc, h1, h2⟩ := hlim; ⟨mc, ns_ h1, h2⟩⟩
  have nol : ∀ {b : Addr}, b ∈ frs [] → False := fun {b} z => by cases z
  have e0 : Env0 P w K mg (hidT s₁.heap H) callerA [] s₁ H := ⟨rfl, md, fun b o e => of_hidT e, by rw [hidT_size]; exact Nat.le_refl _, trivial, fun b z => (nol z).elim, hok, .of_eq hg⟩
  refine codeAny_mono ((F _ kin (ns_ hns)).run callerA [] s₁ H ⟨[.ref a], []⟩ [.ref a] [.ref a] _ _ hr e0 (hbind s₁ (.ref a)) (.cons rfl .nil) hq) fun r s' h => ?_
  match r, h with
  | .error e, h =>
    obtain ⟨_, _, _, _, _, _, _, _, _, _, _, _, z⟩ := h
    exact z.elim
  | .ok .next, h => exact False.elim h
  | .ok .brk, h => exact False.elim h
  | .ok .cont, h => exact False.elim h
  | .ok (.ret u), h =>
    obtain ⟨v, H', os, bare, un, hok', r', q⟩ := h
    have ev : v = .bl true := q
    subst ev
    have eu : u = Value.bool true := r'
    subst eu
    refine ⟨rfl, OldK.of_keep fun b o e => ?_, os, bare⟩
    cases q2 : H b with
    | none => exact un.keep b o e q2 (fun z => nol z) (by simp)
    | some u =>
      rcases hO b with z | ⟨ob, xs, z⟩
      · rw [q2] at z; cases z
      · obtain ⟨e1, _⟩ := hok b _ z
        obtain ⟨e2, _⟩ := hok' b _ (un.frzs b ob _ z)
        rw [e] at e1
        cases e1
        exact e2
theorem law_callG (KX : K.In s₁.heap) (hns : s₁.heap.Ns mainGlobals mg) (hb : s₁.heap.Ns builtinsNs mb) (hbb : ∀ x : Str, x ≠ "__name__" → mb x = bootBuiltins x) (hlim : s₁.heap.NoLimit) (hg : s₁.gens = #[])
    (ha : s₁.heap.get? a = some { cls := .type "list", data := .seq vs.toArray }) (hi : IntsAre vs ns) (hl : ns.length ≤ sizeLine) (hr : RoomG k callerA) (F : ∀ base : Heap, K.In base → base.Ns mainGlobals mg → FnG P w K mg base k fa fd [x] sp)
    (hbind : ∀ (s : Shared) (u : Value), BindsTo s fd ⟨[u], []⟩ [(x, u)]) (hsp : ∀ H : Hp, Only H → SqL K H a (ns.map V.int) → sp [.ref a] H (fun v _ => v = .bl true) fun _ _ _ => False) :
    codeAny (model P w) callerA (.call (.ref fa) ⟨[.ref a], []⟩) (fun r s' => r = .ok (.ret (.bool true)) ∧ OldK s₁.heap s'.heap ∧ s'.os = s₁.os ∧ AllBare s'.gens) s₁ := by
  have rv := vals_ints hi
  have lenV := hi.length
  cases hk : K.lookup a with
  | some o =>
    have e := KX a o hk
    rw [ha] at e
    cases e
    have hS : SqL K (fun _ => none) a (ns.map V.int) := .inr ⟨_, vs.toArray, _, hk, rfl, rfl, rfl, by rw [List.size_toArray, lenV]; exact hl, by simpa using rv⟩
    have hO : Only (fun _ => none) := fun _ => .inl rfl
    exact law_core KX hns hb hbb hlim hg ha hr F hbind (hsp _ hO hS) hO (fun b u z => nomatch (show (none : Option HO) = some u from z)) (fun b u z => nomatch (show (none : Option HO) = some u from z)) (fun u z => nomatch (show (none : Option HO) = some u from z))
  | none =>
    let ob : Obj := { cls := .type "list", data := .seq vs.toArray }
    let H : Hp := fun b => if b = a then some (.frz ob (.lst (ns.map V.int))) else none
    have at_ : H a = some (.frz ob (.lst (ns.map V.int))) := if_pos rfl
    have off : ∀ b, b ≠ a → H b = none := fun b hb => if_neg hb
    have hA : ∀ b u, H b = some u → b = a := fun b u z => by
      by_cases e : b = a
      · exact e
      · rw [off b e] at z; cases z
    have hO : Only H := fun b => by
      by_cases e : b = a
      · exact .inr ⟨_, _, if_pos e⟩
      · exact .inl (off b e)
    refine law_core KX hns hb hbb hlim hg ha hr F hbind (hsp H hO (.inl (.inr ⟨ob, at_⟩))) hO (fun b u z => ?_) hA fun _ _ => hk
    have e := hA b u z
    subst e
    rw [at_] at z
    cases z
    exact ⟨ha, by rw [List.length_map]; exact hl, vs, _, rv, ha⟩
end
theorem law_walk {l : PySem.W.OpenLaw} {q : Program} {loose : List Str} {XP : (Str → Option Value) → Heap → Prop} {YP : World → Heap → Prop} {d : DefRec} {K : Params → PySem.W.Frag} {sem : List D → M D} {n k : Nat} {x : Str} (hn : l.most = some n) (hn2 : n ≤ sizeLine) (hdf : d.params.defaults = []) (hr : RoomG k callerA)
    (hY : ∀ (w : World) (h : Heap), YP w h → (K w.params).In h)
    (F : ∀ (w : World) (mg : Str → Option Value) (fa : Addr) (h : Heap), (K w.params).In h → h.Ns mainGlobals mg → mg d.name = some (.ref fa) →
      ∃ fd : FuncData, (∀ (s : Shared) (u : Value), BindsTo s fd ⟨[u], []⟩ [(x, u)]) ∧ ∃ T : CT, ∀ base : Heap, (K w.params).In base → base.Ns mainGlobals mg → FnD l.prog w (K w.params) mg base T k fa fd [x] sem)
    (h : ∀ ns : List Int, ns.length ≤ n → ∃ st, sem [.scr (ns.map D.int)] [] = .ok (.bl true) st) :
    PySem.W.WalkO q loose XP YP l.row.toRowW d [] (fun f vs => PySem.call f vs) := by
  refine Att.attach_call hn hdf fun w s₀ s₁ mg mb fa o pm cd doc a vs ns G Y ho hd hcd hmg hobj hints hlen hg => ?_
  have KX := hY w _ Y
  obtain ⟨fd, hb, T, hF⟩ := F w mg fa _ KX G.T.g hmg
  exact law_callG KX G.T.g G.T.b G.T.builtins G.T.nolimit hg hobj hints (Nat.le_trans hlen hn2) hr hF hb fun H hO hS => law_sp h H a ns hlen hS
end L3
namespace L3
open PySem PySem.Spec PyProof.Rows L2

/-! ## Operations upon data -/
section
variable {X : Cx}
/-! ints -/
def opII (C : Int → Int → Bool) (g : Int → Int → D) (x y : D) : Option D := match x, y with
  | .int i, .int j => if C i j then some (g i j) else none
  | _, _ => none
theorem opII_of {f : Value → Value → Sem Value} {C' : Int → Int → Prop} {g' : Int → Int → V} {C : Int → Int → Bool} {g : Int → Int → D} (h : OpR X f (rI C' g')) (hc : ∀ i j, C i j = true → C' i j) (hg : ∀ G ι i j, DV X.K G ι (g' i j) (g i j)) : OpD X f (fun _ => opII C g) :=
  OpD.of h fun G ι st H x y dx dy Q w hx hy p => by
    unfold opII at p
    cases hx with
    | int i =>
      cases hy with
      | int j =>
        dsimp only at p
        by_cases hz : C i j = true
        · rw [if_pos hz] at p
          exact ⟨i, j, rfl, rfl, hc i j hz, p.val w (hg G ι i j)⟩
        · rw [if_neg hz] at p
          exact p.elim
      | _ => exact p.elim
    | _ => exact p.elim
theorem opII0_of {f : Value → Value → Sem Value} {g' : Int → Int → V} {g : Int → Int → D} (h : OpR X f (rI0 g')) (hg : ∀ G ι i j, DV X.K G ι (g' i j) (g i j)) : OpD X f (fun _ => opII (fun _ _ => true) g) :=
  OpD.of h fun G ι st H x y dx dy Q w hx hy p => by
    unfold opII at p
    cases hx with
    | int i =>
      cases hy with
      | int j =>
        dsimp only at p
        rw [if_pos rfl] at p
        exact ⟨i, j, rfl, rfl, p.val w (hg G ι i j)⟩
      | _ => exact p.elim
    | _ => exact p.elim
def cT (_ _ : Int) : Bool := true
def mulOk (i j : Int) : Bool := decide (i.natAbs.log2 + j.natAbs.log2 < 1000000)
def divOk (_ j : Int) : Bool := decide (0 < j) && decide (j.natAbs.log2 < 9000)
def modOk (_ j : Int) : Bool := decide (0 < j)
def powOk (i j : Int) : Bool := decide (0 ≤ j) && decide (((i.natAbs.log2 : Int) + 1) * j ≤ 134217728)
def addI : D → D → Option D := opII (fun _ _ => true) fun i j => .int (i + j)
def subI : D → D → Option D := opII (fun _ _ => true) fun i j => .int (i - j)
def mulI : D → D → Option D := opII mulOk fun i j => .int (i * j)
def fdivI : D → D → Option D := opII divOk fun i j => .int (i / j)
def modI : D → D → Option D := opII modOk fun i j => .int (i % j)
def powI : D → D → Option D := opII powOk fun i j => .int (i ^ j.toNat)
theorem od_addI : OpD X (binaryOp .Add) (fun _ => addI) := opII0_of op_add fun _ _ _ _ => .int _
theorem od_subI : OpD X (binaryOp .Sub) (fun _ => subI) := opII0_of op_sub fun _ _ _ _ => .int _
theorem od_mulI : OpD X (binaryOp .Mult) (fun _ => mulI) := opII_of op_mulW (fun i j h => (of_decide_eq_true h : i.natAbs.log2 + j.natAbs.log2 < 1000000)) fun _ _ _ _ => .int _
theorem od_fdivI : OpD X (binaryOp .FloorDiv) (fun _ => fdivI) := opII_of op_fdivW (fun i j h => by
  have h' : (decide (0 < j) && decide (j.natAbs.log2 < 9000)) = true := h
  rw [Bool.and_eq_true, decide_eq_true_eq, decide_eq_true_eq] at h'
  exact h') fun _ _ _ _ => .int _
theorem od_modI : OpD X (binaryOp .Mod) (fun _ => modI) := opII_of op_mod (fun i j h => of_decide_eq_true h) fun _ _ _ _ => .int _
theorem od_powI : OpD X (binaryOp .Pow) (fun _ => powI) := fun pins s σ H x y v u Q I rx ry ⟨G, ι, st, dx, dy, w, hx, hy, p⟩ => by
  unfold powI opII at p
  cases hx with
  | int i =>
    cases hy with
    | int j =>
      dsimp only at p
      by_cases hz : powOk i j = true
      · rw [if_pos hz] at p
        obtain ⟨t, rfl⟩ := rx
        obtain ⟨t', rfl⟩ := ry
        have h' : (decide (0 ≤ j) && decide (((i.natAbs.log2 : Int) + 1) * j ≤ 134217728)) = true := hz
        rw [Bool.and_eq_true, decide_eq_true_eq, decide_eq_true_eq] at h'
        have hb : (Builtin.Int.intBits i : Int) ≤ (i.natAbs.log2 : Int) + 1 := by
          unfold Builtin.Int.intBits
          split <;> omega
        refine PyProof.Rows.pow_int h'.1 ?_ ⟨.int _, H, I.tok _, ⟨_, rfl⟩, p.val w (.int _)⟩
        exact Int.le_trans (Int.mul_le_mul_of_nonneg_right hb h'.1) h'.2
      · rw [if_neg hz] at p
        exact p.elim
    | _ => exact p.elim
  | _ => exact p.elim
def ltI : D → D → Option D := opII (fun _ _ => true) fun i j => .bl (decide (i < j))
def leI : D → D → Option D := opII (fun _ _ => true) fun i j => .bl (decide (i ≤ j))
def gtI : D → D → Option D := opII (fun _ _ => true) fun i j => .bl (decide (j < i))
def geI : D → D → Option D := opII (fun _ _ => true) fun i j => .bl (decide (j ≤ i))
theorem od_ltI : OpD X (compareOp .Lt) (fun _ => ltI) := opII0_of op_lt fun _ _ _ _ => .bl _
theorem od_leI : OpD X (compareOp .LtE) (fun _ => leI) := opII0_of op_le fun _ _ _ _ => .bl _
theorem od_gtI : OpD X (compareOp .Gt) (fun _ => gtI) := opII0_of op_gt fun _ _ _ _ => .bl _
theorem od_geI : OpD X (compareOp .GtE) (fun _ => geI) := opII0_of op_ge fun _ _ _ _ => .bl _
def negI : D → Option D
  | .int i => some (.int (-i))
  | _ => none
theorem ud_neg : UnD X (unaryOp .USub) (fun _ => negI) := UnD.of un_neg fun G ι st H x dx Q w hx p => by
  cases hx with
  | int i => exact ⟨i, rfl, p.val w (.int _)⟩
  | _ => exact p.elim
/-! texts -/
def opSS (g : Str → Str → Option D) (x y : D) : Option D := match x, y with
  | .str i, .str j => g i j
  | _, _ => none
def addS : D → D → Option D := opSS fun i j => if fits (i.length + j.length) then some (.str (i ++ j)) else none
theorem od_addS : OpD X (binaryOp .Add) (fun _ => addS) := OpD.of op_add_str fun G ι st H x y dx dy Q w hx hy p => by
  unfold addS opSS at p
  cases hx with
  | str i =>
    cases hy with
    | str j =>
      dsimp only at p
      by_cases hz : fits (i.length + j.length) = true
      · rw [if_pos hz] at p
        exact ⟨i, j, rfl, rfl, fits_line hz, p.val w (.str _)⟩
      · rw [if_neg hz] at p
        exact p.elim
    | _ => exact p.elim
  | _ => exact p.elim
theorem opSS_of {f : Value → Value → Sem Value} {g' : Str → Str → Bool} (h : OpR X f (fun x y H Q => ∃ i j, x = .str i ∧ y = .str j ∧ Q (.bl (g' i j)) H)) : OpD X f (fun _ => opSS fun i j => some (.bl (g' i j))) :=
  OpD.of h fun G ι st H x y dx dy Q w hx hy p => by
    unfold opSS at p
    cases hx with
    | str i =>
      cases hy with
      | str j => exact ⟨i, j, rfl, rfl, p.val w (.bl _)⟩
      | _ => exact p.elim
    | _ => exact p.elim
def ltS : D → D → Option D := opSS fun i j => some (.bl (decide (i.cps.toList < j.cps.toList)))
def leS : D → D → Option D := opSS fun i j => some (.bl (!decide (j.cps.toList < i.cps.toList)))
def gtS : D → D → Option D := opSS fun i j => some (.bl (decide (j.cps.toList < i.cps.toList)))
def geS : D → D → Option D := opSS fun i j => some (.bl (!decide (i.cps.toList < j.cps.toList)))
def inS : D → D → Option D := opSS fun i j => some (.bl (!(Builtin.Str.occurrences j i 0 j.length 1).isEmpty))
def notInS : D → D → Option D := opSS fun i j => some (.bl (!(!(Builtin.Str.occurrences j i 0 j.length 1).isEmpty)))
theorem od_ltS : OpD X (compareOp .Lt) (fun _ => ltS) := opSS_of op_lt_str
theorem od_leS : OpD X (compareOp .LtE) (fun _ => leS) := opSS_of op_le_str
theorem od_gtS : OpD X (compareOp .Gt) (fun _ => gtS) := opSS_of op_gt_str
theorem od_geS : OpD X (compareOp .GtE) (fun _ => geS) := opSS_of op_ge_str
theorem od_inS : OpD X (compareOp .In) (fun _ => inS) := opSS_of op_in_str
theorem od_notInS : OpD X (compareOp .NotIn) (fun _ => notInS) := opSS_of op_notin_str
/-! lists, tuples -/
def addT (x y : D) : Option D := match x, y with
  | .tup xs, .tup ys => if fits (xs.length + ys.length) then some (.tup (xs ++ ys)) else none
  | _, _ => none
theorem od_addT : OpD X (binaryOp .Add) (fun _ => addT) := OpD.of op_catA fun G ι st H x y dx dy Q w hx hy p => by
  unfold addT at p
  cases hx with
  | @tup a vs xs q hs =>
    cases hy with
    | @tup b ws ys q2 hs2 =>
      dsimp only at p
      by_cases hz : fits (xs.length + ys.length) = true
      · rw [if_pos hz] at p
        refine ⟨a, b, vs, ws, rfl, rfl, w.same.tup q, w.same.tup q2, by rw [hs.length, hs2.length]; exact fits_line hz, fun e => ?_, fun e e2 => ?_, fun e e2 l hl => ?_⟩
        · subst e
          cases hs
          exact p.val w (.tup q2 hs2)
        · subst e2
          cases hs2
          rw [List.append_nil] at p
          exact p.val w (.tup q hs)
        · exact p.fresh w hl (dv_tup w hl (hs.append hs2))
      · rw [if_neg hz] at p
        exact p.elim
    | _ => exact p.elim
  | _ => exact p.elim
def addL (st : Sto) (x y : D) : Option D := match slsOf st x, slsOf st y with
  | some xs, some ys => if fits (xs.length + ys.length) then some (.lst (xs ++ ys)) else none
  | _, _ => none
theorem od_addL : OpD X (binaryOp .Add) addL := OpD.of op_cat fun G ι st H x y dx dy Q w hx hy p => by
  unfold addL at p
  cases e1 : slsOf st dx with
  | none => rw [e1] at p; exact p.elim
  | some xs =>
    cases e2 : slsOf st dy with
    | none => rw [e1, e2] at p; exact p.elim
    | some ys =>
      rw [e1, e2] at p
      dsimp only at p
      obtain ⟨a, vs, e3, h3, r3⟩ := sls_at w hx e1
      obtain ⟨b, ws, e4, h4, r4⟩ := sls_at w hy e2
      by_cases hz : fits (xs.length + ys.length) = true
      · rw [if_pos hz] at p
        exact ⟨a, b, vs, ws, e3, e4, h3, h4, by rw [r3.length, r4.length]; exact fits_line hz, fun l hl => p.fresh w hl (dv_lst w hl (r3.append r4))⟩
      · rw [if_neg hz] at p
        exact p.elim
def addD (st : Sto) (x y : D) : Option D := orO (addI x y) (orO (addS x y) (orO (addT x y) (addL st x y)))
theorem od_add : OpD X (binaryOp .Add) addD := od_addI.or (od_addS.or (od_addT.or od_addL))
def repL (st : Sto) (x y : D) : Option D := match slsOf st x, y with
  | some xs, .int k => if decide (-(2 ^ 63) ≤ k) && (decide (k < 2 ^ 63) && fits (xs.length * k.toNat)) then some (.lst (List.replicate k.toNat xs).flatten) else none
  | _, _ => none
theorem DVs.flatten {K : PySem.W.Frag} {G : Hp} {ι : List Addr} {vs : List V} {ds : List D} (r : DVs K G ι vs ds) : ∀ n : Nat, DVs K G ι (List.replicate n vs).flatten (List.replicate n ds).flatten
  | 0 => .nil
  | n + 1 => by
    rw [List.replicate_succ, List.replicate_succ, List.flatten_cons, List.flatten_cons]
    exact r.append (DVs.flatten r n)
theorem od_repL : OpD X (binaryOp .Mult) repL := OpD.of op_rep fun G ι st H x y dx dy Q w hx hy p => by
  unfold repL at p
  cases e1 : slsOf st dx with
  | none => rw [e1] at p; exact p.elim
  | some xs =>
    rw [e1] at p
    obtain ⟨a, vs, e3, h3, r3⟩ := sls_at w hx e1
    cases hy with
    | int k =>
      dsimp only at p
      by_cases hz : (decide (-(2 ^ 63) ≤ k) && (decide (k < 2 ^ 63) && fits (xs.length * k.toNat))) = true
      · rw [if_pos hz] at p
        rw [Bool.and_eq_true, Bool.and_eq_true, decide_eq_true_eq, decide_eq_true_eq] at hz
        exact ⟨a, k, vs, e3, rfl, h3, hz.1, hz.2.1, by rw [r3.length]; exact fits_line hz.2.2, fun l hl => p.fresh w hl (dv_lst w hl (r3.flatten _))⟩
      · rw [if_neg hz] at p
        exact p.elim
    | _ => exact p.elim
def mulD (st : Sto) (x y : D) : Option D := orO (mulI x y) (repL st x y)
theorem od_mul : OpD X (binaryOp .Mult) mulD := od_mulI.or od_repL
end

/-! ## Data as the library's own -/
mutual
def D.py : D → Option PyData
  | .non => some .none
  | .bl b => some (.bool b)
  | .int i => some (.int i)
  | .str x => some (.str x)
  | .tup xs => (D.pys xs).map .tuple
  | .lst xs => (D.pys xs).map .list
  | .scr xs => (D.pys xs).map .list
  | .dic _ => none
  | .cell _ => none
def D.pys : List D → Option (List PyData)
  | [] => some []
  | x :: xs => (D.py x).bind fun p => (D.pys xs).map fun ps => p :: ps
end
def topPy (st : Sto) (d : D) : Option PyData := match d with
  | .cell n => (lstOf st (.cell n)).bind fun xs => (D.pys xs).map .list
  | d => d.py
section
variable {K : PySem.W.Frag} {G : Hp} {ι : List Addr} {H : Hp} {st : Sto}
mutual
theorem dp_of (w : Same G H) : ∀ {v : V} {d : D} {p : PyData}, DV K G ι v d → D.py d = some p → Dp K H v p
  | _, _, _, .non, h => by rw [D.py] at h; cases h; exact .non
  | _, _, _, .bl b, h => by rw [D.py] at h; cases h; exact .bl b
  | _, _, _, .int i, h => by rw [D.py] at h; cases h; exact .int i
  | _, _, _, .str x, h => by rw [D.py] at h; cases h; exact .str x
  | _, .tup xs, _, .tup q hs, h => by
    rw [D.py] at h
    cases e : D.pys xs with
    | none => rw [e] at h; cases h
    | some ps => rw [e] at h; cases h; exact .tup (w.tup q) (dps_of w hs e)
  | _, .lst xs, _, .lst q hs, h => by
    rw [D.py] at h
    cases e : D.pys xs with
    | none => rw [e] at h; cases h
    | some ps => rw [e] at h; cases h; exact .lst (.of (w _ _ q)) (dps_of w hs e)
  | _, .scr xs, _, .scr q hs, h => by
    rw [D.py] at h
    cases e : D.pys xs with
    | none => rw [e] at h; cases h
    | some ps => rw [e] at h; cases h; exact .lst (w.seq q) (dps_of w hs e)
  | _, _, _, .dic _ _, h => by rw [D.py] at h; cases h
  | _, _, _, .cell _, h => by rw [D.py] at h; cases h
theorem dps_of (w : Same G H) : ∀ {v : List V} {d : List D} {p : List PyData}, DVs K G ι v d → D.pys d = some p → DpAll K H v p
  | _, _, _, .nil, h => by rw [D.pys] at h; cases h; exact .nil
  | _, x :: xs, _, .cons r rs, h => by
    rw [D.pys] at h
    cases e : D.py x with
    | none => rw [e] at h; cases h
    | some p =>
      rw [e] at h
      cases e2 : D.pys xs with
      | none => rw [Option.bind_some, e2] at h; cases h
      | some ps => rw [Option.bind_some, e2] at h; cases h; exact .cons (dp_of w r e) (dps_of w rs e2)
end
theorem dp_top (w : WH K G ι st H) {v : V} {d : D} {p : PyData} (r : DV K G ι v d) (h : topPy st d = some p) : Dp K H v p := by
  cases d with
  | cell n =>
    unfold topPy at h
    dsimp only at h
    cases e : lstOf st (.cell n) with
    | none => rw [e] at h; cases h
    | some xs =>
      rw [e, Option.bind_some] at h
      cases e2 : D.pys xs with
      | none => rw [e2] at h; cases h
      | some ps =>
        rw [e2] at h
        cases h
        obtain ⟨a, vs, e3, h3, r3⟩ := lst_atS w r e
        rw [e3]
        have sm : DpAll K H vs ps := dps_of w.same r3 e2
        exact .lst h3 sm
  | _ => exact dp_of w.same r h
end
def eqP (st : Sto) (x y : D) : Option D := (topPy st x).bind fun p => (topPy st y).bind fun q => if SeqAt.shaped p && SeqAt.shaped q then some (.bl (PyData.eqv p q)) else none
def neP (st : Sto) (x y : D) : Option D := (topPy st x).bind fun p => (topPy st y).bind fun q => if SeqAt.shaped p && SeqAt.shaped q then some (.bl (!PyData.eqv p q)) else none
def reprD (st : Sto) (xs : List D) : Option D := match xs with
  | [x] => (topPy st x).bind fun p => if p.showable && (!p.hasDict && (decide (p.depth ≤ 64) && fits p.shown.length)) then some (.str p.shown) else none
  | _ => none
section
variable {X : Cx} {k : Nat}
theorem od_eqP (hr : RoomS X.A) : OpD X (compareOp .Eq) eqP := OpD.of (op_eqD hr.units) fun G ι st H x y dx dy Q w hx hy p => by
  unfold eqP at p
  cases e1 : topPy st dx with
  | none => rw [e1] at p; exact p.elim
  | some a =>
    cases e2 : topPy st dy with
    | none => rw [e1, e2] at p; exact p.elim
    | some b =>
      rw [e1, e2, Option.bind_some, Option.bind_some] at p
      by_cases hz : (SeqAt.shaped a && SeqAt.shaped b) = true
      · rw [if_pos hz] at p
        rw [Bool.and_eq_true] at hz
        exact ⟨a, b, dp_top w hx e1, dp_top w hy e2, hz.1, hz.2, p.val w (.bl _)⟩
      · rw [if_neg hz] at p
        exact p.elim
theorem od_neP (hr : RoomS X.A) : OpD X (compareOp .NotEq) neP := OpD.of (op_neD hr.units) fun G ι st H x y dx dy Q w hx hy p => by
  unfold neP at p
  cases e1 : topPy st dx with
  | none => rw [e1] at p; exact p.elim
  | some a =>
    cases e2 : topPy st dy with
    | none => rw [e1, e2] at p; exact p.elim
    | some b =>
      rw [e1, e2, Option.bind_some, Option.bind_some] at p
      by_cases hz : (SeqAt.shaped a && SeqAt.shaped b) = true
      · rw [if_pos hz] at p
        rw [Bool.and_eq_true] at hz
        exact ⟨a, b, dp_top w hx e1, dp_top w hy e2, hz.1, hz.2, p.val w (.bl _)⟩
      · rw [if_neg hz] at p
        exact p.elim
end
def eqS : D → D → Option D
  | .int i, .int j => some (.bl (decide (i = j)))
  | .str x, .str y => some (.bl (decide (x = y)))
  | _, _ => none
def neS : D → D → Option D
  | .int i, .int j => some (.bl (!decide (i = j)))
  | .str x, .str y => some (.bl (!decide (x = y)))
  | _, _ => none
theorem dec_int (i j : Int) : decide (V.int i = V.int j) = decide (i = j) := decide_eq_decide.mpr ⟨fun h => by cases h; rfl, fun h => by rw [h]⟩
theorem dec_str (i j : Str) : decide (V.str i = V.str j) = decide (i = j) := decide_eq_decide.mpr ⟨fun h => by cases h; rfl, fun h => by rw [h]⟩
theorem od_eqS {X : Cx} : OpD X (compareOp .Eq) (fun _ => eqS) := OpD.of op_eq fun G ι st H x y dx dy Q w hx hy p => by
  cases hx with
  | int i =>
    cases hy with
    | int j => exact ⟨rfl, by rw [L3.dec_int]; exact p.val w (.bl _)⟩
    | _ => exact p.elim
  | str i =>
    cases hy with
    | str j => exact ⟨rfl, by rw [L3.dec_str]; exact p.val w (.bl _)⟩
    | _ => exact p.elim
  | _ => exact p.elim
theorem od_neS {X : Cx} : OpD X (compareOp .NotEq) (fun _ => neS) := OpD.of op_ne fun G ι st H x y dx dy Q w hx hy p => by
  cases hx with
  | int i =>
    cases hy with
    | int j => exact ⟨rfl, by rw [L3.dec_int]; exact p.val w (.bl _)⟩
    | _ => exact p.elim
  | str i =>
    cases hy with
    | str j => exact ⟨rfl, by rw [L3.dec_str]; exact p.val w (.bl _)⟩
    | _ => exact p.elim
  | _ => exact p.elim
def eqD (st : Sto) (x y : D) : Option D := orO (eqS x y) (eqP st x y)
def neD (st : Sto) (x y : D) : Option D := orO (neS x y) (neP st x y)
theorem od_eq {X : Cx} (hr : RoomS X.A) : OpD X (compareOp .Eq) eqD := od_eqS.or (od_eqP hr)
theorem od_ne {X : Cx} (hr : RoomS X.A) : OpD X (compareOp .NotEq) neD := od_neS.or (od_neP hr)
section
variable {X : Cx} {k : Nat}
theorem cd_repr (hr : RoomS X.A) : CallD X (.builtin "repr") reprD := fun pins s σ H xs us Q I rx ⟨G, ι, st, ds, w, hx, p⟩ => by
  unfold reprD at p
  cases hx with
  | nil => exact p.elim
  | @cons v d vs ds r rs =>
    cases rs with
    | cons _ _ => exact p.elim
    | nil =>
      dsimp only at p
      cases e1 : topPy st d with
      | none => rw [e1] at p; exact p.elim
      | some a =>
        rw [e1, Option.bind_some] at p
        by_cases hz : (a.showable && (!a.hasDict && (decide (a.depth ≤ 64) && fits a.shown.length))) = true
        · rw [if_pos hz] at p
          rw [Bool.and_eq_true, Bool.and_eq_true, Bool.and_eq_true, decide_eq_true_eq] at hz
          obtain ⟨h1, h2, h3, h4⟩ := hz
          have nd : a.hasDict = false := by simpa using h2
          have hl := fits_line h4
          have fin : ∀ t : Nat, EP X pins σ Q (.str a.shown t) { s with toks := t + 1 } := fun t => ⟨.str _, H, I.tok _, ⟨_, rfl⟩, p.val w (.str _)⟩
          obtain ⟨u, rfl, ru⟩ := vals1 rx
          have dp := dp_top w r e1
          obtain ⟨as, rd⟩ := Dp.reads I a v u dp ru
          cases rd with
          | none => exact PySem.P.repr_of_none ⟨.str _, H, I.tok _, ⟨_, rfl⟩, p.val w (.str _)⟩
          | bool b => exact PySem.P.repr_of_bool ⟨.str _, H, I.tok _, ⟨_, rfl⟩, p.val w (.str _)⟩
          | int i t =>
            have hi : i.natAbs.log2 < 1920 := of_decide_eq_true h1
            exact PySem.P.repr_of_int hi ⟨.str _, H, I.tok _, ⟨_, rfl⟩, p.val w (.str _)⟩
          | str z t => exact PySem.P.repr_of_str ⟨.str _, H, I.tok _, ⟨_, rfl⟩, p.val w (.str _)⟩ hl
          | list a1 a2 a3 a4 =>
            refine repr_of_reads' (.list a1 a2 a3 a4) h1 (PyData.noDict_hsm nd) hr.g (by have := hr.un; omega) (fun b o e => e) (fun h' t tk hk => ?_) hl
            exact ⟨.str _, H, I.kept hk, ⟨_, rfl⟩, p.val w (.str _)⟩
          | tuple a1 a2 a3 a4 =>
            refine repr_of_reads' (.tuple a1 a2 a3 a4) h1 (PyData.noDict_hsm nd) hr.g (by have := hr.un; omega) (fun b o e => e) (fun h' t tk hk => ?_) hl
            exact ⟨.str _, H, I.kept hk, ⟨_, rfl⟩, p.val w (.str _)⟩
          | dict => cases nd
        · rw [if_neg hz] at p
          exact p.elim
end
end L3
namespace L3
open PySem PySem.Spec PyProof.Rows L2

/-! ## Items -/
section
variable {X : Cx} {T : CT} {W : WX} {k : Nat}
theorem atI_dvs {K : PySem.W.Frag} {G : Hp} {ι : List Addr} {vs : List V} {ds : List D} {i : Int} {d : D} (r : DVs K G ι vs ds) (h : atI ds i = some d) : ∃ v, atI vs i = some v ∧ DV K G ι v d := by
  unfold atI at h ⊢
  rw [r.length]
  cases e : ixN ds.length i with
  | none => rw [e] at h; cases h
  | some j => rw [e, Option.bind_some] at h; exact r.get h
def ixL (st : Sto) (x y : D) : Option D := match lstOf st x, y with
  | some xs, .int i => atI xs i
  | _, _ => none
theorem xd_ixL : IxD X ixL := IxD.of ix_list fun G ι st H x y dx dy Q w hx hy p => by
  unfold ixL at p
  cases e1 : lstOf st dx with
  | none => rw [e1] at p; exact p.elim
  | some xs =>
    rw [e1] at p
    obtain ⟨a, vs, e3, h3, r3⟩ := lst_atS w hx e1
    cases hy with
    | int i =>
      dsimp only at p
      cases e2 : atI xs i with
      | none => rw [e2] at p; exact p.elim
      | some d =>
        rw [e2] at p
        obtain ⟨v, e4, r4⟩ := atI_dvs r3 e2
        exact ⟨a, vs, i, v, e3, rfl, h3, e4, p.val w r4⟩
    | _ => exact p.elim
def ixT (x y : D) : Option D := match x, y with
  | .tup xs, .int i => atI xs i
  | _, _ => none
theorem xd_ixT : IxD X (fun _ => ixT) := IxD.of ix_tup fun G ι st H x y dx dy Q w hx hy p => by
  unfold ixT at p
  cases hx with
  | @tup a vs xs q hs =>
    cases hy with
    | int i =>
      dsimp only at p
      cases e2 : atI xs i with
      | none => rw [e2] at p; exact p.elim
      | some d =>
        rw [e2] at p
        obtain ⟨v, e4, r4⟩ := atI_dvs hs e2
        exact ⟨a, vs, i, v, rfl, rfl, w.same.tup q, e4, p.val w r4⟩
    | _ => exact p.elim
  | _ => exact p.elim
def ixS (x y : D) : Option D := match x, y with
  | .str z, .int i => if fits z.length then (atI z.cps.toList i).map fun c => .str ⟨#[c]⟩ else none
  | _, _ => none
theorem xd_ixS : IxD X (fun _ => ixS) := IxD.of ix_str fun G ι st H x y dx dy Q w hx hy p => by
  unfold ixS at p
  cases hx with
  | str z =>
    cases hy with
    | int i =>
      dsimp only at p
      by_cases hz : fits z.length = true
      · rw [if_pos hz] at p
        cases e2 : atI z.cps.toList i with
        | none => rw [e2] at p; exact p.elim
        | some c =>
          rw [e2] at p
          exact ⟨z, i, c, rfl, rfl, fits_line hz, e2, p.val w (.str _)⟩
      · rw [if_neg hz] at p
        exact p.elim
    | _ => exact p.elim
  | _ => exact p.elim
def ixD (st : Sto) (x y : D) : Option D := orO (ixT x y) (orO (ixL st x y) (ixS x y))
theorem xd_ix : IxD X ixD := xd_ixT.or (xd_ixL.or xd_ixS)

/-! ## o[i] = v -/
def setIx (st : Sto) (o i v : D) : Option Sto := match o, i with
  | .cell n, .int k => (match st[n]? with
    | some (.lst xs) => (ixN xs.length k).map fun j => st.set n (.lst (xs.set j v))
    | _ => none)
  | _, _ => none
def sSub (mo mi mv : EM) (g : Sto → D → D → D → Option Sto) : SM := sE mv fun v => sE mo fun o => sE mi fun i env st => match g st o i v with
  | some s => .nx env s
  | none => .bad
theorem ds_setL {o i e : Expr} {mo mi mv : EM} {tpos pos : Pos} (ho : DE X T W o mo) (hi : DE X T W i mi) (hv : DE X T W e mv)
    (ha : ∀ v, assign (.Subscript o i tpos) X.env v = (do
      let ov ← holding [v] (eval o X.env)
      let iv ← holding [v, ov] (eval i X.env)
      standAt tpos
      holding [v, ov, iv] (setItem ov iv v)
      release [v, ov, iv] []) := by intro _; rfl)
    (hs : swapsWithSole [.Subscript o i tpos] e pos.line X.env = pure false := by rfl) (hw : swappedStores [.Subscript o i tpos] e X.env = pure none := by rfl)
    (h1 : (assignEach [.Subscript o i tpos] X.env).map (·.2) = [assign (.Subscript o i tpos) X.env] := by rfl) : DS X T W (.Assign [.Subscript o i tpos] e pos) (sSub mo mi mv setIx) :=
  DS.of (ps_asg hv (pg_sub ho hi set_list ha) hs hw h1) fun Dd σ H G ι st env w r p => ⟨G, ι, st, env, w, r, PostS.bindE r p fun v st1 vv G1 ι1 H1 x1 w1 r1 p1 =>
    ⟨G1, ι1, st1, env, w1, r.mono x1, PostS.bindE (r.mono x1) p1 fun o st2 vo G2 ι2 H2 x2 w2 r2 p2 =>
      ⟨G2, ι2, st2, env, w2, (r.mono x1).mono x2, PostS.bindE ((r.mono x1).mono x2) p2 fun i st3 vi G3 ι3 H3 x3 w3 r3 p3 => by
        have ro := x3.dv r2
        have rv := x3.dv (x2.dv r1)
        have re := ((r.mono x1).mono x2).mono x3
        unfold setIx at p3
        cases ro with
        | @cell n a q =>
          cases r3 with
          | int k =>
            dsimp only at p3
            cases e1 : st3[n]? with
            | none => rw [e1] at p3; exact p3.elim
            | some c =>
              cases c with
              | dic _ => rw [e1] at p3; exact p3.elim
              | gone => rw [e1] at p3; exact p3.elim
              | tab _ => rw [e1] at p3; exact p3.elim
              | lst xs =>
                rw [e1] at p3
                dsimp only at p3
                cases e2 : ixN xs.length k with
                | none => rw [e2] at p3; exact p3.elim
                | some j =>
                  rw [e2] at p3
                  dsimp only [Option.map] at p3
                  have z : G3 a = none ∧ ∃ vs, H3 a = some (.lst vs) ∧ DVs X.K G3 ι3 vs xs := w3.cells n a _ q e1
                  obtain ⟨g, vs, e4, r4⟩ := z
                  refine ⟨a, vs, k, j, rfl, rfl, e4, by rw [r4.length]; exact e2, ?_⟩
                  have cr : CellR X.K G3 ι3 (upd H3 a (.lst (vs.set j vv))) a (.lst (xs.set j v)) := ⟨g, _, upd_same, DVs.set rv j r4⟩
                  have xx : Ext ι3 ι3 H3 (upd H3 a (.lst (vs.set j vv))) G3 G3 := WH.putExt q
                  exact p3 σ _ _ _ xx (w3.put q g cr) (re.mono xx)
          | _ => exact p3.elim
        | _ => exact p3.elim⟩⟩⟩
end

/-! ## Built-in functions -/
section
variable {X : Cx} {T : CT} {W : WX} {k : Nat}
def absD (_ : Sto) (xs : List D) : Option D := match xs with
  | [.int i] => some (.int (if i < 0 then -i else i))
  | _ => none
theorem one_int {K : PySem.W.Frag} {G : Hp} {ι : List Addr} {xs : List V} {i : Int} (h : DVs K G ι xs [.int i]) : xs = [.int i] := by
  cases h with
  | cons r rs => cases r; cases rs; rfl
theorem two_int {K : PySem.W.Frag} {G : Hp} {ι : List Addr} {xs : List V} {i j : Int} (h : DVs K G ι xs [.int i, .int j]) : xs = [.int i, .int j] := by
  cases h with
  | cons r rs =>
    cases r
    rw [one_int rs]
theorem cd_abs : CallD X (.builtin "abs") absD := CallD.of call_abs fun G ι st H xs ds Q w hx p => by
  unfold absD at p
  split at p
  · exact ⟨_, one_int hx, p.val w (.int _)⟩
  · exact p.elim
def maxD (_ : Sto) (xs : List D) : Option D := match xs with
  | [.int i, .int j] => some (.int (if j > i then j else i))
  | _ => none
def minD (_ : Sto) (xs : List D) : Option D := match xs with
  | [.int i, .int j] => some (.int (if j < i then j else i))
  | _ => none
theorem cd_max (hc : X.calm = true) : CallD X (.builtin "max") maxD := CallD.of (call_max2 hc) fun G ι st H xs ds Q w hx p => by
  unfold maxD at p
  split at p
  · exact ⟨_, _, two_int hx, p.val w (.int _)⟩
  · exact p.elim
theorem cd_min (hc : X.calm = true) : CallD X (.builtin "min") minD := CallD.of (call_min2 hc) fun G ι st H xs ds Q w hx p => by
  unfold minD at p
  split at p
  · exact ⟨_, _, two_int hx, p.val w (.int _)⟩
  · exact p.elim
def intD (_ : Sto) (xs : List D) : Option D := match xs with
  | [.int i] => some (.int i)
  | [.bl b] => some (.int (if b then 1 else 0))
  | _ => none
theorem cd_int : CallD X (.type "int") intD := CallD.of call_int1 fun G ι st H xs ds Q w hx p => by
  unfold intD at p
  split at p
  · exact .inl ⟨_, one_int hx, p.val w (.int _)⟩
  · cases hx with
    | cons r rs => cases r; cases rs; exact .inr ⟨_, rfl, p.val w (.int _)⟩
  · exact p.elim
def strI (_ : Sto) (xs : List D) : Option D := match xs with
  | [.int i] => if decide (i.natAbs.log2 < 1920) then some (.str (toString i)) else none
  | _ => none
theorem cd_strI : CallD X (.type "str") strI := CallD.of call_str_int fun G ι st H xs ds Q w hx p => by
  unfold strI at p
  split at p
  · rename_i i
    by_cases hz : i.natAbs.log2 < 1920
    · rw [if_pos (decide_eq_true hz)] at p
      exact ⟨_, one_int hx, hz, p.val w (.str _)⟩
    · rw [if_neg (by simpa using hz)] at p
      exact p.elim
  · exact p.elim
def lenD (st : Sto) (xs : List D) : Option D := match xs with
  | [.str z] => if fits z.length then some (.int z.length) else none
  | [.tup ys] => some (.int ys.length)
  | [x] => (lstOf st x).map fun ys => .int ys.length
  | _ => none
theorem cd_len : CallD X (.builtin "len") lenD := CallD.of call_len fun G ι st H xs ds Q w hx p => by
  unfold lenD at p
  split at p
  · rename_i z
    by_cases hz : fits z.length = true
    · rw [if_pos hz] at p
      cases hx with
      | cons r rs => cases r; cases rs; exact ⟨.str z, z.length, rfl, ⟨fits_line hz, rfl⟩, p.val w (.int _)⟩
    · rw [if_neg hz] at p
      exact p.elim
  · cases hx with
    | cons r rs =>
      cases rs
      cases r with
      | @tup a vs ys q hs => exact ⟨.ref a, vs.length, rfl, .inr ⟨vs, w.same.tup q, rfl⟩, by rw [hs.length]; exact p.val w (.int _)⟩
  · rename_i x _ _
    cases hx with
    | cons r rs =>
      cases rs
      cases e : lstOf st x with
      | none => rw [e] at p; exact p.elim
      | some ys =>
        rw [e] at p
        obtain ⟨a, vs, e3, h3, r3⟩ := lst_atS w r e
        subst e3
        exact ⟨.ref a, vs.length, rfl, .inl ⟨vs, h3, rfl⟩, by rw [r3.length]; exact p.val w (.int _)⟩
  · exact p.elim
/-! isinstance(x, T), T a built-in class -/
def tyN (st : Sto) : D → String
  | .non => "NoneType"
  | .bl _ => "bool"
  | .int _ => "int"
  | .str _ => "str"
  | .tup _ => "tuple"
  | .lst _ => "list"
  | .scr _ => "list"
  | .dic _ => "dict"
  | .cell n => match st[n]? with
    | some (.lst _) => "list"
    | some (.dic _) => "dict"
    | _ => ""
theorem tyx_of {K : PySem.W.Frag} {G : Hp} {ι : List Addr} {H : Hp} {st : Sto} (w : WH K G ι st H) {v : V} {d : D} (r : DV K G ι v d) (hn : tyN st d ≠ "") : TyX K H v (.type (tyN st d)) := by
  cases r with
  | non => exact .base .non
  | bl b => exact .base (.bl b)
  | int i => exact .base (.int i)
  | str x => exact .base (.str x)
  | tup q hs =>
    rcases w.same.tup q with (h | ⟨o, h⟩) | ⟨o, its, n, h1, h2, _⟩
    · exact .base (.tup h)
    · exact .fTuple h
    · exact .kTuple h1 h2
  | lst q hs => exact .base (.lst (w.same _ _ q))
  | scr q hs =>
    rcases w.same.seq q with (h | ⟨o, h⟩) | ⟨o, its, n, h1, h2, _⟩
    · exact .base (.lst h)
    · exact .base (.frz h)
    · exact .kList h1 h2
  | dic q hs => exact .base (.dK (w.same _ _ q))
  | @cell n a q =>
    unfold tyN at hn ⊢
    dsimp only at hn ⊢
    cases e : st[n]? with
    | none => rw [e] at hn; exact absurd rfl hn
    | some c =>
      rw [e] at hn
      cases c with
      | gone => exact absurd rfl hn
      | tab _ => exact absurd rfl hn
      | lst ds =>
        have z : ∃ vs, H a = some (.lst vs) ∧ DVs K G ι vs ds := (w.cells n a _ q e).2
        obtain ⟨vs, e1, _⟩ := z
        exact .base (.lst e1)
      | dic ds =>
        have z : ∃ vs, H a = some (.dK vs) ∧ DVk K G ι vs ds := (w.cells n a _ q e).2
        obtain ⟨vs, e1, _⟩ := z
        exact .base (.dK e1)
def eIsi (T' : String) (a : EM) : EM := fun env => M.bind (a env) fun x => M.rd fun st => if tyN st x = "" then none else (kitB (tyN st x) T').map .bl
theorem de_isi {x : Str} {T' : String} {a : Expr} {ma : EM} {p p2 pos : Pos} (hg : Gl X "isinstance") (hm : X.mg "isinstance" = none) (hv : bootBuiltins "isinstance" = some (.builtin "isinstance")) (ha : DE X T W a ma) (gT : Gl X x) (mT : X.mg x = none) (vT : bootBuiltins x = some (.type T')) (nT : x ≠ "__name__" := by decide) (dT : (x == ("__debug__" : Str)) = false := by decide)
    (hn : ("isinstance" : Str) ≠ "__name__" := by decide) (hdb : (("isinstance" : Str) == ("__debug__" : Str)) = false := by decide)
    (h1 : starEach (a :: [.Name x p2]) X.env = (false, eval a X.env) :: starEach [.Name x p2] X.env := by rfl) (h2 : starEach (.Name x p2 :: []) X.env = (false, eval (.Name x p2) X.env) :: starEach [] X.env := by rfl)
    (hpl : (backTo pos (starEach [.Name x p2] X.env)).any (·.1) = false := by rfl) : DE X T W (.Call (.Name "isinstance" p) [a, .Name x p2] [] pos) (eIsi T' ma) :=
  DE.of (pe_callB call_isi hg hm hv (pa_cons ha (pa_cons (pe_bltn (v := .ty T') gT mT vT rfl nT dT) pa_nil h2) h1) hn hdb h1 hpl) fun σ H Q G ι st env w r p => ⟨G, ι, st, env, w, r, p.bind fun d st1 v G1 ι1 H1 x1 w1 r1 p1 => by
    have p2 := p1.rd
    by_cases hz : tyN st1 d = ""
    · rw [if_pos hz] at p2
      exact p2.elim
    · rw [if_neg hz] at p2
      cases e : kitB (tyN st1 d) T' with
      | none => rw [e] at p2; exact p2.elim
      | some b =>
        rw [e] at p2
        exact ⟨v, .ty T', _, _, b, rfl, .ty T', tyx_of w1 r1 hz, kit_ty e, p2.val w1 (.bl b)⟩⟩
end
/-- a module's own number -/
theorem de_globI {X : Cx} {T : CT} {W : WX} {x : Str} {i : Int} {tk : Tok} {pos : Pos} (hg : Gl X x) (hm : X.mg x = some (.int i tk)) (hd : (x == ("__debug__" : Str)) = false := by decide) : DE X T W (.Name x pos) (eC (.int i)) := de_c (pe_glob (v := .int i) hg hm ⟨tk, rfl⟩ hd) fun _ _ => .int i
theorem de_globS {X : Cx} {T : CT} {W : WX} {x : Str} {z : Str} {tk : Tok} {pos : Pos} (hg : Gl X x) (hm : X.mg x = some (.str z tk)) (hd : (x == ("__debug__" : Str)) = false := by decide) : DE X T W (.Name x pos) (eC (.str z)) := de_c (pe_glob (v := .str z) hg hm ⟨tk, rfl⟩ hd) fun _ _ => .str z
theorem de_globT {X : Cx} {T : CT} {W : WX} {x : Str} {a : Addr} {vs : List V} {ds : List D} {pos : Pos} (hg : Gl X x) (hm : X.mg x = some (.ref a)) (q : ∀ G, SqT X.K G a vs) (r : ∀ G ι, DVs X.K G ι vs ds) (hd : (x == ("__debug__" : Str)) = false := by decide) : DE X T W (.Name x pos) (eC (.tup ds)) :=
  de_c (pe_glob hg hm (v := .ref a) rfl hd) fun G ι => .tup (q G) (r G ι)

/-! ## Dict displays (at most fifteen entries) -/
def keyOf : D → Option Key
  | .int i => some (.inl i)
  | .str x => some (.inr x)
  | _ => none
def putKD (kvs : List (Key × D)) (k : Key) (v : D) : List (Key × D) :=
  if (kvs.any fun kv => decide (kv.1 = k)) = true then kvs.map (fun kv => if kv.1 = k then (kv.1, v) else kv) else kvs ++ [(k, v)]
def mergeKD (kvs more : List (Key × D)) : List (Key × D) := more.foldl (fun acc kv => putKD acc kv.1 kv.2) kvs
def valKD (kvs : List (Key × D)) (k : Key) : Option D := (kvs.find? fun kv => decide (kv.1 = k)).map (·.2)
def pairsD (env : DEnv) : List (EM × EM) → List (Key × D) → M (List (Key × D))
  | [], acc => M.pure acc
  | (k, v) :: r, acc => M.bind (k env) fun x => M.bind (v env) fun y => M.bind (M.opt (keyOf x)) fun kk => pairsD env r (acc ++ [(kk, y)])
def eDic (prs : List (EM × EM)) : EM := fun env => M.bind (pairsD env prs []) fun kvs => M.opt (if decide (kvs.length ≤ 15) then some (.dic (mergeKD [] kvs)) else none)
section
variable {K : PySem.W.Frag} {T : CT} {G G0 : Hp} {ι ι0 : List Addr} {H H0 : Hp} {st : Sto} {E : XK}
theorem PostE.step {m : M D} {f : D → M D} {Q Q' : VK} (p : PostE K T G0 ι0 H0 (M.bind m f st) E Q) (x : Ext ι0 ι H0 H G0 G) (w : WH K G ι st H)
    (h : ∀ d st1 v G1 ι1 H1, Ext ι ι1 H H1 G G1 → WH K G1 ι1 st1 H1 → DV K G1 ι1 v d → PostE K T G0 ι0 H0 (f d st1) E Q → Q' v H1) : PostE K T G ι H (m st) E Q' := by
  rw [M.bind_app] at p
  cases e : m st with
  | bad => rw [e] at p; exact p
  | ex y s => rw [e] at p; exact fun c dd G' ι' H' x2 w2 r2 => p c dd G' ι' H' (x.cons w x2) w2 r2
  | ok d s =>
    rw [e] at p
    exact fun v G1 ι1 H1 x1 w1 r1 => h d s v G1 ι1 H1 x1 w1 r1 p
theorem DVk.append : ∀ {vs ws : List (Key × V)} {ds es : List (Key × D)}, DVk K G ι vs ds → DVk K G ι ws es → DVk K G ι (vs ++ ws) (ds ++ es)
  | _, _, _, _, .nil, s => s
  | _, _, _, _, .cons r t, s => .cons r (DVk.append t s)
theorem DVk.length : ∀ {vs : List (Key × V)} {ds : List (Key × D)}, DVk K G ι vs ds → vs.length = ds.length
  | _, _, .nil => rfl
  | _, _, .cons _ t => by simp [DVk.length t]
theorem DVk.any (k : Key) : ∀ {vs : List (Key × V)} {ds : List (Key × D)}, DVk K G ι vs ds → (vs.any fun kv => decide (kv.1 = k)) = ds.any fun kv => decide (kv.1 = k)
  | _, _, .nil => rfl
  | _, _, .cons _ t => by simp [DVk.any k t]
theorem DVk.mapPut (k : Key) {v : V} {d : D} (r : DV K G ι v d) : ∀ {vs : List (Key × V)} {ds : List (Key × D)}, DVk K G ι vs ds → DVk K G ι (vs.map fun kv => if kv.1 = k then (kv.1, v) else kv) (ds.map fun kv => if kv.1 = k then (kv.1, d) else kv)
  | _, _, .nil => .nil
  | _, _, .cons (k := l) q t => by
    rw [List.map_cons, List.map_cons]
    by_cases e : l = k
    · rw [if_pos e, if_pos e]; exact .cons r (DVk.mapPut k r t)
    · rw [if_neg e, if_neg e]; exact .cons q (DVk.mapPut k r t)
theorem DVk.put {k : Key} {v : V} {d : D} (r : DV K G ι v d) {vs : List (Key × V)} {ds : List (Key × D)} (h : DVk K G ι vs ds) : DVk K G ι (putK vs k v) (putKD ds k d) := by
  unfold putK putKD
  rw [h.any k]
  by_cases e : (ds.any fun kv => decide (kv.1 = k)) = true
  · rw [if_pos e, if_pos e]; exact h.mapPut k r
  · rw [if_neg e, if_neg e]; exact h.append (.cons r .nil)
theorem DVk.merge : ∀ {more : List (Key × V)} {md : List (Key × D)} {vs : List (Key × V)} {ds : List (Key × D)}, DVk K G ι more md → DVk K G ι vs ds → DVk K G ι (mergeK vs more) (mergeKD ds md)
  | _, _, _, _, .nil, h => h
  | (k, v) :: more, (_, d) :: md, vs, ds, .cons r t, h => show DVk K G ι (mergeK (putK vs k v) more) (mergeKD (putKD ds k d) md) from DVk.merge t (h.put r)
theorem DVk.val {k : Key} : ∀ {vs : List (Key × V)} {ds : List (Key × D)}, DVk K G ι vs ds → (∀ d, valKD ds k = some d → ∃ v, valV vs k = some v ∧ DV K G ι v d) ∧ (valKD ds k = none → valV vs k = none)
  | _, _, .nil => ⟨(fun d h => by cases h), (fun _ => rfl)⟩
  | _, _, .cons (k := l) (v := v) (d := d) (vs := vs) (ds := ds) r t => by
    obtain ⟨h1, h2⟩ := DVk.val (k := k) t
    by_cases e : l = k
    · have e1 : valKD ((l, d) :: ds) k = some d := by unfold valKD; rw [List.find?_cons_of_pos (by simpa using e)]; rfl
      have e2 : valV ((l, v) :: vs) k = some v := by unfold valV; rw [List.find?_cons_of_pos (by simpa using e)]; rfl
      rw [e1, e2]
      exact ⟨fun d' h => by cases h; exact ⟨v, rfl, r⟩, fun h => by cases h⟩
    · have e1 : valKD ((l, d) :: ds) k = valKD ds k := by unfold valKD; rw [List.find?_cons_of_neg (by simpa using e)]
      have e2 : valV ((l, v) :: vs) k = valV vs k := by unfold valV; rw [List.find?_cons_of_neg (by simpa using e)]
      rw [e1, e2]
      exact ⟨h1, h2⟩
theorem apart {a : Addr} {G' : Hp} {ι' : List Addr} {H' : Hp} {o : HO} (z : Ext ι ι' H H' G G') (g : G a = none) (i : a ∉ ι) (h : H a = some o) : G' a = none ∧ a ∉ ι' ∧ H' a = some o := by
  refine ⟨?_, ?_, z.fr _ _ h i⟩
  · cases q : G' a with
    | none => rfl
    | some o =>
      rcases z.gn _ _ q with y | y | y
      · rw [g] at y; cases y
      · rw [h] at y; cases y
      · exact absurd y i
  · intro q
    rcases z.new _ q with y | y
    · exact i y
    · rw [h] at y; cases y
end
section
variable {X : Cx} {T : CT} {W : WX}
def DPs (X : Cx) (T : CT) (W : WX) (pos : Pos) (ks : List (Option Expr)) (vs : List Expr) (ms : List (EM × EM)) : Prop := PPs X pos ks vs (ms.map fun m => (tOf X.K T W m.1, tOf X.K T W m.2))
theorem dps_nil {pos : Pos} : DPs X T W pos [] [] [] := pps_nil
theorem dps_cons {pos : Pos} {k v : Expr} {ks : List (Option Expr)} {vs : List Expr} {mk mv : EM} {ms : List (EM × EM)} (hk : DE X T W k mk) (hv : DE X T W v mv) (hr : DPs X T W pos ks vs ms) : DPs X T W pos (some k :: ks) (v :: vs) ((mk, mv) :: ms) := pps_cons hk hv hr
theorem pairs_read {a : Addr} {σ : L2.St} {env : DEnv} {Q : VK} {G0 : Hp} {ι0 : List Addr} {H0 : Hp} (h0 : H0 a = none) : ∀ (ms : List (EM × EM)) (acc : List (Key × D)) (vacc : List (Key × V)) (G : Hp) (ι : List Addr) (st : Sto) (H : Hp), Ext ι0 ι H0 H G0 G → WH X.K G ι st H → EnvR X.K T G ι σ env → G a = none → a ∉ ι →
    H a = some (.dK []) → DVk X.K G ι vacc acc → PostE X.K T G0 ι0 H0 (M.bind (pairsD env ms acc) (fun kvs => M.opt (if decide (kvs.length ≤ 15) then some (.dic (mergeKD [] kvs)) else none)) st) (fun c d H' => W c d σ H') Q →
    ∀ Qp : List (V × V) → Hp → Prop, (∀ (kvs : List (Key × V)) (H2 : Hp), H2 a = some (.dK []) → (vacc ++ kvs).length ≤ 15 → Q (.ref a) (upd H2 a (.dK (mergeK [] (vacc ++ kvs)))) → Qp (kvs.map fun kv => (kV kv.1, kv.2)) H2) →
    tPairs (ms.map fun m => (tOf X.K T W m.1, tOf X.K T W m.2)) σ H Qp
  | [], acc, vacc, G, ι, st, H, x, w, r, g, i, h, ra, p, Qp, hq => by
    refine hq [] H h ?_ ?_
    · rw [List.append_nil]
      unfold pairsD at p
      rw [M.pure_bind] at p
      by_cases hz : acc.length ≤ 15
      · rw [ra.length]; exact hz
      · rw [if_neg (by simpa using hz)] at p
        exact p.elim
    · rw [List.append_nil]
      unfold pairsD at p
      rw [M.pure_bind] at p
      by_cases hz : acc.length ≤ 15
      · rw [if_pos (by simpa using hz)] at p
        have gn : upd G a (.dK (mergeK [] vacc)) a = some (.dK (mergeK [] vacc)) := upd_same
        refine p (.ref a) (upd G a (.dK (mergeK [] vacc))) ι _ ((x.other h0 _).still h0 g _) ((w.other g i _).still g i upd_same) (.dic gn ?_)
        exact (DVk.merge ra .nil).mono (Same.upd_new g) ⟨[], by simp⟩
      · rw [if_neg (by simpa using hz)] at p
        exact p.elim
  | (mk, mv) :: ms, acc, vacc, G, ι, st, H, x, w, r, g, i, h, ra, p, Qp, hq => by
    unfold pairsD at p
    rw [M.bind_assoc] at p
    refine ⟨G, ι, st, env, w, r, PostE.step p x w fun dk st1 vk G1 ι1 H1 x1 w1 r1 p1 => ?_⟩
    rw [M.bind_assoc] at p1
    refine ⟨G1, ι1, st1, env, w1, r.mono x1, PostE.step p1 (x.cons w x1) w1 fun dv st2 vv G2 ι2 H2 x2 w2 r2 p2 => ?_⟩
    cases e : keyOf dk with
    | none => rw [e] at p2; exact p2.elim
    | some kk =>
      rw [e] at p2
      have x12 := x1.cons w1 x2
      obtain ⟨g2, i2, h2⟩ := apart x12 g i h
      have ek : vk = kV kk := by
        cases r1 with
        | int n => cases e; rfl
        | str z => cases e; rfl
        | _ => cases e
      refine pairs_read h0 ms (acc ++ [(kk, dv)]) (vacc ++ [(kk, vv)]) G2 ι2 st2 H2 (x.cons w x12) w2 ((r.mono x1).mono x2) g2 i2 h2 (DVk.append (ra.mono x12.sm x12.pre) (.cons r2 .nil)) p2 _ fun kvs H3 a1 a2 a3 => ?_
      rw [List.append_assoc] at a2 a3
      rw [ek]
      exact hq ((kk, vv) :: kvs) H3 a1 a2 a3
theorem de_dic {pos : Pos} {k : Option Expr} {v : Expr} {ks : List (Option Expr)} {vs : List Expr} {ms : List (EM × EM)} (h : DPs X T W pos (k :: ks) (v :: vs) ms) (hall : (k :: ks).all (·.isSome) = true := by rfl) (hl : (k :: ks).length = (v :: vs).length := by rfl) (h15 : (k :: ks).length ≤ 15 := by decide) :
    DE X T W (.Dict (k :: ks) (v :: vs) pos) (eDic ms) :=
  DE.of (pe_disp h hall hl (by intro z; cases z) h15) fun σ H Q G ι st env w r p a ha => by
    have ga := w.off ha
    have ia : a ∉ ι := fun z => w.there a z ha
    refine pairs_read ha ms [] [] G ι st _ (Ext.other .refl ha _) (w.other ga ia _) r ga ia upd_same .nil p _ fun kvs H2 h1 h2 h3 => ⟨h1, kvs, rfl, h2, h3⟩
theorem de_dic0 {pos : Pos} : DE X T W (.Dict [] [] pos) (eC (.dic [])) := DE.of pe_dnewK fun σ H Q G ι st env w r p a ha => p _ _ ι _ (w.fzExt ha (.dK [])) (w.fz ha _) (.dic upd_same .nil)
/-- a dict that will be changed -/
theorem de_dicC0 {pos : Pos} : DE X T W (.Dict [] [] pos) (fun _ => M.new (.dic [])) := DE.of pe_dnewK fun σ H Q G ι st env w r p a ha => by
  have cr : CellR X.K G (ι ++ [a]) (upd H a (.dK [])) a (.dic []) := ⟨w.off ha, [], upd_same, .nil⟩
  refine p _ _ _ _ (w.clExt ha _) (w.cl ha cr) (.cell ?_)
  rw [← w.len, List.getElem?_append_right (Nat.le_refl _)]
  simp
end
end L3
namespace L3
open PySem PySem.Spec PyProof.Rows L2

/-! ## Comparisons -/
section
variable {X : Cx} {k : Nat}
def ltD (_ : Sto) (x y : D) : Option D := orO (ltI x y) (ltS x y)
def leD (_ : Sto) (x y : D) : Option D := orO (leI x y) (leS x y)
def gtD (_ : Sto) (x y : D) : Option D := orO (gtI x y) (gtS x y)
def geD (_ : Sto) (x y : D) : Option D := orO (geI x y) (geS x y)
theorem od_lt : OpD X (compareOp .Lt) ltD := od_ltI.or od_ltS
theorem od_le : OpD X (compareOp .LtE) leD := od_leI.or od_leS
theorem od_gt : OpD X (compareOp .Gt) gtD := od_gtI.or od_gtS
theorem od_ge : OpD X (compareOp .GtE) geD := od_geI.or od_geS
def itemsPy : PyData → Option (List PyData)
  | .list ds => some ds
  | .tuple ds => some ds
  | _ => none
def inSeq (st : Sto) (x y : D) : Option Bool := (topPy st x).bind fun d => (topPy st y).bind fun c => (itemsPy c).bind fun ds => if SeqAt.shaped d && SeqAt.shaped c then some (ds.any fun z => PyData.eqv z d) else none
theorem in_room {A : Around} {c d : PyData} {ds : List PyData} (h : SeqAt.shaped d = true) (hu : RoomS A) : A.units + 1 + min (PyData.depthAll ds) d.depth < cLine := by
  have h1 := SeqAt.depth_of_shaped h
  have h2 : min (PyData.depthAll ds) d.depth ≤ d.depth := Nat.min_le_right _ _
  have h3 := hu.un
  omega
theorem inSeq_get {st : Sto} {dx dy : D} {b : Bool} (h : inSeq st dx dy = some b) : ∃ d c ds, topPy st dx = some d ∧ topPy st dy = some c ∧ itemsPy c = some ds ∧ SeqAt.shaped d = true ∧ SeqAt.shaped c = true ∧ b = ds.any fun z => PyData.eqv z d := by
  unfold inSeq at h
  cases e1 : topPy st dx with
  | none => rw [e1] at h; cases h
  | some d =>
    cases e2 : topPy st dy with
    | none => rw [e1, e2] at h; cases h
    | some c =>
      cases e3 : itemsPy c with
      | none => rw [e1, e2, Option.bind_some, Option.bind_some, e3] at h; cases h
      | some ds =>
        rw [e1, e2, Option.bind_some, Option.bind_some, e3, Option.bind_some] at h
        by_cases hz : (SeqAt.shaped d && SeqAt.shaped c) = true
        · rw [if_pos hz] at h
          rw [Bool.and_eq_true] at hz
          cases h
          exact ⟨d, c, ds, rfl, rfl, e3, hz.1, hz.2, rfl⟩
        · rw [if_neg hz] at h
          cases h
theorem od_inSeq (hr : RoomS X.A) : OpD X (compareOp .In) (fun st x y => (inSeq st x y).map .bl) := fun pins s σ H x y v u Q I rx ry ⟨G, ι, st, dx, dy, w, hx, hy, p⟩ => by
  dsimp only at p
  cases e : inSeq st dx dy with
  | none => rw [e] at p; exact p.elim
  | some b =>
    rw [e] at p
    obtain ⟨d, c, ds, e1, e2, e3, s1, s2, e4⟩ := inSeq_get e
    obtain ⟨as, r1⟩ := Dp.reads I d x v (dp_top w hx e1) rx
    obtain ⟨bs, r2⟩ := Dp.reads I c y u (dp_top w hy e2) ry
    have fin : EP X pins σ Q (.bool (ds.any fun z => PyData.eqv z d)) s := ⟨.bl _, H, I, rfl, by rw [← e4]; exact p.val w (.bl _)⟩
    cases c with
    | list xs => cases e3; exact SeqAt.in_list_reads r2 r1 (SeqAt.canLay_of_shaped s2) (SeqAt.canLay_of_shaped s1) (in_room (c := d) s1 hr) fin
    | tuple xs => cases e3; exact SeqAt.in_tuple_reads r2 r1 (SeqAt.canLay_of_shaped s2) (SeqAt.canLay_of_shaped s1) (in_room (c := d) s1 hr) fin
    | _ => cases e3
theorem od_notInSeq (hr : RoomS X.A) : OpD X (compareOp .NotIn) (fun st x y => (inSeq st x y).map fun b => .bl (!b)) := fun pins s σ H x y v u Q I rx ry ⟨G, ι, st, dx, dy, w, hx, hy, p⟩ => by
  dsimp only at p
  cases e : inSeq st dx dy with
  | none => rw [e] at p; exact p.elim
  | some b =>
    rw [e] at p
    obtain ⟨d, c, ds, e1, e2, e3, s1, s2, e4⟩ := inSeq_get e
    obtain ⟨as, r1⟩ := Dp.reads I d x v (dp_top w hx e1) rx
    obtain ⟨bs, r2⟩ := Dp.reads I c y u (dp_top w hy e2) ry
    have fin : EP X pins σ Q (.bool (!ds.any fun z => PyData.eqv z d)) s := ⟨.bl _, H, I, rfl, by rw [← e4]; exact p.val w (.bl _)⟩
    cases c with
    | list xs => cases e3; exact SeqAt.notIn_list_reads r2 r1 (SeqAt.canLay_of_shaped s2) (SeqAt.canLay_of_shaped s1) (in_room (c := d) s1 hr) fin
    | tuple xs => cases e3; exact SeqAt.notIn_tuple_reads r2 r1 (SeqAt.canLay_of_shaped s2) (SeqAt.canLay_of_shaped s1) (in_room (c := d) s1 hr) fin
    | _ => cases e3
def inD (st : Sto) (x y : D) : Option D := orO (inS x y) ((inSeq st x y).map .bl)
def notInD (st : Sto) (x y : D) : Option D := orO (notInS x y) ((inSeq st x y).map fun b => .bl (!b))
theorem od_in (hr : RoomS X.A) : OpD X (compareOp .In) inD := od_inS.or (od_inSeq hr)
theorem od_notIn (hr : RoomS X.A) : OpD X (compareOp .NotIn) notInD := od_notInS.or (od_notInSeq hr)
def isNone : D → Bool
  | .non => true
  | _ => false
theorem dv_none {K : PySem.W.Frag} {G : Hp} {ι : List Addr} {v : V} {d : D} (r : DV K G ι v d) : decide (v = .non) = isNone d := by
  cases r <;> rfl
def isND (_ : Sto) (x y : D) : Option D := if isNone y then some (.bl (isNone x)) else none
def notND (_ : Sto) (x y : D) : Option D := if isNone y then some (.bl (!isNone x)) else none
theorem od_isN : OpD X (compareOp .Is) isND := OpD.of op_isN fun G ι st H x y dx dy Q w hx hy p => by
  unfold isND at p
  cases hy with
  | non =>
    rw [if_pos (show isNone .non = true from rfl)] at p
    exact ⟨rfl, by rw [dv_none hx]; exact p.val w (.bl _)⟩
  | _ => exact p.elim
theorem od_notN : OpD X (compareOp .IsNot) notND := OpD.of op_notN fun G ι st H x y dx dy Q w hx hy p => by
  unfold notND at p
  cases hy with
  | non =>
    rw [if_pos (show isNone .non = true from rfl)] at p
    exact ⟨rfl, by rw [dv_none hx]; exact p.val w (.bl _)⟩
  | _ => exact p.elim
end

/-! ## Tests -/
section
variable {X : Cx} {T : CT} {W : WX} {a b c : Expr} {es : List Expr} {ma mb mc : EM} {ka kb : BM} {pos : Pos}
def DW (X : Cx) (T : CT) (W : WX) (e : Expr) (m : BM) : Prop := PW X e (bOf X.K T W m)
theorem DW.dt (h : DW X T W a ka) : DT X T W a ka := PW.pt h
theorem dw_and1 (h : DT X T W a ka) : DW X T W (.BoolOp .And [a] pos) ka := pw_and1 h
theorem dw_or1 (h : DT X T W a ka) : DW X T W (.BoolOp .Or [a] pos) ka := pw_or1 h
theorem dw_and (ha : DT X T W a ka) (hb : DW X T W (.BoolOp .And (b :: es) pos) kb) : DW X T W (.BoolOp .And (a :: b :: es) pos) (bAnd ka kb) :=
  ⟨fun wh pins s σ H Q I ⟨G, ι, st, env, w, r, p⟩ => (pw_and ha hb).run wh pins s σ H Q I ⟨G, ι, st, env, w, r, p.bindB fun d st1 G1 ι1 H1 x1 w1 p1 => by
    cases d with
    | true => exact ⟨G1, ι1, st1, env, w1, r.mono x1, p1⟩
    | false => exact p1 G1 ι1 H1 .refl w1⟩⟩
theorem dw_or (ha : DT X T W a ka) (hb : DW X T W (.BoolOp .Or (b :: es) pos) kb) : DW X T W (.BoolOp .Or (a :: b :: es) pos) (bOr ka kb) :=
  ⟨fun wh pins s σ H Q I ⟨G, ι, st, env, w, r, p⟩ => (pw_or ha hb).run wh pins s σ H Q I ⟨G, ι, st, env, w, r, p.bindB fun d st1 G1 ι1 H1 x1 w1 p1 => by
    cases d with
    | false => exact ⟨G1, ι1, st1, env, w1, r.mono x1, p1⟩
    | true => exact p1 G1 ι1 H1 .refl w1⟩⟩
theorem dt_not (ha : DT X T W a ka) : DT X T W (.UnaryOp .Not a pos) (bNot ka) :=
  DT.of (pt_not ha) fun σ H Q G ι st env w r p => ⟨G, ι, st, env, w, r, p.bindB fun d st1 G1 ι1 H1 x1 w1 p1 => p1 G1 ι1 H1 .refl w1⟩
/-- what is wanted of a value as a test -/
theorem tTest_of {G : Hp} {ι : List Addr} {H : Hp} {st : Sto} {env : DEnv} {σ : L2.St} {t : TE} {Q : Bool → Hp → Prop} (h : ∀ Q' : VK, PostE X.K T G ι H (ma env st) (fun c d H' => W c d σ H') Q' → t σ H Q') (w : WH X.K G ι st H)
    (p : PostB X.K T G ι H (bE ma env st) (fun c d H' => W c d σ H') Q) : tTest t σ H Q :=
  h _ (p.bindE fun d st1 v G1 ι1 H1 x1 w1 r1 p1 => p1.asB w1 r1)
theorem dt_chain {op op' : CmpOp} {g g' : Sto → D → D → Option D} (ho : OpD X (compareOp op) g) (ho' : OpD X (compareOp op') g') (ha : DE X T W a ma) (hb : DE X T W b mb) (hc : DE X T W c mc) (hm : lastMarks [op, op'] [b, c] = false := by with_unfolding_all rfl) : DT X T W (.Compare a [op, op'] [b, c] pos) (bE (eChain g g' ma mb mc)) :=
  DT.of (pt_chain ho ho' ha hb hc hm) fun σ H Q G ι st env w r p => tTest_of (ma := eChain g g' ma mb mc) (T := T) (W := W) (st := st) (env := env) (σ := σ) (fun Q' p => ⟨G, ι, st, env, w, r, p.bind fun d st1 v G1 ι1 H1 x1 w1 r1 p1 =>
    ⟨G1, ι1, st1, env, w1, r.mono x1, p1.bind fun d2 st2 v2 G2 ι2 H2 x2 w2 r2 p2 => ⟨G2, ι2, st2, d, d2, w2, x2.dv r1, r2, (p2.bind (Q' := fun z H3 => ∃ k, z = .bl k ∧ (if k = true then tOf X.K T W mc σ H3 fun w' H4 => rOf X.K g' v2 w' H4 Q' else Q' (.bl false) H3)) fun d3 st3 v3 G3 ι3 H3 x3 w3 r3 p3 => by
      obtain ⟨k, e1, _, p4⟩ := PostE.asB r3 p3
      refine ⟨k, e1, ?_⟩
      cases k with
      | true =>
        exact ⟨G3, ι3, st3, env, w3, ((r.mono x1).mono x2).mono x3, p4.bind fun d4 st4 v4 G4 ι4 H4 x4 w4 r4 p5 => ⟨G4, ι4, st4, d2, d4, w4, x4.dv (x3.dv r2), r4, p5.rd⟩⟩
      | false => exact p4.ok w3 (.bl false)).rd⟩⟩⟩) w p
end

/-! ## Built-in names -/
theorem bb_abs : bootBuiltins "abs" = some (.builtin "abs") := by decide +kernel
theorem bb_max : bootBuiltins "max" = some (.builtin "max") := by decide +kernel
theorem bb_min : bootBuiltins "min" = some (.builtin "min") := by decide +kernel
theorem bb_len : bootBuiltins "len" = some (.builtin "len") := by decide +kernel
theorem bb_repr : bootBuiltins "repr" = some (.builtin "repr") := by decide +kernel
theorem bb_isinstance : bootBuiltins "isinstance" = some (.builtin "isinstance") := by decide +kernel
theorem bb_all : bootBuiltins "all" = some (.builtin "all") := by decide +kernel
theorem bb_any : bootBuiltins "any" = some (.builtin "any") := by decide +kernel
theorem bb_sorted : bootBuiltins "sorted" = some (.builtin "sorted") := by decide +kernel
theorem bb_sum : bootBuiltins "sum" = some (.builtin "sum") := by decide +kernel
theorem bb_divmod : bootBuiltins "divmod" = some (.builtin "divmod") := by decide +kernel
theorem bb_ord : bootBuiltins "ord" = some (.builtin "ord") := by decide +kernel
theorem bb_chr : bootBuiltins "chr" = some (.builtin "chr") := by decide +kernel
theorem bb_int : bootBuiltins "int" = some (.type "int") := by decide +kernel
theorem bb_str : bootBuiltins "str" = some (.type "str") := by decide +kernel
theorem bb_bool : bootBuiltins "bool" = some (.type "bool") := by decide +kernel
theorem bb_tuple : bootBuiltins "tuple" = some (.type "tuple") := by decide +kernel
theorem bb_list : bootBuiltins "list" = some (.type "list") := by decide +kernel
theorem bb_dict : bootBuiltins "dict" = some (.type "dict") := by decide +kernel
theorem bb_set : bootBuiltins "set" = some (.type "set") := by decide +kernel

/-! ## Short words -/
section
variable {X : Cx} {T : CT} {W : WX}
theorem de_int {i j pos} : DE X T W (.Constant (.int i) j pos) (eC (.int i)) := de_c pe_int
theorem de_str {x j pos} : DE X T W (.Constant (.str x) j pos) (eC (.str x)) := de_c pe_str
theorem de_bl {b j pos} : DE X T W (.Constant (.bool b) j pos) (eC (.bl b)) := de_c pe_bl
theorem de_non {j pos} : DE X T W (.Constant .none j pos) (eC .non) := de_c pe_non
theorem dv (i : Nat) {x : Str} {pos : Pos} (hN : X.N[i]? = some x := by rfl) (hv : Vis X.env.scope x := by first | exact Or.inl rfl | exact Or.inr (Or.inl rfl) | exact Or.inr (Or.inr rfl)) (hd : (x == ("__debug__" : Str)) = false := by decide)
    (hcd : (x == ("__classdict__" : Str)) = false := by decide) : DE X T W (.Name x pos) (eVar i) := de_var (pe_var hN hv hd hcd)
end
/-- where a def of the text stands behind the top -/
structure DefAt (K : PySem.W.Frag) (mg : Str → Option Value) (x : Str) (st : Stmt) (ps : List Str) (a : Addr) (fd : FuncData) : Prop where
  mg : mg x = some (.ref a)
  fn : Fun K x x st a fd
  bi : Binds K fd ps []
section
variable {X : Cx} {T : CT} {W : WX} {e : Expr} {es : List Expr} {mas : AM} {pos p : Pos} {j k : Nat} {f : Addr} {fd : FuncData} {ps : List Str} {sem : List D → M D} {x : Str} {sf : Stmt}
theorem dc {L : DefAt X.K X.mg x sf ps f fd} (F : FnD X.prog X.w X.K X.mg X.base T k f fd ps sem) (hr : RoomG j X.A) (tk : Takes X W) (ha : DA X T W (e :: es) mas) (hg : Gl X x := by rfl) (hl : k ≤ j := by decide) (hdb : (x == ("__debug__" : Str)) = false := by decide)
    (he : starEach (e :: es) X.env = (false, eval e X.env) :: starEach es X.env := by rfl) (hpl : (backTo pos (starEach es X.env)).any (·.1) = false := by rfl) : DE X T W (.Call (.Name x p) (e :: es) [] pos) (eApp sem mas) :=
  de_call F (hr.mono hl) hg L.mg L.fn.kp L.bi tk ha hdb he hpl
theorem dc0 {L : DefAt X.K X.mg x sf ps f fd} (F : FnD X.prog X.w X.K X.mg X.base T k f fd ps sem) (hr : RoomG j X.A) (tk : Takes X W) (hg : Gl X x := by rfl) (hl : k ≤ j := by decide) (hdb : (x == ("__debug__" : Str)) = false := by decide) : DE X T W (.Call (.Name x p) [] [] pos) (fun _ => sem []) :=
  de_call0 F (hr.mono hl) hg L.mg L.fn.kp L.bi tk hdb
end
end L3
namespace L3
open PySem PySem.Spec PyProof.Rows L2

/-! ## How a meaning is reckoned: from the left, what comes behind is not looked at before its turn -/
def R.go {α β : Type} (r : R α) (f : α → M β) : R β := match r with
  | .ok a s => f a s
  | .ex x s => .ex x s
  | .bad => .bad
def R.ofO {α : Type} (o : Option α) (s : Sto) : R α := match o with
  | some a => .ok a s
  | none => .bad
def R.toS {α : Type} (r : R α) (e : DEnv) (f : α → SM) : SR := match r with
  | .ok a s => f a e s
  | .ex x s => .ex x e s
  | .bad => .bad
def SR.go (r : SR) (f : SM) : SR := match r with
  | .nx e s => f e s
  | .rt d s => .rt d s
  | .bk e s => .bk e s
  | .ct e s => .ct e s
  | .ex x e s => .ex x e s
  | .bad => .bad
def SR.out (r : SR) : R D := match r with
  | .nx _ s => .ok .non s
  | .rt d s => .ok d s
  | .ex x _ s => .ex x s
  | _ => .bad
section
variable {α β : Type}
theorem R.go_ok (a : α) (s : Sto) (f : α → M β) : R.go (.ok a s) f = f a s := rfl
theorem R.go_ex (x : Ex) (s : Sto) (f : α → M β) : R.go (.ex x s) f = .ex x s := rfl
theorem R.go_bad (f : α → M β) : R.go .bad f = .bad := rfl
theorem R.ofO_some (a : α) (s : Sto) : R.ofO (some a) s = .ok a s := rfl
theorem R.ofO_none (s : Sto) : R.ofO (none : Option α) s = .bad := rfl
theorem R.toS_ok (a : α) (s : Sto) (e : DEnv) (f : α → SM) : R.toS (.ok a s) e f = f a e s := rfl
theorem R.toS_ex (x : Ex) (s : Sto) (e : DEnv) (f : α → SM) : R.toS (.ex x s) e f = .ex x e s := rfl
theorem R.toS_bad (e : DEnv) (f : α → SM) : R.toS .bad e f = .bad := rfl
theorem SR.go_nx (e : DEnv) (s : Sto) (f : SM) : SR.go (.nx e s) f = f e s := rfl
theorem SR.go_rt (d : D) (s : Sto) (f : SM) : SR.go (.rt d s) f = .rt d s := rfl
theorem SR.go_bk (e : DEnv) (s : Sto) (f : SM) : SR.go (.bk e s) f = .bk e s := rfl
theorem SR.go_ct (e : DEnv) (s : Sto) (f : SM) : SR.go (.ct e s) f = .ct e s := rfl
theorem SR.go_ex (x : Ex) (e : DEnv) (s : Sto) (f : SM) : SR.go (.ex x e s) f = .ex x e s := rfl
theorem SR.go_bad (f : SM) : SR.go .bad f = .bad := rfl
theorem SR.out_nx (e : DEnv) (s : Sto) : SR.out (.nx e s) = .ok .non s := rfl
theorem SR.out_rt (d : D) (s : Sto) : SR.out (.rt d s) = .ok d s := rfl
theorem SR.out_ex (x : Ex) (e : DEnv) (s : Sto) : SR.out (.ex x e s) = .ex x s := rfl
theorem ev_bind (m : M α) (f : α → M β) (st : Sto) : M.bind m f st = R.go (m st) f := by
  rw [M.bind_app]; cases m st <;> rfl
theorem ev_opt (o : Option α) (st : Sto) : M.opt o st = R.ofO o st := by cases o <;> rfl
theorem ev_rd (f : Sto → Option α) (st : Sto) : M.rd f st = R.ofO (f st) st := by
  unfold M.rd
  cases f st <;> rfl
theorem ev_pure (a : α) (st : Sto) : M.pure a st = .ok a st := rfl
theorem ev_badM (st : Sto) : (M.bad : M α) st = .bad := rfl
end
def SR.ofO (o : Option Sto) (e : DEnv) : SR := match o with
  | some s => .nx e s
  | none => .bad
theorem SR.ofO_some (s : Sto) (e : DEnv) : SR.ofO (some s) e = .nx e s := rfl
/-! what comes behind, by name -/
def kB2 (op : Sto → D → D → Option D) (x : D) : D → M D := fun y s => R.ofO (op s x y) s
def kB1 (op : Sto → D → D → Option D) (b : EM) (env : DEnv) : D → M D := fun x s => R.go (b env s) (kB2 op x)
def kU (op : Sto → D → Option D) : D → M D := fun x s => R.ofO (op s x) s
def kAnd2 (b : EM) (env : DEnv) : Bool → M D := fun c s => if c = true then b env s else .ok (.bl false) s
def kAnd (b : EM) (env : DEnv) : D → M D := fun x s => R.go (asB x s) (kAnd2 b env)
def kOr2 (b : EM) (env : DEnv) : Bool → M D := fun c s => if c = true then .ok (.bl true) s else b env s
def kOr (b : EM) (env : DEnv) : D → M D := fun x s => R.go (asB x s) (kOr2 b env)
def kNot2 : Bool → M D := fun c s => .ok (.bl (!c)) s
def kNot : D → M D := fun x s => R.go (asB x s) kNot2
def kIf (a b : EM) (env : DEnv) : Bool → M D := fun k s => if k = true then a env s else b env s
def kbAnd (b : BM) (env : DEnv) : Bool → M Bool := fun c s => if c = true then b env s else .ok false s
def kbOr (b : BM) (env : DEnv) : Bool → M Bool := fun c s => if c = true then .ok true s else b env s
def kbNot : Bool → M Bool := fun c s => .ok (!c) s
def kA2 (x : D) : List D → M (List D) := fun xs s => .ok (x :: xs) s
def kA1 (b : AM) (env : DEnv) : D → M (List D) := fun x s => R.go (b env s) (kA2 x)
def kTup : List D → M D := fun xs s => R.ofO (if fits xs.length = true then some (.tup xs) else none) s
def kLst : List D → M D := fun xs s => R.ofO (if fits xs.length = true then some (.lst xs) else none) s
def kLstC : List D → M D := fun xs s => if fits xs.length = true then .ok (.cell s.length) (s ++ [.lst xs]) else .bad
def kCall (op : Sto → List D → Option D) : List D → M D := fun xs s => R.ofO (op s xs) s
def kC4 (op' : Sto → D → D → Option D) (y : D) (c : EM) (env : DEnv) : Bool → M D := fun k s => if k = true then R.go (c env s) (kB2 op' y) else .ok (.bl false) s
def kC3 (op' : Sto → D → D → Option D) (y : D) (c : EM) (env : DEnv) : D → M D := fun z s => R.go (asB z s) (kC4 op' y c env)
def kC2 (op op' : Sto → D → D → Option D) (x : D) (c : EM) (env : DEnv) : D → M D := fun y s => R.go (R.ofO (op s x y) s) (kC3 op' y c env)
def kC1 (op op' : Sto → D → D → Option D) (b c : EM) (env : DEnv) : D → M D := fun x s => R.go (b env s) (kC2 op op' x c env)
def kSet (i : Nat) : D → SM := fun d e s => .nx (e.set i (some d)) s
def kExpr : D → SM := fun _ e s => .nx e s
def kRet : D → SM := fun d _ s => .rt d s
def kIfS (a b : SM) : Bool → SM := fun k e s => if k = true then a e s else b e s
def kAsg (g : D → DEnv → Option DEnv) : D → SM := fun d e s => match g d e with
  | some e' => .nx e' s
  | none => .bad
def kP2 (i j : Nat) (x : D) : D → SM := fun y e s => .nx ((e.set i (some x)).set j (some y)) s
def kP1 (i j : Nat) (b : EM) : D → SM := fun x e s => R.toS (b e s) e (kP2 i j x)
def kQ3 (i j l : Nat) (x y : D) : D → SM := fun z e s => .nx (((e.set i (some x)).set j (some y)).set l (some z)) s
def kQ2 (i j l : Nat) (x : D) (c : EM) : D → SM := fun y e s => R.toS (c e s) e (kQ3 i j l x y)
def kQ1 (i j l : Nat) (b c : EM) : D → SM := fun x e s => R.toS (b e s) e (kQ2 i j l x c)
def kS3 (g : Sto → D → D → D → Option Sto) (v o : D) : D → SM := fun i e s => match g s o i v with
  | some s' => .nx e s'
  | none => .bad
def kS2 (mi : EM) (g : Sto → D → D → D → Option Sto) (v : D) : D → SM := fun o e s => R.toS (mi e s) e (kS3 g v o)
def kS1 (mo mi : EM) (g : Sto → D → D → D → Option Sto) : D → SM := fun v e s => R.toS (mo e s) e (kS2 mi g v)
def kFor (g : D → DEnv → Option DEnv) (b : SM) : List D × Src → SM := fun d e s => forD d.2 g b d.1 e s
def kR1 : D → M (List D × Src) := fun d s => R.ofO (match d with
  | .int j => if small62 j = true then some (rngD 0 j, none) else none
  | _ => none) s
def kR2b (x : D) : D → M (List D × Src) := fun y s => R.ofO (match x, y with
  | .int i, .int j => if (small62 i && small62 j) = true then some (rngD i j, none) else none
  | _, _ => none) s
def kR2a (b : EM) (env : DEnv) : D → M (List D × Src) := fun x s => R.go (b env s) (kR2b x)
def kST : D → M (List D × Src) := fun d s => R.ofO ((tupOf d).map fun xs => (xs, none)) s
def kSL : D → M (List D × Src) := fun d s => R.ofO ((lstOf s d).map fun xs => (xs, srcOf d xs)) s
def kL2 : List D → M D := fun xs s => .ok (.lst xs) s
def kL1 (g : D → DEnv → Option DEnv) (t : BM) (el : EM) (env : DEnv) : List D × Src → M D := fun d s => R.go (lcD d.2 g t el env d.1 [] s) kL2
theorem go_ext {α β : Type} {r : R α} {f g : α → M β} (h : ∀ a s, f a s = g a s) : R.go r f = R.go r g := by
  have : f = g := funext fun a => funext fun s => h a s
  rw [this]
theorem toS_ext {α : Type} {r : R α} {e : DEnv} {f g : α → SM} (h : ∀ a e s, f a e s = g a e s) : R.toS r e f = R.toS r e g := by
  have : f = g := funext fun a => funext fun e => funext fun s => h a e s
  rw [this]
section
variable (env : DEnv) (st : Sto)
theorem ev_var (i : Nat) : eVar i env st = R.ofO (env[i]?.join) st := by
  unfold eVar
  cases env[i]? with
  | none => rfl
  | some o => cases o <;> rfl
theorem ev_c (d : D) : eC d env st = .ok d st := rfl
theorem ev_asB (b : Bool) : asB (.bl b) st = .ok b st := rfl
theorem ev_bin (op : Sto → D → D → Option D) (a b : EM) : eBin op a b env st = R.go (a env st) (kB1 op b env) := by
  unfold eBin
  rw [ev_bind]
  refine go_ext fun x s => ?_
  rw [ev_bind]
  exact go_ext fun y s' => ev_rd _ _
theorem ev_kB1 (op : Sto → D → D → Option D) (b : EM) (x : D) : kB1 op b env x st = R.go (b env st) (kB2 op x) := rfl
theorem ev_kB2 (op : Sto → D → D → Option D) (x y : D) : kB2 op x y st = R.ofO (op st x y) st := rfl
theorem ev_un (op : Sto → D → Option D) (a : EM) : eUn op a env st = R.go (a env st) (kU op) := by
  unfold eUn
  rw [ev_bind]
  exact go_ext fun y s' => ev_rd _ _
theorem ev_kU (op : Sto → D → Option D) (x : D) : kU op x st = R.ofO (op st x) st := rfl
theorem ev_and (a b : EM) : eAnd a b env st = R.go (a env st) (kAnd b env) := by
  unfold eAnd
  rw [ev_bind]
  refine go_ext fun x s => ?_
  rw [ev_bind]
  exact go_ext fun c s => by cases c <;> rfl
theorem ev_kAnd (b : EM) (k : Bool) : kAnd b env (.bl k) st = kAnd2 b env k st := rfl
theorem ev_kAnd2_t (b : EM) : kAnd2 b env true st = b env st := rfl
theorem ev_kAnd2_f (b : EM) : kAnd2 b env false st = .ok (.bl false) st := rfl
theorem ev_or (a b : EM) : eOr a b env st = R.go (a env st) (kOr b env) := by
  unfold eOr
  rw [ev_bind]
  refine go_ext fun x s => ?_
  rw [ev_bind]
  exact go_ext fun c s => by cases c <;> rfl
theorem ev_kOr (b : EM) (k : Bool) : kOr b env (.bl k) st = kOr2 b env k st := rfl
theorem ev_kOr2_t (b : EM) : kOr2 b env true st = .ok (.bl true) st := rfl
theorem ev_kOr2_f (b : EM) : kOr2 b env false st = b env st := rfl
theorem ev_not (a : EM) : eNot a env st = R.go (a env st) kNot := by
  unfold eNot
  rw [ev_bind]
  refine go_ext fun x s => ?_
  rw [ev_bind]
  rfl
theorem ev_kNot (k : Bool) : kNot (.bl k) st = .ok (.bl (!k)) st := rfl
theorem ev_if (c : BM) (a b : EM) : eIf c a b env st = R.go (c env st) (kIf a b env) := by
  unfold eIf
  rw [ev_bind]
  exact go_ext fun c s => by cases c <;> rfl
theorem ev_kIf_t (a b : EM) : kIf a b env true st = a env st := rfl
theorem ev_kIf_f (a b : EM) : kIf a b env false st = b env st := rfl
theorem ev_bE (a : EM) : bE a env st = R.go (a env st) asB := by
  unfold bE
  rw [ev_bind]
theorem ev_bAnd (a b : BM) : bAnd a b env st = R.go (a env st) (kbAnd b env) := by
  unfold bAnd
  rw [ev_bind]
  exact go_ext fun c s => by cases c <;> rfl
theorem ev_kbAnd_t (b : BM) : kbAnd b env true st = b env st := rfl
theorem ev_kbAnd_f (b : BM) : kbAnd b env false st = .ok false st := rfl
theorem ev_bOr (a b : BM) : bOr a b env st = R.go (a env st) (kbOr b env) := by
  unfold bOr
  rw [ev_bind]
  exact go_ext fun c s => by cases c <;> rfl
theorem ev_kbOr_t (b : BM) : kbOr b env true st = .ok true st := rfl
theorem ev_kbOr_f (b : BM) : kbOr b env false st = b env st := rfl
theorem ev_bNot (a : BM) : bNot a env st = R.go (a env st) kbNot := by
  unfold bNot
  rw [ev_bind]
  rfl
theorem ev_kbNot (k : Bool) : kbNot k st = .ok (!k) st := rfl
theorem ev_aNil : aNil env st = .ok [] st := rfl
theorem ev_aCons (a : EM) (b : AM) : aCons a b env st = R.go (a env st) (kA1 b env) := by
  unfold aCons
  rw [ev_bind]
  refine go_ext fun x s => ?_
  rw [ev_bind]
  rfl
theorem ev_kA1 (b : AM) (x : D) : kA1 b env x st = R.go (b env st) (kA2 x) := rfl
theorem ev_kA2 (x : D) (xs : List D) : kA2 x xs st = .ok (x :: xs) st := rfl
theorem ev_tup (a : AM) : eTup a env st = R.go (a env st) kTup := by
  unfold eTup
  rw [ev_bind]
  exact go_ext fun x s => ev_opt _ _
theorem ev_kTup (xs : List D) : kTup xs st = R.ofO (if fits xs.length = true then some (.tup xs) else none) st := rfl
theorem ev_lst (a : AM) : eLst a env st = R.go (a env st) kLst := by
  unfold eLst
  rw [ev_bind]
  exact go_ext fun x s => ev_opt _ _
theorem ev_kLst (xs : List D) : kLst xs st = R.ofO (if fits xs.length = true then some (.lst xs) else none) st := rfl
theorem ev_lstC (a : AM) : eLstC a env st = R.go (a env st) kLstC := by
  unfold eLstC
  rw [ev_bind]
  refine go_ext fun x s => ?_
  unfold kLstC
  by_cases h : fits x.length = true
  · rw [if_pos h, if_pos h]; rfl
  · rw [if_neg h, if_neg h]; rfl
theorem ev_kLstC (xs : List D) : kLstC xs st = if fits xs.length = true then .ok (.cell st.length) (st ++ [.lst xs]) else .bad := rfl
theorem ev_call (op : Sto → List D → Option D) (a : AM) : eCall op a env st = R.go (a env st) (kCall op) := by
  unfold eCall
  rw [ev_bind]
  exact go_ext fun x s => ev_rd _ _
theorem ev_kCall (op : Sto → List D → Option D) (xs : List D) : kCall op xs st = R.ofO (op st xs) st := rfl
theorem ev_app (sem : List D → M D) (a : AM) : eApp sem a env st = R.go (a env st) sem := by
  unfold eApp
  rw [ev_bind]
theorem ev_chain (op op' : Sto → D → D → Option D) (a b c : EM) : eChain op op' a b c env st = R.go (a env st) (kC1 op op' b c env) := by
  unfold eChain
  rw [ev_bind]
  refine go_ext fun x s => ?_
  rw [ev_bind]
  refine go_ext fun y s1 => ?_
  rw [ev_bind, ev_rd]
  refine go_ext fun z s2 => ?_
  rw [ev_bind]
  refine go_ext fun k s3 => ?_
  cases k with
  | true =>
    rw [if_pos rfl, ev_bind]
    exact go_ext fun u s4 => ev_rd _ _
  | false => rfl
theorem ev_kC1 (op op' : Sto → D → D → Option D) (b c : EM) (x : D) : kC1 op op' b c env x st = R.go (b env st) (kC2 op op' x c env) := rfl
theorem ev_kC2 (op op' : Sto → D → D → Option D) (c : EM) (x y : D) : kC2 op op' x c env y st = R.go (R.ofO (op st x y) st) (kC3 op' y c env) := rfl
theorem ev_kC3 (op' : Sto → D → D → Option D) (c : EM) (y : D) (k : Bool) : kC3 op' y c env (.bl k) st = kC4 op' y c env k st := rfl
theorem ev_kC4_t (op' : Sto → D → D → Option D) (c : EM) (y : D) : kC4 op' y c env true st = R.go (c env st) (kB2 op' y) := rfl
theorem ev_kC4_f (op' : Sto → D → D → Option D) (c : EM) (y : D) : kC4 op' y c env false st = .ok (.bl false) st := rfl
theorem ev_sNext : sNext env st = .nx env st := rfl
theorem ev_sSeq (a b : SM) : sSeq a b env st = SR.go (a env st) b := by
  unfold sSeq
  cases a env st <;> rfl
theorem ev_sE (m : EM) (f : D → SM) : sE m f env st = R.toS (m env st) env f := by
  unfold sE
  cases m env st <;> rfl
theorem ev_sSet (i : Nat) (m : EM) : sSet i m env st = R.toS (m env st) env (kSet i) := ev_sE _ _ _ _
theorem ev_kSet (i : Nat) (d : D) : kSet i d env st = .nx (env.set i (some d)) st := rfl
theorem ev_sExpr (m : EM) : sExpr m env st = R.toS (m env st) env kExpr := ev_sE _ _ _ _
theorem ev_kExpr (d : D) : kExpr d env st = .nx env st := rfl
theorem ev_sRet (m : EM) : sRet m env st = R.toS (m env st) env kRet := ev_sE _ _ _ _
theorem ev_kRet (d : D) : kRet d env st = .rt d st := rfl
theorem ev_sRetN : sRetN env st = .rt .non st := rfl
theorem ev_sBreak : sBreak env st = .bk env st := rfl
theorem ev_sCont : sCont env st = .ct env st := rfl
theorem ev_sIf (c : BM) (a b : SM) : sIf c a b env st = R.toS (c env st) env (kIfS a b) := by
  unfold sIf sB
  cases c env st <;> rfl
theorem ev_kIfS_t (a b : SM) : kIfS a b true env st = a env st := rfl
theorem ev_kIfS_f (a b : SM) : kIfS a b false env st = b env st := rfl
theorem ev_sAsg (g : D → DEnv → Option DEnv) (m : EM) : sAsg g m env st = R.toS (m env st) env (kAsg g) := ev_sE _ _ _ _
theorem ev_kAsg1 (i : Nat) (d : D) : kAsg (gN i) d env st = .nx (env.set i (some d)) st := rfl
theorem ev_kAsg2 (i j : Nat) (x y : D) : kAsg (gT2 i j) (.tup [x, y]) env st = .nx ((env.set i (some x)).set j (some y)) st := rfl
theorem ev_kAsg3 (i j k : Nat) (x y z : D) : kAsg (gT3 i j k) (.tup [x, y, z]) env st = .nx (((env.set i (some x)).set j (some y)).set k (some z)) st := rfl
theorem ev_sPar (i j : Nat) (a b : EM) : sPar i j a b env st = R.toS (a env st) env (kP1 i j b) := by
  unfold sPar
  rw [ev_sE]
  refine toS_ext fun x e s => ?_
  rw [ev_sE]
  rfl
theorem ev_kP1 (i j : Nat) (b : EM) (x : D) : kP1 i j b x env st = R.toS (b env st) env (kP2 i j x) := rfl
theorem ev_kP2 (i j : Nat) (x y : D) : kP2 i j x y env st = .nx ((env.set i (some x)).set j (some y)) st := rfl
theorem ev_sPar3 (i j l : Nat) (a b c : EM) : sPar3 i j l a b c env st = R.toS (a env st) env (kQ1 i j l b c) := by
  unfold sPar3
  rw [ev_sE]
  refine toS_ext fun x e s => ?_
  rw [ev_sE]
  refine toS_ext fun y e s => ?_
  rw [ev_sE]
  rfl
theorem ev_kQ1 (i j l : Nat) (b c : EM) (x : D) : kQ1 i j l b c x env st = R.toS (b env st) env (kQ2 i j l x c) := rfl
theorem ev_kQ2 (i j l : Nat) (c : EM) (x y : D) : kQ2 i j l x c y env st = R.toS (c env st) env (kQ3 i j l x y) := rfl
theorem ev_kQ3 (i j l : Nat) (x y z : D) : kQ3 i j l x y z env st = .nx (((env.set i (some x)).set j (some y)).set l (some z)) st := rfl
theorem ev_sSub (mo mi mv : EM) (g : Sto → D → D → D → Option Sto) : sSub mo mi mv g env st = R.toS (mv env st) env (kS1 mo mi g) := by
  unfold sSub
  rw [ev_sE]
  refine toS_ext fun v e s => ?_
  rw [ev_sE]
  refine toS_ext fun o e s => ?_
  rw [ev_sE]
  rfl
theorem ev_kS1 (mo mi : EM) (g : Sto → D → D → D → Option Sto) (v : D) : kS1 mo mi g v env st = R.toS (mo env st) env (kS2 mi g v) := rfl
theorem ev_kS2 (mi : EM) (g : Sto → D → D → D → Option Sto) (v o : D) : kS2 mi g v o env st = R.toS (mi env st) env (kS3 g v o) := rfl
theorem ev_kS3 (g : Sto → D → D → D → Option Sto) (v o i : D) : kS3 g v o i env st = SR.ofO (g st o i v) env := by
  unfold kS3
  cases g st o i v <;> rfl
theorem ev_sFor (i : IM) (g : D → DEnv → Option DEnv) (b : SM) : sFor i g b env st = R.toS (i env st) env (kFor g b) := by
  unfold sFor
  cases i env st <;> rfl
theorem ev_kFor (g : D → DEnv → Option DEnv) (b : SM) (ds : List D) (c : Src) : kFor g b (ds, c) env st = forD c g b ds env st := rfl
theorem ev_range1 (m : EM) : iRange1 m env st = R.go (m env st) kR1 := by
  unfold iRange1
  rw [ev_bind]
  exact go_ext fun x s => ev_opt _ _
theorem ev_kR1 {j : Int} (h : small62 j = true) : kR1 (.int j) st = .ok (rngD 0 j, none) st := by
  unfold kR1
  dsimp only
  rw [if_pos h]
  rfl
theorem ev_range2 (a b : EM) : iRange2 a b env st = R.go (a env st) (kR2a b env) := by
  unfold iRange2
  rw [ev_bind]
  refine go_ext fun x s => ?_
  rw [ev_bind]
  exact go_ext fun y s => ev_opt _ _
theorem ev_kR2a (b : EM) (x : D) : kR2a b env x st = R.go (b env st) (kR2b x) := rfl
theorem ev_kR2b {i j : Int} (h : small62 i = true) (h' : small62 j = true) : kR2b (.int i) (.int j) st = .ok (rngD i j, none) st := by
  unfold kR2b
  dsimp only
  rw [h, h']
  rfl
theorem ev_seqT (m : EM) : iSeqT m env st = R.go (m env st) kST := by
  unfold iSeqT
  rw [ev_bind]
  exact go_ext fun x s => ev_opt _ _
theorem ev_kST (xs : List D) : kST (.tup xs) st = .ok (xs, none) st := rfl
theorem ev_seqL (m : EM) : iSeqL m env st = R.go (m env st) kSL := by
  unfold iSeqL
  rw [ev_bind]
  exact go_ext fun x s => ev_rd _ _
theorem ev_kSL (xs : List D) : kSL (.lst xs) st = .ok (xs, none) st := rfl
theorem ev_kSR (xs : List D) : kSL (.scr xs) st = .ok (xs, none) st := rfl
theorem ev_kSC {n : Nat} : kSL (.cell n) st = R.ofO ((lstOf st (.cell n)).map fun xs => (xs, some (n, xs))) st := rfl
theorem ev_lc (i : IM) (vs : List Nat) (g : D → DEnv → Option DEnv) (t : BM) (el : EM) : eLc i vs g t el env st = R.go (i env st) (kL1 g t el (forget env vs)) := by
  unfold eLc
  rw [ev_bind]
  refine go_ext fun d s => ?_
  rw [ev_bind]
  rfl
theorem ev_kL1 (g : D → DEnv → Option DEnv) (t : BM) (el : EM) (ds : List D) (c : Src) : kL1 g t el env (ds, c) st = R.go (lcD c g t el env ds [] st) kL2 := rfl
theorem ev_kL2 (xs : List D) : kL2 xs st = .ok (.lst xs) st := rfl
theorem ev_isi (T' : String) (a : EM) : eIsi T' a env st = R.go (a env st) (kU fun st x => if tyN st x = "" then none else (kitB (tyN st x) T').map .bl) := by
  unfold eIsi
  rw [ev_bind]
  exact go_ext fun x s => ev_rd _ _
end
theorem ev_fun {n l : Nat} {b : SM} {ds : List D} {st : Sto} (h : ds.length = n) : funD n l b ds st = SR.out (b (ds.map some ++ List.replicate (l - n) none) st) := by
  unfold funD
  rw [if_pos h]
  cases b (ds.map some ++ List.replicate (l - n) none) st <;> rfl
theorem ev_fun0 (l : Nat) (b : SM) (st : Sto) : funD 0 l b [] st = SR.out (b (List.replicate l none) st) := ev_fun rfl
theorem ev_fun1 (l : Nat) (b : SM) (x : D) (st : Sto) : funD 1 l b [x] st = SR.out (b (some x :: List.replicate (l - 1) none) st) := ev_fun rfl
theorem ev_fun2 (l : Nat) (b : SM) (x y : D) (st : Sto) : funD 2 l b [x, y] st = SR.out (b (some x :: some y :: List.replicate (l - 2) none) st) := ev_fun rfl
theorem ev_fun3 (l : Nat) (b : SM) (x y z : D) (st : Sto) : funD 3 l b [x, y, z] st = SR.out (b (some x :: some y :: some z :: List.replicate (l - 3) none) st) := ev_fun rfl
theorem ev_fun4 (l : Nat) (b : SM) (x y z u : D) (st : Sto) : funD 4 l b [x, y, z, u] st = SR.out (b (some x :: some y :: some z :: some u :: List.replicate (l - 4) none) st) := ev_fun rfl
theorem ev_fun5 (l : Nat) (b : SM) (x y z u v : D) (st : Sto) : funD 5 l b [x, y, z, u, v] st = SR.out (b (some x :: some y :: some z :: some u :: some v :: List.replicate (l - 5) none) st) := ev_fun rfl
def C.seq : Option C → Option (List D)
  | some (.lst xs) => some xs
  | _ => none
theorem ev_seq (xs : List D) : C.seq (some (.lst xs)) = some xs := rfl
theorem lstOf_seq (st : Sto) (n : Nat) : lstOf st (.cell n) = C.seq st[n]? := by
  show (match st[n]? with | some (.lst xs) => some xs | _ => none) = _
  cases st[n]? with
  | none => rfl
  | some c => cases c <;> rfl
def ixO (o : Option (List D)) (i : Int) : Option D := match o with
  | some xs => atI xs i
  | none => none
theorem ev_ixO (xs : List D) (i : Int) : ixO (some xs) i = atI xs i := rfl
def setO (st : Sto) (n : Nat) (o : Option (List D)) (i : Int) (v : D) : Option Sto := match o with
  | some xs => (ixN xs.length i).map fun j => st.set n (.lst (xs.set j v))
  | none => none
theorem ev_atI0 {α : Type} (a : α) (r : List α) : atI (a :: r) 0 = some a := by
  unfold atI ixN
  rw [if_pos (by omega), if_pos (by simp <;> omega)]
  rfl
theorem ev_atI1 {α : Type} (a b : α) (r : List α) : atI (a :: b :: r) 1 = some b := by
  unfold atI ixN
  rw [if_pos (by omega), if_pos (by simp <;> omega)]
  rfl
theorem ev_atI2 {α : Type} (a b c : α) (r : List α) : atI (a :: b :: c :: r) 2 = some c := by
  unfold atI ixN
  rw [if_pos (by omega), if_pos (by simp <;> omega)]
  rfl
theorem ev_setAt (st : Sto) (n : Nat) (c : C) : (st.set n c)[n]? = (st[n]?).map fun _ => c := by
  by_cases h : n < st.length
  · rw [List.getElem?_set_self h, List.getElem?_eq_getElem h]; rfl
  · rw [List.getElem?_eq_none (by simpa using h), List.getElem?_eq_none (by omega)]; rfl
/-! operations, where the answer is plain -/
theorem orO_some {α : Type} (a : α) (o : Option α) : orO (some a) o = some a := rfl
theorem orO_none {α : Type} (o : Option α) : orO none o = o := rfl
section
variable (st : Sto) (i j : Int) (x y : Str)
theorem ev_addII : addD st (.int i) (.int j) = some (.int (i + j)) := rfl
theorem ev_addSS : addD st (.str x) (.str y) = if fits (x.length + y.length) = true then some (.str (x ++ y)) else none := by
  show orO (none : Option D) (orO (if fits (x.length + y.length) = true then some (D.str (x ++ y)) else none) (orO none none)) = _
  rw [orO_none]
  by_cases h : fits (x.length + y.length) = true
  · rw [if_pos h]; rfl
  · rw [if_neg h]; rfl
theorem ev_addTT (xs ys : List D) : addD st (.tup xs) (.tup ys) = if fits (xs.length + ys.length) = true then some (.tup (xs ++ ys)) else none := by
  show orO (none : Option D) (orO none (orO (if fits (xs.length + ys.length) = true then some (D.tup (xs ++ ys)) else none) none)) = _
  rw [orO_none, orO_none]
  by_cases h : fits (xs.length + ys.length) = true
  · rw [if_pos h]; rfl
  · rw [if_neg h]; rfl
theorem ev_addLL (xs ys : List D) : addD st (.lst xs) (.lst ys) = if fits (xs.length + ys.length) = true then some (.lst (xs ++ ys)) else none := rfl
theorem ev_subII : subI (.int i) (.int j) = some (.int (i - j)) := rfl
theorem ev_mulII : mulD st (.int i) (.int j) = orO (if mulOk i j = true then some (.int (i * j)) else none) none := rfl
theorem ev_mulII' (h : mulOk i j = true) : mulD st (.int i) (.int j) = some (.int (i * j)) := by rw [ev_mulII, if_pos h]; rfl
theorem ev_fdivII : fdivI (.int i) (.int j) = if divOk i j = true then some (.int (i / j)) else none := rfl
theorem ev_modII : modI (.int i) (.int j) = if modOk i j = true then some (.int (i % j)) else none := rfl
theorem ev_powII : powI (.int i) (.int j) = if powOk i j = true then some (.int (i ^ j.toNat)) else none := rfl
theorem ev_negI : negI (.int i) = some (.int (-i)) := rfl
theorem ev_ltII : ltD st (.int i) (.int j) = some (.bl (decide (i < j))) := rfl
theorem ev_leII : leD st (.int i) (.int j) = some (.bl (decide (i ≤ j))) := rfl
theorem ev_gtII : gtD st (.int i) (.int j) = some (.bl (decide (j < i))) := rfl
theorem ev_geII : geD st (.int i) (.int j) = some (.bl (decide (j ≤ i))) := rfl
theorem ev_ltSS : ltD st (.str x) (.str y) = some (.bl (decide (x.cps.toList < y.cps.toList))) := rfl
theorem ev_leSS : leD st (.str x) (.str y) = some (.bl (!decide (y.cps.toList < x.cps.toList))) := rfl
theorem ev_abs : absD st [.int i] = some (.int (if i < 0 then -i else i)) := rfl
theorem ev_max : maxD st [.int i, .int j] = some (.int (if j > i then j else i)) := rfl
theorem ev_min : minD st [.int i, .int j] = some (.int (if j < i then j else i)) := rfl
theorem ev_intI : intD st [.int i] = some (.int i) := rfl
theorem ev_intB (b : Bool) : intD st [.bl b] = some (.int (if b = true then 1 else 0)) := rfl
theorem ev_strI : strI st [.int i] = if decide (i.natAbs.log2 < 1920) = true then some (.str (toString i)) else none := rfl
theorem ev_lenS : lenD st [.str x] = if fits x.length = true then some (.int x.length) else none := rfl
theorem ev_lenT (ys : List D) : lenD st [.tup ys] = some (.int ys.length) := rfl
theorem ev_lenL (ys : List D) : lenD st [.lst ys] = some (.int ys.length) := rfl
theorem ev_lenR (ys : List D) : lenD st [.scr ys] = some (.int ys.length) := rfl
theorem ev_ixT (ys : List D) : ixD st (.tup ys) (.int i) = orO (atI ys i) (orO none none) := rfl
theorem ev_ixL (ys : List D) : ixD st (.lst ys) (.int i) = orO none (orO (atI ys i) none) := rfl
theorem ev_ixR (ys : List D) : ixD st (.scr ys) (.int i) = orO none (orO (atI ys i) none) := rfl
theorem ev_ixC (n : Nat) : ixD st (.cell n) (.int i) = orO none (orO (ixO (C.seq st[n]?) i) none) := by
  show orO none (orO (match lstOf st (.cell n), D.int i with | some xs, .int i => atI xs i | _, _ => none) none) = _
  rw [lstOf_seq]
  cases C.seq st[n]? <;> rfl
theorem ev_ixS : ixD st (.str x) (.int i) = orO none (orO none (if fits x.length = true then (atI x.cps.toList i).map fun c => .str ⟨#[c]⟩ else none)) := rfl
theorem ev_setIx (n : Nat) (v : D) : setIx st (.cell n) (.int i) v = setO st n (C.seq st[n]?) i v := by
  show (match st[n]? with | some (.lst xs) => (ixN xs.length i).map fun j => st.set n (.lst (xs.set j v)) | _ => none) = _
  cases st[n]? with
  | none => rfl
  | some c => cases c <;> rfl
theorem ev_setO0 (n : Nat) (a v : D) (r : List D) : setO st n (some (a :: r)) 0 v = some (st.set n (.lst (v :: r))) := by
  unfold setO ixN
  dsimp only
  rw [if_pos (by omega), if_pos (by simp <;> omega)]
  rfl
theorem ev_setO1 (n : Nat) (a b v : D) (r : List D) : setO st n (some (a :: b :: r)) 1 v = some (st.set n (.lst (a :: v :: r))) := by
  unfold setO ixN
  dsimp only
  rw [if_pos (by omega), if_pos (by simp <;> omega)]
  rfl
theorem ev_setO2 (n : Nat) (a b c v : D) (r : List D) : setO st n (some (a :: b :: c :: r)) 2 v = some (st.set n (.lst (a :: b :: v :: r))) := by
  unfold setO ixN
  dsimp only
  rw [if_pos (by omega), if_pos (by simp <;> omega)]
  rfl
theorem ev_lenC (n : Nat) : lenD st [.cell n] = (C.seq st[n]?).map fun ys => .int ys.length := by
  show (lstOf st (.cell n)).map (fun ys => D.int ys.length) = _
  rw [lstOf_seq]
end
theorem atI_nat {α : Type} {xs : List α} {i : Nat} {a : α} (h : xs[i]? = some a) : atI xs (i : Int) = some a := by
  have hl := (List.getElem?_eq_some_iff.mp h).1
  unfold atI ixN
  rw [if_pos (by omega), if_pos (by omega), Option.bind_some]
  simpa using h
theorem modOk_of {i j : Int} (h : 0 < j) : modOk i j = true := decide_eq_true h
theorem log2_of {i : Int} {n : Nat} (h : i.natAbs < 2 ^ n) (hn : 0 < n) : i.natAbs.log2 < n := by
  by_cases h0 : i.natAbs = 0
  · rw [h0]; simpa using hn
  · exact (Nat.log2_lt h0).mpr h
theorem divOk_of {i j : Int} {n : Nat} (h : 0 < j) (hb : j.natAbs < 2 ^ n) (h0 : 0 < n) (hn : n ≤ 9000) : divOk i j = true := by
  unfold divOk
  rw [Bool.and_eq_true, decide_eq_true_eq, decide_eq_true_eq]
  exact ⟨h, Nat.lt_of_lt_of_le (log2_of hb h0) hn⟩
theorem mulOk_of {i j : Int} {n m : Nat} (hi : i.natAbs < 2 ^ n) (hj : j.natAbs < 2 ^ m) (h0 : 0 < n) (h1 : 0 < m) (h : n + m ≤ 1000000) : mulOk i j = true := by
  unfold mulOk
  rw [decide_eq_true_eq]
  have := log2_of hi h0
  have := log2_of hj h1
  omega
theorem fits_of {n : Nat} (h : n ≤ 16777216) : fits n = true := decide_eq_true h
theorem join_some {α : Type} (o : Option α) : (some o).join = o := rfl
end L3
namespace L3
open PySem PySem.Spec PyProof.Rows L2

/-! ## The kinds of data, for isinstance -/
theorem kit_NoneType_int : kitB "NoneType" "int" = some false := by decide +kernel
theorem kit_NoneType_bool : kitB "NoneType" "bool" = some false := by decide +kernel
theorem kit_NoneType_str : kitB "NoneType" "str" = some false := by decide +kernel
theorem kit_NoneType_tuple : kitB "NoneType" "tuple" = some false := by decide +kernel
theorem kit_NoneType_list : kitB "NoneType" "list" = some false := by decide +kernel
theorem kit_NoneType_dict : kitB "NoneType" "dict" = some false := by decide +kernel
theorem kit_bool_int : kitB "bool" "int" = some true := by decide +kernel
theorem kit_bool_bool : kitB "bool" "bool" = some true := by decide +kernel
theorem kit_bool_str : kitB "bool" "str" = some false := by decide +kernel
theorem kit_bool_tuple : kitB "bool" "tuple" = some false := by decide +kernel
theorem kit_bool_list : kitB "bool" "list" = some false := by decide +kernel
theorem kit_bool_dict : kitB "bool" "dict" = some false := by decide +kernel
theorem kit_int_int : kitB "int" "int" = some true := by decide +kernel
theorem kit_int_bool : kitB "int" "bool" = some false := by decide +kernel
theorem kit_int_str : kitB "int" "str" = some false := by decide +kernel
theorem kit_int_tuple : kitB "int" "tuple" = some false := by decide +kernel
theorem kit_int_list : kitB "int" "list" = some false := by decide +kernel
theorem kit_int_dict : kitB "int" "dict" = some false := by decide +kernel
theorem kit_str_int : kitB "str" "int" = some false := by decide +kernel
theorem kit_str_bool : kitB "str" "bool" = some false := by decide +kernel
theorem kit_str_str : kitB "str" "str" = some true := by decide +kernel
theorem kit_str_tuple : kitB "str" "tuple" = some false := by decide +kernel
theorem kit_str_list : kitB "str" "list" = some false := by decide +kernel
theorem kit_str_dict : kitB "str" "dict" = some false := by decide +kernel
theorem kit_tuple_int : kitB "tuple" "int" = some false := by decide +kernel
theorem kit_tuple_bool : kitB "tuple" "bool" = some false := by decide +kernel
theorem kit_tuple_str : kitB "tuple" "str" = some false := by decide +kernel
theorem kit_tuple_tuple : kitB "tuple" "tuple" = some true := by decide +kernel
theorem kit_tuple_list : kitB "tuple" "list" = some false := by decide +kernel
theorem kit_tuple_dict : kitB "tuple" "dict" = some false := by decide +kernel
theorem kit_list_int : kitB "list" "int" = some false := by decide +kernel
theorem kit_list_bool : kitB "list" "bool" = some false := by decide +kernel
theorem kit_list_str : kitB "list" "str" = some false := by decide +kernel
theorem kit_list_tuple : kitB "list" "tuple" = some false := by decide +kernel
theorem kit_list_list : kitB "list" "list" = some true := by decide +kernel
theorem kit_list_dict : kitB "list" "dict" = some false := by decide +kernel
theorem kit_dict_int : kitB "dict" "int" = some false := by decide +kernel
theorem kit_dict_bool : kitB "dict" "bool" = some false := by decide +kernel
theorem kit_dict_str : kitB "dict" "str" = some false := by decide +kernel
theorem kit_dict_tuple : kitB "dict" "tuple" = some false := by decide +kernel
theorem kit_dict_list : kitB "dict" "list" = some false := by decide +kernel
theorem kit_dict_dict : kitB "dict" "dict" = some true := by decide +kernel
section
variable (st : Sto)
theorem ty_non : tyN st .non = "NoneType" := rfl
theorem ty_bl (b : Bool) : tyN st (.bl b) = "bool" := rfl
theorem ty_int (i : Int) : tyN st (.int i) = "int" := rfl
theorem ty_str (x : Str) : tyN st (.str x) = "str" := rfl
theorem ty_tup (xs : List D) : tyN st (.tup xs) = "tuple" := rfl
theorem ty_lst (xs : List D) : tyN st (.lst xs) = "list" := rfl
theorem ty_scr (xs : List D) : tyN st (.scr xs) = "list" := rfl
theorem ty_dic (xs : List (Key × D)) : tyN st (.dic xs) = "dict" := rfl
end
def kIsi (T' : String) : D → M D := fun x st => R.ofO (if tyN st x = "" then none else (kitB (tyN st x) T').map .bl) st
theorem ev_isi' (T' : String) (a : EM) (env : DEnv) (st : Sto) : eIsi T' a env st = R.go (a env st) (kIsi T') := by
  rw [ev_isi]
  rfl
theorem ev_kIsi {T' t : String} {x : D} {st : Sto} (h : tyN st x = t) (h0 : (t == "") = false) : kIsi T' x st = R.ofO ((kitB t T').map .bl) st := by
  unfold kIsi
  rw [h, if_neg (by simpa using h0)]
section
variable (T' : String) (st : Sto)
theorem ev_isi_non : kIsi T' .non st = R.ofO ((kitB "NoneType" T').map .bl) st := ev_kIsi rfl rfl
theorem ev_isi_bl (b : Bool) : kIsi T' (.bl b) st = R.ofO ((kitB "bool" T').map .bl) st := ev_kIsi rfl rfl
theorem ev_isi_int (i : Int) : kIsi T' (.int i) st = R.ofO ((kitB "int" T').map .bl) st := ev_kIsi rfl rfl
theorem ev_isi_str (x : Str) : kIsi T' (.str x) st = R.ofO ((kitB "str" T').map .bl) st := ev_kIsi rfl rfl
theorem ev_isi_tup (xs : List D) : kIsi T' (.tup xs) st = R.ofO ((kitB "tuple" T').map .bl) st := ev_kIsi rfl rfl
theorem ev_isi_lst (xs : List D) : kIsi T' (.lst xs) st = R.ofO ((kitB "list" T').map .bl) st := ev_kIsi rfl rfl
theorem ev_isi_scr (xs : List D) : kIsi T' (.scr xs) st = R.ofO ((kitB "list" T').map .bl) st := ev_kIsi rfl rfl
theorem ev_isi_dic (xs : List (Key × D)) : kIsi T' (.dic xs) st = R.ofO ((kitB "dict" T').map .bl) st := ev_kIsi rfl rfl
end

/-! ## Loops -/
theorem forD_nil (c : Src) (g : D → DEnv → Option DEnv) (b : SM) (e : DEnv) (s : Sto) : forD c g b [] e s = if c.ok s = true then .nx e s else .bad := rfl
theorem forD_inv {c : Src} {g : D → DEnv → Option DEnv} {b : SM} {items : List D} (Inv : Nat → DEnv → Sto → Prop) {e : DEnv} {s : Sto} (h0 : Inv 0 e s) (hc : ∀ i e s, Inv i e s → c.ok s = true)
    (turn : ∀ i d e s, items[i]? = some d → Inv i e s → ∃ e1, g d e = some e1 ∧ ∃ e2 s2, (b e1 s = .nx e2 s2 ∨ b e1 s = .ct e2 s2) ∧ Inv (i + 1) e2 s2) : ∃ e' s', forD c g b items e s = .nx e' s' ∧ Inv items.length e' s' := by
  suffices h : ∀ (xs : List D) (i : Nat) (e : DEnv) (s : Sto), i ≤ items.length → items.drop i = xs → Inv i e s → ∃ e' s', forD c g b xs e s = .nx e' s' ∧ Inv items.length e' s' from h items 0 e s (Nat.zero_le _) (by simp) h0
  intro xs
  induction xs with
  | nil =>
    intro i e s hle hd hi
    have hl : items.length ≤ i := by
      have := congrArg List.length hd
      rw [List.length_drop] at this
      simp at this
      omega
    have hz : i = items.length := by omega
    subst hz
    exact ⟨e, s, by rw [forD_nil, if_pos (hc _ e s hi)], hi⟩
  | cons x xs ih =>
    intro i e s hle hd hi
    have hx : items[i]? = some x := by
      have := congrArg (·[0]?) hd
      simpa using this
    have hlt : i < items.length := (List.getElem?_eq_some_iff.mp hx).1
    have hxs : items.drop (i + 1) = xs := by
      have := congrArg (List.drop 1) hd
      rw [List.drop_drop] at this
      simpa [Nat.add_comm] using this
    obtain ⟨e1, hg, e2, s2, hb, h2⟩ := turn i x e s hx hi
    obtain ⟨e', s', h3, h4⟩ := ih (i + 1) e2 s2 hlt hxs h2
    refine ⟨e', s', ?_, h4⟩
    show (if c.ok s = true then (match g x e with
      | none => SR.bad
      | some e1 => match b e1 s with
        | .nx e2 s2 => forD c g b xs e2 s2
        | .ct e2 s2 => forD c g b xs e2 s2
        | .bk e2 s2 => .nx e2 s2
        | .rt d s2 => .rt d s2
        | .ex y e2 s2 => .ex y e2 s2
        | .bad => .bad) else .bad) = _
    rw [if_pos (hc i e s hi), hg]
    dsimp only
    rcases hb with hb | hb
    · rw [hb]; exact h3
    · rw [hb]; exact h3
theorem rngD_length (lo hi : Int) : (rngD lo hi).length = (hi - lo).toNat := by unfold rngD; simp
theorem rngD_get {lo hi : Int} {i : Nat} {d : D} (h : (rngD lo hi)[i]? = some d) : d = .int (lo + i) ∧ i < (hi - lo).toNat := by
  unfold rngD at h
  rw [List.getElem?_map] at h
  by_cases hl : i < (hi - lo).toNat
  · rw [List.getElem?_range hl] at h
    cases h
    exact ⟨rfl, hl⟩
  · rw [List.getElem?_eq_none (by simpa using hl)] at h
    cases h
theorem small62_of {i : Int} (h : -4611686018427387904 ≤ i) (h' : i < 4611686018427387904) : small62 i = true := by
  unfold small62
  rw [Bool.and_eq_true, decide_eq_true_eq, decide_eq_true_eq]
  exact ⟨h, h'⟩
/-! ## Numbers -/
theorem ev_fits_00 : fits 0 = true := rfl
theorem ev_fits_01 : fits 1 = true := rfl
theorem ev_fits_02 : fits 2 = true := rfl
theorem ev_fits_03 : fits 3 = true := rfl
theorem ev_fits_04 : fits 4 = true := rfl
theorem ev_fits_05 : fits 5 = true := rfl
theorem ev_fits_06 : fits 6 = true := rfl
theorem ev_fits_07 : fits 7 = true := rfl
theorem ev_fits_08 : fits 8 = true := rfl
theorem ev_fits_09 : fits 9 = true := rfl
theorem ev_fits_10 : fits 10 = true := rfl
theorem ev_fits_11 : fits 11 = true := rfl
theorem ev_fits_12 : fits 12 = true := rfl
theorem ev_fits_13 : fits 13 = true := rfl
theorem ev_fits_14 : fits 14 = true := rfl
theorem ev_fits_15 : fits 15 = true := rfl
theorem ev_fits_16 : fits 16 = true := rfl
theorem ev_fits_17 : fits 17 = true := rfl
theorem ev_fits_18 : fits 18 = true := rfl
theorem ev_fits_19 : fits 19 = true := rfl
theorem ev_fits_20 : fits 20 = true := rfl
theorem ev_fits_21 : fits 21 = true := rfl
theorem ev_fits_22 : fits 22 = true := rfl
theorem ev_fits_23 : fits 23 = true := rfl
theorem ev_fits_24 : fits 24 = true := rfl
theorem ev_fits_25 : fits 25 = true := rfl
theorem ev_fits_26 : fits 26 = true := rfl
theorem ev_fits_27 : fits 27 = true := rfl
theorem ev_fits_28 : fits 28 = true := rfl
theorem ev_fits_29 : fits 29 = true := rfl
theorem ev_fits_30 : fits 30 = true := rfl
theorem ev_fits_31 : fits 31 = true := rfl
theorem ev_fits_32 : fits 32 = true := rfl

theorem natAbs_lt {i : Int} {n : Nat} (h0 : 0 ≤ i) (h : i < 2 ^ n) : i.natAbs < 2 ^ n := by
  have : ((i.natAbs : Nat) : Int) = i := Int.natAbs_of_nonneg h0
  have h2 : ((i.natAbs : Nat) : Int) < ((2 ^ n : Nat) : Int) := by rw [this]; simpa using h
  exact Int.ofNat_lt.mp h2
theorem emod_abs {x m : Int} {n : Nat} (h : 0 < m) (hm : m ≤ 2 ^ n) : (x % m).natAbs < 2 ^ n := natAbs_lt (Int.emod_nonneg _ (by omega)) (Int.lt_of_lt_of_le (Int.emod_lt_of_pos _ h) hm)
theorem abs_if (i : Int) : (if i < 0 then -i else i) = (i.natAbs : Int) := by
  split <;> omega
end L3
namespace L3
open PySem PySem.Spec PyProof.Rows L2

/-! ## Equality of data -/
section
variable (st : Sto) (i j : Int) (x y : Str)
theorem ev_eqII : eqD st (.int i) (.int j) = some (.bl (decide (i = j))) := rfl
theorem ev_neII : neD st (.int i) (.int j) = some (.bl (!decide (i = j))) := rfl
theorem ev_eqSS : eqD st (.str x) (.str y) = some (.bl (decide (x = y))) := rfl
theorem ev_neSS : neD st (.str x) (.str y) = some (.bl (!decide (x = y))) := rfl
end
def D.cmp : Nat → D → Bool
  | _, .non => true
  | _, .bl _ => true
  | _, .int _ => true
  | _, .str x => PyData.strOk x
  | 0, _ => false
  | n + 1, .tup xs => xs.all (D.cmp n)
  | n + 1, .lst xs => xs.all (D.cmp n)
  | n + 1, .scr xs => xs.all (D.cmp n)
  | _ + 1, _ => false
def pnI (b : Bool) : Int := if b = true then 1 else 0
mutual
def pn : PyData → D
  | .none => .non
  | .bool b => .int (pnI b)
  | .int i => .int i
  | .str x => .str x
  | .list xs => .lst (pns xs)
  | .tuple xs => .tup (pns xs)
  | .dict _ => .dic []
def pns : List PyData → List D
  | [] => []
  | x :: xs => pn x :: pns xs
end
mutual
def D.norm : D → D
  | .non => .non
  | .bl b => .int (pnI b)
  | .int i => .int i
  | .str x => .str x
  | .tup xs => .tup (D.norms xs)
  | .lst xs => .lst (D.norms xs)
  | .scr xs => .lst (D.norms xs)
  | .dic _ => .dic []
  | .cell n => .cell n
def D.norms : List D → List D
  | [] => []
  | x :: xs => D.norm x :: D.norms xs
end
theorem norms_map (xs : List D) : D.norms xs = xs.map D.norm := by
  induction xs with
  | nil => rfl
  | cons x xs ih => rw [D.norms, ih, List.map_cons]
theorem pnI_inj (a b : Bool) : (pnI a = pnI b) ↔ a = b := by cases a <;> cases b <;> decide
theorem pnI_beq (a : Bool) (j : Int) : ((if a = true then 1 else 0) == j) = true ↔ pnI a = j := by unfold pnI; rw [beq_iff_eq]
theorem pnI_beq' (a : Bool) (j : Int) : (j == (if a = true then 1 else 0)) = true ↔ j = pnI a := by unfold pnI; rw [beq_iff_eq]
mutual
theorem eqv_iff : ∀ p q : PyData, p.hasDict = false → (PyData.eqv p q = true ↔ pn p = pn q)
  | .none, q, _ => by cases q <;> simp [PyData.eqv, pn]
  | .bool a, q, _ => by
    cases q with
    | bool b => rw [PyData.eqv, pn, pn, D.int.injEq, pnI_inj, beq_iff_eq]
    | int j => rw [PyData.eqv, pn, pn, D.int.injEq, pnI_beq]
    | _ => simp [PyData.eqv, pn]
  | .int i, q, _ => by cases q <;> simp [PyData.eqv, pn, pnI_beq', pnI]
  | .str x, q, _ => by cases q <;> simp [PyData.eqv, pn]
  | .list xs, q, h => by
    rw [PyData.hasDict] at h
    cases q with
    | list ys => rw [PyData.eqv, pn, pn, eqvs_iff xs ys h]; exact ⟨fun e => by rw [e], fun e => D.lst.inj e⟩
    | _ => simp [PyData.eqv, pn]
  | .tuple xs, q, h => by
    rw [PyData.hasDict] at h
    cases q with
    | tuple ys => rw [PyData.eqv, pn, pn, eqvs_iff xs ys h]; exact ⟨fun e => by rw [e], fun e => D.tup.inj e⟩
    | _ => simp [PyData.eqv, pn]
  | .dict _, _, h => by rw [PyData.hasDict] at h; cases h
theorem eqvs_iff : ∀ xs ys : List PyData, PyData.hasDictAll xs = false → (PyData.eqvAll xs ys = true ↔ pns xs = pns ys)
  | [], ys, _ => by cases ys <;> simp [PyData.eqvAll, pns]
  | x :: xs, ys, h => by
    rw [PyData.hasDictAll, Bool.or_eq_false_iff] at h
    cases ys with
    | nil => simp [PyData.eqvAll, pns]
    | cons y ys => rw [PyData.eqvAll, pns, pns, Bool.and_eq_true, eqv_iff x y h.1, eqvs_iff xs ys h.2, List.cons.injEq]
end
mutual
theorem pn_py : ∀ {x : D} {p : PyData}, D.py x = some p → pn p = x.norm
  | .non, _, h => by rw [D.py] at h; cases h; rfl
  | .bl b, _, h => by rw [D.py] at h; cases h; rfl
  | .int i, _, h => by rw [D.py] at h; cases h; rfl
  | .str x, _, h => by rw [D.py] at h; cases h; rfl
  | .tup xs, _, h => by
    rw [D.py] at h
    cases e : D.pys xs with
    | none => rw [e] at h; cases h
    | some ps => rw [e] at h; cases h; rw [pn, D.norm, pns_pys e]
  | .lst xs, _, h => by
    rw [D.py] at h
    cases e : D.pys xs with
    | none => rw [e] at h; cases h
    | some ps => rw [e] at h; cases h; rw [pn, D.norm, pns_pys e]
  | .scr xs, _, h => by
    rw [D.py] at h
    cases e : D.pys xs with
    | none => rw [e] at h; cases h
    | some ps => rw [e] at h; cases h; rw [pn, D.norm, pns_pys e]
  | .dic _, _, h => by rw [D.py] at h; cases h
  | .cell _, _, h => by rw [D.py] at h; cases h
theorem pns_pys : ∀ {xs : List D} {ps : List PyData}, D.pys xs = some ps → pns ps = D.norms xs
  | [], _, h => by rw [D.pys] at h; cases h; rfl
  | x :: xs, _, h => by
    rw [D.pys] at h
    cases e : D.py x with
    | none => rw [e] at h; cases h
    | some p =>
      rw [e] at h
      cases e2 : D.pys xs with
      | none => rw [Option.bind_some, e2] at h; cases h
      | some ps => rw [Option.bind_some, e2] at h; cases h; rw [pns, D.norms, pn_py e, pns_pys e2]
end
theorem cmps_py {n : Nat} (ih : ∀ x : D, D.cmp n x = true → ∃ p, D.py x = some p ∧ p.canLay0 = true ∧ p.depth ≤ n) : ∀ {xs : List D}, xs.all (D.cmp n) = true → ∃ ps, D.pys xs = some ps ∧ PyData.canLayAll0 ps = true ∧ PyData.depthAll ps ≤ n
  | [], _ => ⟨[], by rw [D.pys], by rw [PyData.canLayAll0], by rw [PyData.depthAll]; omega⟩
  | x :: xs, h => by
    rw [List.all_cons, Bool.and_eq_true] at h
    obtain ⟨p, h1, h2, h3⟩ := ih x h.1
    obtain ⟨ps, h4, h5, h6⟩ := cmps_py ih h.2
    exact ⟨p :: ps, by rw [D.pys, h1, h4]; rfl, by rw [PyData.canLayAll0, h2, h5]; rfl, by rw [PyData.depthAll]; omega⟩
theorem cmp_py : ∀ {n : Nat} {x : D}, D.cmp n x = true → ∃ p, D.py x = some p ∧ p.canLay0 = true ∧ p.depth ≤ n
  | _, .non, _ => ⟨_, by rw [D.py], by rw [PyData.canLay0], by rw [PyData.depth]; omega⟩
  | _, .bl _, _ => ⟨_, by rw [D.py], by rw [PyData.canLay0], by rw [PyData.depth]; omega⟩
  | _, .int _, _ => ⟨_, by rw [D.py], by rw [PyData.canLay0], by rw [PyData.depth]; omega⟩
  | n, .str x, h => ⟨_, by rw [D.py], by rw [PyData.canLay0]; cases n <;> exact h, by rw [PyData.depth]; omega⟩
  | n + 1, .tup xs, h => by
    obtain ⟨ps, h4, h5, h6⟩ := cmps_py (n := n) (fun x hx => cmp_py hx) h
    exact ⟨_, by rw [D.py, h4]; rfl, by rw [PyData.canLay0, h5], by rw [PyData.depth]; omega⟩
  | n + 1, .lst xs, h => by
    obtain ⟨ps, h4, h5, h6⟩ := cmps_py (n := n) (fun x hx => cmp_py hx) h
    exact ⟨_, by rw [D.py, h4]; rfl, by rw [PyData.canLay0, h5], by rw [PyData.depth]; omega⟩
  | n + 1, .scr xs, h => by
    obtain ⟨ps, h4, h5, h6⟩ := cmps_py (n := n) (fun x hx => cmp_py hx) h
    exact ⟨_, by rw [D.py, h4]; rfl, by rw [PyData.canLay0, h5], by rw [PyData.depth]; omega⟩
  | 0, .tup _, h => nomatch h
  | 0, .lst _, h => nomatch h
  | 0, .scr _, h => nomatch h
  | 0, .dic _, h => nomatch h
  | 0, .cell _, h => nomatch h
  | _ + 1, .dic _, h => nomatch h
  | _ + 1, .cell _, h => nomatch h
theorem topPy_cmp {n : Nat} {x : D} (st : Sto) (h : D.cmp n x = true) : topPy st x = D.py x := by
  cases x with
  | cell m => cases n <;> exact nomatch h
  | _ => rfl
theorem shaped_cmp {n : Nat} {p : PyData} (h : p.canLay0 = true) (h' : p.depth ≤ n) (hn : n ≤ 64) : SeqAt.shaped p = true := by
  unfold SeqAt.shaped
  rw [h, decide_eq_true (Nat.le_trans h' hn)]
  rfl
theorem eqP_of {n m : Nat} {x y : D} {b : Bool} (st : Sto) (hx : D.cmp n x = true) (hy : D.cmp m y = true) (hn : n ≤ 64) (hm : m ≤ 64) (hb : b = true ↔ x.norm = y.norm) : eqP st x y = some (.bl b) ∧ neP st x y = some (.bl (!b)) := by
  obtain ⟨p, h1, h2, h3⟩ := cmp_py hx
  obtain ⟨q, h4, h5, h6⟩ := cmp_py hy
  have hd : p.hasDict = false := PyData.hasDict_of_canLay p h2
  have he : PyData.eqv p q = b := by
    rw [Bool.eq_iff_iff, eqv_iff p q hd, pn_py h1, pn_py h4, hb]
  unfold eqP neP
  rw [topPy_cmp st hx, topPy_cmp st hy, h1, h4, Option.bind_some, Option.bind_some, Option.bind_some, Option.bind_some, shaped_cmp h2 h3 hn, shaped_cmp h5 h6 hm, he]
  exact ⟨rfl, rfl⟩
theorem eqD_of {n m : Nat} {x y : D} {b : Bool} (st : Sto) (hx : D.cmp n x = true) (hy : D.cmp m y = true) (hn : n ≤ 64) (hm : m ≤ 64) (hb : b = true ↔ x.norm = y.norm) : eqD st x y = some (.bl b) ∧ neD st x y = some (.bl (!b)) := by
  obtain ⟨h1, h2⟩ := eqP_of st hx hy hn hm hb
  unfold eqD neD
  rw [h1, h2]
  have ei : ∀ i j : Int, (D.int i).norm = (D.int j).norm ↔ i = j := fun i j => by rw [D.norm, D.norm, D.int.injEq]
  have es : ∀ i j : Str, (D.str i).norm = (D.str j).norm ↔ i = j := fun i j => by rw [D.norm, D.norm, D.str.injEq]
  cases x with
  | int i =>
    cases y with
    | int j =>
      rw [ei] at hb
      have : decide (i = j) = b := by rw [Bool.eq_iff_iff, decide_eq_true_eq, hb]
      subst this
      exact ⟨rfl, rfl⟩
    | _ => exact ⟨rfl, rfl⟩
  | str i =>
    cases y with
    | str j =>
      rw [es] at hb
      have : decide (i = j) = b := by rw [Bool.eq_iff_iff, decide_eq_true_eq, hb]
      subst this
      exact ⟨rfl, rfl⟩
    | _ => exact ⟨rfl, rfl⟩
  | _ => exact ⟨rfl, rfl⟩
theorem eqD_same {n : Nat} {x : D} (st : Sto) (hx : D.cmp n x = true) (hn : n ≤ 64 := by decide) : eqD st x x = some (.bl true) := (eqD_of (b := true) st hx hx hn hn (iff_of_true rfl rfl)).1
theorem neD_same {n : Nat} {x : D} (st : Sto) (hx : D.cmp n x = true) (hn : n ≤ 64 := by decide) : neD st x x = some (.bl false) := (eqD_of (b := true) st hx hx hn hn (iff_of_true rfl rfl)).2
theorem eqD_norm {n m : Nat} {x y : D} (st : Sto) (hx : D.cmp n x = true) (hy : D.cmp m y = true) (h : x.norm = y.norm) (hn : n ≤ 64 := by decide) (hm : m ≤ 64 := by decide) : eqD st x y = some (.bl true) := (eqD_of (b := true) st hx hy hn hm (iff_of_true rfl h)).1
theorem eqD_diff {n m : Nat} {x y : D} (st : Sto) (hx : D.cmp n x = true) (hy : D.cmp m y = true) (h : x.norm ≠ y.norm) (hn : n ≤ 64 := by decide) (hm : m ≤ 64 := by decide) : eqD st x y = some (.bl false) := (eqD_of (b := false) st hx hy hn hm (iff_of_false (by decide) h)).1
theorem neD_diff {n m : Nat} {x y : D} (st : Sto) (hx : D.cmp n x = true) (hy : D.cmp m y = true) (h : x.norm ≠ y.norm) (hn : n ≤ 64 := by decide) (hm : m ≤ 64 := by decide) : neD st x y = some (.bl true) := (eqD_of (b := false) st hx hy hn hm (iff_of_false (by decide) h)).2

/-! ## repr -/
def D.shw : Nat → D → Bool
  | _, .non => true
  | _, .bl _ => true
  | _, .int i => decide (i.natAbs.log2 < 1920)
  | _, .str x => PyData.strOk x
  | 0, _ => false
  | n + 1, .tup xs => xs.all (D.shw n)
  | n + 1, .lst xs => xs.all (D.shw n)
  | n + 1, .scr xs => xs.all (D.shw n)
  | _ + 1, _ => false
mutual
def D.bd : D → Nat
  | .non => 4
  | .bl _ => 5
  | .int _ => 1921
  | .str x => 10 * x.length + 2
  | .tup xs => D.bds xs + 3
  | .lst xs => D.bds xs + 3
  | .scr xs => D.bds xs + 3
  | .dic _ => 0
  | .cell _ => 0
def D.bds : List D → Nat
  | [] => 0
  | x :: xs => D.bd x + 2 + D.bds xs
end
theorem shws_py {n : Nat} (ih : ∀ x : D, D.shw n x = true → ∃ p, D.py x = some p ∧ p.canLay0 = true ∧ p.depth ≤ n ∧ p.showable = true ∧ p.shown.length ≤ x.bd) : ∀ {xs : List D}, xs.all (D.shw n) = true →
    ∃ ps, D.pys xs = some ps ∧ PyData.canLayAll0 ps = true ∧ PyData.depthAll ps ≤ n ∧ PyData.showableAll ps = true ∧ ((PyData.shownAll ps).map (·.length)).sum + 2 * ps.length ≤ D.bds xs
  | [], _ => ⟨[], by rw [D.pys], by rw [PyData.canLayAll0], by rw [PyData.depthAll]; omega, by rw [PyData.showableAll], by rw [PyData.shownAll]; exact Nat.zero_le _⟩
  | x :: xs, h => by
    rw [List.all_cons, Bool.and_eq_true] at h
    obtain ⟨p, h1, h2, h3, h7, h8⟩ := ih x h.1
    obtain ⟨ps, h4, h5, h6, h9, h10⟩ := shws_py ih h.2
    refine ⟨p :: ps, by rw [D.pys, h1, h4]; rfl, by rw [PyData.canLayAll0, h2, h5]; rfl, by rw [PyData.depthAll]; omega, by rw [PyData.showableAll, h7, h9]; rfl, ?_⟩
    rw [PyData.shownAll, List.map_cons, List.sum_cons, List.length_cons, D.bds]
    omega
theorem shw_py : ∀ {n : Nat} {x : D}, D.shw n x = true → ∃ p, D.py x = some p ∧ p.canLay0 = true ∧ p.depth ≤ n ∧ p.showable = true ∧ p.shown.length ≤ x.bd
  | _, .non, _ => ⟨_, by rw [D.py], by rw [PyData.canLay0], by rw [PyData.depth]; omega, by rw [PyData.showable], by rw [PyData.shown, D.bd]; decide⟩
  | _, .bl b, _ => ⟨_, by rw [D.py], by rw [PyData.canLay0], by rw [PyData.depth]; omega, by rw [PyData.showable], by rw [PyData.shown, D.bd]; cases b <;> decide⟩
  | n, .int i, h => by
    have h' : i.natAbs.log2 < 1920 := by cases n <;> exact of_decide_eq_true h
    refine ⟨_, by rw [D.py], by rw [PyData.canLay0], by rw [PyData.depth]; omega, by rw [PyData.showable]; exact decide_eq_true h', ?_⟩
    have e := int_text_length_le (k := 1920) (by decide) h'
    show (Str.ofString (toString i)).length ≤ 1921
    rw [PySem.ofString_length]; exact e
  | n, .str x, h => by
    have h' : PyData.strOk x = true := by cases n <;> exact h
    refine ⟨_, by rw [D.py], by rw [PyData.canLay0]; exact h', by rw [PyData.depth]; omega, by rw [PyData.showable], ?_⟩
    refine StrLaws.reprText_len x fun c hc => ?_
    have := Array.all_eq_true_iff_forall_mem.mp h' c (Array.mem_toList_iff.mp hc)
    have := of_decide_eq_true this
    omega
  | n + 1, .tup xs, h => by
    obtain ⟨ps, h4, h5, h6, h9, h10⟩ := shws_py (n := n) (fun x hx => shw_py hx) h
    refine ⟨_, by rw [D.py, h4]; rfl, by rw [PyData.canLay0, h5], by rw [PyData.depth]; omega, by rw [PyData.showable, h9], ?_⟩
    have := tupleText_len_le (PyData.shownAll ps)
    rw [PyData.shownAll_length] at this
    show (tupleText (PyData.shownAll ps)).length ≤ D.bds xs + 3
    omega
  | n + 1, .lst xs, h => by
    obtain ⟨ps, h4, h5, h6, h9, h10⟩ := shws_py (n := n) (fun x hx => shw_py hx) h
    refine ⟨_, by rw [D.py, h4]; rfl, by rw [PyData.canLay0, h5], by rw [PyData.depth]; omega, by rw [PyData.showable, h9], ?_⟩
    have := listText_len_le (PyData.shownAll ps)
    rw [PyData.shownAll_length] at this
    show (listText (PyData.shownAll ps)).length ≤ D.bds xs + 3
    omega
  | n + 1, .scr xs, h => by
    obtain ⟨ps, h4, h5, h6, h9, h10⟩ := shws_py (n := n) (fun x hx => shw_py hx) h
    refine ⟨_, by rw [D.py, h4]; rfl, by rw [PyData.canLay0, h5], by rw [PyData.depth]; omega, by rw [PyData.showable, h9], ?_⟩
    have := listText_len_le (PyData.shownAll ps)
    rw [PyData.shownAll_length] at this
    show (listText (PyData.shownAll ps)).length ≤ D.bds xs + 3
    omega
  | 0, .tup _, h => nomatch h
  | 0, .lst _, h => nomatch h
  | 0, .scr _, h => nomatch h
  | 0, .dic _, h => nomatch h
  | 0, .cell _, h => nomatch h
  | _ + 1, .dic _, h => nomatch h
  | _ + 1, .cell _, h => nomatch h
def D.show (x : D) : Str := match D.py x with
  | some p => p.shown
  | none => ""
theorem repr_of {n : Nat} {x : D} (st : Sto) (h : D.shw n x = true) (hb : x.bd ≤ 16777216) (hn : n ≤ 64 := by decide) : reprD st [x] = some (.str x.show) := by
  obtain ⟨p, h1, h2, h3, h4, h5⟩ := shw_py h
  have ht : topPy st x = some p := by
    rw [← h1]
    cases x with
    | cell m => cases n <;> exact nomatch h
    | _ => rfl
  have hs : x.show = p.shown := by unfold D.show; rw [h1]
  show (topPy st x).bind _ = _
  rw [ht, Option.bind_some, h4, PyData.hasDict_of_canLay p h2, decide_eq_true (Nat.le_trans h3 hn), fits_of (Nat.le_trans h5 hb), hs]
  rfl
theorem bds_le {B : Nat} : ∀ {xs : List D}, (∀ x ∈ xs, x.bd ≤ B) → D.bds xs ≤ (B + 2) * xs.length
  | [], _ => Nat.zero_le _
  | x :: xs, h => by
    have h1 := h x (List.mem_cons_self ..)
    have h2 := bds_le fun y hy => h y (List.mem_cons_of_mem _ hy)
    rw [D.bds, List.length_cons, Nat.mul_add]
    omega
theorem intText_len {n : Nat} {k : Nat} (hk : 1 ≤ k) : ((Str.ofString (toString ((n : Nat) : Int))).length ≤ k) ↔ n < 10 ^ k := by
  have e : (Str.ofString (toString ((n : Nat) : Int))).length = (Nat.toDigits 10 n).length := by
    rw [PySem.ofString_length]
    show (Nat.repr n).length = _
    unfold Nat.repr
    exact String.length_ofList
  rw [e]
  constructor
  · intro h
    by_cases hn : n < 10 ^ k
    · exact hn
    · have := digits10_ge (Nat.le_of_not_lt hn)
      omega
  · exact fun h => digits10_le hk h
end L3
namespace L3
open PySem PySem.Spec PyProof.Rows L2

/-! ## A def with a promise of another kind -/
section
variable {P : Program} {w : World} {K : PySem.W.Frag} {mg : Str → Option Value} {base : Heap}
theorem fn_gen {x qual : Str} {st : Stmt} {f : Addr} {fd : FuncData} {N ps : List Str} {k : Nat} {sp : Sp} (F : Fun K x qual st f fd) (S : FnScope N ps (defScope st)) (len : ∀ vs H Q E, sp vs H Q E → vs.length = ps.length)
    (hb : ∀ (cdv : Value) (A : Around) (outer : List Env) (s : Shared) (H : Hp) (E : XK), RoomG k (A.deeper (envOfC qual (defScope st) s.heap.objs.size f cdv)) →
      ∃ t : TS, PSs (cxOf (L2.CX P w) P w K mg base N qual (defScope st) f cdv A outer s H E) (defBody st) t ∧ ∀ vs Q, sp vs H Q E → t { nx := fun _ H' => Q .non H', rt := Q } (L2.start N vs) H) : FnG P w K mg base (k + 1) f fd ps sp := by
  obtain ⟨oc, od, kV, doc, pm, an, cdv, ct, osl, rfl, lk, hcd⟩ := F.ex
  refine ⟨len, fun A outer s H args us vs Q E hr e0 hbi rv hsp => ?_⟩
  have hl := len _ _ _ _ hsp
  have kx : K.In s.heap := e0.mod.kin.keeps fun a o e => (e0.bs a o e).1
  have nl : s.heap.NoLimit := e0.mod.nolimit.keeps fun a o e => (e0.bs a o e).1
  have pl : ∀ y ∈ ps.zip us, (defScope st).names.lookup y.1 = some .local ∨ ((defScope st).names.lookup y.1 = some .cell ∧
      ((cellsFrom (s.heap.objs.size + 1) (defScope st).names []).lookup y.1).isSome = true) := fun ⟨n, v⟩ hy => by
    rcases S.par n (List.of_mem_zip hy).1 with q | q
    · exact .inl q
    · exact .inr ⟨q, PySem.W.cellsFrom_some _ _ _ (.inl q)⟩
  refine codeAny_call_function hr.r.depth (kx _ _ lk) rfl S.co S.gen rfl (PySem.W.codeRec_of kx hcd) (hbi _ _ _ _ ?_)
  refine wpAny_newFunctionEnv_cells S.kind pl fun env he s1 x => ?_
  subst he
  refine ⟨nl.keeps x.toInCall.keep, codeAny_func ?_⟩
  obtain ⟨t, ht, hq⟩ := hb cdv A outer s H E ⟨hr.r.deeper _, hr.g⟩
  have I0 : Inv (cxOf (L2.CX P w) P w K mg base N qual (defScope st) f cdv A outer s H E) [] (L2.start N vs) H s1 := inv_start S hr.r.hd e0 hl rv x
  refine wpAny_mono (ht.run [] s1 (L2.start N vs) H _ I0 (hq vs Q hsp)) (fun fl s' hs => ?_) fun e s' hs => hs
  match fl, hs with
  | .ret u, ⟨v, σ', H', J, rv', q⟩ => exact ⟨v, H', J.os, J.bare, J.base, J.hok, rv', q⟩
  | .next, ⟨σ', H', J, q⟩ => exact ⟨.non, H', J.os, J.bare, J.base, J.hok, rfl, q⟩
  | .brk, ⟨_, _, _, q⟩ => exact False.elim q
  | .cont, ⟨_, _, _, q⟩ => exact False.elim q
end

/-! ## Exceptions of the program, with an __init__ that keeps one field -/
/-- what the written part says of such a class -/
structure XcI (K : PySem.W.Frag) (C : Addr) (bmB : List Value) (newId : String) (f : Str) : Prop where
  q : PySem.W.excInitIn K C bmB newId = true
  ov : PySem.W.excOver K C bmB = true
  sa : PySem.W.findIn K (.ref C) "__setattr__" = some (some (.builtin "object.__setattr__"))
  tk : PySem.W.takerIn K C f = some none
  hd : PySem.W.hasDictIn K C = true
  exC : PySem.W.subIn K (.ref C) (.type "BaseException") = some true
  tyC : PySem.W.typeIn K (.ref C) = some (.type "type")
  kC : PySem.W.keepIn K (.ref C) = true
section
variable {X : Cx} {pins : List (Addr × Obj)} {σ : L2.St} {H : Hp} {s : Shared} {a C : Addr} {f : Str} {y : V} {u : Value} {bmB : List Value} {B newId : String} {Q : Unit → Shared → Prop} {E : Value → Shared → Prop} {A : Around}
theorem store_first {hp : Heap} {g : Array GenState} {d : Drawn} {t : Nat} {os : OsState} {M : Model} {x : Addr} {fv : Array Value} {cd : ClassData} {tk : Tok} {v : Value} {b : Bool} {R : Fin → Shared → Prop}
    (hx : hp.get? x = some { cls := .ref C, data := .fields fv }) (hc : PySem.W.Looks M hp (classData C) cd) (hh : cd.hasDict = true)
    (hq : ∀ h' tk' dx, (∀ b o, b ≠ x → hp.get? b = some o → h'.get? b = some o) → hp.objs.size ≤ dx → dx ≠ x → h'.get? x = some { cls := .ref C, dict := some dx, data := .fields fv } →
      h'.Ns1 dx (fun z => if z = f then some v else none) → R (.done (.ret .none)) ⟨h', g, d, tk', os⟩) :
    wpAny M A (Builtin.ObjectAttr.storeInOwnDict (.ref x) (.ref C) (.str f tk) f v b) R E ⟨hp, g, d, t, os⟩ := by
  have hxs : x ≠ hp.objs.size := Nat.ne_of_lt (Heap.lt_size hx)
  obtain ⟨nm, bs, mro, ns, qn, hd, sn, sb, ab, col, dl⟩ := cd
  dsimp only at hh
  subst hh
  unfold Builtin.ObjectAttr.storeInOwnDict Builtin.ObjectAttr.ownDictForStores
  repeat (first | with_reducible refine HandSPX.store_in_new ?_ ?_ | with_reducible refine wpAny_loadPart_at hx ?_ | with_reducible refine hc.at ?_ | wp_step)
  · refine ⟨_, #[], _, (Heap.get?_update_ne _ _ _ _ hxs.symm).trans (Heap.get?_push_at rfl rfl), rfl, fun e he => ?_, fun _ => rfl⟩
    exact absurd he (by simp)
  · intro h' tk' hn' hs
    have hx1 : (hp.push { cls := .type "dict", data := .dict #[] }).get? x = some { cls := .ref C, data := .fields fv } := Heap.get?_push_of_some _ hx
    refine hq h' tk' hp.objs.size (fun c o hc ho => ?_) (Nat.le_refl _) hxs.symm ((hs.2 x hxs).trans (Heap.get?_update_self _ hx1 rfl)) hn'
    rw [hs.2 c (Nat.ne_of_lt (Heap.lt_size ho)), Heap.get?_update_ne _ _ _ _ hc]
    exact Heap.get?_push_of_some _ ho
theorem has_of {K : PySem.W.Frag} (h : PySem.W.hasDictIn K C = true) : ∃ cd, PySem.W.clsIn K C = some cd ∧ cd.hasDict = true := by
  unfold PySem.W.hasDictIn at h
  cases e : PySem.W.clsIn K C with
  | none => rw [e] at h; cases h
  | some cd => rw [e] at h; exact ⟨cd, rfl, h⟩
/-- self.f = y, into a fresh exception -/
theorem ost1 (SF : StoreFacts B bmB "object.__setattr__" "object") (T : XcI X.K C bmB newId f) (I : Inv X pins σ H s) (e : H a = some (exo a C none)) (ry : RelV y u)
    (h : ∀ dx s', H dx = none → dx ≠ a → Inv X pins σ (upd (upd H dx (exd dx [(f, y)])) a (exo a C (some dx))) s' → Q () s') : wpAny (model X.prog X.w) A (setAttr (.ref a) f u) Q E s := by
  obtain ⟨cd, hcl, hcd⟩ := has_of T.hd
  obtain ⟨t1, ho⟩ := exo_at I.hok e
  obtain ⟨hp, g, d, t, os⟩ := s
  have J : PySem.W.InstAt hp a { cls := .ref C, dict := none, data := .fields #[.ref t1, .none, .none, .none, .bool false, .none] } C none := ⟨ho, rfl, rfl, trivial⟩
  refine PySem.W.set_plain I.kIn J T.sa ?_
  refine PySem.W.osa_openX SF I.kIn J T.ov T.tk fun b => ?_
  refine store_first ho (PySem.W.looks_clsIn I.kIn hcl) hcd fun h' tk' dx kp dn dne hx hn => ?_
  have n1 : H dx = none := I.hok.fresh dn
  have n2 : ∀ {c : Addr} {o : Obj}, hp.get? c = some o → c ≠ dx := fun z => Nat.ne_of_lt (Nat.lt_of_lt_of_le (Heap.lt_size z) dn)
  have n3 : ∀ {c : Addr}, H c = none → c ≠ a := fun z w => by rw [w, e] at z; cases z
  have ko : ∀ {c : Addr} {o : HO}, H c = some o → o ≠ exo a C none → upd (upd H dx (exd dx [(f, y)])) a (exo a C (some dx)) c = some o := fun {c o} z w => by
    have z1 : c ≠ a := fun w2 => w (by rw [w2, e] at z; cases z; rfl)
    rw [upd_ne z1, upd_ne (ne_of_none z n1)]
    exact z
  have U : Un X.fs [] H (upd (upd H dx (exd dx [(f, y)])) a (exo a C (some dx))) hp h' := by
    refine ⟨fun c o z n _ _ => kp c o (n3 n) z, fun c o z n _ _ => ⟨o.slots, kp c o (n3 n) z⟩, fun c o z n _ => ?_, fun c o z _ => ?_, fun c xs z => ko z (Ne.symm exo_tup), fun c o v z => ko z (Ne.symm exo_frz), fun c ps z => ⟨#[], ?_⟩⟩
    · rw [upd_ne (n3 n), upd_ne (n2 z)]
      exact n
    · by_cases w : c = a
      · rw [w]; exact ⟨_, hx⟩
      · exact ⟨o, kp c o w z⟩
    · rw [ko z (Ne.symm exo_tbl)]
      simp
  refine h dx _ n1 dne (I.un (t' := tk') U fun c o z => ?_)
  by_cases w : c = a
  · subst w
    rw [upd_same] at z
    cases z
    exact exo_ok hx
  rw [upd_ne w] at z
  by_cases w2 : c = dx
  · subst w2
    rw [upd_same] at z
    cases z
    exact exd_ok hn (relO_put (fs := []) ry fun _ => True.intro)
  rw [upd_ne w2] at z
  refine (I.hok c o z).stay (fun b v hb y => kp b v (fun w3 => ?_) y) (fun b hb => ko hb (Ne.symm exo_own)) fun b xs hb => ko hb (Ne.symm exo_tup)
  rcases hb with hb | hb
  · exact w (by rw [← hb, w3])
  · rw [w3, e] at hb
    exact exo_own (Option.some.inj hb)
end
/-- self.f = e in an __init__ -/
def tOst1 (C : Addr) (f : Str) (to te : TE) : TS := fun D σ H => te σ H fun y H1 => to σ H1 fun x H2 => ∃ a : Addr, x = .ref a ∧ H2 a = some (exo a C none) ∧
  ∀ dx, H2 dx = none → dx ≠ a → D.nx σ (upd (upd H2 dx (exd dx [(f, y)])) a (exo a C (some dx)))
/-- what such an __init__ does -/
def spIn (C : Addr) (f : Str) : Sp := fun vs H Q _ => ∃ a y, vs = [.ref a, y] ∧ H a = some (exo a C none) ∧ ∀ dx, H dx = none → dx ≠ a → Q .non (upd (upd H dx (exd dx [(f, y)])) a (exo a C (some dx)))
section
variable {X : Cx} {C : Addr} {f : Str} {bmB : List Value} {B newId initId : String} {o e : Expr} {to te : TE} {p' pos : Pos}
theorem ps_ost1 (SF : StoreFacts B bmB "object.__setattr__" "object") (T : XcI X.K C bmB newId f) (ho : PE X o to) (he : PE X e te) (hs : swapsWith e (some (.Attribute o f p')) pos.line X.env = pure false := by rfl) : PS X (.Assign [.Attribute o f p'] e pos) (tOst1 C f to te) := by
  refine ⟨fun pins s σ H D I h => plainObj_wpAny_Assign_Attribute (thn (he.run pins s σ H _ I h) fun v s1 hv => ?_) hs⟩
  obtain ⟨y, H1, I1, r1, q1⟩ := hv
  refine thn (ho.run pins s1 σ H1 _ I1 q1) fun u s2 hu => ?_
  obtain ⟨x, H2, I2, r2, a, ex, ea, q⟩ := hu
  subst ex
  cases (show u = Value.ref a from r2)
  exact ost1 SF T I2 ea r1 fun dx s' n ne J => ⟨σ, _, J, q dx n ne⟩
theorem RoomG.make {k : Nat} {A : Around} (r : RoomG (k + 1) A) (C : Addr) (us : List Value) (kw : List (Str × Value)) : RoomG k (A.under (.builtin "type.__call__" ⟨.ref C :: us, kw⟩)) := ⟨r.r.make C us kw, r.g⟩
/-- C(e): the exception that keeps e's value -/
theorem pmk_fld {x par : Str} {fI : Addr} {k : Nat} {fd : FuncData} {p : Pos} (FB : ExcBaseFacts B newId initId bmB) (T : XcI X.K C bmB newId f) (iC : PySem.W.findIn X.K (.ref C) "__init__" = some (some (.ref fI))) (tI : PySem.W.typeIn X.K (.ref fI) = some (.type "function"))
    (F1 : FnG X.prog X.w X.K X.mg X.base k fI fd ["self", par] (spIn C f)) (hr : RoomG (k + 1) X.A) (hb : Binds X.K fd ["self", par] []) (hg : Gl X x) (hm : X.mg x = some (.ref C)) (he : PE X e te)
    (hdb : (x == ("__debug__" : Str)) = false := by decide) (hs : starEach [e] X.env = (false, eval e X.env) :: starEach [] X.env := by rfl) :
    PMk X (.Call (.Name x p) [e] [] pos) (fun σ H Q => te σ H fun v H1 => ∀ d, H1 d = none → Q (.ref C) (some d) (upd H1 d (.xd [(f, v)]))) := by
  intro pins s σ H Q I h
  refine wpAny_Call_Name_kw (ld_glob I hg hm ?_ hdb)
  refine PySem.W.callWith_K (h₀ := X.base) I.ok.mod.kin T.kC ?_ hs (by rfl)
  rw [hs]
  show wpAny _ _ (spliced ((false, eval e X.env) :: backTo pos (starEach [] X.env))) _ _ s
  refine Calls.spliced_cons (thn (he.run pins s σ H _ I h) fun u s1 hu => ?_)
  obtain ⟨v, H1, I1, r1, q1⟩ := hu
  refine Calls.spliced_nil ⟨I1.kIn, ?_⟩
  show wpAny _ _ (call (.ref C) [u]) _ _ _
  obtain ⟨nm, N, qn, bs, bm, hdct, sn, sub, ab, col, dd, k0, k1, k2, k3, k5, hC, hT⟩ := PySem.W.excInit_of I1.kIn T.q
  obtain ⟨hp, g, dr, tk, os⟩ := s1
  have big : hp.objs.size ≤ hp.objs.size + 1 := Nat.le_succ _
  have hn : H1 (hp.objs.size + 1) = none := I1.hok.fresh big
  have kk : ∀ b o, hp.get? b = some o → ((hp.push (PySem.W.kdv_tup [u])).push (PySem.HandSPX.excO C hp.objs.size)).get? b = some o := fun b o z => Heap.get?_push_of_some _ (Heap.get?_push_of_some _ z)
  have hget : ((hp.push (PySem.W.kdv_tup [u])).push (PySem.HandSPX.excO C hp.objs.size)).get? (hp.objs.size + 1) = some (PySem.HandSPX.excO C hp.objs.size) := by heap_get
  have I2 := I1.laid (t' := tk) (a := hp.objs.size + 1) (o := exo (hp.objs.size + 1) C none) (h' := (hp.push (PySem.W.kdv_tup [u])).push (PySem.HandSPX.excO C hp.objs.size)) kk big (exo_ok hget)
  have r2 : Vals [V.ref (hp.objs.size + 1), v] [Value.ref (hp.objs.size + 1), u] := .cons rfl (.cons r1 .nil)
  have hus : [u].length ≤ sizeLine := by
    rw [sizeLine_eq]
    exact (by decide : 1 ≤ 16777216)
  have hb' := hb _ [Value.ref (hp.objs.size + 1), u] I2.kIn rfl
  rw [List.append_nil] at hb'
  refine wpAny_call (PySem.HandSPX.call_own FB hT hC (PySem.W.looks_findIn I1.kIn iC) (fun self => PySem.W.bind_fn I1.kIn self tI) hus (codeAny_mono (F1.run _ X.stack _ _ ⟨[Value.ref (hp.objs.size + 1), u], []⟩ [Value.ref (hp.objs.size + 1), u] _
    (fun z H2 => z = .non ∧ ∃ dx, H1 dx = none ∧ dx ≠ hp.objs.size + 1 ∧ H2 = upd (upd (upd H1 (hp.objs.size + 1) (exo (hp.objs.size + 1) C none)) dx (exd dx [(f, v)])) (hp.objs.size + 1) (exo (hp.objs.size + 1) C (some dx))) (fun _ _ _ => False)
    (hr.make C [u] []) (I2.env0.make C [u] []) hb' r2 ⟨_, v, rfl, upd_same, fun dx z ne => ⟨rfl, dx, by rw [upd_ne ne] at z; exact z, ne, rfl⟩⟩) fun r s' hq' => ?_))
  match r, hq' with
  | .error er, hq' =>
    obtain ⟨_, _, _, _, _, _, _, _, _, _, _, _, hE⟩ := hq'
    exact hE.elim
  | .ok (.ret z), hq' =>
    obtain ⟨v2, H2, os2, bare2, un2, hok2, rv, ev, dx, n1, ne, rfl⟩ := hq'
    subst ev
    obtain ⟨h2, g2, d2, t2, os'⟩ := s'
    refine ⟨rv, mk_end (raises_own T.exC T.tyC) I1 big kk un2 hok2 os2 bare2 upd_same (by rw [upd_ne ne, upd_same]) n1 ?_⟩
    have := q1 dx n1
    refine cast (congrArg (Q (.ref C) (some dx)) (funext fun b => ?_)) this
    by_cases w1 : b = dx
    · rw [w1, upd_same, upd_same]
    · rw [upd_ne w1, upd_ne w1]
      by_cases w2 : b = hp.objs.size + 1
      · rw [w2, del_same, hn]
      · rw [del_ne w2, upd_ne w2, upd_ne w1, upd_ne w2]
  | .ok .next, hq' => exact False.elim hq'
  | .ok .brk, hq' => exact False.elim hq'
  | .ok .cont, hq' => exact False.elim hq'
end
end L3
namespace L3
open PySem PySem.Spec PyProof.Rows L2

/-! ## raise -/
def kRaise (cn f : Str) : D → SM := fun d env st => .ex ⟨cn, [(f, d)]⟩ env st
def sRaise (cn : Str) : SM := fun env st => .ex ⟨cn, []⟩ env st
def sRaiseF (cn f : Str) (m : EM) : SM := sE m (kRaise cn f)
theorem ev_sRaise (cn : Str) (env : DEnv) (st : Sto) : sRaise cn env st = .ex ⟨cn, []⟩ env st := rfl
theorem ev_sRaiseF (cn f : Str) (m : EM) (env : DEnv) (st : Sto) : sRaiseF cn f m env st = R.toS (m env st) env (kRaise cn f) := ev_sE _ _ _ _
theorem ev_kRaise (cn f : Str) (d : D) (env : DEnv) (st : Sto) : kRaise cn f d env st = .ex ⟨cn, [(f, d)]⟩ env st := rfl
section
variable {X : Cx} {T : CT} {W : WX} {e : Expr} {me : EM} {pos pos' p : Pos} {C : Addr} {cn f x : Str} {bmB : List Value} {B newId initId : String}
theorem ds_raiseM {m : Str} {j : Nat} {p2 : Pos} (F : ExcBaseFacts B newId initId bmB) (q : PySem.W.excIn X.K C bmB newId = true) (gC : X.mg x = some (.ref C)) (kC : PySem.W.keepIn X.K (.ref C) = true) (r : Raises X (.ref C)) (hT : T.addr cn = some C) (tk : Takes X W)
    (hg : Gl X x := by rfl) (hc : X.calm = true := by rfl) (hdb : (x == ("__debug__" : Str)) = false := by decide) : DS X T W (.Raise (some (.Call (.Name x p) [.Constant (.str m) j p2] [] pos)) none pos') (sRaise cn) :=
  DS.of (ps_raise hc tk (pmk_own F q gC kC r hg hdb)) fun Dd σ H G ι st env w r p => p (.ref C) none σ G ι H .refl w r ⟨C, hT, rfl, .inl ⟨rfl, rfl⟩⟩
theorem ds_raiseF {par : Str} {fI : Addr} {k : Nat} {fd : FuncData} (FB : ExcBaseFacts B newId initId bmB) (Tx : XcI X.K C bmB newId f) (iC : PySem.W.findIn X.K (.ref C) "__init__" = some (some (.ref fI))) (tI : PySem.W.typeIn X.K (.ref fI) = some (.type "function"))
    (F1 : FnG X.prog X.w X.K X.mg X.base k fI fd ["self", par] (spIn C f)) (hr : RoomG (k + 1) X.A) (hb : Binds X.K fd ["self", par] []) (gC : X.mg x = some (.ref C)) (hT : T.addr cn = some C) (tk : Takes X W) (he : DE X T W e me)
    (hg : Gl X x := by rfl) (hc : X.calm = true := by rfl) (hdb : (x == ("__debug__" : Str)) = false := by decide) (hs : starEach [e] X.env = (false, eval e X.env) :: starEach [] X.env := by rfl) :
    DS X T W (.Raise (some (.Call (.Name x p) [e] [] pos)) none pos') (sRaiseF cn f me) :=
  DS.of (ps_raise hc tk (pmk_fld FB Tx iC tI F1 hr hb hg gC he hdb hs)) fun Dd σ H G ι st env w r p => ⟨G, ι, st, env, w, r, PostS.bindE r p fun d st1 v G1 ι1 H1 x1 w1 r1 p1 dd hd =>
    p1 (.ref C) (some dd) σ _ ι1 _ (w1.fzExt hd _) (w1.fz hd _) ((r.mono x1).mono (w1.fzExt hd _)) ⟨C, hT, rfl, .inr ⟨dd, [(f, v)], rfl, upd_same, .cons ((w1.fzExt hd _).dv r1) .nil⟩⟩⟩
end

/-! ## try, with clauses of both kinds -/
/-- the ends of a suite whose name i goes -/
def unD (o : Option Nat) (D : Ends) : Ends := match o with
  | none => D
  | some i => { nx := fun σ H => D.nx (σ.set i none) H, rt := D.rt, bk := fun σ H => D.bk (σ.set i none) H, ct := fun σ H => D.ct (σ.set i none) H }
def inD' (o : Option Nat) (a : Addr) (σ : L2.St) : L2.St := match o with
  | none => σ
  | some i => σ.set i (some (.ref a))
abbrev Cls := Value × Option Nat × (Addr → Value → Option Addr → TS)
def wMix (K : PySem.W.Frag) (Wout : WX) (D : Ends) : List Cls → WX
  | [] => Wout
  | (c, o, ts) :: r => fun cls d σ H => ∃ b, PySem.W.exmOne K cls c = some b ∧ (b = true → ∀ a, H a = none → ts a cls d (unD o D) (inD' o a σ) H) ∧ (b = false → wMix K Wout D r cls d σ H)
inductive HdsM (X : Cx) : List ExceptHandler → List Cls → Prop
  | nil : HdsM X [] []
  | one {x : Str} {c : Value} {ts : Addr → Value → Option Addr → TS} {b₀ : Stmt} {suite : List Stmt} {np pos' : Pos} {hds : List ExceptHandler} {l : List Cls} (hc : Names X x c)
      (hsu : ∀ (a : Addr) (oe : Obj) (cls : Value) (d : Option Addr) (pn : List (Addr × Obj)), Zc cls d oe → (∃ vs, oe.data = .fields vs) → PSs (X.suite a ((a, oe) :: pn)) (b₀ :: suite) (ts a cls d)) (r : HdsM X hds l) :
      HdsM X (.ExceptHandler (some (.Name x np)) none (b₀ :: suite) pos' :: hds) ((c, none, ts) :: l)
  | as {x n : Str} {i : Nat} {c : Value} {ts : Addr → Value → Option Addr → TS} {b₀ : Stmt} {suite : List Stmt} {np pos' : Pos} {hds : List ExceptHandler} {l : List Cls} (hN : X.N.Nodup) (hi : X.N[i]? = some n) (hln : X.env.kindOf n = some .local) (hc : Names X x c)
      (hsu : ∀ (a : Addr) (oe : Obj) (cls : Value) (d : Option Addr) (pn : List (Addr × Obj)), Zc cls d oe → (∃ vs, oe.data = .fields vs) → PSs (X.suite a ((a, oe) :: pn)) (b₀ :: suite) (ts a cls d)) (r : HdsM X hds l) :
      HdsM X (.ExceptHandler (some (.Name x np)) (some n) (b₀ :: suite) pos' :: hds) ((c, some i, ts) :: l)
section
variable {X : Cx} {pins : List (Addr × Obj)} {D : Ends} {Wout : WX} {B h3 : Heap} {a : Addr} {sI s' : Shared} {σ' : L2.St} {H' : Hp} {cls : Value} {d : Option Addr}
/-- the clauses, one after the other, over an exception that is on the ground -/
theorem clauses_go (hs : X.stack = X.env :: X.outer) (hf : X.env.frame = some X.env.locals) (tk : Takes X Wout) (ok : X.Ok) (J : Inv X pins σ' H' sI) (nb : ∀ b o, sI.heap.get? b = some o → b ∉ frs X.stack → B.get? b = some o) (up : sI.heap.UpToSlots s'.heap) (na : H' a = none) (os : s'.os = sI.os) (ag : AllBare s'.gens)
    (fl3 : HandSPX.FlyingZ B (X.env :: X.outer) a (Zc cls d) h3) (up3 : s'.heap.UpToSlots h3) {hds : List ExceptHandler} {l : List Cls} (hk : HdsM X hds l) (w : wMix X.K Wout D l cls d σ' H') :
    wpAny (model X.prog X.w) X.A (handleBy (.ref a) X.env hds) (SP X pins D) X.xe { s' with heap := h3 } := by
  have J3 : Inv X pins σ' H' { s' with heap := h3 } := J.landed nb fl3.1 (up.trans up3) os ag
  obtain ⟨oe3, vs3, he3, hz3, hd3⟩ := fl3.there
  have nfr : a ∉ frs (X.env :: X.outer) := fun hm => by
    obtain ⟨_, o', e', hnf⟩ := fl3.2.2.1.mem hm
    rw [he3] at e'
    cases e'
    exact hnf _ hd3
  have nL : a ≠ X.env.locals := fun z => nfr (List.mem_filterMap.mpr ⟨X.env, List.mem_cons_self, by rw [hf, z]⟩)
  have nF : a ∉ X.fs := fun hm => by
    obtain ⟨v, hv, q⟩ := List.mem_filterMap.mp hm
    exact nfr (List.mem_filterMap.mpr ⟨v, List.mem_cons_of_mem _ hv, q⟩)
  have S3 := J3.suite he3 hd3 na nL nF
  have LT : PySem.W.Looks (model X.prog X.w) h3 (typeOf (.ref a)) cls := fun A Q E s k q => wpAny_typeOf_ref (k _ _ he3) (by rw [hz3.1]; exact q)
  have look : ∀ {x : Str} {c : Value} {np : Pos} {Q : Value → Shared → Prop} {E : Value → Shared → Prop}, Names X x c → Q c { s' with heap := h3 } →
      wpAny (model X.prog X.w) (X.A.mark (some (.ref a))) (eval (.Name x np) X.env) Q E { s' with heap := h3 } := fun {x c np Q E} hc q => by
    obtain ⟨hg, hdbg, hm | ⟨hm, hv, hnn⟩⟩ := hc
    · exact ld_glob (X := X.suite a ((a, oe3) :: (X.pn ++ pins))) S3 hg hm q hdbg
    · exact ld_blt (X := X.suite a ((a, oe3) :: (X.pn ++ pins))) S3 hg hm hv q hnn hdbg
  induction hk with
  | nil =>
    refine wpAny_handleBy_nil ?_
    obtain ⟨k1, k2, k3, oe, vs, T, oT, ts', he, hz, hd, h1, hr⟩ := id fl3
    unfold PySem.passOn
    refine wpAny_bind (wpAny_field he hd h1 ?_)
    rw [if_neg (show ¬ ((Value.ref T == Value.none) = true) from by simp)]
    have fin : wpAny (model X.prog X.w) X.A (setFlight (.ref a) X.env.frame) (fun _ s4 => wpAny (model X.prog X.w) X.A (throw (.ref a) : Sem Flow) (SP X pins D) X.xe s4) X.xe { s' with heap := h3 } := by
      rw [hf]
      exact HandSPX.setFlight_upZ fl3 fun h4 hh4 up4 => wpAny_throw (tk _ _ ⟨a, B, sI, pins, σ', H', cls, d, rfl, J, nb, (up.trans up3).trans up4, .inr (.inr (by rw [hs]; exact hh4)), na, os, ag, w⟩)
    first
      | exact wpAny_bind (wpAny_pure (wpAny_bind fin))
      | exact wpAny_bind fin
  | @one x c ts b₀ suite np pos' hds2 l2 hc hsu r ih =>
    obtain ⟨b, hb1, hyes, hno⟩ := w
    refine wpAny_handleBy_cons (codeAny_handlers_test ?_) (by intro q; cases q)
    refine look hc ((PySem.W.exm_one (M := model X.prog X.w) (J3.kIn) LT hb1).here ?_)
    cases b with
    | false => exact ih (hno rfl)
    | true =>
      refine codeAny_handlers_suite (HandSPX.lands_againZ fl3 fun h4 fl4 up4 => ?_)
      have J4 : Inv X pins σ' H' { s' with heap := h4 } := J.landed nb fl4.1 ((up.trans up3).trans up4) os ag
      obtain ⟨oe4, vs4, he4, hz4, hd4⟩ := fl4.there
      refine wpAny_mono ((hsu a oe4 cls d (X.pn ++ pins) hz4 ⟨_, hd4⟩).run [] _ _ H' _ (J4.suite he4 hd4 na nL nF) (hyes rfl a na)) (fun fl s6 hsp => ?_) (fun _ _ z => False.elim z)
      match fl, hsp with
      | .next, ⟨σ6, H6, S6, q6⟩ => exact ⟨_, _, S6.unsuite ok, q6⟩
      | .brk, ⟨σ6, H6, S6, q6⟩ => exact ⟨_, _, S6.unsuite ok, q6⟩
      | .cont, ⟨σ6, H6, S6, q6⟩ => exact ⟨_, _, S6.unsuite ok, q6⟩
      | .ret u, ⟨v6, σ6, H6, S6, r6, q6⟩ => exact ⟨_, _, _, S6.unsuite ok, r6, q6⟩
  | @as x n i c ts b₀ suite np pos' hds2 l2 hN hi hln hc hsu r ih =>
    obtain ⟨b, hb1, hyes, hno⟩ := w
    refine wpAny_handleBy_cons (codeAny_handlers_test ?_) (by intro q; cases q)
    refine look hc ((PySem.W.exm_one (M := model X.prog X.w) (J3.kIn) LT hb1).here ?_)
    cases b with
    | false => exact ih (hno rfl)
    | true =>
      refine codeAny_handlers_suite_as (HandSPX.lands_againZ fl3 fun h4 fl4 up4 => ?_)
      have J4 : Inv X pins σ' H' { s' with heap := h4 } := J.landed nb fl4.1 ((up.trans up3).trans up4) os ag
      obtain ⟨oe4, vs4, he4, hz4, hd4⟩ := fl4.there
      refine store_ok (X := X.suite a ((a, oe4) :: (X.pn ++ pins))) (v := .ref a) (J4.suite he4 hd4 na nL nF) hN hi (.inl hln) rfl (fun s5 S5 => ?_) (.inr hln)
      refine wpAny_mono ((hsu a oe4 cls d (X.pn ++ pins) hz4 ⟨_, hd4⟩).run [] s5 _ H' _ S5 (hyes rfl a na)) (fun fl s6 hsp => ?_) (fun _ _ z => False.elim z)
      match fl, hsp with
      | .next, ⟨σ6, H6, S6, q6⟩ => exact gone_ok (S6.unsuite ok) hN hi hln fun s7 J7 => ⟨_, _, J7, q6⟩
      | .brk, ⟨σ6, H6, S6, q6⟩ => exact gone_ok (S6.unsuite ok) hN hi hln fun s7 J7 => ⟨_, _, J7, q6⟩
      | .cont, ⟨σ6, H6, S6, q6⟩ => exact gone_ok (S6.unsuite ok) hN hi hln fun s7 J7 => ⟨_, _, J7, q6⟩
      | .ret u, ⟨v6, σ6, H6, S6, r6, q6⟩ => exact gone_ok (S6.unsuite ok) hN hi hln fun s7 J7 => ⟨_, _, _, J7, r6, q6⟩
theorem ps_try_mix {body : List Stmt} {h₀ : ExceptHandler} {hds : List ExceptHandler} {l : List Cls} {pos : Pos} {tb : WX → TS} (hs : X.stack = X.env :: X.outer) (hf : X.env.frame = some X.env.locals) (tk : Takes X Wout)
    (hb : ∀ (W : WX) (pn : List (Addr × Obj)) (xe : Value → Shared → Prop), Takes (X.tr pn xe) W → PassesOwn (model X.prog X.w) X.A X.env xe → PSs (X.tr pn xe) body (tb W))
    (hh : HdsM X (h₀ :: hds) l) : PS X (.Try body (h₀ :: hds) [] [] pos) (fun D σ H => tb (wMix X.K Wout D l) D σ H) := by
  refine ⟨fun pins s σ H D I h => ?_⟩
  have ok := I.ok
  have hfr : X.A.frames = some (X.env :: X.outer) := by rw [ok.frames, hs]
  refine wpAny_Try_except (wpAny_mono ((hb (wMix X.K Wout D l) (X.pn ++ pins) _ (fun u s' xx => ?_) PassesOwn.looking).run [] s σ H D (I.toTry _) h) (fun f s1 hsp => ?_) (fun e s1 he => he))
  · obtain ⟨a, B, sI, pins', σ', H', cls, d, rfl, J', nb, up, sky, na, os, ag, w⟩ := xx
    have sky' : Sky B (X.env :: X.outer) a (Zc cls d) X.env.locals s'.heap := by rw [← hs]; exact sky
    exact Sky.land Zc.steady hfr hf sky' fun h3 fl3 up3 => clauses_go hs hf tk ok (J'.ofTry ok) nb up na os ag fl3 up3 hh w
  · match f, hsp with
    | .next, ⟨σ', H', J', q⟩ => exact wpAny_execs_nil ⟨σ', H', J'.ofTry ok, q⟩
    | .brk, ⟨σ', H', J', q⟩ => exact ⟨σ', H', J'.ofTry ok, q⟩
    | .cont, ⟨σ', H', J', q⟩ => exact ⟨σ', H', J'.ofTry ok, q⟩
    | .ret u, ⟨v, σ', H', J', r, q⟩ => exact ⟨v, σ', H', J'.ofTry ok, r, q⟩
end

/-! ## try, over data -/
/-- a clause: which classes it takes (by name), its name's slot, its suite (told by the fields) -/
structure Hd where
  is : Str → Bool
  slot : Option Nat
  run : List (Str × D) → SM
def clr (o : Option Nat) (e : DEnv) : DEnv := match o with
  | none => e
  | some i => e.set i none
def unS (o : Option Nat) : SR → SR
  | .nx e s => .nx (clr o e) s
  | .bk e s => .bk (clr o e) s
  | .ct e s => .ct (clr o e) s
  | .rt d s => .rt d s
  | .ex _ _ _ => .bad
  | .bad => .bad
def handD : List Hd → Ex → SM
  | [], x => fun env st => .ex x env st
  | h :: r, x => fun env st => if h.is x.cls = true then (if (h.slot.isSome && x.fs.isEmpty) = true then .bad else unS h.slot (h.run x.fs (clr h.slot env) st)) else handD r x env st
def sTry (b : SM) (hs : List Hd) : SM := fun env st => match b env st with
  | .ex x e s => handD hs x e s
  | r => r
/-- n.f in the suite of except .. as n -/
def eXf (i : Nat) (fs : List (Str × D)) (f : Str) : EM := fun env st => match env[i]?, fs.lookup f with
  | some none, some d => .ok d st
  | _, _ => .bad
theorem DVf.look {K : PySem.W.Frag} {G : Hp} {ι : List Addr} {f : Str} {d : D} : ∀ {vs : List (Str × V)} {ds : List (Str × D)}, DVf K G ι vs ds → ds.lookup f = some d → ∃ v, vs.lookup f = some v ∧ DV K G ι v d
  | _, _, .nil, h => by cases h
  | _, _, .cons (k := k) r rs, h => by
    rw [List.lookup_cons] at h ⊢
    by_cases e : (f == k) = true
    · rw [e] at h ⊢
      cases h
      exact ⟨_, rfl, r⟩
    · rw [Bool.not_eq_true] at e
      rw [e] at h ⊢
      exact rs.look h
section
variable {X : Cx} {T : CT} {W : WX}
theorem de_xf {a C dd : Addr} {oe : Obj} {cls : Value} {d : Option Addr} {pn : List (Addr × Obj)} {i : Nat} {fs : List (Str × D)} {x n : Str} {p pos : Pos} (hz : Zc cls d oe) (hf : ∃ vs, oe.data = .fields vs) (hcur : T.cur = some (i, a, dd, fs)) (hd : d = some dd) (hcl : cls = .ref C)
    (Tc : XfC X.K C) (hno : PySem.W.findIn X.K (.ref C) n = some none) (hN : X.N[i]? = some x := by rfl) (hv : Vis X.env.scope x := by first | exact Or.inl rfl | exact Or.inr (Or.inl rfl) | exact Or.inr (Or.inr rfl)) (hdb : (x == ("__debug__" : Str)) = false := by decide) (hcd : (x == ("__classdict__" : Str)) = false := by decide)
    (hb : attributeBase (.Name x p) n X.env (eval (.Name x p) X.env) = eval (.Name x p) X.env := by rfl) : DE (X.suite a ((a, oe) :: pn)) T W (.Attribute (.Name x p) n pos) (eXf i fs n) :=
  DE.of (pe_xf (cls := cls) (d := d) Tc hno hz hf (pe_var (X := X.suite a ((a, oe) :: pn)) (i := i) hN hv hdb hcd) hb) fun σ H Q G ι st env w r q => by
    obtain ⟨h0, vs, h1, h2⟩ := r.cur.1 _ _ _ _ hcur
    unfold eXf at q
    cases e1 : env[i]? with
    | none => rw [e1] at q; exact q.elim
    | some o =>
      cases o with
      | some _ => rw [e1] at q; exact q.elim
      | none =>
        cases e2 : fs.lookup n with
        | none => rw [e1, e2] at q; exact q.elim
        | some y =>
          rw [e1, e2] at q
          obtain ⟨v, h3, h4⟩ := h2.look e2
          exact ⟨_, h0 e1, rfl, hcl, dd, vs, v, hd, w.same _ _ h1, h3, q.ok w h4⟩
/-- the clauses of a try, over data -/
inductive HdD (X : Cx) (T : CT) : List ExceptHandler → List Hd → Prop
  | nil : HdD X T [] []
  | one {x : Str} {C : Addr} {is : Str → Bool} {run : SM} {b₀ : Stmt} {suite : List Stmt} {np pos' : Pos} {hds : List ExceptHandler} {l : List Hd} (hc : Names X x (.ref C)) (hx : ∀ n a, T.addr n = some a → PySem.W.exmOne X.K (.ref a) (.ref C) = some (is n))
      (hsu : ∀ (a : Addr) (oe : Obj) (cls : Value) (d : Option Addr) (pn : List (Addr × Obj)), Zc cls d oe → (∃ vs, oe.data = .fields vs) → DSs (X.suite a ((a, oe) :: pn)) T (fun _ _ _ _ => False) (b₀ :: suite) run) (r : HdD X T hds l) :
      HdD X T (.ExceptHandler (some (.Name x np)) none (b₀ :: suite) pos' :: hds) (⟨is, none, fun _ => run⟩ :: l)
  | as {x n : Str} {i : Nat} {C : Addr} {is : Str → Bool} {run : List (Str × D) → SM} {b₀ : Stmt} {suite : List Stmt} {np pos' : Pos} {hds : List ExceptHandler} {l : List Hd} (hN : X.N.Nodup) (hi : X.N[i]? = some n) (hln : X.env.kindOf n = some .local) (hc : Names X x (.ref C))
      (hx : ∀ n a, T.addr n = some a → PySem.W.exmOne X.K (.ref a) (.ref C) = some (is n)) (hcl : ∀ n a, T.addr n = some a → is n = true → a = C) (hfi : T.fnfr i = true)
      (hsu : ∀ (a dd : Addr) (oe : Obj) (fs : List (Str × D)) (pn : List (Addr × Obj)), Zc (.ref C) (some dd) oe → (∃ vs, oe.data = .fields vs) → DSs (X.suite a ((a, oe) :: pn)) ⟨T.addr, some (i, a, dd, fs), T.fn⟩ (fun _ _ _ _ => False) (b₀ :: suite) (run fs)) (r : HdD X T hds l) :
      HdD X T (.ExceptHandler (some (.Name x np)) (some n) (b₀ :: suite) pos' :: hds) (⟨is, some i, run⟩ :: l)
theorem EnvR.off {K : PySem.W.Frag} {T' : CT} {G : Hp} {ι : List Addr} {σ : L2.St} {env : DEnv} (r : EnvR K T' G ι σ env) (h : T.cur = none) (h2 : T'.fn = T.fn) : EnvR K T G ι σ env := ⟨r.len, r.at_, (fun i a d fs e => by rw [h] at e; cases e), by rw [← h2]; exact r.cur.2⟩
theorem EnvR.hold {K : PySem.W.Frag} {G : Hp} {ι : List Addr} {σ : L2.St} {env : DEnv} (r : EnvR K T G ι σ env) {i : Nat} {a dd : Addr} {fs : List (Str × D)} {vs : List (Str × V)} {ad : Str → Option Addr} (h1 : G dd = some (.xd vs)) (h2 : DVf K G ι vs fs) (hfi : T.fnfr i = true) :
    EnvR K ⟨ad, some (i, a, dd, fs), T.fn⟩ G ι (σ.set i (some (.ref a))) (env.set i none) := by
  refine ⟨by simp [r.len], fun j x hx => ?_, fun j b d' fs' e => ?_, fun I e => ?_⟩
  · by_cases hj : i = j
    · subst hj
      by_cases hl : i < env.length
      · rw [List.getElem?_set_self hl] at hx; cases hx
      · rw [List.getElem?_eq_none (by simpa using hl)] at hx; cases hx
    · rw [List.getElem?_set_ne hj] at hx
      rw [List.getElem?_set_ne hj]
      exact r.at_ j x hx
  · cases e
    refine ⟨fun z => ?_, vs, h1, h2⟩
    by_cases hl : i < env.length
    · rw [List.getElem?_set_self (by rw [r.len]; exact hl)]
    · rw [List.getElem?_eq_none (by simpa using hl)] at z; cases z
  · obtain ⟨h0, h3⟩ := r.cur.2 I e
    refine ⟨fun z => ?_, h3⟩
    have hj : i ≠ I.slot := fun q => by
      unfold CT.fnfr at hfi
      rw [show T.fn = some I from e] at hfi
      simp [q] at hfi
    rw [List.getElem?_set_ne hj] at z
    rw [List.getElem?_set_ne hj]
    exact h0 z
theorem PostS.unS {K : PySem.W.Frag} {T' : CT} {G : Hp} {ι : List Addr} {H : Hp} {o : Option Nat} {r : SR} {Dd : Ends} (h : T.cur = none) (h2 : T'.fn = T.fn) (h3 : ∀ i, o = some i → T.fnfr i = true) (p : PostS K T W G ι H (L3.unS o r) Dd) : PostS K T' (fun _ _ _ _ => False) G ι H r (unD o Dd) := by
  have go : ∀ {σ1 : L2.St} {e : DEnv} {G' : Hp} {ι' : List Addr}, EnvR K T' G' ι' σ1 e → EnvR K T G' ι' (match o with | none => σ1 | some i => σ1.set i none) (clr o e) := fun {σ1 e G' ι'} r => by
    cases o with
    | none => exact r.off h h2
    | some i => exact (r.off h h2).forget i (by unfold CT.fr CT.curfr; rw [h, h3 i rfl]; rfl)
  cases r with
  | bad => exact p
  | ex _ _ _ => exact p.elim
  | rt d s => cases o <;> exact p
  | nx e s =>
    intro σ1 G' ι' H' x w r
    have := p _ G' ι' H' x w (go r)
    cases o <;> exact this
  | bk e s =>
    intro σ1 G' ι' H' x w r
    have := p _ G' ι' H' x w (go r)
    cases o <;> exact this
  | ct e s =>
    intro σ1 G' ι' H' x w r
    have := p _ G' ι' H' x w (go r)
    cases o <;> exact this
theorem hds_mix (hT : T.cur = none) {hds : List ExceptHandler} {l : List Hd} (h : HdD X T hds l) : ∃ l', HdsM X hds l' ∧ ∀ (Dd : Ends) (x : Ex) (env : DEnv) (st : Sto) (cls : Value) (d : Option Addr) (σ : L2.St) (G : Hp) (ι : List Addr) (H : Hp),
    WH X.K G ι st H → EnvR X.K T G ι σ env → ExR X.K T G ι cls d x → PostS X.K T W G ι H (handD l x env st) Dd → wMix X.K W Dd l' cls d σ H := by
  induction h with
  | nil => exact ⟨[], .nil, fun Dd x env st cls d σ G ι H w r rx p => p cls d σ G ι H .refl w r rx⟩
  | @one x C is run b₀ suite np pos' hds l hc hx hsu _ ih =>
    obtain ⟨l', h1, h2⟩ := ih
    refine ⟨(_, none, fun _ _ _ => sOf X.K T (fun _ _ _ _ => False) run) :: l', .one hc hsu h1, fun Dd x env st cls d σ G ι H w r rx p => ?_⟩
    obtain ⟨a', ha, rfl, hfs⟩ := id rx
    refine ⟨is x.cls, hx _ _ ha, fun hb a na => ?_, fun hb => h2 Dd x env st _ d σ G ι H w r rx ?_⟩
    · unfold handD at p
      rw [if_pos hb, if_neg (by simp)] at p
      exact ⟨G, ι, st, env, w, r, PostS.unS (o := none) hT rfl (fun _ z => by cases z) p⟩
    · unfold handD at p
      rw [if_neg (fun z => Bool.noConfusion (hb.symm.trans z))] at p
      exact p
  | @as x n i C is run b₀ suite np pos' hds l hN hi hln hc hx hcl hfi hsu _ ih =>
    obtain ⟨l', h1, h2⟩ := ih
    refine ⟨(_, some i, fun a cls d => fun Dd σ H => ∃ dd fs, cls = .ref C ∧ d = some dd ∧ sOf X.K ⟨T.addr, some (i, a, dd, fs), T.fn⟩ (fun _ _ _ _ => False) (run fs) Dd σ H) :: l',
      .as hN hi hln hc (fun a oe cls d pn hz hf => ⟨fun pins s σ H Dd I ⟨dd, fs, e1, e2, q⟩ => by
        subst e1 e2
        exact (hsu a dd oe fs pn hz hf).run pins s σ H Dd I q⟩) h1, fun Dd x env st cls d σ G ι H w r rx p => ?_⟩
    obtain ⟨a', ha, rfl, hfs⟩ := id rx
    refine ⟨is x.cls, hx _ _ ha, fun hb a na => ?_, fun hb => h2 Dd x env st _ d σ G ι H w r rx ?_⟩
    · unfold handD at p
      rw [if_pos hb] at p
      have hC := hcl _ _ ha hb
      subst hC
      rcases hfs with ⟨e1, e2⟩ | ⟨dd, vs, rfl, h3, h4⟩
      · rw [if_pos (by rw [e1]; rfl)] at p
        exact p.elim
      · by_cases he : (x.fs.isEmpty) = true
        · rw [if_pos (by simpa using he)] at p
          exact p.elim
        · rw [if_neg (by simpa using he)] at p
          exact ⟨dd, x.fs, rfl, rfl, G, ι, st, _, w, r.hold h3 h4 hfi, PostS.unS (o := some i) hT rfl (fun j z => by cases z; exact hfi) p⟩
    · unfold handD at p
      rw [if_neg (fun z => Bool.noConfusion (hb.symm.trans z))] at p
      exact p
theorem ds_try {body : List Stmt} {h₀ : ExceptHandler} {hds : List ExceptHandler} {l : List Hd} {mb : SM} {pos : Pos} (tk : Takes X W) (hb : ∀ (W' : WX) (pn : List (Addr × Obj)) (xe : Value → Shared → Prop), Takes (X.tr pn xe) W' → PassesOwn (model X.prog X.w) X.A X.env xe → DSs (X.tr pn xe) T W' body mb)
    (hh : HdD X T (h₀ :: hds) l) (hs : X.stack = X.env :: X.outer := by rfl) (hf : X.env.frame = some X.env.locals := by rfl) (hT : T.cur = none := by rfl) : DS X T W (.Try body (h₀ :: hds) [] [] pos) (sTry mb l) := by
  obtain ⟨l', h1, h2⟩ := hds_mix (W := W) hT hh
  refine DS.of (ps_try_mix (tb := fun W' => sOf X.K T W' mb) hs hf tk (fun W' pn xe tk' hp => hb W' pn xe tk' hp) h1) fun Dd σ H G ι st env w r p => ⟨G, ι, st, env, w, r, ?_⟩
  unfold sTry at p
  cases e : mb env st with
  | bad => rw [e] at p; exact p
  | nx _ _ => rw [e] at p; exact p
  | bk _ _ => rw [e] at p; exact p
  | ct _ _ => rw [e] at p; exact p
  | rt _ _ => rw [e] at p; exact p
  | ex x e1 s =>
    rw [e] at p
    intro c dd σ' G' ι' H' x1 w1 r1 rx
    refine h2 Dd x e1 s c dd σ' G' ι' H' w1 r1 rx ?_
    exact PostS.later p x1 w1
end
end L3
namespace L3
open PySem PySem.Spec PyProof.Rows L2

/-! ## Methods that change a list -/
def M.up (f : Sto → Option (D × Sto)) : M D := fun st => match f st with
  | some (d, s) => .ok d s
  | none => .bad
/-- what has the methods of the type Tn -/
def tyD (Tn : String) (st : Sto) (d : D) : Bool := match d with
  | .str _ => decide (Tn = "str")
  | .lst _ => decide (Tn = "list")
  | .scr _ => decide (Tn = "list")
  | .cell n => decide (Tn = "list") && (lstOf st (.cell n)).isSome
  | _ => false
theorem tyV_of {K : PySem.W.Frag} {G : Hp} {ι : List Addr} {st : Sto} {H : Hp} {v : V} {d : D} {Tn : String} (w : WH K G ι st H) (r : DV K G ι v d) (h : tyD Tn st d = true) : tyV K Tn v H := by
  cases d with
  | str x =>
    cases r
    exact (of_decide_eq_true h : Tn = "str")
  | lst xs =>
    obtain ⟨a, vs, rfl, q, _⟩ := lst_atS w r (lstOf_lst st xs)
    exact .inl ⟨of_decide_eq_true h, vs, q⟩
  | scr xs =>
    obtain ⟨a, vs, rfl, q, _⟩ := lst_atS w r (lstOf_scr st xs)
    exact .inl ⟨of_decide_eq_true h, vs, q⟩
  | cell n =>
    have h' : decide (Tn = "list") = true ∧ (lstOf st (.cell n)).isSome = true := by rw [← Bool.and_eq_true]; exact h
    obtain ⟨xs, e⟩ := Option.isSome_iff_exists.mp h'.2
    obtain ⟨a, vs, rfl, q, _⟩ := lst_atS w r e
    exact .inl ⟨of_decide_eq_true h'.1, vs, q⟩
  | _ => cases h
def PostU (K : PySem.W.Frag) (G : Hp) (ι : List Addr) (H : Hp) (o : Option (D × Sto)) (Q : VK) : Prop := match o with
  | some (d, s) => ∀ v G' ι' H', Ext ι ι' H H' G G' → WH K G' ι' s H' → DV K G' ι' v d → Q v H'
  | none => False
theorem PostE.up {K : PySem.W.Frag} {T : CT} {G : Hp} {ι : List Addr} {H : Hp} {st : Sto} {E : XK} {f : Sto → Option (D × Sto)} {Q : VK} (p : PostE K T G ι H (M.up f st) E Q) : PostU K G ι H (f st) Q := by
  unfold M.up at p
  cases e : f st with
  | none => rw [e] at p; exact p
  | some ds => rw [e] at p; exact p
/-- o.name(args) -/
def eMeth (Tn : String) (g : Sto → D → List D → Option (D × Sto)) (mo : EM) (mas : AM) : EM := fun env => M.bind (mo env) fun o st => if tyD Tn st o = true then M.bind (mas env) (fun xs => M.up fun s => g s o xs) st else .bad
structure MethD (X : Cx) (Tn : String) (name : Str) (id : String) (g : Sto → D → List D → Option (D × Sto)) : Prop where
  pa : PlainAttrs Tn
  slot : Slot Tn name id
  hty : typeOf (.builtin id) = pure (.type "method_descriptor")
  run : ∃ r, MtR X id r ∧ ∀ G ι st H x xs dx ds Q, WH X.K G ι st H → DV X.K G ι x dx → DVs X.K G ι xs ds → PostU X.K G ι H (g st dx ds) Q → r x xs H Q
theorem PostE.bindM {K : PySem.W.Frag} {T : CT} {G : Hp} {ι : List Addr} {H : Hp} {st : Sto} {E : XK} {m : M D} {f : D → M D} {Q Q' : VK} (p : PostE K T G ι H (M.bind m f st) E Q)
    (h : ∀ d st1 v G1 ι1 H1, Ext ι ι1 H H1 G G1 → WH K G1 ι1 st1 H1 → DV K G1 ι1 v d → PostE K T G1 ι1 H1 (f d st1) E Q → Q' v H1) : PostE K T G ι H (m st) E Q' := p.bind h
section
variable {X : Cx} {T : CT} {W : WX} {o e : Expr} {es : List Expr} {mo : EM} {mas : AM} {name : Str} {apos cpos : Pos} {Tn id : String} {g : Sto → D → List D → Option (D × Sto)}
theorem de_meth (M : MethD X Tn name id g) (ho : DE X T W o mo) (ha : DA X T W (e :: es) mas) (hbase : attributeBase o name X.env (eval o X.env) = eval o X.env := by rfl)
    (hfew : ((backTo cpos (starEach (e :: es) X.env)).all (fun x => !x.1) && (backToKw cpos (keywordEach [] X.env)).all (fun x => x.1.isSome)
      && decide ((e :: es).length + ([] : List Keyword).length + (if ([] : List Keyword).isEmpty then 0 else 1) < 30)) = true := by rfl)
    (hline : (apos.endLine == cpos.line) = true := by rfl) (hs : starEach (e :: es) X.env = (false, eval e X.env) :: starEach es X.env := by rfl) (hplain : (backTo cpos (starEach es X.env)).any (·.1) = false := by rfl) :
    DE X T W (.Call (.Attribute o name apos) (e :: es) [] cpos) (eMeth Tn g mo mas) := by
  obtain ⟨r, hr, hq⟩ := M.run
  refine DE.of (pe_bm M.pa M.slot M.hty hr ho ha hbase hfew hline hs hplain) fun σ H Q G ι st env w re p => ⟨G, ι, st, env, w, re, p.bindM fun d st1 v G1 ι1 H1 x1 w1 r1 p1 => ?_⟩
  by_cases ht : tyD Tn st1 d = true
  · rw [if_pos ht] at p1
    refine ⟨tyV_of w1 r1 ht, G1, ι1, st1, env, w1, re.mono x1, p1.bindA fun ds st2 vs G2 ι2 H2 x2 w2 r2 p2 => ?_⟩
    exact hq _ _ _ _ _ _ _ _ _ w2 (x2.dv r1) r2 p2.up
  · rw [if_neg ht] at p1
    exact p1.elim
theorem de_meth0 (M : MethD X Tn name id g) (ho : DE X T W o mo) (hbase : attributeBase o name X.env (eval o X.env) = eval o X.env := by rfl) (hline : (apos.endLine == cpos.line) = true := by rfl) :
    DE X T W (.Call (.Attribute o name apos) [] [] cpos) (eMeth Tn g mo aNil) := by
  obtain ⟨r, hr, hq⟩ := M.run
  refine DE.of (pe_bm0 M.pa M.slot M.hty hr ho hbase hline) fun σ H Q G ι st env w re p => ⟨G, ι, st, env, w, re, p.bindM fun d st1 v G1 ι1 H1 x1 w1 r1 p1 => ?_⟩
  by_cases ht : tyD Tn st1 d = true
  · rw [if_pos ht] at p1
    exact ⟨tyV_of w1 r1 ht, hq _ _ _ _ _ _ _ _ _ w1 r1 .nil (PostE.up (f := fun s => g s d []) p1)⟩
  · rw [if_neg ht] at p1
    exact p1.elim
def appendD (st : Sto) (o : D) (xs : List D) : Option (D × Sto) := match o, xs with
  | .cell n, [y] => match st[n]? with
    | some (.lst ys) => if fits (ys.length + 1) = true then some (.non, st.set n (.lst (ys ++ [y]))) else none
    | _ => none
  | _, _ => none
theorem cell_lst {K : PySem.W.Frag} {G : Hp} {ι : List Addr} {st : Sto} {H : Hp} {v : V} {n : Nat} {ys : List D} (w : WH K G ι st H) (r : DV K G ι v (.cell n)) (h : st[n]? = some (.lst ys)) : ∃ a vs, v = .ref a ∧ ι[n]? = some a ∧ G a = none ∧ H a = some (.lst vs) ∧ DVs K G ι vs ys := by
  cases r with
  | @cell _ a q =>
    obtain ⟨h1, vs, h2, h3⟩ := w.cells n a _ q h
    exact ⟨a, vs, rfl, q, h1, h2, h3⟩
theorem md_append : MethD X "list" "append" "list.append" appendD := ⟨PySem.F.plainAttrs_list, PySem.F.slot_list_append, PySem.F.type_list_append, _, mt_append, fun G ι st H x xs dx ds Q w rx rs p => by
  unfold appendD at p
  split at p
  · cases rs with
    | cons ry rs =>
      cases rs
      split at p
      · rename_i n y e xs' hst
        obtain ⟨a, vs, rfl, q, hG, hH, rr⟩ := cell_lst w rx hst
        by_cases hf : fits (xs'.length + 1) = true
        · rw [if_pos hf] at p
          have hl : vs.length < sizeLine := by
            have := fits_line hf
            rw [rr.length]
            omega
          refine ⟨a, vs, _, rfl, rfl, hH, hl, p .non _ _ _ (WH.putExt q) (w.put q hG ⟨hG, _, upd_same, rr.append (.cons ry .nil)⟩) .non⟩
        · rw [if_neg hf] at p
          exact p.elim
      · exact p.elim
  · exact p.elim⟩
def extendD (st : Sto) (o : D) (xs : List D) : Option (D × Sto) := match o, xs with
  | .cell n, [z] => match st[n]?, slsOf st z with
    | some (.lst ys), some zs => if fits (ys.length + zs.length) = true then some (.non, st.set n (.lst (ys ++ zs))) else none
    | _, _ => none
  | _, _ => none
theorem md_extend : MethD X "list" "extend" "list.extend" extendD := ⟨PySem.F.plainAttrs_list, PySem.F.slot_list_extend, PySem.F.type_list_extend, _, mt_extend, fun G ι st H x xs dx ds Q w rx rs p => by
  unfold extendD at p
  split at p
  · cases rs with
    | cons ry rs =>
      cases rs
      split at p
      · rename_i n y e ys zs hst hz
        obtain ⟨a, vs, rfl, q, hG, hH, rr⟩ := cell_lst w rx hst
        obtain ⟨b, us, rfl, hB, r2⟩ := sls_at w ry hz
        by_cases hf : fits (ys.length + zs.length) = true
        · rw [if_pos hf] at p
          exact ⟨a, b, vs, us, rfl, rfl, hH, hB, by rw [rr.length, r2.length]; exact fits_line hf, p .non _ _ _ (WH.putExt q) (w.put q hG ⟨hG, _, upd_same, rr.append r2⟩) .non⟩
        · rw [if_neg hf] at p
          exact p.elim
      · exact p.elim
  · exact p.elim⟩
def popD (st : Sto) (o : D) (xs : List D) : Option (D × Sto) := match o, xs with
  | .cell n, [] => match st[n]? with
    | some (.lst ys) => match ys[ys.length - 1]? with
      | some y => some (y, st.set n (.lst ys.dropLast))
      | none => none
    | _ => none
  | _, _ => none
end
theorem DVs.dropLast {K : PySem.W.Frag} {G : Hp} {ι : List Addr} : ∀ {vs : List V} {ds : List D}, DVs K G ι vs ds → DVs K G ι vs.dropLast ds.dropLast
  | _, _, .nil => .nil
  | _, _, .cons r .nil => .nil
  | _, _, .cons r (.cons r2 rs) => .cons r (DVs.dropLast (.cons r2 rs))
theorem DVs.get' {K : PySem.W.Frag} {G : Hp} {ι : List Addr} {vs : List V} {ds : List D} (r : DVs K G ι vs ds) {i : Nat} {d : D} (h : ds[i]? = some d) : ∃ v, vs[i]? = some v ∧ DV K G ι v d := r.get h
section
variable {X : Cx}
theorem md_pop : MethD X "list" "pop" "list.pop" popD := ⟨PySem.F.plainAttrs_list, PySem.F.slot_list_pop, PySem.F.type_list_pop, _, mt_pop, fun G ι st H x xs dx ds Q w rx rs p => by
  unfold popD at p
  split at p
  · cases rs
    split at p
    · rename_i n e ys hst
      obtain ⟨a, vs, rfl, q, hG, hH, rr⟩ := cell_lst w rx hst
      cases hy : ys[ys.length - 1]? with
      | none => rw [hy] at p; exact p.elim
      | some y =>
        rw [hy] at p
        obtain ⟨v, hv, rv⟩ := rr.get hy
        exact ⟨a, vs, v, rfl, rfl, hH, by rw [rr.length]; exact hv, p v _ _ _ (WH.putExt q) (w.put q hG ⟨hG, _, upd_same, rr.dropLast⟩) rv⟩
    · exact p.elim
  · exact p.elim⟩
end

/-! ## list, tuple, all, any, divmod -/
def bools : List D → Option (List Bool)
  | [] => some []
  | .bl b :: xs => (bools xs).map (b :: ·)
  | _ => none
theorem bools_of {K : PySem.W.Frag} {G : Hp} {ι : List Addr} : ∀ {vs : List V} {ds : List D} {bs : List Bool}, DVs K G ι vs ds → bools ds = some bs → vs = bs.map V.bl
  | _, _, _, .nil, h => by cases h; rfl
  | _, d :: ds, bs, .cons r rs, h => by
    cases d with
    | bl b =>
      rw [bools] at h
      cases e : bools ds with
      | none => rw [e] at h; cases h
      | some cs =>
        rw [e] at h
        cases h
        cases r
        rw [bools_of rs e]
        rfl
    | _ => cases h
def allD (st : Sto) (xs : List D) : Option D := match xs with
  | [x] => ((lstOf st x).bind bools).map fun bs => .bl (bs.all id)
  | _ => none
def anyD (st : Sto) (xs : List D) : Option D := match xs with
  | [x] => ((lstOf st x).bind bools).map fun bs => .bl (bs.any id)
  | _ => none
def listD (st : Sto) (xs : List D) : Option D := match xs with
  | [.tup ys] => some (.lst ys)
  | [x] => (lstOf st x).map .lst
  | _ => none
def tupleD (st : Sto) (xs : List D) : Option D := match xs with
  | [.tup ys] => some (.tup ys)
  | [x] => (lstOf st x).map .tup
  | _ => none
def divmodD (xs : List D) : Option D := match xs with
  | [.int i, .int j] => if divOk i j = true then some (.tup [.int (i / j), .int (i % j)]) else none
  | _ => none
section
variable {X : Cx}
theorem bools_at {K : PySem.W.Frag} {G : Hp} {ι : List Addr} {st : Sto} {H : Hp} {v : V} {d : D} {bs : List Bool} (w : WH K G ι st H) (r : DV K G ι v d) (h : (lstOf st d).bind bools = some bs) : ∃ a, v = .ref a ∧ SqL K H a (bs.map V.bl) := by
  cases e : lstOf st d with
  | none => rw [e] at h; cases h
  | some ys =>
    rw [e, Option.bind_some] at h
    obtain ⟨a, vs, rfl, q, rr⟩ := lst_atS w r e
    rw [bools_of rr h] at q
    exact ⟨a, rfl, q⟩
theorem cd_all (hc : X.calm = true) : CallD X (.builtin "all") allD := CallD.of (cr_all hc) fun G ι st H xs ds Q w rs p => by
  unfold allD at p
  split at p
  · rename_i x
    cases rs with
    | cons r rs =>
      cases rs
      cases e : (lstOf st x).bind bools with
      | none => rw [e] at p; exact p.elim
      | some bs =>
        rw [e] at p
        obtain ⟨a, rfl, q⟩ := bools_at w r e
        exact ⟨a, bs, rfl, q, p.val w (.bl _)⟩
  · exact p.elim
theorem cd_any (hc : X.calm = true) : CallD X (.builtin "any") anyD := CallD.of (cr_any hc) fun G ι st H xs ds Q w rs p => by
  unfold anyD at p
  split at p
  · rename_i x
    cases rs with
    | cons r rs =>
      cases rs
      cases e : (lstOf st x).bind bools with
      | none => rw [e] at p; exact p.elim
      | some bs =>
        rw [e] at p
        obtain ⟨a, rfl, q⟩ := bools_at w r e
        exact ⟨a, bs, rfl, q, p.val w (.bl _)⟩
  · exact p.elim
theorem cd_list : CallD X (.type "list") listD := CallD.of call_list_of fun G ι st H xs ds Q w rs p => by
  unfold listD at p
  split at p
  · rename_i ys
    cases rs with
    | cons r rs =>
      cases rs
      cases r with
      | tup q hs => exact ⟨_, _, rfl, .inr (w.same.tup q), fun l hl => p.fresh w hl (dv_lst w hl hs)⟩
  · rename_i x _
    cases rs with
    | cons r rs =>
      cases rs
      cases e : lstOf st x with
      | none => rw [e] at p; exact p.elim
      | some zs =>
        rw [e] at p
        obtain ⟨a, vs, rfl, q, rr⟩ := lst_atS w r e
        exact ⟨_, _, rfl, .inl q, fun l hl => p.fresh w hl (dv_lst w hl rr)⟩
  · exact p.elim
theorem cd_tuple : CallD X (.type "tuple") tupleD := CallD.of call_tuple_of fun G ι st H xs ds Q w rs p => by
  unfold tupleD at p
  split at p
  · rename_i ys
    cases rs with
    | cons r rs =>
      cases rs
      cases r with
      | tup q hs => exact ⟨_, _, rfl, .inr ⟨w.same.tup q, p.val w (.tup q hs)⟩⟩
  · rename_i x _
    cases rs with
    | cons r rs =>
      cases rs
      cases e : lstOf st x with
      | none => rw [e] at p; exact p.elim
      | some zs =>
        rw [e] at p
        obtain ⟨a, vs, rfl, q, rr⟩ := lst_atS w r e
        exact ⟨_, _, rfl, .inl ⟨q, fun l hl => p.fresh w hl (dv_tup w hl rr)⟩⟩
  · exact p.elim
theorem cd_divmod : CallD X (.builtin "divmod") (fun _ => divmodD) := CallD.of call_divmodW fun G ι st H xs ds Q w rs p => by
  unfold divmodD at p
  split at p
  · rename_i i j
    cases rs with
    | cons r rs =>
      cases rs with
      | cons r2 rs =>
        cases rs
        cases r
        cases r2
        by_cases hz : divOk i j = true
        · rw [if_pos hz] at p
          unfold divOk at hz
          rw [Bool.and_eq_true, decide_eq_true_eq, decide_eq_true_eq] at hz
          exact ⟨i, j, rfl, ⟨hz.1, PyProof.noPylong_of_log2 hz.2⟩, fun q hq => p.fresh w hq (dv_tup w hq (.cons (.int _) (.cons (.int _) .nil)))⟩
        · rw [if_neg hz] at p
          exact p.elim
  · exact p.elim
end

/-! ## Slices -/
def cutD (xs : List D) (lo hi : Option Int) : List D := (xs.drop (HT.sIx xs.length 0 lo)).take (HT.sIx xs.length xs.length hi - HT.sIx xs.length 0 lo)
theorem DVs.cut {K : PySem.W.Frag} {G : Hp} {ι : List Addr} {vs : List V} {ds : List D} (lo hi : Option Int) (r : DVs K G ι vs ds) : DVs K G ι (cutV vs lo hi) (cutD ds lo hi) := by
  unfold cutV cutD
  rw [r.length]
  exact (r.drop _).take _
def partOf : D → Option (Option Int)
  | .non => some none
  | .int i => some (some i)
  | _ => none
def slD (st : Sto) (x : D) (lo hi : Option Int) : Option D := match x with
  | .str z => if fits z.length = true then some (.str (cutS z lo hi)) else none
  | .tup xs => some (.tup (cutD xs lo hi))
  | x => (lstOf st x).map fun xs => .lst (cutD xs lo hi)
def asP (d : D) : M (Option Int) := M.opt (partOf d)
/-- a part of a slice: nothing, or a number -/
def pNo : DEnv → M (Option Int) := fun _ => M.pure none
def pInt (m : EM) : DEnv → M (Option Int) := fun env => M.bind (m env) fun d => match d with
  | .int i => M.pure (some i)
  | _ => M.bad
def eSl (m : EM) (lo hi : DEnv → M (Option Int)) : EM := fun env => M.bind (m env) fun x => M.bind (lo env) fun l => M.bind (hi env) fun h => M.rd fun st => slD st x l h
def PostP (K : PySem.W.Frag) (T : CT) (G : Hp) (ι : List Addr) (H : Hp) (r : R (Option Int)) (E : XK) (Q : Option Int → Hp → Prop) : Prop := match r with
  | .ok o st' => ∀ G' ι' H', Ext ι ι' H H' G G' → WH K G' ι' st' H' → Q o H'
  | .ex x st' => ∀ c dd G' ι' H', Ext ι ι' H H' G G' → WH K G' ι' st' H' → ExR K T G' ι' c dd x → E c dd H'
  | .bad => False
def DP (X : Cx) (T : CT) (W : WX) (o : Option Expr) (m : DEnv → M (Option Int)) : Prop :=
  PO X o fun σ H Q => ∃ G ι st env, WH X.K G ι st H ∧ EnvR X.K T G ι σ env ∧ PostP X.K T G ι H (m env st) (fun c d H' => W c d σ H') Q
theorem PostE.bindP {K : PySem.W.Frag} {T : CT} {G : Hp} {ι : List Addr} {H : Hp} {st : Sto} {E : XK} {m : M (Option Int)} {f : Option Int → M D} {Q : VK} {Q' : Option Int → Hp → Prop} (p : PostE K T G ι H (M.bind m f st) E Q)
    (h : ∀ o st1 G1 ι1 H1, Ext ι ι1 H H1 G G1 → WH K G1 ι1 st1 H1 → PostE K T G1 ι1 H1 (f o st1) E Q → Q' o H1) : PostP K T G ι H (m st) E Q' := by
  rw [M.bind_app] at p
  cases e : m st with
  | bad => rw [e] at p; exact p
  | ex x s => rw [e] at p; exact p
  | ok o s =>
    rw [e] at p
    dsimp only at p
    intro G1 ι1 H1 x1 w1
    refine h o s G1 ι1 H1 x1 w1 ?_
    cases e2 : f o s with
    | bad => rw [e2] at p; exact p
    | ex x s2 =>
      rw [e2] at p
      exact fun c dd G' ι' H' x2 w2 r2 => p c dd G' ι' H' (x1.cons w1 x2) w2 r2
    | ok d2 s2 =>
      rw [e2] at p
      exact fun v G' ι' H' x2 w2 r2 => p v G' ι' H' (x1.cons w1 x2) w2 r2
theorem PostP.bindE {K : PySem.W.Frag} {T : CT} {G : Hp} {ι : List Addr} {H : Hp} {st : Sto} {E : XK} {m : M D} {f : D → M (Option Int)} {Q : Option Int → Hp → Prop} {Q' : VK} (p : PostP K T G ι H (M.bind m f st) E Q)
    (h : ∀ d st1 v G1 ι1 H1, Ext ι ι1 H H1 G G1 → WH K G1 ι1 st1 H1 → DV K G1 ι1 v d → PostP K T G1 ι1 H1 (f d st1) E Q → Q' v H1) : PostE K T G ι H (m st) E Q' := by
  rw [M.bind_app] at p
  cases e : m st with
  | bad => rw [e] at p; exact p
  | ex x s => rw [e] at p; exact p
  | ok o s =>
    rw [e] at p
    dsimp only at p
    intro v G1 ι1 H1 x1 w1 r1
    refine h o s v G1 ι1 H1 x1 w1 r1 ?_
    cases e2 : f o s with
    | bad => rw [e2] at p; exact p
    | ex x s2 =>
      rw [e2] at p
      exact fun c dd G' ι' H' x2 w2 r2 => p c dd G' ι' H' (x1.cons w1 x2) w2 r2
    | ok d2 s2 =>
      rw [e2] at p
      exact fun G' ι' H' x2 w2 => p G' ι' H' (x1.cons w1 x2) w2
section
variable {X : Cx} {T : CT} {W : WX} {e : Expr} {me : EM} {lo hi : Option Expr} {ml mh : DEnv → M (Option Int)} {pos p2 : Pos}
theorem dp_no : DP X T W none pNo := ⟨fun pins s σ H Q I ⟨G, ι, st, env, w, r, p⟩ => po_none.run pins s σ H Q I (p G ι H .refl w)⟩
theorem dp_int (h : DE X T W e me) : DP X T W (some e) (pInt me) := ⟨fun pins s σ H Q I ⟨G, ι, st, env, w, r, p⟩ => (po_some h).run pins s σ H Q I ⟨G, ι, st, env, w, r, PostP.bindE p fun d st1 v G1 ι1 H1 x1 w1 r1 p1 => by
  cases r1 with
  | int i => exact ⟨i, rfl, p1 G1 ι1 H1 .refl w1⟩
  | _ => exact p1.elim⟩⟩
theorem de_sl (h : DE X T W e me) (hl : DP X T W lo ml) (hh : DP X T W hi mh) : DE X T W (.Subscript e (.Slice lo hi none p2) pos) (eSl me ml mh) :=
  DE.of (pe_slice (SlR.or sl_str (SlR.or sl_tupA sl_list)) h hl hh) fun σ H Q G ι st env w r p => ⟨G, ι, st, env, w, r, p.bind fun d st1 v G1 ι1 H1 x1 w1 r1 p1 => ⟨G1, ι1, st1, env, w1, r.mono x1, PostE.bindP p1 fun l st2 G2 ι2 H2 x2 w2 p2 =>
    ⟨G2, ι2, st2, env, w2, (r.mono x1).mono x2, PostE.bindP p2 fun u st3 G3 ι3 H3 x3 w3 p3 => by
      have p4 := p3.rd
      have r3 := x3.dv (x2.dv r1)
      unfold slD at p4
      split at p4
      · rename_i z
        cases r3
        by_cases hz : fits z.length = true
        · rw [if_pos hz] at p4
          exact .inl ⟨z, rfl, fits_line hz, p4.val w3 (.str _)⟩
        · rw [if_neg hz] at p4
          exact p4.elim
      · rename_i xs
        cases r3 with
        | @tup a vs _ q hs =>
          refine .inr (.inl ⟨a, vs, rfl, w3.same.tup q, fun hw => ?_, fun hw a hn => p4.fresh w3 hn (dv_tup w3 hn (hs.cut l u))⟩)
          refine p4.val w3 (.tup q ?_)
          have e : cutD xs l u = xs := by
            unfold cutD
            rw [← hs.length, hw.1, hw.2, List.drop_zero, Nat.sub_zero, hs.length, List.take_length]
          rw [e]
          exact hs
      · cases e : lstOf st3 d with
        | none => rw [e] at p4; exact p4.elim
        | some ys =>
          rw [e] at p4
          obtain ⟨a, vs, rfl, q, rr⟩ := lst_atS w3 r3 e
          exact .inr (.inr ⟨a, vs, rfl, q, fun a hn => p4.fresh w3 hn (dv_lst w3 hn (rr.cut l u))⟩)⟩⟩⟩
end
end L3
namespace L3
open PySem PySem.Spec PyProof.Rows L2

/-! ## x[::-1] -/
def RvR (X : Cx) (r : V → Hp → VK → Prop) : Prop :=
  ∀ (pins : List (Addr × Obj)) (s : Shared) (σ : L2.St) (H : Hp) (x : V) (v vk : Value) (sl : Addr) (Q : VK), Inv X pins σ H s → RelV x v → s.heap.IsSliceOf sl .none .none vk → IsPart vk (some (-1)) → r x H Q →
    ∃ T id, typeLookup (.type T) "__getitem__" = pure (some (.builtin id)) ∧ s.TypeIs v T ∧ wpAny (model X.prog X.w) X.A (getItem v (.ref sl)) (EP X pins σ Q) X.xe s
section
variable {X : Cx} {e : Expr} {te : TE} {p0 p1 p2 pos : Pos} {k : Nat}
theorem pe_rev {r : V → Hp → VK → Prop} (hr : RvR X r) (he : PE X e te) : PE X (.Subscript e (.Slice none none (some (.UnaryOp .USub (.Constant (.int 1) k p0) p1)) p2) pos) (fun σ H Q => te σ H fun x H1 => r x H1 Q) := by
  refine ⟨fun pins s σ H Q I h => Subscript_ (thn (he.run pins s σ H _ I h) fun v s1 hv => ?_)⟩
  obtain ⟨x, H1, I1, r1, q1⟩ := hv
  refine wpAny_Slice ?_
  rw [evalPart_none, evalPart_some]
  refine wpAny_pure (wpAny_pure (thn ((pe_un un_neg pe_int).run pins s1 σ H1 (fun z H2 => z = .int (-1) ∧ H2 = H1) I1 ⟨1, rfl, rfl, rfl⟩) fun vk s2 hk => ?_))
  obtain ⟨z, H2, I2, rz, rfl, rfl⟩ := hk
  obtain ⟨t, rfl⟩ := rz
  have I3 : Inv X pins σ H2 { s2 with heap := s2.heap.push { cls := .type "slice", data := .fields #[.none, .none, .int (-1) t] } } := I2.kept (t' := s2.toks) fun b ob q => Heap.get?_push_of_some _ q
  obtain ⟨T, id, hT, ht, hg⟩ := hr pins { s2 with heap := s2.heap.push { cls := .type "slice", data := .fields #[.none, .none, .int (-1) t] } } σ H2 x v (.int (-1) t) s2.heap.objs.size Q I3 r1 (Heap.IsSliceOf.new ..) (.int _ _) q1
  exact tail_any (ops := [v, .ref s2.heap.objs.size]) ht hT hg (by with_unfolding_all rfl)
def rRvL (K : PySem.W.Frag) : V → Hp → VK → Prop := fun x H Q => ∃ a xs, x = .ref a ∧ SqL K H a xs ∧ ∀ p, H p = none → Q (.ref p) (upd H p (.lst xs.reverse))
def rRvT (K : PySem.W.Frag) : V → Hp → VK → Prop := fun x H Q => ∃ a xs, x = .ref a ∧ SqT K H a xs ∧ ∀ p, H p = none → Q (.ref p) (upd H p (.tup xs.reverse))
theorem vals_reverse : ∀ {xs : List V} {us : List Value}, Vals xs us → Vals xs.reverse us.reverse
  | _, _, .nil => .nil
  | _, _, .cons r rs => by
    rw [List.reverse_cons, List.reverse_cons]
    exact (vals_reverse rs).append (.cons r .nil)
theorem rv_list : RvR X (rRvL X.K) := by
  intro pins s σ H x v vk sl Q I rx hs pk h
  obtain ⟨a, xs, rfl, hx, q⟩ := h
  cases rx
  obtain ⟨its, r, ht, hz⟩ := I.list hx
  have hlen := r.length
  refine ⟨"list", _, slot_list_getitem.lookup, ht.isList.typeIs, ?_⟩
  refine wpAny_getItem_list_slice ht.isList hs .none .none pk (by decide) ?_ (by rw [List.size_toArray] <;> omega)
  rw [PySem.W.krv_pick]
  refine ⟨.ref s.heap.objs.size, _, I.laid (t' := s.toks) (o := .lst xs.reverse) (fun b ob z => Heap.get?_push_of_some _ z) (Nat.le_refl _) ⟨by rw [List.length_reverse]; exact hz, _, 0, ?_, Heap.get?_push_size _ rfl⟩, rfl, q _ (I.hok.fresh (Nat.le_refl _))⟩
  exact vals_reverse r
theorem applied_rev {M : Model} {A : Around} {E : Value → Shared → Prop} {s : Shared} {sl : Addr} {vk : Value} {n : Nat} {Q : Int × Int × Nat → Shared → Prop} (hs : s.heap.IsSliceOf sl .none .none vk) (pk : IsPart vk (some (-1))) {prog : Program} {w : World} (h : Q ((n : Int) - 1, -1, n) s) :
    wpAny (model prog w) A (Builtin.Slice.sliceApplied (.ref sl) (pure (n : Int))) Q E s := by
  obtain ⟨os, hos, hcs, hds⟩ := id hs
  unfold Builtin.Slice.sliceApplied Builtin.Slice.sliceFields
  refine wpAny_bind (wpAny_bind (wpAny_field hos hds (x := .none) rfl (wpAny_bind (wpAny_field hos hds (x := .none) rfl (wpAny_bind (wpAny_field hos hds (x := vk) rfl (wpAny_pure ?_)))))))
  refine wpAny_bind (HT.slicePart_ pk ?_)
  show wpAny _ _ (if ((-1 : Int) == 0) = true then _ else _) _ _ s
  rw [if_neg (by decide)]
  refine wpAny_bind (HT.slicePart_ .none (wpAny_bind (HT.slicePart_ .none (wpAny_bind (wpAny_pure ?_)))))
  show wpAny _ _ (pure ((n : Int) - 1, (-1 : Int), Builtin.Slice.slicePlaces ((n : Int) - 1) (-1) (-1))) _ _ s
  have e : Builtin.Slice.slicePlaces ((n : Int) - 1) (-1) (-1) = n := by
    unfold Builtin.Slice.slicePlaces
    rw [if_neg (by decide)]
    by_cases hn : n = 0
    · subst hn; rfl
    · rw [if_pos (by omega)]
      have : ((n : Int) - 1 - -1 - 1) / (- -1) + 1 = n := by
        rw [show (- -1 : Int) = 1 from rfl, Int.ediv_one]
        omega
      rw [this]
      exact Int.toNat_natCast n
  rw [e]
  exact wpAny_pure h
theorem fm_same {α β : Type} {f g : α → Option β} : ∀ {l : List α}, (∀ a ∈ l, f a = g a) → l.filterMap f = l.filterMap g
  | [], _ => rfl
  | a :: l, h => by
    rw [List.filterMap_cons, List.filterMap_cons, h a (List.mem_cons_self ..), fm_same fun b hb => h b (List.mem_cons_of_mem _ hb)]
theorem pick_back (xs : Array Value) : ((List.range xs.size).filterMap fun (m : Nat) => xs[(((xs.size : Nat) : Int) - 1 + (m : Int) * -1).toNat]?).toArray = xs.toList.reverse.toArray := by
  have e := PySem.W.krv_pick xs
  unfold slicePick at e
  rw [PySem.W.krv_bounds] at e
  rw [PySem.W.krv_sliceRange, List.filterMap_map] at e
  rw [← e]
  congr 1
  refine fm_same fun m hm => ?_
  have : (((xs.size : Nat) : Int) - 1 + (m : Int) * -1).toNat = xs.size - 1 - m := by omega
  rw [this]
  rfl
theorem getItem_tuple_back {prog : Program} {w : World} {A : Around} {E : Value → Shared → Prop} {s : Shared} {t sl : Addr} {items : Array Value} {vk : Value} {Q : Value → Shared → Prop} (ht : IsTup s.heap t items) (hs : s.heap.IsSliceOf sl .none .none vk) (pk : IsPart vk (some (-1)))
    (h : Q (.ref s.heap.objs.size) { s with heap := s.heap.push { cls := .type "tuple", data := .seq items.toList.reverse.toArray } }) (hsz : items.size ≤ sizeLine) : wpAny (model prog w) A (getItem (.ref t) (.ref sl)) Q E s := by
  have hsize : sizeOk (.seq items.toList.reverse.toArray) := by
    show (items.toList.reverse.toArray).size ≤ sizeLine
    rw [List.size_toArray, List.length_reverse, Array.length_toList]
    exact hsz
  obtain ⟨os, hos, hcs, hds⟩ := id hs
  have hT : s.TypeIs (.ref sl) "slice" := ⟨os, hos, hcs⟩
  unfold getItem
  try with_reducible refine wpAny_holding ?_
  first | refine wpAny_bind (wpAny_pure ?_) | skip
  refine wpAny_bind (wpAny_sequenceKey ht.typeIs (by decide) (wpAny_bind (wpAny_callSpecial?_slot (name := Str.ofString "__getitem__") ht.typeIs PyProof.Rows.slot_tuple_getitem (wpAny_call_entry PyProof.Rows.slot_tuple_getitem ht.typeIs entry_tuple_getitem ?_ (args_tuple_getitem _ _)))))
  show wpAny _ _ (Builtin.Tuple.tupleItemsOf (.ref t) >>= _) _ _ s
  refine wpAny_bind (tupleItemsOf_ ht (wpAny_bind (wpAny_typeOf hT ?_)))
  rw [if_pos (by decide)]
  refine wpAny_bind (applied_rev (M := model prog w) hs pk ?_)
  have hno : ¬ ((((items.size : Nat) : Int) - 1 == 0 && (-1 : Int) == 1 && items.size == items.size) = true) := by simp
  show wpAny _ _ (if ((((items.size : Nat) : Int) - 1 == 0 && (-1 : Int) == 1 && items.size == items.size) = true) then _ else _) _ _ s
  rw [if_neg hno, pick_back]
  first
    | exact wpAny_bind (m := Builtin.Tuple.tupleExact _) (wpAny_newObj_type (wpAny_pure ⟨_, rfl, wpAny_pure h⟩) hsize)
    | exact wpAny_bind (m := Builtin.Tuple.tupleExact _) (wpAny_newObj_type (wpAny_bind (wpAny_pure (wpAny_pure ⟨_, rfl, wpAny_pure h⟩))) hsize)
    | exact wpAny_bind (wpAny_bind (m := Builtin.Tuple.tupleExact _) (wpAny_newObj_type (wpAny_pure (wpAny_pure ⟨_, rfl, wpAny_pure h⟩)) hsize))
    | exact wpAny_bind (wpAny_bind (m := Builtin.Tuple.tupleExact _) (wpAny_newObj_type (wpAny_pure ⟨_, rfl, wpAny_pure h⟩) hsize))
theorem rv_tup : RvR X (rRvT X.K) := by
  intro pins s σ H x v vk sl Q I rx hs pk h
  obtain ⟨a, xs, rfl, hx, q⟩ := h
  cases rx
  obtain ⟨its, r, ht, hz⟩ := I.tuple hx
  have hlen := r.length
  refine ⟨"tuple", _, PyProof.Rows.slot_tuple_getitem.lookup, ht.typeIs, ?_⟩
  refine getItem_tuple_back ht hs pk ?_ (by rw [List.size_toArray] <;> omega)
  refine ⟨.ref s.heap.objs.size, _, I.laid (t' := s.toks) (o := .tup xs.reverse) (fun b ob z => Heap.get?_push_of_some _ z) (Nat.le_refl _) ?_, rfl, q _ (I.hok.fresh (Nat.le_refl _))⟩
  exact ⟨by rw [List.length_reverse]; exact hz, _, vals_reverse r, ⟨_, Heap.get?_push_size _ rfl, rfl, _, rfl⟩⟩
end
def revD (st : Sto) (x : D) : Option D := match x with
  | .tup xs => some (.tup xs.reverse)
  | x => (lstOf st x).map fun xs => .lst xs.reverse
section
variable {X : Cx} {T : CT} {W : WX} {e : Expr} {me : EM} {pos p0 p1 p2 : Pos} {k : Nat}
theorem RvR.or {r r' : V → Hp → VK → Prop} (h : RvR X r) (h' : RvR X r') : RvR X (fun x H Q => r x H Q ∨ r' x H Q) := by
  intro pins s σ H x v vk sl Q I rx hs pk q
  rcases q with q | q
  · exact h pins s σ H x v vk sl Q I rx hs pk q
  · exact h' pins s σ H x v vk sl Q I rx hs pk q
theorem de_rev (h : DE X T W e me) : DE X T W (.Subscript e (.Slice none none (some (.UnaryOp .USub (.Constant (.int 1) k p0) p1)) p2) pos) (eUn revD me) :=
  DE.of (pe_rev (RvR.or rv_tup rv_list) h) fun σ H Q G ι st env w r p => ⟨G, ι, st, env, w, r, p.bind fun d st1 v G1 ι1 H1 x1 w1 r1 p1 => by
    have p2 := p1.rd
    unfold revD at p2
    split at p2
    · cases r1 with
      | tup q hs => exact .inl ⟨_, _, rfl, w1.same.tup q, fun a hn => p2.fresh w1 hn (dv_tup w1 hn hs.reverse)⟩
    · cases e : lstOf st1 d with
      | none => rw [e] at p2; exact p2.elim
      | some ys =>
        rw [e] at p2
        obtain ⟨a, vs, rfl, q, rr⟩ := lst_atS w1 r1 e
        exact .inr ⟨_, _, rfl, q, fun a hn => p2.fresh w1 hn (dv_lst w1 hn rr.reverse)⟩⟩
end
end L3
namespace L3
open PySem PySem.Spec PyProof.Rows L2

/-! ## enumerate, zip -/
/-- the list at a keeps its items, as long as its cell does -/
def Stands (K : PySem.W.Frag) (G1 : Hp) (ι1 : List Addr) (c : Src) (a : Addr) (ds : List D) : Prop :=
  ∀ G2 ι2 st2 H2, Same G1 G2 → (∃ t, ι2 = ι1 ++ t) → WH K G2 ι2 st2 H2 → c.ok st2 = true → ∃ vs, SqL K H2 a vs ∧ DVs K G2 ι2 vs ds
theorem stands_of {K : PySem.W.Frag} {G : Hp} {ι : List Addr} {st : Sto} {H : Hp} {v : V} {d : D} {ds : List D} (w : WH K G ι st H) (r : DV K G ι v d) (h : lstOf st d = some ds) : ∃ a, v = .ref a ∧ Stands K G ι (srcOf d ds) a ds := by
  cases r with
  | @lst a xs ds q hs =>
    cases h
    exact ⟨a, rfl, fun G2 ι2 st2 H2 sm pre w2 _ => ⟨xs, .of (w2.same _ _ (sm _ _ q)), hs.mono sm pre⟩⟩
  | @scr a xs ds q hs =>
    cases h
    exact ⟨a, rfl, fun G2 ι2 st2 H2 sm pre w2 _ => ⟨xs, w2.same.seq (sm.seq q), hs.mono sm pre⟩⟩
  | @cell n a q =>
    refine ⟨a, rfl, fun G2 ι2 st2 H2 sm pre w2 ok => ?_⟩
    have z : ∃ ws, H2 a = some (.lst ws) ∧ DVs K G2 ι2 ws ds := (w2.cells n a _ (ix_mono pre q) (Src.at_ ok)).2
    obtain ⟨ws, h5, h6⟩ := z
    exact ⟨ws, .of h5, h6⟩
  | _ => cases h
def enumD (xs : List D) : List D := xs.zipIdx.map fun p => .tup [.int p.2, p.1]
def zipD (xs ys : List D) : List D := (xs.zip ys).map fun p => .tup [p.1, p.2]
theorem enumD_get {xs : List D} {i : Nat} {d : D} (h : (enumD xs)[i]? = some d) : ∃ x, xs[i]? = some x ∧ d = .tup [.int i, x] := by
  unfold enumD at h
  rw [List.getElem?_map, List.getElem?_zipIdx] at h
  cases e : xs[i]? with
  | none => rw [e] at h; cases h
  | some x =>
    rw [e] at h
    cases h
    exact ⟨x, rfl, by simp⟩
theorem enumD_length (xs : List D) : (enumD xs).length = xs.length := by unfold enumD; simp
theorem zipD_get {xs ys : List D} {i : Nat} {d : D} (h : (zipD xs ys)[i]? = some d) : ∃ x y, xs[i]? = some x ∧ ys[i]? = some y ∧ d = .tup [x, y] := by
  unfold zipD at h
  rw [List.getElem?_map] at h
  cases e : (xs.zip ys)[i]? with
  | none => rw [e] at h; cases h
  | some p =>
    rw [e] at h
    cases h
    obtain ⟨h1, h2⟩ := List.getElem?_zip_eq_some.mp e
    exact ⟨p.1, p.2, h1, h2, rfl⟩
theorem zipD_length (xs ys : List D) : (zipD xs ys).length = min xs.length ys.length := by unfold zipD; simp
def iEnumD (m : EM) : IM := fun env => M.bind (m env) fun d => M.rd fun st => (lstOf st d).map fun xs => (enumD xs, srcOf d xs)
/-- zip of two lists that stand for good, or of two tuples -/
def zipS : D → D → Option (List D × Src)
  | .tup xs, .tup ys => some (zipD xs ys, none)
  | .lst xs, .lst ys => some (zipD xs ys, none)
  | .lst xs, .scr ys => some (zipD xs ys, none)
  | .scr xs, .lst ys => some (zipD xs ys, none)
  | .scr xs, .scr ys => some (zipD xs ys, none)
  | _, _ => none
def iZipD (ma mb : EM) : IM := fun env => M.bind (ma env) fun x => M.bind (mb env) fun y => M.opt (zipS x y)
section
variable {X : Cx} {T : CT} {W : WX} {e e2 : Expr} {m mb : EM} {p pos tpos : Pos} {elts : List Expr} {kk : Nat}
theorem di_enum (hg : Gl X "enumerate") (hm : X.mg "enumerate" = none) (ha : DE X T W e m) (hs : starEach [e] X.env = [(false, eval e X.env)] := by rfl) (h1 : starEach (e :: []) X.env = (false, eval e X.env) :: starEach [] X.env := by rfl) :
    DI X T W (.Tuple elts kk tpos) (.Call (.Name "enumerate" p) [e] [] pos) (iEnumD m) :=
  DI.of (pi_enum hg hm (pa_cons ha pa_nil h1) hs) fun σ H Q G ι st env w r p => ⟨G, ι, st, env, w, r, PostI.bindE p fun d st1 v G1 ι1 H1 x1 w1 r1 p1 => by
    unfold M.rd at p1
    cases e3 : lstOf st1 d with
    | none => dsimp only at p1; rw [e3] at p1; exact p1.elim
    | some ds =>
      dsimp only at p1
      rw [e3] at p1
      obtain ⟨a, vs0, rfl, q0, _⟩ := lst_atS w1 r1 e3
      obtain ⟨a', e4, hst⟩ := stands_of w1 r1 e3
      cases e4
      refine ⟨a, vs0, rfl, q0, p1 _ G1 ι1 H1 .refl w1 fun G2 ι2 st2 H2 sm pre w2 ok => ?_⟩
      obtain ⟨vs, q, hs⟩ := hst G2 ι2 st2 H2 sm pre w2 ok
      refine ⟨fun i hi => ⟨vs, q, by rw [hs.length, ← enumD_length]; exact hi⟩, fun i d hd => ?_⟩
      obtain ⟨x, hx, rfl⟩ := enumD_get hd
      obtain ⟨v, h2, h3⟩ := hs.get hx
      refine ⟨⟨vs, v, q, h2⟩, fun u H' y => ?_⟩
      obtain ⟨t, z, rfl, hn, rfl, hz⟩ := y
      have e5 := hz vs q
      rw [h2] at e5
      cases e5
      exact ⟨_, w2.fzExt hn _, w2.fz hn _, dv_tup w2 hn (.cons (.int _) (.cons h3 .nil))⟩⟩
theorem zip_fin {K : PySem.W.Frag} {G1 : Hp} {ι1 : List Addr} {a b : Addr} {xs ys : List D} (ha : Stands K G1 ι1 none a xs) (hb : Stands K G1 ι1 none b ys) : ItD K G1 ι1 (Itz K a b) (zipD xs ys) none := fun G2 ι2 st2 H2 sm pre w2 _ => by
  obtain ⟨vs, q, hs⟩ := ha G2 ι2 st2 H2 sm pre w2 rfl
  obtain ⟨us, q2, hs2⟩ := hb G2 ι2 st2 H2 sm pre w2 rfl
  have hl : (zipD xs ys).length = min xs.length ys.length := by unfold zipD; simp
  refine ⟨fun i hi => ⟨vs, us, q, q2, ?_⟩, fun i d hd => ?_⟩
  · rw [hs.length, hs2.length]
    omega
  · obtain ⟨x, y, hx, hy, rfl⟩ := zipD_get hd
    obtain ⟨v, h2, h3⟩ := hs.get hx
    obtain ⟨u, h4, h5⟩ := hs2.get hy
    refine ⟨⟨vs, us, v, u, q, q2, h2, h4⟩, fun z H' yy => ?_⟩
    obtain ⟨t, z1, z2, rfl, hn, rfl, hz1, hz2⟩ := yy
    have e1 := hz1 vs q
    have e2 := hz2 us q2
    rw [h2] at e1
    rw [h4] at e2
    cases e1
    cases e2
    exact ⟨_, w2.fzExt hn _, w2.fz hn _, dv_tup w2 hn (.cons h3 (.cons h5 .nil))⟩
theorem di_zip (hg : Gl X "zip") (hm : X.mg "zip" = none) (ha : DE X T W e m) (hb : DE X T W e2 mb) (hs : starEach [e, e2] X.env = (false, eval e X.env) :: starEach [e2] X.env := by rfl) (hpl : (backTo pos (starEach [e2] X.env)).any (·.1) = false := by rfl)
    (h1 : starEach (e :: [e2]) X.env = (false, eval e X.env) :: starEach [e2] X.env := by rfl) (h2 : starEach (e2 :: []) X.env = (false, eval e2 X.env) :: starEach [] X.env := by rfl) :
    DI X T W (.Tuple elts kk tpos) (.Call (.Name "zip" p) [e, e2] [] pos) (iZipD m mb) :=
  DI.of (RZ.pi_zipA hg hm (pa_cons ha (pa_cons hb pa_nil h2) h1) hs hpl) fun σ H Q G ι st env w r p => ⟨G, ι, st, env, w, r, PostI.bindE p fun d st1 v G1 ι1 H1 x1 w1 r1 p1 =>
    ⟨G1, ι1, st1, env, w1, r.mono x1, PostI.bindE p1 fun d2 st2 v2 G2 ι2 H2 x2 w2 r2 p2 => by
      have r1' := x2.dv r1
      have lists : ∀ {xs ys : List D}, lstOf st2 d = some xs → srcOf d xs = none → lstOf st2 d2 = some ys → srcOf d2 ys = none → PostI X.K T G2 ι2 H2 (.ok (zipD xs ys, none) st2) (fun c d H' => W c d σ H') Q →
          ∃ a b xs ys, [v, v2] = [V.ref a, V.ref b] ∧ ((SqL X.K H2 a xs ∧ SqL X.K H2 b ys ∧ Q (Itz X.K a b) H2) ∨ (SqT X.K H2 a xs ∧ SqT X.K H2 b ys ∧ Q (RZ.ItzT X.K a b) H2)) := fun {xs ys} e1 s1 e2 s2 p3 => by
        obtain ⟨a, vs, rfl, q, _⟩ := lst_atS w2 r1' e1
        obtain ⟨b, us, rfl, q2, _⟩ := lst_atS w2 r2 e2
        obtain ⟨a', z1, h1⟩ := stands_of w2 r1' e1
        obtain ⟨b', z2, h2⟩ := stands_of w2 r2 e2
        cases z1
        cases z2
        rw [s1] at h1
        rw [s2] at h2
        exact ⟨a, b, vs, us, rfl, .inl ⟨q, q2, p3 _ G2 ι2 H2 .refl w2 (zip_fin h1 h2)⟩⟩
      unfold zipS at p2
      split at p2
      · cases r1' with
        | @tup a vs xs q hs =>
          cases r2 with
          | @tup b us ys q2 hs2 =>
            refine ⟨a, b, vs, us, rfl, .inr ⟨w2.same.tup q, w2.same.tup q2, p2 _ G2 ι2 H2 .refl w2 fun G3 ι3 st3 H3 sm pre w3 _ => ?_⟩⟩
            have qa := w3.same.tup (sm.tup q)
            have qb := w3.same.tup (sm.tup q2)
            refine ⟨fun i hi => ⟨vs, us, qa, qb, by rw [hs.length, hs2.length]; rw [zipD_length] at hi; omega⟩, fun i d hd => ?_⟩
            obtain ⟨x, y, hx, hy, rfl⟩ := zipD_get hd
            obtain ⟨v, h2, h3⟩ := hs.get hx
            obtain ⟨u, h4, h5⟩ := hs2.get hy
            refine ⟨⟨vs, us, v, u, qa, qb, h2, h4⟩, fun z H' yy => ?_⟩
            obtain ⟨t, z1, z2, rfl, hn, rfl, hz1, hz2⟩ := yy
            have e1 := hz1 vs qa
            have e2 := hz2 us qb
            rw [h2] at e1
            rw [h4] at e2
            cases e1
            cases e2
            exact ⟨_, w3.fzExt hn _, w3.fz hn _, dv_tup w3 hn (.cons (h3.mono sm pre) (.cons (h5.mono sm pre) .nil))⟩
      · exact lists rfl rfl rfl rfl p2
      · exact lists rfl rfl rfl rfl p2
      · exact lists rfl rfl rfl rfl p2
      · exact lists rfl rfl rfl rfl p2
      · exact p2.elim⟩⟩
end
end L3
namespace L3
open PySem PySem.Spec PyProof.Rows L2

/-! ## x += e -/
def PIpD (X : Cx) (op : Operator) (g : D → D → Option D) : Prop := PIp X op (rOf X.K fun _ => g)
def sAug (i : Nat) (g : D → D → Option D) (m : EM) : SM := fun env st => match env[i]? with
  | some (some x) => sE m (fun y env st => match g x y with
    | some z => .nx (env.set i (some z)) st
    | none => .bad) env st
  | _ => .bad
def kAug (i : Nat) (g : D → D → Option D) (x : D) : D → SM := fun y env st => match g x y with
  | some z => .nx (env.set i (some z)) st
  | none => .bad
section
variable {X : Cx} {T : CT} {W : WX} {e : Expr} {m : EM} {pos pos' : Pos}
theorem ipI_of {op : Operator} {f : Int → Int → Int} {ok : Int → Int → Bool} (h : PIp X op fun x y H Q => ∃ i j, x = .int i ∧ y = .int j ∧ ok i j = true ∧ Q (.int (f i j)) H) : PIpD X op (opII ok fun i j => .int (f i j)) :=
  fun pins s σ H x y v u Q I rx ry ⟨G, ι, st, dx, dy, w, hx, hy, p⟩ => by
    unfold opII at p
    cases hx with
    | int i =>
      cases hy with
      | int j =>
        dsimp only at p
        by_cases hz : ok i j = true
        · rw [if_pos hz] at p
          exact h pins s σ H _ _ v u Q I rx ry ⟨i, j, rfl, rfl, hz, p.val w (.int _)⟩
        · rw [if_neg hz] at p
          exact p.elim
      | _ => exact p.elim
    | _ => exact p.elim
theorem id_add : PIpD X .Add addI := ipI_of fun pins s σ H x y v u Q I rx ry ⟨i, j, e1, e2, _, q⟩ => ip_add pins s σ H x y v u Q I rx ry ⟨i, j, e1, e2, q⟩
theorem id_sub : PIpD X .Sub subI := ipI_of fun pins s σ H x y v u Q I rx ry ⟨i, j, e1, e2, _, q⟩ => ip_sub pins s σ H x y v u Q I rx ry ⟨i, j, e1, e2, q⟩
theorem id_mul : PIpD X .Mult mulI := ipI_of fun pins s σ H x y v u Q I rx ry ⟨i, j, e1, e2, hz, q⟩ => by
  subst e1 e2
  obtain ⟨t, rfl⟩ := rx
  obtain ⟨t', rfl⟩ := ry
  have hm : i.natAbs.log2 + j.natAbs.log2 < 1000000 := of_decide_eq_true hz
  exact imul_int ⟨.int _, H, I.tok _, ⟨_, rfl⟩, q⟩ (CMulW.ok hm)
theorem ds_aug {i : Nat} {x : Str} {op : Operator} {g : D → D → Option D} (hN : X.N.Nodup) (hi : X.N[i]? = some x) (hx : Loc X.env.scope x) (ho : PIpD X op g) (he : DE X T W e m) (hf : X.fn x = true ∨ X.env.scope.names.lookup x = some .local := by first | exact .inl rfl | exact .inr rfl | assumption) :
    DS X T W (.AugAssign (.Name x pos') op e pos) (sAug i g m) :=
  DS.of (ps_aug hN hi hx he ho hf) fun Dd σ H G ι st env w r p => by
    unfold sAug at p
    split at p
    · rename_i d hd
      obtain ⟨v, hv, rv⟩ := r.at_ i d hd
      refine ⟨v, hv, G, ι, st, env, w, r, PostS.bindE r p fun y st1 u G1 ι1 H1 x1 w1 r1 p1 => ⟨G1, ι1, st1, d, y, w1, x1.dv rv, r1, ?_⟩⟩
      cases e1 : g d y with
      | none => rw [e1] at p1; exact p1.elim
      | some z =>
        rw [e1] at p1
        show PostO X.K G1 ι1 st1 H1 (g d y) _
        rw [e1]
        exact fun v2 G' H' x2 w2 r2 => p1 _ _ _ _ x2 w2 (((r.mono x1).mono x2).set r2 i)
    · exact p.elim
end
end L3
namespace L3
open PySem PySem.Spec PyProof.Rows L2

/-! ## How the later meanings are reckoned -/
def kM2 (g : Sto → D → List D → Option (D × Sto)) (o : D) : List D → M D := fun xs s => match g s o xs with
  | some (d, s') => .ok d s'
  | none => .bad
def kM1 (Tn : String) (g : Sto → D → List D → Option (D × Sto)) (mas : AM) (env : DEnv) : D → M D := fun o s => if tyD Tn s o = true then R.go (mas env s) (kM2 g o) else .bad
def kSl3 (x : D) (l : Option Int) : Option Int → M D := fun h s => R.ofO (slD s x l h) s
def kSl2 (hi : DEnv → M (Option Int)) (env : DEnv) (x : D) : Option Int → M D := fun l s => R.go (hi env s) (kSl3 x l)
def kSl1 (lo hi : DEnv → M (Option Int)) (env : DEnv) : D → M D := fun x s => R.go (lo env s) (kSl2 hi env x)
def kPI : D → M (Option Int) := fun d s => match d with
  | .int i => .ok (some i) s
  | _ => .bad
def kEn : D → M (List D × Src) := fun d s => R.ofO ((lstOf s d).map fun xs => (enumD xs, srcOf d xs)) s
def kZ2 (x : D) : D → M (List D × Src) := fun y s => R.ofO (zipS x y) s
def kZ1 (mb : EM) (env : DEnv) : D → M (List D × Src) := fun x s => R.go (mb env s) (kZ2 x)
def SR.try_ (r : SR) (hs : List Hd) : SR := match r with
  | .ex x e s => handD hs x e s
  | r => r
section
variable (env : DEnv) (st : Sto)
theorem ev_meth (Tn : String) (g : Sto → D → List D → Option (D × Sto)) (mo : EM) (mas : AM) : eMeth Tn g mo mas env st = R.go (mo env st) (kM1 Tn g mas env) := by
  unfold eMeth
  rw [ev_bind]
  refine go_ext fun o s => ?_
  show (if _ then _ else _) = (if _ then _ else _)
  rw [ev_bind]
  rfl
theorem ev_kM1c (g : Sto → D → List D → Option (D × Sto)) (mas : AM) (n : Nat) : kM1 "list" g mas env (.cell n) st = if (C.seq st[n]?).isSome = true then R.go (mas env st) (kM2 g (.cell n)) else .bad := by
  have e : tyD "list" st (.cell n) = (C.seq st[n]?).isSome := by
    show (decide ("list" = "list") && (lstOf st (.cell n)).isSome) = _
    rw [lstOf_seq]
    rfl
  unfold kM1
  rw [e]
theorem ev_isSome {α : Type} (a : α) : (some a).isSome = true := rfl
theorem ev_kM2_append (n : Nat) (y : D) : kM2 appendD (.cell n) [y] st = match C.seq st[n]? with
    | some ys => if fits (ys.length + 1) = true then .ok .non (st.set n (.lst (ys ++ [y]))) else .bad
    | none => .bad := by
  unfold kM2 appendD
  dsimp only
  cases st[n]? with
  | none => rfl
  | some c =>
    cases c with
    | lst ys =>
      show (match (if fits (ys.length + 1) = true then some (D.non, st.set n (.lst (ys ++ [y]))) else none) with | some (d, s') => R.ok d s' | none => .bad) = if fits (ys.length + 1) = true then _ else _
      by_cases h : fits (ys.length + 1) = true
      · rw [if_pos h, if_pos h]
      · rw [if_neg h, if_neg h]
    | _ => rfl
theorem ev_kM2_extend (n : Nat) (z : D) : kM2 extendD (.cell n) [z] st = match C.seq st[n]?, slsOf st z with
    | some ys, some zs => if fits (ys.length + zs.length) = true then .ok .non (st.set n (.lst (ys ++ zs))) else .bad
    | _, _ => .bad := by
  unfold kM2 extendD
  dsimp only
  cases slsOf st z with
  | none =>
    cases st[n]? with
    | none => rfl
    | some c => cases c <;> rfl
  | some zs =>
    cases st[n]? with
    | none => rfl
    | some c =>
      cases c with
      | lst ys =>
        by_cases h : fits (ys.length + zs.length) = true
        · simp [C.seq, h]
        · simp [C.seq, h]
      | _ => rfl
theorem ev_sls (xs : List D) : slsOf st (.lst xs) = some xs := rfl
theorem ev_sl (m : EM) (lo hi : DEnv → M (Option Int)) : eSl m lo hi env st = R.go (m env st) (kSl1 lo hi env) := by
  unfold eSl
  rw [ev_bind]
  refine go_ext fun x s => ?_
  rw [ev_bind]
  refine go_ext fun l s => ?_
  rw [ev_bind]
  exact go_ext fun h s => ev_rd _ _
theorem ev_kSl1 (lo hi : DEnv → M (Option Int)) (x : D) : kSl1 lo hi env x st = R.go (lo env st) (kSl2 hi env x) := rfl
theorem ev_kSl2 (hi : DEnv → M (Option Int)) (x : D) (l : Option Int) : kSl2 hi env x l st = R.go (hi env st) (kSl3 x l) := rfl
theorem ev_kSl3T (xs : List D) (l h : Option Int) : kSl3 (.tup xs) l h st = .ok (.tup (cutD xs l h)) st := rfl
theorem ev_kSl3L (xs : List D) (l h : Option Int) : kSl3 (.lst xs) l h st = .ok (.lst (cutD xs l h)) st := rfl
theorem ev_kSl3S (x : Str) (l h : Option Int) : kSl3 (.str x) l h st = if fits x.length = true then .ok (.str (cutS x l h)) st else .bad := by
  show R.ofO (if fits x.length = true then some (D.str (cutS x l h)) else none) st = _
  by_cases hf : fits x.length = true
  · rw [if_pos hf, if_pos hf]; rfl
  · rw [if_neg hf, if_neg hf]; rfl
theorem ev_pNo : pNo env st = .ok none st := rfl
theorem ev_pInt (m : EM) : pInt m env st = R.go (m env st) kPI := by
  unfold pInt
  rw [ev_bind]
  exact go_ext fun d s => by cases d <;> rfl
theorem ev_kPI (i : Int) : kPI (.int i) st = .ok (some i) st := rfl
theorem ev_revT (xs : List D) : revD st (.tup xs) = some (.tup xs.reverse) := rfl
theorem ev_revL (xs : List D) : revD st (.lst xs) = some (.lst xs.reverse) := rfl
theorem ev_revC (n : Nat) : revD st (.cell n) = (C.seq st[n]?).map fun xs => .lst xs.reverse := by
  show (lstOf st (.cell n)).map _ = _
  rw [lstOf_seq]
theorem ev_listT (xs : List D) : listD st [.tup xs] = some (.lst xs) := rfl
theorem ev_listL (xs : List D) : listD st [.lst xs] = some (.lst xs) := rfl
theorem ev_listC (n : Nat) : listD st [.cell n] = (C.seq st[n]?).map .lst := by
  show (lstOf st (.cell n)).map _ = _
  rw [lstOf_seq]
theorem ev_tupT (xs : List D) : tupleD st [.tup xs] = some (.tup xs) := rfl
theorem ev_tupL (xs : List D) : tupleD st [.lst xs] = some (.tup xs) := rfl
theorem ev_tupC (n : Nat) : tupleD st [.cell n] = (C.seq st[n]?).map .tup := by
  show (lstOf st (.cell n)).map _ = _
  rw [lstOf_seq]
theorem ev_divmod (i j : Int) : divmodD [.int i, .int j] = if divOk i j = true then some (.tup [.int (i / j), .int (i % j)]) else none := rfl
theorem bools_map (bs : List Bool) : bools (bs.map D.bl) = some bs := by
  induction bs with
  | nil => rfl
  | cons b bs ih => rw [List.map_cons, bools, ih]; rfl
theorem ev_allB (bs : List Bool) : allD st [.lst (bs.map .bl)] = some (.bl (bs.all id)) := by
  show ((some (bs.map D.bl)).bind bools).map _ = _
  rw [Option.bind_some, bools_map]
  rfl
theorem ev_anyB (bs : List Bool) : anyD st [.lst (bs.map .bl)] = some (.bl (bs.any id)) := by
  show ((some (bs.map D.bl)).bind bools).map _ = _
  rw [Option.bind_some, bools_map]
  rfl
theorem ev_enum (m : EM) : iEnumD m env st = R.go (m env st) kEn := by
  unfold iEnumD
  rw [ev_bind]
  exact go_ext fun x s => ev_rd _ _
theorem ev_kEnL (xs : List D) : kEn (.lst xs) st = .ok (enumD xs, none) st := rfl
theorem ev_kEnC (n : Nat) : kEn (.cell n) st = R.ofO ((C.seq st[n]?).map fun xs => (enumD xs, some (n, xs))) st := by
  unfold kEn
  rw [lstOf_seq]
  rfl
theorem ev_zip (ma mb : EM) : iZipD ma mb env st = R.go (ma env st) (kZ1 mb env) := by
  unfold iZipD
  rw [ev_bind]
  refine go_ext fun x s => ?_
  rw [ev_bind]
  exact go_ext fun y s => ev_opt _ _
theorem ev_kZ1 (mb : EM) (x : D) : kZ1 mb env x st = R.go (mb env st) (kZ2 x) := rfl
theorem ev_kZ2T (xs ys : List D) : kZ2 (.tup xs) (.tup ys) st = .ok (zipD xs ys, none) st := rfl
theorem ev_kZ2L (xs ys : List D) : kZ2 (.lst xs) (.lst ys) st = .ok (zipD xs ys, none) st := rfl
def augO (i : Nat) (g : D → D → Option D) (m : EM) (env : DEnv) (st : Sto) : Option D → SR
  | some x => R.toS (m env st) env (kAug i g x)
  | none => .bad
theorem ev_aug (i : Nat) (g : D → D → Option D) (m : EM) : sAug i g m env st = augO i g m env st env[i]?.join := by
  unfold sAug augO
  cases env[i]? with
  | none => rfl
  | some o =>
    cases o with
    | none => rfl
    | some x =>
      show sE m _ env st = R.toS (m env st) env (kAug i g x)
      rw [ev_sE]
      rfl
theorem ev_augO (i : Nat) (g : D → D → Option D) (m : EM) (x : D) : augO i g m env st (some x) = R.toS (m env st) env (kAug i g x) := rfl
def augR (i : Nat) (env : DEnv) (st : Sto) : Option D → SR
  | some z => .nx (env.set i (some z)) st
  | none => .bad
theorem ev_kAug (i : Nat) (g : D → D → Option D) (x y : D) : kAug i g x y env st = augR i env st (g x y) := by
  unfold kAug augR
  cases g x y <;> rfl
theorem ev_augR (i : Nat) (z : D) : augR i env st (some z) = .nx (env.set i (some z)) st := rfl
theorem ev_addI (i j : Int) : addI (.int i) (.int j) = some (.int (i + j)) := rfl
theorem ev_mulI (i j : Int) : mulI (.int i) (.int j) = if mulOk i j = true then some (.int (i * j)) else none := rfl
theorem ev_sTry (b : SM) (hs : List Hd) : sTry b hs env st = SR.try_ (b env st) hs := by
  unfold sTry SR.try_
  cases b env st <;> rfl
theorem try_nx (e : DEnv) (s : Sto) (hs : List Hd) : SR.try_ (.nx e s) hs = .nx e s := rfl
theorem try_rt (d : D) (s : Sto) (hs : List Hd) : SR.try_ (.rt d s) hs = .rt d s := rfl
theorem try_ex (x : Ex) (e : DEnv) (s : Sto) (hs : List Hd) : SR.try_ (.ex x e s) hs = handD hs x e s := rfl
end
/-! ### comprehensions -/
theorem lcD_nil (c : Src) (g : D → DEnv → Option DEnv) (t : BM) (el : EM) (env : DEnv) (acc : List D) (st : Sto) (h : c.ok st = true) : lcD c g t el env [] acc st = .ok acc st := by
  unfold lcD
  rw [if_pos h]
theorem lcD_inv {c : Src} {g : D → DEnv → Option DEnv} {t : BM} {el : EM} {env : DEnv} {items : List D} {st : Sto} (Inv : Nat → List D → Sto → Prop) (h0 : Inv 0 [] st) (hc : ∀ i acc s, Inv i acc s → c.ok s = true) (hz : items.length ≤ 16777216)
    (turn : ∀ i d acc s, items[i]? = some d → Inv i acc s → ∃ e1, g d env = some e1 ∧ ∃ b s1, t e1 s = .ok b s1 ∧ ((b = true ∧ ∃ y s2, el e1 s1 = .ok y s2 ∧ Inv (i + 1) (acc ++ [y]) s2) ∨ (b = false ∧ Inv (i + 1) acc s1))) :
    ∃ acc s, lcD c g t el env items [] st = .ok acc s ∧ Inv items.length acc s := by
  suffices h : ∀ (xs : List D) (i : Nat) (acc : List D) (s : Sto), i ≤ items.length → acc.length ≤ i → items.drop i = xs → Inv i acc s → ∃ acc' s', lcD c g t el env xs acc s = .ok acc' s' ∧ Inv items.length acc' s' from h items 0 [] st (Nat.zero_le _) (Nat.zero_le _) (by simp) h0
  intro xs
  induction xs with
  | nil =>
    intro i acc s hle _ hd hi
    have hl : items.length ≤ i := by
      have := congrArg List.length hd
      rw [List.length_drop] at this
      simp at this
      omega
    have hz : i = items.length := by omega
    subst hz
    exact ⟨acc, s, lcD_nil _ _ _ _ _ _ _ (hc _ _ _ hi), hi⟩
  | cons x xs ih =>
    intro i acc s hle ha hd hi
    have hx : items[i]? = some x := by
      have := congrArg (·[0]?) hd
      simpa using this
    have hlt : i < items.length := (List.getElem?_eq_some_iff.mp hx).1
    have hxs : items.drop (i + 1) = xs := by
      have := congrArg (List.drop 1) hd
      rw [List.drop_drop] at this
      simpa [Nat.add_comm] using this
    obtain ⟨e1, hg, b, s1, ht, h⟩ := turn i x acc s hx hi
    rcases h with ⟨rfl, y, s2, hy, h2⟩ | ⟨rfl, h2⟩
    · obtain ⟨acc', s', h3, h4⟩ := ih (i + 1) (acc ++ [y]) s2 hlt (by rw [List.length_append, List.length_singleton]; omega) hxs h2
      refine ⟨acc', s', ?_, h4⟩
      unfold lcD
      rw [if_pos (hc _ _ _ hi), hg]
      dsimp only
      rw [M.bind_app, M.nox_ok ht]
      dsimp only
      rw [if_pos rfl, M.bind_app, M.nox_ok hy]
      dsimp only
      rw [if_pos (decide_eq_true (by omega))]
      exact h3
    · obtain ⟨acc', s', h3, h4⟩ := ih (i + 1) acc s1 hlt (by omega) hxs h2
      refine ⟨acc', s', ?_, h4⟩
      unfold lcD
      rw [if_pos (hc _ _ _ hi), hg]
      dsimp only
      rw [M.bind_app, M.nox_ok ht]
      exact h3
theorem lcD_map {c : Src} {g : D → DEnv → Option DEnv} {el : EM} {env : DEnv} {items : List D} {st : Sto} {f : D → D} (hc : c.ok st = true) (hz : items.length ≤ 16777216)
    (h : ∀ d ∈ items, ∃ e1, g d env = some e1 ∧ el e1 st = .ok (f d) st) : lcD c g bYes el env items [] st = .ok (items.map f) st := by
  obtain ⟨acc, s, h1, h2, h3⟩ := lcD_inv (c := c) (g := g) (t := bYes) (el := el) (env := env) (items := items) (st := st) (fun i acc s => s = st ∧ acc = (items.take i).map f) ⟨rfl, by simp⟩ (fun i acc s hi => by rw [hi.1]; exact hc) hz fun i d acc s hd hi => by
    obtain ⟨rfl, rfl⟩ := hi
    obtain ⟨e1, hg, he⟩ := h d (List.mem_of_getElem? hd)
    refine ⟨e1, hg, true, s, rfl, .inl ⟨rfl, _, _, he, rfl, ?_⟩⟩
    rw [List.take_add_one, hd]
    simp
  rw [h1, h2, h3, List.take_length]
theorem lcD_filt {c : Src} {g : D → DEnv → Option DEnv} {t : BM} {el : EM} {env : DEnv} {items : List D} {st : Sto} {f : D → D} {p : D → Bool} (hc : c.ok st = true) (hz : items.length ≤ 16777216)
    (h : ∀ d ∈ items, ∃ e1, g d env = some e1 ∧ t e1 st = .ok (p d) st ∧ (p d = true → el e1 st = .ok (f d) st)) : lcD c g t el env items [] st = .ok ((items.filter p).map f) st := by
  obtain ⟨acc, s, h1, h2, h3⟩ := lcD_inv (c := c) (g := g) (t := t) (el := el) (env := env) (items := items) (st := st) (fun i acc s => s = st ∧ acc = ((items.take i).filter p).map f) ⟨rfl, by simp⟩ (fun i acc s hi => by rw [hi.1]; exact hc) hz fun i d acc s hd hi => by
    obtain ⟨rfl, rfl⟩ := hi
    obtain ⟨e1, hg, ht, he⟩ := h d (List.mem_of_getElem? hd)
    refine ⟨e1, hg, p d, s, ht, ?_⟩
    cases hp : p d with
    | true =>
      refine .inl ⟨rfl, _, _, he hp, rfl, ?_⟩
      rw [List.take_add_one, hd]
      simp [List.filter_append, hp]
    | false =>
      refine .inr ⟨rfl, rfl, ?_⟩
      rw [List.take_add_one, hd]
      simp [List.filter_append, hp]
  rw [h1, h2, h3, List.take_length]
end L3
namespace L3
open PySem PySem.Spec PyProof.Rows L2

/-! ## Calls that leave no garbage -/
mutual
/-- all cells lie below k -/
def D.bel (k : Nat) : D → Bool
  | .non => true
  | .bl _ => true
  | .int _ => true
  | .str _ => true
  | .tup xs => D.bels k xs
  | .lst xs => D.bels k xs
  | .scr xs => D.bels k xs
  | .dic kvs => D.belk k kvs
  | .cell n => decide (n < k)
def D.bels (k : Nat) : List D → Bool
  | [] => true
  | d :: ds => D.bel k d && D.bels k ds
def D.belk (k : Nat) : List (Key × D) → Bool
  | [] => true
  | (_, d) :: ds => D.bel k d && D.belk k ds
end
/-- no cell is in it -/
abbrev D.pure : D → Bool := D.bel 0
abbrev D.pures : List D → Bool := D.bels 0
def C.bel (k : Nat) : C → Bool
  | .lst xs => D.bels k xs
  | .dic kvs => D.belk k kvs
  | .gone => true
  | .tab _ => true
def C.beq : C → C → Bool
  | .lst a, .lst b => D.beqs a b
  | .dic a, .dic b => D.beqk a b
  | .gone, .gone => true
  | .tab a, .tab b => decide (a = b)
  | _, _ => false
theorem C.beq_eq {a b : C} (h : C.beq a b = true) : a = b := by
  cases a <;> cases b <;> first | rfl | (simp [C.beq] at h; done) | skip
  · rw [D.beqs_eq (show D.beqs _ _ = true from h)]
  · rw [D.beqk_eq (show D.beqk _ _ = true from h)]
  · rw [of_decide_eq_true (show decide (_ = _) = true from h)]
theorem C.beq_refl (a : C) : C.beq a a = true := by
  cases a with
  | lst xs => exact D.beqs_refl xs
  | dic xs => exact D.beqk_refl xs
  | gone => rfl
  | tab x => exact decide_eq_true rfl
section
variable {K : PySem.W.Frag} {G G' : Hp} {ι ι' : List Addr}
mutual
theorem DV.bel (k : Nat) (hk : ι.length ≤ k) : ∀ {v : V} {d : D}, DV K G ι v d → d.bel k = true
  | _, _, .non => by simp [D.bel]
  | _, _, .bl b => by simp [D.bel]
  | _, _, .int i => by simp [D.bel]
  | _, _, .str x => by simp [D.bel]
  | _, _, .tup _ hs => by rw [D.bel]; exact DVs.bel k hk hs
  | _, _, .lst _ hs => by rw [D.bel]; exact DVs.bel k hk hs
  | _, _, .scr _ hs => by rw [D.bel]; exact DVs.bel k hk hs
  | _, _, .dic _ hs => by rw [D.bel]; exact DVk.bel k hk hs
  | _, _, .cell h => by
    have := (List.getElem?_eq_some_iff.mp h).1
    rw [D.bel, decide_eq_true_eq]
    omega
theorem DVs.bel (k : Nat) (hk : ι.length ≤ k) : ∀ {v : List V} {d : List D}, DVs K G ι v d → D.bels k d = true
  | _, _, .nil => by simp [D.bels]
  | _, _, .cons h hs => by rw [D.bels, DV.bel k hk h, DVs.bel k hk hs]; rfl
theorem DVk.bel (k : Nat) (hk : ι.length ≤ k) : ∀ {v : List (Key × V)} {d : List (Key × D)}, DVk K G ι v d → D.belk k d = true
  | _, _, .nil => by simp [D.belk]
  | _, _, .cons h hs => by rw [D.belk, DV.bel k hk h, DVk.bel k hk hs]; rfl
end
mutual
theorem DV.belc (k : Nat) (sm : Same G G') : ∀ {v : V} {d : D}, DV K G ι v d → d.bel k = true → DV K G' (ι.take k) v d
  | _, _, .non, _ => .non
  | _, _, .bl b, _ => .bl b
  | _, _, .int i, _ => .int i
  | _, _, .str x, _ => .str x
  | _, _, .tup h hs, q => .tup (sm.tup h) (DVs.belc k sm hs (by rw [D.bel] at q; exact q))
  | _, _, .lst h hs, q => .lst (sm _ _ h) (DVs.belc k sm hs (by rw [D.bel] at q; exact q))
  | _, _, .scr h hs, q => .scr (sm.seq h) (DVs.belc k sm hs (by rw [D.bel] at q; exact q))
  | _, _, .dic h hs, q => .dic (sm _ _ h) (DVk.belc k sm hs (by rw [D.bel] at q; exact q))
  | _, _, .cell h, q => .cell (by
    rw [D.bel, decide_eq_true_eq] at q
    rw [List.getElem?_take_of_lt q]
    exact h)
theorem DVs.belc (k : Nat) (sm : Same G G') : ∀ {v : List V} {d : List D}, DVs K G ι v d → D.bels k d = true → DVs K G' (ι.take k) v d
  | _, _, .nil, _ => .nil
  | _, _, .cons h hs, q => by
    rw [D.bels, Bool.and_eq_true] at q
    exact .cons (DV.belc k sm h q.1) (DVs.belc k sm hs q.2)
theorem DVk.belc (k : Nat) (sm : Same G G') : ∀ {v : List (Key × V)} {d : List (Key × D)}, DVk K G ι v d → D.belk k d = true → DVk K G' (ι.take k) v d
  | _, _, .nil, _ => .nil
  | _, _, .cons h hs, q => by
    rw [D.belk, Bool.and_eq_true] at q
    exact .cons (DV.belc k sm h q.1) (DVk.belc k sm hs q.2)
end
end
/-- what stood in the cells from k on, as data that stand by themselves -/
def mapO {α β : Type} (f : α → Option β) : List α → Option (List β)
  | [] => some []
  | x :: xs => match f x with
    | some y => (mapO f xs).map (y :: ·)
    | none => none
def mapK {α : Type} (f : D → Option D) : List (α × D) → Option (List (α × D))
  | [] => some []
  | (k, x) :: xs => match f x with
    | some y => (mapK f xs).map ((k, y) :: ·)
    | none => none
def frz (k : Nat) (st : Sto) : Nat → D → Option D
  | 0, _ => none
  | n + 1, d => if d.bel k = true then some d else match d with
    | .cell m => match st[m]? with
      | some (.lst xs) => (mapO (frz k st n) xs).map .lst
      | some (.dic xs) => (mapK (frz k st n) xs).map .dic
      | _ => none
    | .tup xs => (mapO (frz k st n) xs).map .tup
    | .lst xs => (mapO (frz k st n) xs).map .lst
    | .dic xs => (mapK (frz k st n) xs).map .dic
    | _ => none
/-- the heap that stands for good, with the cells from k on -/
def hld (G H : Hp) (ι : List Addr) (k : Nat) : Hp := fun a => match G a with
  | some o => some o
  | none => open Classical in if a ∈ ι.drop k then H a else none
section
variable {K : PySem.W.Frag} {G : Hp} {ι : List Addr} {st : Sto} {H : Hp} {k : Nat}
theorem hld_same : Same G (hld G H ι k) := fun a o h => by unfold hld; rw [h]
theorem hld_of {a : Addr} (h : G a = none) (h' : a ∈ ι.drop k) : hld G H ι k a = H a := by unfold hld; rw [h]; exact if_pos h'
theorem hld_not {a : Addr} (h' : a ∉ ι.drop k) : hld G H ι k a = G a := by
  unfold hld
  cases e : G a with
  | some o => rfl
  | none => exact if_neg h'
theorem hld_cases {a : Addr} {o : HO} (h : hld G H ι k a = some o) : G a = some o ∨ (G a = none ∧ a ∈ ι.drop k ∧ H a = some o) := by
  cases e : G a with
  | some u => rw [hld_same a u e] at h; exact .inl h
  | none =>
    by_cases hm : a ∈ ι.drop k
    · rw [hld_of e hm] at h; exact .inr ⟨rfl, hm, h⟩
    · rw [hld_not hm, e] at h; cases h
theorem hld_in (w : Same G H) : Same (hld G H ι k) H := fun a o h => by
  rcases hld_cases h with h | ⟨_, _, h⟩
  · exact w a o h
  · exact h
theorem mapO_ok {f : D → Option D} (hf : ∀ {v d d'}, DV K G ι v d → f d = some d' → DV K (hld G H ι k) (ι.take k) v d') : ∀ {vs : List V} {ds es : List D}, DVs K G ι vs ds → mapO f ds = some es → DVs K (hld G H ι k) (ι.take k) vs es
  | _, _, es, .nil, h => by cases h; exact .nil
  | _, d :: ds, es, .cons r rs, h => by
    unfold mapO at h
    cases e : f d with
    | none => rw [e] at h; cases h
    | some y =>
      rw [e] at h
      dsimp only at h
      cases e2 : mapO f ds with
      | none => rw [e2] at h; cases h
      | some ys =>
        rw [e2] at h
        cases h
        exact .cons (hf r e) (mapO_ok hf rs e2)
theorem mapK_ok {f : D → Option D} (hf : ∀ {v d d'}, DV K G ι v d → f d = some d' → DV K (hld G H ι k) (ι.take k) v d') : ∀ {vs : List (Key × V)} {ds es : List (Key × D)}, DVk K G ι vs ds → mapK f ds = some es → DVk K (hld G H ι k) (ι.take k) vs es
  | _, _, es, .nil, h => by cases h; exact .nil
  | _, (q, d) :: ds, es, .cons r rs, h => by
    unfold mapK at h
    cases e : f d with
    | none => rw [e] at h; cases h
    | some y =>
      rw [e] at h
      dsimp only at h
      cases e2 : mapK f ds with
      | none => rw [e2] at h; cases h
      | some ys =>
        rw [e2] at h
        cases h
        exact .cons (hf r e) (mapK_ok hf rs e2)
theorem mapF_ok {f : D → Option D} (hf : ∀ {v d d'}, DV K G ι v d → f d = some d' → DV K (hld G H ι k) (ι.take k) v d') : ∀ {vs : List (Str × V)} {ds es : List (Str × D)}, DVf K G ι vs ds → mapK f ds = some es → DVf K (hld G H ι k) (ι.take k) vs es
  | _, _, es, .nil, h => by cases h; exact .nil
  | _, (q, d) :: ds, es, .cons r rs, h => by
    unfold mapK at h
    cases e : f d with
    | none => rw [e] at h; cases h
    | some y =>
      rw [e] at h
      dsimp only at h
      cases e2 : mapK f ds with
      | none => rw [e2] at h; cases h
      | some ys =>
        rw [e2] at h
        cases h
        exact .cons (hf r e) (mapF_ok hf rs e2)
theorem frz_ok (w : WH K G ι st H) : ∀ (n : Nat) {v : V} {d d' : D}, DV K G ι v d → frz k st n d = some d' → DV K (hld G H ι k) (ι.take k) v d'
  | 0, _, _, _, _, h => by cases h
  | n + 1, v, d, d', r, h => by
    unfold frz at h
    by_cases hb : d.bel k = true
    · rw [if_pos hb] at h
      cases h
      exact r.belc k hld_same hb
    · rw [if_neg hb] at h
      cases r with
      | @cell m a q =>
        dsimp only at h
        have hm : ¬ m < k := fun z => hb (by rw [D.bel]; exact decide_eq_true z)
        have ha : a ∈ ι.drop k := by
          rw [List.mem_iff_getElem?]
          refine ⟨m - k, ?_⟩
          rw [List.getElem?_drop, show k + (m - k) = m by omega]
          exact q
        cases e : st[m]? with
        | none => rw [e] at h; cases h
        | some c =>
          rw [e] at h
          have cr := w.cells m a c q e
          cases c with
          | gone => cases h
          | tab _ => cases h
          | lst xs =>
            obtain ⟨g, vs, e2, r2⟩ := cr
            dsimp only at h
            cases e3 : mapO (frz k st n) xs with
            | none => rw [e3] at h; cases h
            | some ys =>
              rw [e3] at h
              cases h
              exact .lst (by rw [hld_of g ha]; exact e2) (mapO_ok (fun r e => frz_ok w n r e) r2 e3)
          | dic xs =>
            obtain ⟨g, vs, e2, r2⟩ := cr
            dsimp only at h
            cases e3 : mapK (frz k st n) xs with
            | none => rw [e3] at h; cases h
            | some ys =>
              rw [e3] at h
              cases h
              exact .dic (by rw [hld_of g ha]; exact e2) (mapK_ok (fun r e => frz_ok w n r e) r2 e3)
      | @tup a vs ds q hs =>
        dsimp only at h
        cases e3 : mapO (frz k st n) ds with
        | none => rw [e3] at h; cases h
        | some ys =>
          rw [e3] at h
          cases h
          exact .tup (hld_same.tup q) (mapO_ok (fun r e => frz_ok w n r e) hs e3)
      | @lst a vs ds q hs =>
        dsimp only at h
        cases e3 : mapO (frz k st n) ds with
        | none => rw [e3] at h; cases h
        | some ys =>
          rw [e3] at h
          cases h
          exact .lst (hld_same _ _ q) (mapO_ok (fun r e => frz_ok w n r e) hs e3)
      | @dic a vs ds q hs =>
        dsimp only at h
        cases e3 : mapK (frz k st n) ds with
        | none => rw [e3] at h; cases h
        | some ys =>
          rw [e3] at h
          cases h
          exact .dic (hld_same _ _ q) (mapK_ok (fun r e => frz_ok w n r e) hs e3)
      | scr q hs => cases h
      | non => cases h
      | bl => cases h
      | int => cases h
      | str => cases h
/-- the cells ahead are as they were, or speak of themselves alone -/
def keepS (k : Nat) : Sto → Sto → Bool
  | [], _ => true
  | _ :: _, [] => false
  | c :: cs, d :: ds => (C.beq c d || C.bel k d) && keepS k cs ds
theorem keepS_at : ∀ {st st' : Sto} {n : Nat} {c : C}, keepS k st st' = true → n < st.length → st'[n]? = some c → st[n]? = some c ∨ C.bel k c = true
  | [], _, n, _, _, h, _ => by simp at h
  | _ :: _, [], n, _, h, _, _ => by cases h
  | c :: cs, d :: ds, 0, x, h, _, e => by
    unfold keepS at h
    rw [Bool.and_eq_true, Bool.or_eq_true] at h
    simp at e
    subst e
    rcases h.1 with z | z
    · exact .inl (by rw [C.beq_eq z]; rfl)
    · exact .inr z
  | c :: cs, d :: ds, n + 1, x, h, l, e => by
    unfold keepS at h
    rw [Bool.and_eq_true] at h
    exact keepS_at (n := n) h.2 (by simpa using l) (by simpa using e)
theorem keepS_len : ∀ {st st' : Sto}, keepS k st st' = true → st.length ≤ st'.length
  | [], _, _ => Nat.zero_le _
  | _ :: _, [], h => by cases h
  | c :: cs, d :: ds, h => by
    unfold keepS at h
    rw [Bool.and_eq_true] at h
    have := keepS_len h.2
    simpa using this
end
section
variable {K : PySem.W.Frag} {G G' : Hp} {ι ι' : List Addr} {st st' : Sto} {H H' : Hp}
theorem Ext.take (x : Ext ι ι' H H' G G') : ι'.take ι.length = ι := by
  obtain ⟨t, e⟩ := x.pre
  rw [e, List.take_left]
theorem Ext.gc (x : Ext ι ι' H H' G G') : Ext ι ι H H' G (hld G' H' ι' ι.length) where
  fr := x.fr
  sm := x.sm.trans hld_same
  pre := ⟨[], by simp⟩
  new := fun _ h => .inl h
  gn := fun a o h => by
    rcases hld_cases h with h | ⟨_, hm, _⟩
    · exact x.gn a o h
    · rcases x.new a (List.mem_of_mem_drop hm) with z | z
      · exact .inr (.inr z)
      · exact .inr (.inl z)
theorem WH.gc (w : WH K G ι st H) (x : Ext ι ι' H H' G G') (w' : WH K G' ι' st' H') (hk : keepS ι.length st st' = true) : WH K (hld G' H' ι' ι.length) ι (st'.take ι.length) H' where
  same := hld_in w'.same
  len := by
    have := keepS_len hk
    have := w.len
    rw [List.length_take]
    omega
  nd := w.nd
  there := fun a ha => by
    obtain ⟨t, e⟩ := x.pre
    exact w'.there a (by rw [e]; exact List.mem_append_left _ ha)
  cells := fun n a c h1 h2 => by
    have hn : n < ι.length := (List.getElem?_eq_some_iff.mp h1).1
    rw [List.getElem?_take_of_lt hn] at h2
    have h1' : ι'[n]? = some a := ix_mono x.pre h1
    have cr := w'.cells n a c h1' h2
    have hb : C.bel ι.length c = true := by
      rcases keepS_at hk (by rw [← w.len]; exact hn) h2 with z | z
      · have q := w.cells n a c h1 z
        cases c with
        | gone => exact q.elim
        | tab _ => rfl
        | lst xs => obtain ⟨_, vs, _, r⟩ := q; exact r.bel _ (Nat.le_refl _)
        | dic xs => obtain ⟨_, vs, _, r⟩ := q; exact r.bel _ (Nat.le_refl _)
      · exact z
    have na : a ∉ ι'.drop ι.length := fun hm => by
      obtain ⟨t, e⟩ := x.pre
      rw [e, List.drop_left] at hm
      have nd := w'.nd
      rw [e, List.nodup_append] at nd
      exact nd.2.2 a (List.mem_of_getElem? h1) a hm rfl
    have tk : ι'.take ι.length = ι := x.take
    cases c with
    | gone => exact cr.elim
    | tab x =>
      obtain ⟨g, e, ps, e1, e2, e3⟩ := cr
      exact ⟨by rw [hld_not na]; exact g, e, ps, e1, e2, fun pos cv q => by obtain ⟨c, e4, e5⟩ := e3 pos cv q; exact ⟨c, e4, hld_same _ _ e5⟩⟩
    | lst xs =>
      obtain ⟨g, vs, e, r⟩ := cr
      exact ⟨by rw [hld_not na]; exact g, vs, e, by
        have z := r.belc ι.length (hld_same (H := H') (ι := ι') (k := ι.length)) hb
        rw [tk] at z
        exact z⟩
    | dic xs =>
      obtain ⟨g, vs, e, r⟩ := cr
      exact ⟨by rw [hld_not na]; exact g, vs, e, by
        have z := r.belc ι.length (hld_same (H := H') (ι := ι') (k := ι.length)) hb
        rw [tk] at z
        exact z⟩
end

/-- a call's leavings are forgotten -/
def gcR (st : Sto) : R D → R D
  | .ok d st' => if keepS st.length st st' = true then (match frz st.length st' 9 d with
    | some d' => .ok d' (st'.take st.length)
    | none => .bad) else .bad
  | .ex x st' => if keepS st.length st st' = true then (match mapK (frz st.length st' 9) x.fs with
    | some fs => .ex ⟨x.cls, fs⟩ (st'.take st.length)
    | none => .bad) else .bad
  | .bad => .bad
def gcD (m : List D → M D) : List D → M D := fun ds st => gcR st (m ds st)
section
variable {P : Program} {w : World} {K : PySem.W.Frag} {mg : Str → Option Value} {base : Heap} {T : CT}
theorem PostE.gc {G : Hp} {ι : List Addr} {st : Sto} {H : Hp} {r : R D} {E : XK} {Q : VK} (wh : WH K G ι st H) (p : PostE K T G ι H (gcR st r) E Q) : PostE K T G ι H r E Q := by
  cases r with
  | bad => exact p
  | ok d st' =>
    intro v G' ι' H' x w' r'
    unfold gcR at p
    dsimp only at p
    by_cases hk : keepS st.length st st' = true
    · rw [if_pos hk] at p
      cases e : frz st.length st' 9 d with
      | none => rw [e] at p; exact p.elim
      | some d' =>
        rw [e] at p
        rw [← wh.len] at hk e p
        have r2 := frz_ok (k := ι.length) w' 9 r' e
        rw [x.take] at r2
        exact p v _ ι H' x.gc (wh.gc x w' hk) r2
    · rw [if_neg hk] at p; exact p.elim
  | ex y st' =>
    intro c dd G' ι' H' x w' r'
    unfold gcR at p
    dsimp only at p
    by_cases hk : keepS st.length st st' = true
    · rw [if_pos hk] at p
      cases e : mapK (frz st.length st' 9) y.fs with
      | none => rw [e] at p; exact p.elim
      | some fs =>
        rw [e] at p
        rw [← wh.len] at hk e p
        refine p c dd _ ι H' x.gc (wh.gc x w' hk) ?_
        obtain ⟨a, h1, h2, h3⟩ := r'
        refine ⟨a, h1, h2, ?_⟩
        rcases h3 with ⟨e1, e2⟩ | ⟨b, vs, e1, e2, r3⟩
        · rw [e1] at e
          cases e
          exact .inl ⟨rfl, e2⟩
        · refine .inr ⟨b, vs, e1, hld_same b _ e2, ?_⟩
          have z := mapF_ok (H := H') (k := ι.length) (fun r e => frz_ok w' 9 r e) r3 e
          rw [x.take] at z
          exact z
    · rw [if_neg hk] at p; exact p.elim
theorem fn_gc {k : Nat} {f : Addr} {fd : FuncData} {ps : List Str} {sem : List D → M D} (h : FnD P w K mg base T k f fd ps sem) : FnD P w K mg base T k f fd ps (gcD sem) :=
  h.imp fun vs H Q E ⟨G, ι, st, ds, wh, r, p⟩ => ⟨G, ι, st, ds, wh, r, PostE.gc wh p⟩
end

theorem gc_nil {m : List D → M D} {ds : List D} {d : D} {s : Sto} (h : gcD m ds [] = .ok d s) : s = [] := by
  unfold gcD at h
  cases e : m ds [] with
  | bad => rw [e] at h; cases h
  | ok d' s' =>
    rw [e] at h
    unfold gcR at h
    dsimp only at h
    split at h
    · split at h
      · cases h; rfl
      · cases h
    · cases h
  | ex x s' =>
    rw [e] at h
    unfold gcR at h
    dsimp only at h
    split at h
    · split at h <;> cases h
    · cases h
theorem gc_nilx {m : List D → M D} {ds : List D} {x : Ex} {s : Sto} (h : gcD m ds [] = .ex x s) : s = [] := by
  unfold gcD at h
  cases e : m ds [] with
  | bad => rw [e] at h; cases h
  | ok d' s' =>
    rw [e] at h
    unfold gcR at h
    dsimp only at h
    split at h
    · split at h <;> cases h
    · cases h
  | ex x s' =>
    rw [e] at h
    unfold gcR at h
    dsimp only at h
    split at h
    · split at h
      · cases h; rfl
      · cases h
    · cases h
/-! ## Calls that see no cell: run on an empty store -/
mutual
/-- nothing in it but what can never be changed (no list, no dict) -/
def D.hard : D → Bool
  | .non => true
  | .bl _ => true
  | .int _ => true
  | .str _ => true
  | .tup xs => D.hards xs
  | _ => false
def D.hards : List D → Bool
  | [] => true
  | d :: ds => D.hard d && D.hards ds
end
def isoR (st : Sto) (free : Bool) : R D → R D
  | .ok d _ => if free || D.hard d then .ok d st else .bad
  | .ex x _ => if free || D.hards (x.fs.map (·.2)) then .ex x st else .bad
  | .bad => .bad
def isoD (m : List D → M D) : List D → M D := fun ds st => if D.pures ds = true then isoR st true (gcD m ds []) else match mapO (frz 0 st 9) ds with
  | some es => isoR st false (gcD m es [])
  | none => .bad
/-- without what stands in cells -/
def less (G G0 : Hp) (ι : List Addr) : Hp := fun a => open Classical in if a ∈ ι then G0 a else G a
section
variable {K : PySem.W.Frag} {G G0 G1 : Hp} {ι : List Addr} {st : Sto} {H H1 : Hp}
theorem less_in {a : Addr} (h : a ∈ ι) : less G G0 ι a = G0 a := if_pos h
theorem less_out {a : Addr} (h : a ∉ ι) : less G G0 ι a = G a := if_neg h
theorem WH.none (w : WH K G ι st H) : WH K (hld G H ι 0) [] [] H where
  same := hld_in w.same
  len := rfl
  nd := by simp
  there := fun _ h => by simp at h
  cells := fun n a c h => by simp at h
theorem Ext.iso (w : WH K G ι st H) (x : Ext [] [] H H1 (hld G H ι 0) G1) : Ext ι ι H H1 G (less G1 G ι) where
  fr := fun a o h _ => x.fr a o h (by simp)
  sm := fun a o h => by
    by_cases hm : a ∈ ι
    · rw [less_in hm]; exact h
    · rw [less_out hm]; exact x.sm a o (hld_same a o h)
  pre := ⟨[], by simp⟩
  new := fun _ h => .inl h
  gn := fun a o h => by
    by_cases hm : a ∈ ι
    · exact .inr (.inr hm)
    · rw [less_out hm] at h
      rcases x.gn a o h with z | z | z
      · rw [hld_not (by simpa using hm)] at z; exact .inl z
      · exact .inr (.inl z)
      · simp at z
theorem WH.iso (w : WH K G ι st H) (x : Ext [] [] H H1 (hld G H ι 0) G1) (w1 : WH K G1 [] [] H1) : WH K (less G1 G ι) ι st H1 where
  same := fun a o h => by
    by_cases hm : a ∈ ι
    · rw [less_in hm] at h; exact x.fr a o (w.same a o h) (by simp)
    · rw [less_out hm] at h; exact w1.same a o h
  len := w.len
  nd := w.nd
  there := fun a ha e => by
    cases q : H a with
    | none => exact w.there a ha q
    | some o => rw [x.fr a o q (by simp)] at e; cases e
  cells := fun n a c h1 h2 => by
    have hm : a ∈ ι := List.mem_of_getElem? h1
    exact (w.cells n a c h1 h2).keep (x.iso w).sm ⟨[], by simp⟩ (fun g => by rw [less_in hm]; exact g) fun o e => x.fr a o e (by simp)
theorem less_tup (w : WH K G ι st H) (x : Ext [] [] H H1 (hld G H ι 0) G1) (w1 : WH K G1 [] [] H1) {a : Addr} {xs : List V} (h : SqT K G1 a xs) : SqT K (less G1 G ι) a xs := by
  have x_fr := x.fr
  have key : ∀ o, G1 a = some o → (∀ vs, o ≠ .lst vs) → (∀ vs, o ≠ .dK vs) → (∀ vs, o ≠ .tbl vs) → less G1 G ι a = some o := fun o e n1 n2 n3 => by
    by_cases hm : a ∈ ι
    · rw [less_in hm]
      obtain ⟨n, hn⟩ := List.mem_iff_getElem?.mp hm
      have hl : n < st.length := by rw [← w.len]; exact (List.getElem?_eq_some_iff.mp hn).1
      have cr := w.cells n a st[n] hn (List.getElem?_eq_getElem hl)
      have eH : H1 a = some o := w1.same a o e
      cases hc : st[n] with
      | lst ds =>
        rw [hc] at cr
        obtain ⟨_, vs, e2, _⟩ := cr
        rw [x.fr a _ e2 (by simp)] at eH
        cases eH
        exact absurd rfl (n1 vs)
      | dic ds =>
        rw [hc] at cr
        obtain ⟨_, vs, e2, _⟩ := cr
        rw [x.fr a _ e2 (by simp)] at eH
        cases eH
        exact absurd rfl (n2 vs)
      | gone =>
        rw [hc] at cr
        exact cr.elim
      | tab x =>
        rw [hc] at cr
        obtain ⟨_, _, ps, e2, _⟩ := cr
        rw [x_fr a _ e2 (by simp)] at eH
        cases eH
        exact absurd rfl (n3 ps)
    · rw [less_out hm]; exact e
  rcases h with (h | ⟨o, h⟩) | h
  · exact .inl (.inl (key _ h (fun _ z => by cases z) (fun _ z => by cases z) fun _ z => by cases z))
  · exact .inl (.inr ⟨o, key _ h (fun _ z => by cases z) (fun _ z => by cases z) fun _ z => by cases z⟩)
  · exact .inr h
mutual
theorem hard_ok (w : WH K G ι st H) (x : Ext [] [] H H1 (hld G H ι 0) G1) (w1 : WH K G1 [] [] H1) : ∀ {v : V} {d : D}, DV K G1 [] v d → d.hard = true → DV K (less G1 G ι) ι v d
  | _, _, .non, _ => .non
  | _, _, .bl b, _ => .bl b
  | _, _, .int i, _ => .int i
  | _, _, .str x, _ => .str x
  | _, _, .tup q hs, h => .tup (less_tup w x w1 q) (hards_ok w x w1 hs (by rw [D.hard] at h; exact h))
  | _, _, .lst q hs, h => by simp [D.hard] at h
  | _, _, .scr q hs, h => by simp [D.hard] at h
  | _, _, .dic q hs, h => by simp [D.hard] at h
  | _, _, .cell q, h => by simp [D.hard] at h
theorem hards_ok (w : WH K G ι st H) (x : Ext [] [] H H1 (hld G H ι 0) G1) (w1 : WH K G1 [] [] H1) : ∀ {v : List V} {d : List D}, DVs K G1 [] v d → D.hards d = true → DVs K (less G1 G ι) ι v d
  | _, _, .nil, _ => .nil
  | _, _, .cons r rs, h => by
    rw [D.hards, Bool.and_eq_true] at h
    exact .cons (hard_ok w x w1 r h.1) (hards_ok w x w1 rs h.2)
end
theorem hardf_ok (w : WH K G ι st H) (x : Ext [] [] H H1 (hld G H ι 0) G1) (w1 : WH K G1 [] [] H1) : ∀ {v : List (Str × V)} {d : List (Str × D)}, DVf K G1 [] v d → D.hards (d.map (·.2)) = true → DVf K (less G1 G ι) ι v d
  | _, _, .nil, _ => .nil
  | _, _, .cons r rs, h => by
    rw [List.map_cons, D.hards, Bool.and_eq_true] at h
    exact .cons (hard_ok w x w1 r h.1) (hardf_ok w x w1 rs h.2)
end
theorem WH.bare {K : PySem.W.Frag} {G : Hp} {ι : List Addr} {st : Sto} {H : Hp} (w : WH K G ι st H) : WH K G [] [] H where
  same := w.same
  len := rfl
  nd := by simp
  there := fun _ h => by simp at h
  cells := fun n a c h => by simp at h
theorem Ext.bare {K : PySem.W.Frag} {G G1 : Hp} {ι : List Addr} {st : Sto} {H H1 : Hp} (x : Ext [] [] H H1 G G1) : Ext ι ι H H1 G G1 where
  fr := fun a o h _ => x.fr a o h (by simp)
  sm := x.sm
  pre := ⟨[], by simp⟩
  new := fun _ h => .inl h
  gn := fun a o h => by
    rcases x.gn a o h with z | z | z
    · exact .inl z
    · exact .inr (.inl z)
    · simp at z
theorem WH.dress {K : PySem.W.Frag} {G G1 : Hp} {ι : List Addr} {st : Sto} {H H1 : Hp} (w : WH K G ι st H) (x : Ext [] [] H H1 G G1) (w1 : WH K G1 [] [] H1) : WH K G1 ι st H1 where
  same := w1.same
  len := w.len
  nd := w.nd
  there := fun a ha e => by
    cases q : H a with
    | none => exact w.there a ha q
    | some o => rw [x.fr a o q (by simp)] at e; cases e
  cells := fun n a c h1 h2 => by
    have hm : a ∈ ι := List.mem_of_getElem? h1
    refine (w.cells n a c h1 h2).keep x.sm ⟨[], by simp⟩ (fun g => ?_) fun o e => x.fr a o e (by simp)
    cases q : G1 a with
    | none => rfl
    | some o =>
      rcases x.gn a o q with z | z | z
      · rw [g] at z; cases z
      · exact absurd z (w.there a hm)
      · simp at z
section
variable {P : Program} {w : World} {K : PySem.W.Frag} {mg : Str → Option Value} {base : Heap} {T : CT}
theorem bel_nil {K : PySem.W.Frag} {G : Hp} {ι : List Addr} {vs : List V} {ds : List D} (r : DVs K G ι vs ds) (h : D.pures ds = true) : DVs K G [] vs ds := by
  have z := r.belc 0 (fun _ _ h => h : Same G G) h
  rw [List.take_zero] at z
  exact z
theorem fn_iso {k : Nat} {f : Addr} {fd : FuncData} {ps : List Str} {sem : List D → M D} (h : FnD P w K mg base T k f fd ps sem) : FnD P w K mg base T k f fd ps (isoD sem) :=
  (fn_gc h).imp fun vs H Q E ⟨G, ι, st, ds, wh, r, p⟩ => by
    unfold isoD at p
    by_cases hp : D.pures ds = true
    · rw [if_pos hp] at p
      refine ⟨G, [], [], ds, wh.bare, bel_nil r hp, ?_⟩
      have key : ∀ {G1 : Hp} {ι1 : List Addr} {st1 : Sto} {H1 : Hp}, Ext [] ι1 H H1 G G1 → WH K G1 ι1 st1 H1 → ι1 = [] → Ext ι ι H H1 G G1 ∧ WH K G1 ι st H1 := fun x w1 e => by
        subst e
        have e2 : _ = [] := List.eq_nil_of_length_eq_zero w1.len.symm
        subst e2
        exact ⟨x.bare (st := []) (K := K), wh.dress x w1⟩
      cases e : gcD sem ds [] with
      | bad => rw [e] at p; exact p
      | ok d s =>
        rw [e] at p
        have hs : s = [] := gc_nil e
        subst hs
        intro v G1 ι1 H1 x w1 r1
        have e2 : ι1 = [] := List.eq_nil_of_length_eq_zero w1.len
        obtain ⟨x2, w2⟩ := key x w1 e2
        subst e2
        exact p v G1 ι H1 x2 w2 (r1.mono (fun _ _ h => h) ⟨ι, by simp⟩)
      | ex y s =>
        rw [e] at p
        have hs : s = [] := gc_nilx e
        subst hs
        intro c dd G1 ι1 H1 x w1 r1
        have e2 : ι1 = [] := List.eq_nil_of_length_eq_zero w1.len
        obtain ⟨x2, w2⟩ := key x w1 e2
        subst e2
        refine p c dd G1 ι H1 x2 w2 ?_
        obtain ⟨a, h1, h2, h3⟩ := r1
        refine ⟨a, h1, h2, ?_⟩
        rcases h3 with z | ⟨b, us, e1, e2, r3⟩
        · exact .inl z
        · exact .inr ⟨b, us, e1, e2, r3.mono (fun _ _ h => h) ⟨ι, by simp⟩⟩
    · rw [if_neg hp] at p
      cases em : mapO (frz 0 st 9) ds with
      | none => rw [em] at p; exact p.elim
      | some es =>
        rw [em] at p
        dsimp only at p
        have r0 : DVs K (hld G H ι 0) [] vs es := by
          have z := mapO_ok (H := H) (k := 0) (fun r e => frz_ok wh 9 r e) r em
          rw [List.take_zero] at z
          exact z
        refine ⟨hld G H ι 0, [], [], es, wh.none, r0, ?_⟩
        cases e : gcD sem es [] with
        | bad => rw [e] at p; exact p
        | ok d s =>
          rw [e] at p
          have hs : s = [] := gc_nil e
          subst hs
          intro v G1 ι1 H1 x w1 r1
          have e2 : ι1 = [] := List.eq_nil_of_length_eq_zero w1.len
          subst e2
          unfold isoR at p
          dsimp only at p
          rw [Bool.false_or] at p
          by_cases hh : d.hard = true
          · rw [if_pos hh] at p
            exact p v _ ι H1 (x.iso wh) (wh.iso x w1) (hard_ok wh x w1 r1 hh)
          · rw [if_neg hh] at p; exact p.elim
        | ex y s =>
          rw [e] at p
          have hs : s = [] := gc_nilx e
          subst hs
          intro c dd G1 ι1 H1 x w1 r1
          have e2 : ι1 = [] := List.eq_nil_of_length_eq_zero w1.len
          subst e2
          unfold isoR at p
          dsimp only at p
          rw [Bool.false_or] at p
          by_cases hh : D.hards (y.fs.map (·.2)) = true
          · rw [if_pos hh] at p
            refine p c dd _ ι H1 (x.iso wh) (wh.iso x w1) ?_
            obtain ⟨a, h1, h2, h3⟩ := r1
            refine ⟨a, h1, h2, ?_⟩
            rcases h3 with z | ⟨b, us, e1, e2, r3⟩
            · exact .inl z
            · have hb : b ∉ ι := fun hm => by
                obtain ⟨n, hn⟩ := List.mem_iff_getElem?.mp hm
                have hl : n < st.length := by rw [← wh.len]; exact (List.getElem?_eq_some_iff.mp hn).1
                have cr := wh.cells n b st[n] hn (List.getElem?_eq_getElem hl)
                have eH : H1 b = _ := w1.same b _ e2
                cases hc : st[n] with
                | gone => rw [hc] at cr; exact cr.elim
                | tab _ => rw [hc] at cr; obtain ⟨_, _, us, e5, _⟩ := cr; rw [x.fr b _ e5 (by simp)] at eH; cases eH
                | lst ds => rw [hc] at cr; obtain ⟨_, us, e5, _⟩ := cr; rw [x.fr b _ e5 (by simp)] at eH; cases eH
                | dic ds => rw [hc] at cr; obtain ⟨_, us, e5, _⟩ := cr; rw [x.fr b _ e5 (by simp)] at eH; cases eH
              exact .inr ⟨b, us, e1, by rw [less_out hb]; exact e2, hardf_ok wh x w1 r3 hh⟩
          · rw [if_neg hh] at p; exact p.elim
end
end L3
namespace L3
open PySem PySem.Spec PyProof.Rows L2

/-! ## Methods of texts -/
def strsD : List D → Option (List Str)
  | [] => some []
  | .str x :: ds => (strsD ds).map (x :: ·)
  | _ :: _ => none
theorem strsD_of {K : PySem.W.Frag} {G : Hp} {ι : List Addr} : ∀ {vs : List V} {ds : List D} {xs : List Str}, DVs K G ι vs ds → strsD ds = some xs → vs = xs.map V.str
  | _, _, xs, .nil, h => by cases h; rfl
  | _, d :: ds, xs, .cons r rs, h => by
    cases r with
    | str x =>
      unfold strsD at h
      cases e : strsD ds with
      | none => rw [e] at h; cases h
      | some ys =>
        rw [e] at h
        cases h
        rw [strsD_of rs e]
        rfl
    | _ => cases h
theorem strsD_map (xs : List Str) : strsD (xs.map D.str) = some xs := by
  induction xs with
  | nil => rfl
  | cons x xs ih => rw [List.map_cons, strsD, ih]; rfl
theorem dvs_strs {K : PySem.W.Frag} {G : Hp} {ι : List Addr} : ∀ xs : List Str, DVs K G ι (xs.map V.str) (xs.map D.str)
  | [] => .nil
  | x :: xs => .cons (.str x) (dvs_strs xs)
/-- a list or tuple -/
def seqOf (st : Sto) (d : D) : Option (List D) := orO (lstOf st d) (tupOf d)
theorem seq_at {K : PySem.W.Frag} {G : Hp} {ι : List Addr} {st : Sto} {H : Hp} {v : V} {d : D} {ds : List D} (w : WH K G ι st H) (r : DV K G ι v d) (h : seqOf st d = some ds) : ∃ a vs, v = .ref a ∧ (SqL K H a vs ∨ SqT K H a vs) ∧ DVs K G ι vs ds := by
  unfold seqOf orO at h
  cases e : lstOf st d with
  | some xs =>
    rw [e] at h
    cases h
    obtain ⟨a, vs, h1, h2, h3⟩ := lst_atS w r e
    exact ⟨a, vs, h1, .inl h2, h3⟩
  | none =>
    rw [e] at h
    obtain ⟨a, vs, h1, h2, h3⟩ := tup_at w r h
    exact ⟨a, vs, h1, .inr h2, h3⟩
def joinOk (a : Str) (ys : List Str) : Bool := decide ((ys.map (·.length)).sum + ys.length * a.length ≤ 16777216)
def joinD (st : Sto) (o : D) (xs : List D) : Option (D × Sto) := match o, xs with
  | .str a, [z] => match (seqOf st z).bind strsD with
    | some ys => if joinOk a ys = true then some (.str (Txt.join a ys), st) else none
    | none => none
  | _, _ => none
def splitOk (a b : Str) : Bool := decide (0 < b.length) && decide (a.length + 2 ≤ 16777216)
def splitD (st : Sto) (o : D) (xs : List D) : Option (D × Sto) := match o, xs with
  | .str a, [.str b] => if splitOk a b = true then some (.lst ((Txt.split a b).map .str), st) else none
  | _, _ => none
def sindexD (st : Sto) (o : D) (xs : List D) : Option (D × Sto) := match o, xs with
  | .str a, [.str b] => match Builtin.Str.occurrences a b 0 a.length 1 with
    | i :: _ => some (.int (i : Nat), st)
    | [] => none
  | _, _ => none
section
variable {X : Cx}
theorem md_join : MethD X "str" "join" "str.join" joinD := ⟨PySem.F.plainAttrs_str, PySem.F.slot_str_join, PySem.F.type_str_join, _, mt_join, fun G ι st H x xs dx ds Q w rx rs p => by
  unfold joinD at p
  split at p
  · rename_i a z
    cases rs with
    | cons ry rs =>
      cases rs
      cases rx
      split at p
      · rename_i ys e
        rw [Option.bind_eq_some_iff] at e
        obtain ⟨zs, e1, e2⟩ := e
        obtain ⟨b, vs, h1, h2, h3⟩ := seq_at w ry e1
        have hv := strsD_of h3 e2
        subst hv
        subst h1
        by_cases ho : joinOk a ys = true
        · rw [if_pos ho] at p
          exact ⟨a, b, ys, rfl, rfl, h2, of_decide_eq_true ho, p _ G ι H .refl w (.str _)⟩
        · rw [if_neg ho] at p; exact p.elim
      · exact p.elim
  · exact p.elim⟩
theorem md_split : MethD X "str" "split" "str.split" splitD := ⟨PySem.F.plainAttrs_str, PySem.F.slot_str_split, PySem.F.type_str_split, _, mt_split, fun G ι st H x xs dx ds Q w rx rs p => by
  unfold splitD at p
  split at p
  · rename_i a b
    cases rs with
    | cons ry rs =>
      cases rs
      cases rx
      cases ry
      by_cases ho : splitOk a b = true
      · rw [if_pos ho] at p
        unfold splitOk at ho
        rw [Bool.and_eq_true, decide_eq_true_eq, decide_eq_true_eq] at ho
        refine ⟨a, b, rfl, rfl, by rw [beq_eq_false_iff_ne]; omega, by rw [sizeLine_eq]; exact ho.2, fun q hq => ?_⟩
        exact p _ _ _ _ (w.fzExt hq _) (w.fz hq _) (dv_lst w hq (dvs_strs _))
      · rw [if_neg ho] at p; exact p.elim
  · exact p.elim⟩
theorem md_sindex : MethD X "str" "index" "str.index" sindexD := ⟨PySem.F.plainAttrs_str, PySem.F.slot_str_index, PySem.F.type_str_index, _, mt_sindex, fun G ι st H x xs dx ds Q w rx rs p => by
  unfold sindexD at p
  split at p
  · rename_i a b
    cases rs with
    | cons ry rs =>
      cases rs
      cases rx
      cases ry
      split at p
      · rename_i i rest e
        exact ⟨a, b, i, rest, rfl, rfl, e, p _ G ι H .refl w (.int _)⟩
      · exact p.elim
  · exact p.elim⟩
end

/-! ## xs.pop(i) -/
theorem DVs.eraseIdx {K : PySem.W.Frag} {G : Hp} {ι : List Addr} : ∀ {vs : List V} {ds : List D} (k : Nat), DVs K G ι vs ds → DVs K G ι (vs.eraseIdx k) (ds.eraseIdx k)
  | _, _, _, .nil => .nil
  | _, _, 0, .cons _ rs => rs
  | _, _, k + 1, .cons r rs => .cons r (DVs.eraseIdx k rs)
def popAtD (st : Sto) (o : D) (xs : List D) : Option (D × Sto) := match o, xs with
  | .cell n, [.int i] => match st[n]? with
    | some (.lst ys) => if small62 i = true then (match seqIndex? i ys.length with
      | some k => match ys[k]? with
        | some y => some (y, st.set n (.lst (ys.eraseIdx k)))
        | none => none
      | none => none) else none
    | _ => none
  | _, _ => none
section
variable {X : Cx}
theorem md_popAt : MethD X "list" "pop" "list.pop" popAtD := ⟨PySem.F.plainAttrs_list, PySem.F.slot_list_pop, PySem.F.type_list_pop, _, mt_popAt, fun G ι st H x xs dx ds Q w rx rs p => by
  unfold popAtD at p
  split at p
  · cases rs with
    | cons ry rs =>
      cases rs
      cases ry
      split at p
      · rename_i n i e ys hst
        obtain ⟨a, vs, rfl, q, hG, hH, rr⟩ := cell_lst w rx hst
        by_cases hi : small62 i = true
        · rw [if_pos hi] at p
          obtain ⟨h1, h2⟩ := small62_lt hi
          cases hk : seqIndex? i ys.length with
          | none => rw [hk] at p; exact p.elim
          | some k =>
            rw [hk] at p
            dsimp only at p
            cases hy : ys[k]? with
            | none => rw [hy] at p; exact p.elim
            | some y =>
              rw [hy] at p
              obtain ⟨v, hv, rv⟩ := rr.get hy
              exact ⟨a, vs, i, k, v, rfl, rfl, hH, by omega, by omega, by rw [rr.length]; exact hk, hv, p v _ _ _ (WH.putExt q) (w.put q hG ⟨hG, _, upd_same, rr.eraseIdx k⟩) rv⟩
        · rw [if_neg hi] at p; exact p.elim
      · exact p.elim
  · exact p.elim⟩
end

/-! ## Stars in displays -/
def aStar (a : EM) (b : AM) : AM := fun env => M.bind (a env) fun x => M.bind (M.rd fun st => seqOf st x) fun xs => M.bind (b env) fun ys => M.pure (xs ++ ys)
section
variable {X : Cx} {T : CT} {W : WX} {e : Expr} {es : List Expr} {ma : EM} {mas : AM} {p : Pos}
theorem PostA.rdA {K : PySem.W.Frag} {G : Hp} {ι : List Addr} {H : Hp} {st : Sto} {E : XK} {f : Sto → Option (List D)} {k : List D → M (List D)} {Q : List V → Hp → Prop}
    (q : PostA K T G ι H (M.bind (M.rd f) k st) E Q) : ∃ xs, f st = some xs ∧ PostA K T G ι H (k xs st) E Q := by
  rw [M.bind_app] at q
  unfold M.rd at q
  cases e : f st with
  | none => rw [e] at q; exact q.elim
  | some xs => rw [e] at q; exact ⟨xs, rfl, q⟩
theorem da_star (ha : DE X T W e ma) (hr : DA X T W es mas) (hs : starEach (.Starred e p :: es) X.env = (true, eval e X.env) :: starEach es X.env := by rfl) : DA X T W (.Starred e p :: es) (aStar ma mas) :=
  DA.of (StX.pa_star ha hr hs) fun σ H Q G ι st env w r q => ⟨G, ι, st, env, w, r, PostA.bindE q fun d st1 v G1 ι1 H1 x1 w1 r1 q1 => by
    obtain ⟨xs, e1, q2⟩ := q1.rdA
    obtain ⟨a, vs, rfl, h2, h3⟩ := seq_at w1 r1 e1
    exact ⟨a, vs, rfl, h2.symm, G1, ι1, st1, env, w1, r.mono x1, q2.bindA fun ds st2 ws G2 ι2 H2 x2 w2 r2 q3 => q3 (vs ++ ws) G2 ι2 H2 .refl w2 ((x2.dvs h3).append r2)⟩⟩
end

/-! ## list(range(n)), tuple(range(n)) -/
def rgOk (i j : Int) : Bool := small62 i && small62 j && decide ((j - i).toNat ≤ 2 ^ 24)
theorem rgOk_of {i j : Int} (h : rgOk i j = true) : RgOk i j := by
  unfold rgOk at h
  rw [Bool.and_eq_true, Bool.and_eq_true, decide_eq_true_eq] at h
  obtain ⟨h1, h2⟩ := small62_lt h.1.1
  obtain ⟨h3, h4⟩ := small62_lt h.1.2
  exact ⟨h1, h2, h3, h4, h.2⟩
theorem dvs_rg {K : PySem.W.Frag} {G : Hp} {ι : List Addr} (a b : Int) : DVs K G ι (rgV a b) (rngD a b) := by
  unfold rgV rngD
  generalize List.range (b - a).toNat = l
  induction l with
  | nil => exact .nil
  | cons x l ih => exact .cons (.int _) ih
def eLstRg1 (m : EM) : EM := fun env => M.bind (m env) fun x => M.opt (match x with
  | .int j => if rgOk 0 j = true then some (.lst (rngD 0 j)) else none
  | _ => none)
def eTupRg1 (m : EM) : EM := fun env => M.bind (m env) fun x => M.opt (match x with
  | .int j => if rgOk 0 j = true then some (.tup (rngD 0 j)) else none
  | _ => none)
def eLstRg2 (m m' : EM) : EM := fun env => M.bind (m env) fun x => M.bind (m' env) fun y => M.opt (match x, y with
  | .int i, .int j => if rgOk i j = true then some (.lst (rngD i j)) else none
  | _, _ => none)
def eTupRg2 (m m' : EM) : EM := fun env => M.bind (m env) fun x => M.bind (m' env) fun y => M.opt (match x, y with
  | .int i, .int j => if rgOk i j = true then some (.tup (rngD i j)) else none
  | _, _ => none)
section
variable {X : Cx} {T : CT} {W : WX} {a b : Expr} {ma mb : EM} {p p' pos pos' : Pos}
theorem de_lstRg1 (hc : X.calm = true) (hg : Gl X "list") (hm : X.mg "list" = none) (hg2 : Gl X "range") (hm2 : X.mg "range" = none) (ha : DE X T W a ma) (na : starEach [a] X.env = (false, eval a X.env) :: starEach [] X.env := by rfl)
    (nb : starEach [.Call (.Name "range" p) [a] [] pos] X.env = (false, eval (.Call (.Name "range" p) [a] [] pos) X.env) :: starEach [] X.env := by rfl) : DE X T W (.Call (.Name "list" p') [.Call (.Name "range" p) [a] [] pos] [] pos') (eLstRg1 ma) :=
  DE.of (pe_listRg hc hg hm (prg_1 hg2 hm2 ha na) nb) fun σ H Q G ι st env w r q => ⟨G, ι, st, env, w, r, q.bind fun d st1 v G1 ι1 H1 x1 w1 r1 q1 => by
    cases r1 with
    | int j =>
      dsimp only at q1
      by_cases ho : rgOk 0 j = true
      · rw [if_pos ho] at q1
        exact ⟨j, rfl, rgOk_of ho, fun z hz => PostO.fresh (d := .lst (rngD 0 j)) (PostE.rd (f := fun _ => some (.lst (rngD 0 j))) q1) w1 hz (dv_lst w1 hz (dvs_rg 0 j))⟩
      · rw [if_neg ho] at q1; exact q1.elim
    | _ => exact q1.elim⟩
theorem de_tupRg1 (hc : X.calm = true) (hg : Gl X "tuple") (hm : X.mg "tuple" = none) (hg2 : Gl X "range") (hm2 : X.mg "range" = none) (ha : DE X T W a ma) (na : starEach [a] X.env = (false, eval a X.env) :: starEach [] X.env := by rfl)
    (nb : starEach [.Call (.Name "range" p) [a] [] pos] X.env = (false, eval (.Call (.Name "range" p) [a] [] pos) X.env) :: starEach [] X.env := by rfl) : DE X T W (.Call (.Name "tuple" p') [.Call (.Name "range" p) [a] [] pos] [] pos') (eTupRg1 ma) :=
  DE.of (pe_tupRg hc hg hm (prg_1 hg2 hm2 ha na) nb) fun σ H Q G ι st env w r q => ⟨G, ι, st, env, w, r, q.bind fun d st1 v G1 ι1 H1 x1 w1 r1 q1 => by
    cases r1 with
    | int j =>
      dsimp only at q1
      by_cases ho : rgOk 0 j = true
      · rw [if_pos ho] at q1
        exact ⟨j, rfl, rgOk_of ho, fun z hz => PostO.fresh (d := .tup (rngD 0 j)) (PostE.rd (f := fun _ => some (.tup (rngD 0 j))) q1) w1 hz (dv_tup w1 hz (dvs_rg 0 j))⟩
      · rw [if_neg ho] at q1; exact q1.elim
    | _ => exact q1.elim⟩
theorem de_lstRg2 (hc : X.calm = true) (hg : Gl X "list") (hm : X.mg "list" = none) (hg2 : Gl X "range") (hm2 : X.mg "range" = none) (ha : DE X T W a ma) (hb : DE X T W b mb)
    (na : starEach [a, b] X.env = (false, eval a X.env) :: starEach [b] X.env := by rfl) (na2 : starEach [b] X.env = (false, eval b X.env) :: starEach [] X.env := by rfl) (hpl : (backTo pos (starEach [b] X.env)).any (·.1) = false := by rfl)
    (nb : starEach [.Call (.Name "range" p) [a, b] [] pos] X.env = (false, eval (.Call (.Name "range" p) [a, b] [] pos) X.env) :: starEach [] X.env := by rfl) : DE X T W (.Call (.Name "list" p') [.Call (.Name "range" p) [a, b] [] pos] [] pos') (eLstRg2 ma mb) :=
  DE.of (pe_listRg hc hg hm (prg_2 hg2 hm2 ha hb na na2 hpl) nb) fun σ H Q G ι st env w r q => ⟨G, ι, st, env, w, r, q.bind fun d st1 v G1 ι1 H1 x1 w1 r1 q1 => ⟨G1, ι1, st1, env, w1, r.mono x1, q1.bind fun d2 st2 v2 G2 ι2 H2 x2 w2 r2 q2 => by
    cases r1 with
    | int i =>
      cases r2 with
      | int j =>
        dsimp only at q2
        by_cases ho : rgOk i j = true
        · rw [if_pos ho] at q2
          exact ⟨i, j, rfl, rfl, rgOk_of ho, fun z hz => PostO.fresh (d := .lst (rngD i j)) (PostE.rd (f := fun _ => some (.lst (rngD i j))) q2) w2 hz (dv_lst w2 hz (dvs_rg i j))⟩
        · rw [if_neg ho] at q2; exact q2.elim
      | _ => exact q2.elim
    | _ => exact q2.elim⟩⟩
theorem de_tupRg2 (hc : X.calm = true) (hg : Gl X "tuple") (hm : X.mg "tuple" = none) (hg2 : Gl X "range") (hm2 : X.mg "range" = none) (ha : DE X T W a ma) (hb : DE X T W b mb)
    (na : starEach [a, b] X.env = (false, eval a X.env) :: starEach [b] X.env := by rfl) (na2 : starEach [b] X.env = (false, eval b X.env) :: starEach [] X.env := by rfl) (hpl : (backTo pos (starEach [b] X.env)).any (·.1) = false := by rfl)
    (nb : starEach [.Call (.Name "range" p) [a, b] [] pos] X.env = (false, eval (.Call (.Name "range" p) [a, b] [] pos) X.env) :: starEach [] X.env := by rfl) : DE X T W (.Call (.Name "tuple" p') [.Call (.Name "range" p) [a, b] [] pos] [] pos') (eTupRg2 ma mb) :=
  DE.of (pe_tupRg hc hg hm (prg_2 hg2 hm2 ha hb na na2 hpl) nb) fun σ H Q G ι st env w r q => ⟨G, ι, st, env, w, r, q.bind fun d st1 v G1 ι1 H1 x1 w1 r1 q1 => ⟨G1, ι1, st1, env, w1, r.mono x1, q1.bind fun d2 st2 v2 G2 ι2 H2 x2 w2 r2 q2 => by
    cases r1 with
    | int i =>
      cases r2 with
      | int j =>
        dsimp only at q2
        by_cases ho : rgOk i j = true
        · rw [if_pos ho] at q2
          exact ⟨i, j, rfl, rfl, rgOk_of ho, fun z hz => PostO.fresh (d := .tup (rngD i j)) (PostE.rd (f := fun _ => some (.tup (rngD i j))) q2) w2 hz (dv_tup w2 hz (dvs_rg i j))⟩
        · rw [if_neg ho] at q2; exact q2.elim
      | _ => exact q2.elim
    | _ => exact q2.elim⟩⟩
end
end L3
namespace L3
open PySem PySem.Spec PyProof.Rows L2

/-! ## List comprehensions with two fors -/
def lcD2 (c : Src) (g : D → DEnv → Option DEnv) (t : BM) (i1 : IM) (vs1 : List Nat) (g1 : D → DEnv → Option DEnv) (t1 : BM) (el : EM) (env : DEnv) : List D → List D → M (List D)
  | [], acc => fun st => if c.ok st then .ok acc st else .bad
  | x :: xs, acc => fun st => if c.ok st then (match g x env with
    | none => .bad
    | some e1 => M.bind (M.nox (t e1)) (fun k => if k = true then M.bind (M.nox (i1 e1)) (fun d1 => M.bind (lcD d1.2 g1 t1 el (forget e1 vs1) d1.1 acc) fun acc1 => lcD2 c g t i1 vs1 g1 t1 el env xs acc1) else lcD2 c g t i1 vs1 g1 t1 el env xs acc) st) else .bad
def eLc2 (i : IM) (vs : List Nat) (g : D → DEnv → Option DEnv) (t : BM) (i1 : IM) (vs1 : List Nat) (g1 : D → DEnv → Option DEnv) (t1 : BM) (el : EM) : EM := fun env => M.bind (i env) fun d => M.bind (lcD2 d.2 g t i1 vs1 g1 t1 el (forget env vs) d.1 []) fun xs => M.pure (.lst xs)
/-- the list that is made, apart from all that is told -/
structure Acc (K : PySem.W.Frag) (G : Hp) (ι : List Addr) (H : Hp) (Dl : Addr) (vacc : List V) (acc : List D) : Prop where
  g : G Dl = none
  i : Dl ∉ ι
  h : H Dl = some (.lst vacc)
  r : DVs K G ι vacc acc
section
variable {K : PySem.W.Frag} {T : CT} {G G' : Hp} {ι ι' : List Addr} {H H' : Hp} {st : Sto} {Dl : Addr} {vacc : List V} {acc : List D}
theorem Acc.ext (a : Acc K G ι H Dl vacc acc) (x : Ext ι ι' H H' G G') : Acc K G' ι' H' Dl vacc acc where
  g := by
    cases q : G' Dl with
    | none => rfl
    | some o =>
      rcases x.gn _ _ q with z | z | z
      · rw [a.g] at z; cases z
      · rw [a.h] at z; cases z
      · exact absurd z a.i
  i := fun q => by
    rcases x.new _ q with z | z
    · exact a.i z
    · rw [a.h] at z; cases z
  h := x.fr _ _ a.h a.i
  r := x.dvs a.r
theorem Acc.more (a : Acc K G ι H Dl vacc acc) {v : V} {d : D} (r : DV K G ι v d) : Acc K G ι (upd H Dl (.lst (vacc ++ [v]))) Dl (vacc ++ [v]) (acc ++ [d]) := ⟨a.g, a.i, upd_same, a.r.append (.cons r .nil)⟩
/-- what stands where the making of a list began -/
structure AtD (K : PySem.W.Frag) (G0 : Hp) (ι0 : List Addr) (H0 : Hp) (Dl : Addr) (G : Hp) (ι : List Addr) (H : Hp) (st : Sto) (vacc : List V) (acc : List D) : Prop where
  x : Ext ι0 ι H0 H G0 G
  w : WH K G ι st H
  a : Acc K G ι H Dl vacc acc
theorem AtD.next {G0 : Hp} {ι0 : List Addr} {H0 : Hp} {st' : Sto} (q : AtD K G0 ι0 H0 Dl G ι H st vacc acc) (x : Ext ι ι' H H' G G') (w : WH K G' ι' st' H') : AtD K G0 ι0 H0 Dl G' ι' H' st' vacc acc := ⟨q.x.cons q.w x, w, q.a.ext x⟩
theorem AtD.put {G0 : Hp} {ι0 : List Addr} {H0 : Hp} (q : AtD K G0 ι0 H0 Dl G ι H st vacc acc) (hD : H0 Dl = none) {v : V} {d : D} (r : DV K G ι v d) : AtD K G0 ι0 H0 Dl G ι (upd H Dl (.lst (vacc ++ [v]))) st (vacc ++ [v]) (acc ++ [d]) :=
  ⟨q.x.other hD _, q.w.other q.a.g q.a.i _, q.a.more r⟩
end
theorem drop_cons {α : Type} {l : List α} {n : Nat} {x : α} {xs : List α} (h : l.drop n = x :: xs) : l[n]? = some x ∧ n < l.length ∧ l.drop (n + 1) = xs := by
  have h1 : l[n]? = some x := by
    have := congrArg (·[0]?) h
    simpa using this
  refine ⟨h1, (List.getElem?_eq_some_iff.mp h1).1, ?_⟩
  have := congrArg (List.drop 1) h
  rw [List.drop_drop] at this
  simpa [Nat.add_comm] using this
theorem drop_nil {α : Type} {l : List α} {n : Nat} (h : l.drop n = []) : l.length ≤ n := by
  have := congrArg List.length h
  rw [List.length_drop] at this
  simp at this
  omega
theorem EnvR.mono' {K : PySem.W.Frag} {T : CT} {G G' : Hp} {ι ι' : List Addr} {σ : L2.St} {env : DEnv} (e : EnvR K T G ι σ env) (sm : Same G G') (pre : ∃ t, ι' = ι ++ t) : EnvR K T G' ι' σ env := ⟨e.len, fun i d h => by
  obtain ⟨v, h1, h2⟩ := e.at_ i d h
  exact ⟨v, h1, h2.mono sm pre⟩, e.cur.mono sm pre⟩
theorem forget_len (env : DEnv) (vs : List Nat) : (forget env vs).length = env.length := by
  unfold forget
  induction vs with
  | nil => rfl
  | cons v vs ih => rw [List.foldr_cons, List.length_set]; exact ih
section
variable {X : Cx} {T : CT} {W : WX} {i i1 : IM} {g g1 : D → DEnv → Option DEnv} {t t1 : BM} {el : EM}
theorem lc2_read {vs vs1 : List Nat} {σ : L2.St} {H : Hp} {Q : VK} {G : Hp} {ι : List Addr} {st : Sto} {env : DEnv} (w : WH X.K G ι st H) (r : EnvR X.K T G ι σ env) (hv : ∀ j ∈ vs, T.fr j = true) (hv1 : ∀ j ∈ vs1, T.fr j = true)
    (hsub : ∀ j ∈ vs1, j ∈ vs)
    (p : PostE X.K T G ι H (eLc2 i vs g t i1 vs1 g1 t1 el env st) (fun c d H' => W c d σ H') Q) : tLc2 (iOf X.K T W i) (gOf X.K T vs g) (bOf X.K T W0 t) (iOf X.K T W0 i1) (gOf X.K T vs1 g1) (bOf X.K T W0 t1) (tOf X.K T W0 el) vs vs1 σ H Q := by
  refine ⟨G, ι, st, env, w, r, ?_⟩
  unfold eLc2 at p
  rw [M.bind_app] at p
  cases e1 : i env st with
  | bad => rw [e1] at p; exact p
  | ex x s => rw [e1] at p; exact p
  | ok ds s =>
    obtain ⟨items, c⟩ := ds
    rw [e1] at p
    dsimp only at p
    intro J G1 ι1 H1 x1 w1 j1 Dl hD
    dsimp only at j1
    have p1 := PostE.later p x1 w1
    have gD : G1 Dl = none := w1.off hD
    have iD : Dl ∉ ι1 := fun z => w1.there Dl z hD
    refine ⟨fun n m H => n ≤ items.length ∧ m = items.length - n ∧ ∃ G ι st acc vacc, AtD X.K G1 ι1 H1 Dl G ι H st vacc acc ∧
      PostE X.K T G1 ι1 H1 (M.bind (lcD2 c g t i1 vs1 g1 t1 el (forget env vs) (items.drop n) acc) (fun xs => M.pure (.lst xs)) st) (fun c d H' => W c d σ H') Q,
      ⟨items.length, Nat.zero_le _, rfl, G1, ι1, s, [], [], ⟨Ext.other .refl hD _, w1.other gD iD _, gD, iD, upd_same, .nil⟩, by rw [List.drop_zero]; exact p1⟩, ?_⟩
    rintro n m H2 ⟨hn, hm, G2, ι2, st2, acc, vacc, A2, p2⟩
    rw [M.bind_app] at p2
    have ok : c.ok st2 = true := by
      cases h : c.ok st2 with
      | true => rfl
      | false =>
        cases h2 : items.drop n with
        | nil => rw [h2] at p2; unfold lcD2 at p2; rw [h] at p2; exact p2.elim
        | cons x xs => rw [h2] at p2; unfold lcD2 at p2; rw [h] at p2; exact p2.elim
    obtain ⟨js, jg⟩ := j1 G2 ι2 st2 H2 A2.x.sm A2.x.pre A2.w ok
    cases h2 : items.drop n with
    | nil =>
      rw [h2] at p2
      unfold lcD2 at p2
      rw [if_pos ok] at p2
      exact .inl ⟨js n (drop_nil h2), p2 (.ref Dl) _ ι2 H2 (A2.x.still hD A2.a.g (.lst vacc)) (A2.w.still A2.a.g A2.a.i A2.a.h) (.lst upd_same (A2.a.r.mono (Same.upd_new A2.a.g) ⟨[], by simp⟩))⟩
    | cons x xs =>
      rw [h2] at p2
      unfold lcD2 at p2
      rw [if_pos ok] at p2
      obtain ⟨hx, hlt, hxs⟩ := drop_cons h2
      obtain ⟨go, yl⟩ := jg n x hx
      refine .inr ⟨go, fun H' => ∃ G ι st acc vacc, AtD X.K G1 ι1 H1 Dl G ι H' st vacc acc ∧
        PostE X.K T G1 ι1 H1 (M.bind (lcD2 c g t i1 vs1 g1 t1 el (forget env vs) xs acc) (fun xs => M.pure (.lst xs)) st) (fun c d H' => W c d σ H') Q, ?_, ?_⟩
      · rintro H' ⟨G3, ι3, st3, acc3, vacc3, z⟩
        exact ⟨items.length - (n + 1), by omega, hlt, rfl, G3, ι3, st3, acc3, vacc3, by rw [hxs]; exact z⟩
      · intro v H3 y
        obtain ⟨G3, x3, w3, r3⟩ := yl v H3 y
        have A3 := A2.next x3 w3
        cases e2 : g x (forget env vs) with
        | none => rw [e2] at p2; exact p2.elim
        | some env3 =>
          rw [e2] at p2
          dsimp only at p2
          refine ⟨G3, ι2, st2, forget env vs, x, w3, (EnvR.wipe (r.mono (x1.cons w1 A3.x)) vs hv), r3, ?_⟩
          rw [e2]
          intro σ3 rr hl hσ
          refine ⟨wipe_of (by rw [hl, L2.wipe_length]) hσ, G3, ι2, st2, env3, w3, rr, ?_⟩
          rw [M.bind_app] at p2
          unfold M.nox at p2
          cases e3 : t env3 st2 with
          | bad => rw [e3] at p2; exact p2.elim
          | ex y s3 => rw [e3] at p2; exact p2.elim
          | ok k s3 =>
            rw [e3] at p2
            dsimp only at p2
            intro G4 ι4 H4 x4 w4
            have A4 := A3.next x4 w4
            cases k with
            | false => exact ⟨G4, ι4, s3, acc, vacc, A4, p2⟩
            | true =>
              rw [if_pos rfl] at p2 ⊢
              have rr4 := rr.mono x4
              refine ⟨G4, ι4, s3, env3, w4, rr4, ?_⟩
              rw [M.bind_app] at p2
              cases e4 : i1 env3 s3 with
              | bad => rw [e4] at p2; exact p2.elim
              | ex y s4 => rw [e4] at p2; exact p2.elim
              | ok ds1 s4 =>
                obtain ⟨items1, c1⟩ := ds1
                rw [e4] at p2
                dsimp only at p2
                intro J1 G5 ι5 H5 x5 w5 j5
                dsimp only at j5
                have A5 := A4.next x5 w5
                have rr5 := rr4.mono x5
                have p3 : PostE X.K T G1 ι1 H1 (M.bind (M.bind (lcD c1 g1 t1 el (forget env3 vs1) items1 acc) fun acc1 => lcD2 c g t i1 vs1 g1 t1 el (forget env vs) xs acc1) (fun xs => M.pure (.lst xs)) s4) (fun c d H' => W c d σ H') Q := p2
                -- the inner walk
                refine ⟨fun n m H => n ≤ items1.length ∧ m = items1.length - n ∧ ∃ G ι st acc vacc, AtD X.K G1 ι1 H1 Dl G ι H st vacc acc ∧ Same G5 G ∧ (∃ t, ι = ι5 ++ t) ∧
                  PostE X.K T G1 ι1 H1 (M.bind (M.bind (lcD c1 g1 t1 el (forget env3 vs1) (items1.drop n) acc) fun acc1 => lcD2 c g t i1 vs1 g1 t1 el (forget env vs) xs acc1) (fun xs => M.pure (.lst xs)) st) (fun c d H' => W c d σ H') Q,
                  ⟨items1.length, Nat.zero_le _, rfl, G5, ι5, s4, acc, vacc, A5, fun _ _ h => h, ⟨[], by simp⟩, by rw [List.drop_zero]; exact p3⟩, ?_⟩
                rintro n1 m1 H6 ⟨hn1, hm1, G6, ι6, st6, acc6, vacc6, A6, sm6, pre6, p6⟩
                rw [M.bind_app, M.bind_app] at p6
                have ok1 : c1.ok st6 = true := by
                  cases h : c1.ok st6 with
                  | true => rfl
                  | false =>
                    cases h3 : items1.drop n1 with
                    | nil => rw [h3] at p6; unfold lcD at p6; rw [h] at p6; exact p6.elim
                    | cons x xs => rw [h3] at p6; unfold lcD at p6; rw [h] at p6; exact p6.elim
                obtain ⟨js1, jg1⟩ := j5 G6 ι6 st6 H6 sm6 pre6 A6.w ok1
                cases h3 : items1.drop n1 with
                | nil =>
                  rw [h3] at p6
                  unfold lcD at p6
                  rw [if_pos ok1] at p6
                  exact .inl ⟨js1 n1 (drop_nil h3), G6, ι6, st6, acc6, vacc6, A6, p6⟩
                | cons x1' xs1 =>
                  rw [h3] at p6
                  unfold lcD at p6
                  rw [if_pos ok1] at p6
                  obtain ⟨hx1, hlt1, hxs1⟩ := drop_cons h3
                  obtain ⟨go1, yl1⟩ := jg1 n1 x1' hx1
                  refine .inr ⟨go1, fun H' => ∃ G ι st acc vacc, AtD X.K G1 ι1 H1 Dl G ι H' st vacc acc ∧ Same G5 G ∧ (∃ t, ι = ι5 ++ t) ∧
                    PostE X.K T G1 ι1 H1 (M.bind (M.bind (lcD c1 g1 t1 el (forget env3 vs1) xs1 acc) fun acc1 => lcD2 c g t i1 vs1 g1 t1 el (forget env vs) xs acc1) (fun xs => M.pure (.lst xs)) st) (fun c d H' => W c d σ H') Q, ?_, ?_⟩
                  · rintro H' ⟨G7, ι7, st7, acc7, vacc7, z⟩
                    exact ⟨items1.length - (n1 + 1), by omega, hlt1, rfl, G7, ι7, st7, acc7, vacc7, by rw [hxs1]; exact z⟩
                  · intro v7 H7 y7
                    obtain ⟨G7, x7, w7, r7⟩ := yl1 v7 H7 y7
                    have A7 := A6.next x7 w7
                    cases e7 : g1 x1' (forget env3 vs1) with
                    | none => rw [e7] at p6; exact p6.elim
                    | some env7 =>
                      rw [e7] at p6
                      dsimp only at p6
                      have rr7 : EnvR X.K T G7 ι6 σ3 env3 := rr5.mono' (sm6.trans x7.sm) pre6
                      refine ⟨G7, ι6, st6, forget env3 vs1, x1', w7, rr7.wipe vs1 hv1, r7, ?_⟩
                      rw [e7]
                      intro σ7 rr8 hl7 hσ7
                      refine ⟨wipe_of (by rw [hl7, L2.wipe_length]) hσ7, G7, ι6, st6, env7, w7, rr8, ?_⟩
                      rw [M.bind_app] at p6
                      unfold M.nox at p6
                      cases e8 : t1 env7 st6 with
                      | bad => rw [e8] at p6; exact p6.elim
                      | ex y s3 => rw [e8] at p6; exact p6.elim
                      | ok k8 s8 =>
                        rw [e8] at p6
                        dsimp only at p6
                        intro G8 ι8 H8 x8 w8
                        have A8 := A7.next x8 w8
                        have sm8 : Same G5 G8 := (sm6.trans x7.sm).trans x8.sm
                        have pre8 : ∃ t, ι8 = ι5 ++ t := by
                          obtain ⟨u1, e1⟩ := pre6
                          obtain ⟨u2, e2⟩ := x8.pre
                          exact ⟨u1 ++ u2, by rw [e2, e1, List.append_assoc]⟩
                        cases k8 with
                        | false => exact ⟨G8, ι8, s8, acc6, vacc6, A8, sm8, pre8, p6⟩
                        | true =>
                          rw [if_pos rfl] at p6 ⊢
                          refine ⟨G8, ι8, s8, env7, w8, rr8.mono x8, ?_⟩
                          rw [M.bind_app] at p6
                          cases e9 : el env7 s8 with
                          | bad => rw [e9] at p6; exact p6.elim
                          | ex y s4 => rw [e9] at p6; exact p6.elim
                          | ok y s9 =>
                            rw [e9] at p6
                            dsimp only at p6
                            intro v9 G9 ι9 H9 x9 w9 r9
                            have A9 := A8.next x9 w9
                            have hsz : acc6.length < 16777216 := by
                              by_cases hz : acc6.length < 16777216
                              · exact hz
                              · rw [if_neg (by simpa using hz)] at p6
                                exact p6.elim
                            rw [if_pos (by simpa using hsz)] at p6
                            have pre9 : ∃ t, ι9 = ι5 ++ t := by
                              obtain ⟨u1, e1⟩ := pre8
                              obtain ⟨u2, e2⟩ := x9.pre
                              exact ⟨u1 ++ u2, by rw [e2, e1, List.append_assoc]⟩
                            exact ⟨vacc6, A9.a.h, by rw [A9.a.r.length, sizeLine_eq]; exact hsz, G9, ι9, s9, acc6 ++ [y], vacc6 ++ [v9], A9.put hD r9, sm8.trans x9.sm, pre9, p6⟩
variable {tg elt iter tg1 iter1 : Expr} {ifs ifs1 : List Expr} {scope : Scope} {own : List (Str × Nat)} {vs1 : List Nat} {pos : Pos}
theorem de_lc2 (hc : X.calm = true) (hN : X.N.Nodup) (hi : DI X T W tg iter i) (ok : BlkOk X.N X.env.scope scope own) (hsub : ∀ j ∈ vs1, j ∈ own.map (·.2))
    (hg : ∀ (s : Shared) (H : Hp) (C : Addr) (cl : List (Str × Addr)) (fp : List Addr), DG (X.blk s H scope (compEnvC scope cl C X.env) fp) tg (own.map (·.2)) g)
    (ht : ∀ (s : Shared) (H : Hp) (C : Addr) (cl : List (Str × Addr)) (fp : List Addr), PTs (X.blk s H scope (compEnvC scope cl C X.env) fp) ifs (bOf X.K T W0 t))
    (hi1 : ∀ (s : Shared) (H : Hp) (C : Addr) (cl : List (Str × Addr)) (fp : List Addr), DI (X.blk s H scope (compEnvC scope cl C X.env) fp) T W0 tg1 iter1 i1)
    (hg1 : ∀ (s : Shared) (H : Hp) (C : Addr) (cl : List (Str × Addr)) (fp : List Addr), DG (X.blk s H scope (compEnvC scope cl C X.env) fp) tg1 vs1 g1)
    (ht1 : ∀ (s : Shared) (H : Hp) (C : Addr) (cl : List (Str × Addr)) (fp : List Addr), PTs (X.blk s H scope (compEnvC scope cl C X.env) fp) ifs1 (bOf X.K T W0 t1))
    (he : ∀ (s : Shared) (H : Hp) (C : Addr) (cl : List (Str × Addr)) (fp : List Addr), DE (X.blk s H scope (compEnvC scope cl C X.env) fp) T W0 elt el)
    (hs : ∀ x, foldedSetIterable iter X.env x = pure x := by intro _; rfl) (hs1 : ∀ env x, foldedSetIterable iter1 env x = pure x := by intro _ _; rfl) (hv : ∀ j ∈ own.map (·.2), T.fr j = true := by first | decide | (intro j _; rfl)) :
    DE X T W (.ListComp elt [⟨tg, iter, ifs, 0⟩, ⟨tg1, iter1, ifs1, 0⟩] scope pos) (eLc2 i (own.map (·.2)) g t i1 vs1 g1 t1 el) :=
  DE.of (pe_lc2 (wi := iOf X.K T W i) (g := gOf X.K T (own.map fun p : Str × Nat => p.2) g) (tt := bOf X.K T W0 t) (wi1 := iOf X.K T W0 i1) (g1 := gOf X.K T vs1 g1) (tt1 := bOf X.K T W0 t1) (te := tOf X.K T W0 el) hc hN hi ok hsub (fun s H C cl fp => hg s H C cl fp T) ht (fun s H C cl fp => hi1 s H C cl fp) (fun s H C cl fp => hg1 s H C cl fp T) ht1 he hs hs1)
    fun σ H Q G ι st env w r => lc2_read w r hv (fun j hj => hv j (hsub j hj)) hsub
end
end L3
namespace L3
open PySem PySem.Spec PyProof.Rows L2

/-! ## Rows of whole numbers, in order -/
abbrev rlt (a b : List Int) : Bool := decide (a < b)
theorem lexLt_rlt : ∀ a b : List Int, HT.lexLt a b = rlt a b
  | [], [] => by simp [HT.lexLt]
  | [], y :: ys => by simp [HT.lexLt]
  | x :: xs, [] => by simp [HT.lexLt]
  | x :: xs, y :: ys => by
    rw [HT.lexLt]
    by_cases h : x = y
    · rw [if_pos h, lexLt_rlt xs ys]
      simp [rlt, h, List.cons_lt_cons_iff]
    · rw [if_neg h]
      simp [rlt, h, List.cons_lt_cons_iff]
def intsD : List D → Option (List Int)
  | [] => some []
  | .int i :: ds => (intsD ds).map (i :: ·)
  | _ :: _ => none
theorem intsD_of {K : PySem.W.Frag} {G : Hp} {ι : List Addr} : ∀ {vs : List V} {ds : List D} {xs : List Int}, DVs K G ι vs ds → intsD ds = some xs → vs = xs.map V.int ∧ ds = xs.map D.int
  | _, _, xs, .nil, h => by cases h; exact ⟨rfl, rfl⟩
  | _, d :: ds, xs, .cons r rs, h => by
    cases r with
    | int x =>
      unfold intsD at h
      cases e : intsD ds with
      | none => rw [e] at h; cases h
      | some ys =>
        rw [e] at h
        cases h
        obtain ⟨h1, h2⟩ := intsD_of rs e
        rw [h1, h2]
        exact ⟨rfl, rfl⟩
    | _ => cases h
theorem intsD_map (xs : List Int) : intsD (xs.map D.int) = some xs := by
  induction xs with
  | nil => rfl
  | cons x xs ih => rw [List.map_cons, intsD, ih]; rfl
theorem dvs_ints {K : PySem.W.Frag} {G : Hp} {ι : List Addr} : ∀ xs : List Int, DVs K G ι (xs.map V.int) (xs.map D.int)
  | [] => .nil
  | x :: xs => .cons (.int x) (dvs_ints xs)
def rowD (r : List Int) : D := .tup (r.map D.int)
def rowsD : List D → Option (List (List Int))
  | [] => some []
  | .tup xs :: ds => (intsD xs).bind fun r => (rowsD ds).map (r :: ·)
  | _ :: _ => none
theorem rowsD_map (rs : List (List Int)) : rowsD (rs.map rowD) = some rs := by
  induction rs with
  | nil => rfl
  | cons r rs ih =>
    rw [List.map_cons]
    show (intsD (r.map D.int)).bind (fun r => (rowsD (rs.map rowD)).map (r :: ·)) = _
    rw [intsD_map, ih]
    rfl
/-- t < u, rows of whole numbers -/
def ltT (x y : D) : Option D := match x, y with
  | .tup xs, .tup ys => (intsD xs).bind fun a => (intsD ys).map fun b => .bl (rlt a b)
  | _, _ => none
section
variable {X : Cx}
theorem od_ltT (hr : RoomS X.A) : OpD X (compareOp .Lt) (fun _ => ltT) := OpD.of (op_ltT (by have := hr.un; omega)) fun G ι st H x y dx dy Q w hx hy p => by
  unfold ltT at p
  split at p
  · rename_i xs ys
    cases hx with
    | tup qx rx =>
      cases hy with
      | tup qy ry =>
        cases e1 : intsD xs with
        | none => rw [e1] at p; exact p.elim
        | some a =>
          rw [e1, Option.bind_some] at p
          cases e2 : intsD ys with
          | none => rw [e2] at p; exact p.elim
          | some b =>
            rw [e2] at p
            obtain ⟨h1, _⟩ := intsD_of rx e1
            obtain ⟨h2, _⟩ := intsD_of ry e2
            subst h1 h2
            refine ⟨_, _, a, b, rfl, rfl, w.same.tup qx, w.same.tup qy, ?_⟩
            rw [lexLt_rlt]
            exact PostO.val (d := .bl (rlt a b)) p w (.bl _)
  · exact p.elim
theorem od_ltA (hr : RoomS X.A) : OpD X (compareOp .Lt) (fun st x y => orO (ltD st x y) (ltT x y)) := od_lt.or (od_ltT hr)
end
def ltA (st : Sto) (x y : D) : Option D := orO (ltD st x y) (ltT x y)
/-! ## What is sorted -/
/-- x put into an ascending list, once -/
def insU {α : Type} (lt : α → α → Bool) (x : α) : List α → List α
  | [] => [x]
  | y :: ys => if lt x y = true then x :: y :: ys else if lt y x = true then y :: insU lt x ys else y :: ys
/-- x put into an ascending list, behind its likes -/
def insS {α : Type} (lt : α → α → Bool) (x : α) : List α → List α
  | [] => [x]
  | y :: ys => if lt y x = true then y :: insS lt x ys else x :: y :: ys
def setU {α : Type} (lt : α → α → Bool) (l : List α) : List α := l.foldr (insU lt) []
def srtS {α : Type} (lt : α → α → Bool) (l : List α) : List α := l.foldr (insS lt) []
/-- a strict total order -/
structure Sto' {α : Type} (lt : α → α → Bool) : Prop where
  irr : ∀ a, lt a a = false
  tr : ∀ a b c, lt a b = true → lt b c = true → lt a c = true
  tri : ∀ a b, lt a b = true ∨ a = b ∨ lt b a = true
theorem sto_int : Sto' (fun a b : Int => decide (a < b)) := ⟨fun a => by simp, fun a b c => by simp; omega, fun a b => by simp; omega⟩
theorem sto_row : Sto' rlt := ⟨fun a => by simp [rlt], fun a b c h1 h2 => by
  unfold rlt at *
  rw [decide_eq_true_eq] at *
  exact List.lt_trans h1 h2, fun a b => by
  unfold rlt
  rw [decide_eq_true_eq, decide_eq_true_eq]
  by_cases h1 : a < b
  · exact .inl h1
  · by_cases h2 : b < a
    · exact .inr (.inr h2)
    · exact .inr (.inl (List.le_antisymm (List.not_lt.mp h2) (List.not_lt.mp h1)))⟩
section
variable {α : Type} {lt : α → α → Bool} (O : Sto' lt)
include O
theorem Sto'.asym {a b : α} (h : lt a b = true) : lt b a = false := by
  cases e : lt b a with
  | false => rfl
  | true => have := O.tr _ _ _ h e; rw [O.irr] at this; cases this
theorem insU_mem (x : α) : ∀ (l : List α) (y : α), y ∈ insU lt x l ↔ y = x ∨ y ∈ l
  | [], y => by simp [insU]
  | z :: zs, y => by
    unfold insU
    split
    · simp
    · rename_i h1
      split
      · rw [List.mem_cons, insU_mem x zs y, List.mem_cons]
        constructor
        · rintro (h | h | h)
          · exact .inr (.inl h)
          · exact .inl h
          · exact .inr (.inr h)
        · rintro (h | h | h)
          · exact .inr (.inl h)
          · exact .inl h
          · exact .inr (.inr h)
      · rename_i h2
        have e : x = z := by
          rcases O.tri x z with h | h | h
          · exact absurd h h1
          · exact h
          · exact absurd h h2
        rw [List.mem_cons]
        constructor
        · exact fun h => .inr h
        · rintro (h | h)
          · exact .inl (h.trans e)
          · exact h
theorem insU_pw (x : α) : ∀ l : List α, l.Pairwise (fun a b => lt a b = true) → (insU lt x l).Pairwise fun a b => lt a b = true
  | [], _ => by simp [insU]
  | z :: zs, h => by
    obtain ⟨h1, h2⟩ := List.pairwise_cons.mp h
    unfold insU
    split
    · rename_i hx
      refine List.pairwise_cons.mpr ⟨fun y hy => ?_, h⟩
      rcases List.mem_cons.mp hy with e | hy
      · rw [e]; exact hx
      · exact O.tr _ _ _ hx (h1 y hy)
    · split
      · rename_i hx
        refine List.pairwise_cons.mpr ⟨fun y hy => ?_, insU_pw x zs h2⟩
        rcases (insU_mem O x zs y).mp hy with e | hy
        · rw [e]; exact hx
        · exact h1 y hy
      · exact h
theorem setU_mem (l : List α) (y : α) : y ∈ setU lt l ↔ y ∈ l := by
  induction l with
  | nil => simp [setU]
  | cons x l ih =>
    show y ∈ insU lt x (setU lt l) ↔ _
    rw [insU_mem O, ih, List.mem_cons]
theorem setU_pw (l : List α) : (setU lt l).Pairwise fun a b => lt a b = true := by
  induction l with
  | nil => simp [setU]
  | cons x l ih => exact insU_pw O x _ ih
/-- two ascending lists with the same members -/
theorem asc_ext : ∀ {l m : List α}, l.Pairwise (fun a b => lt a b = true) → m.Pairwise (fun a b => lt a b = true) → (∀ x, x ∈ l ↔ x ∈ m) → l = m
  | [], [], _, _, _ => rfl
  | [], y :: ys, _, _, h => by have := (h y).mpr List.mem_cons_self; cases this
  | x :: xs, [], _, _, h => by have := (h x).mp List.mem_cons_self; cases this
  | x :: xs, y :: ys, h1, h2, h => by
    obtain ⟨a1, a2⟩ := List.pairwise_cons.mp h1
    obtain ⟨b1, b2⟩ := List.pairwise_cons.mp h2
    have e : x = y := by
      rcases List.mem_cons.mp ((h x).mp List.mem_cons_self) with e | hx
      · exact e
      · rcases List.mem_cons.mp ((h y).mpr List.mem_cons_self) with e | hy
        · exact e.symm
        · have := O.asym (b1 x hx)
          rw [a1 y hy] at this
          cases this
    subst e
    have : xs = ys := asc_ext a2 b2 fun z => by
      constructor
      · intro hz
        rcases List.mem_cons.mp ((h z).mp (List.mem_cons_of_mem _ hz)) with e | q
        · subst e
          have := a1 z hz
          rw [O.irr] at this
          cases this
        · exact q
      · intro hz
        rcases List.mem_cons.mp ((h z).mpr (List.mem_cons_of_mem _ hz)) with e | q
        · subst e
          have := b1 z hz
          rw [O.irr] at this
          cases this
        · exact q
    rw [this]
theorem insS_perm (x : α) : ∀ l : List α, (insS lt x l).Perm (x :: l)
  | [] => List.Perm.refl _
  | y :: ys => by
    unfold insS
    split
    · exact ((insS_perm x ys).cons y).trans (List.Perm.swap ..)
    · exact List.Perm.refl _
theorem srtS_perm (l : List α) : (srtS lt l).Perm l := by
  induction l with
  | nil => exact List.Perm.refl _
  | cons x l ih => exact (insS_perm O x _).trans (ih.cons x)
theorem insS_pw (x : α) : ∀ l : List α, l.Pairwise (fun a b => lt b a = false) → (insS lt x l).Pairwise fun a b => lt b a = false
  | [], _ => by simp [insS]
  | z :: zs, h => by
    obtain ⟨h1, h2⟩ := List.pairwise_cons.mp h
    unfold insS
    split
    · rename_i hz
      refine List.pairwise_cons.mpr ⟨fun y hy => ?_, insS_pw x zs h2⟩
      rcases List.mem_cons.mp ((insS_perm O x zs).mem_iff.mp hy) with e | hy
      · rw [e]; exact O.asym hz
      · exact h1 y hy
    · rename_i hz
      refine List.pairwise_cons.mpr ⟨fun y hy => ?_, h⟩
      rcases List.mem_cons.mp hy with e | hy
      · rw [e]; simpa using hz
      · rcases O.tri z x with q | q | q
        · exact absurd q hz
        · subst q; exact h1 y hy
        · cases e : lt y x with
          | false => rfl
          | true =>
            have := O.tr _ _ _ e q
            rw [h1 y hy] at this
            cases this
theorem srtS_pw (l : List α) : (srtS lt l).Pairwise fun a b => lt b a = false := by
  induction l with
  | nil => simp [srtS]
  | cons x l ih => exact insS_pw O x _ ih
/-- two arrangements in order -/
theorem srt_ext : ∀ {l m : List α}, l.Pairwise (fun a b => lt b a = false) → m.Pairwise (fun a b => lt b a = false) → l.Perm m → l = m
  | [], m, _, _, h => (List.Perm.nil_eq h)
  | x :: xs, [], _, _, h => by have := h.length_eq; simp at this
  | x :: xs, y :: ys, h1, h2, h => by
    obtain ⟨a1, a2⟩ := List.pairwise_cons.mp h1
    obtain ⟨b1, b2⟩ := List.pairwise_cons.mp h2
    have e : x = y := by
      rcases List.mem_cons.mp (h.mem_iff.mp List.mem_cons_self) with e | hx
      · exact e
      · rcases List.mem_cons.mp (h.mem_iff.mpr List.mem_cons_self) with e | hy
        · exact e.symm
        · have q1 := b1 x hx
          have q2 := a1 y hy
          rcases O.tri x y with z | z | z
          · rw [q1] at z; cases z
          · exact z
          · rw [q2] at z; cases z
    subst e
    rw [srt_ext a2 b2 h.cons_inv]
end
end L3
namespace L3
open PySem PySem.Spec PyProof.Rows L2

/-! ## sorted(xs) -/
theorem dataLe_row {β : Type} (x : β → List Int) : PySem.W.dataLe false (fun b => .tuple ((x b).map .int)) = fun p q => !rlt (x q) (x p) := by
  funext p q
  have e : (PySem.W.dataLe false fun b => PyData.tuple ((x b).map .int)) p q = !PySem.W.dataLt (.tuple ((x q).map .int)) (.tuple ((x p).map .int)) := rfl
  rw [e, PySem.W.dataLt_tuple]
  have e2 := PySem.W.dataLt_ints (x q) (x p)
  unfold PySem.W.rowLt at e2
  rw [e2]
abbrev slt (a b : Str) : Bool := decide (a.cps.toList < b.cps.toList)
theorem str_ext {a b : Str} (h : a.cps.toList = b.cps.toList) : a = b := by
  cases a
  cases b
  simp at h
  rw [h]
theorem sto_str : Sto' slt := ⟨fun a => by simp [slt], fun a b c h1 h2 => by
  unfold slt at *
  rw [decide_eq_true_eq] at *
  exact List.lt_trans h1 h2, fun a b => by
  unfold slt
  rw [decide_eq_true_eq, decide_eq_true_eq]
  by_cases h1 : a.cps.toList < b.cps.toList
  · exact .inl h1
  · by_cases h2 : b.cps.toList < a.cps.toList
    · exact .inr (.inr h2)
    · exact .inr (.inl (str_ext (List.le_antisymm (List.not_lt.mp h2) (List.not_lt.mp h1))))⟩
/-- what may be sorted: how it is data, how it is compared -/
structure SortK (β : Type) where
  dd : β → D
  enc : β → PyData
  lt : β → β → Bool
  dec : List D → Option (List β)
  ok : List β → Bool
  O : Sto' lt
  hdec : ∀ ds bs, dec ds = some bs → ds = bs.map dd
  hpy : ∀ b, D.py (dd b) = some (enc b)
  hal : ∀ b c, PySem.W.alike (enc b) (enc c) = true
  hdep : ∀ b, (enc b).depth ≤ 1
  hle : ∀ {γ : Type} (k : γ → β), PySem.W.dataLe false (fun p => enc (k p)) = fun p q => !lt (k q) (k p)
  hok : ∀ bs, ok bs = true → PySem.W.Sortable (bs.map enc)
def sortBy {β : Type} (S : SortK β) (st : Sto) (xs : List D) : Option D := match xs with
  | [x] => ((lstOf st x).bind S.dec).bind fun bs => if S.ok bs && fits bs.length then some (.lst ((srtS S.lt bs).map S.dd)) else none
  | _ => none
theorem pairs_of {K : PySem.W.Frag} {G : Hp} {ι : List Addr} {β : Type} {dd : β → D} : ∀ {vs : List V} {bs : List β}, DVs K G ι vs (bs.map dd) → ∃ ps : List (V × β), ps.map (·.1) = vs ∧ ps.map (·.2) = bs ∧ ∀ p ∈ ps, DV K G ι p.1 (dd p.2)
  | _, [], .nil => ⟨[], rfl, rfl, fun _ h => by cases h⟩
  | _, b :: bs, .cons (v := v) r rs => by
    obtain ⟨ps, h1, h2, h3⟩ := pairs_of rs
    refine ⟨(v, b) :: ps, by rw [List.map_cons, h1], by rw [List.map_cons, h2], fun p hp => ?_⟩
    rcases List.mem_cons.mp hp with e | hp
    · rw [e]; exact r
    · exact h3 p hp
theorem dvs_pairs {K : PySem.W.Frag} {G : Hp} {ι : List Addr} {β : Type} {dd : β → D} : ∀ {ps : List (V × β)}, (∀ p ∈ ps, DV K G ι p.1 (dd p.2)) → DVs K G ι (ps.map (·.1)) ((ps.map (·.2)).map dd)
  | [], _ => .nil
  | p :: ps, h => .cons (h p List.mem_cons_self) (dvs_pairs fun q hq => h q (List.mem_cons_of_mem _ hq))
theorem each_vals {β : Type} : ∀ {ps : List (V × β)} {us : List Value}, Vals (ps.map (·.1)) us → PySem.W.EachIs (fun u p => RelV p.1 u) us ps
  | [], _, .nil => .nil
  | _ :: _, _, .cons r rs => .cons r (each_vals rs)
theorem vals_each {β : Type} : ∀ {ps : List (V × β)} {us : List Value}, PySem.W.EachIs (fun u p => RelV p.1 u) us ps → Vals (ps.map (·.1)) us
  | _, _, .nil => .nil
  | _, _, .cons r rs => .cons r (vals_each rs)
theorem each_mem2 {α β : Type} {R S : α → β → Prop} : ∀ {as : List α} {bs : List β}, PySem.W.EachIs R as bs → (∀ a b, b ∈ bs → R a b → S a b) → PySem.W.EachIs S as bs
  | _, _, .nil, _ => .nil
  | _, _, .cons r rs, h => .cons (h _ _ List.mem_cons_self r) (each_mem2 rs fun a b hb => h a b (List.mem_cons_of_mem _ hb))
section
variable {X : Cx} {β : Type}
theorem sorted_key {γ : Type} (S : SortK β) (k : γ → β) (ps : List γ) : (ps.mergeSort (PySem.W.dataLe false fun p => S.enc (k p))).map k = srtS S.lt (ps.map k) := by
  have hle := S.hle k
  refine srt_ext S.O ?_ (srtS_pw S.O _) (((List.mergeSort_perm ps _).map k).trans (srtS_perm S.O _).symm)
  rw [List.pairwise_map, hle]
  refine (List.pairwise_mergeSort (fun a b c h1 h2 => ?_) (fun a b => ?_) ps).imp fun {a b} h => ?_
  · cases z : S.lt (k c) (k a) with
    | false => rfl
    | true =>
      rcases S.O.tri (k a) (k b) with q | q | q
      · have := S.O.tr _ _ _ z q
        rw [this] at h2; cases h2
      · rw [← q, z] at h2; cases h2
      · rw [q] at h1; cases h1
  · cases z : S.lt (k b) (k a) with
    | false => rfl
    | true => rw [S.O.asym z]; rfl
  · cases z : S.lt (k b) (k a) with
    | false => rfl
    | true => rw [z] at h; cases h
/-- the list that sorted makes, told as data -/
theorem sorted_ps (S : SortK β) {ps : List (V × β)} {out : List Value} (e : PySem.W.EachIs (fun u p => RelV p.1 u) out (ps.mergeSort (PySem.W.dataLe false fun p => S.enc p.2))) :
    ∃ qs : List (V × β), Vals (qs.map (·.1)) out ∧ qs.Perm ps ∧ qs.map (·.2) = srtS S.lt (ps.map (·.2)) :=
  ⟨_, vals_each e, List.mergeSort_perm _ _, sorted_key S (·.2) ps⟩
theorem cd_sortBy (S : SortK β) (hr : RoomS X.A) : CallD X (.builtin "sorted") (sortBy S) := fun pins s σ H xs us Q I rx ⟨G, ι, st, ds, w, hx, p⟩ => by
  unfold sortBy at p
  cases hx with
  | nil => exact p.elim
  | @cons v d vs ds r rs =>
    cases rs with
    | cons _ _ => exact p.elim
    | nil =>
      dsimp only at p
      cases e1 : (lstOf st d).bind S.dec with
      | none => rw [e1] at p; exact p.elim
      | some bs =>
        rw [e1, Option.bind_some] at p
        rw [Option.bind_eq_some_iff] at e1
        obtain ⟨es, e1, e2⟩ := e1
        by_cases hz : (S.ok bs && fits bs.length) = true
        · rw [if_pos hz] at p
          rw [Bool.and_eq_true] at hz
          obtain ⟨a, zs, rfl, hs, rz⟩ := lst_atS w r e1
          rw [S.hdec _ _ e2] at rz
          obtain ⟨ps, h1, h2, h3⟩ := pairs_of rz
          obtain ⟨u, rfl, ru⟩ := vals1 rx
          cases ru
          obtain ⟨its, rv, hl, hsz⟩ := I.list hs
          rw [← h1] at rv
          have lp : ps.length = bs.length := by rw [← h2, List.length_map]
          have eR := each_vals rv
          refine PySem.W.sorted_data (enc := fun p : V × β => S.enc p.2) (hl.isList) eR (each_mem2 eR fun u q hq hu => ?_) ?_ ?_ ?_ ?_ fun out ho hout => ?_
          · exact Dp.reads I _ _ _ (dp_of w.same (h3 q hq) (S.hpy q.2)) hu
          · exact fun d hd d' hd' => by
              obtain ⟨q, _, rfl⟩ := List.mem_map.mp hd
              obtain ⟨q', _, rfl⟩ := List.mem_map.mp hd'
              exact S.hal _ _
          · have := S.hok bs hz.1
            rw [← h2, List.map_map] at this
            exact this
          · rw [lp]; exact fits_line hz.2
          · intro b _
            have := S.hdep b.2
            have := hr.un
            omega
          · obtain ⟨qs, rq, hp, hq⟩ := sorted_ps S hout
            have d2 : ∀ q ∈ qs, DV X.K G ι q.1 (S.dd q.2) := fun q hq => h3 q (hp.mem_iff.mp hq)
            obtain ⟨ep, he'⟩ := PyProof.Rows.sortedAll_at s.heap its out.toArray
            have hlen : (qs.map (·.1)).length ≤ sizeLine := by rw [List.length_map, hp.length_eq, lp]; exact fits_line hz.2
            have hn : H (s.heap.objs.size + 1) = none := I.hok.fresh (Nat.le_succ _)
            refine ⟨.ref _, upd H (s.heap.objs.size + 1) (.lst (qs.map (·.1))), I.laid (t' := s.toks) (fun _ _ => PyProof.Rows.sortedAll_old) (Nat.le_succ _) ⟨hlen, out, ep, rq, he'⟩, rfl, ?_⟩
            refine PostO.fresh p w hn ?_
            rw [← h2, ← hq]
            exact dv_lst w hn (dvs_pairs d2)
        · rw [if_neg hz] at p; exact p.elim
end
theorem intsD_eq : ∀ {ds : List D} {bs : List Int}, intsD ds = some bs → ds = bs.map D.int
  | [], _, h => by cases h; rfl
  | .int i :: ds, bs, h => by
    unfold intsD at h
    cases e : intsD ds with
    | none => rw [e] at h; cases h
    | some ys => rw [e] at h; cases h; rw [intsD_eq e]; rfl
  | .non :: _, _, h => by cases h
  | .bl _ :: _, _, h => by cases h
  | .str _ :: _, _, h => by cases h
  | .tup _ :: _, _, h => by cases h
  | .lst _ :: _, _, h => by cases h
  | .scr _ :: _, _, h => by cases h
  | .dic _ :: _, _, h => by cases h
  | .cell _ :: _, _, h => by cases h
theorem strsD_eq : ∀ {ds : List D} {bs : List Str}, strsD ds = some bs → ds = bs.map D.str
  | [], _, h => by cases h; rfl
  | .str i :: ds, bs, h => by
    unfold strsD at h
    cases e : strsD ds with
    | none => rw [e] at h; cases h
    | some ys => rw [e] at h; cases h; rw [strsD_eq e]; rfl
  | .non :: _, _, h => by cases h
  | .bl _ :: _, _, h => by cases h
  | .int _ :: _, _, h => by cases h
  | .tup _ :: _, _, h => by cases h
  | .lst _ :: _, _, h => by cases h
  | .scr _ :: _, _, h => by cases h
  | .dic _ :: _, _, h => by cases h
  | .cell _ :: _, _, h => by cases h
theorem rowsD_eq : ∀ {ds : List D} {bs : List (List Int)}, rowsD ds = some bs → ds = bs.map rowD
  | [], _, h => by cases h; rfl
  | .tup xs :: ds, bs, h => by
    unfold rowsD at h
    cases e : intsD xs with
    | none => rw [e] at h; cases h
    | some r =>
      rw [e, Option.bind_some] at h
      cases e2 : rowsD ds with
      | none => rw [e2] at h; cases h
      | some ys =>
        rw [e2] at h
        cases h
        rw [rowsD_eq e2, intsD_eq e]
        rfl
  | .non :: _, _, h => by cases h
  | .bl _ :: _, _, h => by cases h
  | .int _ :: _, _, h => by cases h
  | .str _ :: _, _, h => by cases h
  | .lst _ :: _, _, h => by cases h
  | .scr _ :: _, _, h => by cases h
  | .dic _ :: _, _, h => by cases h
  | .cell _ :: _, _, h => by cases h
def sortInt : SortK Int where
  dd := .int
  enc := .int
  lt := fun a b => decide (a < b)
  dec := intsD
  ok := fun _ => true
  O := sto_int
  hdec := fun ds bs h => intsD_eq h
  hpy := fun b => by rw [D.py]
  hal := fun b c => by simp [PySem.W.alike]
  hdep := fun b => by simp [PyData.depth]
  hle := fun k => by
    funext p q
    have e : (PySem.W.dataLe false fun b => PyData.int (k b)) p q = !PySem.W.dataLt (.int (k q)) (.int (k p)) := rfl
    rw [e, PySem.W.dataLt_int]
  hok := fun bs _ => PySem.W.Sortable.others fun b => ⟨by simp, by simp⟩
def sortStr : SortK Str where
  dd := .str
  enc := .str
  lt := slt
  dec := strsD
  ok := fun _ => true
  O := sto_str
  hdec := fun ds bs h => strsD_eq h
  hpy := fun b => by rw [D.py]
  hal := fun b c => by simp [PySem.W.alike]
  hdep := fun b => by simp [PyData.depth]
  hle := fun k => by
    funext p q
    have e : (PySem.W.dataLe false fun b => PyData.str (k b)) p q = !PySem.W.dataLt (.str (k q)) (.str (k p)) := rfl
    rw [e, PySem.W.dataLt_str]
  hok := fun bs _ => PySem.W.Sortable.others fun b => ⟨by simp, by simp⟩
theorem pys_ints (b : List Int) : D.pys (b.map D.int) = some (b.map PyData.int) := by
  induction b with
  | nil => rw [List.map_nil, D.pys]; rfl
  | cons x b ih => rw [List.map_cons, D.pys, D.py, ih]; rfl
def sortRow : SortK (List Int) where
  dd := rowD
  enc := fun b => .tuple (b.map .int)
  lt := rlt
  dec := rowsD
  ok := fun bs => bs.all fun b => !b.isEmpty
  O := sto_row
  hdec := fun ds bs h => rowsD_eq h
  hpy := fun b => by
    show D.py (.tup (b.map D.int)) = _
    rw [D.py, pys_ints]
    rfl
  hal := fun b c => by simp [PySem.W.alike, PySem.W.alike_ints]
  hdep := fun b => by simp [PyData.depth, PySem.W.depth_ints]
  hle := fun k => dataLe_row k
  hok := fun bs h => .inl fun d hd => by
    obtain ⟨b, hb, rfl⟩ := List.mem_map.mp hd
    have := List.all_eq_true.mp h b hb
    cases b with
    | nil => simp at this
    | cons x r => exact ⟨_, _, rfl⟩
def sortedD (st : Sto) (xs : List D) : Option D := orO (sortBy sortInt st xs) (orO (sortBy sortRow st xs) (sortBy sortStr st xs))
section
variable {X : Cx}
theorem cd_sorted (hr : RoomS X.A) : CallD X (.builtin "sorted") sortedD := (cd_sortBy sortInt hr).or ((cd_sortBy sortRow hr).or (cd_sortBy sortStr hr))
end

/-! ## sorted(set(xs)), rows of whole numbers -/
def rSortTA (K : PySem.W.Frag) (P : Program) (w : World) : List V → Hp → VK → Prop := fun vs H Q => ∃ (a : Addr) (rows : List (Addr × List Int)), vs = [V.ref a] ∧ H a = some (SetTO P w a rows) ∧ (∀ q ∈ rows, SqT K H q.1 (q.2.map V.int) ∧ q.2 ≠ []) ∧
  ∀ (out : List (Addr × List Int)) (p : Addr), out.Perm rows → out.map (·.2) = setU rlt (rows.map (·.2)) → out.length < 64 → H p = none → Q (.ref p) (upd H p (.lst (out.map fun q => V.ref q.1)))
theorem nodup_of_map' {α β : Type} {f : α → β} {l : List α} (h : (l.map f).Nodup) : l.Nodup := List.Pairwise.of_map f (fun _ _ hne e => hne (congrArg f e)) h
theorem srt_set {α : Type} {lt : α → α → Bool} (O : Sto' lt) {l : List α} (nd : l.Nodup) : srtS lt l = setU lt l := by
  refine asc_ext O ?_ (setU_pw O l) fun x => ?_
  · have n2 : (srtS lt l).Nodup := ((srtS_perm O l).nodup_iff).mpr nd
    refine ((srtS_pw O l).and n2).imp fun {a b} h => ?_
    rcases O.tri a b with q | q | q
    · exact q
    · exact absurd q h.2
    · rw [h.1] at q; cases q
  · rw [setU_mem O, (srtS_perm O l).mem_iff]
theorem setU_same {α : Type} {lt : α → α → Bool} (O : Sto' lt) {l m : List α} (h : ∀ x, x ∈ l ↔ x ∈ m) : setU lt l = setU lt m :=
  asc_ext O (setU_pw O l) (setU_pw O m) fun x => by rw [setU_mem O, setU_mem O, h]
theorem each_map_eq {α β : Type} {f : β → α} : ∀ {as : List α} {bs : List β}, PySem.W.EachIs (fun u b => u = f b) as bs → as = bs.map f
  | _, _, .nil => rfl
  | _, _, .cons r rs => by rw [List.map_cons, r, each_map_eq rs]
/-- an arrangement of the images is one of the things -/
theorem perm_lift {α β : Type} {f : α → β} {l : List α} {vs : List β} (h : vs.Perm (l.map f)) : ∃ ps : List α, ps.map f = vs ∧ ps.Perm l := by
  generalize e : l.map f = m at h
  induction h generalizing l with
  | nil =>
    cases l with
    | nil => exact ⟨[], rfl, .refl _⟩
    | cons _ _ => cases e
  | cons x h ih =>
    cases l with
    | nil => cases e
    | cons y l =>
      rw [List.map_cons] at e
      cases e
      obtain ⟨ps, h1, h2⟩ := ih rfl
      exact ⟨y :: ps, by rw [List.map_cons, h1], h2.cons y⟩
  | swap x y t =>
    cases l with
    | nil => cases e
    | cons a l =>
      cases l with
      | nil => cases e
      | cons b l =>
        rw [List.map_cons, List.map_cons] at e
        cases e
        exact ⟨b :: a :: l, rfl, .swap ..⟩
  | trans h1 h2 ih1 ih2 =>
    obtain ⟨ps, e1, p1⟩ := ih2 e
    obtain ⟨qs, e2, p2⟩ := ih1 e1
    exact ⟨qs, e2, p2.trans p1⟩
theorem reads_ints {h : Heap} : ∀ {us : List Value} {ks : List Int}, IntsAre us ks → ReadsAll h us (ks.map .int) []
  | _, _, .nil => .nil
  | _, _, .cons i t rs => .cons (.int i t) (reads_ints rs)
section
variable {X : Cx}
theorem cr_sortTA (hc : X.calm = true) (hr : RoomS X.A) : CallR X (.builtin "sorted") (rSortTA X.K X.prog X.w) := by
  intro pins s σ H vs us Q I rv hyp
  obtain ⟨a, rows, rfl, ha, hk, q⟩ := hyp
  obtain ⟨es, ep, t, R⟩ := (I.hok a _ ha).1.full fun p hp => I.isT (hk p hp).1
  rw [Vals.ref1 rv]
  obtain ⟨o, ho, hex, hd⟩ := R.ob
  have few := R.few
  have size := R.size
  refine Calls.call_function_entry kind_sorted plain_sorted entry_sorted (args_sorted1 _) ?_
  unfold Builtin.«sorted»
  refine wpAny_bind (m := checkCount "sorted" 1 1 _) (wpAny_pure ?_)
  refine wpAny_bind (collect_set (A := X.A.in1) (I.ok.hd hc) ⟨o, ho, hex.1, hd⟩ R.fits (by unfold scanBound; omega) R.tab.ris R.led fun s1 vs k1 sz g1 o1 pm => ?_)
  have hes : es.toList.map (·.2) = rows.map fun q => Value.ref q.1 := by
    have := congrArg (List.map Prod.snd) R.rows
    rw [this]
    simp [rowsOf, Function.comp_def]
  rw [hes] at pm
  -- the collected values, row by row
  obtain ⟨ps, hps, hperm⟩ : ∃ ps : List (Addr × List Int), ps.map (fun q => Value.ref q.1) = vs ∧ ps.Perm rows := perm_lift pm
  subst hps
  have lps : ps.length < 64 := by rw [hperm.length_eq]; exact few
  refine wpAny_bind (wpAny_newList ?_ (by rw [List.length_map, sizeLine_eq]; omega))
  have hoL : (s1.heap.push (seqObj "list" (ps.map fun q => Value.ref q.1).toArray 0)).get? s1.heap.objs.size = some (seqObj "list" (ps.map fun q => Value.ref q.1).toArray 0) := Heap.get?_push_size _ rfl
  have eR : PySem.W.EachIs (fun u (q : Addr × List Int) => u = Value.ref q.1) (ps.map fun q => Value.ref q.1) ps := by
    clear hoL lps hperm pm
    induction ps with
    | nil => exact .nil
    | cons q ps ih => exact .cons rfl ih
  refine wpAny_bind (wpAny_holding (PySem.W.list_sort_data (s := { s1 with heap := s1.heap.push (seqObj "list" (ps.map fun q => Value.ref q.1).toArray 0) }) (enc := fun q : Addr × List Int => PyData.tuple (q.2.map .int)) hoL eR (each_mem2 eR fun u q hq hu => ?_) ?_ ?_ ?_ ?_ fun out ho2 hout => ?_))
  · subst hu
    have hT := R.tup q (hperm.mem_iff.mp hq)
    have hT2 : IsT X.prog X.w (s1.heap.push (seqObj "list" (ps.map fun q => Value.ref q.1).toArray 0)) q.2 q.1 := isT_keep hT fun b u e => Heap.get?_push_of_some _ (k1 b u e)
    obtain ⟨ot, items, n, e1, e2, e3, e4⟩ := hT2
    exact ⟨_, Reads.tuple e1 e2 e3 (reads_ints (ints_of_items e4)), by simp⟩
  · exact fun d hd d' hd' => by
      obtain ⟨q, _, rfl⟩ := List.mem_map.mp hd
      obtain ⟨q', _, rfl⟩ := List.mem_map.mp hd'
      exact sortRow.hal _ _
  · refine .inl fun d hd => ?_
    obtain ⟨q, hq, rfl⟩ := List.mem_map.mp hd
    have := (hk q (hperm.mem_iff.mp hq)).2
    cases e : q.2 with
    | nil => exact absurd e this
    | cons x r => exact ⟨_, _, rfl⟩
  · rw [sizeLine_eq]; omega
  · intro q _
    have := sortRow.hdep q.2
    have := hr.un
    show X.A.in1.units + 1 + (sortRow.enc q.2).depth < cLine
    have : X.A.in1.units = X.A.units + 1 := rfl
    omega
  · have ho3 := each_map_eq hout
    subst ho3
    have hq := sorted_key sortRow (·.2) ps
    have hp := List.mergeSort_perm ps (PySem.W.dataLe false fun q : Addr × List Int => PyData.tuple (q.2.map .int))
    revert hq
    show (List.map (·.2) (ps.mergeSort (PySem.W.dataLe false fun q : Addr × List Int => PyData.tuple (q.2.map .int))) = srtS rlt (ps.map (·.2))) → _
    generalize hS : ps.mergeSort (PySem.W.dataLe false fun q : Addr × List Int => PyData.tuple (q.2.map .int)) = qs at hp hout ⊢
    intro hq
    have nd : (ps.map (·.2)).Nodup := ((hperm.map (·.2)).nodup_iff).mpr R.nd
    have hq2 : qs.map (·.2) = setU rlt (rows.map (·.2)) := by
      rw [hq, srt_set sto_row nd]
      exact setU_same sto_row fun x => (hperm.map (·.2)).mem_iff
    have lq : qs.length < 64 := by rw [hp.length_eq]; exact lps
    obtain ⟨c, hc2⟩ := sortedHeap_at (vs := ps.map fun q => Value.ref q.1) (out := (qs.map fun q => Value.ref q.1).toArray) hoL
    have hn : H s1.heap.objs.size = none := I.hok.fresh sz
    have keep : ∀ b u, s.heap.get? b = some u → (sortedHeap (s1.heap.push (seqObj "list" (ps.map fun q => Value.ref q.1).toArray 0)) s1.heap.objs.size (ps.map fun q => Value.ref q.1) (qs.map fun q => Value.ref q.1).toArray).get? b = some u := fun b u e => by
      have e1 := k1 b u e
      have hlt := Heap.lt_size e1
      rw [sortedHeap_old (Nat.ne_of_lt hlt) (by rw [size_push']; exact Nat.lt_succ_of_lt hlt)]
      exact Heap.get?_push_of_some _ e1
    have hlen : (qs.map fun q => V.ref q.1).length ≤ sizeLine := by rw [List.length_map, sizeLine_eq]; omega
    have hv : Vals (qs.map fun q => V.ref q.1) (qs.map fun q => Value.ref q.1).toArray.toList := by simpa using vals_of_refs qs
    refine wpAny_pure ⟨_, rfl, ?_⟩
    have J : Inv X pins σ (upd H s1.heap.objs.size (.lst (qs.map fun q => V.ref q.1))) { s1 with heap := sortedHeap (s1.heap.push (seqObj "list" (ps.map fun q => Value.ref q.1).toArray 0)) s1.heap.objs.size (ps.map fun q => Value.ref q.1) (qs.map fun q => Value.ref q.1).toArray } :=
      I.call' (ch := []) o1 (Un.laid keep sz hn) (I.hok.laid keep sz (show ObjOk X.prog X.w _ _ _ (.lst (qs.map fun q => V.ref q.1)) from ⟨hlen, _, c, hv, hc2⟩)) (by show AllBare s1.gens; rw [g1]; exact I.bare) (fun _ z => nomatch z)
    exact ⟨.ref s1.heap.objs.size, _, J, rfl, q qs _ (hp.trans hperm) hq2 lq hn⟩
end
theorem upd_new_same {H : Hp} {p : Addr} {o : HO} (hp : H p = none) : Same H (upd H p o) := fun b u h => by rw [upd_ne (ne_of_none h hp)]; exact h
theorem rows_refs {K : PySem.W.Frag} {G : Hp} {ι : List Addr} : ∀ {vs : List V} {rows : List (List Int)}, DVs K G ι vs (rows.map rowD) → ∃ ks : List (Addr × List Int), vs = ks.map (fun p => V.ref p.1) ∧ rows = ks.map (·.2) ∧ ∀ p ∈ ks, SqT K G p.1 (p.2.map V.int)
  | _, [], .nil => ⟨[], rfl, rfl, fun _ h => by cases h⟩
  | _, r :: rows, .cons h hs => by
    obtain ⟨ks, h1, h2, h3⟩ := rows_refs hs
    unfold rowD at h
    cases h with
    | @tup a us _ q rs =>
      obtain ⟨e, _⟩ := intsD_of rs (intsD_map r)
      subst e
      refine ⟨(a, r) :: ks, by rw [List.map_cons, h1], by rw [List.map_cons, h2], fun p hp => ?_⟩
      rcases List.mem_cons.mp hp with e | hp
      · rw [e]; exact q
      · exact h3 p hp
def sortSet1 (st : Sto) (x : D) : Option D := ((lstOf st x).bind rowsD).bind fun rows => if decide (rows.length < 64) && rows.all (fun b => !b.isEmpty) then some (.lst ((setU rlt rows).map rowD)) else none
section
variable {X : Cx} {T : CT} {W : WX} {a : Expr} {ma : EM} {p1 p2 p3 p4 : Pos}
theorem de_sortedSet (hc : X.calm = true) (hr : RoomS X.A) (hg : Gl X "sorted") (hm : X.mg "sorted" = none) (hg2 : Gl X "set") (hm2 : X.mg "set" = none) (ha : DE X T W a ma)
    (h1 : starEach [a] X.env = (false, eval a X.env) :: starEach [] X.env := by rfl) (h2 : starEach [.Call (.Name "set" p2) [a] [] p3] X.env = (false, eval (.Call (.Name "set" p2) [a] [] p3) X.env) :: starEach [] X.env := by rfl)
    (h3 : (backTo p3 (starEach [] X.env)).any (·.1) = false := by rfl) (h4 : (backTo p4 (starEach [] X.env)).any (·.1) = false := by rfl) :
    DE X T W (.Call (.Name "sorted" p1) [.Call (.Name "set" p2) [a] [] p3] [] p4) (eUn sortSet1 ma) :=
  DE.of (pe_callB (cr_sortTA hc hr) hg hm bb_sorted (pa_cons (pe_callTy (cr_setOfT hc (by have := hr.un; omega)) hg2 hm2 bb_set (pa_cons ha pa_nil h1) (by decide) (by decide) h1 h3) pa_nil h2) (by decide) (by decide) h2 h4) fun σ H Q G ι st env w r p =>
    ⟨G, ι, st, env, w, r, p.bind fun d st1 v G1 ι1 H1 x1 w1 r1 q1 => by
      have q2 := q1.rd
      unfold sortSet1 at q2
      cases e1 : (lstOf st1 d).bind rowsD with
      | none => rw [e1] at q2; exact q2.elim
      | some rows =>
        rw [e1, Option.bind_some] at q2
        rw [Option.bind_eq_some_iff] at e1
        obtain ⟨es, e1, e2⟩ := e1
        by_cases hz : (decide (rows.length < 64) && rows.all fun b => !b.isEmpty) = true
        · rw [if_pos hz] at q2
          rw [Bool.and_eq_true, decide_eq_true_eq] at hz
          obtain ⟨l, vs, rfl, hl, rv⟩ := lst_atS w1 r1 e1
          rw [rowsD_eq e2] at rv
          obtain ⟨ks, e3, e4, hks⟩ := rows_refs rv
          subst e3
          refine ⟨l, ks, rfl, hl, fun p hp => w1.same.tup (hks p hp), by rw [← List.length_map (f := fun p : Addr × List Int => p.2), ← e4]; exact hz.1, fun b L hb hL1 hL2 => ?_⟩
          have gb : G1 b = none := w1.off hb
          have ib : b ∉ ι1 := fun z => w1.there b z hb
          refine ⟨b, L, rfl, upd_same, fun q hq => ⟨?_, fun z => ?_⟩, fun out p hp ho hl2 hpn => ?_⟩
          · have := hks q (hL1 q hq)
            exact (upd_new_same hb).tup (w1.same.tup this)
          · have hm3 : q.2 ∈ rows := by rw [e4]; exact List.mem_map.mpr ⟨q, hL1 q hq, rfl⟩
            have := List.all_eq_true.mp hz.2 q.2 hm3
            rw [z] at this
            cases this
          · have hp1 : H1 p = none := by
              by_cases e : p = b
              · rw [e]; exact hb
              · rw [upd_ne e] at hpn; exact hpn
            have w2 : WH X.K G1 ι1 st1 (upd H1 b (SetTO X.prog X.w b L)) := w1.other gb ib _
            have x2 : Ext ι1 ι1 H1 (upd H1 b (SetTO X.prog X.w b L)) G1 G1 := Ext.other .refl hb _
            have hset : setU rlt rows = out.map (·.2) := by
              rw [ho]
              refine setU_same sto_row fun x => ?_
              rw [e4]
              constructor
              · intro hx
                obtain ⟨q, hq, rfl⟩ := List.mem_map.mp hx
                exact hL2 q hq
              · intro hx
                obtain ⟨q, hq, rfl⟩ := List.mem_map.mp hx
                exact List.mem_map.mpr ⟨q, hL1 q hq, rfl⟩
            refine q2 (.ref p) _ _ (x2.cons w2 (w2.fzExt hpn _)) (w2.fz hpn _) ?_
            rw [hset]
            refine dv_lst w2 hpn ?_
            have hmem : ∀ q ∈ out, q ∈ ks := fun q hq => hL1 q (hp.mem_iff.mp hq)
            clear ho hl2 hset hp q2
            induction out with
            | nil => exact .nil
            | cons q out ih =>
              exact .cons (.tup (hks q (hmem q List.mem_cons_self)) (dvs_ints q.2)) (ih fun q' hq' => hmem q' (List.mem_cons_of_mem _ hq'))
        · rw [if_neg hz] at q2; exact q2.elim⟩
end
end L3
namespace L3
open PySem PySem.Spec PyProof.Rows L2

/-! ## set(t), t a tuple of ints: sorted, counted -/
abbrev ilt (a b : Int) : Bool := decide (a < b)
def rSetTI (K : PySem.W.Frag) (w : World) : List V → Hp → VK → Prop := fun vs H Q => ∃ (l : Addr) (ns : List Int), vs = [V.ref l] ∧ SqT K H l (ns.map V.int) ∧ ns.length < 64 ∧
  ∀ a c, H a = none → c ≤ ns.length → Q (.ref a) (upd H a (SetO w a (fun j => decide (j ∈ ns)) c))
def rLenSO (w : World) : List V → Hp → VK → Prop := fun vs H Q => ∃ (a : Addr) (ns : List Int) (c : Nat), vs = [V.ref a] ∧ H a = some (SetO w a (fun j => decide (j ∈ ns)) c) ∧ Q (.int (setU ilt ns).length) H
section
variable {X : Cx}
theorem cr_setTI (hc : X.calm = true) : CallR X (.type "set") (rSetTI X.K X.w) := by
  intro pins s σ H vs us Q I r hyp
  obtain ⟨l, ns, rfl, hl, hf, q⟩ := hyp
  rw [Vals.ref1 r]
  obtain ⟨its, rv, pt, hz⟩ := I.tuple hl
  have hi : IntsAre its.toArray.toList ns := intsAre_of rv
  refine call_set_tupI ns (I.ok.hd hc) pt hi (by unfold scanBound; omega) fun h' tk c R hcn k => ?_
  exact ⟨.ref _, _, I.laid (t' := tk) k (Nat.le_refl _) (setO_new R), rfl, q _ c (I.hok.fresh (Nat.le_refl _)) hcn⟩
theorem nodup_len {α : Type} {l m : List α} (nl : l.Nodup) (nm : m.Nodup) (h : ∀ x, x ∈ l ↔ x ∈ m) : l.length = m.length :=
  ((List.perm_ext_iff_of_nodup nl nm).mpr h).length_eq
theorem setU_nodup {α : Type} {lt : α → α → Bool} (O : Sto' lt) (l : List α) : (setU lt l).Nodup :=
  (setU_pw O l).imp fun {a b} h e => by rw [e, O.irr] at h; cases h
theorem cr_lenSO : CallR X (.builtin "len") (rLenSO X.w) := by
  intro pins s σ H vs us Q I r hyp
  obtain ⟨a, ns, c, rfl, ha, q⟩ := hyp
  rw [Vals.ref1 r]
  obtain ⟨o, es, ep, t, ho, hex, hd, hg, hn, hm, hb, hf, hsz, _⟩ := setO_get I ha
  have hl : es.size = (setU ilt ns).length := by
    have := nodup_len hn (setU_nodup sto_int ns) fun x => by
      rw [← hm, setU_mem sto_int, decide_eq_true_eq]
    rw [List.length_map, Array.length_toList] at this
    exact this
  refine call_len_set ho hex hd hf (by unfold scanBound at hb; omega) ⟨.int (setU ilt ns).length, H, I.tok _, ⟨_, by rw [hl]⟩, q⟩
end
def sortSetI (_ : Sto) (x : D) : Option D := ((tupOf x).bind intsD).bind fun ns => if decide (ns.length < 64) then some (.lst ((setU ilt ns).map .int)) else none
def lenSetI (_ : Sto) (x : D) : Option D := ((tupOf x).bind intsD).bind fun ns => if decide (ns.length < 64) then some (.int (setU ilt ns).length) else none
section
variable {X : Cx} {T : CT} {W : WX} {a : Expr} {ma : EM} {p1 p2 p3 p4 : Pos}
theorem de_sortedSetI (hc : X.calm = true) (hg : Gl X "sorted") (hm : X.mg "sorted" = none) (hg2 : Gl X "set") (hm2 : X.mg "set" = none) (ha : DE X T W a ma)
    (h1 : starEach [a] X.env = (false, eval a X.env) :: starEach [] X.env := by rfl) (h2 : starEach [.Call (.Name "set" p2) [a] [] p3] X.env = (false, eval (.Call (.Name "set" p2) [a] [] p3) X.env) :: starEach [] X.env := by rfl)
    (h3 : (backTo p3 (starEach [] X.env)).any (·.1) = false := by rfl) (h4 : (backTo p4 (starEach [] X.env)).any (·.1) = false := by rfl) :
    DE X T W (.Call (.Name "sorted" p1) [.Call (.Name "set" p2) [a] [] p3] [] p4) (eUn sortSetI ma) :=
  DE.of (pe_callB (cr_sortedSet hc) hg hm bb_sorted (pa_cons (pe_callTy (cr_setTI hc) hg2 hm2 bb_set (pa_cons ha pa_nil h1) (by decide) (by decide) h1 h3) pa_nil h2) (by decide) (by decide) h2 h4) fun σ H Q G ι st env w r p =>
    ⟨G, ι, st, env, w, r, p.bind fun d st1 v G1 ι1 H1 x1 w1 r1 q1 => by
      have q2 := q1.rd
      unfold sortSetI at q2
      cases e1 : (tupOf d).bind intsD with
      | none => rw [e1] at q2; exact q2.elim
      | some ns =>
        rw [e1, Option.bind_some] at q2
        rw [Option.bind_eq_some_iff] at e1
        obtain ⟨es, e1, e2⟩ := e1
        by_cases hz : decide (ns.length < 64) = true
        · rw [if_pos hz] at q2
          rw [decide_eq_true_eq] at hz
          obtain ⟨l, vs, rfl, hl, rv⟩ := tup_at w1 r1 e1
          obtain ⟨e3, _⟩ := intsD_of rv e2
          subst e3
          refine ⟨l, ns, rfl, hl, hz, fun b c hb hcn => ?_⟩
          refine ⟨b, _, c, rfl, upd_same, by omega, fun ms p hpw hmem hlen hpn => ?_⟩
          have gb : G1 b = none := w1.off hb
          have ib : b ∉ ι1 := fun z => w1.there b z hb
          have w2 : WH X.K G1 ι1 st1 (upd H1 b (SetO X.w b (fun j => decide (j ∈ ns)) c)) := w1.other gb ib _
          have x2 : Ext ι1 ι1 H1 (upd H1 b (SetO X.w b (fun j => decide (j ∈ ns)) c)) G1 G1 := Ext.other .refl hb _
          have hset : setU ilt ns = ms := asc_ext sto_int (setU_pw sto_int ns) (hpw.imp fun h => decide_eq_true h) fun x => by rw [setU_mem sto_int, hmem, decide_eq_true_eq]
          refine q2 (.ref p) _ _ (x2.cons w2 (w2.fzExt hpn _)) (w2.fz hpn _) ?_
          rw [hset]
          exact dv_lst w2 hpn (dvs_ints ms)
        · rw [if_neg hz] at q2; exact q2.elim⟩
theorem de_lenSetI (hc : X.calm = true) (hg : Gl X "len") (hm : X.mg "len" = none) (hg2 : Gl X "set") (hm2 : X.mg "set" = none) (ha : DE X T W a ma)
    (h1 : starEach [a] X.env = (false, eval a X.env) :: starEach [] X.env := by rfl) (h2 : starEach [.Call (.Name "set" p2) [a] [] p3] X.env = (false, eval (.Call (.Name "set" p2) [a] [] p3) X.env) :: starEach [] X.env := by rfl)
    (h3 : (backTo p3 (starEach [] X.env)).any (·.1) = false := by rfl) (h4 : (backTo p4 (starEach [] X.env)).any (·.1) = false := by rfl) :
    DE X T W (.Call (.Name "len" p1) [.Call (.Name "set" p2) [a] [] p3] [] p4) (eUn lenSetI ma) :=
  DE.of (pe_callB cr_lenSO hg hm bb_len (pa_cons (pe_callTy (cr_setTI hc) hg2 hm2 bb_set (pa_cons ha pa_nil h1) (by decide) (by decide) h1 h3) pa_nil h2) (by decide) (by decide) h2 h4) fun σ H Q G ι st env w r p =>
    ⟨G, ι, st, env, w, r, p.bind fun d st1 v G1 ι1 H1 x1 w1 r1 q1 => by
      have q2 := q1.rd
      unfold lenSetI at q2
      cases e1 : (tupOf d).bind intsD with
      | none => rw [e1] at q2; exact q2.elim
      | some ns =>
        rw [e1, Option.bind_some] at q2
        rw [Option.bind_eq_some_iff] at e1
        obtain ⟨es, e1, e2⟩ := e1
        by_cases hz : decide (ns.length < 64) = true
        · rw [if_pos hz] at q2
          rw [decide_eq_true_eq] at hz
          obtain ⟨l, vs, rfl, hl, rv⟩ := tup_at w1 r1 e1
          obtain ⟨e3, _⟩ := intsD_of rv e2
          subst e3
          refine ⟨l, ns, rfl, hl, hz, fun b c hb hcn => ⟨b, ns, c, rfl, upd_same, ?_⟩⟩
          have gb : G1 b = none := w1.off hb
          have ib : b ∉ ι1 := fun z => w1.there b z hb
          exact q2 _ _ _ (Ext.other .refl hb _) (w1.other gb ib _) (.int _)
        · rw [if_neg hz] at q2; exact q2.elim⟩
/-- two ways to read one expression of one argument -/
theorem de_orU {e : Expr} {f g : Sto → D → Option D} (h1 : DE X T W e (eUn f ma)) (h2 : DE X T W e (eUn g ma)) : DE X T W e (eUn (fun st x => orO (f st x) (g st x)) ma) :=
  ⟨fun pins s σ H Q I ⟨G, ι, st, env, w, r, p⟩ => by
    unfold eUn at p
    rw [M.bind_app] at p
    have key : ∀ k : Sto → D → Option D, (∀ d s', ma env st = .ok d s' → orO (f s' d) (g s' d) = k s' d) → PostE X.K T G ι H (eUn k ma env st) (fun c d H' => W c d σ H') Q := fun k hk => by
      unfold eUn
      rw [M.bind_app]
      cases e1 : ma env st with
      | bad => rw [e1] at p; exact p
      | ex x s2 => rw [e1] at p; exact p
      | ok d s2 =>
        rw [e1] at p
        dsimp only at p ⊢
        rw [M.rd, ← hk d s2 e1]
        exact p
    by_cases hf : ∃ d s' z, ma env st = .ok d s' ∧ f s' d = some z
    · obtain ⟨d, s', z, e1, e2⟩ := hf
      exact h1.run pins s σ H Q I ⟨G, ι, st, env, w, r, key f fun d2 s2 e3 => by
        rw [e1] at e3
        cases e3
        rw [e2]
        rfl⟩
    · exact h2.run pins s σ H Q I ⟨G, ι, st, env, w, r, key g fun d2 s2 e3 => by
        cases e4 : f s2 d2 with
        | none => rfl
        | some z => exact absurd ⟨d2, s2, z, e3, e4⟩ hf⟩⟩
def sortSetD (st : Sto) (x : D) : Option D := orO (sortSet1 st x) (sortSetI st x)
theorem de_srtSet (hc : X.calm = true) (hr : RoomS X.A) (hg : Gl X "sorted") (hm : X.mg "sorted" = none) (hg2 : Gl X "set") (hm2 : X.mg "set" = none) (ha : DE X T W a ma)
    (h1 : starEach [a] X.env = (false, eval a X.env) :: starEach [] X.env := by rfl) (h2 : starEach [.Call (.Name "set" p2) [a] [] p3] X.env = (false, eval (.Call (.Name "set" p2) [a] [] p3) X.env) :: starEach [] X.env := by rfl)
    (h3 : (backTo p3 (starEach [] X.env)).any (·.1) = false := by rfl) (h4 : (backTo p4 (starEach [] X.env)).any (·.1) = false := by rfl) :
    DE X T W (.Call (.Name "sorted" p1) [.Call (.Name "set" p2) [a] [] p3] [] p4) (eUn sortSetD ma) :=
  de_orU (de_sortedSet hc hr hg hm hg2 hm2 ha h1 h2 h3 h4) (de_sortedSetI hc hg hm hg2 hm2 ha h1 h2 h3 h4)
end

/-! ## New lists that will be changed: list(x), list(range(n)) -/
def M.newL (xs : List D) : M D := M.new (.lst xs)
def eListC (m : EM) : EM := fun env => M.bind (m env) fun x => M.bind (M.rd fun st => seqOf st x) M.newL
def eLstRgC1 (m : EM) : EM := fun env => M.bind (m env) fun x => match x with
  | .int j => if rgOk 0 j = true then M.newL (rngD 0 j) else M.bad
  | _ => M.bad
section
variable {X : Cx} {T : CT} {W : WX} {a : Expr} {ma : EM} {p p' pos pos' : Pos}
theorem PostE.newL {K : PySem.W.Frag} {T : CT} {G : Hp} {ι : List Addr} {H : Hp} {st : Sto} {E : XK} {Q : VK} {xs : List D} {vs : List V} (q : PostE K T G ι H (M.newL xs st) E Q) (w : WH K G ι st H) (r : DVs K G ι vs xs) {l : Addr} (hl : H l = none) : Q (.ref l) (upd H l (.lst vs)) := by
  have cr : CellR K G (ι ++ [l]) (upd H l (.lst vs)) l (.lst xs) := ⟨w.off hl, vs, upd_same, r.mono (fun _ _ h => h) ⟨[l], rfl⟩⟩
  refine q _ _ _ _ (w.clExt hl _) (w.cl hl cr) (.cell ?_)
  rw [← w.len, List.getElem?_append_right (Nat.le_refl _)]
  simp
theorem de_listC (hg : Gl X "list") (hm : X.mg "list" = none) (ha : DE X T W a ma) (h1 : starEach [a] X.env = (false, eval a X.env) :: starEach [] X.env := by rfl) (h2 : (backTo pos (starEach [] X.env)).any (·.1) = false := by rfl) :
    DE X T W (.Call (.Name "list" p) [a] [] pos) (eListC ma) :=
  DE.of (pe_callTy call_list_of hg hm bb_list (pa_cons ha pa_nil h1) (by decide) (by decide) h1 h2) fun σ H Q G ι st env w r q => ⟨G, ι, st, env, w, r, q.bind fun d st1 v G1 ι1 H1 x1 w1 r1 q1 => by
    rw [M.bind_app] at q1
    unfold M.rd at q1
    dsimp only at q1
    cases e : seqOf st1 d with
    | none => rw [e] at q1; exact q1.elim
    | some ds =>
      rw [e] at q1
      obtain ⟨b, vs, rfl, h2, h3⟩ := seq_at w1 r1 e
      exact ⟨b, vs, rfl, h2, fun l hl => PostE.newL q1 w1 h3 hl⟩⟩
theorem de_lstRgC1 (hc : X.calm = true) (hg : Gl X "list") (hm : X.mg "list" = none) (hg2 : Gl X "range") (hm2 : X.mg "range" = none) (ha : DE X T W a ma) (na : starEach [a] X.env = (false, eval a X.env) :: starEach [] X.env := by rfl)
    (nb : starEach [.Call (.Name "range" p) [a] [] pos] X.env = (false, eval (.Call (.Name "range" p) [a] [] pos) X.env) :: starEach [] X.env := by rfl) : DE X T W (.Call (.Name "list" p') [.Call (.Name "range" p) [a] [] pos] [] pos') (eLstRgC1 ma) :=
  DE.of (pe_listRg hc hg hm (prg_1 hg2 hm2 ha na) nb) fun σ H Q G ι st env w r q => ⟨G, ι, st, env, w, r, q.bind fun d st1 v G1 ι1 H1 x1 w1 r1 q1 => by
    cases r1 with
    | int j =>
      dsimp only at q1
      by_cases ho : rgOk 0 j = true
      · rw [if_pos ho] at q1
        exact ⟨j, rfl, rgOk_of ho, fun z hz => PostE.newL q1 w1 (dvs_rg 0 j) hz⟩
      · rw [if_neg ho] at q1; exact q1.elim
    | _ => exact q1.elim⟩
end
end L3
namespace L3
open PySem PySem.Spec PyProof.Rows L2

/-! ## What is free of cells -/
section
variable (k : Nat)
theorem bel_non : D.bel k .non = true := by simp [D.bel]
theorem bel_bl (b : Bool) : D.bel k (.bl b) = true := by simp [D.bel]
theorem bel_int (i : Int) : D.bel k (.int i) = true := by simp [D.bel]
theorem bel_str (x : Str) : D.bel k (.str x) = true := by simp [D.bel]
theorem bel_tup (xs : List D) : D.bel k (.tup xs) = D.bels k xs := by rw [D.bel]
theorem bel_lst (xs : List D) : D.bel k (.lst xs) = D.bels k xs := by rw [D.bel]
theorem bel_scr (xs : List D) : D.bel k (.scr xs) = D.bels k xs := by rw [D.bel]
theorem bel_dic (xs : List (Key × D)) : D.bel k (.dic xs) = D.belk k xs := by rw [D.bel]
theorem bel_cell (n : Nat) : D.bel k (.cell n) = decide (n < k) := by rw [D.bel]
theorem bels_nil : D.bels k [] = true := by simp [D.bels]
theorem bels_cons (d : D) (ds : List D) : D.bels k (d :: ds) = (D.bel k d && D.bels k ds) := by rw [D.bels]
theorem belk_nil : D.belk k [] = true := by simp [D.belk]
theorem belk_cons (q : Key) (d : D) (ds : List (Key × D)) : D.belk k ((q, d) :: ds) = (D.bel k d && D.belk k ds) := by rw [D.belk]
theorem bels_all : ∀ (ds : List D), (∀ d ∈ ds, D.bel k d = true) → D.bels k ds = true
  | [], _ => bels_nil k
  | d :: ds, h => by rw [bels_cons, h d List.mem_cons_self, bels_all ds fun x hx => h x (List.mem_cons_of_mem _ hx)]; rfl
theorem bels_map {α : Type} (f : α → D) (xs : List α) (h : ∀ x ∈ xs, D.bel k (f x) = true) : D.bels k (xs.map f) = true := bels_all k _ fun d hd => by
  obtain ⟨x, hx, rfl⟩ := List.mem_map.mp hd
  exact h x hx
theorem bels_ints (xs : List Int) : D.bels k (xs.map D.int) = true := bels_map k _ _ fun x _ => bel_int k x
theorem bels_strs (xs : List Str) : D.bels k (xs.map D.str) = true := bels_map k _ _ fun x _ => bel_str k x
theorem bels_bls (xs : List Bool) : D.bels k (xs.map D.bl) = true := bels_map k _ _ fun x _ => bel_bl k x
theorem bel_row (r : List Int) : D.bel k (rowD r) = true := by unfold rowD; rw [bel_tup]; exact bels_ints k r
theorem bels_rows (xs : List (List Int)) : D.bels k (xs.map rowD) = true := bels_map k _ _ fun x _ => bel_row k x
theorem bels_append (xs ys : List D) : D.bels k (xs ++ ys) = (D.bels k xs && D.bels k ys) := by
  induction xs with
  | nil => rw [List.nil_append, bels_nil]; rfl
  | cons x xs ih => rw [List.cons_append, bels_cons, bels_cons, ih, Bool.and_assoc]
theorem bels_rng (lo hi : Int) : D.bels k (rngD lo hi) = true := bels_map k _ _ fun x _ => bel_int k _
end

mutual
theorem bel_mono0 {k : Nat} : ∀ {d : D}, D.bel 0 d = true → D.bel k d = true
  | .non, _ => bel_non k
  | .bl b, _ => bel_bl k b
  | .int i, _ => bel_int k i
  | .str x, _ => bel_str k x
  | .tup xs, h => by rw [bel_tup] at h ⊢; exact bels_mono0 h
  | .lst xs, h => by rw [bel_lst] at h ⊢; exact bels_mono0 h
  | .scr xs, h => by rw [bel_scr] at h ⊢; exact bels_mono0 h
  | .dic xs, h => by rw [bel_dic] at h ⊢; exact belk_mono0 h
  | .cell n, h => by rw [bel_cell] at h; simp at h
theorem bels_mono0 {k : Nat} : ∀ {ds : List D}, D.bels 0 ds = true → D.bels k ds = true
  | [], _ => bels_nil k
  | d :: ds, h => by
    rw [bels_cons, Bool.and_eq_true] at h ⊢
    exact ⟨bel_mono0 h.1, bels_mono0 h.2⟩
theorem belk_mono0 {k : Nat} : ∀ {ds : List (Key × D)}, D.belk 0 ds = true → D.belk k ds = true
  | [], _ => belk_nil k
  | (_, d) :: ds, h => by
    rw [belk_cons, Bool.and_eq_true] at h ⊢
    exact ⟨bel_mono0 h.1, belk_mono0 h.2⟩
end
/-! ## Calls on an empty store, reckoned -/
section
variable {m : List D → M D} {ds : List D} {d : D} {s st : Sto} {n : Nat} {xs : List D} {c : Str} {fs : List (Str × D)}
theorem frz_bel {k : Nat} (h : D.bel k d = true) (j : Nat) : frz k s (j + 1) d = some d := by
  unfold frz
  rw [if_pos h]
theorem ev_iso (h : D.bels 0 ds = true) : isoD m ds st = isoR st true (gcR [] (m ds [])) := by
  unfold isoD gcD
  rw [if_pos h]
theorem ev_isoP (h : D.bel 0 d = true) : isoR st true (gcR [] (.ok d s)) = .ok d st := by
  unfold gcR
  dsimp only
  have : keepS ([] : Sto).length [] s = true := rfl
  rw [if_pos this]
  have e : frz ([] : Sto).length s 9 d = some d := frz_bel h 8
  rw [e]
  rfl
def gcC (s : Sto) : Option (List D) → R D
  | some xs => match (if D.bels 0 xs = true then some xs else mapO (frz 0 s 8) xs) with
    | some ys => .ok (.lst ys) []
    | none => .bad
  | none => gcR [] (.ok (.cell 0) [])
theorem mapO_id (h : D.bels 0 xs = true) (j : Nat) : mapO (frz 0 s (j + 1)) xs = some xs := by
  induction xs with
  | nil => rfl
  | cons x xs ih =>
    rw [bels_cons, Bool.and_eq_true] at h
    unfold mapO
    have e : frz 0 s (j + 1) x = some x := by
      unfold frz
      rw [if_pos h.1]
    rw [e]
    dsimp only
    rw [ih h.2]
    rfl
theorem ev_isoC (h : (C.seq s[n]?).isSome = true) : isoR st true (gcR [] (.ok (.cell n) s)) = isoR st true (gcC s (C.seq s[n]?)) := by
  cases e : s[n]? with
  | none => rw [e] at h; cases h
  | some q =>
    rw [e] at h
    cases q with
    | lst xs =>
      unfold gcR
      dsimp only
      have k0 : keepS ([] : Sto).length [] s = true := rfl
      rw [if_pos k0]
      have e2 : frz ([] : Sto).length s 9 (.cell n) = (mapO (frz 0 s 8) xs).map .lst := by
        show frz 0 s 9 (.cell n) = _
        rw [frz, if_neg (by rw [bel_cell]; simp), e]
      rw [e2]
      unfold gcC
      dsimp only [C.seq]
      by_cases hp : D.bels 0 xs = true
      · rw [if_pos hp, mapO_id hp]
        rfl
      · rw [if_neg hp]
        cases mapO (frz 0 s 8) xs <;> rfl
    | dic _ => cases h
    | gone => cases h
    | tab _ => cases h
theorem ev_gcC (h : D.bels 0 xs = true) : isoR st true (gcC s (some xs)) = .ok (.lst xs) st := by
  unfold gcC
  dsimp only
  rw [if_pos h]
  rfl
theorem mapK_id {α : Type} : ∀ {fs : List (α × D)}, (∀ p ∈ fs, D.bel 0 p.2 = true) → mapK (frz 0 s 9) fs = some fs
  | [], _ => rfl
  | (k, x) :: fs, h => by
    unfold mapK
    have e : frz 0 s 9 x = some x := by
      unfold frz
      rw [if_pos (h _ List.mem_cons_self)]
    rw [e]
    dsimp only
    rw [mapK_id fun p hp => h p (List.mem_cons_of_mem _ hp)]
    rfl
theorem ev_isoX (h : D.bels 0 (fs.map (·.2)) = true) : isoR st true (gcR [] (.ex ⟨c, fs⟩ s)) = .ex ⟨c, fs⟩ st := by
  have h2 : ∀ p ∈ fs, D.bel 0 p.2 = true := fun p hp => by
    induction fs with
    | nil => cases hp
    | cons q fs ih =>
      rw [List.map_cons, bels_cons, Bool.and_eq_true] at h
      rcases List.mem_cons.mp hp with e | hp
      · rw [e]; exact h.1
      · exact ih h.2 hp
  unfold gcR
  dsimp only
  have k0 : keepS ([] : Sto).length [] s = true := rfl
  rw [if_pos k0]
  have e : mapK (frz ([] : Sto).length s 9) fs = some fs := mapK_id h2
  rw [e]
  rfl
theorem iso_ok (hp : D.bels 0 ds = true) (h : m ds [] = .ok d s) (hd : D.bel 0 d = true) : isoD m ds st = .ok d st := by rw [ev_iso hp, h, ev_isoP hd]
theorem iso_cell (hp : D.bels 0 ds = true) (h : m ds [] = .ok (.cell n) s) (hc : s[n]? = some (.lst xs)) (hx : D.bels 0 xs = true) : isoD m ds st = .ok (.lst xs) st := by
  rw [ev_iso hp, h, ev_isoC (by rw [hc]; rfl), hc]
  exact ev_gcC hx
theorem iso_ex (hp : D.bels 0 ds = true) (h : m ds [] = .ex ⟨c, fs⟩ s) (hd : D.bels 0 (fs.map (·.2)) = true) : isoD m ds st = .ex ⟨c, fs⟩ st := by rw [ev_iso hp, h, ev_isoX hd]
/-- arguments that stand in cells -/
theorem iso_arg {es : List D} (h : ∀ t, isoD m es t = .ok d t) (he : D.bels 0 es = true) (hf : mapO (frz 0 st 9) ds = some es) (hh : D.hard d = true) (hb : D.bel 0 d = true) : isoD m ds st = .ok d st := by
  by_cases hp : D.bels 0 ds = true
  · have : es = ds := by
      have := mapO_id (s := st) hp 8
      rw [this] at hf
      cases hf
      rfl
    rw [← this]
    exact h st
  · have h0 := h st
    unfold isoD at h0 ⊢
    rw [if_neg hp, hf]
    rw [if_pos he] at h0
    dsimp only
    cases e : gcD m es [] with
    | bad => rw [e] at h0; cases h0
    | ok d' s' =>
      rw [e] at h0
      unfold isoR at h0 ⊢
      dsimp only at h0 ⊢
      rw [Bool.true_or, if_pos rfl] at h0
      cases h0
      rw [hh]
      rfl
    | ex x s' =>
      rw [e] at h0
      unfold isoR at h0
      dsimp only at h0
      rw [Bool.true_or, if_pos rfl] at h0
      cases h0
/-- a def that changes what it was given -/
theorem gc_ok {st1 t : Sto} (h : m ds st = .ok d (st1 ++ t)) (hl : st1.length = st.length) (hk : ∀ (i : Nat) (c : C), st1[i]? = some c → st[i]? = some c ∨ C.bel 0 c = true) (hd : D.bel 0 d = true) : gcD m ds st = .ok d st1 := by
  unfold gcD
  rw [h]
  unfold gcR
  dsimp only
  have kp : ∀ (a b : Sto) (t : Sto) (k : Nat), b.length = a.length → (∀ (i : Nat) (c : C), b[i]? = some c → a[i]? = some c ∨ C.bel 0 c = true) → keepS k a (b ++ t) = true := by
    intro a
    induction a with
    | nil => intro b t k _ _; rfl
    | cons x a ih =>
      intro b t k hl hk
      cases b with
      | nil => simp at hl
      | cons y b =>
        rw [List.cons_append, keepS, Bool.and_eq_true]
        refine ⟨?_, ih b t k (by simpa using hl) fun i c hc => hk (i + 1) c hc⟩
        rw [Bool.or_eq_true]
        rcases hk 0 y rfl with z | z
        · left
          have : x = y := by simpa using z
          rw [this]
          exact C.beq_refl y
        · right
          have mono : ∀ (c : C), C.bel 0 c = true → C.bel k c = true := fun c hc => by
            cases c with
            | gone => rfl
            | tab _ => rfl
            | lst xs => exact bels_mono0 hc
            | dic xs => exact belk_mono0 hc
          exact mono y z
  rw [if_pos (kp st st1 t _ hl hk)]
  have e : frz st.length (st1 ++ t) 9 d = some d := by
    unfold frz
    rw [if_pos (bel_mono0 hd)]
  rw [e, ← hl, List.take_left]
end
end L3
namespace L3
open PySem PySem.Spec PyProof.Rows L2

/-! ## How the later words are reckoned -/
section
variable (env : DEnv) (st : Sto)
theorem ev_ltAII (i j : Int) : ltA st (.int i) (.int j) = some (.bl (decide (i < j))) := rfl
theorem ev_ltATT (a b : List Int) : ltA st (.tup (a.map .int)) (.tup (b.map .int)) = some (.bl (rlt a b)) := by
  show orO none (ltT _ _) = _
  unfold ltT
  dsimp only [orO]
  rw [intsD_map, intsD_map]
  rfl
theorem ev_ltARR (a b : List Int) : ltA st (rowD a) (rowD b) = some (.bl (rlt a b)) := ev_ltATT st a b
theorem ev_kM1s (g : Sto → D → List D → Option (D × Sto)) (mas : AM) (x : Str) : kM1 "str" g mas env (.str x) st = R.go (mas env st) (kM2 g (.str x)) := by
  have e : tyD "str" st (.str x) = true := rfl
  unfold kM1
  rw [if_pos e]
theorem ev_kM1l (g : Sto → D → List D → Option (D × Sto)) (mas : AM) (xs : List D) : kM1 "list" g mas env (.lst xs) st = R.go (mas env st) (kM2 g (.lst xs)) := by
  have e : tyD "list" st (.lst xs) = true := by rfl
  unfold kM1
  rw [if_pos e]
theorem ev_joinL (a : Str) (ys : List Str) : kM2 joinD (.str a) [.lst (ys.map .str)] st = if joinOk a ys = true then .ok (.str (Txt.join a ys)) st else .bad := by
  unfold kM2 joinD
  dsimp only
  have e : (seqOf st (.lst (ys.map .str))).bind strsD = some ys := by
    show (some (ys.map D.str)).bind strsD = _
    rw [Option.bind_some, strsD_map]
  rw [e]
  dsimp only
  by_cases h : joinOk a ys = true
  · rw [if_pos h, if_pos h]
  · rw [if_neg h, if_neg h]
theorem ev_joinT (a : Str) (ys : List Str) : kM2 joinD (.str a) [.tup (ys.map .str)] st = if joinOk a ys = true then .ok (.str (Txt.join a ys)) st else .bad := by
  unfold kM2 joinD
  dsimp only
  have e : (seqOf st (.tup (ys.map .str))).bind strsD = some ys := by
    show (some (ys.map D.str)).bind strsD = _
    rw [Option.bind_some, strsD_map]
  rw [e]
  dsimp only
  by_cases h : joinOk a ys = true
  · rw [if_pos h, if_pos h]
  · rw [if_neg h, if_neg h]
theorem ev_split (a b : Str) : kM2 splitD (.str a) [.str b] st = if splitOk a b = true then .ok (.lst ((Txt.split a b).map .str)) st else .bad := by
  unfold kM2 splitD
  dsimp only
  by_cases h : splitOk a b = true
  · rw [if_pos h, if_pos h]
  · rw [if_neg h, if_neg h]
theorem ev_sindex (a b : Str) : kM2 sindexD (.str a) [.str b] st = match Builtin.Str.occurrences a b 0 a.length 1 with
    | i :: _ => .ok (.int (i : Nat)) st
    | [] => .bad := by
  unfold kM2 sindexD
  dsimp only
  cases Builtin.Str.occurrences a b 0 a.length 1 <;> rfl
def kSt2 (xs : List D) : List D → M (List D) := fun ys s => .ok (xs ++ ys) s
def kSt1 (b : AM) (env : DEnv) : Option (List D) → Sto → R (List D) := fun o s => match o with
  | some xs => R.go (b env s) (kSt2 xs)
  | none => .bad
def kSt0 (b : AM) (env : DEnv) : D → M (List D) := fun x s => kSt1 b env (seqOf s x) s
theorem ev_aStar (a : EM) (b : AM) : aStar a b env st = R.go (a env st) (kSt0 b env) := by
  unfold aStar
  rw [ev_bind]
  refine go_ext fun x s => ?_
  rw [ev_bind, ev_rd]
  unfold kSt0 kSt1
  cases seqOf s x with
  | none => rfl
  | some xs =>
    show M.bind (b env) _ s = _
    rw [ev_bind]
    rfl
theorem ev_kSt0T (b : AM) (xs : List D) : kSt0 b env (.tup xs) st = R.go (b env st) (kSt2 xs) := rfl
theorem ev_kSt0L (b : AM) (xs : List D) : kSt0 b env (.lst xs) st = R.go (b env st) (kSt2 xs) := rfl
theorem ev_kSt2 (xs ys : List D) : kSt2 xs ys st = .ok (xs ++ ys) st := rfl
def kLR1 : D → M D := fun x s => R.ofO (match x with
  | .int j => if rgOk 0 j = true then some (.lst (rngD 0 j)) else none
  | _ => none) s
def kTR1 : D → M D := fun x s => R.ofO (match x with
  | .int j => if rgOk 0 j = true then some (.tup (rngD 0 j)) else none
  | _ => none) s
theorem ev_eLstRg1 (m : EM) : eLstRg1 m env st = R.go (m env st) kLR1 := by
  unfold eLstRg1
  rw [ev_bind]
  exact go_ext fun x s => ev_opt _ _
theorem ev_eTupRg1 (m : EM) : eTupRg1 m env st = R.go (m env st) kTR1 := by
  unfold eTupRg1
  rw [ev_bind]
  exact go_ext fun x s => ev_opt _ _
theorem ev_kLR1 (j : Int) : kLR1 (.int j) st = if rgOk 0 j = true then .ok (.lst (rngD 0 j)) st else .bad := by
  unfold kLR1
  dsimp only
  by_cases h : rgOk 0 j = true
  · rw [if_pos h, if_pos h]; rfl
  · rw [if_neg h, if_neg h]; rfl
theorem ev_kTR1 (j : Int) : kTR1 (.int j) st = if rgOk 0 j = true then .ok (.tup (rngD 0 j)) st else .bad := by
  unfold kTR1
  dsimp only
  by_cases h : rgOk 0 j = true
  · rw [if_pos h, if_pos h]; rfl
  · rw [if_neg h, if_neg h]; rfl
def kLC0 : D → M D := fun x s => match seqOf s x with
  | some xs => .ok (.cell s.length) (s ++ [.lst xs])
  | none => .bad
theorem ev_eListC (m : EM) : eListC m env st = R.go (m env st) kLC0 := by
  unfold eListC
  rw [ev_bind]
  refine go_ext fun x s => ?_
  rw [ev_bind, ev_rd]
  unfold kLC0
  cases seqOf s x <;> rfl
theorem ev_kLC0T (xs : List D) : kLC0 (.tup xs) st = .ok (.cell st.length) (st ++ [.lst xs]) := rfl
theorem ev_kLC0L (xs : List D) : kLC0 (.lst xs) st = .ok (.cell st.length) (st ++ [.lst xs]) := rfl
def kLRC : D → M D := fun x s => match x with
  | .int j => if rgOk 0 j = true then .ok (.cell s.length) (s ++ [.lst (rngD 0 j)]) else .bad
  | _ => .bad
theorem ev_eLstRgC1 (m : EM) : eLstRgC1 m env st = R.go (m env st) kLRC := by
  unfold eLstRgC1
  rw [ev_bind]
  refine go_ext fun x s => ?_
  unfold kLRC
  cases x with
  | int j =>
    dsimp only
    by_cases h : rgOk 0 j = true
    · rw [if_pos h, if_pos h]; rfl
    · rw [if_neg h, if_neg h]; rfl
  | _ => rfl
theorem ev_kLRC (j : Int) : kLRC (.int j) st = if rgOk 0 j = true then .ok (.cell st.length) (st ++ [.lst (rngD 0 j)]) else .bad := rfl
def kL12 (g : D → DEnv → Option DEnv) (t : BM) (i1 : IM) (vs1 : List Nat) (g1 : D → DEnv → Option DEnv) (t1 : BM) (el : EM) (env : DEnv) : List D × Src → M D := fun d s => R.go (lcD2 d.2 g t i1 vs1 g1 t1 el env d.1 [] s) kL2
theorem ev_lc2 (i : IM) (vs : List Nat) (g : D → DEnv → Option DEnv) (t : BM) (i1 : IM) (vs1 : List Nat) (g1 : D → DEnv → Option DEnv) (t1 : BM) (el : EM) : eLc2 i vs g t i1 vs1 g1 t1 el env st = R.go (i env st) (kL12 g t i1 vs1 g1 t1 el (forget env vs)) := by
  unfold eLc2
  rw [ev_bind]
  refine go_ext fun d s => ?_
  rw [ev_bind]
  rfl
theorem ev_kL12 (g : D → DEnv → Option DEnv) (t : BM) (i1 : IM) (vs1 : List Nat) (g1 : D → DEnv → Option DEnv) (t1 : BM) (el : EM) (ds : List D) (c : Src) : kL12 g t i1 vs1 g1 t1 el env (ds, c) st = R.go (lcD2 c g t i1 vs1 g1 t1 el env ds [] st) kL2 := rfl
theorem ev_sortI (xs : List Int) (h : fits xs.length = true) : sortedD st [.lst (xs.map .int)] = some (.lst ((srtS ilt xs).map .int)) := by
  have e : sortBy sortInt st [.lst (xs.map .int)] = some (.lst ((srtS ilt xs).map .int)) := by
    show ((some (xs.map D.int)).bind intsD).bind _ = _
    rw [Option.bind_some, intsD_map, Option.bind_some, if_pos (by rw [h]; rfl)]
    rfl
  unfold sortedD
  rw [e]
  rfl
theorem ev_sortR (xs : List (List Int)) (h : fits xs.length = true) (hn : ∀ x ∈ xs, x ≠ []) (h0 : xs ≠ []) : sortedD st [.lst (xs.map rowD)] = some (.lst ((srtS rlt xs).map rowD)) := by
  have e0 : sortBy sortInt st [.lst (xs.map rowD)] = none := by
    show ((some (xs.map rowD)).bind intsD).bind _ = _
    cases xs with
    | nil => exact absurd rfl h0
    | cons x xs => rfl
  have e : sortBy sortRow st [.lst (xs.map rowD)] = some (.lst ((srtS rlt xs).map rowD)) := by
    show ((some (xs.map rowD)).bind rowsD).bind _ = _
    rw [Option.bind_some, rowsD_map, Option.bind_some, if_pos]
    · rfl
    · rw [h, Bool.and_true]
      show (xs.all fun b => !b.isEmpty) = true
      rw [List.all_eq_true]
      intro x hx
      have := hn x hx
      cases x with
      | nil => exact absurd rfl this
      | cons _ _ => rfl
  unfold sortedD
  rw [e0, e]
  rfl
theorem ev_ssetR (xs : List (List Int)) (h : xs.length < 64) (hn : ∀ x ∈ xs, x ≠ []) : sortSetD st (.lst (xs.map rowD)) = some (.lst ((setU rlt xs).map rowD)) := by
  have e : sortSet1 st (.lst (xs.map rowD)) = some (.lst ((setU rlt xs).map rowD)) := by
    show ((some (xs.map rowD)).bind rowsD).bind _ = _
    rw [Option.bind_some, rowsD_map, Option.bind_some, if_pos]
    rw [Bool.and_eq_true, decide_eq_true_eq]
    refine ⟨h, ?_⟩
    rw [List.all_eq_true]
    intro x hx
    have := hn x hx
    cases x with
    | nil => exact absurd rfl this
    | cons _ _ => rfl
  unfold sortSetD
  rw [e]
  rfl
theorem ev_ssetI (xs : List Int) (h : xs.length < 64) : sortSetD st (.tup (xs.map .int)) = some (.lst ((setU ilt xs).map .int)) := by
  have e0 : sortSet1 st (.tup (xs.map .int)) = none := rfl
  have e : sortSetI st (.tup (xs.map .int)) = some (.lst ((setU ilt xs).map .int)) := by
    show ((some (xs.map D.int)).bind intsD).bind _ = _
    rw [Option.bind_some, intsD_map, Option.bind_some, if_pos (decide_eq_true h)]
  unfold sortSetD
  rw [e0, e]
  rfl
theorem ev_lsetI (xs : List Int) (h : xs.length < 64) : lenSetI st (.tup (xs.map .int)) = some (.int (setU ilt xs).length) := by
  show ((some (xs.map D.int)).bind intsD).bind _ = _
  rw [Option.bind_some, intsD_map, Option.bind_some, if_pos (decide_eq_true h)]
theorem ev_all (bs : List Bool) : allD st [.lst (bs.map .bl)] = some (.bl (bs.all id)) := ev_allB st bs
end
/-! ### walks -/
theorem lcD_go {c : Src} {g : D → DEnv → Option DEnv} {t : BM} {el : EM} {env e1 : DEnv} {x : D} {xs acc : List D} {st st1 st2 : Sto} {y : D} (hc : c.ok st = true) (hg : g x env = some e1) (ht : t e1 st = .ok true st1) (he : el e1 st1 = .ok y st2) (hl : acc.length < 16777216) :
    lcD c g t el env (x :: xs) acc st = lcD c g t el env xs (acc ++ [y]) st2 := by
  rw [lcD]
  dsimp only
  rw [if_pos hc, hg]
  dsimp only
  rw [M.bind_app, M.nox_ok ht]
  dsimp only
  rw [if_pos rfl, M.bind_app, M.nox_ok he]
  dsimp only
  rw [if_pos (decide_eq_true hl)]
theorem lcD_skip {c : Src} {g : D → DEnv → Option DEnv} {t : BM} {el : EM} {env e1 : DEnv} {x : D} {xs acc : List D} {st st1 : Sto} (hc : c.ok st = true) (hg : g x env = some e1) (ht : t e1 st = .ok false st1) :
    lcD c g t el env (x :: xs) acc st = lcD c g t el env xs acc st1 := by
  rw [lcD]
  dsimp only
  rw [if_pos hc, hg]
  dsimp only
  rw [M.bind_app, M.nox_ok ht]
  dsimp only
  rw [if_neg Bool.false_ne_true]
theorem lcD_filtA {g : D → DEnv → Option DEnv} {t : BM} {el : EM} {env : DEnv} {f : D → D} {p : D → Bool} {st : Sto} : ∀ {items acc : List D}, acc.length + items.length ≤ 16777216 →
    (∀ d ∈ items, ∃ e1, g d env = some e1 ∧ t e1 st = .ok (p d) st ∧ (p d = true → el e1 st = .ok (f d) st)) → lcD none g t el env items acc st = .ok (acc ++ (items.filter p).map f) st
  | [], acc, _, _ => by rw [lcD_nil _ _ _ _ _ _ _ rfl]; simp
  | d :: ds, acc, hz, h => by
    obtain ⟨e1, hg, ht, he⟩ := h d List.mem_cons_self
    rw [List.length_cons] at hz
    cases hp : p d with
    | true =>
      rw [hp] at ht
      rw [lcD_go rfl hg ht (he hp) (by omega), lcD_filtA (by rw [List.length_append, List.length_singleton]; omega) fun x hx => h x (List.mem_cons_of_mem _ hx), List.filter_cons, if_pos hp, List.map_cons, List.append_assoc]
      rfl
    | false =>
      rw [hp] at ht
      rw [lcD_skip rfl hg ht, lcD_filtA (by omega) fun x hx => h x (List.mem_cons_of_mem _ hx), List.filter_cons, if_neg (by rw [hp]; exact Bool.false_ne_true)]
/-- [el for x in items for y in i1]: all turns told -/
theorem lcD2_map {g g1 : D → DEnv → Option DEnv} {i1 : IM} {vs1 : List Nat} {el : EM} {env : DEnv} {its : D → List D} {f : D → D → D} {st : Sto} : ∀ {items acc : List D}, acc.length + (items.flatMap its).length ≤ 16777216 →
    (∀ d ∈ items, ∃ e1, g d env = some e1 ∧ i1 e1 st = .ok (its d, none) st ∧ ∀ x ∈ its d, ∃ e2, g1 x (forget e1 vs1) = some e2 ∧ el e2 st = .ok (f d x) st) →
      lcD2 none g bYes i1 vs1 g1 bYes el env items acc st = .ok (acc ++ items.flatMap fun d => (its d).map (f d)) st
  | [], acc, _, _ => by
    rw [lcD2]
    dsimp only
    rw [if_pos (show Src.ok none st = true from rfl)]
    simp
  | d :: ds, acc, hz, h => by
    obtain ⟨e1, hg, hi, he⟩ := h d List.mem_cons_self
    rw [List.flatMap_cons, List.length_append] at hz
    rw [lcD2]
    dsimp only
    rw [if_pos (show Src.ok none st = true from rfl), hg]
    dsimp only
    rw [M.bind_app]
    have ht : M.nox (bYes e1) st = .ok true st := rfl
    rw [ht]
    dsimp only
    rw [if_pos rfl, M.bind_app, M.nox_ok hi]
    dsimp only
    rw [M.bind_app]
    have hin : lcD none g1 bYes el (forget e1 vs1) (its d) acc st = .ok (acc ++ ((its d).filter fun _ => true).map (f d)) st := lcD_filtA (by omega) fun x hx => by
      obtain ⟨e2, h1, h2⟩ := he x hx
      exact ⟨e2, h1, rfl, fun _ => h2⟩
    rw [hin, List.filter_eq_self.mpr (fun _ _ => rfl)]
    dsimp only
    rw [lcD2_map (by rw [List.length_append, List.length_map]; omega) fun x hx => h x (List.mem_cons_of_mem _ hx), List.flatMap_cons, List.append_assoc]
theorem forD_go {c : Src} {g : D → DEnv → Option DEnv} {b : SM} {x : D} {xs : List D} {e e1 e2 : DEnv} {s s2 : Sto} (hc : c.ok s = true) (hg : g x e = some e1) (hb : b e1 s = .nx e2 s2 ∨ b e1 s = .ct e2 s2) : forD c g b (x :: xs) e s = forD c g b xs e2 s2 := by
  rw [forD]
  dsimp only
  rw [if_pos hc, hg]
  dsimp only
  rcases hb with hb | hb <;> rw [hb]
theorem whileD_go {k : BM} {b : SM} {n : Nat} {e e2 : DEnv} {s s1 s2 : Sto} (hk : k e s = .ok true s1) (hb : b e s1 = .nx e2 s2 ∨ b e s1 = .ct e2 s2) : whileD k b (n + 1) e s = whileD k b n e2 s2 := by
  show sB k _ e s = _
  unfold sB
  rw [hk]
  dsimp only
  rw [if_pos rfl]
  rcases hb with hb | hb <;> rw [hb]
theorem whileD_end {k : BM} {b : SM} {n : Nat} {e : DEnv} {s s1 : Sto} (hk : k e s = .ok false s1) : whileD k b (n + 1) e s = .nx e s1 := by
  show sB k _ e s = _
  unfold sB
  rw [hk]
  rfl
/-! ### results compared by the machine -/
def D.same (a b : D) : Bool := D.beq a b
def R.same : R D → R D → Bool
  | .ok a s, .ok b t => D.beq a b && (s.length == t.length && (s.zip t).all fun p => C.beq p.1 p.2)
  | .ex x s, .ex y t => decide (x.cls = y.cls) && (decide (x.fs.map (·.1) = y.fs.map (·.1)) && (D.beqs (x.fs.map (·.2)) (y.fs.map (·.2)) && (s.length == t.length && (s.zip t).all fun p => C.beq p.1 p.2)))
  | _, _ => false
theorem zip_same : ∀ {s t : Sto}, s.length = t.length → ((s.zip t).all fun p => C.beq p.1 p.2) = true → s = t
  | [], [], _, _ => rfl
  | [], _ :: _, h, _ => by simp at h
  | _ :: _, [], h, _ => by simp at h
  | a :: s, b :: t, h, q => by
    rw [List.zip_cons_cons, List.all_cons, Bool.and_eq_true] at q
    rw [C.beq_eq (show C.beq a b = true from q.1), zip_same (by simpa using h) q.2]
theorem R.same_eq {a b : R D} (h : R.same a b = true) : a = b := by
  cases a with
  | ok d s =>
    cases b with
    | ok e t =>
      unfold R.same at h
      rw [Bool.and_eq_true, Bool.and_eq_true, beq_iff_eq] at h
      rw [D.beq_eq h.1, zip_same h.2.1 h.2.2]
    | ex => cases h
    | bad => cases h
  | ex x s =>
    cases b with
    | ok => cases h
    | ex y t =>
      unfold R.same at h
      rw [Bool.and_eq_true, Bool.and_eq_true, Bool.and_eq_true, Bool.and_eq_true, beq_iff_eq, decide_eq_true_eq, decide_eq_true_eq] at h
      obtain ⟨h1, h2, h3, h4, h5⟩ := h
      have e := D.beqs_eq h3
      have ef : x.fs = y.fs := by
        have key : ∀ {f g : List (Str × D)}, f.map (·.1) = g.map (·.1) → f.map (·.2) = g.map (·.2) → f = g := by
          intro f
          induction f with
          | nil => intro g a b; cases g with
            | nil => rfl
            | cons _ _ => simp at a
          | cons p f ih => intro g a b; cases g with
            | nil => simp at a
            | cons q g =>
              simp at a b
              rw [ih a.2 b.2, Prod.ext a.1 b.1]
        exact key h2 e
      cases x
      cases y
      simp at h1 ef
      rw [h1, ef, zip_same h4 h5]
    | bad => cases h
  | bad => cases b <;> cases h
end L3
namespace L3
open PySem PySem.Spec PyProof.Rows L2

/-! ## What is walked, whatever it is: tuple, list, text -/
def chr1 (c : Nat) : D := .str ⟨#[c]⟩
def signsD (x : Str) : List D := x.cps.toList.map chr1
def iSeqF (f : Sto → D → Option (List D × Src)) (m : EM) : IM := fun env => M.bind (m env) fun d => M.rd fun st => f st d
def fT (_ : Sto) (d : D) : Option (List D × Src) := (tupOf d).map fun xs => (xs, none)
def fL (st : Sto) (d : D) : Option (List D × Src) := (lstOf st d).map fun xs => (xs, srcOf d xs)
def fS (_ : Sto) (d : D) : Option (List D × Src) := match d with
  | .str x => some (signsD x, none)
  | _ => none
section
variable {X : Cx} {T : CT} {W : WX} {tg e : Expr} {m : EM}
theorem di_strF (ha : DE X T W e m) : DI X T W tg e (iSeqF fS m) :=
  DI.of (pi_str ha) fun σ H Q G ι st env w r p => ⟨G, ι, st, env, w, r, PostI.bindE p fun d st1 v G1 ι1 H1 x1 w1 r1 p1 => by
    cases r1 with
    | str x =>
      have p2 : PostI X.K T G1 ι1 H1 (.ok (signsD x, none) st1) (fun c d H' => W c d σ H') Q := p1
      refine ⟨x, rfl, p2 _ G1 ι1 H1 .refl w1 fun G2 ι2 st2 H2 sm pre w2 _ => ⟨fun i hi => ?_, fun i d hd => ?_⟩⟩
      · unfold signsD at hi
        simp at hi
        exact hi
      · unfold signsD at hd
        rw [List.getElem?_map] at hd
        cases hc : x.cps.toList[i]? with
        | none => rw [hc] at hd; cases hd
        | some c =>
          rw [hc] at hd
          cases hd
          have hc2 : x.cps[i]? = some c := by rw [← hc, Array.getElem?_toList]
          refine ⟨(Array.getElem?_eq_some_iff.mp hc2).1, fun v H' y => ?_⟩
          obtain ⟨rfl, c', h1, rfl⟩ := y
          rw [hc2] at h1
          cases h1
          exact ⟨G2, .refl, w2, .str _⟩
    | _ => exact p1.elim⟩
theorem di_tupF (ha : DE X T W e m) : DI X T W tg e (iSeqF fT m) := by
  have h := di_tup (tg := tg) ha
  have : iSeqF fT m = iSeqT m := by
    funext env
    unfold iSeqF iSeqT fT
    congr 1
    funext d
    exact M.rd_const _
  rw [this]
  exact h
theorem di_lstF (ha : DE X T W e m) : DI X T W tg e (iSeqF fL m) := di_lst ha
theorem di_orF {f g : Sto → D → Option (List D × Src)} (h1 : DI X T W tg e (iSeqF f m)) (h2 : DI X T W tg e (iSeqF g m)) : DI X T W tg e (iSeqF (fun st x => orO (f st x) (g st x)) m) :=
  ⟨fun pins s σ H Q I ⟨G, ι, st, env, w, r, p⟩ => by
    unfold iSeqF at p
    rw [M.bind_app] at p
    have key : ∀ k : Sto → D → Option (List D × Src), (∀ d s', m env st = .ok d s' → orO (f s' d) (g s' d) = k s' d) → PostI X.K T G ι H (iSeqF k m env st) (fun c d H' => W c d σ H') Q := fun k hk => by
      unfold iSeqF
      rw [M.bind_app]
      cases e1 : m env st with
      | bad => rw [e1] at p; exact p
      | ex x s2 => rw [e1] at p; exact p
      | ok d s2 =>
        rw [e1] at p
        dsimp only at p ⊢
        rw [M.rd, ← hk d s2 e1]
        exact p
    by_cases hf : ∃ d s' z, m env st = .ok d s' ∧ f s' d = some z
    · obtain ⟨d, s', z, e1, e2⟩ := hf
      exact h1.run pins s σ H Q I ⟨G, ι, st, env, w, r, key f fun d2 s2 e3 => by
        rw [e1] at e3
        cases e3
        rw [e2]
        rfl⟩
    · exact h2.run pins s σ H Q I ⟨G, ι, st, env, w, r, key g fun d2 s2 e3 => by
        cases e4 : f s2 d2 with
        | none => rfl
        | some z => exact absurd ⟨d2, s2, z, e3, e4⟩ hf⟩⟩
def fA (st : Sto) (d : D) : Option (List D × Src) := orO (fT st d) (orO (fL st d) (fS st d))
def iSeqA (m : EM) : IM := iSeqF fA m
theorem di_any (ha : DE X T W e m) : DI X T W tg e (iSeqA m) := di_orF (di_tupF ha) (di_orF (di_lstF ha) (di_strF ha))
end
section
variable (env : DEnv) (st : Sto)
def kSA : D → M (List D × Src) := fun d s => R.ofO (fA s d) s
theorem ev_seqA (m : EM) : iSeqA m env st = R.go (m env st) kSA := by
  unfold iSeqA iSeqF
  rw [ev_bind]
  exact go_ext fun x s => ev_rd _ _
theorem ev_kSAT (xs : List D) : kSA (.tup xs) st = .ok (xs, none) st := rfl
theorem ev_kSAL (xs : List D) : kSA (.lst xs) st = .ok (xs, none) st := rfl
theorem ev_kSAR (xs : List D) : kSA (.scr xs) st = .ok (xs, none) st := rfl
theorem ev_kSAS (x : Str) : kSA (.str x) st = .ok (signsD x, none) st := rfl
def mapSrc (n : Nat) : Option (List D) → Option (List D × Src)
  | some xs => some (xs, some (n, xs))
  | none => none
theorem ev_mapSrc (n : Nat) (xs : List D) : mapSrc n (some xs) = some (xs, some (n, xs)) := rfl
theorem ev_kSAC (n : Nat) : kSA (.cell n) st = R.ofO (mapSrc n (C.seq st[n]?)) st := by
  unfold kSA fA fT fL fS
  dsimp only [tupOf]
  rw [lstOf_seq]
  cases C.seq st[n]? <;> rfl
end
theorem ev_signsLit (cs : List Nat) : signsD ⟨cs.toArray⟩ = cs.map chr1 := by unfold signsD; simp
end L3
namespace L3
open PySem PySem.Spec PyProof.Rows L2

/-! ## int(text) -/
def intS (_ : Sto) (xs : List D) : Option D := match xs with
  | [.str a] => (PySem.intText? a).bind fun n => if decide (a.length ≤ 640) = true then some (.int n) else none
  | _ => none
theorem cd_intS {X : Cx} : CallD X (.type "int") intS := CallD.of call_int_str fun G ι st H xs ds Q w hx p => by
  unfold intS at p
  split at p
  · rename_i a
    cases hx with
    | cons r rs =>
      cases rs
      cases r
      cases e : PySem.intText? a with
      | none => rw [e] at p; exact p.elim
      | some n =>
        rw [e, Option.bind_some] at p
        by_cases h : decide (a.length ≤ 640) = true
        · rw [if_pos h] at p
          exact ⟨a, n, rfl, e, of_decide_eq_true h, p.val w (.int _)⟩
        · rw [if_neg h] at p; exact p.elim
  · exact p.elim
def intA (st : Sto) (xs : List D) : Option D := orO (intD st xs) (intS st xs)
theorem cd_intA {X : Cx} : CallD X (.type "int") intA := cd_int.or cd_intS
theorem ev_intAI (st : Sto) (i : Int) : intA st [.int i] = some (.int i) := rfl
theorem ev_intAB (st : Sto) (b : Bool) : intA st [.bl b] = some (.int (if b = true then 1 else 0)) := rfl
theorem intA_str (st : Sto) {a : Str} {n : Int} (h : PySem.intText? a = some n) (hl : a.length ≤ 640) : intA st [.str a] = some (.int n) := by
  show orO none ((PySem.intText? a).bind _) = _
  rw [h, Option.bind_some, if_pos (decide_eq_true hl)]
  rfl
/-! ## Texts of digits -/
/-- the text of one digit -/
def dig (p : Int) : Str := ⟨#[48 + p.toNat]⟩
theorem dig_of {p : Int} (h0 : 0 ≤ p) (h1 : p < 10) : (toString p : Str) = dig p := by
  obtain ⟨n, rfl⟩ := Int.eq_ofNat_of_zero_le h0
  have : n < 10 := by omega
  have key : ∀ n : Fin 10, (toString ((n.val : Nat) : Int) : Str) = dig ((n.val : Nat) : Int) := by decide +kernel
  exact key ⟨n, this⟩
theorem dig_int {p : Int} (h0 : 0 ≤ p) (h1 : p < 10) : PySem.intText? (dig p) = some p := by
  obtain ⟨n, rfl⟩ := Int.eq_ofNat_of_zero_le h0
  have : n < 10 := by omega
  have key : ∀ n : Fin 10, PySem.intText? (dig ((n.val : Nat) : Int)) = some ((n.val : Nat) : Int) := by decide +kernel
  exact key ⟨n, this⟩
/-- the text of digits, one behind the other -/
def digT (ps : List Int) : Str := ⟨(ps.map fun p => 48 + p.toNat).toArray⟩
theorem digT_join (ps : List Int) : Txt.join "" (ps.map dig) = digT ps := by
  rw [TL.join_eq]
  refine TL.ext_tl ?_
  rw [TL.tl_join]
  have e : ∀ qs : List Int, TL.joinL (TL.tl "") ((qs.map dig).map TL.tl) = qs.map fun p => 48 + p.toNat := by
    intro qs
    induction qs with
    | nil => rfl
    | cons q qs ih =>
      cases qs with
      | nil => rfl
      | cons r qs =>
        rw [List.map_cons, List.map_cons, List.map_cons, List.map_cons]
        rw [List.map_cons, List.map_cons] at ih
        show TL.tl (dig q) ++ (TL.tl "" ++ TL.joinL (TL.tl "") (TL.tl (dig r) :: (qs.map dig).map TL.tl)) = _
        rw [ih]
        rfl
  rw [e]
  simp [digT]
theorem digT_len (ps : List Int) : (digT ps).length = ps.length := by simp [digT, Str.length]
theorem digT_signs (ps : List Int) : signsD (digT ps) = ps.map fun p => .str (dig p) := by
  unfold signsD digT
  simp [Function.comp_def, chr1, dig]
theorem digs_joinOk (ps : List Int) (h : ps.length ≤ 16777216) : joinOk "" (ps.map dig) = true := by
  unfold joinOk
  rw [decide_eq_true_eq, List.map_map]
  have e : (Str.length ∘ dig) = fun _ => 1 := by funext p; rfl
  rw [e]
  have e2 : ("" : Str).length = 0 := rfl
  rw [e2]
  have : ∀ qs : List Int, (qs.map fun _ => 1).sum = qs.length := by
    intro qs
    induction qs with
    | nil => rfl
    | cons q qs ih => rw [List.map_cons, List.sum_cons, ih, List.length_cons]; omega
  rw [this]
  omega
end L3
namespace L3
open PySem PySem.Spec PyProof.Rows L2
/-! ## is True, is False -/
def isB (neg : Bool) (x y : D) : Option D := match x, y with
  | .bl a, .bl b => some (.bl (neg != decide (a = b)))
  | .non, .bl _ => some (.bl neg)
  | .int _, .bl _ => some (.bl neg)
  | .str _, .bl _ => some (.bl neg)
  | .tup _, .bl _ => some (.bl neg)
  | .lst _, .bl _ => some (.bl neg)
  | _, _ => none
theorem od_isB {X : Cx} : OpD X (compareOp .Is) (fun _ => isB false) := fun pins s σ H x y v u Q I rx ry ⟨G, ι, st, dx, dy, w, hx, hy, p⟩ => by
  cases hy with
  | bl b =>
    cases (show u = Value.bool b from ry)
    cases hx with
    | bl a =>
      cases (show v = Value.bool a from rx)
      by_cases e : a = b
      · subst e
        exact wpAny_is_self rfl ⟨.bl true, H, I, rfl, PostO.val (d := .bl true) (by simpa [isB] using p) w (.bl _)⟩
      · exact wpAny_is_other rfl (fun z => e (Value.bool.inj z)) ⟨.bl false, H, I, rfl, PostO.val (d := .bl false) (by simpa [isB, e] using p) w (.bl _)⟩
    | non =>
      cases (show v = Value.none from rx)
      exact wpAny_is_other rfl (fun z => by cases z) ⟨.bl false, H, I, rfl, PostO.val (d := .bl false) p w (.bl _)⟩
    | int i =>
      obtain ⟨t, rfl⟩ := rx
      exact wpAny_is_other rfl (fun z => by cases z) ⟨.bl false, H, I, rfl, PostO.val (d := .bl false) p w (.bl _)⟩
    | str i =>
      obtain ⟨t, rfl⟩ := rx
      exact wpAny_is_other rfl (fun z => by cases z) ⟨.bl false, H, I, rfl, PostO.val (d := .bl false) p w (.bl _)⟩
    | tup q hs =>
      cases rx
      exact wpAny_is_other rfl (fun z => by cases z) ⟨.bl false, H, I, rfl, PostO.val (d := .bl false) p w (.bl _)⟩
    | lst q hs =>
      cases rx
      exact wpAny_is_other rfl (fun z => by cases z) ⟨.bl false, H, I, rfl, PostO.val (d := .bl false) p w (.bl _)⟩
    | _ => exact p.elim
  | _ => cases hx <;> exact p.elim
theorem od_notB {X : Cx} : OpD X (compareOp .IsNot) (fun _ => isB true) := fun pins s σ H x y v u Q I rx ry ⟨G, ι, st, dx, dy, w, hx, hy, p⟩ => by
  cases hy with
  | bl b =>
    cases (show u = Value.bool b from ry)
    cases hx with
    | bl a =>
      cases (show v = Value.bool a from rx)
      by_cases e : a = b
      · subst e
        exact wpAny_isNot_self rfl ⟨.bl false, H, I, rfl, PostO.val (d := .bl false) (by simpa [isB] using p) w (.bl _)⟩
      · exact wpAny_isNot_other rfl (fun z => e (Value.bool.inj z)) ⟨.bl true, H, I, rfl, PostO.val (d := .bl true) (by simpa [isB, e] using p) w (.bl _)⟩
    | non =>
      cases (show v = Value.none from rx)
      exact wpAny_isNot_other rfl (fun z => by cases z) ⟨.bl true, H, I, rfl, PostO.val (d := .bl true) p w (.bl _)⟩
    | int i =>
      obtain ⟨t, rfl⟩ := rx
      exact wpAny_isNot_other rfl (fun z => by cases z) ⟨.bl true, H, I, rfl, PostO.val (d := .bl true) p w (.bl _)⟩
    | str i =>
      obtain ⟨t, rfl⟩ := rx
      exact wpAny_isNot_other rfl (fun z => by cases z) ⟨.bl true, H, I, rfl, PostO.val (d := .bl true) p w (.bl _)⟩
    | tup q hs =>
      cases rx
      exact wpAny_isNot_other rfl (fun z => by cases z) ⟨.bl true, H, I, rfl, PostO.val (d := .bl true) p w (.bl _)⟩
    | lst q hs =>
      cases rx
      exact wpAny_isNot_other rfl (fun z => by cases z) ⟨.bl true, H, I, rfl, PostO.val (d := .bl true) p w (.bl _)⟩
    | _ => exact p.elim
  | _ => cases hx <;> exact p.elim
def isA (st : Sto) (x y : D) : Option D := orO (isND st x y) (isB false x y)
def notA (st : Sto) (x y : D) : Option D := orO (notND st x y) (isB true x y)
theorem od_isA {X : Cx} : OpD X (compareOp .Is) isA := od_isN.or od_isB
theorem od_notA {X : Cx} : OpD X (compareOp .IsNot) notA := od_notN.or od_notB
section
variable (st : Sto) (a b : Bool) (i : Int) (x : Str) (xs : List D)
theorem ev_isA_bb : isA st (.bl a) (.bl b) = some (.bl (decide (a = b))) := by cases a <;> cases b <;> rfl
theorem ev_notA_bb : notA st (.bl a) (.bl b) = some (.bl (!decide (a = b))) := by cases a <;> cases b <;> rfl
theorem ev_isA_non : isA st .non .non = some (.bl true) := rfl
theorem ev_notA_non : notA st .non .non = some (.bl false) := rfl
theorem ev_isA_bn : isA st (.bl a) .non = some (.bl false) := rfl
theorem ev_isA_in : isA st (.int i) .non = some (.bl false) := rfl
theorem ev_isA_sn : isA st (.str x) .non = some (.bl false) := rfl
theorem ev_isA_tn : isA st (.tup xs) .non = some (.bl false) := rfl
theorem ev_isA_ln : isA st (.lst xs) .non = some (.bl false) := rfl
theorem ev_notA_bn : notA st (.bl a) .non = some (.bl true) := rfl
theorem ev_notA_in : notA st (.int i) .non = some (.bl true) := rfl
theorem ev_notA_sn : notA st (.str x) .non = some (.bl true) := rfl
theorem ev_notA_tn : notA st (.tup xs) .non = some (.bl true) := rfl
theorem ev_notA_ln : notA st (.lst xs) .non = some (.bl true) := rfl
end
end L3
namespace L3
open PySem PySem.Spec PyProof.Rows L2

/-! ## set(xs) of many rows, of which few are unlike; xs a list or a tuple -/
section
variable {P : Program} {w : World} {A : Around} {E : Value → Shared → Prop} {s : Shared}
/-- what the set holds behind i rows -/
structure Kept (ks : List (Addr × List Int)) (i : Nat) (L : List (Addr × List Int)) : Prop where
  sub : ∀ q ∈ L, q ∈ ks
  all : ∀ q ∈ ks.take i, q.2 ∈ L.map (·.2)
theorem nd_le {α : Type} : ∀ {l m : List α}, l.Nodup → (∀ x ∈ l, x ∈ m) → l.length ≤ m.length
  | [], m, _, _ => Nat.zero_le _
  | x :: l, m, hn, h => by
    obtain ⟨a, b, rfl⟩ := List.append_of_mem (h x List.mem_cons_self)
    obtain ⟨h1, h2⟩ := List.nodup_cons.mp hn
    have := nd_le (m := a ++ b) h2 fun y hy => by
      have hm := h y (List.mem_cons_of_mem _ hy)
      rcases List.mem_append.mp hm with z | z
      · exact List.mem_append_left _ z
      · rcases List.mem_cons.mp z with e | z
        · rw [e] at hy; exact absurd hy h1
        · exact List.mem_append_right _ z
    simp only [List.length_append, List.length_cons] at this ⊢
    omega
abbrev SetGet (P : Program) (w : World) (ks : List (Addr × List Int)) (S : Addr) (i : Nat) (h : Heap) : Prop := ∃ L es ep t, SetTR P w h S L es ep t ∧ Kept ks i L
theorem upd_rows {I S : Addr} {fp wr : List Addr} {G : Array GenState → Array GenState → Prop} {n : Nat} {Pv : Nat → Value → Prop} {St : Nat → Shared → Prop} {R : Result → Shared → Prop} {ks : List (Addr × List Int)} {U : List (List Int)} {h0 : Heap}
    (W : WalksS P w A.in1 I fp wr G n Pv St) (far : S ∉ fp) (hn : ks.length = n) (few : U.length ≤ 62) (inU : ∀ q ∈ ks, q.2 ∈ U) (at_ : ∀ i v, Pv i v → ∃ q, ks[i]? = some q ∧ v = .ref q.1)
    (tup : ∀ q ∈ ks, IsT P w h0 q.2 q.1) (newS : h0.get? S = none) (newW : ∀ b ∈ wr, h0.get? b = none) (room : A.in1.units < cLine)
    (fin : ∀ s', Moved (S :: wr) G s s' → SetGet P w ks S n s'.heap → (∀ b o, h0.get? b = some o → s'.heap.get? b = some o) → R (.ok (.ret .none)) s') :
    ∀ (k i : Nat) (s1 : Shared), i + k = n → St i s1 → (∀ b o, h0.get? b = some o → s1.heap.get? b = some o) → SetGet P w ks S i s1.heap → (∀ s', Moved (S :: wr) G s1 s' → Moved (S :: wr) G s s') →
      codeAny (model P w) A (.builtin "set.update.loop" ⟨[.ref S, .ref I], []⟩) R s1 := by
  have farW : S ∉ wr := fun z => far (W.sub _ z)
  have up : ∀ b ∈ wr, b ∈ S :: wr := fun b hb => List.mem_cons_of_mem _ hb
  have stay : ∀ {a b : Shared}, Moved wr G a b → (∀ x o, h0.get? x = some o → a.heap.get? x = some o) → ∀ x o, h0.get? x = some o → b.heap.get? x = some o := fun m h x o e =>
    m.heap x o (fun z => by rw [newW x z] at e; cases e) (h x o e)
  intro k
  induction k with
  | zero =>
    intro i s1 hk hst keep ⟨L, es, ep, t, hS, got⟩ push
    have hi : i = n := by omega
    subst hi
    refine codeAny_builtin F.entry_set_update_loop ?_
    rw [Around.under_plainId F.plain_set_update_loop _]
    show wpAny _ A.in1 (pyNext (.ref I) >>= _) _ _ s1
    refine wpAny_bind (W.done s1 _ _ hst fun s2 m => ?_)
    show wpAny _ A.in1 (ret Value.none) _ _ s2
    have keep2 := stay m keep
    exact wpAny_pure (fin s2 (push s2 (m.mono up)) ⟨L, es, ep, t, hS.keep (fun o e => m.heap S o farW e) fun q hq => isT_keep (tup q (got.sub q hq)) keep2, got⟩ keep2)
  | succ k ih =>
    intro i s1 hk hst keep ⟨L, es, ep, t, hS, got⟩ push
    refine codeAny_builtin F.entry_set_update_loop ?_
    rw [Around.under_plainId F.plain_set_update_loop _]
    show wpAny _ A.in1 (pyNext (.ref I) >>= _) _ _ s1
    refine wpAny_bind (W.item i s1 _ _ (by omega) hst fun v s2 hv hst2 m => ?_)
    obtain ⟨q, hq, rfl⟩ := at_ i v hv
    have keep2 := stay m keep
    have hS2 : SetTR P w s2.heap S L es ep t := hS.keep (fun o e => m.heap S o farW e) fun r hr => isT_keep (tup r (got.sub r hr)) keep2
    have hq2 : IsT P w s2.heap q.2 q.1 := isT_keep (tup q (List.mem_of_getElem? hq)) keep2
    show wpAny _ A.in1 (holding [Value.ref q.1] (setAdd S (.ref q.1)) >>= _) _ _ s2
    refine wpAny_bind (wpAny_holding ?_)
    unfold setAdd
    refine wpAny_holding (wpAny_bind (wpAny_pyHash_tuple room hq2 ?_))
    have lenL : L.length ≤ 62 := by
      have := nd_le hS.nd (m := U) fun x hx => by
        obtain ⟨r, hr, rfl⟩ := List.mem_map.mp hx
        exact inU r (got.sub r hr)
      rw [List.length_map] at this
      omega
    refine add_at (s := { s2 with toks := s2.toks + (q.2.length + 1) }) hS2 hq2 room (by omega) fun b h' L2 es2 ep2 t2 same hS3 c1 c2 => ?_
    have got2 : Kept ks (i + 1) L2 := by
      have tk : ks.take (i + 1) = ks.take i ++ [q] := by rw [List.take_add_one, hq]; rfl
      by_cases c : q.2 ∈ L.map (·.2)
      · rw [c1 c]
        refine ⟨got.sub, fun r hr => ?_⟩
        rw [tk] at hr
        rcases List.mem_append.mp hr with z | z
        · exact got.all r z
        · rw [List.mem_singleton.mp z]; exact c
      · have pm := c2 c
        refine ⟨fun r hr => ?_, fun r hr => ?_⟩
        · rcases List.mem_cons.mp (pm.mem_iff.mp hr) with e | z
          · rw [e]; exact List.mem_of_getElem? hq
          · exact got.sub r z
        · rw [(pm.map (·.2)).mem_iff, List.map_cons]
          rw [tk] at hr
          rcases List.mem_append.mp hr with z | z
          · exact List.mem_cons_of_mem _ (got.all r z)
          · rw [List.mem_singleton.mp z]; exact List.mem_cons_self
    have off : ∀ b o, b ≠ S → s2.heap.get? b = some o → h'.get? b = some o := fun b o hb e => (same.2 b hb).trans e
    refine wpAny_pure ⟨plainId_quiet F.plain_set_update_loop _, ih (i + 1) _ (by omega) (W.frame _ s2 _ _ hst2 (Nat.le_add_right _ _) fun b hb o e => off b o (fun z => far (by rw [← z]; exact hb)) e)
      (fun b o e => off b o (fun z => by rw [z, newS] at e; cases e) (keep2 b o e)) ⟨L2, es2, ep2, t2, hS3, got2⟩ fun s3 m3 => push s3 ?_⟩
    exact Moved.trans W.gtrans ((m.mono up).then_heap (Nat.le_add_right _ _) fun b o hb e => off b o (fun z => hb (by rw [z]; exact List.mem_cons_self)) e) m3
/-- a new set -/
abbrev newSet (w : World) : Obj := { cls := .type "set", dict := none, data := .set #[] 0 (.fresh 0 0 (!w.params.followText "set-order")) }
set_option maxHeartbeats 3200000 in
theorem call_set_rows {l : Addr} {items : Array Value} {ks : List (Addr × List Int)} {U : List (List Int)} {Q : Value → Shared → Prop} (calm : A.handled = none) (src : s.heap.IsList l items ∨ s.heap.IsTuple l items) (hit : items.toList = ks.map fun p => Value.ref p.1)
    (tup : ∀ q ∈ ks, IsT P w s.heap q.2 q.1) (few : U.length ≤ 62) (inU : ∀ q ∈ ks, q.2 ∈ U) (room : A.units + 3 < cLine)
    (fin : ∀ (h' : Heap) (tk : Nat), SetGet P w ks s.heap.objs.size ks.length h' → (∀ b o, s.heap.get? b = some o → h'.get? b = some o) → Q (.ref s.heap.objs.size) { s with heap := h', toks := tk }) :
    wpAny (model P w) A (call (.type "set") [.ref l]) Q E s := by
  have sz : items.size = ks.length := by
    have := congrArg List.length hit
    rwa [Array.length_toList, List.length_map] at this
  obtain ⟨c0, tl0, mro0⟩ := F.called_set.mro
  have f1 := F.called_set.made
  have f2 := F.called_set.sub
  have f3 := F.called_set.notType
  have f4 := F.called_set.canCreate
  have f5 := F.typeCall_set_1 (.ref l)
  refine wpAny_call (codeAny_of_tree ?_)
  show wpAny _ _ (callAny (.type "set") _) _ _ _
  refine wpAny_pure ⟨Code.quiet_builtin _ (by decide +kernel), codeAny_builtin F.entry_type_call ?_⟩
  rw [Around.under_plain (weight_type_call_type "set" [.ref l] []) rfl]
  repeat (any_goals (first | assumption | wp_step))
  refine codeAny_mono (code_set_led1 (.ref l) (E := E) (Q₁ := fun x s1 => x = .ref s.heap.objs.size ∧ s1 = { s with heap := s.heap.push (newSet w) }) ⟨rfl, rfl⟩) fun r s1 hr => ?_
  rcases r with e | fl
  · exact hr
  cases fl with
  | ret x =>
    obtain ⟨rfl, rfl⟩ := hr
    have at0 : (s.heap.push (newSet w)).get? s.heap.objs.size = some (newSet w) := Heap.get?_push_size _ rfl
    have ty0 : Shared.TypeIs { s with heap := s.heap.push (newSet w) } (.ref s.heap.objs.size) "set" := ⟨_, at0, rfl⟩
    have g1 := F.called_set.init.lookup
    have g2 := F.called_set.init.bind (.ref s.heap.objs.size)
    repeat (any_goals (first | assumption | wp_step))
    refine codeAny_mono (codeAny_call_builtin (R := wants (fun r s2 => r = .none ∧ ∃ h' tk, s2 = { s with heap := h', toks := tk } ∧ SetGet P w ks s.heap.objs.size ks.length h' ∧ ∀ b o, s.heap.get? b = some o → h'.get? b = some o) E)
      F.called_set.init.plain F.entry_set_init (check_set_init_1 ty0 ?_)) fun r2 s2 hr2 => ?_
    · have off0 : ∀ b, s.heap.objs.size ≤ b → s.heap.get? b = none := fun b hb => by
        cases q : s.heap.get? b with
        | none => rfl
        | some o => exact absurd (Nat.lt_of_lt_of_le (Heap.lt_size q) hb) (Nat.lt_irrefl _)
      have at_ : ∀ (i : Nat) (v : Value), items[i]? = some v → ∃ q, ks[i]? = some q ∧ v = .ref q.1 := fun i v hv => by
        have q : items.toList[i]? = some v := by rw [Array.getElem?_toList]; exact hv
        rw [hit, List.getElem?_map] at q
        cases hq : ks[i]? with
        | none => rw [hq] at q; cases q
        | some p => rw [hq] at q; exact ⟨p, rfl, (Option.some.inj q).symm⟩
      have calm3 : A.in1.in1.in1.handled = none := by simp [calm]
      rcases src with src | src
      · obtain ⟨ob, hob, hcl, k0, hda⟩ := src
        obtain ⟨cl, di, da, sl⟩ := ob
        simp only at hcl hda
        subst hcl hda
        have there : (s.heap.push (newSet w)).get? l = some { cls := .type "list", dict := di, data := .seq items k0, slots := sl } := Heap.get?_push_of_some _ hob
        have is_ : (s.heap.push (newSet w)).IsList l items := ⟨_, there, rfl, k0, rfl⟩
        have n1 := F.sub_list_set
        have n2 := F.sub_list_frozenset
        have n3 : (Value.type "list" == Value.type "dict") = false := by decide
        have lt : l < s.heap.objs.size := Heap.lt_size hob
        have ne_ : l ≠ (s.heap.push (newSet w)).objs.size := by rw [Heap.size_push]; exact Nat.ne_of_lt (Nat.lt_succ_of_lt lt)
        have far : s.heap.objs.size ∉ [(s.heap.push (newSet w)).objs.size, l] := by
          rw [Heap.size_push]
          simp only [List.mem_cons, List.not_mem_nil, or_false, not_or]
          exact ⟨Nat.ne_of_lt (Nat.lt_succ_self _), Nat.ne_of_gt lt⟩
        unfold Builtin.«set.__init__» noKeywords Builtin.Frozenset.updateFrom
        generalize hI : pyIter = PI
        wp_walk
        subst hI
        refine wpAny_pyIter_list is_ (wpAny_bind (wpAny_runValue ?_))
        refine upd_rows ((Walks.list calm3 _ l ne_ items).toS) far sz.symm few inU at_ tup (off0 _ (Nat.le_refl _)) (fun b hb => off0 b (by rw [List.mem_singleton.mp hb, Heap.size_push]; exact Nat.le_succ _)) room ?_ items.size 0 _ (Nat.zero_add _) ⟨⟨_, Heap.get?_push_size _ rfl, rfl, rfl⟩, is_.push _⟩
          (fun b o e => Heap.get?_push_of_some _ (Heap.get?_push_of_some _ e)) ⟨[], #[], 0, _, setTR_fresh (Heap.get?_push_of_some _ at0), ⟨fun q z => absurd z (by simp), fun q z => absurd z (by simp)⟩⟩ (fun _ m => m)
        intro s' m got keep
        obtain ⟨h', ge, dr, tk, os⟩ := s'
        obtain rfl : ge = s.gens := m.gens
        obtain rfl : dr = s.drawn := m.drawn
        obtain rfl : os = s.os := m.os
        show wpAny _ _ _ _ _ _
        refine wpAny_pure ?_
        show wpAny _ _ (ret Value.none) _ _ _
        rw [sz] at got
        exact wpAny_pure ⟨rfl, h', tk, rfl, got, keep⟩
      · obtain ⟨ob, hob, hcl, k0, hda⟩ := src
        obtain ⟨cl, di, da, sl⟩ := ob
        simp only at hcl hda
        subst hcl hda
        have there : (s.heap.push (newSet w)).get? l = some { cls := .type "tuple", dict := di, data := .seq items k0, slots := sl } := Heap.get?_push_of_some _ hob
        have is_ : (s.heap.push (newSet w)).IsTuple l items := ⟨_, there, rfl, k0, rfl⟩
        have n1 := F.sub_tuple_set
        have n2 := F.sub_tuple_frozenset
        have n3 : (Value.type "tuple" == Value.type "dict") = false := by decide
        have lt : l < s.heap.objs.size := Heap.lt_size hob
        have ne_ : l ≠ (s.heap.push (newSet w)).objs.size := by rw [Heap.size_push]; exact Nat.ne_of_lt (Nat.lt_succ_of_lt lt)
        have far : s.heap.objs.size ∉ [(s.heap.push (newSet w)).objs.size, l] := by
          rw [Heap.size_push]
          simp only [List.mem_cons, List.not_mem_nil, or_false, not_or]
          exact ⟨Nat.ne_of_lt (Nat.lt_succ_self _), Nat.ne_of_gt lt⟩
        unfold Builtin.«set.__init__» noKeywords Builtin.Frozenset.updateFrom
        generalize hI : pyIter = PI
        wp_walk
        subst hI
        refine wpAny_pyIter_tuple is_ (wpAny_bind (wpAny_runValue ?_))
        refine upd_rows ((Walks.tuple calm3 _ l ne_ items).toS) far sz.symm few inU at_ tup (off0 _ (Nat.le_refl _)) (fun b hb => off0 b (by rw [List.mem_singleton.mp hb, Heap.size_push]; exact Nat.le_succ _)) room ?_ items.size 0 _ (Nat.zero_add _) ⟨⟨_, Heap.get?_push_size _ rfl, rfl, rfl⟩, is_.push _⟩
          (fun b o e => Heap.get?_push_of_some _ (Heap.get?_push_of_some _ e)) ⟨[], #[], 0, _, setTR_fresh (Heap.get?_push_of_some _ at0), ⟨fun q z => absurd z (by simp), fun q z => absurd z (by simp)⟩⟩ (fun _ m => m)
        intro s' m got keep
        obtain ⟨h', ge, dr, tk, os⟩ := s'
        obtain rfl : ge = s.gens := m.gens
        obtain rfl : dr = s.drawn := m.drawn
        obtain rfl : os = s.os := m.os
        show wpAny _ _ _ _ _ _
        refine wpAny_pure ?_
        show wpAny _ _ (ret Value.none) _ _ _
        rw [sz] at got
        exact wpAny_pure ⟨rfl, h', tk, rfl, got, keep⟩
    · rcases r2 with e | fl2
      · exact hr2
      cases fl2 with
      | ret r =>
        obtain ⟨rfl, h', tk, rfl, got, keep⟩ := hr2
        repeat (any_goals (first | assumption | wp_step))
        exact fin _ _ got keep
      | _ => exact hr2.elim
  | _ => exact hr.elim
end
end L3
namespace L3
open PySem PySem.Spec PyProof.Rows L2

/-! ## sorted(set(xs)), xs a list or a tuple of rows -/
def rSetR (K : PySem.W.Frag) (P : Program) (w : World) : List V → Hp → VK → Prop := fun vs H Q => ∃ (l : Addr) (ks : List (Addr × List Int)) (U : List (List Int)), vs = [V.ref l] ∧ (SqL K H l (ks.map fun p => V.ref p.1) ∨ SqT K H l (ks.map fun p => V.ref p.1)) ∧ (∀ p ∈ ks, SqT K H p.1 (p.2.map V.int)) ∧
  U.length ≤ 62 ∧ (∀ p ∈ ks, p.2 ∈ U) ∧ ∀ a L, H a = none → (∀ p ∈ L, p ∈ ks) → (∀ p ∈ ks, p.2 ∈ L.map (·.2)) → Q (.ref a) (upd H a (SetTO P w a L))
section
variable {X : Cx}
theorem cr_setR (hc : X.calm = true) (hr : RoomS X.A) : CallR X (.type "set") (rSetR X.K X.prog X.w) := by
  intro pins s σ H xs us Q I r hyp
  obtain ⟨l, ks, U, rfl, src, tup, few, inU, q⟩ := hyp
  rw [Vals.ref1 r]
  have hn : H s.heap.objs.size = none := I.hok.fresh (Nat.le_refl _)
  have room : X.A.units + 3 < cLine := by have := hr.un; omega
  have main : ∀ {items : Array Value}, (s.heap.IsList l items ∨ s.heap.IsTuple l items) → items.toList = ks.map (fun p => Value.ref p.1) → wpAny (model X.prog X.w) X.A (PySem.call (.type "set") [.ref l]) (EP X pins σ Q) X.xe s := fun sr e =>
    call_set_rows (I.ok.hd hc) sr e (fun p hp => I.isT (tup p hp)) few inU room fun h' tk ⟨L, es, ep, t, R, k⟩ keep =>
      ⟨.ref s.heap.objs.size, upd H s.heap.objs.size (SetTO X.prog X.w s.heap.objs.size L), I.laid (t' := tk) keep (Nat.le_refl _) (setTO_new R.t0), rfl, q _ L hn k.sub fun p hp => k.all p (by rw [List.take_length]; exact hp)⟩
  rcases src with src | src
  · obtain ⟨its, rv, pl, hz⟩ := I.list src
    exact main (.inl pl.isList) (by simpa using refs_of_vals rv)
  · obtain ⟨its, rv, pl, hz⟩ := I.tuple src
    exact main (.inr pl) (by simpa using refs_of_vals rv)
end
def sortSetR (st : Sto) (x : D) : Option D := ((seqOf st x).bind rowsD).bind fun rows => if decide ((setU rlt rows).length ≤ 62) && rows.all (fun b => !b.isEmpty) then some (.lst ((setU rlt rows).map rowD)) else none
section
variable {X : Cx} {T : CT} {W : WX} {a : Expr} {ma : EM} {p1 p2 p3 p4 : Pos}
theorem de_sortedSetR (hc : X.calm = true) (hr : RoomS X.A) (hg : Gl X "sorted") (hm : X.mg "sorted" = none) (hg2 : Gl X "set") (hm2 : X.mg "set" = none) (ha : DE X T W a ma)
    (h1 : starEach [a] X.env = (false, eval a X.env) :: starEach [] X.env := by rfl) (h2 : starEach [.Call (.Name "set" p2) [a] [] p3] X.env = (false, eval (.Call (.Name "set" p2) [a] [] p3) X.env) :: starEach [] X.env := by rfl)
    (h3 : (backTo p3 (starEach [] X.env)).any (·.1) = false := by rfl) (h4 : (backTo p4 (starEach [] X.env)).any (·.1) = false := by rfl) :
    DE X T W (.Call (.Name "sorted" p1) [.Call (.Name "set" p2) [a] [] p3] [] p4) (eUn sortSetR ma) :=
  DE.of (pe_callB (cr_sortTA hc hr) hg hm bb_sorted (pa_cons (pe_callTy (cr_setR hc hr) hg2 hm2 bb_set (pa_cons ha pa_nil h1) (by decide) (by decide) h1 h3) pa_nil h2) (by decide) (by decide) h2 h4) fun σ H Q G ι st env w r p =>
    ⟨G, ι, st, env, w, r, p.bind fun d st1 v G1 ι1 H1 x1 w1 r1 q1 => by
      have q2 := q1.rd
      unfold sortSetR at q2
      cases e1 : (seqOf st1 d).bind rowsD with
      | none => rw [e1] at q2; exact q2.elim
      | some rows =>
        rw [e1, Option.bind_some] at q2
        rw [Option.bind_eq_some_iff] at e1
        obtain ⟨es, e1, e2⟩ := e1
        by_cases hz : (decide ((setU rlt rows).length ≤ 62) && rows.all fun b => !b.isEmpty) = true
        · rw [if_pos hz] at q2
          rw [Bool.and_eq_true, decide_eq_true_eq] at hz
          obtain ⟨l, vs, rfl, hl, rv⟩ := seq_at w1 r1 e1
          rw [rowsD_eq e2] at rv
          obtain ⟨ks, e3, e4, hks⟩ := rows_refs rv
          subst e3
          refine ⟨l, ks, setU rlt rows, rfl, hl, fun p hp => w1.same.tup (hks p hp), hz.1, fun p hp => (setU_mem sto_row _ _).mpr (by rw [e4]; exact List.mem_map.mpr ⟨p, hp, rfl⟩), fun b L hb hL1 hL2 => ?_⟩
          have gb : G1 b = none := w1.off hb
          have ib : b ∉ ι1 := fun z => w1.there b z hb
          refine ⟨b, L, rfl, upd_same, fun q hq => ⟨?_, fun z => ?_⟩, fun out p hp ho hl2 hpn => ?_⟩
          · exact (upd_new_same hb).tup (w1.same.tup (hks q (hL1 q hq)))
          · have hm3 : q.2 ∈ rows := by rw [e4]; exact List.mem_map.mpr ⟨q, hL1 q hq, rfl⟩
            have := List.all_eq_true.mp hz.2 q.2 hm3
            rw [z] at this
            cases this
          · have w2 : WH X.K G1 ι1 st1 (upd H1 b (SetTO X.prog X.w b L)) := w1.other gb ib _
            have x2 : Ext ι1 ι1 H1 (upd H1 b (SetTO X.prog X.w b L)) G1 G1 := Ext.other .refl hb _
            have hset : setU rlt rows = out.map (·.2) := by
              rw [ho]
              refine setU_same sto_row fun x => ?_
              rw [e4]
              constructor
              · intro hx
                obtain ⟨q, hq, rfl⟩ := List.mem_map.mp hx
                exact hL2 q hq
              · intro hx
                obtain ⟨q, hq, rfl⟩ := List.mem_map.mp hx
                exact List.mem_map.mpr ⟨q, hL1 q hq, rfl⟩
            refine q2 (.ref p) _ _ (x2.cons w2 (w2.fzExt hpn _)) (w2.fz hpn _) ?_
            rw [hset]
            refine dv_lst w2 hpn ?_
            have hmem : ∀ q ∈ out, q ∈ ks := fun q hq => hL1 q (hp.mem_iff.mp hq)
            clear ho hl2 hset hp q2
            induction out with
            | nil => exact .nil
            | cons q out ih => exact .cons (.tup (hks q (hmem q List.mem_cons_self)) (dvs_ints q.2)) (ih fun q' hq' => hmem q' (List.mem_cons_of_mem _ hq'))
        · rw [if_neg hz] at q2; exact q2.elim⟩
def sortSetA (st : Sto) (x : D) : Option D := orO (sortSetR st x) (sortSetI st x)
theorem de_srtSetA (hc : X.calm = true) (hr : RoomS X.A) (hg : Gl X "sorted") (hm : X.mg "sorted" = none) (hg2 : Gl X "set") (hm2 : X.mg "set" = none) (ha : DE X T W a ma)
    (h1 : starEach [a] X.env = (false, eval a X.env) :: starEach [] X.env := by rfl) (h2 : starEach [.Call (.Name "set" p2) [a] [] p3] X.env = (false, eval (.Call (.Name "set" p2) [a] [] p3) X.env) :: starEach [] X.env := by rfl)
    (h3 : (backTo p3 (starEach [] X.env)).any (·.1) = false := by rfl) (h4 : (backTo p4 (starEach [] X.env)).any (·.1) = false := by rfl) :
    DE X T W (.Call (.Name "sorted" p1) [.Call (.Name "set" p2) [a] [] p3] [] p4) (eUn sortSetA ma) :=
  de_orU (de_sortedSetR hc hr hg hm hg2 hm2 ha h1 h2 h3 h4) (de_sortedSetI hc hg hm hg2 hm2 ha h1 h2 h3 h4)
end
section
variable (st : Sto)
theorem sset_rows {d : D} {xs : List (List Int)} (hs : seqOf st d = some (xs.map rowD)) (h : (setU rlt xs).length ≤ 62) (hn : ∀ x ∈ xs, x ≠ []) : sortSetA st d = some (.lst ((setU rlt xs).map rowD)) := by
  have e : sortSetR st d = some (.lst ((setU rlt xs).map rowD)) := by
    unfold sortSetR
    rw [hs, Option.bind_some, rowsD_map, Option.bind_some, if_pos]
    rw [Bool.and_eq_true, decide_eq_true_eq, List.all_eq_true]
    refine ⟨h, fun x hx => ?_⟩
    have := hn x hx
    cases x with
    | nil => exact absurd rfl this
    | cons _ _ => rfl
  unfold sortSetA
  rw [e]
  rfl
theorem sset_ints {xs : List Int} (h : xs.length < 64) (h0 : xs ≠ []) : sortSetA st (.tup (xs.map .int)) = some (.lst ((setU ilt xs).map .int)) := by
  have e0 : sortSetR st (.tup (xs.map .int)) = none := by
    unfold sortSetR
    show ((some (xs.map D.int)).bind rowsD).bind _ = _
    cases xs with
    | nil => exact absurd rfl h0
    | cons x xs => rfl
  have e : sortSetI st (.tup (xs.map .int)) = some (.lst ((setU ilt xs).map .int)) := by
    show ((some (xs.map D.int)).bind intsD).bind _ = _
    rw [Option.bind_some, intsD_map, Option.bind_some, if_pos (decide_eq_true h)]
  unfold sortSetA
  rw [e0, e]
  rfl
end
end L3
namespace L3
open PySem PySem.Spec PyProof.Rows L2
theorem DG.more {X : Cx} {e : Expr} {vs vs' : List Nat} {g : D → DEnv → Option DEnv} (h : DG X e vs g) (hs : ∀ j ∈ vs, j ∈ vs') : DG X e vs' g := fun T =>
  ⟨fun pins s σ H v u Q I rv ⟨G, ι, st, env, d, w, r, rd, p⟩ => (h T).run pins s σ H v u Q I rv ⟨G, ι, st, env, d, w, r, rd, by
    cases e1 : g d env with
    | none => rw [e1] at p; exact p
    | some env' => rw [e1] at p; exact fun σ' r' hl hj => p σ' r' hl fun j hn => hj j fun z => hn (hs j z)⟩⟩
end L3
namespace L3
/-! # Families of sets of places: no program in sight -/
abbrev Rw := List Int
def Asc (r : Rw) : Prop := r.Pairwise (· < ·)
def InW (w : Nat) (r : Rw) : Prop := ∀ p ∈ r, 0 ≤ p ∧ p < (w : Int)
def has (big small : Rw) : Bool := small.all fun p => decide (p ∈ big)
def held (F : List Rw) (P : Rw) : Bool := F.any fun one => has P one
def meet (a b : Rw) : Bool := a.any fun p => decide (p ∈ b)
def least1 (known : List Rw) : List Rw := known.filter fun one => !(known.any fun other => !decide (one = other) && has one other)
def leastL (S : List Rw) : List Rw := least1 (setU rlt S)
theorem has_iff {a b : Rw} : has a b = true ↔ ∀ p ∈ b, p ∈ a := by unfold has; simp
theorem has_refl (a : Rw) : has a a = true := has_iff.mpr fun _ h => h
theorem has_trans {a b c : Rw} (h : has a b = true) (h' : has b c = true) : has a c = true := has_iff.mpr fun p hp => has_iff.mp h p (has_iff.mp h' p hp)
theorem meet_iff {a b : Rw} : meet a b = true ↔ ∃ p ∈ a, p ∈ b := by unfold meet; simp
theorem held_iff {F : List Rw} {P : Rw} : held F P = true ↔ ∃ r ∈ F, has P r = true := by unfold held; simp
theorem Asc.nodup {r : Rw} (h : Asc r) : r.Nodup := h.imp fun {a b} h => by omega
theorem asc_eq {a b : Rw} (ha : Asc a) (hb : Asc b) (h : ∀ p, p ∈ a ↔ p ∈ b) : a = b :=
  asc_ext sto_int (ha.imp fun h => decide_eq_true h) (hb.imp fun h => decide_eq_true h) h
theorem has_anti {a b : Rw} (ha : Asc a) (hb : Asc b) (h : has a b = true) (h' : has b a = true) : a = b :=
  asc_eq ha hb fun p => ⟨has_iff.mp h' p, has_iff.mp h p⟩
theorem has_lt {r y : Rw} (hr : Asc r) (hy : Asc y) (h : has r y = true) (hn : y ≠ r) : y.length < r.length := by
  have h1 := nd_le hy.nodup (has_iff.mp h)
  by_cases e : y.length < r.length
  · exact e
  · exfalso
    refine hn (asc_eq hy hr fun p => ⟨has_iff.mp h p, fun hp => ?_⟩)
    by_cases hm : p ∈ y
    · exact hm
    · have := nd_le (l := p :: y) (m := r) (List.nodup_cons.mpr ⟨hm, hy.nodup⟩) fun x hx => by
        rcases List.mem_cons.mp hx with z | z
        · rw [z]; exact hp
        · exact has_iff.mp h x z
      rw [List.length_cons] at this
      omega
theorem least1_mem {S : List Rw} {x : Rw} : x ∈ least1 S ↔ x ∈ S ∧ ∀ y ∈ S, has x y = true → x = y := by
  unfold least1
  rw [List.mem_filter]
  constructor
  · rintro ⟨h1, h2⟩
    refine ⟨h1, fun y hy hxy => ?_⟩
    by_cases e : x = y
    · exact e
    · exfalso
      have : (S.any fun other => !decide (x = other) && has x other) = true := List.any_eq_true.mpr ⟨y, hy, by rw [decide_eq_false e, hxy]; rfl⟩
      rw [this] at h2
      cases h2
  · rintro ⟨h1, h2⟩
    refine ⟨h1, ?_⟩
    cases e : S.any fun other => !decide (x = other) && has x other with
    | false => rfl
    | true =>
      obtain ⟨y, hy, q⟩ := List.any_eq_true.mp e
      rw [Bool.and_eq_true] at q
      have := h2 y hy q.2
      rw [decide_eq_true this] at q
      cases q.1
theorem least_mem {S : List Rw} {x : Rw} : x ∈ leastL S ↔ x ∈ S ∧ ∀ y ∈ S, has x y = true → x = y := by
  unfold leastL
  rw [least1_mem, setU_mem sto_row]
  constructor
  · exact fun ⟨a, b⟩ => ⟨a, fun y hy => b y ((setU_mem sto_row S y).mpr hy)⟩
  · exact fun ⟨a, b⟩ => ⟨a, fun y hy => b y ((setU_mem sto_row S y).mp hy)⟩
theorem least_sub {S : List Rw} {x : Rw} (h : x ∈ leastL S) : x ∈ S := (least_mem.mp h).1
theorem least_below {S : List Rw} (hS : ∀ r ∈ S, Asc r) : ∀ (n : Nat) (r : Rw), r.length = n → r ∈ S → ∃ y ∈ leastL S, has r y = true := by
  intro n
  induction n using Nat.strongRecOn with
  | ind n ih =>
    intro r hl hr
    by_cases e : r ∈ leastL S
    · exact ⟨r, e, has_refl r⟩
    · have : ∃ y ∈ S, has r y = true ∧ r ≠ y := by
        by_cases hc : ∃ y ∈ S, has r y = true ∧ r ≠ y
        · exact hc
        · exfalso
          refine e (least_mem.mpr ⟨hr, fun y hy hxy => ?_⟩)
          by_cases e2 : r = y
          · exact e2
          · exact absurd ⟨y, hy, hxy, e2⟩ hc
      obtain ⟨y, hy, h1, h2⟩ := this
      obtain ⟨z, hz, h3⟩ := ih y.length (by rw [← hl]; exact has_lt (hS r hr) (hS y hy) h1 fun e => h2 e.symm) y rfl hy
      exact ⟨z, hz, has_trans h1 h3⟩
theorem least_held {S : List Rw} (hS : ∀ r ∈ S, Asc r) (P : Rw) : held (leastL S) P = held S P := by
  rw [Bool.eq_iff_iff, held_iff, held_iff]
  constructor
  · exact fun ⟨r, h1, h2⟩ => ⟨r, least_sub h1, h2⟩
  · rintro ⟨r, h1, h2⟩
    obtain ⟨y, hy, h3⟩ := least_below hS _ r rfl h1
    exact ⟨y, hy, has_trans h2 h3⟩
/-- a family: in order, of sets, none within another one -/
structure Fam (F : List Rw) : Prop where
  srt : F.Pairwise fun a b => rlt a b = true
  asc : ∀ r ∈ F, Asc r
  anti : ∀ a ∈ F, ∀ b ∈ F, has a b = true → a = b
theorem least_fam {S : List Rw} (hS : ∀ r ∈ S, Asc r) : Fam (leastL S) where
  srt := (setU_pw sto_row S).filter _
  asc := fun r h => hS r (least_sub h)
  anti := fun a ha b hb h => (least_mem.mp ha).2 b (least_sub hb) h
theorem fam_ext {F G : List Rw} (hF : Fam F) (hG : Fam G) (h : ∀ P, P ∈ F ∨ P ∈ G → held F P = held G P) : F = G := by
  have key : ∀ {F G : List Rw}, Fam F → Fam G → (∀ P, P ∈ F ∨ P ∈ G → held F P = held G P) → ∀ x ∈ F, x ∈ G := by
    intro F G hF hG h x hx
    have h1 : held G x = true := by rw [← h x (.inl hx)]; exact held_iff.mpr ⟨x, hx, has_refl x⟩
    obtain ⟨y, hy, h2⟩ := held_iff.mp h1
    have h3 : held F y = true := by rw [h y (.inr hy)]; exact held_iff.mpr ⟨y, hy, has_refl y⟩
    obtain ⟨z, hz, h4⟩ := held_iff.mp h3
    have e := hF.anti x hx z hz (has_trans h2 h4)
    subst e
    rw [has_anti (hF.asc x hx) (hG.asc y hy) h2 h4]
    exact hy
  exact asc_ext sto_row hF.srt hG.srt fun x => ⟨key hF hG h x, key hG hF (fun P hP => (h P hP.symm).symm) x⟩
theorem least_id {F : List Rw} (hF : Fam F) : leastL F = F := fam_ext (least_fam hF.asc) hF fun P _ => least_held hF.asc P
/-! ## All sets -/
def allU : Nat → List Rw
  | 0 => [[]]
  | k + 1 => allU k ++ (allU k).map (· ++ [(k : Int)])
def allSets (w : Nat) : List Rw := (allU w).tail
theorem allU_cons : ∀ w, allU w = [] :: allSets w
  | 0 => rfl
  | k + 1 => by
    unfold allSets
    rw [allU, allU_cons k]
    rfl
theorem allSets_ne : ∀ (w : Nat) (r : Rw), r ∈ allSets w → r ≠ []
  | 0, r, h => by cases h
  | k + 1, r, h => by
    unfold allSets at h
    rw [allU, allU_cons k] at h
    simp only [List.cons_append, List.tail_cons, List.mem_append] at h
    rcases h with h | h
    · exact allSets_ne k r h
    · obtain ⟨q, _, rfl⟩ := List.mem_map.mp h
      simp
theorem allU_mem : ∀ (w : Nat) (r : Rw), r ∈ allU w ↔ Asc r ∧ InW w r
  | 0, r => by
    rw [allU, List.mem_singleton]
    constructor
    · rintro rfl
      exact ⟨List.Pairwise.nil, fun p h => by cases h⟩
    · rintro ⟨_, h⟩
      cases r with
      | nil => rfl
      | cons p r => have := h p List.mem_cons_self; omega
  | k + 1, r => by
    rw [allU, List.mem_append]
    constructor
    · rintro (h | h)
      · obtain ⟨h1, h2⟩ := (allU_mem k r).mp h
        exact ⟨h1, fun p hp => by have := h2 p hp; omega⟩
      · obtain ⟨q, hq, rfl⟩ := List.mem_map.mp h
        obtain ⟨h1, h2⟩ := (allU_mem k q).mp hq
        refine ⟨List.pairwise_append.mpr ⟨h1, by simp, fun a ha b hb => ?_⟩, fun p hp => ?_⟩
        · rw [List.mem_singleton.mp hb]
          exact (h2 a ha).2
        · rcases List.mem_append.mp hp with z | z
          · have := h2 p z; omega
          · rw [List.mem_singleton.mp z]; omega
    · rintro ⟨h1, h2⟩
      by_cases hk : (k : Int) ∈ r
      · right
        have hne : r ≠ [] := fun e => by rw [e] at hk; cases hk
        have e : r = r.dropLast ++ [r.getLast hne] := (List.dropLast_concat_getLast hne).symm
        have last : r.getLast hne = (k : Int) := by
          have hm := List.getLast_mem hne
          have b := (h2 _ hm).2
          by_cases q : r.getLast hne = (k : Int)
          · exact q
          · rw [e] at hk
            rcases List.mem_append.mp hk with z | z
            · have h3 : Asc (r.dropLast ++ [r.getLast hne]) := by rw [← e]; exact h1
              have := (List.pairwise_append.mp h3).2.2 _ z _ (List.mem_singleton.mpr rfl)
              omega
            · exact (List.mem_singleton.mp z).symm
        rw [last] at e
        have h3 : Asc (r.dropLast ++ [(k : Int)]) := by rw [← e]; exact h1
        obtain ⟨h4, _, h5⟩ := List.pairwise_append.mp h3
        refine List.mem_map.mpr ⟨r.dropLast, (allU_mem k _).mpr ⟨h4, fun p hp => ?_⟩, e.symm⟩
        have := h5 p hp _ (List.mem_singleton.mpr rfl)
        have := h2 p ((List.dropLast_sublist r).subset hp)
        omega
      · left
        refine (allU_mem k r).mpr ⟨h1, fun p hp => ?_⟩
        have := h2 p hp
        have : p ≠ (k : Int) := fun e => hk (by rw [← e]; exact hp)
        omega
theorem allSets_mem {w : Nat} {r : Rw} : r ∈ allSets w ↔ Asc r ∧ InW w r ∧ r ≠ [] := by
  constructor
  · intro h
    have h1 : r ∈ allU w := by rw [allU_cons]; exact List.mem_cons_of_mem _ h
    obtain ⟨a, b⟩ := (allU_mem w r).mp h1
    exact ⟨a, b, allSets_ne w r h⟩
  · rintro ⟨a, b, c⟩
    have h1 := (allU_mem w r).mpr ⟨a, b⟩
    rw [allU_cons] at h1
    rcases List.mem_cons.mp h1 with z | z
    · exact absurd z c
    · exact z
theorem allU_length : ∀ w, (allU w).length = 2 ^ w
  | 0 => rfl
  | k + 1 => by rw [allU, List.length_append, List.length_map, allU_length k, Nat.pow_succ]; omega
theorem allSets_few {w : Nat} (h : w ≤ 5) : (allSets w).length ≤ 31 := by
  have h1 := allU_length w
  rw [allU_cons, List.length_cons] at h1
  have h2 : 2 ^ w ≤ 2 ^ 5 := Nat.pow_le_pow_right (by decide) h
  omega
/-- unlike sets of few places are few -/
theorem few_sets {w : Nat} (h : w ≤ 5) {l : List Rw} (nd : l.Nodup) (hl : ∀ r ∈ l, r ∈ allSets w) : l.length ≤ 31 := Nat.le_trans (nd_le nd hl) (allSets_few h)
theorem Fam.nodup {F : List Rw} (hF : Fam F) : F.Nodup := hF.srt.imp fun {a b} h e => by rw [e, sto_row.irr] at h; cases h
theorem setU_few {w : Nat} (h : w ≤ 5) {l : List Rw} (hl : ∀ r ∈ l, r ∈ allSets w) : (setU rlt l).length ≤ 62 :=
  Nat.le_trans (few_sets h (setU_nodup sto_row l) fun r hr => hl r ((setU_mem sto_row l r).mp hr)) (by decide)
/-! ## The rest, the dual -/
def restL (w : Nat) (P : Rw) : Rw := ((List.range w).map fun i : Nat => (i : Int)).filter fun p => !decide (p ∈ P)
theorem rest_mem {w : Nat} {P : Rw} {p : Int} : p ∈ restL w P ↔ (0 ≤ p ∧ p < (w : Int)) ∧ p ∉ P := by
  unfold restL
  rw [List.mem_filter, List.mem_map]
  constructor
  · rintro ⟨⟨i, hi, rfl⟩, h⟩
    have := List.mem_range.mp hi
    exact ⟨⟨by omega, by omega⟩, by simpa using h⟩
  · rintro ⟨⟨h0, h1⟩, h⟩
    exact ⟨⟨p.toNat, List.mem_range.mpr (by omega), by omega⟩, by simpa using h⟩
theorem range_asc (w : Nat) : Asc ((List.range w).map fun i : Nat => (i : Int)) := by
  unfold Asc
  rw [List.pairwise_map]
  exact List.pairwise_lt_range.imp fun {a b} h => by omega
theorem rest_asc (w : Nat) (P : Rw) : Asc (restL w P) := (range_asc w).filter _
theorem rest_in (w : Nat) (P : Rw) : InW w (restL w P) := fun p hp => (rest_mem.mp hp).1
theorem rest_rest {w : Nat} {P : Rw} (ha : Asc P) (hP : InW w P) : restL w (restL w P) = P :=
  asc_eq (rest_asc _ _) ha fun p => by
    rw [rest_mem, rest_mem]
    constructor
    · rintro ⟨h1, h2⟩
      by_cases e : p ∈ P
      · exact e
      · exact absurd ⟨h1, e⟩ h2
    · exact fun h => ⟨hP p h, fun z => z.2 h⟩
def blocksL (w : Nat) (F : List Rw) : List Rw := (allSets w).filter fun one => F.all fun other => meet one other
def dualL (w : Nat) (F : List Rw) : List Rw := leastL (blocksL w F)
theorem blocks_sub {w : Nat} {F : List Rw} {r : Rw} (h : r ∈ blocksL w F) : r ∈ allSets w := (List.mem_filter.mp h).1
theorem dual_sub {w : Nat} {F : List Rw} {r : Rw} (h : r ∈ dualL w F) : r ∈ allSets w := blocks_sub (least_sub h)
theorem dual_fam (w : Nat) (F : List Rw) : Fam (dualL w F) := least_fam fun r h => (allSets_mem.mp (blocks_sub h)).1
/-- a family of places below w, with sets -/
structure FamW (w : Nat) (F : List Rw) : Prop where
  fam : Fam F
  ne : F ≠ []
  sub : ∀ r ∈ F, r ∈ allSets w
theorem FamW.inw {w : Nat} {F : List Rw} (h : FamW w F) {r : Rw} (hr : r ∈ F) : InW w r := (allSets_mem.mp (h.sub r hr)).2.1
theorem FamW.nz {w : Nat} {F : List Rw} (h : FamW w F) {r : Rw} (hr : r ∈ F) : r ≠ [] := (allSets_mem.mp (h.sub r hr)).2.2
theorem dual_held {w : Nat} {F : List Rw} (h : FamW w F) {P : Rw} (ha : Asc P) (hP : InW w P) : held (dualL w F) P = !held F (restL w P) := by
  unfold dualL
  rw [least_held fun r h => (allSets_mem.mp (blocks_sub h)).1]
  cases e : held F (restL w P) with
  | true =>
    obtain ⟨r, hr, h1⟩ := held_iff.mp e
    show held _ P = false
    cases e2 : held (blocksL w F) P with
    | false => rfl
    | true =>
      exfalso
      obtain ⟨one, ho, h2⟩ := held_iff.mp e2
      have h3 := List.all_eq_true.mp (List.mem_filter.mp ho).2 r hr
      obtain ⟨p, hp, hq⟩ := meet_iff.mp h3
      exact (rest_mem.mp (has_iff.mp h1 p hq)).2 (has_iff.mp h2 p hp)
  | false =>
    show held _ P = true
    refine held_iff.mpr ⟨P, List.mem_filter.mpr ⟨allSets_mem.mpr ⟨ha, hP, fun z => ?_⟩, List.all_eq_true.mpr fun r hr => ?_⟩, has_refl P⟩
    · cases hF : F with
      | nil => exact h.ne hF
      | cons r F' =>
        have : held F (restL w P) = true := held_iff.mpr ⟨r, by rw [hF]; exact List.mem_cons_self, has_iff.mpr fun p hp => rest_mem.mpr ⟨h.inw (r := r) (by rw [hF]; exact List.mem_cons_self) p hp, by rw [z]; simp⟩⟩
        rw [this] at e
        cases e
    · by_cases hm : meet P r = true
      · exact hm
      · exfalso
        have : held F (restL w P) = true := held_iff.mpr ⟨r, hr, has_iff.mpr fun p hp => rest_mem.mpr ⟨h.inw hr p hp, fun z => hm (meet_iff.mpr ⟨p, z, hp⟩)⟩⟩
        rw [this] at e
        cases e
theorem dual_famW {w : Nat} {F : List Rw} (h : FamW w F) : FamW w (dualL w F) where
  fam := dual_fam w F
  sub := fun r hr => dual_sub hr
  ne := fun e => by
    have h1 := dual_held h (rest_asc w []) (rest_in w [])
    have h2 : restL w (restL w []) = [] := rest_rest List.Pairwise.nil fun p z => by cases z
    rw [h2, e] at h1
    have h3 : held F [] = false := by
      cases q : held F [] with
      | false => rfl
      | true =>
        obtain ⟨r, hr, hh⟩ := held_iff.mp q
        exact absurd (List.eq_nil_iff_forall_not_mem.mpr fun p hp => by have := has_iff.mp hh p hp; cases this) (h.nz hr)
    rw [h3] at h1
    cases h1
theorem dual_dual {w : Nat} {F : List Rw} (h : FamW w F) : dualL w (dualL w F) = F :=
  fam_ext (dual_fam w _) h.fam fun P hP => by
    have hm : P ∈ allSets w := hP.elim (fun z => dual_sub z) fun z => h.sub P z
    obtain ⟨ha, hi, _⟩ := allSets_mem.mp hm
    rw [dual_held (dual_famW h) ha hi, dual_held h (rest_asc w P) (rest_in w P), rest_rest ha hi, Bool.not_not]
theorem least_famW {w : Nat} {S : List Rw} (hs : ∀ r ∈ S, r ∈ allSets w) (hn : S ≠ []) : FamW w (leastL S) where
  fam := least_fam fun r h => (allSets_mem.mp (hs r h)).1
  sub := fun r h => hs r (least_sub h)
  ne := fun e => by
    cases hS : S with
    | nil => exact hn hS
    | cons r S' =>
      obtain ⟨y, hy, _⟩ := least_below (fun r h => (allSets_mem.mp (hs r h)).1) _ r rfl (by rw [hS]; exact List.mem_cons_self)
      rw [e] at hy
      cases hy
end L3
namespace L3
open PySem PySem.Spec PyProof.Rows L2

/-! ## Walks over things that stand for data -/
theorem lcE_filt {α : Type} {enc : α → D} {g : D → DEnv → Option DEnv} {t : BM} {el : EM} {env : DEnv} {xs : List α} {p : α → Bool} {f : α → D} {c : Src} (e : α → DEnv) (st : Sto) (hc : c.ok st = true) (hz : xs.length ≤ 16777216) (hg : ∀ x ∈ xs, g (enc x) env = some (e x)) (ht : ∀ x ∈ xs, t (e x) st = .ok (p x) st) (he : ∀ x ∈ xs, p x = true → el (e x) st = .ok (f x) st) :
    lcD c g t el env (xs.map enc) [] st = .ok ((xs.filter p).map f) st := by
  suffices h : ∀ (ys : List α) (acc : List D), (∀ y ∈ ys, y ∈ xs) → acc.length + ys.length ≤ 16777216 → lcD c g t el env (ys.map enc) acc st = .ok (acc ++ (ys.filter p).map f) st by
    have := h xs [] (fun _ h => h) (by simpa using hz)
    rw [List.nil_append] at this
    exact this
  intro ys
  induction ys with
  | nil => intro acc _ _; rw [List.map_nil, lcD_nil _ _ _ _ _ _ _ hc]; simp
  | cons y ys ih =>
    intro acc hs hl
    rw [List.length_cons] at hl
    have hy := hs y List.mem_cons_self
    rw [List.map_cons]
    cases hp : p y with
    | true =>
      rw [lcD_go hc (hg y hy) (by rw [ht y hy, hp]) (he y hy hp) (by omega), ih _ (fun z hz => hs z (List.mem_cons_of_mem _ hz)) (by rw [List.length_append, List.length_singleton]; omega), List.filter_cons, if_pos hp, List.map_cons, List.append_assoc]
      rfl
    | false =>
      rw [lcD_skip hc (hg y hy) (by rw [ht y hy, hp]), ih _ (fun z hz => hs z (List.mem_cons_of_mem _ hz)) (by omega), List.filter_cons, if_neg (by rw [hp]; exact Bool.false_ne_true)]
theorem lcE_map {α : Type} {enc : α → D} {g : D → DEnv → Option DEnv} {el : EM} {env : DEnv} {xs : List α} {f : α → D} {c : Src} (e : α → DEnv) (st : Sto) (hc : c.ok st = true) (hz : xs.length ≤ 16777216) (hg : ∀ x ∈ xs, g (enc x) env = some (e x)) (he : ∀ x ∈ xs, el (e x) st = .ok (f x) st) :
    lcD c g bYes el env (xs.map enc) [] st = .ok (xs.map f) st := by
  have := lcE_filt (t := bYes) (p := fun _ => true) e st hc hz hg (fun _ _ => rfl) fun x hx _ => he x hx
  rw [List.filter_eq_self.mpr fun _ _ => rfl] at this
  exact this
/-- [el for x in xs for y in ys] -/
theorem lcE_two {α β : Type} {enc : α → D} {enc1 : β → D} {g g1 : D → DEnv → Option DEnv} {i1 : IM} {vs1 : List Nat} {el : EM} {env : DEnv} {xs : List α} {ys : α → List β} {f : α → β → D} (e : α → DEnv) (e1 : α → β → DEnv) (st : Sto) (hz : (xs.flatMap ys).length ≤ 16777216)
    (hg : ∀ x ∈ xs, g (enc x) env = some (e x)) (hi : ∀ x ∈ xs, i1 (e x) st = .ok ((ys x).map enc1, none) st) (hg1 : ∀ x ∈ xs, ∀ y ∈ ys x, g1 (enc1 y) (forget (e x) vs1) = some (e1 x y)) (he : ∀ x ∈ xs, ∀ y ∈ ys x, el (e1 x y) st = .ok (f x y) st) :
    lcD2 none g bYes i1 vs1 g1 bYes el env (xs.map enc) [] st = .ok (xs.flatMap fun x => (ys x).map (f x)) st := by
  suffices h : ∀ (zs : List α) (acc : List D), (∀ z ∈ zs, z ∈ xs) → acc.length + (zs.flatMap ys).length ≤ 16777216 → lcD2 none g bYes i1 vs1 g1 bYes el env (zs.map enc) acc st = .ok (acc ++ zs.flatMap fun x => (ys x).map (f x)) st by
    have := h xs [] (fun _ h => h) (by simpa using hz)
    rw [List.nil_append] at this
    exact this
  intro zs
  induction zs with
  | nil =>
    intro acc _ _
    rw [List.map_nil, lcD2]
    dsimp only
    rw [if_pos (show Src.ok none st = true from rfl)]
    simp
  | cons z zs ih =>
    intro acc hs hl
    have hz1 := hs z List.mem_cons_self
    rw [List.flatMap_cons, List.length_append] at hl
    rw [List.map_cons, lcD2]
    dsimp only
    rw [if_pos (show Src.ok none st = true from rfl), hg z hz1]
    dsimp only
    rw [M.bind_app]
    have ht : M.nox (bYes (e z)) st = .ok true st := rfl
    rw [ht]
    dsimp only
    rw [if_pos rfl, M.bind_app, M.nox_ok (hi z hz1)]
    dsimp only
    rw [M.bind_app]
    have inner : ∀ (us : List β) (acc : List D), (∀ u ∈ us, u ∈ ys z) → acc.length + us.length ≤ 16777216 → lcD none g1 bYes el (forget (e z) vs1) (us.map enc1) acc st = .ok (acc ++ us.map (f z)) st := by
      intro us
      induction us with
      | nil => intro acc _ _; rw [List.map_nil, lcD_nil _ _ _ _ _ _ _ rfl]; simp
      | cons u us ih2 =>
        intro acc hs2 hl2
        rw [List.length_cons] at hl2
        have hu := hs2 u List.mem_cons_self
        rw [List.map_cons, lcD_go rfl (hg1 z hz1 u hu) rfl (he z hz1 u hu) (by omega), ih2 _ (fun v hv => hs2 v (List.mem_cons_of_mem _ hv)) (by rw [List.length_append, List.length_singleton]; omega), List.map_cons, List.append_assoc]
        rfl
    rw [inner (ys z) acc (fun _ h => h) (by omega)]
    dsimp only
    rw [ih _ (fun v hv => hs v (List.mem_cons_of_mem _ hv)) (by rw [List.length_append, List.length_map]; omega), List.flatMap_cons, List.append_assoc]
/-- a walk that changes neither the store nor what is told of the names -/
theorem forE_same {α : Type} {enc : α → D} {c : Src} {g : D → DEnv → Option DEnv} {b : SM} {xs : List α} {e : DEnv} {s : Sto} (Inv : DEnv → Prop) (h0 : Inv e) (hc : c.ok s = true)
    (turn : ∀ x ∈ xs, ∀ e, Inv e → ∃ e1, g (enc x) e = some e1 ∧ ∃ e2, (b e1 s = .nx e2 s ∨ b e1 s = .ct e2 s) ∧ Inv e2) : ∃ e2, forD c g b (xs.map enc) e s = .nx e2 s ∧ Inv e2 := by
  obtain ⟨e2, s2, h1, rfl, h2⟩ := forD_inv (c := c) (g := g) (b := b) (items := xs.map enc) (s := s) (e := e) (fun _ e s' => s' = s ∧ Inv e) ⟨rfl, h0⟩ (fun _ _ _ h => by rw [h.1]; exact hc) fun i d e s' hd hi => by
    obtain ⟨rfl, hi⟩ := hi
    obtain ⟨x, hx, rfl⟩ := List.mem_map.mp (List.mem_of_getElem? hd)
    obtain ⟨e1, h1, e2, h2, h3⟩ := turn x hx e hi
    exact ⟨e1, h1, e2, s', h2, rfl, h3⟩
  exact ⟨e2, h1, h2⟩
/-! ## Equality, membership -/
theorem norm_ints (xs : List Int) : (D.tup (xs.map D.int)).norm = .tup (xs.map D.int) := by
  rw [D.norm, norms_map, List.map_map]
  congr 1
theorem cmp_ints (xs : List Int) : D.cmp 1 (.tup (xs.map D.int)) = true := by
  show (xs.map D.int).all (D.cmp 0) = true
  rw [List.all_map, List.all_eq_true]
  exact fun _ _ => rfl
theorem map_inj {α : Type} {f : α → D} (hf : ∀ a b, f a = f b → a = b) : ∀ {a b : List α}, a.map f = b.map f → a = b
  | [], [], _ => rfl
  | [], _ :: _, h => by cases h
  | _ :: _, [], h => by cases h
  | x :: a, y :: b, h => by
    rw [List.map_cons, List.map_cons, List.cons.injEq] at h
    rw [hf _ _ h.1, map_inj hf h.2]
theorem int_inj (a b : Int) (h : D.int a = D.int b) : a = b := by cases h; rfl
theorem str_inj (a b : Str) (h : D.str a = D.str b) : a = b := by cases h; rfl
theorem row_inj (a b : Rw) (h : rowD a = rowD b) : a = b := map_inj int_inj (D.tup.inj h)
theorem norm_row (r : Rw) : (rowD r).norm = rowD r := norm_ints r
theorem cmp_row (r : Rw) : D.cmp 1 (rowD r) = true := cmp_ints r
theorem norm_rows (F : List Rw) : (D.tup (F.map rowD)).norm = .tup (F.map rowD) := by
  rw [D.norm, norms_map, List.map_map]
  congr 1
  exact List.map_congr_left fun r _ => norm_row r
theorem norm_lrows (F : List Rw) : (D.lst (F.map rowD)).norm = .lst (F.map rowD) := by
  rw [D.norm, norms_map, List.map_map]
  congr 1
  exact List.map_congr_left fun r _ => norm_row r
theorem norm_lints (F : Rw) : (D.lst (F.map D.int)).norm = .lst (F.map D.int) := by
  rw [D.norm, norms_map, List.map_map]
  congr 1
theorem cmp_rows (F : List Rw) : D.cmp 2 (.tup (F.map rowD)) = true := by
  show (F.map rowD).all (D.cmp 1) = true
  rw [List.all_map, List.all_eq_true]
  exact fun r _ => cmp_row r
theorem cmp_lrows (F : List Rw) : D.cmp 2 (.lst (F.map rowD)) = true := cmp_rows F
theorem cmp_lints (F : Rw) : D.cmp 1 (.lst (F.map D.int)) = true := cmp_ints F
section
variable (st : Sto)
theorem eqD_b {n m : Nat} {x y : D} {b : Bool} (hx : D.cmp n x = true) (hy : D.cmp m y = true) (hb : b = true ↔ x.norm = y.norm) (hn : n ≤ 64 := by decide) (hm : m ≤ 64 := by decide) : eqD st x y = some (.bl b) := (eqD_of st hx hy hn hm hb).1
theorem neD_b {n m : Nat} {x y : D} {b : Bool} (hx : D.cmp n x = true) (hy : D.cmp m y = true) (hb : b = true ↔ x.norm = y.norm) (hn : n ≤ 64 := by decide) (hm : m ≤ 64 := by decide) : neD st x y = some (.bl (!b)) := (eqD_of st hx hy hn hm hb).2
theorem row_iff (a b : Rw) : decide (a = b) = true ↔ (rowD a).norm = (rowD b).norm := by
  rw [norm_row, norm_row, decide_eq_true_eq]
  exact ⟨fun h => by rw [h], row_inj a b⟩
theorem eqD_row (a b : Rw) : eqD st (rowD a) (rowD b) = some (.bl (decide (a = b))) := eqD_b st (cmp_row a) (cmp_row b) (row_iff a b)
theorem neD_row (a b : Rw) : neD st (rowD a) (rowD b) = some (.bl (!decide (a = b))) := neD_b st (cmp_row a) (cmp_row b) (row_iff a b)
theorem rows_iff (a b : List Rw) : decide (a = b) = true ↔ (D.tup (a.map rowD)).norm = (D.tup (b.map rowD)).norm := by
  rw [norm_rows, norm_rows, decide_eq_true_eq]
  exact ⟨fun h => by rw [h], fun h => map_inj row_inj (D.tup.inj h)⟩
theorem eqD_rows (a b : List Rw) : eqD st (.tup (a.map rowD)) (.tup (b.map rowD)) = some (.bl (decide (a = b))) := eqD_b st (cmp_rows a) (cmp_rows b) (rows_iff a b)
theorem neD_rows (a b : List Rw) : neD st (.tup (a.map rowD)) (.tup (b.map rowD)) = some (.bl (!decide (a = b))) := neD_b st (cmp_rows a) (cmp_rows b) (rows_iff a b)
theorem lrows_iff (a b : List Rw) : decide (a = b) = true ↔ (D.lst (a.map rowD)).norm = (D.lst (b.map rowD)).norm := by
  rw [norm_lrows, norm_lrows, decide_eq_true_eq]
  exact ⟨fun h => by rw [h], fun h => map_inj row_inj (D.lst.inj h)⟩
theorem eqD_lrows (a b : List Rw) : eqD st (.lst (a.map rowD)) (.lst (b.map rowD)) = some (.bl (decide (a = b))) := eqD_b st (cmp_lrows a) (cmp_lrows b) (lrows_iff a b)
theorem neD_lrows (a b : List Rw) : neD st (.lst (a.map rowD)) (.lst (b.map rowD)) = some (.bl (!decide (a = b))) := neD_b st (cmp_lrows a) (cmp_lrows b) (lrows_iff a b)
theorem eqD_lrow0 (a : List Rw) : eqD st (.lst (a.map rowD)) (.lst []) = some (.bl (decide (a = []))) := eqD_lrows st a []
theorem neD_lrow0 (a : List Rw) : neD st (.lst (a.map rowD)) (.lst []) = some (.bl (!decide (a = []))) := neD_lrows st a []
theorem eqD_rows0 (a : List Rw) : eqD st (.tup (a.map rowD)) (.tup []) = some (.bl (decide (a = []))) := eqD_rows st a []
theorem neD_row0 (a : Rw) : neD st (rowD a) (.tup []) = some (.bl (!decide (a = []))) := neD_row st a []
theorem lints_iff (a b : Rw) : decide (a = b) = true ↔ (D.lst (a.map D.int)).norm = (D.lst (b.map D.int)).norm := by
  rw [norm_lints, norm_lints, decide_eq_true_eq]
  exact ⟨fun h => by rw [h], fun h => map_inj int_inj (D.lst.inj h)⟩
theorem eqD_lints (a b : Rw) : eqD st (.lst (a.map D.int)) (.lst (b.map D.int)) = some (.bl (decide (a = b))) := eqD_b st (cmp_lints a) (cmp_lints b) (lints_iff a b)
theorem neD_lints (a b : Rw) : neD st (.lst (a.map D.int)) (.lst (b.map D.int)) = some (.bl (!decide (a = b))) := neD_b st (cmp_lints a) (cmp_lints b) (lints_iff a b)
theorem eqD_lint0 (a : Rw) : eqD st (.lst (a.map D.int)) (.lst []) = some (.bl (decide (a = []))) := eqD_lints st a []
theorem neD_lint0 (a : Rw) : neD st (.lst (a.map D.int)) (.lst []) = some (.bl (!decide (a = []))) := neD_lints st a []
theorem eqD_bb (a b : Bool) : eqD st (.bl a) (.bl b) = some (.bl (a == b)) := eqD_b (n := 0) (m := 0) st rfl rfl (by cases a <;> cases b <;> simp [D.norm, pnI])
theorem neD_bb (a b : Bool) : neD st (.bl a) (.bl b) = some (.bl (!(a == b))) := neD_b (n := 0) (m := 0) st rfl rfl (by cases a <;> cases b <;> simp [D.norm, pnI])
/-- x in a list or tuple -/
theorem inSeq_of {n m : Nat} {x c : D} {xs : List D} {b : Bool} (hx : D.cmp n x = true) (hc : D.cmp m c = true) (hi : c = .tup xs ∨ c = .lst xs) (hb : b = true ↔ ∃ y ∈ xs, y.norm = x.norm) (hn : n ≤ 64) (hm : m ≤ 64) : inSeq st x c = some b := by
  obtain ⟨p, h1, h2, h3⟩ := cmp_py hx
  obtain ⟨q, h4, h5, h6⟩ := cmp_py hc
  have hq : ∃ ps, D.pys xs = some ps ∧ itemsPy q = some ps := by
    rcases hi with rfl | rfl
    · rw [D.py] at h4
      cases e : D.pys xs with
      | none => rw [e] at h4; cases h4
      | some ps => rw [e] at h4; cases h4; exact ⟨ps, rfl, rfl⟩
    · rw [D.py] at h4
      cases e : D.pys xs with
      | none => rw [e] at h4; cases h4
      | some ps => rw [e] at h4; cases h4; exact ⟨ps, rfl, rfl⟩
  obtain ⟨ps, e1, e2⟩ := hq
  unfold inSeq
  rw [topPy_cmp st hx, topPy_cmp st hc, h1, h4, Option.bind_some, Option.bind_some, e2, Option.bind_some, if_pos (by rw [shaped_cmp h2 h3 hn, shaped_cmp h5 h6 hm]; rfl)]
  congr 1
  rw [Bool.eq_iff_iff, hb, List.any_eq_true]
  have hp : pn p = x.norm := pn_py h1
  have cl : PyData.canLayAll0 ps = true := by
    cases q <;> first | (cases e2; rw [PyData.canLay0] at h5; exact h5) | cases e2
  have key : ∀ {xs : List D} {ps : List PyData}, D.pys xs = some ps → PyData.canLayAll0 ps = true → ((∃ z ∈ ps, PyData.eqv z p = true) ↔ ∃ y ∈ xs, y.norm = x.norm) := by
    intro xs
    induction xs with
    | nil => intro ps e _; rw [D.pys] at e; cases e; simp
    | cons y ys ih =>
      intro ps e hcl
      rw [D.pys] at e
      cases e3 : D.py y with
      | none => rw [e3] at e; cases e
      | some a =>
        rw [e3, Option.bind_some] at e
        cases e4 : D.pys ys with
        | none => rw [e4] at e; cases e
        | some as =>
          rw [e4] at e
          have ea : ps = a :: as := (Option.some.inj e).symm
          subst ea
          rw [PyData.canLayAll0, Bool.and_eq_true] at hcl
          have h7 : (PyData.eqv a p = true) ↔ y.norm = x.norm := by
            rw [eqv_iff a p (PyData.hasDict_of_canLay a hcl.1), hp, pn_py e3]
          have h9 := ih e4 hcl.2
          constructor
          · rintro ⟨z, hz, hh⟩
            rcases List.mem_cons.mp hz with z1 | z1
            · subst z1; exact ⟨y, List.mem_cons_self, h7.mp hh⟩
            · obtain ⟨u, hu, hv⟩ := h9.mp ⟨z, z1, hh⟩
              exact ⟨u, List.mem_cons_of_mem _ hu, hv⟩
          · rintro ⟨z, hz, hh⟩
            rcases List.mem_cons.mp hz with z1 | z1
            · subst z1; exact ⟨a, List.mem_cons_self, h7.mpr hh⟩
            · obtain ⟨u, hu, hv⟩ := h9.mpr ⟨z, z1, hh⟩
              exact ⟨u, List.mem_cons_of_mem _ hu, hv⟩
  exact key e1 cl
theorem ex_norm {α : Type} [DecidableEq α] {enc : α → D} (hinj : ∀ a b, enc a = enc b → a = b) (hn : ∀ a, (enc a).norm = enc a) (x : α) (xs : List α) : decide (x ∈ xs) = true ↔ ∃ y ∈ xs.map enc, y.norm = (enc x).norm := by
  rw [decide_eq_true_eq]
  constructor
  · exact fun h => ⟨enc x, List.mem_map.mpr ⟨x, h, rfl⟩, rfl⟩
  · rintro ⟨y, hy, e⟩
    obtain ⟨z, hz, rfl⟩ := List.mem_map.mp hy
    rw [hn, hn] at e
    rw [← hinj _ _ e]
    exact hz
theorem inD_row (p : Int) (r : Rw) : inD st (.int p) (rowD r) = some (.bl (decide (p ∈ r))) := by
  unfold inD
  rw [inSeq_of (n := 0) (m := 1) st rfl (cmp_row r) (.inl rfl) (ex_norm int_inj (fun _ => by rw [D.norm]) p r) (by decide) (by decide)]
  rfl
theorem notInD_row (p : Int) (r : Rw) : notInD st (.int p) (rowD r) = some (.bl (!decide (p ∈ r))) := by
  unfold notInD
  rw [inSeq_of (n := 0) (m := 1) st rfl (cmp_row r) (.inl rfl) (ex_norm int_inj (fun _ => by rw [D.norm]) p r) (by decide) (by decide)]
  rfl
theorem inD_lints (p : Int) (r : Rw) : inD st (.int p) (.lst (r.map D.int)) = some (.bl (decide (p ∈ r))) := by
  unfold inD
  rw [inSeq_of (n := 0) (m := 1) st rfl (cmp_lints r) (.inr rfl) (ex_norm int_inj (fun _ => by rw [D.norm]) p r) (by decide) (by decide)]
  rfl
theorem inD_rows (r : Rw) (F : List Rw) : inD st (rowD r) (.tup (F.map rowD)) = some (.bl (decide (r ∈ F))) := by
  unfold inD
  rw [inSeq_of (n := 1) (m := 2) st (cmp_row r) (cmp_rows F) (.inl rfl) (ex_norm row_inj norm_row r F) (by decide) (by decide)]
  exact congrArg (fun b => some (D.bl b)) (decide_eq_decide.mpr Iff.rfl)
theorem notInD_rows (r : Rw) (F : List Rw) : notInD st (rowD r) (.tup (F.map rowD)) = some (.bl (!decide (r ∈ F))) := by
  unfold notInD
  rw [inSeq_of (n := 1) (m := 2) st (cmp_row r) (cmp_rows F) (.inl rfl) (ex_norm row_inj norm_row r F) (by decide) (by decide)]
  exact congrArg (fun b => some (D.bl (!b))) (decide_eq_decide.mpr Iff.rfl)
end
end L3
namespace L3
open PySem PySem.Spec PyProof.Rows L2

/-! ## Rows, reckoned -/
section
variable (st : Sto) (r a b : Rw)
theorem ev_kSA_row : kSA (rowD r) st = .ok (r.map .int, none) st := rfl
theorem ev_isi_row (T' : String) : kIsi T' (rowD r) st = R.ofO ((kitB "tuple" T').map .bl) st := ev_isi_tup T' st (r.map .int)
theorem ev_len_row : lenD st [rowD r] = some (.int (r.map D.int).length) := rfl
theorem ev_rev_row : revD st (rowD r) = some (.tup (r.map D.int).reverse) := rfl
theorem ev_list_row : listD st [rowD r] = some (.lst (r.map D.int)) := rfl
theorem ev_tuple_row : tupleD st [rowD r] = some (rowD r) := rfl
theorem ev_tuple_ints : tupleD st [.lst (r.map .int)] = some (rowD r) := rfl
theorem ev_kSl3_row (l h : Option Int) : kSl3 (rowD r) l h st = .ok (.tup (cutD (r.map D.int) l h)) st := rfl
theorem ev_add_row : addD st (rowD a) (rowD b) = if fits ((a.map D.int).length + (b.map D.int).length) = true then some (.tup (a.map D.int ++ b.map D.int)) else none := ev_addTT st _ _
theorem ev_add_row1 (d : D) : addD st (rowD a) (.tup [d]) = if fits ((a.map D.int).length + 1) = true then some (.tup (a.map D.int ++ [d])) else none := ev_addTT st _ _
theorem ev_kSt0_row (env : DEnv) (m : AM) : kSt0 m env (rowD r) st = R.go (m env st) (kSt2 (r.map .int)) := rfl
theorem ev_kZ2_row (ys : List D) : kZ2 (rowD r) (.tup ys) st = .ok (zipD (r.map .int) ys, none) st := rfl
theorem ev_kSl3C (n : Nat) (l h : Option Int) : kSl3 (.cell n) l h st = R.ofO ((C.seq st[n]?).map fun xs => .lst (cutD xs l h)) st := by
  show R.ofO ((lstOf st (.cell n)).map fun xs => D.lst (cutD xs l h)) st = _
  rw [lstOf_seq]
end
theorem cut_tail (xs : List D) : cutD xs (some 1) none = xs.tail := by
  unfold cutD
  have e1 : HT.sIx xs.length xs.length none = xs.length := HT.sIx_none ..
  have e2 : HT.sIx xs.length 0 (some 1) = min 1 xs.length := HT.sIx_nat xs.length 0 1
  rw [e1, e2]
  cases xs with
  | nil => rfl
  | cons x xs =>
    have : min 1 (x :: xs).length = 1 := by simp
    rw [this, List.drop_one, List.tail_cons, List.take_of_length_le]
    simp
theorem zip_next {α : Type} (enc : α → D) (xs : List α) : zipD (xs.map enc) (xs.map enc).tail = (xs.zip xs.tail).map fun p => .tup [enc p.1, enc p.2] := by
  unfold zipD
  rw [← List.map_tail, List.zip_map, List.map_map]
  rfl
/-- one behind the other, each with the next -/
def nextB {α : Type} (lt : α → α → Bool) (xs : List α) : Bool := ((xs.zip xs.tail).map fun p => lt p.1 p.2).all id
theorem nextB_cons {α : Type} (lt : α → α → Bool) (x y : α) (xs : List α) : nextB lt (x :: y :: xs) = (lt x y && nextB lt (y :: xs)) := by
  unfold nextB
  simp
theorem nextB_iff {α : Type} {lt : α → α → Bool} (tr : ∀ a b c, lt a b = true → lt b c = true → lt a c = true) : ∀ {xs : List α}, nextB lt xs = true ↔ xs.Pairwise fun a b => lt a b = true
  | [] => by simp [nextB]
  | [x] => by simp [nextB]
  | x :: y :: xs => by
    rw [nextB_cons, Bool.and_eq_true, nextB_iff tr, List.pairwise_cons (a := x)]
    constructor
    · rintro ⟨h1, h2⟩
      refine ⟨fun z hz => ?_, h2⟩
      rcases List.mem_cons.mp hz with e | hz
      · rw [e]; exact h1
      · exact tr _ _ _ h1 ((List.pairwise_cons.mp h2).1 z hz)
    · rintro ⟨h1, h2⟩
      exact ⟨h1 y List.mem_cons_self, h2⟩
def ascB (r : Rw) : Bool := nextB ilt r
theorem ascB_iff {r : Rw} : ascB r = true ↔ Asc r := by
  unfold ascB Asc
  rw [nextB_iff sto_int.tr]
  constructor
  · exact fun h => h.imp fun h => of_decide_eq_true h
  · exact fun h => h.imp fun h => decide_eq_true h
def inwB (w : Int) (r : Rw) : Bool := (r.map fun p => decide (0 ≤ p) && decide (p < w)).all id
theorem inwB_iff {w : Nat} {r : Rw} : inwB (w : Int) r = true ↔ InW w r := by
  unfold inwB InW
  rw [List.all_map, List.all_eq_true]
  constructor
  · intro h p hp
    have := h p hp
    simpa using this
  · intro h p hp
    have := h p hp
    simpa using this
def antiB (F : List Rw) : Bool := !((F.flatMap fun one => F.map fun other => !decide (one = other) && has one other).any id)
theorem antiB_of {F : List Rw} (h : ∀ a ∈ F, ∀ b ∈ F, has a b = true → a = b) : antiB F = true := by
  unfold antiB
  cases e : (F.flatMap fun one => F.map fun other => !decide (one = other) && has one other).any id with
  | false => rfl
  | true =>
    obtain ⟨x, hx, hxe⟩ := List.any_eq_true.mp e
    obtain ⟨a, ha, hx⟩ := List.mem_flatMap.mp hx
    obtain ⟨b, hb, rfl⟩ := List.mem_map.mp hx
    have h1 : (!decide (a = b) && has a b) = true := hxe
    rw [Bool.and_eq_true] at h1
    rw [decide_eq_true (h a ha b hb h1.2)] at h1
    cases h1.1
theorem antiB_iff {F : List Rw} : antiB F = true ↔ ∀ a ∈ F, ∀ b ∈ F, has a b = true → a = b := by
  refine ⟨fun h a ha b hb hh => ?_, antiB_of⟩
  by_cases e : a = b
  · exact e
  · exfalso
    unfold antiB at h
    have : (F.flatMap fun one => F.map fun other => !decide (one = other) && has one other).any id = true :=
      List.any_eq_true.mpr ⟨true, List.mem_flatMap.mpr ⟨a, ha, List.mem_map.mpr ⟨b, hb, by rw [decide_eq_false e, hh]; rfl⟩⟩, rfl⟩
    rw [this] at h
    cases h
/-- small numbers -/
def Small (r : Rw) : Prop := ∀ p ∈ r, p.natAbs < 2 ^ 1300
theorem InW.small {w : Nat} (hw : w ≤ 5) {r : Rw} (h : InW w r) : Small r := fun p hp => by
  have := h p hp
  exact Nat.lt_of_lt_of_le (show p.natAbs < 2 ^ 3 by omega) (Nat.pow_le_pow_right (by decide) (by decide))
theorem asc_len {w : Nat} {r : Rw} (h : Asc r) (h' : InW w r) : r.length ≤ w := by
  have := nd_le h.nodup (m := (List.range w).map fun i : Nat => (i : Int)) fun p hp => List.mem_map.mpr ⟨p.toNat, List.mem_range.mpr (by have := h' p hp; omega), by have := h' p hp; omega⟩
  rw [List.length_map, List.length_range] at this
  exact this
theorem FamW.few {w : Nat} (hw : w ≤ 5) {F : List Rw} (h : FamW w F) : F.length ≤ 31 := few_sets hw h.fam.nodup h.sub
end L3
namespace L3
open PySem PySem.Spec PyProof.Rows L2
theorem hards_all : ∀ (ds : List D), (∀ d ∈ ds, D.hard d = true) → D.hards ds = true
  | [], _ => by rw [D.hards]
  | d :: ds, h => by rw [D.hards, h d List.mem_cons_self, hards_all ds fun x hx => h x (List.mem_cons_of_mem _ hx)]; rfl
theorem hard_row (r : Rw) : D.hard (rowD r) = true := by
  unfold rowD
  rw [D.hard]
  refine hards_all _ fun d hd => ?_
  obtain ⟨x, _, rfl⟩ := List.mem_map.mp hd
  rw [D.hard]
theorem hard_rows (F : List Rw) : D.hard (.tup (F.map rowD)) = true := by
  rw [D.hard]
  refine hards_all _ fun d hd => ?_
  obtain ⟨x, _, rfl⟩ := List.mem_map.mp hd
  exact hard_row x
/-- an argument that stands in a cell -/
theorem iso_cell1 {m : List D → M D} {n : Nat} {xs : List D} {d : D} {st : Sto} (h : ∀ t, isoD m [.lst xs] t = .ok d t) (hs : st[n]? = some (.lst xs)) (hx : D.bels 0 xs = true) (hh : D.hard d = true) (hb : D.bel 0 d = true) : isoD m [.cell n] st = .ok d st := by
  refine iso_arg h (by rw [bels_cons, bel_lst, hx, bels_nil]; rfl) ?_ hh hb
  have e : frz 0 st 9 (.cell n) = some (.lst xs) := by
    rw [frz, if_neg (by rw [bel_cell]; simp), hs]
    show (mapO (frz 0 st 8) xs).map D.lst = _
    rw [mapO_id hx 7]
    rfl
  rw [mapO, e]
  rfl
end L3
namespace L3
open PySem PySem.Spec PyProof PyProof.Rows L2
/-! ## Told texts -/
theorem ok_app (a b : Str) : PyData.strOk (a ++ b) = (PyData.strOk a && PyData.strOk b) := by
  unfold PyData.strOk
  rw [Str.cps_append, Array.all_append]
theorem ok_ofS (s : String) : PyData.strOk (Str.ofString s) = true := by
  unfold PyData.strOk
  rw [Str.ofString_eq_toList]
  show (s.toList.map Char.toNat).toArray.all _ = true
  rw [List.all_toArray, List.all_eq_true]
  intro x hx
  obtain ⟨c, _, rfl⟩ := List.mem_map.mp hx
  have h : c.val.toNat < 0xd800 ∨ (0xdfff < c.val.toNat ∧ c.val.toNat < 0x110000) := c.valid
  rw [decide_eq_true_eq]
  show c.val.toNat < 0x110000
  omega
theorem ok_join {sep : Str} (h : PyData.strOk sep = true) : ∀ {ts : List Str}, (∀ t ∈ ts, PyData.strOk t = true) → PyData.strOk (Str.join sep ts) = true
  | [], _ => by rw [join_nil]; decide +kernel
  | [x], h' => h' x List.mem_cons_self
  | x :: y :: ts, h' => by
    rw [join_cons_cons, ok_app, ok_app, h' x List.mem_cons_self, h, ok_join h fun t ht => h' t (List.mem_cons_of_mem _ ht)]
    rfl
theorem ok_tupleText {ts : List Str} (h : ∀ t ∈ ts, PyData.strOk t = true) : PyData.strOk (tupleText ts) = true := by
  unfold tupleText
  rw [ok_app, ok_app, ok_join (by decide +kernel) h]
  have : PyData.strOk (((if ts.length == 1 then ",)" else ")" : String)) : Str) = true := ok_ofS _
  rw [this]
  decide +kernel
theorem ok_int (i : Int) : PyData.strOk (D.int i).show = true := ok_ofS _
theorem shownAll_ints : ∀ r : Rw, ∀ t ∈ PyData.shownAll (r.map PyData.int), PyData.strOk t = true
  | [], t, ht => by rw [List.map_nil, PyData.shownAll] at ht; cases ht
  | x :: r, t, ht => by
    rw [List.map_cons, PyData.shownAll] at ht
    rcases List.mem_cons.mp ht with rfl | ht
    · rw [PyData.shown]; exact ok_ofS _
    · exact shownAll_ints r t ht
theorem py_row (r : Rw) : (rowD r).py = some (.tuple (r.map PyData.int)) := by unfold rowD; rw [D.py, pys_ints]; rfl
theorem ok_row (r : Rw) : PyData.strOk (PyData.tuple (r.map PyData.int)).shown = true := by
  rw [PyData.shown]
  exact ok_tupleText (shownAll_ints r)
theorem pys_rows : ∀ F : List Rw, D.pys (F.map rowD) = some (F.map fun r => PyData.tuple (r.map PyData.int))
  | [] => by rw [List.map_nil, D.pys]; rfl
  | r :: F => by rw [List.map_cons, D.pys, py_row, pys_rows F]; rfl
theorem shownAll_rows : ∀ F : List Rw, ∀ t ∈ PyData.shownAll (F.map fun r => PyData.tuple (r.map PyData.int)), PyData.strOk t = true
  | [], t, ht => by rw [List.map_nil, PyData.shownAll] at ht; cases ht
  | x :: r, t, ht => by
    rw [List.map_cons, PyData.shownAll] at ht
    rcases List.mem_cons.mp ht with rfl | ht
    · exact ok_row x
    · exact shownAll_rows r t ht
theorem ok_rows (F : List Rw) : PyData.strOk (D.tup (F.map rowD)).show = true := by
  unfold D.show
  rw [D.py, pys_rows]
  show PyData.strOk (PyData.shown (.tuple _)) = true
  rw [PyData.shown]
  exact ok_tupleText (shownAll_rows F)
theorem ok_row_show (r : Rw) : PyData.strOk (rowD r).show = true := by
  unfold D.show
  rw [py_row]
  exact ok_row r
end L3
namespace L3
open PySem PySem.Spec PyProof PyProof.Rows L2
open Sem (wp)
/-! ## Lists taken apart -/
section
variable {prog : Program} {w : World} {A : Around} {E : Value → Shared → Prop} {s : Shared}
theorem listL_extBut {h h' : Heap} {a b : Addr} {its} (x : h.IsList a its) (hs : Heap.ExtBut b h h') (hab : a ≠ b) : h'.IsList a its := by
  obtain ⟨o, ho, r⟩ := x
  exact ⟨o, hs a o hab ho, r⟩
theorem draw_list {it t : Addr} {items : Array Value} (hne : t ≠ it) : ∀ (n i : Nat) (s : Shared) (Q : List Value → Shared → Prop), s.heap.IsListIter it t i → s.heap.IsList t items → i + n ≤ items.size →
    (∀ h', h'.IsListIter it t (i + n) → Heap.SameBut it s.heap h' → Q ((items.toList.drop i).take n) { s with heap := h' }) → wpAny (model prog w) A (draw (.ref it) n) Q E s
  | 0, i, s, Q, hit, _, _, hQ => by
    show wpAny _ _ (pure []) Q E s
    exact wpAny_pure (by simpa using hQ s.heap hit (Heap.SameBut.refl ..))
  | n + 1, i, s, Q, hit, ht, hle, hQ => by
    have hlt : i < items.size := by omega
    show wpAny _ _ (pyNext (.ref it) >>= _) Q E s
    refine wpAny_bind (wpAny_pyNext_list_item hit ht (x := items[i]) (by simp [hlt]) fun h₁ hit₁ hs₁ => ?_)
    refine wpAny_bind (wpAny_holding (draw_list hne n (i + 1) _ _ hit₁ (listL_extBut ht hs₁.extBut hne) (by omega) fun h₂ hit₂ hs₂ => wpAny_pure ?_))
    have hd : items.toList.drop i = items[i] :: items.toList.drop (i + 1) := by simp [List.drop_eq_getElem_cons, hlt]
    have := hQ h₂ (by rw [show i + (n + 1) = i + 1 + n by omega]; exact hit₂) (hs₁.trans hs₂)
    rw [hd, List.take_succ_cons] at this
    exact this
theorem unpackItems_list {t : Addr} {items : Array Value} {Q : List Value → Shared → Prop} (hh : A.handled = none) (ht : s.heap.IsList t items)
    (hQ : ∀ h', Heap.ExtBut s.heap.objs.size s.heap h' → Q items.toList { s with heap := h' }) : wpAny (model prog w) A (unpackItems (.ref t) items.size none) Q E s := by
  have hlt : t ≠ s.heap.objs.size := by obtain ⟨o, ho, _⟩ := ht; exact Nat.ne_of_lt (Heap.lt_size ho)
  have hp : ∀ o, (s.heap.push o).IsList t items := fun o => by
    obtain ⟨u, hu, r⟩ := ht
    exact ⟨u, Heap.get?_push_of_some _ hu, r⟩
  unfold unpackItems
  refine wpAny_bind ?_
  · unfold notIterableAtAll
    refine wpAny_bind (wpAny_specialOf ht.typeIs slot_list_iter.lookup ?_)
    refine wpAny_pure ?_
    simp only [Bool.false_eq_true, if_false]
    refine wpAny_bind (wpAny_holding (wpAny_pyIter_list ht ?_))
    refine wpAny_bind (wpAny_holding (draw_list hlt items.size 0 _ _ ⟨_, Heap.get?_push_size _ rfl, rfl, rfl⟩ (hp _) (by omega) fun h₁ hit₁ hs₁ => ?_))
    have hall : List.take items.size (List.drop 0 items.toList) = items.toList := by
      rw [List.drop_zero]; exact List.take_of_length_le (by simp)
    rw [hall]
    rw [if_neg (by simp)]
    have ht₁ : h₁.IsList t items := listL_extBut (hp _) hs₁.extBut hlt
    refine wpAny_bind (wpAny_holding (wpAny_pyNext_list_end hh hit₁ ht₁ (by simp) fun h₂ he₂ => ?_))
    simp only [Option.isSome_none, Bool.false_eq_true, if_false]
    refine wpAny_pure (hQ h₂ fun b o hb e => he₂ b o hb (hs₁.extBut b o hb (Heap.get?_push_of_some _ e)))
theorem assign_Tuple_list {env : Env} {elts : List Expr} {x1} {pos : Pos} {t : Addr} {items : Array Value} {Q : Unit → Shared → Prop} (hh : A.handled = none) (ht : s.heap.IsList t items)
    (hn : (assignEach elts env).length = items.size) (hstar : (assignEach elts env).findIdx? (·.1) = none)
    (h : ∀ h', Heap.ExtBut s.heap.objs.size s.heap h' → wpAny (model prog w) A (assignInOrder ((assignEach elts env).map (·.2)) items.toList) Q E { s with heap := h' }) :
    wpAny (model prog w) A (assign (.Tuple elts x1 pos) env (.ref t)) Q E s := by
  rw [assign_Tuple]
  refine wpAny_bind (wpAny_standAt ?_)
  unfold unpack
  rw [hn, hstar]
  exact wpAny_bind (wpAny_holding (unpackItems_list hh ht h))
end
section
variable {X : Cx} {pos : Pos}
def gLstN (K : PySem.W.Frag) (n : Nat) (t : TGs) : TG := fun v σ H Q => ∃ a xs, v = .ref a ∧ SqL K H a xs ∧ xs.length = n ∧ t xs σ H Q
theorem pg_lst {es : List Expr} {k : Nat} {t : TGs} {n : Nat} (hc : X.calm = true) (h : PGs X es t)
    (hn : (assignEach es X.env).length = n := by rfl) (hst : (assignEach es X.env).findIdx? (·.1) = none := by rfl) : PG X (.Tuple es k pos) (gLstN X.K n t) := by
  refine ⟨fun pins s σ H v u Q I r hw => ?_⟩
  obtain ⟨a, xs, e1, hq, hl, hw⟩ := hw
  subst e1
  cases r
  obtain ⟨its, rv, ht, hz⟩ := I.list hq
  refine assign_Tuple_list (I.ok.hd hc) ht.isList (by simp [hn, ← hl, rv.length]) hst fun h' hx => ?_
  have I1 : Inv X pins σ H { s with heap := h' } := I.kept (t' := s.toks) fun b o e => hx b o (Nat.ne_of_lt (Heap.lt_size e)) e
  exact h.run pins _ σ H xs _ Q I1 (by simpa using rv) hw
def gU2 (i j : Nat) : D → DEnv → Option DEnv := fun d env => match d with
  | .lst [x, y] => some ((env.set i (some x)).set j (some y))
  | _ => none
def gU3 (i j k : Nat) : D → DEnv → Option DEnv := fun d env => match d with
  | .lst [x, y, z] => some (((env.set i (some x)).set j (some y)).set k (some z))
  | _ => none
theorem dg_lst3 {i j l : Nat} {x y z : Str} {px py pz : Pos} {k : Nat} (hc : X.calm = true) (hN : X.N.Nodup) (hi : X.N[i]? = some x) (hx : Loc X.env.scope x) (hj : X.N[j]? = some y) (hy : Loc X.env.scope y) (hl : X.N[l]? = some z) (hz : Loc X.env.scope z)
    (hfx : X.fn x = true ∨ X.env.scope.names.lookup x = some .local := by first | exact .inl rfl | exact .inr rfl | assumption) (hfy : X.fn y = true ∨ X.env.scope.names.lookup y = some .local := by first | exact .inl rfl | exact .inr rfl | assumption)
    (hfz : X.fn z = true ∨ X.env.scope.names.lookup z = some .local := by first | exact .inl rfl | exact .inr rfl | assumption)
    (h1 : (assignEach [.Name x px, .Name y py, .Name z pz] X.env).length = 3 := by rfl) (h2 : (assignEach [.Name x px, .Name y py, .Name z pz] X.env).findIdx? (·.1) = none := by rfl)
    (h3 : (assignEach (.Name x px :: [.Name y py, .Name z pz]) X.env).map (·.2) = assign (.Name x px) X.env :: (assignEach [.Name y py, .Name z pz] X.env).map (·.2) := by rfl)
    (h4 : (assignEach (.Name y py :: [.Name z pz]) X.env).map (·.2) = assign (.Name y py) X.env :: (assignEach [.Name z pz] X.env).map (·.2) := by rfl)
    (h5 : (assignEach (.Name z pz :: []) X.env).map (·.2) = assign (.Name z pz) X.env :: (assignEach [] X.env).map (·.2) := by rfl) : DG X (.Tuple [.Name x px, .Name y py, .Name z pz] k pos) [i, j, l] (gU3 i j l) := by
  refine fun T => ⟨fun pins s σ H v u Q I rv ⟨G, ι, st, env, d, w, r, rd, p⟩ => (pg_lst hc (pgs_cons (pg_name hN hi hx hfx) (pgs_cons (pg_name hN hj hy hfy) (pgs_cons (pg_name hN hl hz hfz) pgs_nil h5) h4) h3) h1 h2).run pins s σ H v u Q I rv ?_⟩
  cases rd with
  | @lst a xs ds q hs =>
    cases hs with
    | nil => exact p.elim
    | cons r1 hs =>
      cases hs with
      | nil => exact p.elim
      | cons r2 hs =>
        cases hs with
        | nil => exact p.elim
        | cons r3 hs =>
          cases hs with
          | cons _ _ => exact p.elim
          | nil =>
            refine ⟨a, _, rfl, .of (w.same _ _ q), rfl, _, _, rfl, _, _, rfl, _, _, rfl, rfl, ?_⟩
            refine p _ (((r.set r1 i).set r2 j).set r3 l) (by simp) fun n hn => ?_
            rw [List.getElem?_set_ne (fun z => hn (by simp [z])), List.getElem?_set_ne (fun z => hn (by simp [z])), List.getElem?_set_ne (fun z => hn (by simp [z]))]
  | _ => exact p.elim
theorem dg_lst2 {i j : Nat} {x y : Str} {px py : Pos} {k : Nat} (hc : X.calm = true) (hN : X.N.Nodup) (hi : X.N[i]? = some x) (hx : Loc X.env.scope x) (hj : X.N[j]? = some y) (hy : Loc X.env.scope y)
    (hfx : X.fn x = true ∨ X.env.scope.names.lookup x = some .local := by first | exact .inl rfl | exact .inr rfl | assumption) (hfy : X.fn y = true ∨ X.env.scope.names.lookup y = some .local := by first | exact .inl rfl | exact .inr rfl | assumption)
    (h1 : (assignEach [.Name x px, .Name y py] X.env).length = 2 := by rfl) (h2 : (assignEach [.Name x px, .Name y py] X.env).findIdx? (·.1) = none := by rfl)
    (h3 : (assignEach (.Name x px :: [.Name y py]) X.env).map (·.2) = assign (.Name x px) X.env :: (assignEach [.Name y py] X.env).map (·.2) := by rfl)
    (h4 : (assignEach (.Name y py :: []) X.env).map (·.2) = assign (.Name y py) X.env :: (assignEach [] X.env).map (·.2) := by rfl) : DG X (.Tuple [.Name x px, .Name y py] k pos) [i, j] (gU2 i j) := by
  refine fun T => ⟨fun pins s σ H v u Q I rv ⟨G, ι, st, env, d, w, r, rd, p⟩ => (pg_lst hc (pgs_cons (pg_name hN hi hx hfx) (pgs_cons (pg_name hN hj hy hfy) pgs_nil h4) h3) h1 h2).run pins s σ H v u Q I rv ?_⟩
  cases rd with
  | @lst a xs ds q hs =>
    cases hs with
    | nil => exact p.elim
    | cons r1 hs =>
      cases hs with
      | nil => exact p.elim
      | cons r2 hs =>
        cases hs with
        | cons _ _ => exact p.elim
        | nil =>
          refine ⟨a, _, rfl, .of (w.same _ _ q), rfl, _, _, rfl, _, _, rfl, rfl, ?_⟩
          refine p _ ((r.set r1 i).set r2 j) (by simp) fun l hl => ?_
          rw [List.getElem?_set_ne (fun z => hl (by simp [z])), List.getElem?_set_ne (fun z => hl (by simp [z]))]
  | _ => exact p.elim
end
section
variable {env : DEnv} {st : Sto}
theorem ev_kAsgU2 (i j : Nat) (x y : D) : kAsg (gU2 i j) (.lst [x, y]) env st = .nx ((env.set i (some x)).set j (some y)) st := rfl
theorem ev_kAsgU3 (i j k : Nat) (x y z : D) : kAsg (gU3 i j k) (.lst [x, y, z]) env st = .nx (((env.set i (some x)).set j (some y)).set k (some z)) st := rfl
end
end L3
namespace L3
open PySem PySem.Spec PyProof.Rows L2

/-! ## A lambda without parameters, handed to a def that calls it -/
theorem upd_comm {H : Hp} {p q : Addr} {a b : HO} (h : p ≠ q) : upd (upd H p a) q b = upd (upd H q b) p a := by
  funext x
  by_cases h1 : x = q
  · rw [h1, upd_same, upd_ne (Ne.symm h), upd_same]
  · rw [upd_ne h1]
    by_cases h2 : x = p
    · rw [h2, upd_same, upd_same]
    · rw [upd_ne h2, upd_ne h2, upd_ne h1]
theorem set_same {α : Type} {l : List α} {n : Nat} {x : α} (h : l[n]? = some x) : l.set n x = l := by
  apply List.ext_getElem?
  intro i
  by_cases e : n = i
  · subst e
    rw [List.getElem?_set_self (List.getElem?_eq_some_iff.mp h).1, h]
  · rw [List.getElem?_set_ne e]
section
variable {X : Cx} {pins : List (Addr × Obj)} {σ : L2.St} {H G : Hp} {s : Shared} {ι : List Addr} {st : Sto} {P c : Addr} {y : Str} {n : Nat} {params : Arguments} {body : Expr} {scope : Scope} {pos : Pos} {Q : Value → Shared → Prop} {E : Value → Shared → Prop}
abbrev lamO (X : Cx) (params : Arguments) (body : Expr) (scope : Scope) (q : Str) (pm : Value) (c' : Addr) (ctv : Value) : Obj :=
  PySem.W.kla_obj "<lambda>" q params body scope (L2.cloFrom X.env.cells scope.names []) pm c' ctv
theorem lam_mk (I : Inv X pins σ H s) (w : WH X.K G ι st H) (hn : st[n]? = some (.tab y)) (hq : X.env.qual ++ "<lambda>" = y ++ ".<locals>.<lambda>") (ht : PySem.W.tabIn X.K y = some (c, P)) (TB : LamX.TabB X.base X.mg c P) (hcode : X.env.code = .ref c)
    (hdef : defaultsOf params X.env = ([], [])) (hfree : ∀ z ∈ scope.names, z.2 = .free → ∃ c, X.env.cells.lookup z.1 = some c)
    (h : ∀ (f c' : Addr) (pm ctv : Value) (H1 G1 : Hp) (s' : Shared), Inv X pins σ H1 s' → Ext ι ι H H1 G G1 → WH X.K G1 ι st H1 → G1 c' = some (LamX.CodeO c' (y ++ ".<locals>.<lambda>")) →
      s'.heap.get? f = some (lamO X params body scope (y ++ ".<locals>.<lambda>") pm c' ctv) → H1 f = none → f ∉ frs X.stack → Q (.ref f) s') :
    wpAny (model X.prog X.w) X.A (eval (.Lambda params body scope pos) X.env) Q E s := by
  obtain ⟨a, ha, cr⟩ := cell_at w hn
  obtain ⟨gP, te, ps, hP, tri, am⟩ := cr
  rw [ht] at te
  have eP : P = a := by simpa using te
  subst eP
  have oP : s.heap.get? P = some { cls := .none, data := .fields ps } := I.hok P _ hP
  have bP : s.heap.BuiltinsAt X.mg P := TB.bm.keeps I.bk
  have nofr : ∀ f, s.heap.objs.size ≤ f → f ∉ frs X.stack := fun f hf z => by
    rcases List.mem_cons.mp (I.stkSub _ z) with e | e
    · have h1 := I.lt
      rw [← e] at h1
      exact absurd hf (Nat.not_le_of_gt h1)
    · exact I.nofs hf e
  refine PySem.W.kla_eval hdef ?_
  rw [hq]
  cases hc : codeAmong pos ps.toList with
  | some cv =>
    obtain ⟨c', rfl, hco⟩ := am pos cv hc
    refine PySem.W.kla_makeFunctionHit (mg := X.mg) (c := c) (P := P) (ps := ps) (closure_ok hfree) I.ok.glob (I.mod.glob.keeps I.bk) hcode (TB.code.keeps I.bk) oP tri hc bP ?_
    intro ctv h' tk hx hsz
    refine h h'.objs.size c' ((X.mg "__name__").getD .none) ctv H G _ (I.kept fun b o e => ?_) .refl w hco ?_ (I.hok.fresh hsz) (nofr _ hsz)
    · exact Heap.get?_push_of_some _ (hx b o e)
    · exact Heap.get?_push_size _ rfl
  | none =>
    refine PySem.W.kla_makeFunction (mg := X.mg) (c := c) (P := P) (ps := ps) (closure_ok hfree) I.ok.glob (I.mod.glob.keeps I.bk) hcode (TB.code.keeps I.bk) oP tri hc TB.gP bP ?_
    intro c' ctv h' tk hx hge hlt hrec htb
    obtain ⟨c2, oc, vs, t, e2, hoc, hd, hv⟩ := hrec
    cases e2
    have hsz : s.heap.objs.size ≤ h'.objs.size := Nat.le_trans hge (Nat.le_of_lt hlt)
    have nC : H c' = none := I.hok.fresh hge
    have nPc : P ≠ c' := ne_of_none hP nC
    have I1 := LamX.inv_table (t' := tk) (q := y ++ ".<locals>.<lambda>") (more := #[rawInt pos.line, rawInt pos.col, .ref c']) (h' := h'.push (lamO X params body scope (y ++ ".<locals>.<lambda>") ((X.mg "__name__").getD .none) c' ctv)) I hP
      (fun b o hb e => Heap.get?_push_of_some _ (hx b o hb e)) (Heap.get?_push_of_some _ htb) hge ⟨oc, vs, t, Heap.get?_push_of_some _ hoc, hd, hv⟩
    rw [upd_comm nPc] at I1
    have w1 := w.fz nC (LamX.CodeO c' (y ++ ".<locals>.<lambda>"))
    have x1 := w.fzExt nC (LamX.CodeO c' (y ++ ".<locals>.<lambda>"))
    have eL : (ps ++ #[rawInt pos.line, rawInt pos.col, .ref c']).toList = ps.toList ++ [rawInt pos.line, rawInt pos.col, .ref c'] := by simp
    have gP' : upd G c' (LamX.CodeO c' (y ++ ".<locals>.<lambda>")) P = none := by rw [upd_ne nPc]; exact gP
    have w2 := w1.put (o := .tbl (ps ++ #[rawInt pos.line, rawInt pos.col, .ref c'])) (c := .tab y) ha gP' ⟨gP', by rw [ht]; rfl, _, upd_same, by rw [eL]; exact PySem.TriplesOk_snoc _ _ _ _ tri, fun p' cv q => by
      rw [eL] at q
      rcases LamX.among_app _ tri q with z | z
      · obtain ⟨c0, e1, e3⟩ := am p' cv z
        exact ⟨c0, e1, Same.upd_new (w.off nC) _ _ e3⟩
      · exact ⟨c', z, upd_same⟩⟩
    rw [set_same hn] at w2
    refine h h'.objs.size c' ((X.mg "__name__").getD .none) ctv _ _ _ I1 (x1.cons w1 (WH.putExt ha)) w2 upd_same (Heap.get?_push_size _ rfl) ?_ (nofr _ hsz)
    have lP := Heap.lt_size oP
    have n1 : h'.objs.size ≠ P := Nat.ne_of_gt (Nat.lt_of_lt_of_le lP hsz)
    have n2 : h'.objs.size ≠ c' := Nat.ne_of_gt hlt
    rw [upd_ne n1, upd_ne n2]
    exact I.hok.fresh hsz
end
/-- f may be called, without arguments: it does what m says -/
structure LamOk (P : Program) (w : World) (K : PySem.W.Frag) (mg : Str → Option Value) (base : Heap) (ad : Str → Option Addr) (k : Nat) (fs : List Addr) (s0 : Shared) (H0 : Hp) (f : Addr) (ok : Hp → List Addr → Prop) (m : M D) : Prop where
  at_ : ∀ (s : Shared) (H : Hp), Un fs [] H0 H s0.heap s.heap → ∃ q params body scope clos pm c' ctv, s.heap.get? f = some (PySem.W.kla_obj "<lambda>" q params body scope clos pm c' ctv)
  run : ∀ (A : Around) (outer : List Env) (s : Shared) (H : Hp) (Q : VK) (E : XK), RoomG k A → Env0 P w K mg base A outer s H → Un fs [] H0 H s0.heap s.heap →
    (∃ G ι st, WH K G ι st H ∧ ok G ι ∧ PostE K ⟨ad, none, none⟩ G ι H (m st) E Q) → codeAny (model P w) A (.call (.ref f) ⟨[], []⟩) (CR (L2.CX P w) outer P w H s Q E) s
theorem PostE.ad {K : PySem.W.Frag} {T T' : CT} {G : Hp} {ι : List Addr} {H : Hp} {r : R D} {E : XK} {Q : VK} (e : T.addr = T'.addr) (p : PostE K T G ι H r E Q) : PostE K T' G ι H r E Q := by
  cases r with
  | ok _ _ => exact p
  | bad => exact p
  | ex x st' => exact fun c dd G' ι' H' x1 w1 ⟨a, h1, h2, h3⟩ => p c dd G' ι' H' x1 w1 ⟨a, by rw [e]; exact h1, h2, h3⟩
section
variable {X : Cx} {pins : List (Addr × Obj)} {σ : L2.St} {H0 : Hp} {s0 : Shared} {T : CT} {k : Nat} {env : DEnv} {mb : EM} {f c' : Addr} {params : Arguments} {body : Expr} {scope : Scope} {q : Str} {pm ctv : Value}
theorem lam_ok (I : Inv X pins σ H0 s0) (L : LamX.LamS X.env.scope scope) (hf : s0.heap.get? f = some (lamO X params body scope q pm c' ctv)) (hq : X.env.qual ++ "<lambda>" = q) (hfn : H0 f = none) (hfr : f ∉ frs X.stack)
    (hbind : ∀ (q : Str) (cl : List (Str × Addr)) (pm cv ctv : Value), bindArgs (PySem.W.kla_fn "<lambda>" q params body scope cl pm cv ctv) ⟨[], []⟩ = pure [])
    (hbody : ∀ (A : Around) (outer : List Env) (s : Shared) (H : Hp) (E : XK) (f c' : Addr), RoomG k (A.deeper (LamX.lamEnv X scope s.heap.objs.size f c')) → DE (LamX.lamCx X A outer s H E scope f c') T (fun cls d _ H' => E cls d H') body mb) :
    LamOk X.prog X.w X.K X.mg X.base T.addr (k + 1) (frs X.stack) s0 H0 f (fun G ι => EnvR X.K T G ι σ env ∧ G c' = some (LamX.CodeO c' q)) (mb env) := by
  subst hq
  have there : ∀ (s : Shared) (H : Hp), Un (frs X.stack) [] H0 H s0.heap s.heap → s.heap.get? f = some (lamO X params body scope (X.env.qual ++ "<lambda>") pm c' ctv) := fun s H un => un.keep f _ hf hfn hfr (by simp)
  refine ⟨fun s H un => ⟨_, _, _, _, _, _, _, _, there s H un⟩, fun A outer s H Q E hr e0 un ⟨G, ι, st, w, ⟨r, hc⟩, p⟩ => ?_⟩
  obtain ⟨⟨oc, vs, t, hoc, hd, hv⟩, _, _⟩ := e0.hok c' _ (w.same _ _ hc)
  have lim : s.heap.NoLimit := e0.mod.nolimit.keeps fun a o e => (e0.bs a o e).1
  refine PySem.W.kla_callFunE hr.r.depth (there s H un) rfl L.co L.gen rfl ⟨c', oc, vs, t, rfl, hoc, hd, hv⟩ ?_
  rw [hbind]
  refine wpAny_pure ?_
  refine wpAny_newFunctionEnv (fun y hy => (L.own y hy).2) (fun y hy => by cases hy) (fun h₁ hns hsb => ?_) L.kind
  refine ⟨lim.fresh _ hsb, ?_⟩
  have kp : ∀ b o, s.heap.get? b = some o → h₁.get? b = some o := fun b o e =>
    hsb.extBut b o (Nat.ne_of_lt (Heap.lt_size e)) (Heap.get?_push_of_some _ e)
  have J := LamX.lam_start2 (f := f) (c' := c') (E := E) (tk := s.toks + 0) I L e0 hr.r.hd un hns kp
  refine PySem.W.kla_codeExpr ?_
  have hb := (hbody A outer s H E f c' ⟨hr.r.deeper _, hr.g⟩).run [] _ _ H Q J ⟨G, ι, st, env, w, r, p.ad rfl⟩
  refine wpAny_mono hb (fun v s' hq => ?_) fun e s' hq => hq
  obtain ⟨w', H', J', rv, z⟩ := hq
  exact ⟨w', H', J'.os, J'.bare, J'.base, J'.hok, rv, z⟩
end
/-! ## A def that calls what it got -/
structure FnL (P : Program) (w : World) (K : PySem.W.Frag) (mg : Str → Option Value) (base : Heap) (T : CT) (k : Nat) (g : Addr) (gd : FuncData) (a : Str) (sem : M D → M D) : Prop where
  run : ∀ (A : Around) (outer : List Env) (s : Shared) (H : Hp) (args : Args) (f : Addr) (ok : Hp → List Addr → Prop) (m : M D) (kl : Nat) (Q : VK) (E : XK), (∀ {G G' : Hp} {ι ι' : List Addr}, Same G G' → (∃ t, ι' = ι ++ t) → ok G ι → ok G' ι') → k ≤ kl → RoomG (kl + 1) A → Env0 P w K mg base A outer s H →
    BindsTo s gd args [(a, .ref f)] → LamOk P w K mg base T.addr kl (frs outer) s H f ok m → (∃ G ι st, WH K G ι st H ∧ ok G ι ∧ PostE K T G ι H (sem m st) E Q) → codeAny (model P w) A (.call (.ref g) args) (CR (L2.CX P w) outer P w H s Q E) s
def funL (l : Nat) (b : M D → SM) (m : M D) : M D := fun st => match b m (List.replicate l none) st with
  | .nx _ s => .ok .non s
  | .rt d s => .ok d s
  | .ex x _ s => .ex x s
  | _ => .bad
section
variable {P : Program} {w : World} {K : PySem.W.Frag} {mg : Str → Option Value} {base : Heap} {T : CT}
theorem fnL_ok {x qual a : Str} {st : Stmt} {g : Addr} {gd : FuncData} {N : List Str} {k l : Nat} {b : M D → SM} (F : Fun K x qual st g gd) (S : FnScope N [a] (defScope st))
    (hb : ∀ (cdv : Value) (A : Around) (outer : List Env) (s : Shared) (H : Hp) (E : XK) (f : Addr) (ok : Hp → List Addr → Prop) (mono : ∀ {G G' : Hp} {ι ι' : List Addr}, Same G G' → (∃ t, ι' = ι ++ t) → ok G ι → ok G' ι') (m : M D) (kl : Nat), k ≤ kl → RoomG kl (A.deeper (envOfC qual (defScope st) s.heap.objs.size g cdv)) → LamOk P w K mg base T.addr kl (frs outer) s H f ok m →
      DSs (cxOf (L2.CX P w) P w K mg base N qual (defScope st) g cdv A outer s H E) ⟨T.addr, none, some ⟨0, f, ok, mono⟩⟩ (fun cls d _ H => E cls d H) (defBody st) (b m)) (hl : N.length = l := by rfl) : FnL P w K mg base T k g gd a (funL l b) := by
  subst hl
  obtain ⟨oc, od, kV, doc, pm, an, cdv, ct, osl, rfl, lk, hcd⟩ := F.ex
  refine ⟨fun A outer s H args f ok m kl Q E mono hk hr e0 hbi hL ⟨G, ι, sto, wh, hok, p⟩ => ?_⟩
  have KX : K.In s.heap := e0.mod.kin.keeps fun a o e => (e0.bs a o e).1
  have lim : s.heap.NoLimit := e0.mod.nolimit.keeps fun a o e => (e0.bs a o e).1
  have pl : ∀ z ∈ [(a, Value.ref f)], (defScope st).names.lookup z.1 = some .local ∨ ((defScope st).names.lookup z.1 = some .cell ∧
      ((cellsFrom (s.heap.objs.size + 1) (defScope st).names []).lookup z.1).isSome = true) := fun z hz => by
    obtain rfl : z = (a, Value.ref f) := by simpa using hz
    rcases S.par a (by simp) with q | q
    · exact .inl q
    · exact .inr ⟨q, PySem.W.cellsFrom_some _ _ _ (.inl q)⟩
  refine codeAny_call_function hr.r.depth (KX _ _ lk) rfl S.co S.gen rfl (PySem.W.codeRec_of KX hcd) (hbi _ _ _ _ ?_)
  refine wpAny_newFunctionEnv_cells S.kind pl fun env he s1 x => ?_
  subst he
  refine ⟨lim.keeps x.toInCall.keep, codeAny_func ?_⟩
  have hbody := hb cdv A outer s H E f ok mono m kl hk ⟨hr.r.deeper _, hr.g⟩ hL
  have I : Inv (cxOf (L2.CX P w) P w K mg base N qual (defScope st) g cdv A outer s H E) [] (L2.start N [V.ref f]) H s1 :=
    inv_start (us := [Value.ref f]) (ps := [a]) S hr.r.hd e0 rfl (.cons rfl .nil) x
  have lN : 0 < N.length := by
    have := congrArg List.length S.pre
    rw [List.length_take] at this
    simp at this
    omega
  have hbs : sOf K ⟨T.addr, none, some ⟨0, f, ok, mono⟩⟩ (fun cls d _ H => E cls d H) (b m) { nx := fun _ H' => Q .non H', rt := Q } (L2.start N [V.ref f]) H := by
    refine ⟨G, ι, sto, List.replicate N.length none, wh, ⟨?_, fun i d h => ?_, (fun i a d fs h => by cases h), fun J h => ?_⟩, ?_⟩
    · unfold L2.start
      simp
      omega
    · rw [List.getElem?_replicate] at h
      split at h <;> cases h
    · cases h
      refine ⟨fun _ => ?_, hok⟩
      unfold L2.start
      rfl
    · unfold funL at p
      cases e : b m (List.replicate N.length none) sto with
      | bad => rw [e] at p; exact p
      | bk _ _ => rw [e] at p; exact p.elim
      | ct _ _ => rw [e] at p; exact p.elim
      | ex y _ s2 => rw [e] at p; exact fun c dd σ G' ι' H' x2 w2 _ r2 => p c dd G' ι' H' x2 w2 r2
      | rt d s2 => rw [e] at p; exact fun v G' ι' H' x2 w2 r2 => p v G' ι' H' x2 w2 r2
      | nx _ s2 => rw [e] at p; exact fun σ G' ι' H' x2 w2 _ => p .non G' ι' H' x2 w2 .non
  refine wpAny_mono (hbody.run [] s1 (L2.start N [V.ref f]) H _ I hbs) (fun fl s' hs => ?_) fun e s' hs => hs
  match fl, hs with
  | .ret u, ⟨v, σ', H', J, rv', z⟩ => exact ⟨v, H', J.os, J.bare, J.base, J.hok, rv', z⟩
  | .next, ⟨σ', H', J, z⟩ => exact ⟨.non, H', J.os, J.bare, J.base, J.hok, rfl, z⟩
  | .brk, ⟨_, _, _, z⟩ => exact False.elim z
  | .cont, ⟨_, _, _, z⟩ => exact False.elim z
end
/-- call(), call the name at slot i -/
def eLamV (i : Nat) (m : M D) : EM := fun env => match env[i]? with
  | some none => m
  | _ => M.bad
/-- g(lambda: body); n: where the maker's table of code objects stands -/
def eLam (n : Nat) (y : Str) (sem : M D → M D) (mb : EM) : EM := fun env st => match st[n]? with
  | some (.tab z) => if z = y then sem (mb env) st else .bad
  | _ => .bad
section
variable {X : Cx} {T : CT} {W : WX}
theorem de_clam {ad : Str → Option Addr} {i kl : Nat} {f : Addr} {ok : Hp → List Addr → Prop} {m : M D} {mono : ∀ {G G' : Hp} {ι ι' : List Addr}, Same G G' → (∃ t, ι' = ι ++ t) → ok G ι → ok G' ι'} {x : Str} {p1 p2 : Pos} {cu : Option (Nat × Addr × Addr × List (Str × D))}
    (hL : LamOk X.prog X.w X.K X.mg X.base ad kl X.fs X.s_0 X.H_0 f ok m) (hr : RoomG kl X.A) (tk : Takes X W) (hex : X.ex = [] := by rfl) (hN : X.N[i]? = some x := by rfl) (hv : Vis X.env.scope x := by first | exact Or.inl rfl | exact Or.inr (Or.inl rfl) | exact Or.inr (Or.inr rfl))
    (hd : (x == ("__debug__" : Str)) = false := by decide) (hcd : (x == ("__classdict__" : Str)) = false := by decide) : DE X ⟨ad, cu, some ⟨i, f, ok, mono⟩⟩ W (.Call (.Name x p1) [] [] p2) (eLamV i m) := by
  refine ⟨fun pins s σ H Q I ⟨G, ι, st, env, w, r, q⟩ => ?_⟩
  unfold eLamV at q
  have he : env[i]? = some none := by
    cases e : env[i]? with
    | none => rw [e] at q; exact q.elim
    | some o =>
      cases o with
      | none => rfl
      | some _ => rw [e] at q; exact q.elim
  rw [he] at q
  dsimp only at q
  obtain ⟨hs, hok⟩ := r.cur.2 _ rfl
  refine wpAny_Call_Name_kw (thn ((pe_var (pos := p1) hN hv hd hcd).run pins s σ H (fun v H1 => v = .ref f ∧ H1 = H) I ⟨.ref f, hs he, rfl, rfl⟩) fun u s1 ⟨v, H1, I1, r1, ev, eH⟩ => ?_)
  subst ev
  rw [eH] at I1
  obtain rfl : u = Value.ref f := r1
  have un : Un X.fs [] X.H_0 H X.s_0.heap s1.heap := hex ▸ I1.base
  obtain ⟨_, _, _, _, _, _, _, _, of1⟩ := hL.at_ s1 H un
  refine PySem.W.callWith_F0 ⟨_, _, _, _, of1⟩ ?_
  refine wpAny_call (codeAny_mono (hL.run X.A X.stack s1 H Q (WE W σ) hr I1.env0 un ⟨G, ι, st, w, hok, q.ad rfl⟩) fun res s' hq => ?_)
  match res, hq with
  | .error e, hq => exact passAt tk σ pins H s1 e s' I1 hq
  | .ok (.ret u), hq => exact I1.after hq
  | .ok .next, hq => exact False.elim hq
  | .ok .brk, hq => exact False.elim hq
  | .ok .cont, hq => exact False.elim hq
theorem de_lam {n k0 j : Nat} {y x a : Str} {g c P : Addr} {gd : FuncData} {sem : M D → M D} {mb : EM} {params : Arguments} {body : Expr} {scope : Scope} {p lpos pos : Pos} (F : FnL X.prog X.w X.K X.mg X.base T k0 g gd a sem) (h0 : k0 ≤ j + 1) (hr : RoomG (j + 2) X.A) (hg : Gl X x) (hm : X.mg x = some (.ref g)) (hk : PySem.W.keepIn X.K (.ref g) = true) (hb : Binds X.K gd [a] []) (tk : Takes X W)
    (ht : PySem.W.tabIn X.K y = some (c, P)) (TB : LamX.TabB X.base X.mg c P) (hcode : X.env.code = .ref c) (hq : X.env.qual ++ "<lambda>" = y ++ ".<locals>.<lambda>") (hS : LamX.lamSB X.env.scope scope = true) (hdef : defaultsOf params X.env = ([], []))
    (hbind : ∀ (q : Str) (cl : List (Str × Addr)) (pm cv ctv : Value), bindArgs (PySem.W.kla_fn "<lambda>" q params body scope cl pm cv ctv) ⟨[], []⟩ = pure [])
    (hbody : ∀ (A : Around) (outer : List Env) (s : Shared) (H : Hp) (E : XK) (f c' : Addr), RoomG j (A.deeper (LamX.lamEnv X scope s.heap.objs.size f c')) → DE (LamX.lamCx X A outer s H E scope f c') T (fun cls d _ H' => E cls d H') body mb)
    (hdb : (x == ("__debug__" : Str)) = false := by decide) : DE X T W (.Call (.Name x p) [.Lambda params body scope lpos] [] pos) (eLam n y sem mb) := by
  have L := LamX.lamS_by hS
  refine ⟨fun pins s σ H Q I ⟨G, ι, st, env, w, r, q⟩ => ?_⟩
  unfold eLam at q
  have hn : st[n]? = some (.tab y) := by
    cases e : st[n]? with
    | none => rw [e] at q; exact q.elim
    | some z =>
      cases z with
      | tab z =>
        rw [e] at q
        dsimp only at q
        by_cases hz : z = y
        · rw [hz]
        · rw [if_neg hz] at q; exact q.elim
      | _ => rw [e] at q; exact q.elim
  rw [hn] at q
  dsimp only at q
  rw [if_pos rfl] at q
  refine wpAny_Call_Name_kw (ld_glob I hg hm ?_ hdb)
  refine PySem.W.callWith_K (h₀ := X.base) I.ok.mod.kin hk ?_ (by rfl) (by rfl)
  show wpAny _ _ (spliced ((false, eval (.Lambda params body scope lpos) X.env) :: backTo pos (starEach [] X.env))) _ _ s
  refine Calls.spliced_cons ?_
  refine lam_mk I w hn hq ht TB hcode hdef (L.has I.ok) fun f c' pm ctv H1 G1 s' I1 x1 w1 hco hf hfn hfr => ?_
  refine Calls.spliced_nil ⟨I1.kIn, ?_⟩
  have hL := lam_ok (env := env) I1 L hf hq hfn hfr hbind hbody
  have hbi := hb s' [Value.ref f] I1.kIn rfl
  refine wpAny_call (codeAny_mono (F.run X.A X.stack s' H1 ⟨[.ref f], []⟩ f _ (mb env) (j + 1) Q (WE W σ) (fun sm pre h => ⟨h.1.mono' sm pre, sm _ _ h.2⟩) h0 hr I1.env0 (by simpa using hbi) hL ⟨G1, ι, st, w1, ⟨r.mono x1, hco⟩, ?_⟩) fun res s2 hq => ?_)
  · exact PostE.later q x1 w1
  match res, hq with
  | .error e, hq => exact passAt tk σ pins H1 s' e s2 I1 hq
  | .ok (.ret u), hq => exact I1.after hq
  | .ok .next, hq => exact False.elim hq
  | .ok .brk, hq => exact False.elim hq
  | .ok .cont, hq => exact False.elim hq
end
end L3
namespace L3
open PySem PySem.Spec PyProof.Rows L2

/-! ## The end of a law whose defs make lambdas: their tables stand ahead in the store -/
abbrev Tb : Type := Str × Addr × Addr
def Tb.adr (l : List Tb) : List Addr := l.map (·.2.2)
structure TbOk (K : PySem.W.Frag) (h : Heap) (p : Tb) : Prop where
  inK : PySem.W.tabIn K p.1 = some (p.2.1, p.2.2)
  hd : PySem.W.CodeHd h p.2.1 p.2.2
  out : K.lookup p.2.2 = none
  mt : h.get? p.2.2 = some { cls := .none, data := .fields #[] }
theorem Tb.mem {l : List Tb} {p : Tb} (h : p ∈ l) : p.2.2 ∈ Tb.adr l := List.mem_map.mpr ⟨p, h, rfl⟩
theorem law_spT {K : PySem.W.Frag} {T : CT} {sem : List D → M D} {n : Nat} {l : List Tb} (hl : ∀ p ∈ l, PySem.W.tabIn K p.1 = some (p.2.1, p.2.2)) (nd : (Tb.adr l).Nodup) (h : ∀ ns : List Int, ns.length ≤ n → ∃ st, sem [.scr (ns.map D.int)] (l.map fun p => .tab p.1) = .ok (.bl true) st) (H : Hp) (a : Addr) (ns : List Int) (hn : ns.length ≤ n)
    (hT : ∀ p ∈ l, H p.2.2 = some (.tbl #[])) (hS : SqL K H a (ns.map V.int)) : spD K T sem [.ref a] H (fun v _ => v = .bl true) fun _ _ _ => False := by
  classical
  obtain ⟨st, e⟩ := h ns hn
  let G : Hp := fun b => if b ∈ Tb.adr l then none else H b
  have inT : ∀ b ∈ Tb.adr l, H b = some (.tbl #[]) := fun b hb => by
    obtain ⟨p, hp, rfl⟩ := List.mem_map.mp hb
    exact hT p hp
  have G0 : ∀ b ∈ Tb.adr l, G b = none := fun b hb => if_pos hb
  have G1 : ∀ b, b ∉ Tb.adr l → G b = H b := fun b hb => if_neg hb
  have keepG : ∀ o, H a = some o → o ≠ .tbl #[] → G a = some o := fun o q ne => by
    rw [G1 a fun z => ne (by rw [inT a z] at q; cases q; rfl)]
    exact q
  have hS' : SqL K G a (ns.map V.int) := by
    rcases hS with (q | ⟨o, q⟩) | q
    · exact .inl (.inl (keepG _ q (fun z => by cases z)))
    · exact .inl (.inr ⟨o, keepG _ q (fun z => by cases z)⟩)
    · exact .inr q
  refine ⟨G, Tb.adr l, l.map fun p => .tab p.1, [.scr (ns.map D.int)], ⟨fun b u q => ?_, by simp [Tb.adr], nd, (fun b hb q => by rw [inT b hb] at q; cases q), fun i b c h1 h2 => ?_⟩, .cons (.scr hS' ?_) .nil, ?_⟩
  · by_cases hb : b ∈ Tb.adr l
    · rw [G0 b hb] at q; cases q
    · rw [G1 b hb] at q; exact q
  · unfold Tb.adr at h1
    rw [List.getElem?_map] at h1 h2
    cases q : l[i]? with
    | none => rw [q] at h1; cases h1
    | some p =>
      rw [q] at h1 h2
      cases h1
      cases h2
      have hp : p ∈ l := List.mem_of_getElem? q
      exact ⟨G0 _ (Tb.mem hp), by rw [hl p hp]; rfl, #[], hT p hp, True.intro, fun pos cv z => by simp [codeAmong] at z⟩
  · clear e hn hS hS' keepG
    induction ns with
    | nil => exact .nil
    | cons i r ih => exact .cons (.int i) ih
  · rw [e]
    intro v G' ι' H' x w r
    cases r
    rfl
section
variable {P : Program} {w : World} {K : PySem.W.Frag} {mg mb : Str → Option Value} {k : Nat} {fa a : Addr} {fd : FuncData} {x : Str} {sp : Sp} {s₁ : Shared} {vs : List Value} {ns : List Int} {l : List Tb}
abbrev EndT (P : Program) (w : World) (fa a : Addr) (s₁ : Shared) : Prop :=
  codeAny (model P w) callerA (.call (.ref fa) ⟨[.ref a], []⟩)
    (fun r s' => r = .ok (.ret (.bool true)) ∧ OldK s₁.heap s'.heap ∧ s'.os = s₁.os ∧ AllBare s'.gens) s₁
abbrev BMain (mg : Str → Option Value) (h : Heap) : Prop :=
  ∃ (bm : Addr) (ob : Obj), mg "__builtins__" = some (.ref bm) ∧ bm ≠ builtinsNs ∧ h.get? bm = some ob ∧ ob.cls = .type "module" ∧ ob.dict = some builtinsNs ∧ ob.data = .plain
theorem law_coreT (KX : K.In s₁.heap) (hns : s₁.heap.Ns mainGlobals mg) (hb : s₁.heap.Ns builtinsNs mb) (hbb : ∀ x : Str, x ≠ "__name__" → mb x = bootBuiltins x) (hlim : s₁.heap.NoLimit) (hg : s₁.gens = #[]) (tb : ∀ p ∈ l, TbOk K s₁.heap p) (hbm : BMain mg s₁.heap)
    (ha : s₁.heap.get? a = some { cls := .type "list", data := .seq vs.toArray }) (hr : RoomG k callerA) (F : ∀ base : Heap, K.In base → base.Ns mainGlobals mg → (∀ p ∈ l, LamX.TabB base mg p.2.1 p.2.2) → FnG P w K mg base k fa fd [x] sp) (hbind : ∀ (s : Shared) (u : Value), BindsTo s fd ⟨[u], []⟩ [(x, u)])
    {H : Hp} (hq : sp [.ref a] H (fun v _ => v = .bl true) fun _ _ _ => False) (hO : ∀ b, H b = none ∨ b ∈ Tb.adr l ∨ ∃ o xs, H b = some (.frz o (.lst xs))) (hT : ∀ p ∈ l, H p.2.2 = some (.tbl #[])) (hok : HOk P w H s₁.heap) (hA : ∀ b u, H b = some u → b = a ∨ b ∈ Tb.adr l) (hK : ∀ u, H a = some u → K.lookup a = none) : EndT P w fa a s₁ := by
  have mtT : ∀ b ∈ Tb.adr l, s₁.heap.get? b = some { cls := .none, data := .fields #[] } ∧ K.lookup b = none ∧ H b = some (.tbl #[]) := fun b hb => by
    obtain ⟨p, hp, rfl⟩ := List.mem_map.mp hb
    exact ⟨(tb p hp).mt, (tb p hp).out, hT p hp⟩
  have free : ∀ {b : Addr} {o : Obj}, s₁.heap.get? b = some o → (∀ vs n, o.data ≠ .seq vs n) → o.data ≠ .fields #[] → H b = none := fun {b o} e d1 d2 => by
    cases q : H b with
    | none => rfl
    | some u =>
      rcases hA b u q with e' | e'
      · subst e'
        rw [ha] at e
        cases e
        exact absurd rfl (d1 _ _)
      · rw [(mtT b e').1] at e
        cases e
        exact absurd rfl d2
  have ns_ : ∀ {b : Addr} {m : Str → Option Value}, s₁.heap.Ns b m → (hidT s₁.heap H).Ns b m := fun {b m} ⟨o, es, ep, e, d, r⟩ =>
    ⟨o, es, ep, hidT_get e (free e (fun vs n z => by rw [d] at z; cases z) (fun z => by rw [d] at z; cases z)), d, r⟩
  have kin : K.In (hidT s₁.heap H) := fun b o e => hidT_get (KX b o e) (by
    cases q : H b with
    | none => rfl
    | some u =>
      rcases hA b u q with e' | e'
      · subst e'
        rw [hK u q] at e
        cases e
      · rw [(mtT b e').2.1] at e
        cases e)
  have md : Mod K mg (hidT s₁.heap H) := ⟨kin, ns_ hns, ⟨mb, ns_ hb, hbb⟩, let ⟨mc, h1, h2⟩ := hlim; ⟨mc, ns_ h1, h2⟩⟩
  have TBs : ∀ p ∈ l, LamX.TabB (hidT s₁.heap H) mg p.2.1 p.2.2 := fun p hp => by
    have e0 := (tb p hp).mt
    refine ⟨?_, ?_, fun z => ?_⟩
    · obtain ⟨o, us, file, tf, flags, tg, inF, text, tt, e1, r1, r2, r3, rest⟩ := (tb p hp).hd
      exact ⟨o, us, file, tf, flags, tg, inF, text, tt, hidT_get e1 (free e1 (fun vs n z => by rw [r2] at z; cases z) (fun z => by rw [r2] at z; cases z; simp at r3)), r1, r2, r3, rest⟩
    · obtain ⟨bm, ob, b1, b2, b3, b4, b5, b6⟩ := hbm
      refine ⟨bm, ob, b1, b2, fun q => ?_, fun q => ?_, hidT_get b3 (free b3 (fun vs n z => by rw [b6] at z; cases z) (fun z => by rw [b6] at z; cases z)), b4, b5, b6⟩
      · obtain ⟨o, es, ep, e, d, _⟩ := hns
        rw [q, e] at b3
        cases b3
        rw [d] at b6
        cases b6
      · rw [q, e0] at b3
        cases b3
        cases b6
    · obtain ⟨o, es, ep, e, d, _⟩ := hns
      rw [z, e0] at e
      cases e
      cases d
  have nol : ∀ {b : Addr}, b ∈ frs [] → False := fun {b} z => by cases z
  have e0 : Env0 P w K mg (hidT s₁.heap H) callerA [] s₁ H := ⟨rfl, md, fun b o e => of_hidT e, by rw [hidT_size]; exact Nat.le_refl _, trivial, fun b z => (nol z).elim, hok, .of_eq hg⟩
  refine codeAny_mono ((F _ kin (ns_ hns) TBs).run callerA [] s₁ H ⟨[.ref a], []⟩ [.ref a] [.ref a] _ _ hr e0 (hbind s₁ (.ref a)) (.cons rfl .nil) hq) fun r s' h => ?_
  match r, h with
  | .error e, h =>
    obtain ⟨_, _, _, _, _, _, _, _, _, _, _, _, z⟩ := h
    exact z.elim
  | .ok .next, h => exact False.elim h
  | .ok .brk, h => exact False.elim h
  | .ok .cont, h => exact False.elim h
  | .ok (.ret u), h =>
    obtain ⟨v, H', os, bare, un, hok', r', q⟩ := h
    have ev : v = .bl true := q
    subst ev
    have eu : u = Value.bool true := r'
    subst eu
    have stay : ∀ b o, b ∉ Tb.adr l → s₁.heap.get? b = some o → s'.heap.get? b = some o := fun b o nb e => by
      cases q2 : H b with
      | none => exact un.keep b o e q2 (fun z => nol z) (by simp)
      | some u =>
        rcases hO b with z | z | ⟨ob, xs, z⟩
        · rw [q2] at z; cases z
        · exact absurd z nb
        · obtain ⟨e1, _⟩ := hok b _ z
          obtain ⟨e2, _⟩ := hok' b _ (un.frzs b ob _ z)
          rw [e] at e1
          cases e1
          exact e2
    have grow : ∀ b ∈ Tb.adr l, ∃ more : Array Value, s'.heap.get? b = some { cls := .none, data := .fields more } := fun b hb => by
      obtain ⟨more, z⟩ := un.tbls b #[] (mtT b hb).2.2
      exact ⟨_, hok' b _ z⟩
    refine ⟨rfl, ⟨fun b o e => ?_, fun b o e => ?_⟩, os, bare⟩
    · by_cases hb : b ∈ Tb.adr l
      · obtain ⟨more, hm⟩ := grow b hb
        obtain ⟨p, hp, rfl⟩ := List.mem_map.mp hb
        have t0 := (tb p hp).mt
        rw [t0] at e
        cases e
        exact .inr (.inl ⟨((tb p hp).hd.tab t0).isCodeTable, rfl, #[], more, rfl, by rw [Array.empty_append]; exact hm⟩)
      · exact .inl (stay b o hb e)
    · by_cases hb : b ∈ Tb.adr l
      · obtain ⟨more, hm⟩ := grow b hb
        exact ⟨_, hm⟩
      · exact ⟨o, stay b o hb e⟩
theorem law_callT (KX : K.In s₁.heap) (hns : s₁.heap.Ns mainGlobals mg) (hb : s₁.heap.Ns builtinsNs mb) (hbb : ∀ x : Str, x ≠ "__name__" → mb x = bootBuiltins x) (hlim : s₁.heap.NoLimit) (hg : s₁.gens = #[]) (tb : ∀ p ∈ l, TbOk K s₁.heap p) (hbm : BMain mg s₁.heap)
    (ha : s₁.heap.get? a = some { cls := .type "list", data := .seq vs.toArray }) (hi : IntsAre vs ns) (hl : ns.length ≤ sizeLine) (hr : RoomG k callerA) (F : ∀ base : Heap, K.In base → base.Ns mainGlobals mg → (∀ p ∈ l, LamX.TabB base mg p.2.1 p.2.2) → FnG P w K mg base k fa fd [x] sp)
    (hbind : ∀ (s : Shared) (u : Value), BindsTo s fd ⟨[u], []⟩ [(x, u)]) (hsp : ∀ H : Hp, (∀ p ∈ l, H p.2.2 = some (.tbl #[])) → SqL K H a (ns.map V.int) → sp [.ref a] H (fun v _ => v = .bl true) fun _ _ _ => False) : EndT P w fa a s₁ := by
  classical
  have rv := vals_ints hi
  have lenV := hi.length
  have aT : a ∉ Tb.adr l := fun z => by
    obtain ⟨p, hp, e⟩ := List.mem_map.mp z
    have q := (tb p hp).mt
    rw [e, ha] at q
    have q2 := congrArg Obj.cls (Option.some.inj q)
    cases q2
  have mtT : ∀ b ∈ Tb.adr l, s₁.heap.get? b = some { cls := .none, data := .fields #[] } := fun b hb => by
    obtain ⟨p, hp, rfl⟩ := List.mem_map.mp hb
    exact (tb p hp).mt
  let ob : Obj := { cls := .type "list", data := .seq vs.toArray }
  let H (own : Bool) : Hp := fun b => if b ∈ Tb.adr l then some (.tbl #[]) else if own = true ∧ b = a then some (.frz ob (.lst (ns.map V.int))) else none
  have HT : ∀ own, ∀ b ∈ Tb.adr l, H own b = some (.tbl #[]) := fun own b hb => if_pos hb
  have Ha : H true a = some (.frz ob (.lst (ns.map V.int))) := (if_neg aT).trans (if_pos ⟨rfl, rfl⟩)
  have H0 : ∀ own b, b ∉ Tb.adr l → ¬ (own = true ∧ b = a) → H own b = none := fun own b h1 h2 => (if_neg h1).trans (if_neg h2)
  have go : ∀ own, (own = true → K.lookup a = none) → SqL K (H own) a (ns.map V.int) → EndT P w fa a s₁ := fun own hk hS => by
    refine law_coreT KX hns hb hbb hlim hg tb hbm ha hr F hbind (hsp (H own) (fun p hp => HT own _ (Tb.mem hp)) hS) (fun b => ?_) (fun p hp => HT own _ (Tb.mem hp)) (fun b u z => ?_) (fun b u z => ?_) fun u z => ?_
    · by_cases h1 : b ∈ Tb.adr l
      · exact .inr (.inl h1)
      · by_cases h2 : own = true ∧ b = a
        · rw [h2.1, h2.2]
          exact .inr (.inr ⟨_, _, Ha⟩)
        · exact .inl (H0 own b h1 h2)
    · by_cases h1 : b ∈ Tb.adr l
      · rw [HT own b h1] at z
        cases z
        exact mtT b h1
      · by_cases h2 : own = true ∧ b = a
        · rw [h2.1, h2.2, Ha] at z
          cases z
          rw [h2.2]
          exact ⟨ha, by rw [List.length_map]; exact hl, vs, _, rv, ha⟩
        · rw [H0 own b h1 h2] at z
          cases z
    · by_cases h1 : b ∈ Tb.adr l
      · exact .inr h1
      · by_cases h2 : own = true ∧ b = a
        · exact .inl h2.2
        · rw [H0 own b h1 h2] at z
          cases z
    · cases own with
      | true => exact hk rfl
      | false => rw [H0 false a aT (by simp)] at z; cases z
  cases hk : K.lookup a with
  | none => exact go true (fun _ => hk) (.inl (.inr ⟨ob, Ha⟩))
  | some o =>
    have e := KX a o hk
    rw [ha] at e
    cases e
    exact go false (fun z => by cases z) (.inr ⟨_, vs.toArray, _, hk, rfl, rfl, rfl, by rw [List.size_toArray, lenV]; exact hl, by simpa using rv⟩)
end
theorem law_walkT {l : PySem.W.OpenLaw} {q : Program} {loose : List Str} {XP : (Str → Option Value) → Heap → Prop} {YP : World → Heap → Prop} {d : DefRec} {K : Params → PySem.W.Frag} {sem : List D → M D} {n k : Nat} {x : Str} {ys : List Str} (hn : l.most = some n) (hn2 : n ≤ sizeLine) (hdf : d.params.defaults = []) (hr : RoomG k callerA)
    (hY : ∀ (w : World) (h : Heap), YP w h → (K w.params).In h)
    (F : ∀ (w : World) (mg : Str → Option Value) (fa : Addr) (h : Heap), YP w h → (K w.params).In h → h.Ns mainGlobals mg → mg d.name = some (.ref fa) →
      ∃ (fd : FuncData) (tbs : List Tb) (T : CT), tbs.map (·.1) = ys ∧ (Tb.adr tbs).Nodup ∧ (∀ p ∈ tbs, TbOk (K w.params) h p) ∧ (∀ (s : Shared) (u : Value), BindsTo s fd ⟨[u], []⟩ [(x, u)]) ∧ ∀ base : Heap, (K w.params).In base → base.Ns mainGlobals mg → (∀ p ∈ tbs, LamX.TabB base mg p.2.1 p.2.2) → FnD l.prog w (K w.params) mg base T k fa fd [x] sem)
    (h : ∀ ns : List Int, ns.length ≤ n → ∃ st, sem [.scr (ns.map D.int)] (ys.map C.tab) = .ok (.bl true) st) :
    PySem.W.WalkO q loose XP YP l.row.toRowW d [] (fun f vs => PySem.call f vs) := by
  refine Att.attach_call hn hdf fun w s₀ s₁ mg mb fa o pm cd doc a vs ns G Y ho hd hcd hmg hobj hints hlen hg => ?_
  have KX := hY w _ Y
  obtain ⟨fd, tbs, T, hys, nd, tb, hb, hF⟩ := F w mg fa _ Y KX G.T.g hmg
  subst hys
  refine law_callT (l := tbs) KX G.T.g G.T.b G.T.builtins G.T.nolimit hg tb G.T.bmain hobj hints (Nat.le_trans hlen hn2) hr hF hb fun H hH hS => ?_
  exact law_spT (fun p hp => (tb p hp).inK) nd (by
    have e : (tbs.map (·.1)).map C.tab = tbs.map fun p => C.tab p.1 := by rw [List.map_map]; rfl
    rw [e] at h
    exact h) H a ns hlen hH hS
/-- the code that a def's function object holds -/
theorem code_of_tab {K : PySem.W.Frag} {x : Str} {fa c P : Addr} {fd : FuncData} {oc : Value} {od : Option Addr} {sl : Array (Option Value)} (h1 : PySem.W.nsIn K mainGlobals x = some (some (.ref fa))) (h2 : K.lookup fa = some ⟨oc, od, .func fd, sl⟩) (ht : PySem.W.tabIn K x = some (c, P)) : fd.code = .ref c := by
  unfold PySem.W.tabIn at ht
  rw [h1] at ht
  dsimp only at ht
  rw [h2] at ht
  dsimp only at ht
  split at ht
  · rename_i c2 hc
    split at ht
    · split at ht
      · cases ht
        exact hc
      · cases ht
    · cases ht
  · cases ht
section
variable {P : Program} {w : World} {K : PySem.W.Frag} {mg : Str → Option Value} {base : Heap} {T : CT}
/-- a def whose body makes lambdas: its code object is known -/
theorem fn_okT {x qual : Str} {st : Stmt} {f c : Addr} {fd : FuncData} {N ps : List Str} {k : Nat} {b : SM} (F : Fun K x qual st f fd) (hc : fd.code = .ref c) (S : FnScope N ps (defScope st))
    (hb : ∀ (A : Around) (outer : List Env) (s : Shared) (H : Hp) (E : XK), RoomG k (A.deeper (envOfC qual (defScope st) s.heap.objs.size f (.ref c))) →
      DSs (cxOf (L2.CX P w) P w K mg base N qual (defScope st) f (.ref c) A outer s H E) T (fun cls d _ H => E cls d H) (defBody st) b) {n l : Nat} (hn : ps.length = n := by rfl) (hl : N.length = l := by rfl) (hT : T.cur = none := by rfl) (hT2 : T.fn = none := by rfl) : FnD P w K mg base T (k + 1) f fd ps (funD n l b) := by
  subst hn hl
  obtain ⟨oc, od, kV, doc, pm, an, cdv, ct, osl, rfl, lk, hcd⟩ := F.ex
  obtain rfl : cdv = .ref c := hc
  have len : ∀ vs H Q E, spD K T (funD ps.length N.length b) vs H Q E → vs.length = ps.length := fun vs H Q E h => by
    obtain ⟨G, ι, st, ds, _, r, p⟩ := h
    unfold funD at p
    by_cases hl : ds.length = ps.length
    · rw [r.length]; exact hl
    · rw [if_neg hl] at p; exact p.elim
  refine ⟨len, fun A outer s H args us vs Q E hr e0 hbi rv hsp => ?_⟩
  have hl := len _ _ _ _ hsp
  have KX : K.In s.heap := e0.mod.kin.keeps fun a o e => (e0.bs a o e).1
  have lim : s.heap.NoLimit := e0.mod.nolimit.keeps fun a o e => (e0.bs a o e).1
  have places : ∀ y ∈ ps.zip us, (defScope st).names.lookup y.1 = some .local ∨ ((defScope st).names.lookup y.1 = some .cell ∧
      ((cellsFrom (s.heap.objs.size + 1) (defScope st).names []).lookup y.1).isSome = true) := fun ⟨n, v⟩ hy =>
    (S.par n (List.of_mem_zip hy).1).elim .inl fun q => .inr ⟨q, PySem.W.cellsFrom_some _ _ _ (.inl q)⟩
  refine codeAny_call_function hr.r.depth (KX _ _ lk) rfl S.co S.gen rfl (PySem.W.codeRec_of KX hcd) (hbi _ _ _ _ ?_)
  refine wpAny_newFunctionEnv_cells S.kind places fun env he s1 x => ?_
  subst he
  refine ⟨lim.keeps x.toInCall.keep, codeAny_func ?_⟩
  have hbody := hb A outer s H E ⟨hr.r.deeper _, hr.g⟩
  have I : Inv (cxOf (L2.CX P w) P w K mg base N qual (defScope st) f (.ref c) A outer s H E) [] (L2.start N vs) H s1 := inv_start S hr.r.hd e0 hl rv x
  obtain ⟨G, ι, sto, ds, wh, r, p⟩ := hsp
  have hbs : sOf K T (fun cls d _ H => E cls d H) b { nx := fun _ H' => Q .non H', rt := Q } (L2.start N vs) H := by
    refine ⟨G, ι, sto, _, wh, EnvR.start hT r hT2, ?_⟩
    unfold funD at p
    by_cases hl : ds.length = ps.length
    · rw [if_pos hl, ← hl] at p
      cases e : b (ds.map some ++ List.replicate (N.length - ds.length) none) sto with
      | bad => rw [e] at p; exact p
      | bk _ _ => rw [e] at p; exact p.elim
      | ct _ _ => rw [e] at p; exact p.elim
      | ex y _ s2 => rw [e] at p; exact fun c dd σ G' ι' H' x2 w2 _ r2 => p c dd G' ι' H' x2 w2 r2
      | rt d s2 => rw [e] at p; exact fun v G' ι' H' x2 w2 r2 => p v G' ι' H' x2 w2 r2
      | nx _ s2 => rw [e] at p; exact fun σ G' ι' H' x2 w2 _ => p .non G' ι' H' x2 w2 .non
    · rw [if_neg hl] at p; exact p.elim
  refine wpAny_mono (hbody.run [] s1 (L2.start N vs) H _ I hbs) (fun fl s' hs => ?_) fun e s' hs => hs
  cases fl with
  | ret u =>
    obtain ⟨v, σ', H', J, rv', q⟩ := hs
    exact ⟨v, H', J.os, J.bare, J.base, J.hok, rv', q⟩
  | next =>
    obtain ⟨σ', H', J, q⟩ := hs
    exact ⟨.non, H', J.os, J.bare, J.base, J.hok, rfl, q⟩
  | brk => exact False.elim (let ⟨_, _, _, q⟩ := hs; q)
  | cont => exact False.elim (let ⟨_, _, _, q⟩ := hs; q)
end
end L3
namespace L3
open PySem PySem.Spec PyProof.Rows L2
theorem tab_by {K : PySem.W.Frag} {x : Str} {fa c P : Addr} {fd : FuncData} {oc o2 : Value} {od d2 : Option Addr} {sl s2 : Array (Option Value)} {vs : Array Value} (h1 : PySem.W.nsIn K mainGlobals x = some (some (.ref fa))) (h2 : K.lookup fa = some ⟨oc, od, .func fd, sl⟩) (h3 : fd.code = .ref c) (h4 : K.lookup c = some ⟨o2, d2, .fields vs, s2⟩) (h5 : vs[11]? = some (.ref P)) : PySem.W.tabIn K x = some (c, P) := by
  unfold PySem.W.tabIn
  rw [h1]
  dsimp only
  rw [h2]
  dsimp only
  rw [h3]
  dsimp only
  rw [h4]
  dsimp only
  rw [h5]
theorem tbOk_by {K : PySem.W.Frag} {h : Heap} {x : Str} {c P : Addr} (X : K.In h) (ht : PySem.W.tabIn K x = some (c, P)) (hd : PySem.W.codeHdIn K c P = true) (np : K.lookup P = none) (mt : h.get? P = some { cls := .none, data := .fields #[] }) : TbOk K h (x, c, P) :=
  ⟨ht, PySem.W.codeHd_of_K X hd, np, mt⟩
theorem lam_ev {n : Nat} {y : Str} {sem : M D → M D} {mb : EM} {env : DEnv} {st : Sto} (h : st[n]? = some (.tab y)) : eLam n y sem mb env st = sem (mb env) st := by
  unfold eLam
  rw [h]
  dsimp only
  rw [if_pos rfl]
end L3
namespace L3
open PySem PySem.Spec PyProof.Rows L2

/-! ## repr of an empty dict -/
def reprE (_ : Sto) : List D → Option D
  | [.dic []] => some (.str "{}")
  | _ => none
def reprA (st : Sto) (xs : List D) : Option D := orO (reprD st xs) (reprE st xs)
theorem cd_reprE {X : Cx} (hr : RoomS X.A) : CallD X (.builtin "repr") reprE := fun pins s σ H xs us Q I rx ⟨G, ι, st, ds, w, hx, p⟩ => by
  unfold reprE at p
  cases hx with
  | nil => exact p.elim
  | @cons v d vs ds r rs =>
    cases rs with
    | cons _ _ =>
      cases d with
      | dic kvs => cases kvs <;> exact p.elim
      | _ => exact p.elim
    | nil =>
      cases r with
      | @dic a kvs kds q hs =>
        cases hs with
        | cons _ _ => exact p.elim
        | nil =>
          dsimp only at p
          obtain ⟨u, rfl, ru⟩ := vals1 rx
          obtain rfl : u = Value.ref a := ru
          obtain ⟨_, hne, vs, kv, o, es, ep, ho, hex, hd, _, hp, _⟩ := dk_of I.hok (w.same _ _ q)
          have e1 : vs = [] := by cases kv; rfl
          subst e1
          have e2 : es.toList = [] := List.eq_nil_of_length_eq_zero (by rw [hp.length]; rfl)
          have r1 : Reads s.heap (.ref a) (.dict []) ([a] ++ []) := .dict ho hex.1 hd (by rw [e2]; exact .nil) (by rw [e2]; exact .nil)
          have e3 : PyData.shown (.dict []) = "{}" := by decide +kernel
          refine repr_of_reads' r1 rfl (fun _ z => ?_) hr.g (by have := hr.un; show _ + (1 + 1) < _; omega) (fun b o e => e) (fun h' t tk hk => ?_) (by rw [e3, sizeLine_eq]; decide)
          · obtain rfl : sysModules = a := by simpa using z
            simp at hne
          · rw [e3]
            exact ⟨.str _, H, I.kept hk, ⟨_, rfl⟩, p.val w (.str _)⟩
      | _ => exact p.elim
theorem cd_reprA {X : Cx} (hr : RoomS X.A) : CallD X (.builtin "repr") reprA := (cd_repr hr).or (cd_reprE hr)
theorem ev_reprA {st : Sto} {xs : List D} : reprA st xs = orO (reprD st xs) (reprE st xs) := rfl
theorem ev_reprN {st : Sto} : reprD st [.dic []] = none := rfl
theorem ev_reprE {st : Sto} : reprE st [.dic []] = some (.str "{}") := rfl
theorem lam_expr {n : Nat} {y : Str} {sem : M D → M D} {mb : EM} {env : DEnv} {st s : Sto} {d : D} (h : st[n]? = some (.tab y)) (h2 : sem (mb env) st = .ok d s) : eLam n y sem mb env st = .ok d s := by rw [lam_ev h, h2]
theorem ev_lamV {i : Nat} {m : M D} {env : DEnv} {st : Sto} (h : env[i]? = some none) : eLamV i m env st = m st := by
  unfold eLamV
  rw [h]
end L3
namespace L3
open PySem PySem.Spec PyProof.Rows L2

/-! ## A dict beside a tuple or a list: never equal -/
open PySem.SeqAt AutoSeq1 MeetsSeq in
theorem tup_no_dict (l b : Addr) (items : Array Value) (es : Array DictEntry) (n n2 : Nat) (dd dd2 : Option Addr) (sl sl2 : Array (Option Value)) :
    Meets (Builtin.«tuple.__eq__» ⟨[.ref l, .ref b], []⟩) (fun _ R s => s.heap.get? l = some { cls := .type "tuple", dict := dd, data := .seq items n, slots := sl } ∧ s.heap.get? b = some { cls := .type "dict", dict := dd2, data := .dict es n2, slots := sl2 } ∧ R (.ok (.ret .notImplemented)) s) :=
  .of_wp fun prog w A R s h => by
    obtain ⟨hp, g, d, tk, os⟩ := s
    obtain ⟨hl, hb, h⟩ := h
    have f1 := PySem.F.sub_dict_tuple
    wp_walk using wpAny_loadPart' hl, wpAny_loadPart' hb
    exact ⟨_, rfl, h⟩
open PySem.SeqAt AutoSeq1 MeetsSeq in
theorem lst_no_dict (l b : Addr) (items : Array Value) (es : Array DictEntry) (n n2 : Nat) (dd dd2 : Option Addr) (sl sl2 : Array (Option Value)) :
    Meets (Builtin.«list.__eq__» ⟨[.ref l, .ref b], []⟩) (fun _ R s => s.heap.get? l = some { cls := .type "list", dict := dd, data := .seq items n, slots := sl } ∧ s.heap.get? b = some { cls := .type "dict", dict := dd2, data := .dict es n2, slots := sl2 } ∧ R (.ok (.ret .notImplemented)) s) :=
  .of_wp fun prog w A R s h => by
    obtain ⟨hp, g, d, tk, os⟩ := s
    obtain ⟨hl, hb, h⟩ := h
    have f1 := PySem.F.sub_dict_list
    wp_walk using wpAny_loadPart' hl, wpAny_loadPart' hb
    exact ⟨_, rfl, h⟩
section
variable {X : Cx} {P : Program} {w : World} {A : Around} {s : Shared} {E : Value → Shared → Prop} {a b : Addr} {o : Obj} {T : String}
theorem dict_no {Q : Value → Shared → Prop} (da : s.TypeIs (.ref a) "dict") (db : s.TypeIs (.ref b) T) (hs : isSubtype (.type T) (.type "dict") = pure false) (h : Q .notImplemented s) : wpAny (model P w) A (call (.builtin "dict.__eq__") [.ref a, .ref b]) Q E s := by
  refine wpAny_call_entry PySem.F.slot_dict_eq da PySem.F.entry_dict_eq ?_ (PySem.F.args_dict_eq_2 _ _)
  show wpAny _ _ (Builtin.Dict.dictSlotArgs "__eq__" ⟨[.ref a, .ref b], []⟩ >>= _) _ _ s
  refine wpAny_bind ?_
  unfold Builtin.Dict.dictSlotArgs
  refine wpAny_bind (wpAny_notOrdered_dict da ?_)
  show wpAny _ _ (pure (Value.ref a, Value.ref b)) _ _ s
  refine wpAny_pure ?_
  refine wpAny_bind (wpAny_isInstance (T := T) db hs ?_)
  show wpAny _ _ (if (!false) = true then _ else _) _ _ _
  rw [if_pos (by decide)]
  refine wpAny_bind (wpAny_rule ?_)
  unfold ret
  exact wpAny_pure ⟨_, rfl, h⟩
/-- data that are sequences: tuples, lists that stand by themselves -/
theorem rc_dict_tup {es : Array DictEntry} {ep : Nat} {its : Array Value} {Q : Value → Shared → Prop} (ho : s.heap.get? a = some o) (hex : o.ExactDict) (hd : o.data = .dict es ep) (ht : IsTup s.heap b its) (hu : A.units < cLine) (h : Q (.bool false) s) : wpAny (model P w) A (compareOp .Eq (.ref a) (.ref b)) Q E s := by
  obtain ⟨o2, e2, c2, n, d2⟩ := ht
  obtain ⟨cls, dd, dat, sl⟩ := o
  obtain ⟨cls2, dd2, dat2, sl2⟩ := o2
  obtain ⟨h1, h2, h3⟩ := hex
  simp only at h1 h2 h3 hd c2 d2
  subst h1 h2 h3 hd c2 d2
  have hne : a ≠ b := fun z => by
    rw [z, e2] at ho
    have q := congrArg Obj.data (Option.some.inj ho)
    cases q
  exact PySem.SeqAt.rc_eq_decline_or (k := false) ⟨_, ho, rfl⟩ ⟨_, e2, rfl⟩ (by decide) PySem.F.sub_tuple_dict PySem.F.slot_dict_eq PySem.F.slot_tuple_eq_refl
    (fun _ hq => dict_no ⟨_, ho, rfl⟩ ⟨_, e2, rfl⟩ PySem.F.sub_tuple_dict hq)
    (fun _ hq => call_meets PySem.F.slot_tuple_eq_refl ⟨_, e2, rfl⟩ PySem.F.entry_tuple_eq (PySem.F.args_tuple_eq_2 _ _) (tup_no_dict b a _ _ _ _ _ _ _ _) ⟨e2, ho, hq⟩)
    (fun _ hq => wpAny_isSame_ref_other hne ho e2 (by simp) hq) (.inr hu) h
theorem rc_tup_dict {es : Array DictEntry} {ep : Nat} {its : Array Value} {Q : Value → Shared → Prop} (ho : s.heap.get? a = some o) (hex : o.ExactDict) (hd : o.data = .dict es ep) (ht : IsTup s.heap b its) (hu : A.units < cLine) (h : Q (.bool false) s) : wpAny (model P w) A (compareOp .Eq (.ref b) (.ref a)) Q E s := by
  obtain ⟨o2, e2, c2, n, d2⟩ := ht
  obtain ⟨cls, dd, dat, sl⟩ := o
  obtain ⟨cls2, dd2, dat2, sl2⟩ := o2
  obtain ⟨h1, h2, h3⟩ := hex
  simp only at h1 h2 h3 hd c2 d2
  subst h1 h2 h3 hd c2 d2
  have hne : b ≠ a := fun z => by
    rw [← z, e2] at ho
    have q := congrArg Obj.data (Option.some.inj ho)
    cases q
  exact PySem.SeqAt.rc_eq_decline_or (k := false) ⟨_, e2, rfl⟩ ⟨_, ho, rfl⟩ (by decide) PySem.F.sub_dict_tuple PySem.F.slot_tuple_eq PySem.F.slot_dict_eq_refl
    (fun _ hq => call_meets PySem.F.slot_tuple_eq ⟨_, e2, rfl⟩ PySem.F.entry_tuple_eq (PySem.F.args_tuple_eq_2 _ _) (tup_no_dict b a _ _ _ _ _ _ _ _) ⟨e2, ho, hq⟩)
    (fun _ hq => dict_no ⟨_, ho, rfl⟩ ⟨_, e2, rfl⟩ PySem.F.sub_tuple_dict hq)
    (fun _ hq => PySem.SeqAt.wpAny_isSame_ref_other' hne e2 ho (by simp) hq) (.inr hu) h
/-- where one is a dict, the other one a tuple -/
def eqT (_ : Sto) : D → D → Option D
  | .dic _, .tup _ => some (.bl false)
  | .tup _, .dic _ => some (.bl false)
  | _, _ => none
theorem od_eqT (hr : RoomS X.A) : OpD X (compareOp .Eq) eqT := fun pins s σ H x y v u Q I rx ry ⟨G, ι, st, dx, dy, w, hx, hy, p⟩ => by
  have hu : X.A.units < cLine := by have := hr.un; omega
  cases hx with
  | @dic a kvs kds q hs =>
    cases hy with
    | @tup b xs ds q2 hs2 =>
      obtain rfl : v = Value.ref a := rx
      obtain rfl : u = Value.ref b := ry
      obtain ⟨_, _, vs, _, o, es, ep, ho, hex, hd, _⟩ := dk_of I.hok (w.same _ _ q)
      obtain ⟨its, _, ht, _⟩ := I.tuple (w.same.tup q2)
      exact rc_dict_tup ho hex hd ht hu ⟨.bl _, H, I, rfl, p.val w (.bl _)⟩
    | _ => exact p.elim
  | @tup b xs ds q2 hs2 =>
    cases hy with
    | @dic a kvs kds q hs =>
      obtain rfl : v = Value.ref b := rx
      obtain rfl : u = Value.ref a := ry
      obtain ⟨_, _, vs, _, o, es, ep, ho, hex, hd, _⟩ := dk_of I.hok (w.same _ _ q)
      obtain ⟨its, _, ht, _⟩ := I.tuple (w.same.tup q2)
      exact rc_tup_dict ho hex hd ht hu ⟨.bl _, H, I, rfl, p.val w (.bl _)⟩
    | _ => exact p.elim
  | _ => exact p.elim
def eqA (st : Sto) (x y : D) : Option D := orO (eqD st x y) (eqT st x y)
theorem od_eqA (hr : RoomS X.A) : OpD X (compareOp .Eq) eqA := (od_eq hr).or (od_eqT hr)
theorem ev_eqA (st : Sto) (x y : D) : eqA st x y = orO (eqD st x y) (eqT st x y) := rfl
end
end L3
namespace G
open PySem PySem.Spec PyProof.Rows L2 L3
/-! ## The text -/
def top (i : Nat) : Stmt := PySem.Challenge.pw_grownquorums_k07_errors_of_sets.main.body.getD i (.Pass ⟨0, 0, 0, 0⟩)
abbrev s__law_dice : Stmt := top 49
abbrev s__law_met : Stmt := top 53
abbrev s_is_integer : Stmt := top 8
abbrev s_is_count : Stmt := top 9
abbrev s_is_width : Stmt := top 15
abbrev s_require_width : Stmt := top 16
abbrev s_contains : Stmt := top 19
abbrev s_are_least : Stmt := top 20
abbrev s_are_places : Stmt := top 17
abbrev s_is_set_of : Stmt := top 18
abbrev s_is_family_of : Stmt := top 21
abbrev s_require_family : Stmt := top 22
abbrev s_least_in : Stmt := top 25
abbrev s_do_meet : Stmt := top 32
abbrev s_all_sets : Stmt := top 31
abbrev s_dual_family : Stmt := top 33
abbrev s_holds_one : Stmt := top 27
abbrev s_completed : Stmt := top 41
abbrev s__law_roll : Stmt := top 50
abbrev s__law_pick : Stmt := top 51
abbrev s__law_limit : Stmt := top 52
abbrev s__law_first : Stmt := top 54
abbrev s_blocks_of : Stmt := top 34
abbrev s_set_text : Stmt := top 42
abbrev s_family_text : Stmt := top 43
abbrev s_write_family : Stmt := top 46
abbrev s_require_both : Stmt := top 35
abbrev s_either : Stmt := top 36
abbrev s_both : Stmt := top 37
abbrev s_require_places : Stmt := top 28
abbrev s_is_held : Stmt := top 29
abbrev s_rest_of : Stmt := top 30
abbrev s_moved_family : Stmt := top 39
abbrev s_are_turns : Stmt := top 38
abbrev s_placed : Stmt := top 40
abbrev s_is_set : Stmt := top 23
abbrev s_is_family : Stmt := top 24
abbrev s__law_right : Stmt := top 55
abbrev s_least_of : Stmt := top 26
abbrev s_set_in : Stmt := top 44
abbrev s_family_in : Stmt := top 45
abbrev s_read_family : Stmt := top 47
abbrev s__law_others_right : Stmt := top 56
abbrev s_law : Stmt := top 57
def inner (i j : Nat) : Stmt := match top i with
  | .ClassDef _ _ _ b _ _ _ _ _ _ _ => b.getD j (.Pass ⟨0, 0, 0, 0⟩)
  | _ => .Pass ⟨0, 0, 0, 0⟩
abbrev s_InvalidNumber__init__ : Stmt := inner 5 0
abbrev s_ParseError__init__ : Stmt := inner 4 0
def is_ParseError : Str → Bool := fun n => decide (n = "ParseError")
def is_InvalidOperation : Str → Bool := fun n => decide (n = "InvalidOperation")
def is_InvalidSet : Str → Bool := fun n => decide (n = "InvalidSet")
def is_InvalidNumber : Str → Bool := fun n => decide (n = "InvalidNumber")
def c_BLANK : Str := " "
def c_FIGURES : Str := "01234"
def c_LIMIT : Int := 10 ^ 400
def c_MAX_WIDTH : Int := 5
def c_MIN_WIDTH : Int := 2
/-! ## What each def means -/
def b__law_dice : SM := (sSeq (sSet 2 (eIf (bE (eBin ltA (eVar 1) (eCall lenD (aCons (eVar 0) aNil)))) (eCall intA (aCons (eBin ixD (eVar 0) (eVar 1)) aNil)) (eBin addD (eBin mulD (eC (.int 67)) (eVar 1)) (eC (.int 23)))))
    (sSeq (sSet 3 (eBin (fun _ => modI) (eCall maxD (aCons (eC (.int 0)) (aCons (eBin (fun _ => subI) (eCall absD (aCons (eVar 2) aNil)) (eBin (fun _ => powI) (eC (.int 10)) (eC (.int 15)))) aNil))) (eBin mulD (eBin (fun _ => powI) (eC (.int 10)) (eC (.int 60))) (eBin (fun _ => powI) (eC (.int 10)) (eC (.int 60))))))
    (sRet (eLstC (aCons (eVar 3) (aCons (eBin addD (eBin addD (eBin addD (eBin mulD (eBin (fun _ => modI) (eCall absD (aCons (eVar 2) aNil)) (eC (.int 1152921504606846959))) (eC (.int 41))) (eBin mulD (eC (.int 907)) (eVar 1))) (eBin mulD (eC (.int 29)) (eCall intA (aCons (eBin ltA (eVar 2) (eC (.int 0))) aNil)))) (eC (.int 5))) (aCons (eC (.int 0)) aNil)))))))
def m__law_dice : List D → M D := funD 2 4 b__law_dice
def b__law_met (cb : M D) : SM := (sSeq (sTry (sExpr (eLamV 0 cb)) (⟨is_InvalidNumber, some 1, fun fs5 => (sRet (eBin addD (eC (.str "number ")) (eCall reprA (aCons (eXf 1 fs5 "value") aNil))))⟩ :: (⟨is_InvalidSet, none, fun _ => (sRet (eC (.str "set")))⟩ :: (⟨is_InvalidOperation, none, fun _ => (sRet (eC (.str "operation")))⟩ :: (⟨is_ParseError, some 1, fun fs2 => (sRet (eBin addD (eC (.str "parse ")) (eCall reprA (aCons (eXf 1 fs2 "number") aNil))))⟩ :: [])))))
    (sRet (eC (.str ""))))
def m__law_met : M D → M D := funL 2 b__law_met
def b_is_integer : SM := (sRet (eAnd (eIsi "int" (eVar 0)) (eAnd (eNot (eIsi "bool" (eVar 0))) (eChain ltA ltA (eUn (fun _ => negI) (eC (.int c_LIMIT))) (eVar 0) (eC (.int c_LIMIT))))))
def m_is_integer : List D → M D := isoD (funD 1 1 b_is_integer)
def b_is_count : SM := (sRet (eAnd (eApp m_is_integer (aCons (eVar 0) aNil)) (eBin geD (eVar 0) (eC (.int 0)))))
def m_is_count : List D → M D := isoD (funD 1 1 b_is_count)
def b_is_width : SM := (sRet (eAnd (eApp m_is_count (aCons (eVar 0) aNil)) (eChain leD leD (eC (.int c_MIN_WIDTH)) (eVar 0) (eC (.int c_MAX_WIDTH)))))
def m_is_width : List D → M D := isoD (funD 1 1 b_is_width)
def b_require_width : SM := (sIf (bNot (bE (eApp m_is_width (aCons (eVar 0) aNil)))) (sRaiseF "InvalidNumber" "value" (eVar 0)) sNext)
def m_require_width : List D → M D := isoD (funD 1 1 b_require_width)
def b_contains : SM := (sRet (eCall allD (aCons (eLc (iSeqA (eVar 1)) [2] (gN 2) bYes (eBin inD (eVar 2) (eVar 0))) aNil)))
def m_contains : List D → M D := isoD (funD 2 3 b_contains)
def b_are_least : SM := (sRet (eNot (eCall anyD (aCons (eLc2 (iSeqA (eVar 0)) [1, 2] (gN 1) bYes (iSeqA (eVar 0)) [2] (gN 2) bYes (eAnd (eBin neD (eVar 1) (eVar 2)) (eApp m_contains (aCons (eVar 1) (aCons (eVar 2) aNil))))) aNil))))
def m_are_least : List D → M D := isoD (funD 1 3 b_are_least)
def b_are_places : SM := (sSeq (sIf (bOr (bNot (bE (eIsi "tuple" (eVar 1)))) (bNot (bE (eCall allD (aCons (eLc (iSeqA (eVar 1)) [2] (gN 2) bYes (eAnd (eApp m_is_count (aCons (eVar 2) aNil)) (eBin ltA (eVar 2) (eVar 0)))) aNil))))) (sRet (eC (.bl false))) sNext)
    (sRet (eCall allD (aCons (eLc (iZipD (eVar 1) (eSl (eVar 1) (pInt (eC (.int 1))) pNo)) [3, 4] (gT2 3 4) bYes (eBin ltA (eVar 3) (eVar 4))) aNil))))
def m_are_places : List D → M D := isoD (funD 2 5 b_are_places)
def b_is_set_of : SM := (sRet (eAnd (eApp m_are_places (aCons (eVar 0) (aCons (eVar 1) aNil))) (eBin neD (eVar 1) (eTup aNil))))
def m_is_set_of : List D → M D := isoD (funD 2 2 b_is_set_of)
def b_is_family_of : SM := (sSeq (sIf (bOr (bNot (bE (eIsi "tuple" (eVar 1)))) (bOr (bE (eBin eqA (eVar 1) (eTup aNil))) (bNot (bE (eCall allD (aCons (eLc (iSeqA (eVar 1)) [2] (gN 2) bYes (eApp m_is_set_of (aCons (eVar 0) (aCons (eVar 2) aNil)))) aNil)))))) (sRet (eC (.bl false))) sNext)
    (sRet (eAnd (eCall allD (aCons (eLc (iZipD (eVar 1) (eSl (eVar 1) (pInt (eC (.int 1))) pNo)) [2, 3] (gT2 2 3) bYes (eBin ltA (eVar 2) (eVar 3))) aNil)) (eApp m_are_least (aCons (eVar 1) aNil)))))
def m_is_family_of : List D → M D := isoD (funD 2 4 b_is_family_of)
def b_require_family : SM := (sIf (bNot (bE (eApp m_is_family_of (aCons (eVar 0) (aCons (eVar 1) aNil))))) (sRaise "InvalidSet") sNext)
def m_require_family : List D → M D := isoD (funD 2 2 b_require_family)
def b_least_in : SM := (sSeq (sSet 1 (eUn sortSetA (eVar 0)))
    (sRet (eCall tupleD (aCons (eLc (iSeqA (eVar 1)) [2] (gN 2) (bNot (bE (eCall anyD (aCons (eLc (iSeqA (eVar 1)) [3] (gN 3) bYes (eAnd (eBin neD (eVar 2) (eVar 3)) (eApp m_contains (aCons (eVar 2) (aCons (eVar 3) aNil))))) aNil)))) (eVar 2)) aNil))))
def m_least_in : List D → M D := isoD (funD 1 4 b_least_in)
def b_do_meet : SM := (sRet (eCall anyD (aCons (eLc (iSeqA (eVar 0)) [2] (gN 2) bYes (eBin inD (eVar 2) (eVar 1))) aNil)))
def m_do_meet : List D → M D := isoD (funD 2 3 b_do_meet)
def l1_all_sets : SM := (sExpr (eMeth "list" extendD (eVar 1) (aCons (eLc (iSeqA (eVar 1)) [3] (gN 3) bYes (eTup (aStar (eVar 3) (aCons (eVar 2) aNil)))) aNil)))
def b_all_sets : SM := (sSeq (sSet 1 (eLstC (aCons (eTup aNil) aNil)))
    (sSeq (sFor (iRange1 (eVar 0)) (gN 2) l1_all_sets)
    (sRet (eSl (eVar 1) (pInt (eC (.int 1))) pNo))))
def m_all_sets : List D → M D := isoD (funD 1 4 b_all_sets)
def b_dual_family : SM := (sRet (eApp m_least_in (aCons (eLc (iSeqA (eApp m_all_sets (aCons (eVar 0) aNil))) [2] (gN 2) (bE (eCall allD (aCons (eLc (iSeqA (eVar 1)) [3] (gN 3) bYes (eApp m_do_meet (aCons (eVar 2) (aCons (eVar 3) aNil)))) aNil))) (eVar 2)) aNil)))
def m_dual_family : List D → M D := isoD (funD 2 4 b_dual_family)
def b_holds_one : SM := (sRet (eCall anyD (aCons (eLc (iSeqA (eVar 0)) [2] (gN 2) bYes (eApp m_contains (aCons (eVar 1) (aCons (eVar 2) aNil)))) aNil)))
def m_holds_one : List D → M D := isoD (funD 2 3 b_holds_one)
def l1_completed : SM := (sSeq (sSet 5 (eLc (iSeqA (eApp m_dual_family (aCons (eVar 0) (aCons (eVar 4) aNil)))) [2] (gN 2) (bNot (bE (eApp m_holds_one (aCons (eVar 4) (aCons (eVar 2) aNil))))) (eVar 2)))
    (sSeq (sIf (bE (eBin eqA (eVar 5) (eLst aNil))) (sRet (eVar 4)) sNext)
    (sSet 4 (eApp m_least_in (aCons (eLst (aStar (eVar 4) (aCons (eBin ixD (eVar 5) (eC (.int 0))) aNil))) aNil)))))
def b_completed : SM := (sSeq (sExpr (eApp m_require_width (aCons (eVar 0) aNil)))
    (sSeq (sExpr (eApp m_require_family (aCons (eVar 0) (aCons (eVar 1) aNil))))
    (sSeq (sIf (bNot (bE (eCall allD (aCons (eLc2 (iSeqA (eVar 1)) [2, 3] (gN 2) bYes (iSeqA (eVar 1)) [3] (gN 3) bYes (eApp m_do_meet (aCons (eVar 2) (aCons (eVar 3) aNil)))) aNil)))) (sRaise "InvalidOperation") sNext)
    (sSeq (sSet 4 (eVar 1))
    (whileD (bE (eC (.bl true))) l1_completed 5000)))))
def m_completed : List D → M D := isoD (funD 2 6 b_completed)
def b__law_roll : SM := (sSeq (sIf (bE (eBin gtD (eBin ixD (eVar 0) (eC (.int 0))) (eC (.int 0)))) (sSeq (sSet 2 (eBin (fun _ => modI) (eCall intA (aCons (eBin ixD (eVar 0) (eC (.int 0))) aNil)) (eVar 1)))
    (sSeq (sSub (eVar 0) (eC (.int 0)) (eBin (fun _ => fdivI) (eBin ixD (eVar 0) (eC (.int 0))) (eVar 1)) setIx)
    (sRet (eVar 2)))) sNext)
    (sSeq (sSub (eVar 0) (eC (.int 2)) (eBin addD (eBin ixD (eVar 0) (eC (.int 2))) (eC (.int 1))) setIx)
    (sSeq (sSet 3 (eBin (fun _ => modI) (eCall intA (aCons (eBin addD (eBin ixD (eVar 0) (eC (.int 1))) (eBin mulD (eC (.int 49979687)) (eBin ixD (eVar 0) (eC (.int 2))))) aNil)) (eC (.int 2305843009213693907))))
    (sSeq (sSet 4 (eBin addD (eBin mulD (eBin (fun _ => modI) (eCall intA (aCons (eBin addD (eBin mulD (eVar 3) (eVar 3)) (eBin mulD (eC (.int 89)) (eBin ixD (eVar 0) (eC (.int 2))))) aNil)) (eC (.int 1152921504606846847))) (eC (.int 6700417))) (eVar 3)))
    (sRet (eBin (fun _ => modI) (eCall intA (aCons (eBin (fun _ => fdivI) (eVar 4) (eC (.int 131072))) aNil)) (eVar 1)))))))
def m__law_roll : List D → M D := gcD (funD 2 5 b__law_roll)
def b__law_pick : SM := (sRet (eBin ixD (eVar 1) (eApp m__law_roll (aCons (eVar 0) (aCons (eCall lenD (aCons (eVar 1) aNil)) aNil)))))
def m__law_pick : List D → M D := gcD (funD 2 2 b__law_pick)
def b__law_limit : SM := (sRet (eBin (fun _ => powI) (eBin (fun _ => powI) (eC (.int 10)) (eC (.int 50))) (eC (.int 8))))
def m__law_limit : List D → M D := isoD (funD 0 0 b__law_limit)
def b__law_first : SM := (sSeq (sSet 1 (eLc (iSeqA (eVar 0)) [2] (gN 2) (bE (eBin neD (eVar 2) (eC (.str "")))) (eVar 2)))
    (sRet (eIf (bE (eBin neD (eVar 1) (eLst aNil))) (eBin ixD (eVar 1) (eC (.int 0))) (eC (.str "")))))
def m__law_first : List D → M D := isoD (funD 1 3 b__law_first)
def b_blocks_of : SM := (sSeq (sExpr (eApp m_require_width (aCons (eVar 0) aNil)))
    (sSeq (sExpr (eApp m_require_family (aCons (eVar 0) (aCons (eVar 1) aNil))))
    (sRet (eApp m_dual_family (aCons (eVar 0) (aCons (eVar 1) aNil))))))
def m_blocks_of : List D → M D := isoD (funD 2 2 b_blocks_of)
def b_set_text : SM := (sRet (eMeth "str" joinD (eC (.str "")) (aCons (eLc (iSeqA (eVar 0)) [1] (gN 1) bYes (eBin ixD (eC (.str c_FIGURES)) (eVar 1))) aNil)))
def m_set_text : List D → M D := isoD (funD 1 2 b_set_text)
def b_family_text : SM := (sRet (eMeth "str" joinD (eC (.str c_BLANK)) (aCons (eLc (iSeqA (eVar 0)) [1] (gN 1) bYes (eApp m_set_text (aCons (eVar 1) aNil))) aNil)))
def m_family_text : List D → M D := isoD (funD 1 2 b_family_text)
def b_write_family : SM := (sSeq (sExpr (eApp m_require_width (aCons (eVar 0) aNil)))
    (sSeq (sExpr (eApp m_require_family (aCons (eVar 0) (aCons (eVar 1) aNil))))
    (sRet (eApp m_family_text (aCons (eVar 1) aNil)))))
def m_write_family : List D → M D := isoD (funD 2 2 b_write_family)
def b_require_both : SM := (sSeq (sExpr (eApp m_require_width (aCons (eVar 0) aNil)))
    (sSeq (sExpr (eApp m_require_family (aCons (eVar 0) (aCons (eVar 1) aNil))))
    (sExpr (eApp m_require_family (aCons (eVar 0) (aCons (eVar 2) aNil))))))
def m_require_both : List D → M D := isoD (funD 3 3 b_require_both)
def b_either : SM := (sSeq (sExpr (eApp m_require_both (aCons (eVar 0) (aCons (eVar 1) (aCons (eVar 2) aNil)))))
    (sRet (eApp m_least_in (aCons (eLst (aStar (eVar 1) (aStar (eVar 2) aNil))) aNil))))
def m_either : List D → M D := isoD (funD 3 3 b_either)
def b_both : SM := (sSeq (sExpr (eApp m_require_both (aCons (eVar 0) (aCons (eVar 1) (aCons (eVar 2) aNil)))))
    (sRet (eApp m_least_in (aCons (eLc2 (iSeqA (eVar 1)) [3, 4] (gN 3) bYes (iSeqA (eVar 2)) [4] (gN 4) bYes (eCall tupleD (aCons (eUn sortSetA (eBin addD (eVar 3) (eVar 4))) aNil))) aNil))))
def m_both : List D → M D := isoD (funD 3 5 b_both)
def b_require_places : SM := (sIf (bNot (bE (eApp m_are_places (aCons (eVar 0) (aCons (eVar 1) aNil))))) (sRaise "InvalidSet") sNext)
def m_require_places : List D → M D := isoD (funD 2 2 b_require_places)
def b_is_held : SM := (sSeq (sExpr (eApp m_require_width (aCons (eVar 0) aNil)))
    (sSeq (sExpr (eApp m_require_family (aCons (eVar 0) (aCons (eVar 1) aNil))))
    (sSeq (sExpr (eApp m_require_places (aCons (eVar 0) (aCons (eVar 2) aNil))))
    (sRet (eApp m_holds_one (aCons (eVar 1) (aCons (eVar 2) aNil)))))))
def m_is_held : List D → M D := isoD (funD 3 3 b_is_held)
def b_rest_of : SM := (sSeq (sExpr (eApp m_require_width (aCons (eVar 0) aNil)))
    (sSeq (sExpr (eApp m_require_places (aCons (eVar 0) (aCons (eVar 1) aNil))))
    (sRet (eCall tupleD (aCons (eLc (iRange1 (eVar 0)) [2] (gN 2) (bE (eBin notInD (eVar 2) (eVar 1))) (eVar 2)) aNil)))))
def m_rest_of : List D → M D := isoD (funD 2 3 b_rest_of)
def b_moved_family : SM := (sRet (eCall tupleD (aCons (eCall sortedD (aCons (eLc (iSeqA (eVar 0)) [3] (gN 3) bYes (eCall tupleD (aCons (eCall sortedD (aCons (eLc (iSeqA (eVar 3)) [2] (gN 2) bYes (eBin ixD (eVar 1) (eVar 2))) aNil)) aNil))) aNil)) aNil)))
def m_moved_family : List D → M D := isoD (funD 2 4 b_moved_family)
def b_are_turns : SM := (sSeq (sIf (bOr (bNot (bE (eIsi "tuple" (eVar 1)))) (bNot (bE (eCall allD (aCons (eLc (iSeqA (eVar 1)) [2] (gN 2) bYes (eAnd (eApp m_is_count (aCons (eVar 2) aNil)) (eBin ltA (eVar 2) (eVar 0)))) aNil))))) (sRet (eC (.bl false))) sNext)
    (sRet (eAnd (eBin eqA (eCall lenD (aCons (eVar 1) aNil)) (eVar 0)) (eBin eqA (eUn lenSetI (eVar 1)) (eVar 0)))))
def m_are_turns : List D → M D := isoD (funD 2 3 b_are_turns)
def b_placed : SM := (sSeq (sExpr (eApp m_require_width (aCons (eVar 0) aNil)))
    (sSeq (sExpr (eApp m_require_family (aCons (eVar 0) (aCons (eVar 1) aNil))))
    (sSeq (sIf (bNot (bE (eApp m_are_turns (aCons (eVar 0) (aCons (eVar 2) aNil))))) (sRaise "InvalidOperation") sNext)
    (sRet (eApp m_moved_family (aCons (eVar 1) (aCons (eVar 2) aNil)))))))
def m_placed : List D → M D := isoD (funD 3 3 b_placed)
def b_is_set : SM := (sSeq (sExpr (eApp m_require_width (aCons (eVar 0) aNil)))
    (sRet (eApp m_is_set_of (aCons (eVar 0) (aCons (eVar 1) aNil)))))
def m_is_set : List D → M D := isoD (funD 2 2 b_is_set)
def b_is_family : SM := (sSeq (sExpr (eApp m_require_width (aCons (eVar 0) aNil)))
    (sRet (eApp m_is_family_of (aCons (eVar 0) (aCons (eVar 1) aNil)))))
def m_is_family : List D → M D := isoD (funD 2 2 b_is_family)
def q1__law_right : SM := (sSet 2 (eIf (bE (eBin inD (eVar 1) (eTup (aCons (eC (.int 3)) (aCons (eC (.int 4)) aNil))))) (eC (.str "")) (eBin addD (eC (.str "number ")) (eCall reprA (aCons (eVar 1) aNil)))))
def q2__law_right : SM := (sSet 5 (eIf (bE (eBin eqA (eVar 4) (eTup (aCons (eTup (aCons (eC (.int 0)) (aCons (eC (.int 1)) aNil))) (aCons (eTup (aCons (eC (.int 0)) (aCons (eC (.int 2)) aNil))) aNil))))) (eC (.str "")) (eC (.str "set"))))
def q3__law_right : SM := (sSet 7 (eIf (bE (eBin inD (eCall reprA (aCons (eVar 6) aNil)) (eTup (aCons (eC (.str "()")) (aCons (eC (.str "(0, 2)")) (aCons (eC (.str "(1,)")) aNil)))))) (eC (.str "")) (eC (.str "set"))))
def b__law_right : SM := (sSeq (sSet 1 (eApp m__law_pick (aCons (eVar 0) (aCons (eLst (aCons (eC (.int 3)) (aCons (eC (.int 3)) (aCons (eC (.int 3)) (aCons (eC (.int 3)) (aCons (eC (.int 4)) (aCons (eC (.int 1)) (aCons (eC (.int 6)) (aCons (eC (.int 0)) (aCons (eC .non) (aCons (eC (.bl true)) (aCons (eC (.str "3")) (aCons (eTup (aCons (eC (.int 3)) aNil)) (aCons (eLst aNil) (aCons (fun _ => m__law_limit []) aNil))))))))))))))) aNil))))
    (sSeq q1__law_right
    (sSeq (sSet 3 (eLst (aCons (eC .non) (aCons (eC (.int 0)) (aCons (eC (.str "01")) (aCons (eTup aNil) (aCons (eTup (aCons (eTup aNil) aNil)) (aCons (eTup (aCons (eTup (aCons (eC (.int 0)) aNil)) (aCons (eTup (aCons (eC (.int 0)) (aCons (eC (.int 1)) aNil))) aNil))) (aCons (eTup (aCons (eTup (aCons (eC (.int 1)) aNil)) (aCons (eTup (aCons (eC (.int 0)) aNil)) aNil))) (aCons (eTup (aCons (eTup (aCons (eC (.int 0)) (aCons (eC (.int 5)) aNil))) aNil)) (aCons (eLst (aCons (eTup (aCons (eC (.int 0)) (aCons (eC (.int 1)) aNil))) aNil)) (aCons (eTup (aCons (eTup (aCons (eC (.int 1)) (aCons (eC (.int 0)) aNil))) aNil)) (aCons (eTup (aCons (eTup (aCons (eC (.bl true)) aNil)) aNil)) aNil)))))))))))))
    (sSeq (sSet 3 (eBin addD (eVar 3) (eLst (aCons (eTup (aCons (eC (.int 0)) (aCons (eC (.int 1)) aNil))) (aCons (eC (.dic [])) aNil)))))
    (sSeq (sSet 4 (eApp m__law_pick (aCons (eVar 0) (aCons (eBin addD (eBin mulD (eLst (aCons (eTup (aCons (eTup (aCons (eC (.int 0)) (aCons (eC (.int 1)) aNil))) (aCons (eTup (aCons (eC (.int 0)) (aCons (eC (.int 2)) aNil))) aNil))) aNil)) (eC (.int 5))) (eVar 3)) aNil))))
    (sSeq q2__law_right
    (sSeq (sSet 6 (eApp m__law_pick (aCons (eVar 0) (aCons (eLst (aCons (eTup aNil) (aCons (eTup (aCons (eC (.int 0)) (aCons (eC (.int 2)) aNil))) (aCons (eTup (aCons (eC (.int 1)) aNil)) (aCons (eC .non) (aCons (eTup (aCons (eC (.int 0)) (aCons (eC (.int 0)) aNil))) (aCons (eTup (aCons (eC (.int 2)) (aCons (eC (.int 1)) aNil))) (aCons (eLst (aCons (eC (.int 0)) aNil)) (aCons (eTup (aCons (eC (.int 5)) aNil)) (aCons (eTup (aCons (eBin (fun _ => subI) (eC (.int 0)) (eC (.int 1))) aNil)) (aCons (eC (.str "0")) (aCons (eTup (aCons (eC .non) aNil)) (aCons (eC (.dic [])) (aCons (eTup (aCons (eC (.bl true)) aNil)) aNil)))))))))))))) aNil))))
    (sSeq q3__law_right
    (sSeq (sSet 8 (eLst (aCons (eC .non) (aCons (eTup (aCons (eC (.int 0)) (aCons (eC (.int 1)) aNil))) (aCons (eTup (aCons (eC (.int 0)) (aCons (eC (.int 1)) (aCons (eC (.int 1)) aNil)))) (aCons (eLst (aCons (eC (.int 0)) (aCons (eC (.int 1)) (aCons (eC (.int 2)) aNil)))) (aCons (eTup (aCons (eC (.int 0)) (aCons (eC (.int 1)) (aCons (eC (.int 2)) (aCons (eC (.int 3)) (aCons (eC (.int 4)) aNil)))))) (aCons (eTup (aCons (eC (.int 0)) (aCons (eC (.int 2)) (aCons (eC (.int 3)) (aCons (eC (.int 5)) aNil))))) (aCons (eC (.str "012")) (aCons (eTup aNil) (aCons (eC (.dic [])) (aCons (eTup (aCons (eC (.int 0)) (aCons (eC (.int 1)) (aCons (eC (.bl true)) aNil)))) aNil))))))))))))
    (sSeq (sSet 9 (eApp m__law_pick (aCons (eVar 0) (aCons (eVar 8) aNil))))
    (sSeq (sSet 10 (eLstC (aCons (eLam 0 "_law_right" m__law_met (eApp m_blocks_of (aCons (eVar 1) (aCons (eVar 4) aNil)))) aNil)))
    (sSeq (sExpr (eMeth "list" appendD (eVar 10) (aCons (eLam 0 "_law_right" m__law_met (eApp m_write_family (aCons (eVar 1) (aCons (eVar 4) aNil)))) aNil)))
    (sSeq (sExpr (eMeth "list" appendD (eVar 10) (aCons (eLam 0 "_law_right" m__law_met (eApp m_completed (aCons (eVar 1) (aCons (eVar 4) aNil)))) aNil)))
    (sSeq (sExpr (eMeth "list" appendD (eVar 10) (aCons (eLam 0 "_law_right" m__law_met (eApp m_either (aCons (eVar 1) (aCons (eVar 4) (aCons (eTup (aCons (eTup (aCons (eC (.int 0)) aNil)) aNil)) aNil))))) aNil)))
    (sSeq (sExpr (eMeth "list" appendD (eVar 10) (aCons (eLam 0 "_law_right" m__law_met (eApp m_both (aCons (eVar 1) (aCons (eTup (aCons (eTup (aCons (eC (.int 0)) aNil)) aNil)) (aCons (eVar 4) aNil))))) aNil)))
    (sSeq (sExpr (eMeth "list" appendD (eVar 10) (aCons (eLam 0 "_law_right" m__law_met (eApp m_is_held (aCons (eVar 1) (aCons (eVar 4) (aCons (eVar 6) aNil))))) aNil)))
    (sSeq (sExpr (eMeth "list" appendD (eVar 10) (aCons (eLam 0 "_law_right" m__law_met (eApp m_rest_of (aCons (eVar 1) (aCons (eVar 6) aNil)))) aNil)))
    (sSeq (sExpr (eMeth "list" appendD (eVar 10) (aCons (eLam 0 "_law_right" m__law_met (eApp m_placed (aCons (eVar 1) (aCons (eVar 4) (aCons (eVar 9) aNil))))) aNil)))
    (sSeq (sExpr (eMeth "list" appendD (eVar 10) (aCons (eLam 0 "_law_right" m__law_met (eApp m_is_set (aCons (eVar 1) (aCons (eVar 4) aNil)))) aNil)))
    (sSeq (sExpr (eMeth "list" appendD (eVar 10) (aCons (eLam 0 "_law_right" m__law_met (eApp m_is_family (aCons (eVar 1) (aCons (eVar 6) aNil)))) aNil)))
    (sSeq (sSet 11 (eBin addD (eBin mulD (eLst (aCons (eApp m__law_first (aCons (eLst (aCons (eVar 2) (aCons (eVar 5) aNil))) aNil)) aNil)) (eC (.int 5))) (eLst (aCons (eApp m__law_first (aCons (eLst (aCons (eVar 2) (aCons (eVar 5) (aCons (eVar 7) aNil)))) aNil)) (aCons (eApp m__law_first (aCons (eLst (aCons (eVar 2) (aCons (eVar 7) aNil))) aNil)) aNil)))))
    (sRet (eBin eqA (eVar 10) (eBin addD (eBin addD (eVar 11) (eLst (aCons (eApp m__law_first (aCons (eLst (aCons (eVar 2) (aCons (eVar 5) (aCons (eC (.str "operation")) aNil)))) aNil)) aNil))) (eBin mulD (eLst (aCons (eVar 2) aNil)) (eC (.int 2)))))))))))))))))))))))))))
def m__law_right : List D → M D := gcD (funD 1 12 b__law_right)
def b_least_of : SM := (sSeq (sExpr (eApp m_require_width (aCons (eVar 0) aNil)))
    (sSeq (sIf (bOr (bNot (bE (eIsi "tuple" (eVar 1)))) (bOr (bE (eBin eqA (eVar 1) (eTup aNil))) (bNot (bE (eCall allD (aCons (eLc (iSeqA (eVar 1)) [2] (gN 2) bYes (eApp m_is_set_of (aCons (eVar 0) (aCons (eVar 2) aNil)))) aNil)))))) (sRaise "InvalidSet") sNext)
    (sRet (eApp m_least_in (aCons (eVar 1) aNil)))))
def m_least_of : List D → M D := isoD (funD 2 3 b_least_of)
def b_set_in : SM := (sSeq (sIf (bNot (bE (eCall allD (aCons (eLc (iSeqA (eVar 0)) [1] (gN 1) bYes (eBin inD (eVar 1) (eC (.str c_FIGURES)))) aNil)))) (sRet (eC .non)) sNext)
    (sRet (eCall tupleD (aCons (eLc (iSeqA (eVar 0)) [1] (gN 1) bYes (eMeth "str" sindexD (eC (.str c_FIGURES)) (aCons (eVar 1) aNil))) aNil))))
def m_set_in : List D → M D := isoD (funD 1 2 b_set_in)
def b_family_in : SM := (sSeq (sSet 2 (eCall tupleD (aCons (eLc (iSeqA (eMeth "str" splitD (eVar 1) (aCons (eC (.str c_BLANK)) aNil))) [3] (gN 3) bYes (eApp m_set_in (aCons (eVar 3) aNil))) aNil)))
    (sRet (eIf (bE (eApp m_is_family_of (aCons (eVar 0) (aCons (eVar 2) aNil)))) (eVar 2) (eC .non))))
def m_family_in : List D → M D := isoD (funD 2 4 b_family_in)
def b_read_family : SM := (sSeq (sExpr (eApp m_require_width (aCons (eVar 0) aNil)))
    (sSeq (sSet 2 (eIf (bE (eIsi "str" (eVar 1))) (eApp m_family_in (aCons (eVar 0) (aCons (eVar 1) aNil))) (eC .non)))
    (sSeq (sIf (bE (eBin isA (eVar 2) (eC .non))) (sRaiseF "ParseError" "number" (eC .non)) sNext)
    (sRet (eVar 2)))))
def m_read_family : List D → M D := isoD (funD 2 3 b_read_family)
def q1__law_others_right : SM := (sSet 2 (eIf (bAnd (bE (eBin inD (eVar 1) (eTup (aCons (eC (.int 3)) (aCons (eC (.int 5)) aNil))))) (bE (eBin notA (eVar 1) (eC (.bl true))))) (eC (.str "")) (eBin addD (eC (.str "number ")) (eCall reprA (aCons (eVar 1) aNil)))))
def b__law_others_right : SM := (sSeq (sSet 1 (eApp m__law_pick (aCons (eVar 0) (aCons (eLst (aCons (eC (.int 3)) (aCons (eC (.int 3)) (aCons (eC (.int 5)) (aCons (eC (.int 1)) (aCons (eC .non) (aCons (eC (.bl true)) (aCons (eC (.str "3")) (aCons (eC (.int 6)) aNil))))))))) aNil))))
    (sSeq q1__law_others_right
    (sSeq (sSet 3 (eApp m__law_pick (aCons (eVar 0) (aCons (eLst (aCons (eC .non) (aCons (eTup aNil) (aCons (eTup (aCons (eTup aNil) aNil)) (aCons (eLst (aCons (eTup (aCons (eC (.int 0)) aNil)) aNil)) (aCons (eTup (aCons (eTup (aCons (eC (.int 0)) aNil)) (aCons (eC .non) aNil))) (aCons (eTup (aCons (eTup (aCons (eC (.int 5)) aNil)) aNil)) (aCons (eTup (aCons (eTup (aCons (eC (.int 1)) (aCons (eC (.int 0)) aNil))) aNil)) (aCons (eTup (aCons (eC (.int 0)) aNil)) (aCons (eC (.str "0")) (aCons (eC (.dic [])) aNil))))))))))) aNil))))
    (sSeq (sSet 4 (eApp m__law_pick (aCons (eVar 0) (aCons (eLst (aCons (eC .non) (aCons (eC (.int 0)) (aCons (eC (.str "")) (aCons (eC (.str "0 0")) (aCons (eC (.str "1 0")) (aCons (eC (.str "012 01")) (aCons (eC (.str "9")) (aCons (eC (.str "0,1")) (aCons (eTup (aCons (eC (.str "0")) aNil)) (aCons (eLst aNil) (aCons (eC (.dic [])) (aCons (eC (.str " 0")) (aCons (eC (.str "0 ")) aNil)))))))))))))) aNil))))
    (sSeq (sSet 5 (eLstC (aCons (eLam 1 "_law_others_right" m__law_met (eApp m_least_of (aCons (eVar 1) (aCons (eVar 3) aNil)))) aNil)))
    (sSeq (sExpr (eMeth "list" appendD (eVar 5) (aCons (eLam 1 "_law_others_right" m__law_met (eApp m_read_family (aCons (eVar 1) (aCons (eVar 4) aNil)))) aNil)))
    (sSeq (sExpr (eMeth "list" appendD (eVar 5) (aCons (eLam 1 "_law_others_right" m__law_met (eApp m_least_of (aCons (eC (.int 3)) (aCons (eTup (aCons (eTup (aCons (eC (.int 0)) (aCons (eC (.int 1)) aNil))) (aCons (eTup (aCons (eC (.int 0)) aNil)) (aCons (eTup (aCons (eC (.int 0)) (aCons (eC (.int 1)) aNil))) aNil)))) aNil)))) aNil)))
    (sRet (eBin eqA (eVar 5) (eLst (aCons (eApp m__law_first (aCons (eLst (aCons (eVar 2) (aCons (eC (.str "set")) aNil))) aNil)) (aCons (eApp m__law_first (aCons (eLst (aCons (eVar 2) (aCons (eC (.str "parse None")) aNil))) aNil)) (aCons (eC (.str "")) aNil)))))))))))))
def m__law_others_right : List D → M D := gcD (funD 1 6 b__law_others_right)
def l1_law : SM := (sIf (bOr (bNot (bE (eApp m__law_right (aCons (eVar 2) aNil)))) (bNot (bE (eApp m__law_others_right (aCons (eVar 2) aNil))))) (sRet (eC (.bl false))) sNext)
def l2_law : SM := (sSeq (sSet 2 (eApp m__law_dice (aCons (eVar 0) (aCons (eVar 1) aNil))))
    (sFor (iRange1 (eC (.int 4))) (gN 3) l1_law))
def b_law : SM := (sSeq (sFor (iRange1 (eCall maxD (aCons (eC (.int 1)) (aCons (eCall minD (aCons (eC (.int 6)) (aCons (eCall lenD (aCons (eVar 0) aNil)) aNil))) aNil)))) (gN 1) l2_law)
    (sRet (eBin eqA (eLam 2 "law" m__law_met (eApp m_completed (aCons (eC (.int 4)) (aCons (eTup (aCons (eTup (aCons (eC (.int 0)) (aCons (eC (.int 1)) aNil))) (aCons (eTup (aCons (eC (.int 2)) (aCons (eC (.int 3)) aNil))) aNil))) aNil)))) (eC (.str "operation")))))
def m_law : List D → M D := gcD (funD 1 4 b_law)
/-! ## What the top leaves -/
structure Tx (K : PySem.W.Frag) (mg : Str → Option Value) where
  a__law_dice : Addr
  f__law_dice : FuncData
  d__law_dice : DefAt K mg "_law_dice" s__law_dice ["script", "spot"] a__law_dice f__law_dice
  a__law_met : Addr
  f__law_met : FuncData
  d__law_met : DefAt K mg "_law_met" s__law_met ["call"] a__law_met f__law_met
  a_is_integer : Addr
  f_is_integer : FuncData
  d_is_integer : DefAt K mg "is_integer" s_is_integer ["value"] a_is_integer f_is_integer
  a_is_count : Addr
  f_is_count : FuncData
  d_is_count : DefAt K mg "is_count" s_is_count ["value"] a_is_count f_is_count
  a_is_width : Addr
  f_is_width : FuncData
  d_is_width : DefAt K mg "is_width" s_is_width ["value"] a_is_width f_is_width
  a_require_width : Addr
  f_require_width : FuncData
  d_require_width : DefAt K mg "require_width" s_require_width ["value"] a_require_width f_require_width
  a_contains : Addr
  f_contains : FuncData
  d_contains : DefAt K mg "contains" s_contains ["one", "other"] a_contains f_contains
  a_are_least : Addr
  f_are_least : FuncData
  d_are_least : DefAt K mg "are_least" s_are_least ["sets"] a_are_least f_are_least
  a_are_places : Addr
  f_are_places : FuncData
  d_are_places : DefAt K mg "are_places" s_are_places ["width", "value"] a_are_places f_are_places
  a_is_set_of : Addr
  f_is_set_of : FuncData
  d_is_set_of : DefAt K mg "is_set_of" s_is_set_of ["width", "value"] a_is_set_of f_is_set_of
  a_is_family_of : Addr
  f_is_family_of : FuncData
  d_is_family_of : DefAt K mg "is_family_of" s_is_family_of ["width", "value"] a_is_family_of f_is_family_of
  a_require_family : Addr
  f_require_family : FuncData
  d_require_family : DefAt K mg "require_family" s_require_family ["width", "value"] a_require_family f_require_family
  a_least_in : Addr
  f_least_in : FuncData
  d_least_in : DefAt K mg "least_in" s_least_in ["sets"] a_least_in f_least_in
  a_do_meet : Addr
  f_do_meet : FuncData
  d_do_meet : DefAt K mg "do_meet" s_do_meet ["one", "other"] a_do_meet f_do_meet
  a_all_sets : Addr
  f_all_sets : FuncData
  d_all_sets : DefAt K mg "all_sets" s_all_sets ["width"] a_all_sets f_all_sets
  a_dual_family : Addr
  f_dual_family : FuncData
  d_dual_family : DefAt K mg "dual_family" s_dual_family ["width", "family"] a_dual_family f_dual_family
  a_holds_one : Addr
  f_holds_one : FuncData
  d_holds_one : DefAt K mg "holds_one" s_holds_one ["family", "places"] a_holds_one f_holds_one
  a_completed : Addr
  f_completed : FuncData
  d_completed : DefAt K mg "completed" s_completed ["width", "family"] a_completed f_completed
  a__law_roll : Addr
  f__law_roll : FuncData
  d__law_roll : DefAt K mg "_law_roll" s__law_roll ["dice", "total"] a__law_roll f__law_roll
  a__law_pick : Addr
  f__law_pick : FuncData
  d__law_pick : DefAt K mg "_law_pick" s__law_pick ["dice", "items"] a__law_pick f__law_pick
  a__law_limit : Addr
  f__law_limit : FuncData
  d__law_limit : DefAt K mg "_law_limit" s__law_limit [] a__law_limit f__law_limit
  a__law_first : Addr
  f__law_first : FuncData
  d__law_first : DefAt K mg "_law_first" s__law_first ["words"] a__law_first f__law_first
  a_blocks_of : Addr
  f_blocks_of : FuncData
  d_blocks_of : DefAt K mg "blocks_of" s_blocks_of ["width", "family"] a_blocks_of f_blocks_of
  a_set_text : Addr
  f_set_text : FuncData
  d_set_text : DefAt K mg "set_text" s_set_text ["places"] a_set_text f_set_text
  a_family_text : Addr
  f_family_text : FuncData
  d_family_text : DefAt K mg "family_text" s_family_text ["family"] a_family_text f_family_text
  a_write_family : Addr
  f_write_family : FuncData
  d_write_family : DefAt K mg "write_family" s_write_family ["width", "family"] a_write_family f_write_family
  a_require_both : Addr
  f_require_both : FuncData
  d_require_both : DefAt K mg "require_both" s_require_both ["width", "one", "other"] a_require_both f_require_both
  a_either : Addr
  f_either : FuncData
  d_either : DefAt K mg "either" s_either ["width", "one", "other"] a_either f_either
  a_both : Addr
  f_both : FuncData
  d_both : DefAt K mg "both" s_both ["width", "one", "other"] a_both f_both
  a_require_places : Addr
  f_require_places : FuncData
  d_require_places : DefAt K mg "require_places" s_require_places ["width", "value"] a_require_places f_require_places
  a_is_held : Addr
  f_is_held : FuncData
  d_is_held : DefAt K mg "is_held" s_is_held ["width", "family", "places"] a_is_held f_is_held
  a_rest_of : Addr
  f_rest_of : FuncData
  d_rest_of : DefAt K mg "rest_of" s_rest_of ["width", "places"] a_rest_of f_rest_of
  a_moved_family : Addr
  f_moved_family : FuncData
  d_moved_family : DefAt K mg "moved_family" s_moved_family ["family", "turns"] a_moved_family f_moved_family
  a_are_turns : Addr
  f_are_turns : FuncData
  d_are_turns : DefAt K mg "are_turns" s_are_turns ["width", "value"] a_are_turns f_are_turns
  a_placed : Addr
  f_placed : FuncData
  d_placed : DefAt K mg "placed" s_placed ["width", "family", "turns"] a_placed f_placed
  a_is_set : Addr
  f_is_set : FuncData
  d_is_set : DefAt K mg "is_set" s_is_set ["width", "value"] a_is_set f_is_set
  a_is_family : Addr
  f_is_family : FuncData
  d_is_family : DefAt K mg "is_family" s_is_family ["width", "value"] a_is_family f_is_family
  a__law_right : Addr
  f__law_right : FuncData
  d__law_right : DefAt K mg "_law_right" s__law_right ["dice"] a__law_right f__law_right
  a_least_of : Addr
  f_least_of : FuncData
  d_least_of : DefAt K mg "least_of" s_least_of ["width", "sets"] a_least_of f_least_of
  a_set_in : Addr
  f_set_in : FuncData
  d_set_in : DefAt K mg "set_in" s_set_in ["word"] a_set_in f_set_in
  a_family_in : Addr
  f_family_in : FuncData
  d_family_in : DefAt K mg "family_in" s_family_in ["width", "text"] a_family_in f_family_in
  a_read_family : Addr
  f_read_family : FuncData
  d_read_family : DefAt K mg "read_family" s_read_family ["width", "text"] a_read_family f_read_family
  a__law_others_right : Addr
  f__law_others_right : FuncData
  d__law_others_right : DefAt K mg "_law_others_right" s__law_others_right ["dice"] a__law_others_right f__law_others_right
  a_law : Addr
  f_law : FuncData
  d_law : DefAt K mg "law" s_law ["script"] a_law f_law
  cd__law_right : Addr
  P__law_right : Addr
  tb__law_right : PySem.W.tabIn K "_law_right" = some (cd__law_right, P__law_right)
  hc__law_right : f__law_right.code = .ref cd__law_right
  cd__law_others_right : Addr
  P__law_others_right : Addr
  tb__law_others_right : PySem.W.tabIn K "_law_others_right" = some (cd__law_others_right, P__law_others_right)
  hc__law_others_right : f__law_others_right.code = .ref cd__law_others_right
  cd_law : Addr
  P_law : Addr
  tb_law : PySem.W.tabIn K "law" = some (cd_law, P_law)
  hc_law : f_law.code = .ref cd_law
  g_BLANK : ∃ tk, mg "BLANK" = some (.str c_BLANK tk)
  g_FIGURES : ∃ tk, mg "FIGURES" = some (.str c_FIGURES tk)
  g_LIMIT : ∃ tk, mg "LIMIT" = some (.int c_LIMIT tk)
  g_MAX_WIDTH : ∃ tk, mg "MAX_WIDTH" = some (.int c_MAX_WIDTH tk)
  g_MIN_WIDTH : ∃ tk, mg "MIN_WIDTH" = some (.int c_MIN_WIDTH tk)
  n_abs : mg "abs" = none
  n_all : mg "all" = none
  n_any : mg "any" = none
  n_bool : mg "bool" = none
  n_int : mg "int" = none
  n_isinstance : mg "isinstance" = none
  n_len : mg "len" = none
  n_max : mg "max" = none
  n_min : mg "min" = none
  n_range : mg "range" = none
  n_repr : mg "repr" = none
  n_set : mg "set" = none
  n_sorted : mg "sorted" = none
  n_str : mg "str" = none
  n_tuple : mg "tuple" = none
  n_zip : mg "zip" = none
  c_InvalidNumber : Addr
  g_InvalidNumber : mg "InvalidNumber" = some (.ref c_InvalidNumber)
  fI_InvalidNumber : Addr
  ff_InvalidNumber : FuncData
  fn_InvalidNumber : Fun K "__init__" "InvalidNumber.__init__" s_InvalidNumber__init__ fI_InvalidNumber ff_InvalidNumber
  bi_InvalidNumber : Binds K ff_InvalidNumber ["self", "value"] []
  k_InvalidNumber : PySem.W.keepIn K (.ref c_InvalidNumber) = true
  b_InvalidNumber : PySem.W.subIn K (.ref c_InvalidNumber) (.type "BaseException") = some true
  y_InvalidNumber : PySem.W.typeIn K (.ref c_InvalidNumber) = some (.type "type")
  q_InvalidNumber : PySem.W.excInitIn K c_InvalidNumber [.type "IndexError", .type "LookupError", .type "Exception", .type "BaseException", .type "object"] "IndexError.__new__" = true
  o_InvalidNumber : PySem.W.excOver K c_InvalidNumber [.type "IndexError", .type "LookupError", .type "Exception", .type "BaseException", .type "object"] = true
  s_InvalidNumber : PySem.W.findIn K (.ref c_InvalidNumber) "__setattr__" = some (some (.builtin "object.__setattr__"))
  tk_InvalidNumber : PySem.W.takerIn K c_InvalidNumber "value" = some none
  hd_InvalidNumber : PySem.W.hasDictIn K c_InvalidNumber = true
  i_InvalidNumber : PySem.W.findIn K (.ref c_InvalidNumber) "__init__" = some (some (.ref fI_InvalidNumber))
  ti_InvalidNumber : PySem.W.typeIn K (.ref fI_InvalidNumber) = some (.type "function")
  ga_InvalidNumber : PySem.W.findIn K (.ref c_InvalidNumber) "__getattribute__" = some (some (.builtin "BaseException.__getattribute__"))
  gg_InvalidNumber : PySem.W.findIn K (.ref c_InvalidNumber) "__getattr__" = some none
  no_InvalidNumber : PySem.W.findIn K (.ref c_InvalidNumber) "value" = some none
  c_InvalidOperation : Addr
  g_InvalidOperation : mg "InvalidOperation" = some (.ref c_InvalidOperation)
  k_InvalidOperation : PySem.W.keepIn K (.ref c_InvalidOperation) = true
  b_InvalidOperation : PySem.W.subIn K (.ref c_InvalidOperation) (.type "BaseException") = some true
  y_InvalidOperation : PySem.W.typeIn K (.ref c_InvalidOperation) = some (.type "type")
  x_InvalidOperation : PySem.W.excIn K c_InvalidOperation [.type "ValueError", .type "Exception", .type "BaseException", .type "object"] "ValueError.__new__" = true
  c_InvalidSet : Addr
  g_InvalidSet : mg "InvalidSet" = some (.ref c_InvalidSet)
  k_InvalidSet : PySem.W.keepIn K (.ref c_InvalidSet) = true
  b_InvalidSet : PySem.W.subIn K (.ref c_InvalidSet) (.type "BaseException") = some true
  y_InvalidSet : PySem.W.typeIn K (.ref c_InvalidSet) = some (.type "type")
  x_InvalidSet : PySem.W.excIn K c_InvalidSet [.type "ValueError", .type "Exception", .type "BaseException", .type "object"] "ValueError.__new__" = true
  c_ParseError : Addr
  g_ParseError : mg "ParseError" = some (.ref c_ParseError)
  fI_ParseError : Addr
  ff_ParseError : FuncData
  fn_ParseError : Fun K "__init__" "ParseError.__init__" s_ParseError__init__ fI_ParseError ff_ParseError
  bi_ParseError : Binds K ff_ParseError ["self", "number"] []
  k_ParseError : PySem.W.keepIn K (.ref c_ParseError) = true
  b_ParseError : PySem.W.subIn K (.ref c_ParseError) (.type "BaseException") = some true
  y_ParseError : PySem.W.typeIn K (.ref c_ParseError) = some (.type "type")
  q_ParseError : PySem.W.excInitIn K c_ParseError [.type "ValueError", .type "Exception", .type "BaseException", .type "object"] "ValueError.__new__" = true
  o_ParseError : PySem.W.excOver K c_ParseError [.type "ValueError", .type "Exception", .type "BaseException", .type "object"] = true
  s_ParseError : PySem.W.findIn K (.ref c_ParseError) "__setattr__" = some (some (.builtin "object.__setattr__"))
  tk_ParseError : PySem.W.takerIn K c_ParseError "number" = some none
  hd_ParseError : PySem.W.hasDictIn K c_ParseError = true
  i_ParseError : PySem.W.findIn K (.ref c_ParseError) "__init__" = some (some (.ref fI_ParseError))
  ti_ParseError : PySem.W.typeIn K (.ref fI_ParseError) = some (.type "function")
  ga_ParseError : PySem.W.findIn K (.ref c_ParseError) "__getattribute__" = some (some (.builtin "BaseException.__getattribute__"))
  gg_ParseError : PySem.W.findIn K (.ref c_ParseError) "__getattr__" = some none
  no_ParseError : PySem.W.findIn K (.ref c_ParseError) "number" = some none
  m_InvalidNumber_ParseError : PySem.W.exmOne K (.ref c_InvalidNumber) (.ref c_ParseError) = some false
  m_InvalidNumber_InvalidOperation : PySem.W.exmOne K (.ref c_InvalidNumber) (.ref c_InvalidOperation) = some false
  m_InvalidNumber_InvalidSet : PySem.W.exmOne K (.ref c_InvalidNumber) (.ref c_InvalidSet) = some false
  m_InvalidNumber_InvalidNumber : PySem.W.exmOne K (.ref c_InvalidNumber) (.ref c_InvalidNumber) = some true
  m_InvalidSet_ParseError : PySem.W.exmOne K (.ref c_InvalidSet) (.ref c_ParseError) = some false
  m_InvalidSet_InvalidOperation : PySem.W.exmOne K (.ref c_InvalidSet) (.ref c_InvalidOperation) = some false
  m_InvalidSet_InvalidSet : PySem.W.exmOne K (.ref c_InvalidSet) (.ref c_InvalidSet) = some true
  m_InvalidSet_InvalidNumber : PySem.W.exmOne K (.ref c_InvalidSet) (.ref c_InvalidNumber) = some false
  m_InvalidOperation_ParseError : PySem.W.exmOne K (.ref c_InvalidOperation) (.ref c_ParseError) = some false
  m_InvalidOperation_InvalidOperation : PySem.W.exmOne K (.ref c_InvalidOperation) (.ref c_InvalidOperation) = some true
  m_InvalidOperation_InvalidSet : PySem.W.exmOne K (.ref c_InvalidOperation) (.ref c_InvalidSet) = some false
  m_InvalidOperation_InvalidNumber : PySem.W.exmOne K (.ref c_InvalidOperation) (.ref c_InvalidNumber) = some false
  m_ParseError_ParseError : PySem.W.exmOne K (.ref c_ParseError) (.ref c_ParseError) = some true
  m_ParseError_InvalidOperation : PySem.W.exmOne K (.ref c_ParseError) (.ref c_InvalidOperation) = some false
  m_ParseError_InvalidSet : PySem.W.exmOne K (.ref c_ParseError) (.ref c_InvalidSet) = some false
  m_ParseError_InvalidNumber : PySem.W.exmOne K (.ref c_ParseError) (.ref c_InvalidNumber) = some false
section
variable {K : PySem.W.Frag} {mg : Str → Option Value}
def ctOf (t : Tx K mg) : CT := ⟨fun n => if n = "InvalidNumber" then some t.c_InvalidNumber else if n = "InvalidSet" then some t.c_InvalidSet else if n = "InvalidOperation" then some t.c_InvalidOperation else if n = "ParseError" then some t.c_ParseError else none, none, none⟩
theorem ct_InvalidNumber (t : Tx K mg) : (ctOf t).addr "InvalidNumber" = some t.c_InvalidNumber := by
  show (if ("InvalidNumber" : Str) = "InvalidNumber" then some t.c_InvalidNumber else if ("InvalidNumber" : Str) = "InvalidSet" then some t.c_InvalidSet else if ("InvalidNumber" : Str) = "InvalidOperation" then some t.c_InvalidOperation else if ("InvalidNumber" : Str) = "ParseError" then some t.c_ParseError else none) = _
  rw [if_pos rfl]
theorem ct_InvalidSet (t : Tx K mg) : (ctOf t).addr "InvalidSet" = some t.c_InvalidSet := by
  show (if ("InvalidSet" : Str) = "InvalidNumber" then some t.c_InvalidNumber else if ("InvalidSet" : Str) = "InvalidSet" then some t.c_InvalidSet else if ("InvalidSet" : Str) = "InvalidOperation" then some t.c_InvalidOperation else if ("InvalidSet" : Str) = "ParseError" then some t.c_ParseError else none) = _
  rw [if_neg (by decide), if_pos rfl]
theorem ct_InvalidOperation (t : Tx K mg) : (ctOf t).addr "InvalidOperation" = some t.c_InvalidOperation := by
  show (if ("InvalidOperation" : Str) = "InvalidNumber" then some t.c_InvalidNumber else if ("InvalidOperation" : Str) = "InvalidSet" then some t.c_InvalidSet else if ("InvalidOperation" : Str) = "InvalidOperation" then some t.c_InvalidOperation else if ("InvalidOperation" : Str) = "ParseError" then some t.c_ParseError else none) = _
  rw [if_neg (by decide), if_neg (by decide), if_pos rfl]
theorem ct_ParseError (t : Tx K mg) : (ctOf t).addr "ParseError" = some t.c_ParseError := by
  show (if ("ParseError" : Str) = "InvalidNumber" then some t.c_InvalidNumber else if ("ParseError" : Str) = "InvalidSet" then some t.c_InvalidSet else if ("ParseError" : Str) = "InvalidOperation" then some t.c_InvalidOperation else if ("ParseError" : Str) = "ParseError" then some t.c_ParseError else none) = _
  rw [if_neg (by decide), if_neg (by decide), if_neg (by decide), if_pos rfl]
theorem hx_ParseError (t : Tx K mg) : ∀ n a, (ctOf t).addr n = some a → PySem.W.exmOne K (.ref a) (.ref t.c_ParseError) = some (is_ParseError n) := by
  intro n a h
  by_cases e_InvalidNumber : n = "InvalidNumber"
  · subst e_InvalidNumber
    rw [ct_InvalidNumber] at h
    cases h
    exact t.m_InvalidNumber_ParseError
  by_cases e_InvalidSet : n = "InvalidSet"
  · subst e_InvalidSet
    rw [ct_InvalidSet] at h
    cases h
    exact t.m_InvalidSet_ParseError
  by_cases e_InvalidOperation : n = "InvalidOperation"
  · subst e_InvalidOperation
    rw [ct_InvalidOperation] at h
    cases h
    exact t.m_InvalidOperation_ParseError
  by_cases e_ParseError : n = "ParseError"
  · subst e_ParseError
    rw [ct_ParseError] at h
    cases h
    exact t.m_ParseError_ParseError
  unfold ctOf at h
  dsimp only at h
  rw [if_neg e_InvalidNumber, if_neg e_InvalidSet, if_neg e_InvalidOperation, if_neg e_ParseError] at h
  cases h
theorem hx_InvalidOperation (t : Tx K mg) : ∀ n a, (ctOf t).addr n = some a → PySem.W.exmOne K (.ref a) (.ref t.c_InvalidOperation) = some (is_InvalidOperation n) := by
  intro n a h
  by_cases e_InvalidNumber : n = "InvalidNumber"
  · subst e_InvalidNumber
    rw [ct_InvalidNumber] at h
    cases h
    exact t.m_InvalidNumber_InvalidOperation
  by_cases e_InvalidSet : n = "InvalidSet"
  · subst e_InvalidSet
    rw [ct_InvalidSet] at h
    cases h
    exact t.m_InvalidSet_InvalidOperation
  by_cases e_InvalidOperation : n = "InvalidOperation"
  · subst e_InvalidOperation
    rw [ct_InvalidOperation] at h
    cases h
    exact t.m_InvalidOperation_InvalidOperation
  by_cases e_ParseError : n = "ParseError"
  · subst e_ParseError
    rw [ct_ParseError] at h
    cases h
    exact t.m_ParseError_InvalidOperation
  unfold ctOf at h
  dsimp only at h
  rw [if_neg e_InvalidNumber, if_neg e_InvalidSet, if_neg e_InvalidOperation, if_neg e_ParseError] at h
  cases h
theorem hx_InvalidSet (t : Tx K mg) : ∀ n a, (ctOf t).addr n = some a → PySem.W.exmOne K (.ref a) (.ref t.c_InvalidSet) = some (is_InvalidSet n) := by
  intro n a h
  by_cases e_InvalidNumber : n = "InvalidNumber"
  · subst e_InvalidNumber
    rw [ct_InvalidNumber] at h
    cases h
    exact t.m_InvalidNumber_InvalidSet
  by_cases e_InvalidSet : n = "InvalidSet"
  · subst e_InvalidSet
    rw [ct_InvalidSet] at h
    cases h
    exact t.m_InvalidSet_InvalidSet
  by_cases e_InvalidOperation : n = "InvalidOperation"
  · subst e_InvalidOperation
    rw [ct_InvalidOperation] at h
    cases h
    exact t.m_InvalidOperation_InvalidSet
  by_cases e_ParseError : n = "ParseError"
  · subst e_ParseError
    rw [ct_ParseError] at h
    cases h
    exact t.m_ParseError_InvalidSet
  unfold ctOf at h
  dsimp only at h
  rw [if_neg e_InvalidNumber, if_neg e_InvalidSet, if_neg e_InvalidOperation, if_neg e_ParseError] at h
  cases h
theorem hx_InvalidNumber (t : Tx K mg) : ∀ n a, (ctOf t).addr n = some a → PySem.W.exmOne K (.ref a) (.ref t.c_InvalidNumber) = some (is_InvalidNumber n) := by
  intro n a h
  by_cases e_InvalidNumber : n = "InvalidNumber"
  · subst e_InvalidNumber
    rw [ct_InvalidNumber] at h
    cases h
    exact t.m_InvalidNumber_InvalidNumber
  by_cases e_InvalidSet : n = "InvalidSet"
  · subst e_InvalidSet
    rw [ct_InvalidSet] at h
    cases h
    exact t.m_InvalidSet_InvalidNumber
  by_cases e_InvalidOperation : n = "InvalidOperation"
  · subst e_InvalidOperation
    rw [ct_InvalidOperation] at h
    cases h
    exact t.m_InvalidOperation_InvalidNumber
  by_cases e_ParseError : n = "ParseError"
  · subst e_ParseError
    rw [ct_ParseError] at h
    cases h
    exact t.m_ParseError_InvalidNumber
  unfold ctOf at h
  dsimp only at h
  rw [if_neg e_InvalidNumber, if_neg e_InvalidSet, if_neg e_InvalidOperation, if_neg e_ParseError] at h
  cases h
theorem hcl_ParseError (t : Tx K mg) : ∀ n a, (ctOf t).addr n = some a → is_ParseError n = true → a = t.c_ParseError := by
  intro n a h hi
  have e : n = "ParseError" := by simpa [is_ParseError] using hi
  subst e
  rw [ct_ParseError] at h
  cases h
  rfl
theorem xf_ParseError (t : Tx K mg) : XfC K t.c_ParseError := ⟨t.ga_ParseError, t.gg_ParseError, t.b_ParseError, t.hd_ParseError⟩
theorem hcl_InvalidNumber (t : Tx K mg) : ∀ n a, (ctOf t).addr n = some a → is_InvalidNumber n = true → a = t.c_InvalidNumber := by
  intro n a h hi
  have e : n = "InvalidNumber" := by simpa [is_InvalidNumber] using hi
  subst e
  rw [ct_InvalidNumber] at h
  cases h
  rfl
theorem xf_InvalidNumber (t : Tx K mg) : XfC K t.c_InvalidNumber := ⟨t.ga_InvalidNumber, t.gg_InvalidNumber, t.b_InvalidNumber, t.hd_InvalidNumber⟩
end
theorem xc_InvalidNumber {K : PySem.W.Frag} {mg : Str → Option Value} (t : Tx K mg) : XcI K t.c_InvalidNumber [.type "IndexError", .type "LookupError", .type "Exception", .type "BaseException", .type "object"] "IndexError.__new__" "value" := ⟨t.q_InvalidNumber, t.o_InvalidNumber, t.s_InvalidNumber, t.tk_InvalidNumber, t.hd_InvalidNumber, t.b_InvalidNumber, t.y_InvalidNumber, t.k_InvalidNumber⟩
theorem sc_InvalidNumber__init__ : FnScope ["self", "value"] ["self", "value"] (defScope s_InvalidNumber__init__) := ⟨rfl, rfl, rfl, by decide +kernel, rfl, by decide +kernel, by decide +kernel⟩
theorem in_InvalidNumber {P : Program} {w : World} {K : PySem.W.Frag} {mg : Str → Option Value} {base : Heap} (t : Tx K mg) : FnG P w K mg base 1 t.fI_InvalidNumber t.ff_InvalidNumber ["self", "value"] (spIn t.c_InvalidNumber "value") := by
  refine fn_gen t.fn_InvalidNumber sc_InvalidNumber__init__ (fun vs H Q E h => by obtain ⟨a, y, rfl, _⟩ := h; rfl) fun cdv A outer s H E hr => ⟨tOst1 t.c_InvalidNumber "value" (tVar 0) (tVar 1), pss_one (ps_ost1 PySem.F.store_IndexError (xc_InvalidNumber t) (pv 0) (pv 1)), fun vs Q h => ?_⟩
  obtain ⟨a, y, rfl, h1, h2⟩ := h
  exact ⟨y, rfl, _, rfl, a, rfl, h1, h2⟩
theorem xc_ParseError {K : PySem.W.Frag} {mg : Str → Option Value} (t : Tx K mg) : XcI K t.c_ParseError [.type "ValueError", .type "Exception", .type "BaseException", .type "object"] "ValueError.__new__" "number" := ⟨t.q_ParseError, t.o_ParseError, t.s_ParseError, t.tk_ParseError, t.hd_ParseError, t.b_ParseError, t.y_ParseError, t.k_ParseError⟩
theorem sc_ParseError__init__ : FnScope ["self", "number"] ["self", "number"] (defScope s_ParseError__init__) := ⟨rfl, rfl, rfl, by decide +kernel, rfl, by decide +kernel, by decide +kernel⟩
theorem in_ParseError {P : Program} {w : World} {K : PySem.W.Frag} {mg : Str → Option Value} {base : Heap} (t : Tx K mg) : FnG P w K mg base 1 t.fI_ParseError t.ff_ParseError ["self", "number"] (spIn t.c_ParseError "number") := by
  refine fn_gen t.fn_ParseError sc_ParseError__init__ (fun vs H Q E h => by obtain ⟨a, y, rfl, _⟩ := h; rfl) fun cdv A outer s H E hr => ⟨tOst1 t.c_ParseError "number" (tVar 0) (tVar 1), pss_one (ps_ost1 PySem.F.store_ValueError (xc_ParseError t) (pv 0) (pv 1)), fun vs Q h => ?_⟩
  obtain ⟨a, y, rfl, h1, h2⟩ := h
  exact ⟨y, rfl, _, rfl, a, rfl, h1, h2⟩
structure Ux (base : Heap) {K : PySem.W.Frag} {mg : Str → Option Value} (t : Tx K mg) : Prop where
  b__law_right : LamX.TabB base mg t.cd__law_right t.P__law_right
  b__law_others_right : LamX.TabB base mg t.cd__law_others_right t.P__law_others_right
  b_law : LamX.TabB base mg t.cd_law t.P_law
def tbsOf {K : PySem.W.Frag} {mg : Str → Option Value} (t : Tx K mg) : List Tb := [("_law_right", t.cd__law_right, t.P__law_right), ("_law_others_right", t.cd__law_others_right, t.P__law_others_right), ("law", t.cd_law, t.P_law)]
/-! ## Each def is what it means -/
theorem sc__law_dice : FnScope ["script", "spot", "cell", "left"] ["script", "spot"] (defScope s__law_dice) := ⟨rfl, rfl, rfl, by decide +kernel, rfl, by decide +kernel, by decide +kernel⟩
theorem ok__law_dice {P : Program} {w : World} {K : PySem.W.Frag} {mg : Str → Option Value} {base : Heap} (t : Tx K mg) : FnD P w K mg base (ctOf t) 1 t.a__law_dice t.f__law_dice ["script", "spot"] m__law_dice := by
  refine fn_ok (b := b__law_dice) t.d__law_dice.fn sc__law_dice fun cdv A outer s H E hr => ?_
  refine dss_cons ?_ ?_
  refine ds_set (i := 2) sc__law_dice.nd (by rfl) (by first | exact Or.inl rfl | exact Or.inr rfl) ?_
  refine de_if ?_ ?_ ?_
  refine dt_cmp (od_ltA hr.s) ?_ ?_
  exact dv 1
  refine de_callB cd_len (by rfl) t.n_len bb_len ?_
  refine da_cons ?_ ?_
  exact dv 0
  exact da_nil
  refine de_callTy cd_intA (by rfl) t.n_int bb_int ?_
  refine da_cons ?_ ?_
  refine de_ix xd_ix ?_ ?_
  exact dv 0
  exact dv 1
  exact da_nil
  refine de_bin od_add ?_ ?_
  refine de_bin od_mul ?_ ?_
  exact de_int
  exact dv 1
  exact de_int
  refine dss_cons ?_ ?_
  refine ds_set (i := 3) sc__law_dice.nd (by rfl) (by first | exact Or.inl rfl | exact Or.inr rfl) ?_
  refine de_bin od_modI ?_ ?_
  refine de_callB (cd_max (by rfl)) (by rfl) t.n_max bb_max ?_
  refine da_cons ?_ ?_
  exact de_int
  refine da_cons ?_ ?_
  refine de_bin od_subI ?_ ?_
  refine de_callB cd_abs (by rfl) t.n_abs bb_abs ?_
  refine da_cons ?_ ?_
  exact dv 2
  exact da_nil
  refine de_bin od_powI ?_ ?_
  exact de_int
  exact de_int
  exact da_nil
  refine de_bin od_mul ?_ ?_
  refine de_bin od_powI ?_ ?_
  exact de_int
  exact de_int
  refine de_bin od_powI ?_ ?_
  exact de_int
  exact de_int
  refine dss_one ?_
  refine ds_ret ?_
  refine de_lstC ?_
  refine da_cons ?_ ?_
  exact dv 3
  refine da_cons ?_ ?_
  refine de_bin od_add ?_ ?_
  refine de_bin od_add ?_ ?_
  refine de_bin od_add ?_ ?_
  refine de_bin od_mul ?_ ?_
  refine de_bin od_modI ?_ ?_
  refine de_callB cd_abs (by rfl) t.n_abs bb_abs ?_
  refine da_cons ?_ ?_
  exact dv 2
  exact da_nil
  exact de_int
  exact de_int
  refine de_bin od_mul ?_ ?_
  exact de_int
  exact dv 1
  refine de_bin od_mul ?_ ?_
  exact de_int
  refine de_callTy cd_intA (by rfl) t.n_int bb_int ?_
  refine da_cons ?_ ?_
  refine de_cmp (od_ltA hr.s) ?_ ?_
  exact dv 2
  exact de_int
  exact da_nil
  exact de_int
  refine da_cons ?_ ?_
  exact de_int
  exact da_nil

theorem sc__law_met : FnScope ["call", "e"] ["call"] (defScope s__law_met) := ⟨rfl, rfl, rfl, by decide +kernel, rfl, by decide +kernel, by decide +kernel⟩
theorem ok__law_met {P : Program} {w : World} {K : PySem.W.Frag} {mg : Str → Option Value} {base : Heap} (t : Tx K mg) : FnL P w K mg base (ctOf t) 0 t.a__law_met t.f__law_met "call" m__law_met := by
  refine fnL_ok (b := b__law_met) t.d__law_met.fn sc__law_met fun cdv A outer s H E f ok mono cb kl hk hrl hL => ?_
  have hr := hrl.mono hk
  refine dss_cons ?_ ?_
  refine ds_try (takes_of (by rfl) (by rfl) (by rfl) (by rfl)) (fun W1 pn1 xe1 tk1 hp1 => ?_) ?_
  refine dss_one ?_
  refine ds_expr ?_
  exact de_clam hL hrl tk1
  refine HdD.as sc__law_met.nd (by rfl) (by rfl) ⟨by rfl, by decide, .inl t.g_InvalidNumber⟩ (hx_InvalidNumber t) (hcl_InvalidNumber t) (by rfl) (fun a5 dd5 oe5 fs5 pn5 hz5 hf5 => ?_) ?_
  refine dss_one ?_
  refine ds_ret ?_
  refine de_bin od_add ?_ ?_
  exact de_str
  refine de_callB (cd_reprA (hr.s.mark _)) (by rfl) t.n_repr bb_repr ?_
  refine da_cons ?_ ?_
  exact de_xf hz5 hf5 rfl rfl rfl (xf_InvalidNumber t) t.no_InvalidNumber
  exact da_nil
  refine HdD.one ⟨by rfl, by decide, .inl t.g_InvalidSet⟩ (hx_InvalidSet t) (fun _ _ _ _ _ _ _ => ?_) ?_
  refine dss_one ?_
  refine ds_ret ?_
  exact de_str
  refine HdD.one ⟨by rfl, by decide, .inl t.g_InvalidOperation⟩ (hx_InvalidOperation t) (fun _ _ _ _ _ _ _ => ?_) ?_
  refine dss_one ?_
  refine ds_ret ?_
  exact de_str
  refine HdD.as sc__law_met.nd (by rfl) (by rfl) ⟨by rfl, by decide, .inl t.g_ParseError⟩ (hx_ParseError t) (hcl_ParseError t) (by rfl) (fun a2 dd2 oe2 fs2 pn2 hz2 hf2 => ?_) ?_
  refine dss_one ?_
  refine ds_ret ?_
  refine de_bin od_add ?_ ?_
  exact de_str
  refine de_callB (cd_reprA (hr.s.mark _)) (by rfl) t.n_repr bb_repr ?_
  refine da_cons ?_ ?_
  exact de_xf hz2 hf2 rfl rfl rfl (xf_ParseError t) t.no_ParseError
  exact da_nil
  exact HdD.nil
  refine dss_one ?_
  refine ds_ret ?_
  exact de_str

theorem sc_is_integer : FnScope ["value"] ["value"] (defScope s_is_integer) := ⟨rfl, rfl, rfl, by decide +kernel, rfl, by decide +kernel, by decide +kernel⟩
theorem ok_is_integer {P : Program} {w : World} {K : PySem.W.Frag} {mg : Str → Option Value} {base : Heap} (t : Tx K mg) : FnD P w K mg base (ctOf t) 1 t.a_is_integer t.f_is_integer ["value"] m_is_integer := by
  obtain ⟨k_LIMIT, h_LIMIT⟩ := t.g_LIMIT
  refine fn_iso (fn_ok (b := b_is_integer) t.d_is_integer.fn sc_is_integer fun cdv A outer s H E hr => ?_)
  refine dss_one ?_
  refine ds_ret ?_
  refine de_and ?_ ?_
  refine de_isi (by rfl) t.n_isinstance bb_isinstance ?_ (by rfl) t.n_int bb_int
  exact dv 0
  refine de_and ?_ ?_
  refine de_not ?_
  refine de_isi (by rfl) t.n_isinstance bb_isinstance ?_ (by rfl) t.n_bool bb_bool
  exact dv 0
  refine de_one ?_
  refine de_chain (od_ltA hr.s) (od_ltA hr.s) ?_ ?_ ?_
  refine de_un ud_neg ?_
  exact de_globI (by rfl) h_LIMIT
  exact dv 0
  exact de_globI (by rfl) h_LIMIT

theorem sc_is_count : FnScope ["value"] ["value"] (defScope s_is_count) := ⟨rfl, rfl, rfl, by decide +kernel, rfl, by decide +kernel, by decide +kernel⟩
theorem ok_is_count {P : Program} {w : World} {K : PySem.W.Frag} {mg : Str → Option Value} {base : Heap} (t : Tx K mg) : FnD P w K mg base (ctOf t) 2 t.a_is_count t.f_is_count ["value"] m_is_count := by
  refine fn_iso (fn_ok (b := b_is_count) t.d_is_count.fn sc_is_count fun cdv A outer s H E hr => ?_)
  refine dss_one ?_
  refine ds_ret ?_
  refine de_and ?_ ?_
  refine dc (L := t.d_is_integer) (ok_is_integer t) hr (takes_of (by rfl) (by rfl) (by rfl) (by rfl)) ?_
  refine da_cons ?_ ?_
  exact dv 0
  exact da_nil
  refine de_one ?_
  refine de_cmp od_ge ?_ ?_
  exact dv 0
  exact de_int

theorem sc_is_width : FnScope ["value"] ["value"] (defScope s_is_width) := ⟨rfl, rfl, rfl, by decide +kernel, rfl, by decide +kernel, by decide +kernel⟩
theorem ok_is_width {P : Program} {w : World} {K : PySem.W.Frag} {mg : Str → Option Value} {base : Heap} (t : Tx K mg) : FnD P w K mg base (ctOf t) 3 t.a_is_width t.f_is_width ["value"] m_is_width := by
  obtain ⟨k_MAX_WIDTH, h_MAX_WIDTH⟩ := t.g_MAX_WIDTH
  obtain ⟨k_MIN_WIDTH, h_MIN_WIDTH⟩ := t.g_MIN_WIDTH
  refine fn_iso (fn_ok (b := b_is_width) t.d_is_width.fn sc_is_width fun cdv A outer s H E hr => ?_)
  refine dss_one ?_
  refine ds_ret ?_
  refine de_and ?_ ?_
  refine dc (L := t.d_is_count) (ok_is_count t) hr (takes_of (by rfl) (by rfl) (by rfl) (by rfl)) ?_
  refine da_cons ?_ ?_
  exact dv 0
  exact da_nil
  refine de_one ?_
  refine de_chain od_le od_le ?_ ?_ ?_
  exact de_globI (by rfl) h_MIN_WIDTH
  exact dv 0
  exact de_globI (by rfl) h_MAX_WIDTH

theorem sc_require_width : FnScope ["value"] ["value"] (defScope s_require_width) := ⟨rfl, rfl, rfl, by decide +kernel, rfl, by decide +kernel, by decide +kernel⟩
theorem ok_require_width {P : Program} {w : World} {K : PySem.W.Frag} {mg : Str → Option Value} {base : Heap} (t : Tx K mg) : FnD P w K mg base (ctOf t) 4 t.a_require_width t.f_require_width ["value"] m_require_width := by
  refine fn_iso (fn_ok (b := b_require_width) t.d_require_width.fn sc_require_width fun cdv A outer s H E hr => ?_)
  refine dss_one ?_
  refine ds_if ?_ ?_ ?_
  refine dt_not ?_
  refine dt_val ?_
  refine dc (L := t.d_is_width) (ok_is_width t) hr (takes_of (by rfl) (by rfl) (by rfl) (by rfl)) ?_
  refine da_cons ?_ ?_
  exact dv 0
  exact da_nil
  refine dss_one ?_
  refine ds_raiseF PySem.F.excBase_IndexError (xc_InvalidNumber t) t.i_InvalidNumber t.ti_InvalidNumber (in_InvalidNumber t) (hr.mono (by decide)) t.bi_InvalidNumber t.g_InvalidNumber (ct_InvalidNumber t) (takes_of (by rfl) (by rfl) (by rfl) (by rfl)) ?_
  exact dv 0
  exact dss_nil

theorem sc_contains : FnScope ["one", "other", "place"] ["one", "other"] (defScope s_contains) := ⟨rfl, rfl, rfl, by decide +kernel, rfl, by decide +kernel, by decide +kernel⟩
theorem ok_contains {P : Program} {w : World} {K : PySem.W.Frag} {mg : Str → Option Value} {base : Heap} (t : Tx K mg) : FnD P w K mg base (ctOf t) 1 t.a_contains t.f_contains ["one", "other"] m_contains := by
  refine fn_iso (fn_ok (b := b_contains) t.d_contains.fn sc_contains fun cdv A outer s H E hr => ?_)
  refine dss_one ?_
  refine ds_ret ?_
  refine de_callB (cd_all (by rfl)) (by rfl) t.n_all bb_all ?_
  refine da_cons ?_ ?_
  refine de_lc (own := [("place", 2)]) (g := (gN 2)) (by rfl) sc_contains.nd ?_ (blkOk_by (N := ["one", "other", "place"]) (sc := defScope s_contains) (by decide +kernel)) (fun _ _ _ _ _ => (dg_name (i := 2) sc_contains.nd (by rfl) (by first | exact Or.inl rfl | exact Or.inr rfl))) (fun _ _ _ _ _ => ?_) (fun _ _ _ _ _ => ?_)
  refine di_any ?_
  exact dv 1
  exact dts_nil
  refine de_cmp (od_in hr.s) ?_ ?_
  exact dv 2
  exact dv 0
  exact da_nil

theorem sc_are_least : FnScope ["sets", "one", "other"] ["sets"] (defScope s_are_least) := ⟨rfl, rfl, rfl, by decide +kernel, rfl, by decide +kernel, by decide +kernel⟩
theorem ok_are_least {P : Program} {w : World} {K : PySem.W.Frag} {mg : Str → Option Value} {base : Heap} (t : Tx K mg) : FnD P w K mg base (ctOf t) 2 t.a_are_least t.f_are_least ["sets"] m_are_least := by
  refine fn_iso (fn_ok (b := b_are_least) t.d_are_least.fn sc_are_least fun cdv A outer s H E hr => ?_)
  refine dss_one ?_
  refine ds_ret ?_
  refine de_not ?_
  refine de_callB (cd_any (by rfl)) (by rfl) t.n_any bb_any ?_
  refine da_cons ?_ ?_
  refine de_lc2 (own := [("one", 1), ("other", 2)]) (vs1 := [2]) (g := (gN 1)) (g1 := (gN 2)) (by rfl) sc_are_least.nd ?_ (blkOk_by (N := ["sets", "one", "other"]) (sc := defScope s_are_least) (by decide +kernel)) (by decide) ?_ (fun _ _ _ _ _ => ?_) (fun _ _ _ _ _ => ?_) ?_ (fun _ _ _ _ _ => ?_) (fun _ _ _ _ _ => ?_)
  refine di_any ?_
  exact dv 0
  exact fun _ _ _ _ _ => DG.more (dg_name (i := 1) sc_are_least.nd (by rfl) (by first | exact Or.inl rfl | exact Or.inr rfl)) (by decide)
  exact dts_nil
  refine di_any ?_
  exact dv 0
  exact fun _ _ _ _ _ => (dg_name (i := 2) sc_are_least.nd (by rfl) (by first | exact Or.inl rfl | exact Or.inr rfl))
  exact dts_nil
  refine de_and ?_ ?_
  refine de_cmp (od_ne hr.s) ?_ ?_
  exact dv 1
  exact dv 2
  refine de_one ?_
  refine dc (L := t.d_contains) (ok_contains t) hr takes0 ?_
  refine da_cons ?_ ?_
  exact dv 1
  refine da_cons ?_ ?_
  exact dv 2
  exact da_nil
  exact da_nil

theorem sc_are_places : FnScope ["width", "value", "place", "one", "other"] ["width", "value"] (defScope s_are_places) := ⟨rfl, rfl, rfl, by decide +kernel, rfl, by decide +kernel, by decide +kernel⟩
theorem ok_are_places {P : Program} {w : World} {K : PySem.W.Frag} {mg : Str → Option Value} {base : Heap} (t : Tx K mg) : FnD P w K mg base (ctOf t) 3 t.a_are_places t.f_are_places ["width", "value"] m_are_places := by
  refine fn_iso (fn_ok (b := b_are_places) t.d_are_places.fn sc_are_places fun cdv A outer s H E hr => ?_)
  refine dss_cons ?_ ?_
  refine ds_if ?_ ?_ ?_
  refine DW.dt ?_
  refine dw_or ?_ ?_
  refine dt_not ?_
  refine dt_val ?_
  refine de_isi (by rfl) t.n_isinstance bb_isinstance ?_ (by rfl) t.n_tuple bb_tuple
  exact dv 1
  refine dw_or1 ?_
  refine dt_not ?_
  refine dt_val ?_
  refine de_callB (cd_all (by rfl)) (by rfl) t.n_all bb_all ?_
  refine da_cons ?_ ?_
  refine de_lc (own := [("place", 2)]) (g := (gN 2)) (by rfl) sc_are_places.nd ?_ (blkOk_by (N := ["width", "value", "place", "one", "other"]) (sc := defScope s_are_places) (by decide +kernel)) (fun _ _ _ _ _ => (dg_name (i := 2) sc_are_places.nd (by rfl) (by first | exact Or.inl rfl | exact Or.inr rfl))) (fun _ _ _ _ _ => ?_) (fun _ _ _ _ _ => ?_)
  refine di_any ?_
  exact dv 1
  exact dts_nil
  refine de_and ?_ ?_
  refine dc (L := t.d_is_count) (ok_is_count t) hr takes0 ?_
  refine da_cons ?_ ?_
  exact dv 2
  exact da_nil
  refine de_one ?_
  refine de_cmp (od_ltA hr.s) ?_ ?_
  exact dv 2
  exact dv 0
  exact da_nil
  refine dss_one ?_
  refine ds_ret ?_
  exact de_bl
  exact dss_nil
  refine dss_one ?_
  refine ds_ret ?_
  refine de_callB (cd_all (by rfl)) (by rfl) t.n_all bb_all ?_
  refine da_cons ?_ ?_
  refine de_lc (own := [("one", 3), ("other", 4)]) (g := (gT2 3 4)) (by rfl) sc_are_places.nd ?_ (blkOk_by (N := ["width", "value", "place", "one", "other"]) (sc := defScope s_are_places) (by decide +kernel)) (fun _ _ _ _ _ => (dg_tup2 (i := 3) (j := 4) (by rfl) sc_are_places.nd (by rfl) (by first | exact Or.inl rfl | exact Or.inr rfl) (by rfl) (by first | exact Or.inl rfl | exact Or.inr rfl))) (fun _ _ _ _ _ => ?_) (fun _ _ _ _ _ => ?_)
  refine di_zip (by rfl) t.n_zip ?_ ?_
  exact dv 1
  refine de_sl ?_ ?_ ?_
  exact dv 1
  refine dp_int ?_
  exact de_int
  exact dp_no
  exact dts_nil
  refine de_cmp (od_ltA hr.s) ?_ ?_
  exact dv 3
  exact dv 4
  exact da_nil

theorem sc_is_set_of : FnScope ["width", "value"] ["width", "value"] (defScope s_is_set_of) := ⟨rfl, rfl, rfl, by decide +kernel, rfl, by decide +kernel, by decide +kernel⟩
theorem ok_is_set_of {P : Program} {w : World} {K : PySem.W.Frag} {mg : Str → Option Value} {base : Heap} (t : Tx K mg) : FnD P w K mg base (ctOf t) 4 t.a_is_set_of t.f_is_set_of ["width", "value"] m_is_set_of := by
  refine fn_iso (fn_ok (b := b_is_set_of) t.d_is_set_of.fn sc_is_set_of fun cdv A outer s H E hr => ?_)
  refine dss_one ?_
  refine ds_ret ?_
  refine de_and ?_ ?_
  refine dc (L := t.d_are_places) (ok_are_places t) hr (takes_of (by rfl) (by rfl) (by rfl) (by rfl)) ?_
  refine da_cons ?_ ?_
  exact dv 0
  refine da_cons ?_ ?_
  exact dv 1
  exact da_nil
  refine de_one ?_
  refine de_cmp (od_ne hr.s) ?_ ?_
  exact dv 1
  refine de_tup ?_
  exact da_nil

theorem sc_is_family_of : FnScope ["width", "value", "one", "other"] ["width", "value"] (defScope s_is_family_of) := ⟨rfl, rfl, rfl, by decide +kernel, rfl, by decide +kernel, by decide +kernel⟩
theorem ok_is_family_of {P : Program} {w : World} {K : PySem.W.Frag} {mg : Str → Option Value} {base : Heap} (t : Tx K mg) : FnD P w K mg base (ctOf t) 5 t.a_is_family_of t.f_is_family_of ["width", "value"] m_is_family_of := by
  refine fn_iso (fn_ok (b := b_is_family_of) t.d_is_family_of.fn sc_is_family_of fun cdv A outer s H E hr => ?_)
  refine dss_cons ?_ ?_
  refine ds_if ?_ ?_ ?_
  refine DW.dt ?_
  refine dw_or ?_ ?_
  refine dt_not ?_
  refine dt_val ?_
  refine de_isi (by rfl) t.n_isinstance bb_isinstance ?_ (by rfl) t.n_tuple bb_tuple
  exact dv 1
  refine dw_or ?_ ?_
  refine dt_cmp (od_eqA hr.s) ?_ ?_
  exact dv 1
  refine de_tup ?_
  exact da_nil
  refine dw_or1 ?_
  refine dt_not ?_
  refine dt_val ?_
  refine de_callB (cd_all (by rfl)) (by rfl) t.n_all bb_all ?_
  refine da_cons ?_ ?_
  refine de_lc (own := [("one", 2)]) (g := (gN 2)) (by rfl) sc_is_family_of.nd ?_ (blkOk_by (N := ["width", "value", "one", "other"]) (sc := defScope s_is_family_of) (by decide +kernel)) (fun _ _ _ _ _ => (dg_name (i := 2) sc_is_family_of.nd (by rfl) (by first | exact Or.inl rfl | exact Or.inr rfl))) (fun _ _ _ _ _ => ?_) (fun _ _ _ _ _ => ?_)
  refine di_any ?_
  exact dv 1
  exact dts_nil
  refine dc (L := t.d_is_set_of) (ok_is_set_of t) hr takes0 ?_
  refine da_cons ?_ ?_
  exact dv 0
  refine da_cons ?_ ?_
  exact dv 2
  exact da_nil
  exact da_nil
  refine dss_one ?_
  refine ds_ret ?_
  exact de_bl
  exact dss_nil
  refine dss_one ?_
  refine ds_ret ?_
  refine de_and ?_ ?_
  refine de_callB (cd_all (by rfl)) (by rfl) t.n_all bb_all ?_
  refine da_cons ?_ ?_
  refine de_lc (own := [("one", 2), ("other", 3)]) (g := (gT2 2 3)) (by rfl) sc_is_family_of.nd ?_ (blkOk_by (N := ["width", "value", "one", "other"]) (sc := defScope s_is_family_of) (by decide +kernel)) (fun _ _ _ _ _ => (dg_tup2 (i := 2) (j := 3) (by rfl) sc_is_family_of.nd (by rfl) (by first | exact Or.inl rfl | exact Or.inr rfl) (by rfl) (by first | exact Or.inl rfl | exact Or.inr rfl))) (fun _ _ _ _ _ => ?_) (fun _ _ _ _ _ => ?_)
  refine di_zip (by rfl) t.n_zip ?_ ?_
  exact dv 1
  refine de_sl ?_ ?_ ?_
  exact dv 1
  refine dp_int ?_
  exact de_int
  exact dp_no
  exact dts_nil
  refine de_cmp (od_ltA hr.s) ?_ ?_
  exact dv 2
  exact dv 3
  exact da_nil
  refine de_one ?_
  refine dc (L := t.d_are_least) (ok_are_least t) hr (takes_of (by rfl) (by rfl) (by rfl) (by rfl)) ?_
  refine da_cons ?_ ?_
  exact dv 1
  exact da_nil

theorem sc_require_family : FnScope ["width", "value"] ["width", "value"] (defScope s_require_family) := ⟨rfl, rfl, rfl, by decide +kernel, rfl, by decide +kernel, by decide +kernel⟩
theorem ok_require_family {P : Program} {w : World} {K : PySem.W.Frag} {mg : Str → Option Value} {base : Heap} (t : Tx K mg) : FnD P w K mg base (ctOf t) 6 t.a_require_family t.f_require_family ["width", "value"] m_require_family := by
  refine fn_iso (fn_ok (b := b_require_family) t.d_require_family.fn sc_require_family fun cdv A outer s H E hr => ?_)
  refine dss_one ?_
  refine ds_if ?_ ?_ ?_
  refine dt_not ?_
  refine dt_val ?_
  refine dc (L := t.d_is_family_of) (ok_is_family_of t) hr (takes_of (by rfl) (by rfl) (by rfl) (by rfl)) ?_
  refine da_cons ?_ ?_
  exact dv 0
  refine da_cons ?_ ?_
  exact dv 1
  exact da_nil
  refine dss_one ?_
  exact ds_raiseM PySem.F.excBase_ValueError t.x_InvalidSet t.g_InvalidSet t.k_InvalidSet (raises_own t.b_InvalidSet t.y_InvalidSet) (ct_InvalidSet t) (takes_of (by rfl) (by rfl) (by rfl) (by rfl))
  exact dss_nil

theorem sc_least_in : FnScope ["sets", "known", "one", "other"] ["sets"] (defScope s_least_in) := ⟨rfl, rfl, rfl, by decide +kernel, rfl, by decide +kernel, by decide +kernel⟩
theorem ok_least_in {P : Program} {w : World} {K : PySem.W.Frag} {mg : Str → Option Value} {base : Heap} (t : Tx K mg) : FnD P w K mg base (ctOf t) 2 t.a_least_in t.f_least_in ["sets"] m_least_in := by
  refine fn_iso (fn_ok (b := b_least_in) t.d_least_in.fn sc_least_in fun cdv A outer s H E hr => ?_)
  refine dss_cons ?_ ?_
  refine ds_set (i := 1) sc_least_in.nd (by rfl) (by first | exact Or.inl rfl | exact Or.inr rfl) ?_
  refine de_srtSetA (by rfl) hr.s (by rfl) t.n_sorted (by rfl) t.n_set ?_
  exact dv 0
  refine dss_one ?_
  refine ds_ret ?_
  refine de_callTy cd_tuple (by rfl) t.n_tuple bb_tuple ?_
  refine da_cons ?_ ?_
  refine de_lc (own := [("one", 2)]) (g := (gN 2)) (by rfl) sc_least_in.nd ?_ (blkOk_by (N := ["sets", "known", "one", "other"]) (sc := defScope s_least_in) (by decide +kernel)) (fun _ _ _ _ _ => (dg_name (i := 2) sc_least_in.nd (by rfl) (by first | exact Or.inl rfl | exact Or.inr rfl))) (fun _ _ _ _ _ => ?_) (fun _ _ _ _ _ => ?_)
  refine di_any ?_
  exact dv 1
  refine dts_one ?_
  refine dt_not ?_
  refine dt_val ?_
  refine de_callB (cd_any (by rfl)) (by rfl) t.n_any bb_any ?_
  refine da_cons ?_ ?_
  refine de_lc (own := [("other", 3)]) (g := (gN 3)) (by rfl) sc_least_in.nd ?_ (blkOk_by (by kernel_rfl)) (fun _ _ _ _ _ => (dg_name (i := 3) sc_least_in.nd (by rfl) (by first | exact Or.inl rfl | exact Or.inr rfl))) (fun _ _ _ _ _ => ?_) (fun _ _ _ _ _ => ?_)
  refine di_any ?_
  exact dv 1
  exact dts_nil
  refine de_and ?_ ?_
  refine de_cmp (od_ne hr.s) ?_ ?_
  exact dv 2
  exact dv 3
  refine de_one ?_
  refine dc (L := t.d_contains) (ok_contains t) hr takes0 ?_
  refine da_cons ?_ ?_
  exact dv 2
  refine da_cons ?_ ?_
  exact dv 3
  exact da_nil
  exact da_nil
  exact dv 2
  exact da_nil

theorem sc_do_meet : FnScope ["one", "other", "place"] ["one", "other"] (defScope s_do_meet) := ⟨rfl, rfl, rfl, by decide +kernel, rfl, by decide +kernel, by decide +kernel⟩
theorem ok_do_meet {P : Program} {w : World} {K : PySem.W.Frag} {mg : Str → Option Value} {base : Heap} (t : Tx K mg) : FnD P w K mg base (ctOf t) 1 t.a_do_meet t.f_do_meet ["one", "other"] m_do_meet := by
  refine fn_iso (fn_ok (b := b_do_meet) t.d_do_meet.fn sc_do_meet fun cdv A outer s H E hr => ?_)
  refine dss_one ?_
  refine ds_ret ?_
  refine de_callB (cd_any (by rfl)) (by rfl) t.n_any bb_any ?_
  refine da_cons ?_ ?_
  refine de_lc (own := [("place", 2)]) (g := (gN 2)) (by rfl) sc_do_meet.nd ?_ (blkOk_by (N := ["one", "other", "place"]) (sc := defScope s_do_meet) (by decide +kernel)) (fun _ _ _ _ _ => (dg_name (i := 2) sc_do_meet.nd (by rfl) (by first | exact Or.inl rfl | exact Or.inr rfl))) (fun _ _ _ _ _ => ?_) (fun _ _ _ _ _ => ?_)
  refine di_any ?_
  exact dv 0
  exact dts_nil
  refine de_cmp (od_in hr.s) ?_ ?_
  exact dv 2
  exact dv 1
  exact da_nil

theorem sc_all_sets : FnScope ["width", "found", "place", "one"] ["width"] (defScope s_all_sets) := ⟨rfl, rfl, rfl, by decide +kernel, rfl, by decide +kernel, by decide +kernel⟩
theorem ok_all_sets {P : Program} {w : World} {K : PySem.W.Frag} {mg : Str → Option Value} {base : Heap} (t : Tx K mg) : FnD P w K mg base (ctOf t) 1 t.a_all_sets t.f_all_sets ["width"] m_all_sets := by
  refine fn_iso (fn_ok (b := b_all_sets) t.d_all_sets.fn sc_all_sets fun cdv A outer s H E hr => ?_)
  refine dss_cons ?_ ?_
  refine ds_set (i := 1) sc_all_sets.nd (by rfl) (by first | exact Or.inl rfl | exact Or.inr rfl) ?_
  refine de_lstC ?_
  refine da_cons ?_ ?_
  refine de_tup ?_
  exact da_nil
  exact da_nil
  refine dss_cons ?_ ?_
  refine ds_for (b := l1_all_sets) (passes_of (by rfl)) (by rfl) ?_ (dg_name (i := 2) sc_all_sets.nd (by rfl) (by first | exact Or.inl rfl | exact Or.inr rfl)) ?_
  refine di_range1 (by rfl) t.n_range ?_
  exact dv 0
  refine dss_one ?_
  refine ds_expr ?_
  refine de_meth md_extend ?_ ?_
  exact dv 1
  refine da_cons ?_ ?_
  refine de_lc (own := [("one", 3)]) (g := (gN 3)) (by rfl) sc_all_sets.nd ?_ (blkOk_by (N := ["width", "found", "place", "one"]) (sc := defScope s_all_sets) (by decide +kernel)) (fun _ _ _ _ _ => (dg_name (i := 3) sc_all_sets.nd (by rfl) (by first | exact Or.inl rfl | exact Or.inr rfl))) (fun _ _ _ _ _ => ?_) (fun _ _ _ _ _ => ?_)
  refine di_any ?_
  exact dv 1
  exact dts_nil
  refine de_tup ?_
  refine da_star ?_ ?_
  exact dv 3
  refine da_cons ?_ ?_
  exact dv 2
  exact da_nil
  exact da_nil
  refine dss_one ?_
  refine ds_ret ?_
  refine de_sl ?_ ?_ ?_
  exact dv 1
  refine dp_int ?_
  exact de_int
  exact dp_no

theorem sc_dual_family : FnScope ["width", "family", "one", "other"] ["width", "family"] (defScope s_dual_family) := ⟨rfl, rfl, rfl, by decide +kernel, rfl, by decide +kernel, by decide +kernel⟩
theorem ok_dual_family {P : Program} {w : World} {K : PySem.W.Frag} {mg : Str → Option Value} {base : Heap} (t : Tx K mg) : FnD P w K mg base (ctOf t) 3 t.a_dual_family t.f_dual_family ["width", "family"] m_dual_family := by
  refine fn_iso (fn_ok (b := b_dual_family) t.d_dual_family.fn sc_dual_family fun cdv A outer s H E hr => ?_)
  refine dss_one ?_
  refine ds_ret ?_
  refine dc (L := t.d_least_in) (ok_least_in t) hr (takes_of (by rfl) (by rfl) (by rfl) (by rfl)) ?_
  refine da_cons ?_ ?_
  refine de_lc (own := [("one", 2)]) (g := (gN 2)) (by rfl) sc_dual_family.nd ?_ (blkOk_by (N := ["width", "family", "one", "other"]) (sc := defScope s_dual_family) (by decide +kernel)) (fun _ _ _ _ _ => (dg_name (i := 2) sc_dual_family.nd (by rfl) (by first | exact Or.inl rfl | exact Or.inr rfl))) (fun _ _ _ _ _ => ?_) (fun _ _ _ _ _ => ?_)
  refine di_any ?_
  refine dc (L := t.d_all_sets) (ok_all_sets t) hr (takes_of (by rfl) (by rfl) (by rfl) (by rfl)) ?_
  refine da_cons ?_ ?_
  exact dv 0
  exact da_nil
  refine dts_one ?_
  refine dt_val ?_
  refine de_callB (cd_all (by rfl)) (by rfl) t.n_all bb_all ?_
  refine da_cons ?_ ?_
  refine de_lc (own := [("other", 3)]) (g := (gN 3)) (by rfl) sc_dual_family.nd ?_ (blkOk_by (by kernel_rfl)) (fun _ _ _ _ _ => (dg_name (i := 3) sc_dual_family.nd (by rfl) (by first | exact Or.inl rfl | exact Or.inr rfl))) (fun _ _ _ _ _ => ?_) (fun _ _ _ _ _ => ?_)
  refine di_any ?_
  exact dv 1
  exact dts_nil
  refine dc (L := t.d_do_meet) (ok_do_meet t) hr takes0 ?_
  refine da_cons ?_ ?_
  exact dv 2
  refine da_cons ?_ ?_
  exact dv 3
  exact da_nil
  exact da_nil
  exact dv 2
  exact da_nil

theorem sc_holds_one : FnScope ["family", "places", "one"] ["family", "places"] (defScope s_holds_one) := ⟨rfl, rfl, rfl, by decide +kernel, rfl, by decide +kernel, by decide +kernel⟩
theorem ok_holds_one {P : Program} {w : World} {K : PySem.W.Frag} {mg : Str → Option Value} {base : Heap} (t : Tx K mg) : FnD P w K mg base (ctOf t) 2 t.a_holds_one t.f_holds_one ["family", "places"] m_holds_one := by
  refine fn_iso (fn_ok (b := b_holds_one) t.d_holds_one.fn sc_holds_one fun cdv A outer s H E hr => ?_)
  refine dss_one ?_
  refine ds_ret ?_
  refine de_callB (cd_any (by rfl)) (by rfl) t.n_any bb_any ?_
  refine da_cons ?_ ?_
  refine de_lc (own := [("one", 2)]) (g := (gN 2)) (by rfl) sc_holds_one.nd ?_ (blkOk_by (N := ["family", "places", "one"]) (sc := defScope s_holds_one) (by decide +kernel)) (fun _ _ _ _ _ => (dg_name (i := 2) sc_holds_one.nd (by rfl) (by first | exact Or.inl rfl | exact Or.inr rfl))) (fun _ _ _ _ _ => ?_) (fun _ _ _ _ _ => ?_)
  refine di_any ?_
  exact dv 0
  exact dts_nil
  refine dc (L := t.d_contains) (ok_contains t) hr takes0 ?_
  refine da_cons ?_ ?_
  exact dv 1
  refine da_cons ?_ ?_
  exact dv 2
  exact da_nil
  exact da_nil

theorem sc_completed : FnScope ["width", "family", "one", "other", "found", "more"] ["width", "family"] (defScope s_completed) := ⟨rfl, rfl, rfl, by decide +kernel, rfl, by decide +kernel, by decide +kernel⟩
theorem ok_completed {P : Program} {w : World} {K : PySem.W.Frag} {mg : Str → Option Value} {base : Heap} (t : Tx K mg) : FnD P w K mg base (ctOf t) 7 t.a_completed t.f_completed ["width", "family"] m_completed := by
  refine fn_iso (fn_ok (b := b_completed) t.d_completed.fn sc_completed fun cdv A outer s H E hr => ?_)
  refine dss_cons ?_ ?_
  refine ds_expr ?_
  refine dc (L := t.d_require_width) (ok_require_width t) hr (takes_of (by rfl) (by rfl) (by rfl) (by rfl)) ?_
  refine da_cons ?_ ?_
  exact dv 0
  exact da_nil
  refine dss_cons ?_ ?_
  refine ds_expr ?_
  refine dc (L := t.d_require_family) (ok_require_family t) hr (takes_of (by rfl) (by rfl) (by rfl) (by rfl)) ?_
  refine da_cons ?_ ?_
  exact dv 0
  refine da_cons ?_ ?_
  exact dv 1
  exact da_nil
  refine dss_cons ?_ ?_
  refine ds_if ?_ ?_ ?_
  refine dt_not ?_
  refine dt_val ?_
  refine de_callB (cd_all (by rfl)) (by rfl) t.n_all bb_all ?_
  refine da_cons ?_ ?_
  refine de_lc2 (own := [("one", 2), ("other", 3)]) (vs1 := [3]) (g := (gN 2)) (g1 := (gN 3)) (by rfl) sc_completed.nd ?_ (blkOk_by (N := ["width", "family", "one", "other", "found", "more"]) (sc := defScope s_completed) (by decide +kernel)) (by decide) ?_ (fun _ _ _ _ _ => ?_) (fun _ _ _ _ _ => ?_) ?_ (fun _ _ _ _ _ => ?_) (fun _ _ _ _ _ => ?_)
  refine di_any ?_
  exact dv 1
  exact fun _ _ _ _ _ => DG.more (dg_name (i := 2) sc_completed.nd (by rfl) (by first | exact Or.inl rfl | exact Or.inr rfl)) (by decide)
  exact dts_nil
  refine di_any ?_
  exact dv 1
  exact fun _ _ _ _ _ => (dg_name (i := 3) sc_completed.nd (by rfl) (by first | exact Or.inl rfl | exact Or.inr rfl))
  exact dts_nil
  refine dc (L := t.d_do_meet) (ok_do_meet t) hr takes0 ?_
  refine da_cons ?_ ?_
  exact dv 2
  refine da_cons ?_ ?_
  exact dv 3
  exact da_nil
  exact da_nil
  refine dss_one ?_
  exact ds_raiseM PySem.F.excBase_ValueError t.x_InvalidOperation t.g_InvalidOperation t.k_InvalidOperation (raises_own t.b_InvalidOperation t.y_InvalidOperation) (ct_InvalidOperation t) (takes_of (by rfl) (by rfl) (by rfl) (by rfl))
  exact dss_nil
  refine dss_cons ?_ ?_
  refine ds_set (i := 4) sc_completed.nd (by rfl) (by first | exact Or.inl rfl | exact Or.inr rfl) ?_
  exact dv 1
  refine dss_one ?_
  refine ds_while (b := l1_completed) 5000 (passes_of (by rfl)) ?_ ?_
  refine dt_val ?_
  exact de_bl
  refine dss_cons ?_ ?_
  refine ds_setLc (j := 5) (own := [("one", 2)]) (g := (gN 2)) (by rfl) sc_completed.nd (by rfl) (by rfl) (sw_true rfl rfl rfl (by decide +kernel)) ?_ (blkOk_by (N := ["width", "family", "one", "other", "found", "more"]) (sc := defScope s_completed) (by decide +kernel)) (fun _ _ _ _ _ => (dg_name (i := 2) sc_completed.nd (by rfl) (by first | exact Or.inl rfl | exact Or.inr rfl))) (fun _ _ _ _ _ => ?_) (fun _ _ _ _ _ => ?_)
  refine di_any ?_
  refine dc (L := t.d_dual_family) (ok_dual_family t) hr (takes_of (by rfl) (by rfl) (by rfl) (by rfl)) ?_
  refine da_cons ?_ ?_
  exact dv 0
  refine da_cons ?_ ?_
  exact dv 4
  exact da_nil
  refine dts_one ?_
  refine dt_not ?_
  refine dt_val ?_
  refine dc (L := t.d_holds_one) (ok_holds_one t) hr takes0 ?_
  refine da_cons ?_ ?_
  exact dv 4
  refine da_cons ?_ ?_
  exact dv 2
  exact da_nil
  exact dv 2
  refine dss_cons ?_ ?_
  refine ds_if ?_ ?_ ?_
  refine dt_cmp (od_eqA hr.s) ?_ ?_
  exact dv 5
  refine de_lst ?_
  exact da_nil
  refine dss_one ?_
  refine ds_ret ?_
  exact dv 4
  exact dss_nil
  refine dss_one ?_
  refine ds_set (i := 4) sc_completed.nd (by rfl) (by first | exact Or.inl rfl | exact Or.inr rfl) ?_
  refine dc (L := t.d_least_in) (ok_least_in t) hr (takes_of (by rfl) (by rfl) (by rfl) (by rfl)) ?_
  refine da_cons ?_ ?_
  refine de_lst ?_
  refine da_star ?_ ?_
  exact dv 4
  refine da_cons ?_ ?_
  refine de_ix xd_ix ?_ ?_
  exact dv 5
  exact de_int
  exact da_nil
  exact da_nil

theorem sc__law_roll : FnScope ["dice", "total", "found", "one", "two"] ["dice", "total"] (defScope s__law_roll) := ⟨rfl, rfl, rfl, by decide +kernel, rfl, by decide +kernel, by decide +kernel⟩
theorem ok__law_roll {P : Program} {w : World} {K : PySem.W.Frag} {mg : Str → Option Value} {base : Heap} (t : Tx K mg) : FnD P w K mg base (ctOf t) 1 t.a__law_roll t.f__law_roll ["dice", "total"] m__law_roll := by
  refine fn_gc (fn_ok (b := b__law_roll) t.d__law_roll.fn sc__law_roll fun cdv A outer s H E hr => ?_)
  refine dss_cons ?_ ?_
  refine ds_if ?_ ?_ ?_
  refine dt_cmp od_gt ?_ ?_
  refine de_ix xd_ix ?_ ?_
  exact dv 0
  exact de_int
  exact de_int
  refine dss_cons ?_ ?_
  refine ds_set (i := 2) sc__law_roll.nd (by rfl) (by first | exact Or.inl rfl | exact Or.inr rfl) ?_
  refine de_bin od_modI ?_ ?_
  refine de_callTy cd_intA (by rfl) t.n_int bb_int ?_
  refine da_cons ?_ ?_
  refine de_ix xd_ix ?_ ?_
  exact dv 0
  exact de_int
  exact da_nil
  exact dv 1
  refine dss_cons ?_ ?_
  refine ds_setL ?_ ?_ ?_
  exact dv 0
  exact de_int
  refine de_bin od_fdivI ?_ ?_
  refine de_ix xd_ix ?_ ?_
  exact dv 0
  exact de_int
  exact dv 1
  refine dss_one ?_
  refine ds_ret ?_
  exact dv 2
  exact dss_nil
  refine dss_cons ?_ ?_
  refine ds_setL ?_ ?_ ?_
  exact dv 0
  exact de_int
  refine de_bin od_add ?_ ?_
  refine de_ix xd_ix ?_ ?_
  exact dv 0
  exact de_int
  exact de_int
  refine dss_cons ?_ ?_
  refine ds_set (i := 3) sc__law_roll.nd (by rfl) (by first | exact Or.inl rfl | exact Or.inr rfl) ?_
  refine de_bin od_modI ?_ ?_
  refine de_callTy cd_intA (by rfl) t.n_int bb_int ?_
  refine da_cons ?_ ?_
  refine de_bin od_add ?_ ?_
  refine de_ix xd_ix ?_ ?_
  exact dv 0
  exact de_int
  refine de_bin od_mul ?_ ?_
  exact de_int
  refine de_ix xd_ix ?_ ?_
  exact dv 0
  exact de_int
  exact da_nil
  exact de_int
  refine dss_cons ?_ ?_
  refine ds_set (i := 4) sc__law_roll.nd (by rfl) (by first | exact Or.inl rfl | exact Or.inr rfl) ?_
  refine de_bin od_add ?_ ?_
  refine de_bin od_mul ?_ ?_
  refine de_bin od_modI ?_ ?_
  refine de_callTy cd_intA (by rfl) t.n_int bb_int ?_
  refine da_cons ?_ ?_
  refine de_bin od_add ?_ ?_
  refine de_bin od_mul ?_ ?_
  exact dv 3
  exact dv 3
  refine de_bin od_mul ?_ ?_
  exact de_int
  refine de_ix xd_ix ?_ ?_
  exact dv 0
  exact de_int
  exact da_nil
  exact de_int
  exact de_int
  exact dv 3
  refine dss_one ?_
  refine ds_ret ?_
  refine de_bin od_modI ?_ ?_
  refine de_callTy cd_intA (by rfl) t.n_int bb_int ?_
  refine da_cons ?_ ?_
  refine de_bin od_fdivI ?_ ?_
  exact dv 4
  exact de_int
  exact da_nil
  exact dv 1

theorem sc__law_pick : FnScope ["dice", "items"] ["dice", "items"] (defScope s__law_pick) := ⟨rfl, rfl, rfl, by decide +kernel, rfl, by decide +kernel, by decide +kernel⟩
theorem ok__law_pick {P : Program} {w : World} {K : PySem.W.Frag} {mg : Str → Option Value} {base : Heap} (t : Tx K mg) : FnD P w K mg base (ctOf t) 2 t.a__law_pick t.f__law_pick ["dice", "items"] m__law_pick := by
  refine fn_gc (fn_ok (b := b__law_pick) t.d__law_pick.fn sc__law_pick fun cdv A outer s H E hr => ?_)
  refine dss_one ?_
  refine ds_ret ?_
  refine de_ix xd_ix ?_ ?_
  exact dv 1
  refine dc (L := t.d__law_roll) (ok__law_roll t) hr (takes_of (by rfl) (by rfl) (by rfl) (by rfl)) ?_
  refine da_cons ?_ ?_
  exact dv 0
  refine da_cons ?_ ?_
  refine de_callB cd_len (by rfl) t.n_len bb_len ?_
  refine da_cons ?_ ?_
  exact dv 1
  exact da_nil
  exact da_nil

theorem sc__law_limit : FnScope [] [] (defScope s__law_limit) := ⟨rfl, rfl, rfl, by decide +kernel, rfl, by decide +kernel, by decide +kernel⟩
theorem ok__law_limit {P : Program} {w : World} {K : PySem.W.Frag} {mg : Str → Option Value} {base : Heap} (t : Tx K mg) : FnD P w K mg base (ctOf t) 1 t.a__law_limit t.f__law_limit [] m__law_limit := by
  refine fn_iso (fn_ok (b := b__law_limit) t.d__law_limit.fn sc__law_limit fun cdv A outer s H E hr => ?_)
  refine dss_one ?_
  refine ds_ret ?_
  refine de_bin od_powI ?_ ?_
  refine de_bin od_powI ?_ ?_
  exact de_int
  exact de_int
  exact de_int

theorem sc__law_first : FnScope ["words", "found", "word"] ["words"] (defScope s__law_first) := ⟨rfl, rfl, rfl, by decide +kernel, rfl, by decide +kernel, by decide +kernel⟩
theorem ok__law_first {P : Program} {w : World} {K : PySem.W.Frag} {mg : Str → Option Value} {base : Heap} (t : Tx K mg) : FnD P w K mg base (ctOf t) 1 t.a__law_first t.f__law_first ["words"] m__law_first := by
  refine fn_iso (fn_ok (b := b__law_first) t.d__law_first.fn sc__law_first fun cdv A outer s H E hr => ?_)
  refine dss_cons ?_ ?_
  refine ds_setLc (j := 1) (own := [("word", 2)]) (g := (gN 2)) (by rfl) sc__law_first.nd (by rfl) (by rfl) (sw_true rfl rfl rfl (by decide +kernel)) ?_ (blkOk_by (N := ["words", "found", "word"]) (sc := defScope s__law_first) (by decide +kernel)) (fun _ _ _ _ _ => (dg_name (i := 2) sc__law_first.nd (by rfl) (by first | exact Or.inl rfl | exact Or.inr rfl))) (fun _ _ _ _ _ => ?_) (fun _ _ _ _ _ => ?_)
  refine di_any ?_
  exact dv 0
  refine dts_one ?_
  refine dt_cmp (od_ne hr.s) ?_ ?_
  exact dv 2
  exact de_str
  exact dv 2
  refine dss_one ?_
  refine ds_ret ?_
  refine de_if ?_ ?_ ?_
  refine dt_cmp (od_ne hr.s) ?_ ?_
  exact dv 1
  refine de_lst ?_
  exact da_nil
  refine de_ix xd_ix ?_ ?_
  exact dv 1
  exact de_int
  exact de_str

theorem sc_blocks_of : FnScope ["width", "family"] ["width", "family"] (defScope s_blocks_of) := ⟨rfl, rfl, rfl, by decide +kernel, rfl, by decide +kernel, by decide +kernel⟩
theorem ok_blocks_of {P : Program} {w : World} {K : PySem.W.Frag} {mg : Str → Option Value} {base : Heap} (t : Tx K mg) : FnD P w K mg base (ctOf t) 7 t.a_blocks_of t.f_blocks_of ["width", "family"] m_blocks_of := by
  refine fn_iso (fn_ok (b := b_blocks_of) t.d_blocks_of.fn sc_blocks_of fun cdv A outer s H E hr => ?_)
  refine dss_cons ?_ ?_
  refine ds_expr ?_
  refine dc (L := t.d_require_width) (ok_require_width t) hr (takes_of (by rfl) (by rfl) (by rfl) (by rfl)) ?_
  refine da_cons ?_ ?_
  exact dv 0
  exact da_nil
  refine dss_cons ?_ ?_
  refine ds_expr ?_
  refine dc (L := t.d_require_family) (ok_require_family t) hr (takes_of (by rfl) (by rfl) (by rfl) (by rfl)) ?_
  refine da_cons ?_ ?_
  exact dv 0
  refine da_cons ?_ ?_
  exact dv 1
  exact da_nil
  refine dss_one ?_
  refine ds_ret ?_
  refine dc (L := t.d_dual_family) (ok_dual_family t) hr (takes_of (by rfl) (by rfl) (by rfl) (by rfl)) ?_
  refine da_cons ?_ ?_
  exact dv 0
  refine da_cons ?_ ?_
  exact dv 1
  exact da_nil

theorem sc_set_text : FnScope ["places", "place"] ["places"] (defScope s_set_text) := ⟨rfl, rfl, rfl, by decide +kernel, rfl, by decide +kernel, by decide +kernel⟩
theorem ok_set_text {P : Program} {w : World} {K : PySem.W.Frag} {mg : Str → Option Value} {base : Heap} (t : Tx K mg) : FnD P w K mg base (ctOf t) 1 t.a_set_text t.f_set_text ["places"] m_set_text := by
  obtain ⟨k_FIGURES, h_FIGURES⟩ := t.g_FIGURES
  refine fn_iso (fn_ok (b := b_set_text) t.d_set_text.fn sc_set_text fun cdv A outer s H E hr => ?_)
  refine dss_one ?_
  refine ds_ret ?_
  refine de_meth md_join ?_ ?_
  exact de_str
  refine da_cons ?_ ?_
  refine de_lc (own := [("place", 1)]) (g := (gN 1)) (by rfl) sc_set_text.nd ?_ (blkOk_by (N := ["places", "place"]) (sc := defScope s_set_text) (by decide +kernel)) (fun _ _ _ _ _ => (dg_name (i := 1) sc_set_text.nd (by rfl) (by first | exact Or.inl rfl | exact Or.inr rfl))) (fun _ _ _ _ _ => ?_) (fun _ _ _ _ _ => ?_)
  refine di_any ?_
  exact dv 0
  exact dts_nil
  refine de_ix xd_ix ?_ ?_
  exact de_globS (by rfl) h_FIGURES
  exact dv 1
  exact da_nil

theorem sc_family_text : FnScope ["family", "one"] ["family"] (defScope s_family_text) := ⟨rfl, rfl, rfl, by decide +kernel, rfl, by decide +kernel, by decide +kernel⟩
theorem ok_family_text {P : Program} {w : World} {K : PySem.W.Frag} {mg : Str → Option Value} {base : Heap} (t : Tx K mg) : FnD P w K mg base (ctOf t) 2 t.a_family_text t.f_family_text ["family"] m_family_text := by
  obtain ⟨k_BLANK, h_BLANK⟩ := t.g_BLANK
  refine fn_iso (fn_ok (b := b_family_text) t.d_family_text.fn sc_family_text fun cdv A outer s H E hr => ?_)
  refine dss_one ?_
  refine ds_ret ?_
  refine de_meth md_join ?_ ?_
  exact de_globS (by rfl) h_BLANK
  refine da_cons ?_ ?_
  refine de_lc (own := [("one", 1)]) (g := (gN 1)) (by rfl) sc_family_text.nd ?_ (blkOk_by (N := ["family", "one"]) (sc := defScope s_family_text) (by decide +kernel)) (fun _ _ _ _ _ => (dg_name (i := 1) sc_family_text.nd (by rfl) (by first | exact Or.inl rfl | exact Or.inr rfl))) (fun _ _ _ _ _ => ?_) (fun _ _ _ _ _ => ?_)
  refine di_any ?_
  exact dv 0
  exact dts_nil
  refine dc (L := t.d_set_text) (ok_set_text t) hr takes0 ?_
  refine da_cons ?_ ?_
  exact dv 1
  exact da_nil
  exact da_nil

theorem sc_write_family : FnScope ["width", "family"] ["width", "family"] (defScope s_write_family) := ⟨rfl, rfl, rfl, by decide +kernel, rfl, by decide +kernel, by decide +kernel⟩
theorem ok_write_family {P : Program} {w : World} {K : PySem.W.Frag} {mg : Str → Option Value} {base : Heap} (t : Tx K mg) : FnD P w K mg base (ctOf t) 7 t.a_write_family t.f_write_family ["width", "family"] m_write_family := by
  refine fn_iso (fn_ok (b := b_write_family) t.d_write_family.fn sc_write_family fun cdv A outer s H E hr => ?_)
  refine dss_cons ?_ ?_
  refine ds_expr ?_
  refine dc (L := t.d_require_width) (ok_require_width t) hr (takes_of (by rfl) (by rfl) (by rfl) (by rfl)) ?_
  refine da_cons ?_ ?_
  exact dv 0
  exact da_nil
  refine dss_cons ?_ ?_
  refine ds_expr ?_
  refine dc (L := t.d_require_family) (ok_require_family t) hr (takes_of (by rfl) (by rfl) (by rfl) (by rfl)) ?_
  refine da_cons ?_ ?_
  exact dv 0
  refine da_cons ?_ ?_
  exact dv 1
  exact da_nil
  refine dss_one ?_
  refine ds_ret ?_
  refine dc (L := t.d_family_text) (ok_family_text t) hr (takes_of (by rfl) (by rfl) (by rfl) (by rfl)) ?_
  refine da_cons ?_ ?_
  exact dv 1
  exact da_nil

theorem sc_require_both : FnScope ["width", "one", "other"] ["width", "one", "other"] (defScope s_require_both) := ⟨rfl, rfl, rfl, by decide +kernel, rfl, by decide +kernel, by decide +kernel⟩
theorem ok_require_both {P : Program} {w : World} {K : PySem.W.Frag} {mg : Str → Option Value} {base : Heap} (t : Tx K mg) : FnD P w K mg base (ctOf t) 7 t.a_require_both t.f_require_both ["width", "one", "other"] m_require_both := by
  refine fn_iso (fn_ok (b := b_require_both) t.d_require_both.fn sc_require_both fun cdv A outer s H E hr => ?_)
  refine dss_cons ?_ ?_
  refine ds_expr ?_
  refine dc (L := t.d_require_width) (ok_require_width t) hr (takes_of (by rfl) (by rfl) (by rfl) (by rfl)) ?_
  refine da_cons ?_ ?_
  exact dv 0
  exact da_nil
  refine dss_cons ?_ ?_
  refine ds_expr ?_
  refine dc (L := t.d_require_family) (ok_require_family t) hr (takes_of (by rfl) (by rfl) (by rfl) (by rfl)) ?_
  refine da_cons ?_ ?_
  exact dv 0
  refine da_cons ?_ ?_
  exact dv 1
  exact da_nil
  refine dss_one ?_
  refine ds_expr ?_
  refine dc (L := t.d_require_family) (ok_require_family t) hr (takes_of (by rfl) (by rfl) (by rfl) (by rfl)) ?_
  refine da_cons ?_ ?_
  exact dv 0
  refine da_cons ?_ ?_
  exact dv 2
  exact da_nil

theorem sc_either : FnScope ["width", "one", "other"] ["width", "one", "other"] (defScope s_either) := ⟨rfl, rfl, rfl, by decide +kernel, rfl, by decide +kernel, by decide +kernel⟩
theorem ok_either {P : Program} {w : World} {K : PySem.W.Frag} {mg : Str → Option Value} {base : Heap} (t : Tx K mg) : FnD P w K mg base (ctOf t) 8 t.a_either t.f_either ["width", "one", "other"] m_either := by
  refine fn_iso (fn_ok (b := b_either) t.d_either.fn sc_either fun cdv A outer s H E hr => ?_)
  refine dss_cons ?_ ?_
  refine ds_expr ?_
  refine dc (L := t.d_require_both) (ok_require_both t) hr (takes_of (by rfl) (by rfl) (by rfl) (by rfl)) ?_
  refine da_cons ?_ ?_
  exact dv 0
  refine da_cons ?_ ?_
  exact dv 1
  refine da_cons ?_ ?_
  exact dv 2
  exact da_nil
  refine dss_one ?_
  refine ds_ret ?_
  refine dc (L := t.d_least_in) (ok_least_in t) hr (takes_of (by rfl) (by rfl) (by rfl) (by rfl)) ?_
  refine da_cons ?_ ?_
  refine de_lst ?_
  refine da_star ?_ ?_
  exact dv 1
  refine da_star ?_ ?_
  exact dv 2
  exact da_nil
  exact da_nil

theorem sc_both : FnScope ["width", "one", "other", "first", "second"] ["width", "one", "other"] (defScope s_both) := ⟨rfl, rfl, rfl, by decide +kernel, rfl, by decide +kernel, by decide +kernel⟩
theorem ok_both {P : Program} {w : World} {K : PySem.W.Frag} {mg : Str → Option Value} {base : Heap} (t : Tx K mg) : FnD P w K mg base (ctOf t) 8 t.a_both t.f_both ["width", "one", "other"] m_both := by
  refine fn_iso (fn_ok (b := b_both) t.d_both.fn sc_both fun cdv A outer s H E hr => ?_)
  refine dss_cons ?_ ?_
  refine ds_expr ?_
  refine dc (L := t.d_require_both) (ok_require_both t) hr (takes_of (by rfl) (by rfl) (by rfl) (by rfl)) ?_
  refine da_cons ?_ ?_
  exact dv 0
  refine da_cons ?_ ?_
  exact dv 1
  refine da_cons ?_ ?_
  exact dv 2
  exact da_nil
  refine dss_one ?_
  refine ds_ret ?_
  refine dc (L := t.d_least_in) (ok_least_in t) hr (takes_of (by rfl) (by rfl) (by rfl) (by rfl)) ?_
  refine da_cons ?_ ?_
  refine de_lc2 (own := [("first", 3), ("second", 4)]) (vs1 := [4]) (g := (gN 3)) (g1 := (gN 4)) (by rfl) sc_both.nd ?_ (blkOk_by (N := ["width", "one", "other", "first", "second"]) (sc := defScope s_both) (by decide +kernel)) (by decide) ?_ (fun _ _ _ _ _ => ?_) (fun _ _ _ _ _ => ?_) ?_ (fun _ _ _ _ _ => ?_) (fun _ _ _ _ _ => ?_)
  refine di_any ?_
  exact dv 1
  exact fun _ _ _ _ _ => DG.more (dg_name (i := 3) sc_both.nd (by rfl) (by first | exact Or.inl rfl | exact Or.inr rfl)) (by decide)
  exact dts_nil
  refine di_any ?_
  exact dv 2
  exact fun _ _ _ _ _ => (dg_name (i := 4) sc_both.nd (by rfl) (by first | exact Or.inl rfl | exact Or.inr rfl))
  exact dts_nil
  refine de_callTy cd_tuple (by rfl) t.n_tuple bb_tuple ?_
  refine da_cons ?_ ?_
  refine de_srtSetA (by rfl) hr.s (by rfl) t.n_sorted (by rfl) t.n_set ?_
  refine de_bin od_add ?_ ?_
  exact dv 3
  exact dv 4
  exact da_nil
  exact da_nil

theorem sc_require_places : FnScope ["width", "value"] ["width", "value"] (defScope s_require_places) := ⟨rfl, rfl, rfl, by decide +kernel, rfl, by decide +kernel, by decide +kernel⟩
theorem ok_require_places {P : Program} {w : World} {K : PySem.W.Frag} {mg : Str → Option Value} {base : Heap} (t : Tx K mg) : FnD P w K mg base (ctOf t) 4 t.a_require_places t.f_require_places ["width", "value"] m_require_places := by
  refine fn_iso (fn_ok (b := b_require_places) t.d_require_places.fn sc_require_places fun cdv A outer s H E hr => ?_)
  refine dss_one ?_
  refine ds_if ?_ ?_ ?_
  refine dt_not ?_
  refine dt_val ?_
  refine dc (L := t.d_are_places) (ok_are_places t) hr (takes_of (by rfl) (by rfl) (by rfl) (by rfl)) ?_
  refine da_cons ?_ ?_
  exact dv 0
  refine da_cons ?_ ?_
  exact dv 1
  exact da_nil
  refine dss_one ?_
  exact ds_raiseM PySem.F.excBase_ValueError t.x_InvalidSet t.g_InvalidSet t.k_InvalidSet (raises_own t.b_InvalidSet t.y_InvalidSet) (ct_InvalidSet t) (takes_of (by rfl) (by rfl) (by rfl) (by rfl))
  exact dss_nil

theorem sc_is_held : FnScope ["width", "family", "places"] ["width", "family", "places"] (defScope s_is_held) := ⟨rfl, rfl, rfl, by decide +kernel, rfl, by decide +kernel, by decide +kernel⟩
theorem ok_is_held {P : Program} {w : World} {K : PySem.W.Frag} {mg : Str → Option Value} {base : Heap} (t : Tx K mg) : FnD P w K mg base (ctOf t) 7 t.a_is_held t.f_is_held ["width", "family", "places"] m_is_held := by
  refine fn_iso (fn_ok (b := b_is_held) t.d_is_held.fn sc_is_held fun cdv A outer s H E hr => ?_)
  refine dss_cons ?_ ?_
  refine ds_expr ?_
  refine dc (L := t.d_require_width) (ok_require_width t) hr (takes_of (by rfl) (by rfl) (by rfl) (by rfl)) ?_
  refine da_cons ?_ ?_
  exact dv 0
  exact da_nil
  refine dss_cons ?_ ?_
  refine ds_expr ?_
  refine dc (L := t.d_require_family) (ok_require_family t) hr (takes_of (by rfl) (by rfl) (by rfl) (by rfl)) ?_
  refine da_cons ?_ ?_
  exact dv 0
  refine da_cons ?_ ?_
  exact dv 1
  exact da_nil
  refine dss_cons ?_ ?_
  refine ds_expr ?_
  refine dc (L := t.d_require_places) (ok_require_places t) hr (takes_of (by rfl) (by rfl) (by rfl) (by rfl)) ?_
  refine da_cons ?_ ?_
  exact dv 0
  refine da_cons ?_ ?_
  exact dv 2
  exact da_nil
  refine dss_one ?_
  refine ds_ret ?_
  refine dc (L := t.d_holds_one) (ok_holds_one t) hr (takes_of (by rfl) (by rfl) (by rfl) (by rfl)) ?_
  refine da_cons ?_ ?_
  exact dv 1
  refine da_cons ?_ ?_
  exact dv 2
  exact da_nil

theorem sc_rest_of : FnScope ["width", "places", "place"] ["width", "places"] (defScope s_rest_of) := ⟨rfl, rfl, rfl, by decide +kernel, rfl, by decide +kernel, by decide +kernel⟩
theorem ok_rest_of {P : Program} {w : World} {K : PySem.W.Frag} {mg : Str → Option Value} {base : Heap} (t : Tx K mg) : FnD P w K mg base (ctOf t) 5 t.a_rest_of t.f_rest_of ["width", "places"] m_rest_of := by
  refine fn_iso (fn_ok (b := b_rest_of) t.d_rest_of.fn sc_rest_of fun cdv A outer s H E hr => ?_)
  refine dss_cons ?_ ?_
  refine ds_expr ?_
  refine dc (L := t.d_require_width) (ok_require_width t) hr (takes_of (by rfl) (by rfl) (by rfl) (by rfl)) ?_
  refine da_cons ?_ ?_
  exact dv 0
  exact da_nil
  refine dss_cons ?_ ?_
  refine ds_expr ?_
  refine dc (L := t.d_require_places) (ok_require_places t) hr (takes_of (by rfl) (by rfl) (by rfl) (by rfl)) ?_
  refine da_cons ?_ ?_
  exact dv 0
  refine da_cons ?_ ?_
  exact dv 1
  exact da_nil
  refine dss_one ?_
  refine ds_ret ?_
  refine de_callTy cd_tuple (by rfl) t.n_tuple bb_tuple ?_
  refine da_cons ?_ ?_
  refine de_lc (own := [("place", 2)]) (g := (gN 2)) (by rfl) sc_rest_of.nd ?_ (blkOk_by (N := ["width", "places", "place"]) (sc := defScope s_rest_of) (by decide +kernel)) (fun _ _ _ _ _ => (dg_name (i := 2) sc_rest_of.nd (by rfl) (by first | exact Or.inl rfl | exact Or.inr rfl))) (fun _ _ _ _ _ => ?_) (fun _ _ _ _ _ => ?_)
  refine di_range1 (by rfl) t.n_range ?_
  exact dv 0
  refine dts_one ?_
  refine dt_cmp (od_notIn hr.s) ?_ ?_
  exact dv 2
  exact dv 1
  exact dv 2
  exact da_nil

theorem sc_moved_family : FnScope ["family", "turns", "place", "one"] ["family", "turns"] (defScope s_moved_family) := ⟨rfl, rfl, rfl, by decide +kernel, rfl, by decide +kernel, by decide +kernel⟩
theorem ok_moved_family {P : Program} {w : World} {K : PySem.W.Frag} {mg : Str → Option Value} {base : Heap} (t : Tx K mg) : FnD P w K mg base (ctOf t) 1 t.a_moved_family t.f_moved_family ["family", "turns"] m_moved_family := by
  refine fn_iso (fn_ok (b := b_moved_family) t.d_moved_family.fn sc_moved_family fun cdv A outer s H E hr => ?_)
  refine dss_one ?_
  refine ds_ret ?_
  refine de_callTy cd_tuple (by rfl) t.n_tuple bb_tuple ?_
  refine da_cons ?_ ?_
  refine de_callB (cd_sorted hr.s) (by rfl) t.n_sorted bb_sorted ?_
  refine da_cons ?_ ?_
  refine de_lc (own := [("one", 3)]) (g := (gN 3)) (by rfl) sc_moved_family.nd ?_ (blkOk_by (N := ["family", "turns", "place", "one"]) (sc := defScope s_moved_family) (by decide +kernel)) (fun _ _ _ _ _ => (dg_name (i := 3) sc_moved_family.nd (by rfl) (by first | exact Or.inl rfl | exact Or.inr rfl))) (fun _ _ _ _ _ => ?_) (fun _ _ _ _ _ => ?_)
  refine di_any ?_
  exact dv 0
  exact dts_nil
  refine de_callTy cd_tuple (by rfl) t.n_tuple bb_tuple ?_
  refine da_cons ?_ ?_
  refine de_callB (cd_sorted hr.s) (by rfl) t.n_sorted bb_sorted ?_
  refine da_cons ?_ ?_
  refine de_lc (own := [("place", 2)]) (g := (gN 2)) (by rfl) sc_moved_family.nd ?_ (blkOk_by (by kernel_rfl)) (fun _ _ _ _ _ => (dg_name (i := 2) sc_moved_family.nd (by rfl) (by first | exact Or.inl rfl | exact Or.inr rfl))) (fun _ _ _ _ _ => ?_) (fun _ _ _ _ _ => ?_)
  refine di_any ?_
  exact dv 3
  exact dts_nil
  refine de_ix xd_ix ?_ ?_
  exact dv 1
  exact dv 2
  exact da_nil
  exact da_nil
  exact da_nil
  exact da_nil

theorem sc_are_turns : FnScope ["width", "value", "place"] ["width", "value"] (defScope s_are_turns) := ⟨rfl, rfl, rfl, by decide +kernel, rfl, by decide +kernel, by decide +kernel⟩
theorem ok_are_turns {P : Program} {w : World} {K : PySem.W.Frag} {mg : Str → Option Value} {base : Heap} (t : Tx K mg) : FnD P w K mg base (ctOf t) 3 t.a_are_turns t.f_are_turns ["width", "value"] m_are_turns := by
  refine fn_iso (fn_ok (b := b_are_turns) t.d_are_turns.fn sc_are_turns fun cdv A outer s H E hr => ?_)
  refine dss_cons ?_ ?_
  refine ds_if ?_ ?_ ?_
  refine DW.dt ?_
  refine dw_or ?_ ?_
  refine dt_not ?_
  refine dt_val ?_
  refine de_isi (by rfl) t.n_isinstance bb_isinstance ?_ (by rfl) t.n_tuple bb_tuple
  exact dv 1
  refine dw_or1 ?_
  refine dt_not ?_
  refine dt_val ?_
  refine de_callB (cd_all (by rfl)) (by rfl) t.n_all bb_all ?_
  refine da_cons ?_ ?_
  refine de_lc (own := [("place", 2)]) (g := (gN 2)) (by rfl) sc_are_turns.nd ?_ (blkOk_by (N := ["width", "value", "place"]) (sc := defScope s_are_turns) (by decide +kernel)) (fun _ _ _ _ _ => (dg_name (i := 2) sc_are_turns.nd (by rfl) (by first | exact Or.inl rfl | exact Or.inr rfl))) (fun _ _ _ _ _ => ?_) (fun _ _ _ _ _ => ?_)
  refine di_any ?_
  exact dv 1
  exact dts_nil
  refine de_and ?_ ?_
  refine dc (L := t.d_is_count) (ok_is_count t) hr takes0 ?_
  refine da_cons ?_ ?_
  exact dv 2
  exact da_nil
  refine de_one ?_
  refine de_cmp (od_ltA hr.s) ?_ ?_
  exact dv 2
  exact dv 0
  exact da_nil
  refine dss_one ?_
  refine ds_ret ?_
  exact de_bl
  exact dss_nil
  refine dss_one ?_
  refine ds_ret ?_
  refine de_and ?_ ?_
  refine de_cmp (od_eqA hr.s) ?_ ?_
  refine de_callB cd_len (by rfl) t.n_len bb_len ?_
  refine da_cons ?_ ?_
  exact dv 1
  exact da_nil
  exact dv 0
  refine de_one ?_
  refine de_cmp (od_eqA hr.s) ?_ ?_
  refine de_lenSetI (by rfl) (by rfl) t.n_len (by rfl) t.n_set ?_
  exact dv 1
  exact dv 0

theorem sc_placed : FnScope ["width", "family", "turns"] ["width", "family", "turns"] (defScope s_placed) := ⟨rfl, rfl, rfl, by decide +kernel, rfl, by decide +kernel, by decide +kernel⟩
theorem ok_placed {P : Program} {w : World} {K : PySem.W.Frag} {mg : Str → Option Value} {base : Heap} (t : Tx K mg) : FnD P w K mg base (ctOf t) 7 t.a_placed t.f_placed ["width", "family", "turns"] m_placed := by
  refine fn_iso (fn_ok (b := b_placed) t.d_placed.fn sc_placed fun cdv A outer s H E hr => ?_)
  refine dss_cons ?_ ?_
  refine ds_expr ?_
  refine dc (L := t.d_require_width) (ok_require_width t) hr (takes_of (by rfl) (by rfl) (by rfl) (by rfl)) ?_
  refine da_cons ?_ ?_
  exact dv 0
  exact da_nil
  refine dss_cons ?_ ?_
  refine ds_expr ?_
  refine dc (L := t.d_require_family) (ok_require_family t) hr (takes_of (by rfl) (by rfl) (by rfl) (by rfl)) ?_
  refine da_cons ?_ ?_
  exact dv 0
  refine da_cons ?_ ?_
  exact dv 1
  exact da_nil
  refine dss_cons ?_ ?_
  refine ds_if ?_ ?_ ?_
  refine dt_not ?_
  refine dt_val ?_
  refine dc (L := t.d_are_turns) (ok_are_turns t) hr (takes_of (by rfl) (by rfl) (by rfl) (by rfl)) ?_
  refine da_cons ?_ ?_
  exact dv 0
  refine da_cons ?_ ?_
  exact dv 2
  exact da_nil
  refine dss_one ?_
  exact ds_raiseM PySem.F.excBase_ValueError t.x_InvalidOperation t.g_InvalidOperation t.k_InvalidOperation (raises_own t.b_InvalidOperation t.y_InvalidOperation) (ct_InvalidOperation t) (takes_of (by rfl) (by rfl) (by rfl) (by rfl))
  exact dss_nil
  refine dss_one ?_
  refine ds_ret ?_
  refine dc (L := t.d_moved_family) (ok_moved_family t) hr (takes_of (by rfl) (by rfl) (by rfl) (by rfl)) ?_
  refine da_cons ?_ ?_
  exact dv 1
  refine da_cons ?_ ?_
  exact dv 2
  exact da_nil

theorem sc_is_set : FnScope ["width", "value"] ["width", "value"] (defScope s_is_set) := ⟨rfl, rfl, rfl, by decide +kernel, rfl, by decide +kernel, by decide +kernel⟩
theorem ok_is_set {P : Program} {w : World} {K : PySem.W.Frag} {mg : Str → Option Value} {base : Heap} (t : Tx K mg) : FnD P w K mg base (ctOf t) 5 t.a_is_set t.f_is_set ["width", "value"] m_is_set := by
  refine fn_iso (fn_ok (b := b_is_set) t.d_is_set.fn sc_is_set fun cdv A outer s H E hr => ?_)
  refine dss_cons ?_ ?_
  refine ds_expr ?_
  refine dc (L := t.d_require_width) (ok_require_width t) hr (takes_of (by rfl) (by rfl) (by rfl) (by rfl)) ?_
  refine da_cons ?_ ?_
  exact dv 0
  exact da_nil
  refine dss_one ?_
  refine ds_ret ?_
  refine dc (L := t.d_is_set_of) (ok_is_set_of t) hr (takes_of (by rfl) (by rfl) (by rfl) (by rfl)) ?_
  refine da_cons ?_ ?_
  exact dv 0
  refine da_cons ?_ ?_
  exact dv 1
  exact da_nil

theorem sc_is_family : FnScope ["width", "value"] ["width", "value"] (defScope s_is_family) := ⟨rfl, rfl, rfl, by decide +kernel, rfl, by decide +kernel, by decide +kernel⟩
theorem ok_is_family {P : Program} {w : World} {K : PySem.W.Frag} {mg : Str → Option Value} {base : Heap} (t : Tx K mg) : FnD P w K mg base (ctOf t) 6 t.a_is_family t.f_is_family ["width", "value"] m_is_family := by
  refine fn_iso (fn_ok (b := b_is_family) t.d_is_family.fn sc_is_family fun cdv A outer s H E hr => ?_)
  refine dss_cons ?_ ?_
  refine ds_expr ?_
  refine dc (L := t.d_require_width) (ok_require_width t) hr (takes_of (by rfl) (by rfl) (by rfl) (by rfl)) ?_
  refine da_cons ?_ ?_
  exact dv 0
  exact da_nil
  refine dss_one ?_
  refine ds_ret ?_
  refine dc (L := t.d_is_family_of) (ok_is_family_of t) hr (takes_of (by rfl) (by rfl) (by rfl) (by rfl)) ?_
  refine da_cons ?_ ?_
  exact dv 0
  refine da_cons ?_ ?_
  exact dv 1
  exact da_nil

theorem sc__law_right : FnScope ["dice", "width", "ahead", "odd", "family", "wrong", "places", "bad", "some", "turns", "told", "due"] ["dice"] (defScope s__law_right) := ⟨rfl, rfl, rfl, by decide +kernel, rfl, by decide +kernel, by decide +kernel⟩
theorem ok__law_right {P : Program} {w : World} {K : PySem.W.Frag} {mg : Str → Option Value} {base : Heap} (t : Tx K mg) (u : Ux base t) : FnD P w K mg base (ctOf t) 11 t.a__law_right t.f__law_right ["dice"] m__law_right := by
  refine fn_gc (fn_okT (b := b__law_right) t.d__law_right.fn t.hc__law_right sc__law_right fun A outer s H E hr => ?_)
  refine dss_cons ?_ ?_
  refine ds_set (i := 1) sc__law_right.nd (by rfl) (by first | exact Or.inl rfl | exact Or.inr rfl) ?_
  refine dc (L := t.d__law_pick) (ok__law_pick t) hr (takes_of (by rfl) (by rfl) (by rfl) (by rfl)) ?_
  refine da_cons ?_ ?_
  exact dv 0
  refine da_cons ?_ ?_
  refine de_lst ?_
  refine da_cons ?_ ?_
  exact de_int
  refine da_cons ?_ ?_
  exact de_int
  refine da_cons ?_ ?_
  exact de_int
  refine da_cons ?_ ?_
  exact de_int
  refine da_cons ?_ ?_
  exact de_int
  refine da_cons ?_ ?_
  exact de_int
  refine da_cons ?_ ?_
  exact de_int
  refine da_cons ?_ ?_
  exact de_int
  refine da_cons ?_ ?_
  exact de_non
  refine da_cons ?_ ?_
  exact de_bl
  refine da_cons ?_ ?_
  exact de_str
  refine da_cons ?_ ?_
  refine de_tup ?_
  refine da_cons ?_ ?_
  exact de_int
  exact da_nil
  refine da_cons ?_ ?_
  refine de_lst ?_
  exact da_nil
  refine da_cons ?_ ?_
  exact dc0 (L := t.d__law_limit) (ok__law_limit t) hr (takes_of (by rfl) (by rfl) (by rfl) (by rfl))
  exact da_nil
  exact da_nil
  refine dss_cons ?_ ?_
  refine ds_set (i := 2) sc__law_right.nd (by rfl) (by first | exact Or.inl rfl | exact Or.inr rfl) ?_
  refine de_if ?_ ?_ ?_
  refine dt_cmp (od_in hr.s) ?_ ?_
  exact dv 1
  refine de_tup ?_
  refine da_cons ?_ ?_
  exact de_int
  refine da_cons ?_ ?_
  exact de_int
  exact da_nil
  exact de_str
  refine de_bin od_add ?_ ?_
  exact de_str
  refine de_callB (cd_reprA hr.s) (by rfl) t.n_repr bb_repr ?_
  refine da_cons ?_ ?_
  exact dv 1
  exact da_nil
  refine dss_cons ?_ ?_
  refine ds_set (i := 3) sc__law_right.nd (by rfl) (by first | exact Or.inl rfl | exact Or.inr rfl) ?_
  refine de_lst ?_
  refine da_cons ?_ ?_
  exact de_non
  refine da_cons ?_ ?_
  exact de_int
  refine da_cons ?_ ?_
  exact de_str
  refine da_cons ?_ ?_
  refine de_tup ?_
  exact da_nil
  refine da_cons ?_ ?_
  refine de_tup ?_
  refine da_cons ?_ ?_
  refine de_tup ?_
  exact da_nil
  exact da_nil
  refine da_cons ?_ ?_
  refine de_tup ?_
  refine da_cons ?_ ?_
  refine de_tup ?_
  refine da_cons ?_ ?_
  exact de_int
  exact da_nil
  refine da_cons ?_ ?_
  refine de_tup ?_
  refine da_cons ?_ ?_
  exact de_int
  refine da_cons ?_ ?_
  exact de_int
  exact da_nil
  exact da_nil
  refine da_cons ?_ ?_
  refine de_tup ?_
  refine da_cons ?_ ?_
  refine de_tup ?_
  refine da_cons ?_ ?_
  exact de_int
  exact da_nil
  refine da_cons ?_ ?_
  refine de_tup ?_
  refine da_cons ?_ ?_
  exact de_int
  exact da_nil
  exact da_nil
  refine da_cons ?_ ?_
  refine de_tup ?_
  refine da_cons ?_ ?_
  refine de_tup ?_
  refine da_cons ?_ ?_
  exact de_int
  refine da_cons ?_ ?_
  exact de_int
  exact da_nil
  exact da_nil
  refine da_cons ?_ ?_
  refine de_lst ?_
  refine da_cons ?_ ?_
  refine de_tup ?_
  refine da_cons ?_ ?_
  exact de_int
  refine da_cons ?_ ?_
  exact de_int
  exact da_nil
  exact da_nil
  refine da_cons ?_ ?_
  refine de_tup ?_
  refine da_cons ?_ ?_
  refine de_tup ?_
  refine da_cons ?_ ?_
  exact de_int
  refine da_cons ?_ ?_
  exact de_int
  exact da_nil
  exact da_nil
  refine da_cons ?_ ?_
  refine de_tup ?_
  refine da_cons ?_ ?_
  refine de_tup ?_
  refine da_cons ?_ ?_
  exact de_bl
  exact da_nil
  exact da_nil
  exact da_nil
  refine dss_cons ?_ ?_
  refine ds_set (i := 3) sc__law_right.nd (by rfl) (by first | exact Or.inl rfl | exact Or.inr rfl) ?_
  refine de_bin od_add ?_ ?_
  exact dv 3
  refine de_lst ?_
  refine da_cons ?_ ?_
  refine de_tup ?_
  refine da_cons ?_ ?_
  exact de_int
  refine da_cons ?_ ?_
  exact de_int
  exact da_nil
  refine da_cons ?_ ?_
  exact de_dic0
  exact da_nil
  refine dss_cons ?_ ?_
  refine ds_set (i := 4) sc__law_right.nd (by rfl) (by first | exact Or.inl rfl | exact Or.inr rfl) ?_
  refine dc (L := t.d__law_pick) (ok__law_pick t) hr (takes_of (by rfl) (by rfl) (by rfl) (by rfl)) ?_
  refine da_cons ?_ ?_
  exact dv 0
  refine da_cons ?_ ?_
  refine de_bin od_add ?_ ?_
  refine de_bin od_mul ?_ ?_
  refine de_lst ?_
  refine da_cons ?_ ?_
  refine de_tup ?_
  refine da_cons ?_ ?_
  refine de_tup ?_
  refine da_cons ?_ ?_
  exact de_int
  refine da_cons ?_ ?_
  exact de_int
  exact da_nil
  refine da_cons ?_ ?_
  refine de_tup ?_
  refine da_cons ?_ ?_
  exact de_int
  refine da_cons ?_ ?_
  exact de_int
  exact da_nil
  exact da_nil
  exact da_nil
  exact de_int
  exact dv 3
  exact da_nil
  refine dss_cons ?_ ?_
  refine ds_set (i := 5) sc__law_right.nd (by rfl) (by first | exact Or.inl rfl | exact Or.inr rfl) ?_
  refine de_if ?_ ?_ ?_
  refine dt_cmp (od_eqA hr.s) ?_ ?_
  exact dv 4
  refine de_tup ?_
  refine da_cons ?_ ?_
  refine de_tup ?_
  refine da_cons ?_ ?_
  exact de_int
  refine da_cons ?_ ?_
  exact de_int
  exact da_nil
  refine da_cons ?_ ?_
  refine de_tup ?_
  refine da_cons ?_ ?_
  exact de_int
  refine da_cons ?_ ?_
  exact de_int
  exact da_nil
  exact da_nil
  exact de_str
  exact de_str
  refine dss_cons ?_ ?_
  refine ds_set (i := 6) sc__law_right.nd (by rfl) (by first | exact Or.inl rfl | exact Or.inr rfl) ?_
  refine dc (L := t.d__law_pick) (ok__law_pick t) hr (takes_of (by rfl) (by rfl) (by rfl) (by rfl)) ?_
  refine da_cons ?_ ?_
  exact dv 0
  refine da_cons ?_ ?_
  refine de_lst ?_
  refine da_cons ?_ ?_
  refine de_tup ?_
  exact da_nil
  refine da_cons ?_ ?_
  refine de_tup ?_
  refine da_cons ?_ ?_
  exact de_int
  refine da_cons ?_ ?_
  exact de_int
  exact da_nil
  refine da_cons ?_ ?_
  refine de_tup ?_
  refine da_cons ?_ ?_
  exact de_int
  exact da_nil
  refine da_cons ?_ ?_
  exact de_non
  refine da_cons ?_ ?_
  refine de_tup ?_
  refine da_cons ?_ ?_
  exact de_int
  refine da_cons ?_ ?_
  exact de_int
  exact da_nil
  refine da_cons ?_ ?_
  refine de_tup ?_
  refine da_cons ?_ ?_
  exact de_int
  refine da_cons ?_ ?_
  exact de_int
  exact da_nil
  refine da_cons ?_ ?_
  refine de_lst ?_
  refine da_cons ?_ ?_
  exact de_int
  exact da_nil
  refine da_cons ?_ ?_
  refine de_tup ?_
  refine da_cons ?_ ?_
  exact de_int
  exact da_nil
  refine da_cons ?_ ?_
  refine de_tup ?_
  refine da_cons ?_ ?_
  refine de_bin od_subI ?_ ?_
  exact de_int
  exact de_int
  exact da_nil
  refine da_cons ?_ ?_
  exact de_str
  refine da_cons ?_ ?_
  refine de_tup ?_
  refine da_cons ?_ ?_
  exact de_non
  exact da_nil
  refine da_cons ?_ ?_
  exact de_dic0
  refine da_cons ?_ ?_
  refine de_tup ?_
  refine da_cons ?_ ?_
  exact de_bl
  exact da_nil
  exact da_nil
  exact da_nil
  refine dss_cons ?_ ?_
  refine ds_set (i := 7) sc__law_right.nd (by rfl) (by first | exact Or.inl rfl | exact Or.inr rfl) ?_
  refine de_if ?_ ?_ ?_
  refine dt_cmp (od_in hr.s) ?_ ?_
  refine de_callB (cd_reprA hr.s) (by rfl) t.n_repr bb_repr ?_
  refine da_cons ?_ ?_
  exact dv 6
  exact da_nil
  refine de_tup ?_
  refine da_cons ?_ ?_
  exact de_str
  refine da_cons ?_ ?_
  exact de_str
  refine da_cons ?_ ?_
  exact de_str
  exact da_nil
  exact de_str
  exact de_str
  refine dss_cons ?_ ?_
  refine ds_set (i := 8) sc__law_right.nd (by rfl) (by first | exact Or.inl rfl | exact Or.inr rfl) ?_
  refine de_lst ?_
  refine da_cons ?_ ?_
  exact de_non
  refine da_cons ?_ ?_
  refine de_tup ?_
  refine da_cons ?_ ?_
  exact de_int
  refine da_cons ?_ ?_
  exact de_int
  exact da_nil
  refine da_cons ?_ ?_
  refine de_tup ?_
  refine da_cons ?_ ?_
  exact de_int
  refine da_cons ?_ ?_
  exact de_int
  refine da_cons ?_ ?_
  exact de_int
  exact da_nil
  refine da_cons ?_ ?_
  refine de_lst ?_
  refine da_cons ?_ ?_
  exact de_int
  refine da_cons ?_ ?_
  exact de_int
  refine da_cons ?_ ?_
  exact de_int
  exact da_nil
  refine da_cons ?_ ?_
  refine de_tup ?_
  refine da_cons ?_ ?_
  exact de_int
  refine da_cons ?_ ?_
  exact de_int
  refine da_cons ?_ ?_
  exact de_int
  refine da_cons ?_ ?_
  exact de_int
  refine da_cons ?_ ?_
  exact de_int
  exact da_nil
  refine da_cons ?_ ?_
  refine de_tup ?_
  refine da_cons ?_ ?_
  exact de_int
  refine da_cons ?_ ?_
  exact de_int
  refine da_cons ?_ ?_
  exact de_int
  refine da_cons ?_ ?_
  exact de_int
  exact da_nil
  refine da_cons ?_ ?_
  exact de_str
  refine da_cons ?_ ?_
  refine de_tup ?_
  exact da_nil
  refine da_cons ?_ ?_
  exact de_dic0
  refine da_cons ?_ ?_
  refine de_tup ?_
  refine da_cons ?_ ?_
  exact de_int
  refine da_cons ?_ ?_
  exact de_int
  refine da_cons ?_ ?_
  exact de_bl
  exact da_nil
  exact da_nil
  refine dss_cons ?_ ?_
  refine ds_set (i := 9) sc__law_right.nd (by rfl) (by first | exact Or.inl rfl | exact Or.inr rfl) ?_
  refine dc (L := t.d__law_pick) (ok__law_pick t) hr (takes_of (by rfl) (by rfl) (by rfl) (by rfl)) ?_
  refine da_cons ?_ ?_
  exact dv 0
  refine da_cons ?_ ?_
  exact dv 8
  exact da_nil
  refine dss_cons ?_ ?_
  refine ds_set (i := 10) sc__law_right.nd (by rfl) (by first | exact Or.inl rfl | exact Or.inr rfl) ?_
  refine de_lstC ?_
  refine da_cons ?_ ?_
  refine de_lam (n := 0) (k0 := 0) (j := 7) (y := "_law_right") (ok__law_met t) (by decide) (hr.mono (by decide)) (by rfl) t.d__law_met.mg t.d__law_met.fn.kp t.d__law_met.bi (takes_of (by rfl) (by rfl) (by rfl) (by rfl)) t.tb__law_right u.b__law_right (by rfl) (by rfl) (by kernel_rfl) (by rfl) (fun _ _ _ _ _ => rfl) (fun A outer s H E f c' hr => ?_)
  refine dc (L := t.d_blocks_of) (ok_blocks_of t) hr (takes_of (by rfl) (by rfl) (by rfl) (by rfl)) ?_
  refine da_cons ?_ ?_
  exact dv 1
  refine da_cons ?_ ?_
  exact dv 4
  exact da_nil
  exact da_nil
  refine dss_cons ?_ ?_
  refine ds_expr ?_
  refine de_meth md_append ?_ ?_
  exact dv 10
  refine da_cons ?_ ?_
  refine de_lam (n := 0) (k0 := 0) (j := 7) (y := "_law_right") (ok__law_met t) (by decide) (hr.mono (by decide)) (by rfl) t.d__law_met.mg t.d__law_met.fn.kp t.d__law_met.bi (takes_of (by rfl) (by rfl) (by rfl) (by rfl)) t.tb__law_right u.b__law_right (by rfl) (by rfl) (by kernel_rfl) (by rfl) (fun _ _ _ _ _ => rfl) (fun A outer s H E f c' hr => ?_)
  refine dc (L := t.d_write_family) (ok_write_family t) hr (takes_of (by rfl) (by rfl) (by rfl) (by rfl)) ?_
  refine da_cons ?_ ?_
  exact dv 1
  refine da_cons ?_ ?_
  exact dv 4
  exact da_nil
  exact da_nil
  refine dss_cons ?_ ?_
  refine ds_expr ?_
  refine de_meth md_append ?_ ?_
  exact dv 10
  refine da_cons ?_ ?_
  refine de_lam (n := 0) (k0 := 0) (j := 7) (y := "_law_right") (ok__law_met t) (by decide) (hr.mono (by decide)) (by rfl) t.d__law_met.mg t.d__law_met.fn.kp t.d__law_met.bi (takes_of (by rfl) (by rfl) (by rfl) (by rfl)) t.tb__law_right u.b__law_right (by rfl) (by rfl) (by kernel_rfl) (by rfl) (fun _ _ _ _ _ => rfl) (fun A outer s H E f c' hr => ?_)
  refine dc (L := t.d_completed) (ok_completed t) hr (takes_of (by rfl) (by rfl) (by rfl) (by rfl)) ?_
  refine da_cons ?_ ?_
  exact dv 1
  refine da_cons ?_ ?_
  exact dv 4
  exact da_nil
  exact da_nil
  refine dss_cons ?_ ?_
  refine ds_expr ?_
  refine de_meth md_append ?_ ?_
  exact dv 10
  refine da_cons ?_ ?_
  refine de_lam (n := 0) (k0 := 0) (j := 8) (y := "_law_right") (ok__law_met t) (by decide) (hr.mono (by decide)) (by rfl) t.d__law_met.mg t.d__law_met.fn.kp t.d__law_met.bi (takes_of (by rfl) (by rfl) (by rfl) (by rfl)) t.tb__law_right u.b__law_right (by rfl) (by rfl) (by kernel_rfl) (by rfl) (fun _ _ _ _ _ => rfl) (fun A outer s H E f c' hr => ?_)
  refine dc (L := t.d_either) (ok_either t) hr (takes_of (by rfl) (by rfl) (by rfl) (by rfl)) ?_
  refine da_cons ?_ ?_
  exact dv 1
  refine da_cons ?_ ?_
  exact dv 4
  refine da_cons ?_ ?_
  refine de_tup ?_
  refine da_cons ?_ ?_
  refine de_tup ?_
  refine da_cons ?_ ?_
  exact de_int
  exact da_nil
  exact da_nil
  exact da_nil
  exact da_nil
  refine dss_cons ?_ ?_
  refine ds_expr ?_
  refine de_meth md_append ?_ ?_
  exact dv 10
  refine da_cons ?_ ?_
  refine de_lam (n := 0) (k0 := 0) (j := 8) (y := "_law_right") (ok__law_met t) (by decide) (hr.mono (by decide)) (by rfl) t.d__law_met.mg t.d__law_met.fn.kp t.d__law_met.bi (takes_of (by rfl) (by rfl) (by rfl) (by rfl)) t.tb__law_right u.b__law_right (by rfl) (by rfl) (by kernel_rfl) (by rfl) (fun _ _ _ _ _ => rfl) (fun A outer s H E f c' hr => ?_)
  refine dc (L := t.d_both) (ok_both t) hr (takes_of (by rfl) (by rfl) (by rfl) (by rfl)) ?_
  refine da_cons ?_ ?_
  exact dv 1
  refine da_cons ?_ ?_
  refine de_tup ?_
  refine da_cons ?_ ?_
  refine de_tup ?_
  refine da_cons ?_ ?_
  exact de_int
  exact da_nil
  exact da_nil
  refine da_cons ?_ ?_
  exact dv 4
  exact da_nil
  exact da_nil
  refine dss_cons ?_ ?_
  refine ds_expr ?_
  refine de_meth md_append ?_ ?_
  exact dv 10
  refine da_cons ?_ ?_
  refine de_lam (n := 0) (k0 := 0) (j := 7) (y := "_law_right") (ok__law_met t) (by decide) (hr.mono (by decide)) (by rfl) t.d__law_met.mg t.d__law_met.fn.kp t.d__law_met.bi (takes_of (by rfl) (by rfl) (by rfl) (by rfl)) t.tb__law_right u.b__law_right (by rfl) (by rfl) (by kernel_rfl) (by rfl) (fun _ _ _ _ _ => rfl) (fun A outer s H E f c' hr => ?_)
  refine dc (L := t.d_is_held) (ok_is_held t) hr (takes_of (by rfl) (by rfl) (by rfl) (by rfl)) ?_
  refine da_cons ?_ ?_
  exact dv 1
  refine da_cons ?_ ?_
  exact dv 4
  refine da_cons ?_ ?_
  exact dv 6
  exact da_nil
  exact da_nil
  refine dss_cons ?_ ?_
  refine ds_expr ?_
  refine de_meth md_append ?_ ?_
  exact dv 10
  refine da_cons ?_ ?_
  refine de_lam (n := 0) (k0 := 0) (j := 5) (y := "_law_right") (ok__law_met t) (by decide) (hr.mono (by decide)) (by rfl) t.d__law_met.mg t.d__law_met.fn.kp t.d__law_met.bi (takes_of (by rfl) (by rfl) (by rfl) (by rfl)) t.tb__law_right u.b__law_right (by rfl) (by rfl) (by kernel_rfl) (by rfl) (fun _ _ _ _ _ => rfl) (fun A outer s H E f c' hr => ?_)
  refine dc (L := t.d_rest_of) (ok_rest_of t) hr (takes_of (by rfl) (by rfl) (by rfl) (by rfl)) ?_
  refine da_cons ?_ ?_
  exact dv 1
  refine da_cons ?_ ?_
  exact dv 6
  exact da_nil
  exact da_nil
  refine dss_cons ?_ ?_
  refine ds_expr ?_
  refine de_meth md_append ?_ ?_
  exact dv 10
  refine da_cons ?_ ?_
  refine de_lam (n := 0) (k0 := 0) (j := 7) (y := "_law_right") (ok__law_met t) (by decide) (hr.mono (by decide)) (by rfl) t.d__law_met.mg t.d__law_met.fn.kp t.d__law_met.bi (takes_of (by rfl) (by rfl) (by rfl) (by rfl)) t.tb__law_right u.b__law_right (by rfl) (by rfl) (by kernel_rfl) (by rfl) (fun _ _ _ _ _ => rfl) (fun A outer s H E f c' hr => ?_)
  refine dc (L := t.d_placed) (ok_placed t) hr (takes_of (by rfl) (by rfl) (by rfl) (by rfl)) ?_
  refine da_cons ?_ ?_
  exact dv 1
  refine da_cons ?_ ?_
  exact dv 4
  refine da_cons ?_ ?_
  exact dv 9
  exact da_nil
  exact da_nil
  refine dss_cons ?_ ?_
  refine ds_expr ?_
  refine de_meth md_append ?_ ?_
  exact dv 10
  refine da_cons ?_ ?_
  refine de_lam (n := 0) (k0 := 0) (j := 5) (y := "_law_right") (ok__law_met t) (by decide) (hr.mono (by decide)) (by rfl) t.d__law_met.mg t.d__law_met.fn.kp t.d__law_met.bi (takes_of (by rfl) (by rfl) (by rfl) (by rfl)) t.tb__law_right u.b__law_right (by rfl) (by rfl) (by kernel_rfl) (by rfl) (fun _ _ _ _ _ => rfl) (fun A outer s H E f c' hr => ?_)
  refine dc (L := t.d_is_set) (ok_is_set t) hr (takes_of (by rfl) (by rfl) (by rfl) (by rfl)) ?_
  refine da_cons ?_ ?_
  exact dv 1
  refine da_cons ?_ ?_
  exact dv 4
  exact da_nil
  exact da_nil
  refine dss_cons ?_ ?_
  refine ds_expr ?_
  refine de_meth md_append ?_ ?_
  exact dv 10
  refine da_cons ?_ ?_
  refine de_lam (n := 0) (k0 := 0) (j := 6) (y := "_law_right") (ok__law_met t) (by decide) (hr.mono (by decide)) (by rfl) t.d__law_met.mg t.d__law_met.fn.kp t.d__law_met.bi (takes_of (by rfl) (by rfl) (by rfl) (by rfl)) t.tb__law_right u.b__law_right (by rfl) (by rfl) (by kernel_rfl) (by rfl) (fun _ _ _ _ _ => rfl) (fun A outer s H E f c' hr => ?_)
  refine dc (L := t.d_is_family) (ok_is_family t) hr (takes_of (by rfl) (by rfl) (by rfl) (by rfl)) ?_
  refine da_cons ?_ ?_
  exact dv 1
  refine da_cons ?_ ?_
  exact dv 6
  exact da_nil
  exact da_nil
  refine dss_cons ?_ ?_
  refine ds_set (i := 11) sc__law_right.nd (by rfl) (by first | exact Or.inl rfl | exact Or.inr rfl) ?_
  refine de_bin od_add ?_ ?_
  refine de_bin od_mul ?_ ?_
  refine de_lst ?_
  refine da_cons ?_ ?_
  refine dc (L := t.d__law_first) (ok__law_first t) hr (takes_of (by rfl) (by rfl) (by rfl) (by rfl)) ?_
  refine da_cons ?_ ?_
  refine de_lst ?_
  refine da_cons ?_ ?_
  exact dv 2
  refine da_cons ?_ ?_
  exact dv 5
  exact da_nil
  exact da_nil
  exact da_nil
  exact de_int
  refine de_lst ?_
  refine da_cons ?_ ?_
  refine dc (L := t.d__law_first) (ok__law_first t) hr (takes_of (by rfl) (by rfl) (by rfl) (by rfl)) ?_
  refine da_cons ?_ ?_
  refine de_lst ?_
  refine da_cons ?_ ?_
  exact dv 2
  refine da_cons ?_ ?_
  exact dv 5
  refine da_cons ?_ ?_
  exact dv 7
  exact da_nil
  exact da_nil
  refine da_cons ?_ ?_
  refine dc (L := t.d__law_first) (ok__law_first t) hr (takes_of (by rfl) (by rfl) (by rfl) (by rfl)) ?_
  refine da_cons ?_ ?_
  refine de_lst ?_
  refine da_cons ?_ ?_
  exact dv 2
  refine da_cons ?_ ?_
  exact dv 7
  exact da_nil
  exact da_nil
  exact da_nil
  refine dss_one ?_
  refine ds_ret ?_
  refine de_cmp (od_eqA hr.s) ?_ ?_
  exact dv 10
  refine de_bin od_add ?_ ?_
  refine de_bin od_add ?_ ?_
  exact dv 11
  refine de_lst ?_
  refine da_cons ?_ ?_
  refine dc (L := t.d__law_first) (ok__law_first t) hr (takes_of (by rfl) (by rfl) (by rfl) (by rfl)) ?_
  refine da_cons ?_ ?_
  refine de_lst ?_
  refine da_cons ?_ ?_
  exact dv 2
  refine da_cons ?_ ?_
  exact dv 5
  refine da_cons ?_ ?_
  exact de_str
  exact da_nil
  exact da_nil
  exact da_nil
  refine de_bin od_mul ?_ ?_
  refine de_lst ?_
  refine da_cons ?_ ?_
  exact dv 2
  exact da_nil
  exact de_int

theorem sc_least_of : FnScope ["width", "sets", "one"] ["width", "sets"] (defScope s_least_of) := ⟨rfl, rfl, rfl, by decide +kernel, rfl, by decide +kernel, by decide +kernel⟩
theorem ok_least_of {P : Program} {w : World} {K : PySem.W.Frag} {mg : Str → Option Value} {base : Heap} (t : Tx K mg) : FnD P w K mg base (ctOf t) 5 t.a_least_of t.f_least_of ["width", "sets"] m_least_of := by
  refine fn_iso (fn_ok (b := b_least_of) t.d_least_of.fn sc_least_of fun cdv A outer s H E hr => ?_)
  refine dss_cons ?_ ?_
  refine ds_expr ?_
  refine dc (L := t.d_require_width) (ok_require_width t) hr (takes_of (by rfl) (by rfl) (by rfl) (by rfl)) ?_
  refine da_cons ?_ ?_
  exact dv 0
  exact da_nil
  refine dss_cons ?_ ?_
  refine ds_if ?_ ?_ ?_
  refine DW.dt ?_
  refine dw_or ?_ ?_
  refine dt_not ?_
  refine dt_val ?_
  refine de_isi (by rfl) t.n_isinstance bb_isinstance ?_ (by rfl) t.n_tuple bb_tuple
  exact dv 1
  refine dw_or ?_ ?_
  refine dt_cmp (od_eqA hr.s) ?_ ?_
  exact dv 1
  refine de_tup ?_
  exact da_nil
  refine dw_or1 ?_
  refine dt_not ?_
  refine dt_val ?_
  refine de_callB (cd_all (by rfl)) (by rfl) t.n_all bb_all ?_
  refine da_cons ?_ ?_
  refine de_lc (own := [("one", 2)]) (g := (gN 2)) (by rfl) sc_least_of.nd ?_ (blkOk_by (N := ["width", "sets", "one"]) (sc := defScope s_least_of) (by decide +kernel)) (fun _ _ _ _ _ => (dg_name (i := 2) sc_least_of.nd (by rfl) (by first | exact Or.inl rfl | exact Or.inr rfl))) (fun _ _ _ _ _ => ?_) (fun _ _ _ _ _ => ?_)
  refine di_any ?_
  exact dv 1
  exact dts_nil
  refine dc (L := t.d_is_set_of) (ok_is_set_of t) hr takes0 ?_
  refine da_cons ?_ ?_
  exact dv 0
  refine da_cons ?_ ?_
  exact dv 2
  exact da_nil
  exact da_nil
  refine dss_one ?_
  exact ds_raiseM PySem.F.excBase_ValueError t.x_InvalidSet t.g_InvalidSet t.k_InvalidSet (raises_own t.b_InvalidSet t.y_InvalidSet) (ct_InvalidSet t) (takes_of (by rfl) (by rfl) (by rfl) (by rfl))
  exact dss_nil
  refine dss_one ?_
  refine ds_ret ?_
  refine dc (L := t.d_least_in) (ok_least_in t) hr (takes_of (by rfl) (by rfl) (by rfl) (by rfl)) ?_
  refine da_cons ?_ ?_
  exact dv 1
  exact da_nil

theorem sc_set_in : FnScope ["word", "figure"] ["word"] (defScope s_set_in) := ⟨rfl, rfl, rfl, by decide +kernel, rfl, by decide +kernel, by decide +kernel⟩
theorem ok_set_in {P : Program} {w : World} {K : PySem.W.Frag} {mg : Str → Option Value} {base : Heap} (t : Tx K mg) : FnD P w K mg base (ctOf t) 1 t.a_set_in t.f_set_in ["word"] m_set_in := by
  obtain ⟨k_FIGURES, h_FIGURES⟩ := t.g_FIGURES
  refine fn_iso (fn_ok (b := b_set_in) t.d_set_in.fn sc_set_in fun cdv A outer s H E hr => ?_)
  refine dss_cons ?_ ?_
  refine ds_if ?_ ?_ ?_
  refine dt_not ?_
  refine dt_val ?_
  refine de_callB (cd_all (by rfl)) (by rfl) t.n_all bb_all ?_
  refine da_cons ?_ ?_
  refine de_lc (own := [("figure", 1)]) (g := (gN 1)) (by rfl) sc_set_in.nd ?_ (blkOk_by (N := ["word", "figure"]) (sc := defScope s_set_in) (by decide +kernel)) (fun _ _ _ _ _ => (dg_name (i := 1) sc_set_in.nd (by rfl) (by first | exact Or.inl rfl | exact Or.inr rfl))) (fun _ _ _ _ _ => ?_) (fun _ _ _ _ _ => ?_)
  refine di_any ?_
  exact dv 0
  exact dts_nil
  refine de_cmp (od_in hr.s) ?_ ?_
  exact dv 1
  exact de_globS (by rfl) h_FIGURES
  exact da_nil
  refine dss_one ?_
  refine ds_ret ?_
  exact de_non
  exact dss_nil
  refine dss_one ?_
  refine ds_ret ?_
  refine de_callTy cd_tuple (by rfl) t.n_tuple bb_tuple ?_
  refine da_cons ?_ ?_
  refine de_lc (own := [("figure", 1)]) (g := (gN 1)) (by rfl) sc_set_in.nd ?_ (blkOk_by (N := ["word", "figure"]) (sc := defScope s_set_in) (by decide +kernel)) (fun _ _ _ _ _ => (dg_name (i := 1) sc_set_in.nd (by rfl) (by first | exact Or.inl rfl | exact Or.inr rfl))) (fun _ _ _ _ _ => ?_) (fun _ _ _ _ _ => ?_)
  refine di_any ?_
  exact dv 0
  exact dts_nil
  refine de_meth md_sindex ?_ ?_
  exact de_globS (by rfl) h_FIGURES
  refine da_cons ?_ ?_
  exact dv 1
  exact da_nil
  exact da_nil

theorem sc_family_in : FnScope ["width", "text", "found", "word"] ["width", "text"] (defScope s_family_in) := ⟨rfl, rfl, rfl, by decide +kernel, rfl, by decide +kernel, by decide +kernel⟩
theorem ok_family_in {P : Program} {w : World} {K : PySem.W.Frag} {mg : Str → Option Value} {base : Heap} (t : Tx K mg) : FnD P w K mg base (ctOf t) 6 t.a_family_in t.f_family_in ["width", "text"] m_family_in := by
  obtain ⟨k_BLANK, h_BLANK⟩ := t.g_BLANK
  refine fn_iso (fn_ok (b := b_family_in) t.d_family_in.fn sc_family_in fun cdv A outer s H E hr => ?_)
  refine dss_cons ?_ ?_
  refine ds_set (i := 2) sc_family_in.nd (by rfl) (by first | exact Or.inl rfl | exact Or.inr rfl) ?_
  refine de_callTy cd_tuple (by rfl) t.n_tuple bb_tuple ?_
  refine da_cons ?_ ?_
  refine de_lc (own := [("word", 3)]) (g := (gN 3)) (by rfl) sc_family_in.nd ?_ (blkOk_by (N := ["width", "text", "found", "word"]) (sc := defScope s_family_in) (by decide +kernel)) (fun _ _ _ _ _ => (dg_name (i := 3) sc_family_in.nd (by rfl) (by first | exact Or.inl rfl | exact Or.inr rfl))) (fun _ _ _ _ _ => ?_) (fun _ _ _ _ _ => ?_)
  refine di_any ?_
  refine de_meth md_split ?_ ?_
  exact dv 1
  refine da_cons ?_ ?_
  exact de_globS (by rfl) h_BLANK
  exact da_nil
  exact dts_nil
  refine dc (L := t.d_set_in) (ok_set_in t) hr takes0 ?_
  refine da_cons ?_ ?_
  exact dv 3
  exact da_nil
  exact da_nil
  refine dss_one ?_
  refine ds_ret ?_
  refine de_if ?_ ?_ ?_
  refine dt_val ?_
  refine dc (L := t.d_is_family_of) (ok_is_family_of t) hr (takes_of (by rfl) (by rfl) (by rfl) (by rfl)) ?_
  refine da_cons ?_ ?_
  exact dv 0
  refine da_cons ?_ ?_
  exact dv 2
  exact da_nil
  exact dv 2
  exact de_non

theorem sc_read_family : FnScope ["width", "text", "found"] ["width", "text"] (defScope s_read_family) := ⟨rfl, rfl, rfl, by decide +kernel, rfl, by decide +kernel, by decide +kernel⟩
theorem ok_read_family {P : Program} {w : World} {K : PySem.W.Frag} {mg : Str → Option Value} {base : Heap} (t : Tx K mg) : FnD P w K mg base (ctOf t) 7 t.a_read_family t.f_read_family ["width", "text"] m_read_family := by
  refine fn_iso (fn_ok (b := b_read_family) t.d_read_family.fn sc_read_family fun cdv A outer s H E hr => ?_)
  refine dss_cons ?_ ?_
  refine ds_expr ?_
  refine dc (L := t.d_require_width) (ok_require_width t) hr (takes_of (by rfl) (by rfl) (by rfl) (by rfl)) ?_
  refine da_cons ?_ ?_
  exact dv 0
  exact da_nil
  refine dss_cons ?_ ?_
  refine ds_set (i := 2) sc_read_family.nd (by rfl) (by first | exact Or.inl rfl | exact Or.inr rfl) ?_
  refine de_if ?_ ?_ ?_
  refine dt_val ?_
  refine de_isi (by rfl) t.n_isinstance bb_isinstance ?_ (by rfl) t.n_str bb_str
  exact dv 1
  refine dc (L := t.d_family_in) (ok_family_in t) hr (takes_of (by rfl) (by rfl) (by rfl) (by rfl)) ?_
  refine da_cons ?_ ?_
  exact dv 0
  refine da_cons ?_ ?_
  exact dv 1
  exact da_nil
  exact de_non
  refine dss_cons ?_ ?_
  refine ds_if ?_ ?_ ?_
  refine dt_cmp od_isA ?_ ?_
  exact dv 2
  exact de_non
  refine dss_one ?_
  refine ds_raiseF PySem.F.excBase_ValueError (xc_ParseError t) t.i_ParseError t.ti_ParseError (in_ParseError t) (hr.mono (by decide)) t.bi_ParseError t.g_ParseError (ct_ParseError t) (takes_of (by rfl) (by rfl) (by rfl) (by rfl)) ?_
  exact de_non
  exact dss_nil
  refine dss_one ?_
  refine ds_ret ?_
  exact dv 2

theorem sc__law_others_right : FnScope ["dice", "width", "ahead", "some", "text", "told"] ["dice"] (defScope s__law_others_right) := ⟨rfl, rfl, rfl, by decide +kernel, rfl, by decide +kernel, by decide +kernel⟩
theorem ok__law_others_right {P : Program} {w : World} {K : PySem.W.Frag} {mg : Str → Option Value} {base : Heap} (t : Tx K mg) (u : Ux base t) : FnD P w K mg base (ctOf t) 10 t.a__law_others_right t.f__law_others_right ["dice"] m__law_others_right := by
  refine fn_gc (fn_okT (b := b__law_others_right) t.d__law_others_right.fn t.hc__law_others_right sc__law_others_right fun A outer s H E hr => ?_)
  refine dss_cons ?_ ?_
  refine ds_set (i := 1) sc__law_others_right.nd (by rfl) (by first | exact Or.inl rfl | exact Or.inr rfl) ?_
  refine dc (L := t.d__law_pick) (ok__law_pick t) hr (takes_of (by rfl) (by rfl) (by rfl) (by rfl)) ?_
  refine da_cons ?_ ?_
  exact dv 0
  refine da_cons ?_ ?_
  refine de_lst ?_
  refine da_cons ?_ ?_
  exact de_int
  refine da_cons ?_ ?_
  exact de_int
  refine da_cons ?_ ?_
  exact de_int
  refine da_cons ?_ ?_
  exact de_int
  refine da_cons ?_ ?_
  exact de_non
  refine da_cons ?_ ?_
  exact de_bl
  refine da_cons ?_ ?_
  exact de_str
  refine da_cons ?_ ?_
  exact de_int
  exact da_nil
  exact da_nil
  refine dss_cons ?_ ?_
  refine ds_set (i := 2) sc__law_others_right.nd (by rfl) (by first | exact Or.inl rfl | exact Or.inr rfl) ?_
  refine de_if ?_ ?_ ?_
  refine DW.dt ?_
  refine dw_and ?_ ?_
  refine dt_cmp (od_in hr.s) ?_ ?_
  exact dv 1
  refine de_tup ?_
  refine da_cons ?_ ?_
  exact de_int
  refine da_cons ?_ ?_
  exact de_int
  exact da_nil
  refine dw_and1 ?_
  refine dt_cmp od_notA ?_ ?_
  exact dv 1
  exact de_bl
  exact de_str
  refine de_bin od_add ?_ ?_
  exact de_str
  refine de_callB (cd_reprA hr.s) (by rfl) t.n_repr bb_repr ?_
  refine da_cons ?_ ?_
  exact dv 1
  exact da_nil
  refine dss_cons ?_ ?_
  refine ds_set (i := 3) sc__law_others_right.nd (by rfl) (by first | exact Or.inl rfl | exact Or.inr rfl) ?_
  refine dc (L := t.d__law_pick) (ok__law_pick t) hr (takes_of (by rfl) (by rfl) (by rfl) (by rfl)) ?_
  refine da_cons ?_ ?_
  exact dv 0
  refine da_cons ?_ ?_
  refine de_lst ?_
  refine da_cons ?_ ?_
  exact de_non
  refine da_cons ?_ ?_
  refine de_tup ?_
  exact da_nil
  refine da_cons ?_ ?_
  refine de_tup ?_
  refine da_cons ?_ ?_
  refine de_tup ?_
  exact da_nil
  exact da_nil
  refine da_cons ?_ ?_
  refine de_lst ?_
  refine da_cons ?_ ?_
  refine de_tup ?_
  refine da_cons ?_ ?_
  exact de_int
  exact da_nil
  exact da_nil
  refine da_cons ?_ ?_
  refine de_tup ?_
  refine da_cons ?_ ?_
  refine de_tup ?_
  refine da_cons ?_ ?_
  exact de_int
  exact da_nil
  refine da_cons ?_ ?_
  exact de_non
  exact da_nil
  refine da_cons ?_ ?_
  refine de_tup ?_
  refine da_cons ?_ ?_
  refine de_tup ?_
  refine da_cons ?_ ?_
  exact de_int
  exact da_nil
  exact da_nil
  refine da_cons ?_ ?_
  refine de_tup ?_
  refine da_cons ?_ ?_
  refine de_tup ?_
  refine da_cons ?_ ?_
  exact de_int
  refine da_cons ?_ ?_
  exact de_int
  exact da_nil
  exact da_nil
  refine da_cons ?_ ?_
  refine de_tup ?_
  refine da_cons ?_ ?_
  exact de_int
  exact da_nil
  refine da_cons ?_ ?_
  exact de_str
  refine da_cons ?_ ?_
  exact de_dic0
  exact da_nil
  exact da_nil
  refine dss_cons ?_ ?_
  refine ds_set (i := 4) sc__law_others_right.nd (by rfl) (by first | exact Or.inl rfl | exact Or.inr rfl) ?_
  refine dc (L := t.d__law_pick) (ok__law_pick t) hr (takes_of (by rfl) (by rfl) (by rfl) (by rfl)) ?_
  refine da_cons ?_ ?_
  exact dv 0
  refine da_cons ?_ ?_
  refine de_lst ?_
  refine da_cons ?_ ?_
  exact de_non
  refine da_cons ?_ ?_
  exact de_int
  refine da_cons ?_ ?_
  exact de_str
  refine da_cons ?_ ?_
  exact de_str
  refine da_cons ?_ ?_
  exact de_str
  refine da_cons ?_ ?_
  exact de_str
  refine da_cons ?_ ?_
  exact de_str
  refine da_cons ?_ ?_
  exact de_str
  refine da_cons ?_ ?_
  refine de_tup ?_
  refine da_cons ?_ ?_
  exact de_str
  exact da_nil
  refine da_cons ?_ ?_
  refine de_lst ?_
  exact da_nil
  refine da_cons ?_ ?_
  exact de_dic0
  refine da_cons ?_ ?_
  exact de_str
  refine da_cons ?_ ?_
  exact de_str
  exact da_nil
  exact da_nil
  refine dss_cons ?_ ?_
  refine ds_set (i := 5) sc__law_others_right.nd (by rfl) (by first | exact Or.inl rfl | exact Or.inr rfl) ?_
  refine de_lstC ?_
  refine da_cons ?_ ?_
  refine de_lam (n := 1) (k0 := 0) (j := 5) (y := "_law_others_right") (ok__law_met t) (by decide) (hr.mono (by decide)) (by rfl) t.d__law_met.mg t.d__law_met.fn.kp t.d__law_met.bi (takes_of (by rfl) (by rfl) (by rfl) (by rfl)) t.tb__law_others_right u.b__law_others_right (by rfl) (by rfl) (by kernel_rfl) (by rfl) (fun _ _ _ _ _ => rfl) (fun A outer s H E f c' hr => ?_)
  refine dc (L := t.d_least_of) (ok_least_of t) hr (takes_of (by rfl) (by rfl) (by rfl) (by rfl)) ?_
  refine da_cons ?_ ?_
  exact dv 1
  refine da_cons ?_ ?_
  exact dv 3
  exact da_nil
  exact da_nil
  refine dss_cons ?_ ?_
  refine ds_expr ?_
  refine de_meth md_append ?_ ?_
  exact dv 5
  refine da_cons ?_ ?_
  refine de_lam (n := 1) (k0 := 0) (j := 7) (y := "_law_others_right") (ok__law_met t) (by decide) (hr.mono (by decide)) (by rfl) t.d__law_met.mg t.d__law_met.fn.kp t.d__law_met.bi (takes_of (by rfl) (by rfl) (by rfl) (by rfl)) t.tb__law_others_right u.b__law_others_right (by rfl) (by rfl) (by kernel_rfl) (by rfl) (fun _ _ _ _ _ => rfl) (fun A outer s H E f c' hr => ?_)
  refine dc (L := t.d_read_family) (ok_read_family t) hr (takes_of (by rfl) (by rfl) (by rfl) (by rfl)) ?_
  refine da_cons ?_ ?_
  exact dv 1
  refine da_cons ?_ ?_
  exact dv 4
  exact da_nil
  exact da_nil
  refine dss_cons ?_ ?_
  refine ds_expr ?_
  refine de_meth md_append ?_ ?_
  exact dv 5
  refine da_cons ?_ ?_
  refine de_lam (n := 1) (k0 := 0) (j := 5) (y := "_law_others_right") (ok__law_met t) (by decide) (hr.mono (by decide)) (by rfl) t.d__law_met.mg t.d__law_met.fn.kp t.d__law_met.bi (takes_of (by rfl) (by rfl) (by rfl) (by rfl)) t.tb__law_others_right u.b__law_others_right (by rfl) (by rfl) (by kernel_rfl) (by rfl) (fun _ _ _ _ _ => rfl) (fun A outer s H E f c' hr => ?_)
  refine dc (L := t.d_least_of) (ok_least_of t) hr (takes_of (by rfl) (by rfl) (by rfl) (by rfl)) ?_
  refine da_cons ?_ ?_
  exact de_int
  refine da_cons ?_ ?_
  refine de_tup ?_
  refine da_cons ?_ ?_
  refine de_tup ?_
  refine da_cons ?_ ?_
  exact de_int
  refine da_cons ?_ ?_
  exact de_int
  exact da_nil
  refine da_cons ?_ ?_
  refine de_tup ?_
  refine da_cons ?_ ?_
  exact de_int
  exact da_nil
  refine da_cons ?_ ?_
  refine de_tup ?_
  refine da_cons ?_ ?_
  exact de_int
  refine da_cons ?_ ?_
  exact de_int
  exact da_nil
  exact da_nil
  exact da_nil
  exact da_nil
  refine dss_one ?_
  refine ds_ret ?_
  refine de_cmp (od_eqA hr.s) ?_ ?_
  exact dv 5
  refine de_lst ?_
  refine da_cons ?_ ?_
  refine dc (L := t.d__law_first) (ok__law_first t) hr (takes_of (by rfl) (by rfl) (by rfl) (by rfl)) ?_
  refine da_cons ?_ ?_
  refine de_lst ?_
  refine da_cons ?_ ?_
  exact dv 2
  refine da_cons ?_ ?_
  exact de_str
  exact da_nil
  exact da_nil
  refine da_cons ?_ ?_
  refine dc (L := t.d__law_first) (ok__law_first t) hr (takes_of (by rfl) (by rfl) (by rfl) (by rfl)) ?_
  refine da_cons ?_ ?_
  refine de_lst ?_
  refine da_cons ?_ ?_
  exact dv 2
  refine da_cons ?_ ?_
  exact de_str
  exact da_nil
  exact da_nil
  refine da_cons ?_ ?_
  exact de_str
  exact da_nil

theorem sc_law : FnScope ["script", "spot", "dice", "turn"] ["script"] (defScope s_law) := ⟨rfl, rfl, rfl, by decide +kernel, rfl, by decide +kernel, by decide +kernel⟩
theorem ok_law {P : Program} {w : World} {K : PySem.W.Frag} {mg : Str → Option Value} {base : Heap} (t : Tx K mg) (u : Ux base t) : FnD P w K mg base (ctOf t) 12 t.a_law t.f_law ["script"] m_law := by
  refine fn_gc (fn_okT (b := b_law) t.d_law.fn t.hc_law sc_law fun A outer s H E hr => ?_)
  refine dss_cons ?_ ?_
  refine ds_for (b := l2_law) (passes_of (by rfl)) (by rfl) ?_ (dg_name (i := 1) sc_law.nd (by rfl) (by first | exact Or.inl rfl | exact Or.inr rfl)) ?_
  refine di_range1 (by rfl) t.n_range ?_
  refine de_callB (cd_max (by rfl)) (by rfl) t.n_max bb_max ?_
  refine da_cons ?_ ?_
  exact de_int
  refine da_cons ?_ ?_
  refine de_callB (cd_min (by rfl)) (by rfl) t.n_min bb_min ?_
  refine da_cons ?_ ?_
  exact de_int
  refine da_cons ?_ ?_
  refine de_callB cd_len (by rfl) t.n_len bb_len ?_
  refine da_cons ?_ ?_
  exact dv 0
  exact da_nil
  exact da_nil
  exact da_nil
  refine dss_cons ?_ ?_
  refine ds_set (i := 2) sc_law.nd (by rfl) (by first | exact Or.inl rfl | exact Or.inr rfl) ?_
  refine dc (L := t.d__law_dice) (ok__law_dice t) hr (takes_of (by rfl) (by rfl) (by rfl) (by rfl)) ?_
  refine da_cons ?_ ?_
  exact dv 0
  refine da_cons ?_ ?_
  exact dv 1
  exact da_nil
  refine dss_one ?_
  refine ds_for (b := l1_law) (passes_of (by rfl)) (by rfl) ?_ (dg_name (i := 3) sc_law.nd (by rfl) (by first | exact Or.inl rfl | exact Or.inr rfl)) ?_
  refine di_range1 (by rfl) t.n_range ?_
  exact de_int
  refine dss_one ?_
  refine ds_if ?_ ?_ ?_
  refine DW.dt ?_
  refine dw_or ?_ ?_
  refine dt_not ?_
  refine dt_val ?_
  refine dc (L := t.d__law_right) (ok__law_right t u) hr (takes_of (by rfl) (by rfl) (by rfl) (by rfl)) ?_
  refine da_cons ?_ ?_
  exact dv 2
  exact da_nil
  refine dw_or1 ?_
  refine dt_not ?_
  refine dt_val ?_
  refine dc (L := t.d__law_others_right) (ok__law_others_right t u) hr (takes_of (by rfl) (by rfl) (by rfl) (by rfl)) ?_
  refine da_cons ?_ ?_
  exact dv 2
  exact da_nil
  refine dss_one ?_
  refine ds_ret ?_
  exact de_bl
  exact dss_nil
  refine dss_one ?_
  refine ds_ret ?_
  refine de_cmp (od_eqA hr.s) ?_ ?_
  refine de_lam (n := 2) (k0 := 0) (j := 7) (y := "law") (ok__law_met t) (by decide) (hr.mono (by decide)) (by rfl) t.d__law_met.mg t.d__law_met.fn.kp t.d__law_met.bi (takes_of (by rfl) (by rfl) (by rfl) (by rfl)) t.tb_law u.b_law (by rfl) (by rfl) (by kernel_rfl) (by rfl) (fun _ _ _ _ _ => rfl) (fun A outer s H E f c' hr => ?_)
  refine dc (L := t.d_completed) (ok_completed t) hr (takes_of (by rfl) (by rfl) (by rfl) (by rfl)) ?_
  refine da_cons ?_ ?_
  exact de_int
  refine da_cons ?_ ?_
  refine de_tup ?_
  refine da_cons ?_ ?_
  refine de_tup ?_
  refine da_cons ?_ ?_
  exact de_int
  refine da_cons ?_ ?_
  exact de_int
  exact da_nil
  refine da_cons ?_ ?_
  refine de_tup ?_
  refine da_cons ?_ ?_
  exact de_int
  refine da_cons ?_ ?_
  exact de_int
  exact da_nil
  exact da_nil
  exact da_nil
  exact de_str

theorem tx_of {K : PySem.W.Frag} {h : Heap} {mg : Str → Option Value} (X : K.In h) (G : h.Ns mainGlobals mg)
    {a__law_dice : Addr} {oc__law_dice kV__law_dice dc__law_dice pm__law_dice cd__law_dice ct__law_dice : Value} {od__law_dice an__law_dice : Option Addr} {sl__law_dice : Array (Option Value)}
    (n__law_dice : PySem.W.nsIn K mainGlobals "_law_dice" = some (some (.ref a__law_dice))) (l__law_dice : K.lookup a__law_dice = some ⟨oc__law_dice, od__law_dice, .func (PySem.W.fnOf "_law_dice" "_law_dice" (defArgs s__law_dice) (defBody s__law_dice) (defScope s__law_dice) .none kV__law_dice dc__law_dice pm__law_dice an__law_dice cd__law_dice ct__law_dice), sl__law_dice⟩) (c__law_dice : PySem.W.codeIn K cd__law_dice "_law_dice" = true) (k__law_dice : PySem.W.keepIn K (.ref a__law_dice) = true)
    {a__law_met : Addr} {oc__law_met kV__law_met dc__law_met pm__law_met cd__law_met ct__law_met : Value} {od__law_met an__law_met : Option Addr} {sl__law_met : Array (Option Value)}
    (n__law_met : PySem.W.nsIn K mainGlobals "_law_met" = some (some (.ref a__law_met))) (l__law_met : K.lookup a__law_met = some ⟨oc__law_met, od__law_met, .func (PySem.W.fnOf "_law_met" "_law_met" (defArgs s__law_met) (defBody s__law_met) (defScope s__law_met) .none kV__law_met dc__law_met pm__law_met an__law_met cd__law_met ct__law_met), sl__law_met⟩) (c__law_met : PySem.W.codeIn K cd__law_met "_law_met" = true) (k__law_met : PySem.W.keepIn K (.ref a__law_met) = true)
    {a_is_integer : Addr} {oc_is_integer kV_is_integer dc_is_integer pm_is_integer cd_is_integer ct_is_integer : Value} {od_is_integer an_is_integer : Option Addr} {sl_is_integer : Array (Option Value)}
    (n_is_integer : PySem.W.nsIn K mainGlobals "is_integer" = some (some (.ref a_is_integer))) (l_is_integer : K.lookup a_is_integer = some ⟨oc_is_integer, od_is_integer, .func (PySem.W.fnOf "is_integer" "is_integer" (defArgs s_is_integer) (defBody s_is_integer) (defScope s_is_integer) .none kV_is_integer dc_is_integer pm_is_integer an_is_integer cd_is_integer ct_is_integer), sl_is_integer⟩) (c_is_integer : PySem.W.codeIn K cd_is_integer "is_integer" = true) (k_is_integer : PySem.W.keepIn K (.ref a_is_integer) = true)
    {a_is_count : Addr} {oc_is_count kV_is_count dc_is_count pm_is_count cd_is_count ct_is_count : Value} {od_is_count an_is_count : Option Addr} {sl_is_count : Array (Option Value)}
    (n_is_count : PySem.W.nsIn K mainGlobals "is_count" = some (some (.ref a_is_count))) (l_is_count : K.lookup a_is_count = some ⟨oc_is_count, od_is_count, .func (PySem.W.fnOf "is_count" "is_count" (defArgs s_is_count) (defBody s_is_count) (defScope s_is_count) .none kV_is_count dc_is_count pm_is_count an_is_count cd_is_count ct_is_count), sl_is_count⟩) (c_is_count : PySem.W.codeIn K cd_is_count "is_count" = true) (k_is_count : PySem.W.keepIn K (.ref a_is_count) = true)
    {a_is_width : Addr} {oc_is_width kV_is_width dc_is_width pm_is_width cd_is_width ct_is_width : Value} {od_is_width an_is_width : Option Addr} {sl_is_width : Array (Option Value)}
    (n_is_width : PySem.W.nsIn K mainGlobals "is_width" = some (some (.ref a_is_width))) (l_is_width : K.lookup a_is_width = some ⟨oc_is_width, od_is_width, .func (PySem.W.fnOf "is_width" "is_width" (defArgs s_is_width) (defBody s_is_width) (defScope s_is_width) .none kV_is_width dc_is_width pm_is_width an_is_width cd_is_width ct_is_width), sl_is_width⟩) (c_is_width : PySem.W.codeIn K cd_is_width "is_width" = true) (k_is_width : PySem.W.keepIn K (.ref a_is_width) = true)
    {a_require_width : Addr} {oc_require_width kV_require_width dc_require_width pm_require_width cd_require_width ct_require_width : Value} {od_require_width an_require_width : Option Addr} {sl_require_width : Array (Option Value)}
    (n_require_width : PySem.W.nsIn K mainGlobals "require_width" = some (some (.ref a_require_width))) (l_require_width : K.lookup a_require_width = some ⟨oc_require_width, od_require_width, .func (PySem.W.fnOf "require_width" "require_width" (defArgs s_require_width) (defBody s_require_width) (defScope s_require_width) .none kV_require_width dc_require_width pm_require_width an_require_width cd_require_width ct_require_width), sl_require_width⟩) (c_require_width : PySem.W.codeIn K cd_require_width "require_width" = true) (k_require_width : PySem.W.keepIn K (.ref a_require_width) = true)
    {a_contains : Addr} {oc_contains kV_contains dc_contains pm_contains cd_contains ct_contains : Value} {od_contains an_contains : Option Addr} {sl_contains : Array (Option Value)}
    (n_contains : PySem.W.nsIn K mainGlobals "contains" = some (some (.ref a_contains))) (l_contains : K.lookup a_contains = some ⟨oc_contains, od_contains, .func (PySem.W.fnOf "contains" "contains" (defArgs s_contains) (defBody s_contains) (defScope s_contains) .none kV_contains dc_contains pm_contains an_contains cd_contains ct_contains), sl_contains⟩) (c_contains : PySem.W.codeIn K cd_contains "contains" = true) (k_contains : PySem.W.keepIn K (.ref a_contains) = true)
    {a_are_least : Addr} {oc_are_least kV_are_least dc_are_least pm_are_least cd_are_least ct_are_least : Value} {od_are_least an_are_least : Option Addr} {sl_are_least : Array (Option Value)}
    (n_are_least : PySem.W.nsIn K mainGlobals "are_least" = some (some (.ref a_are_least))) (l_are_least : K.lookup a_are_least = some ⟨oc_are_least, od_are_least, .func (PySem.W.fnOf "are_least" "are_least" (defArgs s_are_least) (defBody s_are_least) (defScope s_are_least) .none kV_are_least dc_are_least pm_are_least an_are_least cd_are_least ct_are_least), sl_are_least⟩) (c_are_least : PySem.W.codeIn K cd_are_least "are_least" = true) (k_are_least : PySem.W.keepIn K (.ref a_are_least) = true)
    {a_are_places : Addr} {oc_are_places kV_are_places dc_are_places pm_are_places cd_are_places ct_are_places : Value} {od_are_places an_are_places : Option Addr} {sl_are_places : Array (Option Value)}
    (n_are_places : PySem.W.nsIn K mainGlobals "are_places" = some (some (.ref a_are_places))) (l_are_places : K.lookup a_are_places = some ⟨oc_are_places, od_are_places, .func (PySem.W.fnOf "are_places" "are_places" (defArgs s_are_places) (defBody s_are_places) (defScope s_are_places) .none kV_are_places dc_are_places pm_are_places an_are_places cd_are_places ct_are_places), sl_are_places⟩) (c_are_places : PySem.W.codeIn K cd_are_places "are_places" = true) (k_are_places : PySem.W.keepIn K (.ref a_are_places) = true)
    {a_is_set_of : Addr} {oc_is_set_of kV_is_set_of dc_is_set_of pm_is_set_of cd_is_set_of ct_is_set_of : Value} {od_is_set_of an_is_set_of : Option Addr} {sl_is_set_of : Array (Option Value)}
    (n_is_set_of : PySem.W.nsIn K mainGlobals "is_set_of" = some (some (.ref a_is_set_of))) (l_is_set_of : K.lookup a_is_set_of = some ⟨oc_is_set_of, od_is_set_of, .func (PySem.W.fnOf "is_set_of" "is_set_of" (defArgs s_is_set_of) (defBody s_is_set_of) (defScope s_is_set_of) .none kV_is_set_of dc_is_set_of pm_is_set_of an_is_set_of cd_is_set_of ct_is_set_of), sl_is_set_of⟩) (c_is_set_of : PySem.W.codeIn K cd_is_set_of "is_set_of" = true) (k_is_set_of : PySem.W.keepIn K (.ref a_is_set_of) = true)
    {a_is_family_of : Addr} {oc_is_family_of kV_is_family_of dc_is_family_of pm_is_family_of cd_is_family_of ct_is_family_of : Value} {od_is_family_of an_is_family_of : Option Addr} {sl_is_family_of : Array (Option Value)}
    (n_is_family_of : PySem.W.nsIn K mainGlobals "is_family_of" = some (some (.ref a_is_family_of))) (l_is_family_of : K.lookup a_is_family_of = some ⟨oc_is_family_of, od_is_family_of, .func (PySem.W.fnOf "is_family_of" "is_family_of" (defArgs s_is_family_of) (defBody s_is_family_of) (defScope s_is_family_of) .none kV_is_family_of dc_is_family_of pm_is_family_of an_is_family_of cd_is_family_of ct_is_family_of), sl_is_family_of⟩) (c_is_family_of : PySem.W.codeIn K cd_is_family_of "is_family_of" = true) (k_is_family_of : PySem.W.keepIn K (.ref a_is_family_of) = true)
    {a_require_family : Addr} {oc_require_family kV_require_family dc_require_family pm_require_family cd_require_family ct_require_family : Value} {od_require_family an_require_family : Option Addr} {sl_require_family : Array (Option Value)}
    (n_require_family : PySem.W.nsIn K mainGlobals "require_family" = some (some (.ref a_require_family))) (l_require_family : K.lookup a_require_family = some ⟨oc_require_family, od_require_family, .func (PySem.W.fnOf "require_family" "require_family" (defArgs s_require_family) (defBody s_require_family) (defScope s_require_family) .none kV_require_family dc_require_family pm_require_family an_require_family cd_require_family ct_require_family), sl_require_family⟩) (c_require_family : PySem.W.codeIn K cd_require_family "require_family" = true) (k_require_family : PySem.W.keepIn K (.ref a_require_family) = true)
    {a_least_in : Addr} {oc_least_in kV_least_in dc_least_in pm_least_in cd_least_in ct_least_in : Value} {od_least_in an_least_in : Option Addr} {sl_least_in : Array (Option Value)}
    (n_least_in : PySem.W.nsIn K mainGlobals "least_in" = some (some (.ref a_least_in))) (l_least_in : K.lookup a_least_in = some ⟨oc_least_in, od_least_in, .func (PySem.W.fnOf "least_in" "least_in" (defArgs s_least_in) (defBody s_least_in) (defScope s_least_in) .none kV_least_in dc_least_in pm_least_in an_least_in cd_least_in ct_least_in), sl_least_in⟩) (c_least_in : PySem.W.codeIn K cd_least_in "least_in" = true) (k_least_in : PySem.W.keepIn K (.ref a_least_in) = true)
    {a_do_meet : Addr} {oc_do_meet kV_do_meet dc_do_meet pm_do_meet cd_do_meet ct_do_meet : Value} {od_do_meet an_do_meet : Option Addr} {sl_do_meet : Array (Option Value)}
    (n_do_meet : PySem.W.nsIn K mainGlobals "do_meet" = some (some (.ref a_do_meet))) (l_do_meet : K.lookup a_do_meet = some ⟨oc_do_meet, od_do_meet, .func (PySem.W.fnOf "do_meet" "do_meet" (defArgs s_do_meet) (defBody s_do_meet) (defScope s_do_meet) .none kV_do_meet dc_do_meet pm_do_meet an_do_meet cd_do_meet ct_do_meet), sl_do_meet⟩) (c_do_meet : PySem.W.codeIn K cd_do_meet "do_meet" = true) (k_do_meet : PySem.W.keepIn K (.ref a_do_meet) = true)
    {a_all_sets : Addr} {oc_all_sets kV_all_sets dc_all_sets pm_all_sets cd_all_sets ct_all_sets : Value} {od_all_sets an_all_sets : Option Addr} {sl_all_sets : Array (Option Value)}
    (n_all_sets : PySem.W.nsIn K mainGlobals "all_sets" = some (some (.ref a_all_sets))) (l_all_sets : K.lookup a_all_sets = some ⟨oc_all_sets, od_all_sets, .func (PySem.W.fnOf "all_sets" "all_sets" (defArgs s_all_sets) (defBody s_all_sets) (defScope s_all_sets) .none kV_all_sets dc_all_sets pm_all_sets an_all_sets cd_all_sets ct_all_sets), sl_all_sets⟩) (c_all_sets : PySem.W.codeIn K cd_all_sets "all_sets" = true) (k_all_sets : PySem.W.keepIn K (.ref a_all_sets) = true)
    {a_dual_family : Addr} {oc_dual_family kV_dual_family dc_dual_family pm_dual_family cd_dual_family ct_dual_family : Value} {od_dual_family an_dual_family : Option Addr} {sl_dual_family : Array (Option Value)}
    (n_dual_family : PySem.W.nsIn K mainGlobals "dual_family" = some (some (.ref a_dual_family))) (l_dual_family : K.lookup a_dual_family = some ⟨oc_dual_family, od_dual_family, .func (PySem.W.fnOf "dual_family" "dual_family" (defArgs s_dual_family) (defBody s_dual_family) (defScope s_dual_family) .none kV_dual_family dc_dual_family pm_dual_family an_dual_family cd_dual_family ct_dual_family), sl_dual_family⟩) (c_dual_family : PySem.W.codeIn K cd_dual_family "dual_family" = true) (k_dual_family : PySem.W.keepIn K (.ref a_dual_family) = true)
    {a_holds_one : Addr} {oc_holds_one kV_holds_one dc_holds_one pm_holds_one cd_holds_one ct_holds_one : Value} {od_holds_one an_holds_one : Option Addr} {sl_holds_one : Array (Option Value)}
    (n_holds_one : PySem.W.nsIn K mainGlobals "holds_one" = some (some (.ref a_holds_one))) (l_holds_one : K.lookup a_holds_one = some ⟨oc_holds_one, od_holds_one, .func (PySem.W.fnOf "holds_one" "holds_one" (defArgs s_holds_one) (defBody s_holds_one) (defScope s_holds_one) .none kV_holds_one dc_holds_one pm_holds_one an_holds_one cd_holds_one ct_holds_one), sl_holds_one⟩) (c_holds_one : PySem.W.codeIn K cd_holds_one "holds_one" = true) (k_holds_one : PySem.W.keepIn K (.ref a_holds_one) = true)
    {a_completed : Addr} {oc_completed kV_completed dc_completed pm_completed cd_completed ct_completed : Value} {od_completed an_completed : Option Addr} {sl_completed : Array (Option Value)}
    (n_completed : PySem.W.nsIn K mainGlobals "completed" = some (some (.ref a_completed))) (l_completed : K.lookup a_completed = some ⟨oc_completed, od_completed, .func (PySem.W.fnOf "completed" "completed" (defArgs s_completed) (defBody s_completed) (defScope s_completed) .none kV_completed dc_completed pm_completed an_completed cd_completed ct_completed), sl_completed⟩) (c_completed : PySem.W.codeIn K cd_completed "completed" = true) (k_completed : PySem.W.keepIn K (.ref a_completed) = true)
    {a__law_roll : Addr} {oc__law_roll kV__law_roll dc__law_roll pm__law_roll cd__law_roll ct__law_roll : Value} {od__law_roll an__law_roll : Option Addr} {sl__law_roll : Array (Option Value)}
    (n__law_roll : PySem.W.nsIn K mainGlobals "_law_roll" = some (some (.ref a__law_roll))) (l__law_roll : K.lookup a__law_roll = some ⟨oc__law_roll, od__law_roll, .func (PySem.W.fnOf "_law_roll" "_law_roll" (defArgs s__law_roll) (defBody s__law_roll) (defScope s__law_roll) .none kV__law_roll dc__law_roll pm__law_roll an__law_roll cd__law_roll ct__law_roll), sl__law_roll⟩) (c__law_roll : PySem.W.codeIn K cd__law_roll "_law_roll" = true) (k__law_roll : PySem.W.keepIn K (.ref a__law_roll) = true)
    {a__law_pick : Addr} {oc__law_pick kV__law_pick dc__law_pick pm__law_pick cd__law_pick ct__law_pick : Value} {od__law_pick an__law_pick : Option Addr} {sl__law_pick : Array (Option Value)}
    (n__law_pick : PySem.W.nsIn K mainGlobals "_law_pick" = some (some (.ref a__law_pick))) (l__law_pick : K.lookup a__law_pick = some ⟨oc__law_pick, od__law_pick, .func (PySem.W.fnOf "_law_pick" "_law_pick" (defArgs s__law_pick) (defBody s__law_pick) (defScope s__law_pick) .none kV__law_pick dc__law_pick pm__law_pick an__law_pick cd__law_pick ct__law_pick), sl__law_pick⟩) (c__law_pick : PySem.W.codeIn K cd__law_pick "_law_pick" = true) (k__law_pick : PySem.W.keepIn K (.ref a__law_pick) = true)
    {a__law_limit : Addr} {oc__law_limit kV__law_limit dc__law_limit pm__law_limit cd__law_limit ct__law_limit : Value} {od__law_limit an__law_limit : Option Addr} {sl__law_limit : Array (Option Value)}
    (n__law_limit : PySem.W.nsIn K mainGlobals "_law_limit" = some (some (.ref a__law_limit))) (l__law_limit : K.lookup a__law_limit = some ⟨oc__law_limit, od__law_limit, .func (PySem.W.fnOf "_law_limit" "_law_limit" (defArgs s__law_limit) (defBody s__law_limit) (defScope s__law_limit) .none kV__law_limit dc__law_limit pm__law_limit an__law_limit cd__law_limit ct__law_limit), sl__law_limit⟩) (c__law_limit : PySem.W.codeIn K cd__law_limit "_law_limit" = true) (k__law_limit : PySem.W.keepIn K (.ref a__law_limit) = true)
    {a__law_first : Addr} {oc__law_first kV__law_first dc__law_first pm__law_first cd__law_first ct__law_first : Value} {od__law_first an__law_first : Option Addr} {sl__law_first : Array (Option Value)}
    (n__law_first : PySem.W.nsIn K mainGlobals "_law_first" = some (some (.ref a__law_first))) (l__law_first : K.lookup a__law_first = some ⟨oc__law_first, od__law_first, .func (PySem.W.fnOf "_law_first" "_law_first" (defArgs s__law_first) (defBody s__law_first) (defScope s__law_first) .none kV__law_first dc__law_first pm__law_first an__law_first cd__law_first ct__law_first), sl__law_first⟩) (c__law_first : PySem.W.codeIn K cd__law_first "_law_first" = true) (k__law_first : PySem.W.keepIn K (.ref a__law_first) = true)
    {a_blocks_of : Addr} {oc_blocks_of kV_blocks_of dc_blocks_of pm_blocks_of cd_blocks_of ct_blocks_of : Value} {od_blocks_of an_blocks_of : Option Addr} {sl_blocks_of : Array (Option Value)}
    (n_blocks_of : PySem.W.nsIn K mainGlobals "blocks_of" = some (some (.ref a_blocks_of))) (l_blocks_of : K.lookup a_blocks_of = some ⟨oc_blocks_of, od_blocks_of, .func (PySem.W.fnOf "blocks_of" "blocks_of" (defArgs s_blocks_of) (defBody s_blocks_of) (defScope s_blocks_of) .none kV_blocks_of dc_blocks_of pm_blocks_of an_blocks_of cd_blocks_of ct_blocks_of), sl_blocks_of⟩) (c_blocks_of : PySem.W.codeIn K cd_blocks_of "blocks_of" = true) (k_blocks_of : PySem.W.keepIn K (.ref a_blocks_of) = true)
    {a_set_text : Addr} {oc_set_text kV_set_text dc_set_text pm_set_text cd_set_text ct_set_text : Value} {od_set_text an_set_text : Option Addr} {sl_set_text : Array (Option Value)}
    (n_set_text : PySem.W.nsIn K mainGlobals "set_text" = some (some (.ref a_set_text))) (l_set_text : K.lookup a_set_text = some ⟨oc_set_text, od_set_text, .func (PySem.W.fnOf "set_text" "set_text" (defArgs s_set_text) (defBody s_set_text) (defScope s_set_text) .none kV_set_text dc_set_text pm_set_text an_set_text cd_set_text ct_set_text), sl_set_text⟩) (c_set_text : PySem.W.codeIn K cd_set_text "set_text" = true) (k_set_text : PySem.W.keepIn K (.ref a_set_text) = true)
    {a_family_text : Addr} {oc_family_text kV_family_text dc_family_text pm_family_text cd_family_text ct_family_text : Value} {od_family_text an_family_text : Option Addr} {sl_family_text : Array (Option Value)}
    (n_family_text : PySem.W.nsIn K mainGlobals "family_text" = some (some (.ref a_family_text))) (l_family_text : K.lookup a_family_text = some ⟨oc_family_text, od_family_text, .func (PySem.W.fnOf "family_text" "family_text" (defArgs s_family_text) (defBody s_family_text) (defScope s_family_text) .none kV_family_text dc_family_text pm_family_text an_family_text cd_family_text ct_family_text), sl_family_text⟩) (c_family_text : PySem.W.codeIn K cd_family_text "family_text" = true) (k_family_text : PySem.W.keepIn K (.ref a_family_text) = true)
    {a_write_family : Addr} {oc_write_family kV_write_family dc_write_family pm_write_family cd_write_family ct_write_family : Value} {od_write_family an_write_family : Option Addr} {sl_write_family : Array (Option Value)}
    (n_write_family : PySem.W.nsIn K mainGlobals "write_family" = some (some (.ref a_write_family))) (l_write_family : K.lookup a_write_family = some ⟨oc_write_family, od_write_family, .func (PySem.W.fnOf "write_family" "write_family" (defArgs s_write_family) (defBody s_write_family) (defScope s_write_family) .none kV_write_family dc_write_family pm_write_family an_write_family cd_write_family ct_write_family), sl_write_family⟩) (c_write_family : PySem.W.codeIn K cd_write_family "write_family" = true) (k_write_family : PySem.W.keepIn K (.ref a_write_family) = true)
    {a_require_both : Addr} {oc_require_both kV_require_both dc_require_both pm_require_both cd_require_both ct_require_both : Value} {od_require_both an_require_both : Option Addr} {sl_require_both : Array (Option Value)}
    (n_require_both : PySem.W.nsIn K mainGlobals "require_both" = some (some (.ref a_require_both))) (l_require_both : K.lookup a_require_both = some ⟨oc_require_both, od_require_both, .func (PySem.W.fnOf "require_both" "require_both" (defArgs s_require_both) (defBody s_require_both) (defScope s_require_both) .none kV_require_both dc_require_both pm_require_both an_require_both cd_require_both ct_require_both), sl_require_both⟩) (c_require_both : PySem.W.codeIn K cd_require_both "require_both" = true) (k_require_both : PySem.W.keepIn K (.ref a_require_both) = true)
    {a_either : Addr} {oc_either kV_either dc_either pm_either cd_either ct_either : Value} {od_either an_either : Option Addr} {sl_either : Array (Option Value)}
    (n_either : PySem.W.nsIn K mainGlobals "either" = some (some (.ref a_either))) (l_either : K.lookup a_either = some ⟨oc_either, od_either, .func (PySem.W.fnOf "either" "either" (defArgs s_either) (defBody s_either) (defScope s_either) .none kV_either dc_either pm_either an_either cd_either ct_either), sl_either⟩) (c_either : PySem.W.codeIn K cd_either "either" = true) (k_either : PySem.W.keepIn K (.ref a_either) = true)
    {a_both : Addr} {oc_both kV_both dc_both pm_both cd_both ct_both : Value} {od_both an_both : Option Addr} {sl_both : Array (Option Value)}
    (n_both : PySem.W.nsIn K mainGlobals "both" = some (some (.ref a_both))) (l_both : K.lookup a_both = some ⟨oc_both, od_both, .func (PySem.W.fnOf "both" "both" (defArgs s_both) (defBody s_both) (defScope s_both) .none kV_both dc_both pm_both an_both cd_both ct_both), sl_both⟩) (c_both : PySem.W.codeIn K cd_both "both" = true) (k_both : PySem.W.keepIn K (.ref a_both) = true)
    {a_require_places : Addr} {oc_require_places kV_require_places dc_require_places pm_require_places cd_require_places ct_require_places : Value} {od_require_places an_require_places : Option Addr} {sl_require_places : Array (Option Value)}
    (n_require_places : PySem.W.nsIn K mainGlobals "require_places" = some (some (.ref a_require_places))) (l_require_places : K.lookup a_require_places = some ⟨oc_require_places, od_require_places, .func (PySem.W.fnOf "require_places" "require_places" (defArgs s_require_places) (defBody s_require_places) (defScope s_require_places) .none kV_require_places dc_require_places pm_require_places an_require_places cd_require_places ct_require_places), sl_require_places⟩) (c_require_places : PySem.W.codeIn K cd_require_places "require_places" = true) (k_require_places : PySem.W.keepIn K (.ref a_require_places) = true)
    {a_is_held : Addr} {oc_is_held kV_is_held dc_is_held pm_is_held cd_is_held ct_is_held : Value} {od_is_held an_is_held : Option Addr} {sl_is_held : Array (Option Value)}
    (n_is_held : PySem.W.nsIn K mainGlobals "is_held" = some (some (.ref a_is_held))) (l_is_held : K.lookup a_is_held = some ⟨oc_is_held, od_is_held, .func (PySem.W.fnOf "is_held" "is_held" (defArgs s_is_held) (defBody s_is_held) (defScope s_is_held) .none kV_is_held dc_is_held pm_is_held an_is_held cd_is_held ct_is_held), sl_is_held⟩) (c_is_held : PySem.W.codeIn K cd_is_held "is_held" = true) (k_is_held : PySem.W.keepIn K (.ref a_is_held) = true)
    {a_rest_of : Addr} {oc_rest_of kV_rest_of dc_rest_of pm_rest_of cd_rest_of ct_rest_of : Value} {od_rest_of an_rest_of : Option Addr} {sl_rest_of : Array (Option Value)}
    (n_rest_of : PySem.W.nsIn K mainGlobals "rest_of" = some (some (.ref a_rest_of))) (l_rest_of : K.lookup a_rest_of = some ⟨oc_rest_of, od_rest_of, .func (PySem.W.fnOf "rest_of" "rest_of" (defArgs s_rest_of) (defBody s_rest_of) (defScope s_rest_of) .none kV_rest_of dc_rest_of pm_rest_of an_rest_of cd_rest_of ct_rest_of), sl_rest_of⟩) (c_rest_of : PySem.W.codeIn K cd_rest_of "rest_of" = true) (k_rest_of : PySem.W.keepIn K (.ref a_rest_of) = true)
    {a_moved_family : Addr} {oc_moved_family kV_moved_family dc_moved_family pm_moved_family cd_moved_family ct_moved_family : Value} {od_moved_family an_moved_family : Option Addr} {sl_moved_family : Array (Option Value)}
    (n_moved_family : PySem.W.nsIn K mainGlobals "moved_family" = some (some (.ref a_moved_family))) (l_moved_family : K.lookup a_moved_family = some ⟨oc_moved_family, od_moved_family, .func (PySem.W.fnOf "moved_family" "moved_family" (defArgs s_moved_family) (defBody s_moved_family) (defScope s_moved_family) .none kV_moved_family dc_moved_family pm_moved_family an_moved_family cd_moved_family ct_moved_family), sl_moved_family⟩) (c_moved_family : PySem.W.codeIn K cd_moved_family "moved_family" = true) (k_moved_family : PySem.W.keepIn K (.ref a_moved_family) = true)
    {a_are_turns : Addr} {oc_are_turns kV_are_turns dc_are_turns pm_are_turns cd_are_turns ct_are_turns : Value} {od_are_turns an_are_turns : Option Addr} {sl_are_turns : Array (Option Value)}
    (n_are_turns : PySem.W.nsIn K mainGlobals "are_turns" = some (some (.ref a_are_turns))) (l_are_turns : K.lookup a_are_turns = some ⟨oc_are_turns, od_are_turns, .func (PySem.W.fnOf "are_turns" "are_turns" (defArgs s_are_turns) (defBody s_are_turns) (defScope s_are_turns) .none kV_are_turns dc_are_turns pm_are_turns an_are_turns cd_are_turns ct_are_turns), sl_are_turns⟩) (c_are_turns : PySem.W.codeIn K cd_are_turns "are_turns" = true) (k_are_turns : PySem.W.keepIn K (.ref a_are_turns) = true)
    {a_placed : Addr} {oc_placed kV_placed dc_placed pm_placed cd_placed ct_placed : Value} {od_placed an_placed : Option Addr} {sl_placed : Array (Option Value)}
    (n_placed : PySem.W.nsIn K mainGlobals "placed" = some (some (.ref a_placed))) (l_placed : K.lookup a_placed = some ⟨oc_placed, od_placed, .func (PySem.W.fnOf "placed" "placed" (defArgs s_placed) (defBody s_placed) (defScope s_placed) .none kV_placed dc_placed pm_placed an_placed cd_placed ct_placed), sl_placed⟩) (c_placed : PySem.W.codeIn K cd_placed "placed" = true) (k_placed : PySem.W.keepIn K (.ref a_placed) = true)
    {a_is_set : Addr} {oc_is_set kV_is_set dc_is_set pm_is_set cd_is_set ct_is_set : Value} {od_is_set an_is_set : Option Addr} {sl_is_set : Array (Option Value)}
    (n_is_set : PySem.W.nsIn K mainGlobals "is_set" = some (some (.ref a_is_set))) (l_is_set : K.lookup a_is_set = some ⟨oc_is_set, od_is_set, .func (PySem.W.fnOf "is_set" "is_set" (defArgs s_is_set) (defBody s_is_set) (defScope s_is_set) .none kV_is_set dc_is_set pm_is_set an_is_set cd_is_set ct_is_set), sl_is_set⟩) (c_is_set : PySem.W.codeIn K cd_is_set "is_set" = true) (k_is_set : PySem.W.keepIn K (.ref a_is_set) = true)
    {a_is_family : Addr} {oc_is_family kV_is_family dc_is_family pm_is_family cd_is_family ct_is_family : Value} {od_is_family an_is_family : Option Addr} {sl_is_family : Array (Option Value)}
    (n_is_family : PySem.W.nsIn K mainGlobals "is_family" = some (some (.ref a_is_family))) (l_is_family : K.lookup a_is_family = some ⟨oc_is_family, od_is_family, .func (PySem.W.fnOf "is_family" "is_family" (defArgs s_is_family) (defBody s_is_family) (defScope s_is_family) .none kV_is_family dc_is_family pm_is_family an_is_family cd_is_family ct_is_family), sl_is_family⟩) (c_is_family : PySem.W.codeIn K cd_is_family "is_family" = true) (k_is_family : PySem.W.keepIn K (.ref a_is_family) = true)
    {a__law_right : Addr} {oc__law_right kV__law_right dc__law_right pm__law_right cd__law_right ct__law_right : Value} {od__law_right an__law_right : Option Addr} {sl__law_right : Array (Option Value)}
    (n__law_right : PySem.W.nsIn K mainGlobals "_law_right" = some (some (.ref a__law_right))) (l__law_right : K.lookup a__law_right = some ⟨oc__law_right, od__law_right, .func (PySem.W.fnOf "_law_right" "_law_right" (defArgs s__law_right) (defBody s__law_right) (defScope s__law_right) .none kV__law_right dc__law_right pm__law_right an__law_right cd__law_right ct__law_right), sl__law_right⟩) (c__law_right : PySem.W.codeIn K cd__law_right "_law_right" = true) (k__law_right : PySem.W.keepIn K (.ref a__law_right) = true)
    {a_least_of : Addr} {oc_least_of kV_least_of dc_least_of pm_least_of cd_least_of ct_least_of : Value} {od_least_of an_least_of : Option Addr} {sl_least_of : Array (Option Value)}
    (n_least_of : PySem.W.nsIn K mainGlobals "least_of" = some (some (.ref a_least_of))) (l_least_of : K.lookup a_least_of = some ⟨oc_least_of, od_least_of, .func (PySem.W.fnOf "least_of" "least_of" (defArgs s_least_of) (defBody s_least_of) (defScope s_least_of) .none kV_least_of dc_least_of pm_least_of an_least_of cd_least_of ct_least_of), sl_least_of⟩) (c_least_of : PySem.W.codeIn K cd_least_of "least_of" = true) (k_least_of : PySem.W.keepIn K (.ref a_least_of) = true)
    {a_set_in : Addr} {oc_set_in kV_set_in dc_set_in pm_set_in cd_set_in ct_set_in : Value} {od_set_in an_set_in : Option Addr} {sl_set_in : Array (Option Value)}
    (n_set_in : PySem.W.nsIn K mainGlobals "set_in" = some (some (.ref a_set_in))) (l_set_in : K.lookup a_set_in = some ⟨oc_set_in, od_set_in, .func (PySem.W.fnOf "set_in" "set_in" (defArgs s_set_in) (defBody s_set_in) (defScope s_set_in) .none kV_set_in dc_set_in pm_set_in an_set_in cd_set_in ct_set_in), sl_set_in⟩) (c_set_in : PySem.W.codeIn K cd_set_in "set_in" = true) (k_set_in : PySem.W.keepIn K (.ref a_set_in) = true)
    {a_family_in : Addr} {oc_family_in kV_family_in dc_family_in pm_family_in cd_family_in ct_family_in : Value} {od_family_in an_family_in : Option Addr} {sl_family_in : Array (Option Value)}
    (n_family_in : PySem.W.nsIn K mainGlobals "family_in" = some (some (.ref a_family_in))) (l_family_in : K.lookup a_family_in = some ⟨oc_family_in, od_family_in, .func (PySem.W.fnOf "family_in" "family_in" (defArgs s_family_in) (defBody s_family_in) (defScope s_family_in) .none kV_family_in dc_family_in pm_family_in an_family_in cd_family_in ct_family_in), sl_family_in⟩) (c_family_in : PySem.W.codeIn K cd_family_in "family_in" = true) (k_family_in : PySem.W.keepIn K (.ref a_family_in) = true)
    {a_read_family : Addr} {oc_read_family kV_read_family dc_read_family pm_read_family cd_read_family ct_read_family : Value} {od_read_family an_read_family : Option Addr} {sl_read_family : Array (Option Value)}
    (n_read_family : PySem.W.nsIn K mainGlobals "read_family" = some (some (.ref a_read_family))) (l_read_family : K.lookup a_read_family = some ⟨oc_read_family, od_read_family, .func (PySem.W.fnOf "read_family" "read_family" (defArgs s_read_family) (defBody s_read_family) (defScope s_read_family) .none kV_read_family dc_read_family pm_read_family an_read_family cd_read_family ct_read_family), sl_read_family⟩) (c_read_family : PySem.W.codeIn K cd_read_family "read_family" = true) (k_read_family : PySem.W.keepIn K (.ref a_read_family) = true)
    {a__law_others_right : Addr} {oc__law_others_right kV__law_others_right dc__law_others_right pm__law_others_right cd__law_others_right ct__law_others_right : Value} {od__law_others_right an__law_others_right : Option Addr} {sl__law_others_right : Array (Option Value)}
    (n__law_others_right : PySem.W.nsIn K mainGlobals "_law_others_right" = some (some (.ref a__law_others_right))) (l__law_others_right : K.lookup a__law_others_right = some ⟨oc__law_others_right, od__law_others_right, .func (PySem.W.fnOf "_law_others_right" "_law_others_right" (defArgs s__law_others_right) (defBody s__law_others_right) (defScope s__law_others_right) .none kV__law_others_right dc__law_others_right pm__law_others_right an__law_others_right cd__law_others_right ct__law_others_right), sl__law_others_right⟩) (c__law_others_right : PySem.W.codeIn K cd__law_others_right "_law_others_right" = true) (k__law_others_right : PySem.W.keepIn K (.ref a__law_others_right) = true)
    {a_law : Addr} {oc_law kV_law dc_law pm_law cd_law ct_law : Value} {od_law an_law : Option Addr} {sl_law : Array (Option Value)}
    (n_law : PySem.W.nsIn K mainGlobals "law" = some (some (.ref a_law))) (l_law : K.lookup a_law = some ⟨oc_law, od_law, .func (PySem.W.fnOf "law" "law" (defArgs s_law) (defBody s_law) (defScope s_law) .none kV_law dc_law pm_law an_law cd_law ct_law), sl_law⟩) (c_law : PySem.W.codeIn K cd_law "law" = true) (k_law : PySem.W.keepIn K (.ref a_law) = true)
    {tk_BLANK : Tok} (g_BLANK : PySem.W.nsIn K mainGlobals "BLANK" = some (some (.str c_BLANK tk_BLANK)))
    {tk_FIGURES : Tok} (g_FIGURES : PySem.W.nsIn K mainGlobals "FIGURES" = some (some (.str c_FIGURES tk_FIGURES)))
    {tk_LIMIT : Tok} (g_LIMIT : PySem.W.nsIn K mainGlobals "LIMIT" = some (some (.int c_LIMIT tk_LIMIT)))
    {tk_MAX_WIDTH : Tok} (g_MAX_WIDTH : PySem.W.nsIn K mainGlobals "MAX_WIDTH" = some (some (.int c_MAX_WIDTH tk_MAX_WIDTH)))
    {tk_MIN_WIDTH : Tok} (g_MIN_WIDTH : PySem.W.nsIn K mainGlobals "MIN_WIDTH" = some (some (.int c_MIN_WIDTH tk_MIN_WIDTH)))
    (z_abs : PySem.W.nsIn K mainGlobals "abs" = some none)
    (z_all : PySem.W.nsIn K mainGlobals "all" = some none)
    (z_any : PySem.W.nsIn K mainGlobals "any" = some none)
    (z_bool : PySem.W.nsIn K mainGlobals "bool" = some none)
    (z_int : PySem.W.nsIn K mainGlobals "int" = some none)
    (z_isinstance : PySem.W.nsIn K mainGlobals "isinstance" = some none)
    (z_len : PySem.W.nsIn K mainGlobals "len" = some none)
    (z_max : PySem.W.nsIn K mainGlobals "max" = some none)
    (z_min : PySem.W.nsIn K mainGlobals "min" = some none)
    (z_range : PySem.W.nsIn K mainGlobals "range" = some none)
    (z_repr : PySem.W.nsIn K mainGlobals "repr" = some none)
    (z_set : PySem.W.nsIn K mainGlobals "set" = some none)
    (z_sorted : PySem.W.nsIn K mainGlobals "sorted" = some none)
    (z_str : PySem.W.nsIn K mainGlobals "str" = some none)
    (z_tuple : PySem.W.nsIn K mainGlobals "tuple" = some none)
    (z_zip : PySem.W.nsIn K mainGlobals "zip" = some none)
    {c_InvalidNumber : Addr} (g_InvalidNumber : PySem.W.nsIn K mainGlobals "InvalidNumber" = some (some (.ref c_InvalidNumber)))
    {fI_InvalidNumber : Addr} (i_InvalidNumber : PySem.W.findIn K (.ref c_InvalidNumber) "__init__" = some (some (.ref fI_InvalidNumber)))
    {oc_InvalidNumber kV_InvalidNumber dc_InvalidNumber pm_InvalidNumber cd_InvalidNumber ct_InvalidNumber : Value} {od_InvalidNumber an_InvalidNumber : Option Addr} {sl_InvalidNumber : Array (Option Value)}
    (l_InvalidNumber : K.lookup fI_InvalidNumber = some ⟨oc_InvalidNumber, od_InvalidNumber, .func (PySem.W.fnOf "__init__" "InvalidNumber.__init__" (defArgs s_InvalidNumber__init__) (defBody s_InvalidNumber__init__) (defScope s_InvalidNumber__init__) .none kV_InvalidNumber dc_InvalidNumber pm_InvalidNumber an_InvalidNumber cd_InvalidNumber ct_InvalidNumber), sl_InvalidNumber⟩) (cc_InvalidNumber : PySem.W.codeIn K cd_InvalidNumber "InvalidNumber.__init__" = true) (kk_InvalidNumber : PySem.W.keepIn K (.ref fI_InvalidNumber) = true)
    (k_InvalidNumber : PySem.W.keepIn K (.ref c_InvalidNumber) = true)
    (b_InvalidNumber : PySem.W.subIn K (.ref c_InvalidNumber) (.type "BaseException") = some true)
    (y_InvalidNumber : PySem.W.typeIn K (.ref c_InvalidNumber) = some (.type "type"))
    (q_InvalidNumber : PySem.W.excInitIn K c_InvalidNumber [.type "IndexError", .type "LookupError", .type "Exception", .type "BaseException", .type "object"] "IndexError.__new__" = true)
    (o_InvalidNumber : PySem.W.excOver K c_InvalidNumber [.type "IndexError", .type "LookupError", .type "Exception", .type "BaseException", .type "object"] = true)
    (s_InvalidNumber : PySem.W.findIn K (.ref c_InvalidNumber) "__setattr__" = some (some (.builtin "object.__setattr__")))
    (tk_InvalidNumber : PySem.W.takerIn K c_InvalidNumber "value" = some none)
    (hd_InvalidNumber : PySem.W.hasDictIn K c_InvalidNumber = true)
    (ti_InvalidNumber : PySem.W.typeIn K (.ref fI_InvalidNumber) = some (.type "function"))
    (ga_InvalidNumber : PySem.W.findIn K (.ref c_InvalidNumber) "__getattribute__" = some (some (.builtin "BaseException.__getattribute__")))
    (gg_InvalidNumber : PySem.W.findIn K (.ref c_InvalidNumber) "__getattr__" = some none)
    (no_InvalidNumber : PySem.W.findIn K (.ref c_InvalidNumber) "value" = some none)
    {c_InvalidOperation : Addr} (g_InvalidOperation : PySem.W.nsIn K mainGlobals "InvalidOperation" = some (some (.ref c_InvalidOperation)))
    (k_InvalidOperation : PySem.W.keepIn K (.ref c_InvalidOperation) = true)
    (b_InvalidOperation : PySem.W.subIn K (.ref c_InvalidOperation) (.type "BaseException") = some true)
    (y_InvalidOperation : PySem.W.typeIn K (.ref c_InvalidOperation) = some (.type "type"))
    (x_InvalidOperation : PySem.W.excIn K c_InvalidOperation [.type "ValueError", .type "Exception", .type "BaseException", .type "object"] "ValueError.__new__" = true)
    {c_InvalidSet : Addr} (g_InvalidSet : PySem.W.nsIn K mainGlobals "InvalidSet" = some (some (.ref c_InvalidSet)))
    (k_InvalidSet : PySem.W.keepIn K (.ref c_InvalidSet) = true)
    (b_InvalidSet : PySem.W.subIn K (.ref c_InvalidSet) (.type "BaseException") = some true)
    (y_InvalidSet : PySem.W.typeIn K (.ref c_InvalidSet) = some (.type "type"))
    (x_InvalidSet : PySem.W.excIn K c_InvalidSet [.type "ValueError", .type "Exception", .type "BaseException", .type "object"] "ValueError.__new__" = true)
    {c_ParseError : Addr} (g_ParseError : PySem.W.nsIn K mainGlobals "ParseError" = some (some (.ref c_ParseError)))
    {fI_ParseError : Addr} (i_ParseError : PySem.W.findIn K (.ref c_ParseError) "__init__" = some (some (.ref fI_ParseError)))
    {oc_ParseError kV_ParseError dc_ParseError pm_ParseError cd_ParseError ct_ParseError : Value} {od_ParseError an_ParseError : Option Addr} {sl_ParseError : Array (Option Value)}
    (l_ParseError : K.lookup fI_ParseError = some ⟨oc_ParseError, od_ParseError, .func (PySem.W.fnOf "__init__" "ParseError.__init__" (defArgs s_ParseError__init__) (defBody s_ParseError__init__) (defScope s_ParseError__init__) .none kV_ParseError dc_ParseError pm_ParseError an_ParseError cd_ParseError ct_ParseError), sl_ParseError⟩) (cc_ParseError : PySem.W.codeIn K cd_ParseError "ParseError.__init__" = true) (kk_ParseError : PySem.W.keepIn K (.ref fI_ParseError) = true)
    (k_ParseError : PySem.W.keepIn K (.ref c_ParseError) = true)
    (b_ParseError : PySem.W.subIn K (.ref c_ParseError) (.type "BaseException") = some true)
    (y_ParseError : PySem.W.typeIn K (.ref c_ParseError) = some (.type "type"))
    (q_ParseError : PySem.W.excInitIn K c_ParseError [.type "ValueError", .type "Exception", .type "BaseException", .type "object"] "ValueError.__new__" = true)
    (o_ParseError : PySem.W.excOver K c_ParseError [.type "ValueError", .type "Exception", .type "BaseException", .type "object"] = true)
    (s_ParseError : PySem.W.findIn K (.ref c_ParseError) "__setattr__" = some (some (.builtin "object.__setattr__")))
    (tk_ParseError : PySem.W.takerIn K c_ParseError "number" = some none)
    (hd_ParseError : PySem.W.hasDictIn K c_ParseError = true)
    (ti_ParseError : PySem.W.typeIn K (.ref fI_ParseError) = some (.type "function"))
    (ga_ParseError : PySem.W.findIn K (.ref c_ParseError) "__getattribute__" = some (some (.builtin "BaseException.__getattribute__")))
    (gg_ParseError : PySem.W.findIn K (.ref c_ParseError) "__getattr__" = some none)
    (no_ParseError : PySem.W.findIn K (.ref c_ParseError) "number" = some none)
    (m_InvalidNumber_ParseError : PySem.W.exmOne K (.ref c_InvalidNumber) (.ref c_ParseError) = some false)
    (m_InvalidNumber_InvalidOperation : PySem.W.exmOne K (.ref c_InvalidNumber) (.ref c_InvalidOperation) = some false)
    (m_InvalidNumber_InvalidSet : PySem.W.exmOne K (.ref c_InvalidNumber) (.ref c_InvalidSet) = some false)
    (m_InvalidNumber_InvalidNumber : PySem.W.exmOne K (.ref c_InvalidNumber) (.ref c_InvalidNumber) = some true)
    (m_InvalidSet_ParseError : PySem.W.exmOne K (.ref c_InvalidSet) (.ref c_ParseError) = some false)
    (m_InvalidSet_InvalidOperation : PySem.W.exmOne K (.ref c_InvalidSet) (.ref c_InvalidOperation) = some false)
    (m_InvalidSet_InvalidSet : PySem.W.exmOne K (.ref c_InvalidSet) (.ref c_InvalidSet) = some true)
    (m_InvalidSet_InvalidNumber : PySem.W.exmOne K (.ref c_InvalidSet) (.ref c_InvalidNumber) = some false)
    (m_InvalidOperation_ParseError : PySem.W.exmOne K (.ref c_InvalidOperation) (.ref c_ParseError) = some false)
    (m_InvalidOperation_InvalidOperation : PySem.W.exmOne K (.ref c_InvalidOperation) (.ref c_InvalidOperation) = some true)
    (m_InvalidOperation_InvalidSet : PySem.W.exmOne K (.ref c_InvalidOperation) (.ref c_InvalidSet) = some false)
    (m_InvalidOperation_InvalidNumber : PySem.W.exmOne K (.ref c_InvalidOperation) (.ref c_InvalidNumber) = some false)
    (m_ParseError_ParseError : PySem.W.exmOne K (.ref c_ParseError) (.ref c_ParseError) = some true)
    (m_ParseError_InvalidOperation : PySem.W.exmOne K (.ref c_ParseError) (.ref c_InvalidOperation) = some false)
    (m_ParseError_InvalidSet : PySem.W.exmOne K (.ref c_ParseError) (.ref c_InvalidSet) = some false)
    (m_ParseError_InvalidNumber : PySem.W.exmOne K (.ref c_ParseError) (.ref c_InvalidNumber) = some false)
    {cc__law_right P__law_right : Addr} (hc__law_right : cd__law_right = .ref cc__law_right) {o2__law_right : Value} {d2__law_right : Option Addr} {s2__law_right : Array (Option Value)} {vs__law_right : Array Value} (lk__law_right : K.lookup cc__law_right = some ⟨o2__law_right, d2__law_right, .fields vs__law_right, s2__law_right⟩) (vp__law_right : vs__law_right[11]? = some (.ref P__law_right))
    {cc__law_others_right P__law_others_right : Addr} (hc__law_others_right : cd__law_others_right = .ref cc__law_others_right) {o2__law_others_right : Value} {d2__law_others_right : Option Addr} {s2__law_others_right : Array (Option Value)} {vs__law_others_right : Array Value} (lk__law_others_right : K.lookup cc__law_others_right = some ⟨o2__law_others_right, d2__law_others_right, .fields vs__law_others_right, s2__law_others_right⟩) (vp__law_others_right : vs__law_others_right[11]? = some (.ref P__law_others_right))
    {cc_law P_law : Addr} (hc_law : cd_law = .ref cc_law) {o2_law : Value} {d2_law : Option Addr} {s2_law : Array (Option Value)} {vs_law : Array Value} (lk_law : K.lookup cc_law = some ⟨o2_law, d2_law, .fields vs_law, s2_law⟩) (vp_law : vs_law[11]? = some (.ref P_law)) : ∃ t : Tx K mg, t.cd__law_right = cc__law_right ∧ t.P__law_right = P__law_right ∧ t.cd__law_others_right = cc__law_others_right ∧ t.P__law_others_right = P__law_others_right ∧ t.cd_law = cc_law ∧ t.P_law = P_law ∧ t.a_law = a_law ∧ t.f_law = PySem.W.fnOf "law" "law" (defArgs s_law) (defBody s_law) (defScope s_law) .none kV_law dc_law pm_law an_law cd_law ct_law :=
  ⟨{
    a__law_dice := a__law_dice, f__law_dice := _, d__law_dice := ⟨PySem.W.mg_of X G n__law_dice, fun_mk (st := s__law_dice) l__law_dice c__law_dice k__law_dice, (fun_mk (st := s__law_dice) l__law_dice c__law_dice k__law_dice).binds fun _ _ _ _ _ _ us hl => match us, hl with | [_, _], _ => rfl⟩,
    a__law_met := a__law_met, f__law_met := _, d__law_met := ⟨PySem.W.mg_of X G n__law_met, fun_mk (st := s__law_met) l__law_met c__law_met k__law_met, (fun_mk (st := s__law_met) l__law_met c__law_met k__law_met).binds fun _ _ _ _ _ _ us hl => match us, hl with | [_], _ => rfl⟩,
    a_is_integer := a_is_integer, f_is_integer := _, d_is_integer := ⟨PySem.W.mg_of X G n_is_integer, fun_mk (st := s_is_integer) l_is_integer c_is_integer k_is_integer, (fun_mk (st := s_is_integer) l_is_integer c_is_integer k_is_integer).binds fun _ _ _ _ _ _ us hl => match us, hl with | [_], _ => rfl⟩,
    a_is_count := a_is_count, f_is_count := _, d_is_count := ⟨PySem.W.mg_of X G n_is_count, fun_mk (st := s_is_count) l_is_count c_is_count k_is_count, (fun_mk (st := s_is_count) l_is_count c_is_count k_is_count).binds fun _ _ _ _ _ _ us hl => match us, hl with | [_], _ => rfl⟩,
    a_is_width := a_is_width, f_is_width := _, d_is_width := ⟨PySem.W.mg_of X G n_is_width, fun_mk (st := s_is_width) l_is_width c_is_width k_is_width, (fun_mk (st := s_is_width) l_is_width c_is_width k_is_width).binds fun _ _ _ _ _ _ us hl => match us, hl with | [_], _ => rfl⟩,
    a_require_width := a_require_width, f_require_width := _, d_require_width := ⟨PySem.W.mg_of X G n_require_width, fun_mk (st := s_require_width) l_require_width c_require_width k_require_width, (fun_mk (st := s_require_width) l_require_width c_require_width k_require_width).binds fun _ _ _ _ _ _ us hl => match us, hl with | [_], _ => rfl⟩,
    a_contains := a_contains, f_contains := _, d_contains := ⟨PySem.W.mg_of X G n_contains, fun_mk (st := s_contains) l_contains c_contains k_contains, (fun_mk (st := s_contains) l_contains c_contains k_contains).binds fun _ _ _ _ _ _ us hl => match us, hl with | [_, _], _ => rfl⟩,
    a_are_least := a_are_least, f_are_least := _, d_are_least := ⟨PySem.W.mg_of X G n_are_least, fun_mk (st := s_are_least) l_are_least c_are_least k_are_least, (fun_mk (st := s_are_least) l_are_least c_are_least k_are_least).binds fun _ _ _ _ _ _ us hl => match us, hl with | [_], _ => rfl⟩,
    a_are_places := a_are_places, f_are_places := _, d_are_places := ⟨PySem.W.mg_of X G n_are_places, fun_mk (st := s_are_places) l_are_places c_are_places k_are_places, (fun_mk (st := s_are_places) l_are_places c_are_places k_are_places).binds fun _ _ _ _ _ _ us hl => match us, hl with | [_, _], _ => rfl⟩,
    a_is_set_of := a_is_set_of, f_is_set_of := _, d_is_set_of := ⟨PySem.W.mg_of X G n_is_set_of, fun_mk (st := s_is_set_of) l_is_set_of c_is_set_of k_is_set_of, (fun_mk (st := s_is_set_of) l_is_set_of c_is_set_of k_is_set_of).binds fun _ _ _ _ _ _ us hl => match us, hl with | [_, _], _ => rfl⟩,
    a_is_family_of := a_is_family_of, f_is_family_of := _, d_is_family_of := ⟨PySem.W.mg_of X G n_is_family_of, fun_mk (st := s_is_family_of) l_is_family_of c_is_family_of k_is_family_of, (fun_mk (st := s_is_family_of) l_is_family_of c_is_family_of k_is_family_of).binds fun _ _ _ _ _ _ us hl => match us, hl with | [_, _], _ => rfl⟩,
    a_require_family := a_require_family, f_require_family := _, d_require_family := ⟨PySem.W.mg_of X G n_require_family, fun_mk (st := s_require_family) l_require_family c_require_family k_require_family, (fun_mk (st := s_require_family) l_require_family c_require_family k_require_family).binds fun _ _ _ _ _ _ us hl => match us, hl with | [_, _], _ => rfl⟩,
    a_least_in := a_least_in, f_least_in := _, d_least_in := ⟨PySem.W.mg_of X G n_least_in, fun_mk (st := s_least_in) l_least_in c_least_in k_least_in, (fun_mk (st := s_least_in) l_least_in c_least_in k_least_in).binds fun _ _ _ _ _ _ us hl => match us, hl with | [_], _ => rfl⟩,
    a_do_meet := a_do_meet, f_do_meet := _, d_do_meet := ⟨PySem.W.mg_of X G n_do_meet, fun_mk (st := s_do_meet) l_do_meet c_do_meet k_do_meet, (fun_mk (st := s_do_meet) l_do_meet c_do_meet k_do_meet).binds fun _ _ _ _ _ _ us hl => match us, hl with | [_, _], _ => rfl⟩,
    a_all_sets := a_all_sets, f_all_sets := _, d_all_sets := ⟨PySem.W.mg_of X G n_all_sets, fun_mk (st := s_all_sets) l_all_sets c_all_sets k_all_sets, (fun_mk (st := s_all_sets) l_all_sets c_all_sets k_all_sets).binds fun _ _ _ _ _ _ us hl => match us, hl with | [_], _ => rfl⟩,
    a_dual_family := a_dual_family, f_dual_family := _, d_dual_family := ⟨PySem.W.mg_of X G n_dual_family, fun_mk (st := s_dual_family) l_dual_family c_dual_family k_dual_family, (fun_mk (st := s_dual_family) l_dual_family c_dual_family k_dual_family).binds fun _ _ _ _ _ _ us hl => match us, hl with | [_, _], _ => rfl⟩,
    a_holds_one := a_holds_one, f_holds_one := _, d_holds_one := ⟨PySem.W.mg_of X G n_holds_one, fun_mk (st := s_holds_one) l_holds_one c_holds_one k_holds_one, (fun_mk (st := s_holds_one) l_holds_one c_holds_one k_holds_one).binds fun _ _ _ _ _ _ us hl => match us, hl with | [_, _], _ => rfl⟩,
    a_completed := a_completed, f_completed := _, d_completed := ⟨PySem.W.mg_of X G n_completed, fun_mk (st := s_completed) l_completed c_completed k_completed, (fun_mk (st := s_completed) l_completed c_completed k_completed).binds fun _ _ _ _ _ _ us hl => match us, hl with | [_, _], _ => rfl⟩,
    a__law_roll := a__law_roll, f__law_roll := _, d__law_roll := ⟨PySem.W.mg_of X G n__law_roll, fun_mk (st := s__law_roll) l__law_roll c__law_roll k__law_roll, (fun_mk (st := s__law_roll) l__law_roll c__law_roll k__law_roll).binds fun _ _ _ _ _ _ us hl => match us, hl with | [_, _], _ => rfl⟩,
    a__law_pick := a__law_pick, f__law_pick := _, d__law_pick := ⟨PySem.W.mg_of X G n__law_pick, fun_mk (st := s__law_pick) l__law_pick c__law_pick k__law_pick, (fun_mk (st := s__law_pick) l__law_pick c__law_pick k__law_pick).binds fun _ _ _ _ _ _ us hl => match us, hl with | [_, _], _ => rfl⟩,
    a__law_limit := a__law_limit, f__law_limit := _, d__law_limit := ⟨PySem.W.mg_of X G n__law_limit, fun_mk (st := s__law_limit) l__law_limit c__law_limit k__law_limit, (fun_mk (st := s__law_limit) l__law_limit c__law_limit k__law_limit).binds fun _ _ _ _ _ _ us hl => match us, hl with | [], _ => rfl⟩,
    a__law_first := a__law_first, f__law_first := _, d__law_first := ⟨PySem.W.mg_of X G n__law_first, fun_mk (st := s__law_first) l__law_first c__law_first k__law_first, (fun_mk (st := s__law_first) l__law_first c__law_first k__law_first).binds fun _ _ _ _ _ _ us hl => match us, hl with | [_], _ => rfl⟩,
    a_blocks_of := a_blocks_of, f_blocks_of := _, d_blocks_of := ⟨PySem.W.mg_of X G n_blocks_of, fun_mk (st := s_blocks_of) l_blocks_of c_blocks_of k_blocks_of, (fun_mk (st := s_blocks_of) l_blocks_of c_blocks_of k_blocks_of).binds fun _ _ _ _ _ _ us hl => match us, hl with | [_, _], _ => rfl⟩,
    a_set_text := a_set_text, f_set_text := _, d_set_text := ⟨PySem.W.mg_of X G n_set_text, fun_mk (st := s_set_text) l_set_text c_set_text k_set_text, (fun_mk (st := s_set_text) l_set_text c_set_text k_set_text).binds fun _ _ _ _ _ _ us hl => match us, hl with | [_], _ => rfl⟩,
    a_family_text := a_family_text, f_family_text := _, d_family_text := ⟨PySem.W.mg_of X G n_family_text, fun_mk (st := s_family_text) l_family_text c_family_text k_family_text, (fun_mk (st := s_family_text) l_family_text c_family_text k_family_text).binds fun _ _ _ _ _ _ us hl => match us, hl with | [_], _ => rfl⟩,
    a_write_family := a_write_family, f_write_family := _, d_write_family := ⟨PySem.W.mg_of X G n_write_family, fun_mk (st := s_write_family) l_write_family c_write_family k_write_family, (fun_mk (st := s_write_family) l_write_family c_write_family k_write_family).binds fun _ _ _ _ _ _ us hl => match us, hl with | [_, _], _ => rfl⟩,
    a_require_both := a_require_both, f_require_both := _, d_require_both := ⟨PySem.W.mg_of X G n_require_both, fun_mk (st := s_require_both) l_require_both c_require_both k_require_both, (fun_mk (st := s_require_both) l_require_both c_require_both k_require_both).binds fun _ _ _ _ _ _ us hl => match us, hl with | [_, _, _], _ => rfl⟩,
    a_either := a_either, f_either := _, d_either := ⟨PySem.W.mg_of X G n_either, fun_mk (st := s_either) l_either c_either k_either, (fun_mk (st := s_either) l_either c_either k_either).binds fun _ _ _ _ _ _ us hl => match us, hl with | [_, _, _], _ => rfl⟩,
    a_both := a_both, f_both := _, d_both := ⟨PySem.W.mg_of X G n_both, fun_mk (st := s_both) l_both c_both k_both, (fun_mk (st := s_both) l_both c_both k_both).binds fun _ _ _ _ _ _ us hl => match us, hl with | [_, _, _], _ => rfl⟩,
    a_require_places := a_require_places, f_require_places := _, d_require_places := ⟨PySem.W.mg_of X G n_require_places, fun_mk (st := s_require_places) l_require_places c_require_places k_require_places, (fun_mk (st := s_require_places) l_require_places c_require_places k_require_places).binds fun _ _ _ _ _ _ us hl => match us, hl with | [_, _], _ => rfl⟩,
    a_is_held := a_is_held, f_is_held := _, d_is_held := ⟨PySem.W.mg_of X G n_is_held, fun_mk (st := s_is_held) l_is_held c_is_held k_is_held, (fun_mk (st := s_is_held) l_is_held c_is_held k_is_held).binds fun _ _ _ _ _ _ us hl => match us, hl with | [_, _, _], _ => rfl⟩,
    a_rest_of := a_rest_of, f_rest_of := _, d_rest_of := ⟨PySem.W.mg_of X G n_rest_of, fun_mk (st := s_rest_of) l_rest_of c_rest_of k_rest_of, (fun_mk (st := s_rest_of) l_rest_of c_rest_of k_rest_of).binds fun _ _ _ _ _ _ us hl => match us, hl with | [_, _], _ => rfl⟩,
    a_moved_family := a_moved_family, f_moved_family := _, d_moved_family := ⟨PySem.W.mg_of X G n_moved_family, fun_mk (st := s_moved_family) l_moved_family c_moved_family k_moved_family, (fun_mk (st := s_moved_family) l_moved_family c_moved_family k_moved_family).binds fun _ _ _ _ _ _ us hl => match us, hl with | [_, _], _ => rfl⟩,
    a_are_turns := a_are_turns, f_are_turns := _, d_are_turns := ⟨PySem.W.mg_of X G n_are_turns, fun_mk (st := s_are_turns) l_are_turns c_are_turns k_are_turns, (fun_mk (st := s_are_turns) l_are_turns c_are_turns k_are_turns).binds fun _ _ _ _ _ _ us hl => match us, hl with | [_, _], _ => rfl⟩,
    a_placed := a_placed, f_placed := _, d_placed := ⟨PySem.W.mg_of X G n_placed, fun_mk (st := s_placed) l_placed c_placed k_placed, (fun_mk (st := s_placed) l_placed c_placed k_placed).binds fun _ _ _ _ _ _ us hl => match us, hl with | [_, _, _], _ => rfl⟩,
    a_is_set := a_is_set, f_is_set := _, d_is_set := ⟨PySem.W.mg_of X G n_is_set, fun_mk (st := s_is_set) l_is_set c_is_set k_is_set, (fun_mk (st := s_is_set) l_is_set c_is_set k_is_set).binds fun _ _ _ _ _ _ us hl => match us, hl with | [_, _], _ => rfl⟩,
    a_is_family := a_is_family, f_is_family := _, d_is_family := ⟨PySem.W.mg_of X G n_is_family, fun_mk (st := s_is_family) l_is_family c_is_family k_is_family, (fun_mk (st := s_is_family) l_is_family c_is_family k_is_family).binds fun _ _ _ _ _ _ us hl => match us, hl with | [_, _], _ => rfl⟩,
    a__law_right := a__law_right, f__law_right := _, d__law_right := ⟨PySem.W.mg_of X G n__law_right, fun_mk (st := s__law_right) l__law_right c__law_right k__law_right, (fun_mk (st := s__law_right) l__law_right c__law_right k__law_right).binds fun _ _ _ _ _ _ us hl => match us, hl with | [_], _ => rfl⟩,
    a_least_of := a_least_of, f_least_of := _, d_least_of := ⟨PySem.W.mg_of X G n_least_of, fun_mk (st := s_least_of) l_least_of c_least_of k_least_of, (fun_mk (st := s_least_of) l_least_of c_least_of k_least_of).binds fun _ _ _ _ _ _ us hl => match us, hl with | [_, _], _ => rfl⟩,
    a_set_in := a_set_in, f_set_in := _, d_set_in := ⟨PySem.W.mg_of X G n_set_in, fun_mk (st := s_set_in) l_set_in c_set_in k_set_in, (fun_mk (st := s_set_in) l_set_in c_set_in k_set_in).binds fun _ _ _ _ _ _ us hl => match us, hl with | [_], _ => rfl⟩,
    a_family_in := a_family_in, f_family_in := _, d_family_in := ⟨PySem.W.mg_of X G n_family_in, fun_mk (st := s_family_in) l_family_in c_family_in k_family_in, (fun_mk (st := s_family_in) l_family_in c_family_in k_family_in).binds fun _ _ _ _ _ _ us hl => match us, hl with | [_, _], _ => rfl⟩,
    a_read_family := a_read_family, f_read_family := _, d_read_family := ⟨PySem.W.mg_of X G n_read_family, fun_mk (st := s_read_family) l_read_family c_read_family k_read_family, (fun_mk (st := s_read_family) l_read_family c_read_family k_read_family).binds fun _ _ _ _ _ _ us hl => match us, hl with | [_, _], _ => rfl⟩,
    a__law_others_right := a__law_others_right, f__law_others_right := _, d__law_others_right := ⟨PySem.W.mg_of X G n__law_others_right, fun_mk (st := s__law_others_right) l__law_others_right c__law_others_right k__law_others_right, (fun_mk (st := s__law_others_right) l__law_others_right c__law_others_right k__law_others_right).binds fun _ _ _ _ _ _ us hl => match us, hl with | [_], _ => rfl⟩,
    a_law := a_law, f_law := _, d_law := ⟨PySem.W.mg_of X G n_law, fun_mk (st := s_law) l_law c_law k_law, (fun_mk (st := s_law) l_law c_law k_law).binds fun _ _ _ _ _ _ us hl => match us, hl with | [_], _ => rfl⟩,
    g_BLANK := ⟨_, PySem.W.mg_of X G g_BLANK⟩,
    g_FIGURES := ⟨_, PySem.W.mg_of X G g_FIGURES⟩,
    g_LIMIT := ⟨_, PySem.W.mg_of X G g_LIMIT⟩,
    g_MAX_WIDTH := ⟨_, PySem.W.mg_of X G g_MAX_WIDTH⟩,
    g_MIN_WIDTH := ⟨_, PySem.W.mg_of X G g_MIN_WIDTH⟩,
    n_abs := PySem.W.mg_none_of X G z_abs,
    n_all := PySem.W.mg_none_of X G z_all,
    n_any := PySem.W.mg_none_of X G z_any,
    n_bool := PySem.W.mg_none_of X G z_bool,
    n_int := PySem.W.mg_none_of X G z_int,
    n_isinstance := PySem.W.mg_none_of X G z_isinstance,
    n_len := PySem.W.mg_none_of X G z_len,
    n_max := PySem.W.mg_none_of X G z_max,
    n_min := PySem.W.mg_none_of X G z_min,
    n_range := PySem.W.mg_none_of X G z_range,
    n_repr := PySem.W.mg_none_of X G z_repr,
    n_set := PySem.W.mg_none_of X G z_set,
    n_sorted := PySem.W.mg_none_of X G z_sorted,
    n_str := PySem.W.mg_none_of X G z_str,
    n_tuple := PySem.W.mg_none_of X G z_tuple,
    n_zip := PySem.W.mg_none_of X G z_zip,
    c_InvalidNumber := c_InvalidNumber, g_InvalidNumber := PySem.W.mg_of X G g_InvalidNumber,
    fI_InvalidNumber := fI_InvalidNumber, ff_InvalidNumber := _, fn_InvalidNumber := (fun_mk (st := s_InvalidNumber__init__) l_InvalidNumber cc_InvalidNumber kk_InvalidNumber), bi_InvalidNumber := (fun_mk (st := s_InvalidNumber__init__) l_InvalidNumber cc_InvalidNumber kk_InvalidNumber).binds fun _ _ _ _ _ _ us hl => match us, hl with | [_, _], _ => rfl,
    c_InvalidOperation := c_InvalidOperation, g_InvalidOperation := PySem.W.mg_of X G g_InvalidOperation,
    c_InvalidSet := c_InvalidSet, g_InvalidSet := PySem.W.mg_of X G g_InvalidSet,
    c_ParseError := c_ParseError, g_ParseError := PySem.W.mg_of X G g_ParseError,
    fI_ParseError := fI_ParseError, ff_ParseError := _, fn_ParseError := (fun_mk (st := s_ParseError__init__) l_ParseError cc_ParseError kk_ParseError), bi_ParseError := (fun_mk (st := s_ParseError__init__) l_ParseError cc_ParseError kk_ParseError).binds fun _ _ _ _ _ _ us hl => match us, hl with | [_, _], _ => rfl,
    k_InvalidNumber := k_InvalidNumber,
    b_InvalidNumber := b_InvalidNumber,
    y_InvalidNumber := y_InvalidNumber,
    q_InvalidNumber := q_InvalidNumber,
    o_InvalidNumber := o_InvalidNumber,
    s_InvalidNumber := s_InvalidNumber,
    tk_InvalidNumber := tk_InvalidNumber,
    hd_InvalidNumber := hd_InvalidNumber,
    i_InvalidNumber := i_InvalidNumber,
    ti_InvalidNumber := ti_InvalidNumber,
    ga_InvalidNumber := ga_InvalidNumber,
    gg_InvalidNumber := gg_InvalidNumber,
    no_InvalidNumber := no_InvalidNumber,
    k_InvalidOperation := k_InvalidOperation,
    b_InvalidOperation := b_InvalidOperation,
    y_InvalidOperation := y_InvalidOperation,
    x_InvalidOperation := x_InvalidOperation,
    k_InvalidSet := k_InvalidSet,
    b_InvalidSet := b_InvalidSet,
    y_InvalidSet := y_InvalidSet,
    x_InvalidSet := x_InvalidSet,
    k_ParseError := k_ParseError,
    b_ParseError := b_ParseError,
    y_ParseError := y_ParseError,
    q_ParseError := q_ParseError,
    o_ParseError := o_ParseError,
    s_ParseError := s_ParseError,
    tk_ParseError := tk_ParseError,
    hd_ParseError := hd_ParseError,
    i_ParseError := i_ParseError,
    ti_ParseError := ti_ParseError,
    ga_ParseError := ga_ParseError,
    gg_ParseError := gg_ParseError,
    no_ParseError := no_ParseError,
    m_InvalidNumber_ParseError := m_InvalidNumber_ParseError,
    m_InvalidNumber_InvalidOperation := m_InvalidNumber_InvalidOperation,
    m_InvalidNumber_InvalidSet := m_InvalidNumber_InvalidSet,
    m_InvalidNumber_InvalidNumber := m_InvalidNumber_InvalidNumber,
    m_InvalidSet_ParseError := m_InvalidSet_ParseError,
    m_InvalidSet_InvalidOperation := m_InvalidSet_InvalidOperation,
    m_InvalidSet_InvalidSet := m_InvalidSet_InvalidSet,
    m_InvalidSet_InvalidNumber := m_InvalidSet_InvalidNumber,
    m_InvalidOperation_ParseError := m_InvalidOperation_ParseError,
    m_InvalidOperation_InvalidOperation := m_InvalidOperation_InvalidOperation,
    m_InvalidOperation_InvalidSet := m_InvalidOperation_InvalidSet,
    m_InvalidOperation_InvalidNumber := m_InvalidOperation_InvalidNumber,
    m_ParseError_ParseError := m_ParseError_ParseError,
    m_ParseError_InvalidOperation := m_ParseError_InvalidOperation,
    m_ParseError_InvalidSet := m_ParseError_InvalidSet,
    m_ParseError_InvalidNumber := m_ParseError_InvalidNumber,
    cd__law_right := cc__law_right, P__law_right := P__law_right, tb__law_right := tab_by n__law_right l__law_right hc__law_right lk__law_right vp__law_right, hc__law_right := hc__law_right,
    cd__law_others_right := cc__law_others_right, P__law_others_right := P__law_others_right, tb__law_others_right := tab_by n__law_others_right l__law_others_right hc__law_others_right lk__law_others_right vp__law_others_right, hc__law_others_right := hc__law_others_right,
    cd_law := cc_law, P_law := P_law, tb_law := tab_by n_law l_law hc_law lk_law vp_law, hc_law := hc_law
  }, rfl, rfl, rfl, rfl, rfl, rfl, rfl, rfl⟩
theorem tx_of' {K : PySem.W.Frag} {h : Heap} {mg : Str → Option Value} (X : K.In h) (G : h.Ns mainGlobals mg)
    {a__law_dice : Addr} {oc__law_dice kV__law_dice dc__law_dice pm__law_dice cd__law_dice ct__law_dice : Value} {od__law_dice an__law_dice : Option Addr} {sl__law_dice : Array (Option Value)}
    (n__law_dice : PySem.W.nsIn K mainGlobals "_law_dice" = some (some (.ref a__law_dice))) (l__law_dice : K.lookup a__law_dice = some ⟨oc__law_dice, od__law_dice, .func (PySem.W.fnOf "_law_dice" "_law_dice" (defArgs s__law_dice) (defBody s__law_dice) (defScope s__law_dice) .none kV__law_dice dc__law_dice pm__law_dice an__law_dice cd__law_dice ct__law_dice), sl__law_dice⟩) (c__law_dice : PySem.W.codeIn K cd__law_dice "_law_dice" = true) (k__law_dice : PySem.W.keepIn K (.ref a__law_dice) = true)
    {a__law_met : Addr} {oc__law_met kV__law_met dc__law_met pm__law_met cd__law_met ct__law_met : Value} {od__law_met an__law_met : Option Addr} {sl__law_met : Array (Option Value)}
    (n__law_met : PySem.W.nsIn K mainGlobals "_law_met" = some (some (.ref a__law_met))) (l__law_met : K.lookup a__law_met = some ⟨oc__law_met, od__law_met, .func (PySem.W.fnOf "_law_met" "_law_met" (defArgs s__law_met) (defBody s__law_met) (defScope s__law_met) .none kV__law_met dc__law_met pm__law_met an__law_met cd__law_met ct__law_met), sl__law_met⟩) (c__law_met : PySem.W.codeIn K cd__law_met "_law_met" = true) (k__law_met : PySem.W.keepIn K (.ref a__law_met) = true)
    {a_is_integer : Addr} {oc_is_integer kV_is_integer dc_is_integer pm_is_integer cd_is_integer ct_is_integer : Value} {od_is_integer an_is_integer : Option Addr} {sl_is_integer : Array (Option Value)}
    (n_is_integer : PySem.W.nsIn K mainGlobals "is_integer" = some (some (.ref a_is_integer))) (l_is_integer : K.lookup a_is_integer = some ⟨oc_is_integer, od_is_integer, .func (PySem.W.fnOf "is_integer" "is_integer" (defArgs s_is_integer) (defBody s_is_integer) (defScope s_is_integer) .none kV_is_integer dc_is_integer pm_is_integer an_is_integer cd_is_integer ct_is_integer), sl_is_integer⟩) (c_is_integer : PySem.W.codeIn K cd_is_integer "is_integer" = true) (k_is_integer : PySem.W.keepIn K (.ref a_is_integer) = true)
    {a_is_count : Addr} {oc_is_count kV_is_count dc_is_count pm_is_count cd_is_count ct_is_count : Value} {od_is_count an_is_count : Option Addr} {sl_is_count : Array (Option Value)}
    (n_is_count : PySem.W.nsIn K mainGlobals "is_count" = some (some (.ref a_is_count))) (l_is_count : K.lookup a_is_count = some ⟨oc_is_count, od_is_count, .func (PySem.W.fnOf "is_count" "is_count" (defArgs s_is_count) (defBody s_is_count) (defScope s_is_count) .none kV_is_count dc_is_count pm_is_count an_is_count cd_is_count ct_is_count), sl_is_count⟩) (c_is_count : PySem.W.codeIn K cd_is_count "is_count" = true) (k_is_count : PySem.W.keepIn K (.ref a_is_count) = true)
    {a_is_width : Addr} {oc_is_width kV_is_width dc_is_width pm_is_width cd_is_width ct_is_width : Value} {od_is_width an_is_width : Option Addr} {sl_is_width : Array (Option Value)}
    (n_is_width : PySem.W.nsIn K mainGlobals "is_width" = some (some (.ref a_is_width))) (l_is_width : K.lookup a_is_width = some ⟨oc_is_width, od_is_width, .func (PySem.W.fnOf "is_width" "is_width" (defArgs s_is_width) (defBody s_is_width) (defScope s_is_width) .none kV_is_width dc_is_width pm_is_width an_is_width cd_is_width ct_is_width), sl_is_width⟩) (c_is_width : PySem.W.codeIn K cd_is_width "is_width" = true) (k_is_width : PySem.W.keepIn K (.ref a_is_width) = true)
    {a_require_width : Addr} {oc_require_width kV_require_width dc_require_width pm_require_width cd_require_width ct_require_width : Value} {od_require_width an_require_width : Option Addr} {sl_require_width : Array (Option Value)}
    (n_require_width : PySem.W.nsIn K mainGlobals "require_width" = some (some (.ref a_require_width))) (l_require_width : K.lookup a_require_width = some ⟨oc_require_width, od_require_width, .func (PySem.W.fnOf "require_width" "require_width" (defArgs s_require_width) (defBody s_require_width) (defScope s_require_width) .none kV_require_width dc_require_width pm_require_width an_require_width cd_require_width ct_require_width), sl_require_width⟩) (c_require_width : PySem.W.codeIn K cd_require_width "require_width" = true) (k_require_width : PySem.W.keepIn K (.ref a_require_width) = true)
    {a_contains : Addr} {oc_contains kV_contains dc_contains pm_contains cd_contains ct_contains : Value} {od_contains an_contains : Option Addr} {sl_contains : Array (Option Value)}
    (n_contains : PySem.W.nsIn K mainGlobals "contains" = some (some (.ref a_contains))) (l_contains : K.lookup a_contains = some ⟨oc_contains, od_contains, .func (PySem.W.fnOf "contains" "contains" (defArgs s_contains) (defBody s_contains) (defScope s_contains) .none kV_contains dc_contains pm_contains an_contains cd_contains ct_contains), sl_contains⟩) (c_contains : PySem.W.codeIn K cd_contains "contains" = true) (k_contains : PySem.W.keepIn K (.ref a_contains) = true)
    {a_are_least : Addr} {oc_are_least kV_are_least dc_are_least pm_are_least cd_are_least ct_are_least : Value} {od_are_least an_are_least : Option Addr} {sl_are_least : Array (Option Value)}
    (n_are_least : PySem.W.nsIn K mainGlobals "are_least" = some (some (.ref a_are_least))) (l_are_least : K.lookup a_are_least = some ⟨oc_are_least, od_are_least, .func (PySem.W.fnOf "are_least" "are_least" (defArgs s_are_least) (defBody s_are_least) (defScope s_are_least) .none kV_are_least dc_are_least pm_are_least an_are_least cd_are_least ct_are_least), sl_are_least⟩) (c_are_least : PySem.W.codeIn K cd_are_least "are_least" = true) (k_are_least : PySem.W.keepIn K (.ref a_are_least) = true)
    {a_are_places : Addr} {oc_are_places kV_are_places dc_are_places pm_are_places cd_are_places ct_are_places : Value} {od_are_places an_are_places : Option Addr} {sl_are_places : Array (Option Value)}
    (n_are_places : PySem.W.nsIn K mainGlobals "are_places" = some (some (.ref a_are_places))) (l_are_places : K.lookup a_are_places = some ⟨oc_are_places, od_are_places, .func (PySem.W.fnOf "are_places" "are_places" (defArgs s_are_places) (defBody s_are_places) (defScope s_are_places) .none kV_are_places dc_are_places pm_are_places an_are_places cd_are_places ct_are_places), sl_are_places⟩) (c_are_places : PySem.W.codeIn K cd_are_places "are_places" = true) (k_are_places : PySem.W.keepIn K (.ref a_are_places) = true)
    {a_is_set_of : Addr} {oc_is_set_of kV_is_set_of dc_is_set_of pm_is_set_of cd_is_set_of ct_is_set_of : Value} {od_is_set_of an_is_set_of : Option Addr} {sl_is_set_of : Array (Option Value)}
    (n_is_set_of : PySem.W.nsIn K mainGlobals "is_set_of" = some (some (.ref a_is_set_of))) (l_is_set_of : K.lookup a_is_set_of = some ⟨oc_is_set_of, od_is_set_of, .func (PySem.W.fnOf "is_set_of" "is_set_of" (defArgs s_is_set_of) (defBody s_is_set_of) (defScope s_is_set_of) .none kV_is_set_of dc_is_set_of pm_is_set_of an_is_set_of cd_is_set_of ct_is_set_of), sl_is_set_of⟩) (c_is_set_of : PySem.W.codeIn K cd_is_set_of "is_set_of" = true) (k_is_set_of : PySem.W.keepIn K (.ref a_is_set_of) = true)
    {a_is_family_of : Addr} {oc_is_family_of kV_is_family_of dc_is_family_of pm_is_family_of cd_is_family_of ct_is_family_of : Value} {od_is_family_of an_is_family_of : Option Addr} {sl_is_family_of : Array (Option Value)}
    (n_is_family_of : PySem.W.nsIn K mainGlobals "is_family_of" = some (some (.ref a_is_family_of))) (l_is_family_of : K.lookup a_is_family_of = some ⟨oc_is_family_of, od_is_family_of, .func (PySem.W.fnOf "is_family_of" "is_family_of" (defArgs s_is_family_of) (defBody s_is_family_of) (defScope s_is_family_of) .none kV_is_family_of dc_is_family_of pm_is_family_of an_is_family_of cd_is_family_of ct_is_family_of), sl_is_family_of⟩) (c_is_family_of : PySem.W.codeIn K cd_is_family_of "is_family_of" = true) (k_is_family_of : PySem.W.keepIn K (.ref a_is_family_of) = true)
    {a_require_family : Addr} {oc_require_family kV_require_family dc_require_family pm_require_family cd_require_family ct_require_family : Value} {od_require_family an_require_family : Option Addr} {sl_require_family : Array (Option Value)}
    (n_require_family : PySem.W.nsIn K mainGlobals "require_family" = some (some (.ref a_require_family))) (l_require_family : K.lookup a_require_family = some ⟨oc_require_family, od_require_family, .func (PySem.W.fnOf "require_family" "require_family" (defArgs s_require_family) (defBody s_require_family) (defScope s_require_family) .none kV_require_family dc_require_family pm_require_family an_require_family cd_require_family ct_require_family), sl_require_family⟩) (c_require_family : PySem.W.codeIn K cd_require_family "require_family" = true) (k_require_family : PySem.W.keepIn K (.ref a_require_family) = true)
    {a_least_in : Addr} {oc_least_in kV_least_in dc_least_in pm_least_in cd_least_in ct_least_in : Value} {od_least_in an_least_in : Option Addr} {sl_least_in : Array (Option Value)}
    (n_least_in : PySem.W.nsIn K mainGlobals "least_in" = some (some (.ref a_least_in))) (l_least_in : K.lookup a_least_in = some ⟨oc_least_in, od_least_in, .func (PySem.W.fnOf "least_in" "least_in" (defArgs s_least_in) (defBody s_least_in) (defScope s_least_in) .none kV_least_in dc_least_in pm_least_in an_least_in cd_least_in ct_least_in), sl_least_in⟩) (c_least_in : PySem.W.codeIn K cd_least_in "least_in" = true) (k_least_in : PySem.W.keepIn K (.ref a_least_in) = true)
    {a_do_meet : Addr} {oc_do_meet kV_do_meet dc_do_meet pm_do_meet cd_do_meet ct_do_meet : Value} {od_do_meet an_do_meet : Option Addr} {sl_do_meet : Array (Option Value)}
    (n_do_meet : PySem.W.nsIn K mainGlobals "do_meet" = some (some (.ref a_do_meet))) (l_do_meet : K.lookup a_do_meet = some ⟨oc_do_meet, od_do_meet, .func (PySem.W.fnOf "do_meet" "do_meet" (defArgs s_do_meet) (defBody s_do_meet) (defScope s_do_meet) .none kV_do_meet dc_do_meet pm_do_meet an_do_meet cd_do_meet ct_do_meet), sl_do_meet⟩) (c_do_meet : PySem.W.codeIn K cd_do_meet "do_meet" = true) (k_do_meet : PySem.W.keepIn K (.ref a_do_meet) = true)
    {a_all_sets : Addr} {oc_all_sets kV_all_sets dc_all_sets pm_all_sets cd_all_sets ct_all_sets : Value} {od_all_sets an_all_sets : Option Addr} {sl_all_sets : Array (Option Value)}
    (n_all_sets : PySem.W.nsIn K mainGlobals "all_sets" = some (some (.ref a_all_sets))) (l_all_sets : K.lookup a_all_sets = some ⟨oc_all_sets, od_all_sets, .func (PySem.W.fnOf "all_sets" "all_sets" (defArgs s_all_sets) (defBody s_all_sets) (defScope s_all_sets) .none kV_all_sets dc_all_sets pm_all_sets an_all_sets cd_all_sets ct_all_sets), sl_all_sets⟩) (c_all_sets : PySem.W.codeIn K cd_all_sets "all_sets" = true) (k_all_sets : PySem.W.keepIn K (.ref a_all_sets) = true)
    {a_dual_family : Addr} {oc_dual_family kV_dual_family dc_dual_family pm_dual_family cd_dual_family ct_dual_family : Value} {od_dual_family an_dual_family : Option Addr} {sl_dual_family : Array (Option Value)}
    (n_dual_family : PySem.W.nsIn K mainGlobals "dual_family" = some (some (.ref a_dual_family))) (l_dual_family : K.lookup a_dual_family = some ⟨oc_dual_family, od_dual_family, .func (PySem.W.fnOf "dual_family" "dual_family" (defArgs s_dual_family) (defBody s_dual_family) (defScope s_dual_family) .none kV_dual_family dc_dual_family pm_dual_family an_dual_family cd_dual_family ct_dual_family), sl_dual_family⟩) (c_dual_family : PySem.W.codeIn K cd_dual_family "dual_family" = true) (k_dual_family : PySem.W.keepIn K (.ref a_dual_family) = true)
    {a_holds_one : Addr} {oc_holds_one kV_holds_one dc_holds_one pm_holds_one cd_holds_one ct_holds_one : Value} {od_holds_one an_holds_one : Option Addr} {sl_holds_one : Array (Option Value)}
    (n_holds_one : PySem.W.nsIn K mainGlobals "holds_one" = some (some (.ref a_holds_one))) (l_holds_one : K.lookup a_holds_one = some ⟨oc_holds_one, od_holds_one, .func (PySem.W.fnOf "holds_one" "holds_one" (defArgs s_holds_one) (defBody s_holds_one) (defScope s_holds_one) .none kV_holds_one dc_holds_one pm_holds_one an_holds_one cd_holds_one ct_holds_one), sl_holds_one⟩) (c_holds_one : PySem.W.codeIn K cd_holds_one "holds_one" = true) (k_holds_one : PySem.W.keepIn K (.ref a_holds_one) = true)
    {a_completed : Addr} {oc_completed kV_completed dc_completed pm_completed cd_completed ct_completed : Value} {od_completed an_completed : Option Addr} {sl_completed : Array (Option Value)}
    (n_completed : PySem.W.nsIn K mainGlobals "completed" = some (some (.ref a_completed))) (l_completed : K.lookup a_completed = some ⟨oc_completed, od_completed, .func (PySem.W.fnOf "completed" "completed" (defArgs s_completed) (defBody s_completed) (defScope s_completed) .none kV_completed dc_completed pm_completed an_completed cd_completed ct_completed), sl_completed⟩) (c_completed : PySem.W.codeIn K cd_completed "completed" = true) (k_completed : PySem.W.keepIn K (.ref a_completed) = true)
    {a__law_roll : Addr} {oc__law_roll kV__law_roll dc__law_roll pm__law_roll cd__law_roll ct__law_roll : Value} {od__law_roll an__law_roll : Option Addr} {sl__law_roll : Array (Option Value)}
    (n__law_roll : PySem.W.nsIn K mainGlobals "_law_roll" = some (some (.ref a__law_roll))) (l__law_roll : K.lookup a__law_roll = some ⟨oc__law_roll, od__law_roll, .func (PySem.W.fnOf "_law_roll" "_law_roll" (defArgs s__law_roll) (defBody s__law_roll) (defScope s__law_roll) .none kV__law_roll dc__law_roll pm__law_roll an__law_roll cd__law_roll ct__law_roll), sl__law_roll⟩) (c__law_roll : PySem.W.codeIn K cd__law_roll "_law_roll" = true) (k__law_roll : PySem.W.keepIn K (.ref a__law_roll) = true)
    {a__law_pick : Addr} {oc__law_pick kV__law_pick dc__law_pick pm__law_pick cd__law_pick ct__law_pick : Value} {od__law_pick an__law_pick : Option Addr} {sl__law_pick : Array (Option Value)}
    (n__law_pick : PySem.W.nsIn K mainGlobals "_law_pick" = some (some (.ref a__law_pick))) (l__law_pick : K.lookup a__law_pick = some ⟨oc__law_pick, od__law_pick, .func (PySem.W.fnOf "_law_pick" "_law_pick" (defArgs s__law_pick) (defBody s__law_pick) (defScope s__law_pick) .none kV__law_pick dc__law_pick pm__law_pick an__law_pick cd__law_pick ct__law_pick), sl__law_pick⟩) (c__law_pick : PySem.W.codeIn K cd__law_pick "_law_pick" = true) (k__law_pick : PySem.W.keepIn K (.ref a__law_pick) = true)
    {a__law_limit : Addr} {oc__law_limit kV__law_limit dc__law_limit pm__law_limit cd__law_limit ct__law_limit : Value} {od__law_limit an__law_limit : Option Addr} {sl__law_limit : Array (Option Value)}
    (n__law_limit : PySem.W.nsIn K mainGlobals "_law_limit" = some (some (.ref a__law_limit))) (l__law_limit : K.lookup a__law_limit = some ⟨oc__law_limit, od__law_limit, .func (PySem.W.fnOf "_law_limit" "_law_limit" (defArgs s__law_limit) (defBody s__law_limit) (defScope s__law_limit) .none kV__law_limit dc__law_limit pm__law_limit an__law_limit cd__law_limit ct__law_limit), sl__law_limit⟩) (c__law_limit : PySem.W.codeIn K cd__law_limit "_law_limit" = true) (k__law_limit : PySem.W.keepIn K (.ref a__law_limit) = true)
    {a__law_first : Addr} {oc__law_first kV__law_first dc__law_first pm__law_first cd__law_first ct__law_first : Value} {od__law_first an__law_first : Option Addr} {sl__law_first : Array (Option Value)}
    (n__law_first : PySem.W.nsIn K mainGlobals "_law_first" = some (some (.ref a__law_first))) (l__law_first : K.lookup a__law_first = some ⟨oc__law_first, od__law_first, .func (PySem.W.fnOf "_law_first" "_law_first" (defArgs s__law_first) (defBody s__law_first) (defScope s__law_first) .none kV__law_first dc__law_first pm__law_first an__law_first cd__law_first ct__law_first), sl__law_first⟩) (c__law_first : PySem.W.codeIn K cd__law_first "_law_first" = true) (k__law_first : PySem.W.keepIn K (.ref a__law_first) = true)
    {a_blocks_of : Addr} {oc_blocks_of kV_blocks_of dc_blocks_of pm_blocks_of cd_blocks_of ct_blocks_of : Value} {od_blocks_of an_blocks_of : Option Addr} {sl_blocks_of : Array (Option Value)}
    (n_blocks_of : PySem.W.nsIn K mainGlobals "blocks_of" = some (some (.ref a_blocks_of))) (l_blocks_of : K.lookup a_blocks_of = some ⟨oc_blocks_of, od_blocks_of, .func (PySem.W.fnOf "blocks_of" "blocks_of" (defArgs s_blocks_of) (defBody s_blocks_of) (defScope s_blocks_of) .none kV_blocks_of dc_blocks_of pm_blocks_of an_blocks_of cd_blocks_of ct_blocks_of), sl_blocks_of⟩) (c_blocks_of : PySem.W.codeIn K cd_blocks_of "blocks_of" = true) (k_blocks_of : PySem.W.keepIn K (.ref a_blocks_of) = true)
    {a_set_text : Addr} {oc_set_text kV_set_text dc_set_text pm_set_text cd_set_text ct_set_text : Value} {od_set_text an_set_text : Option Addr} {sl_set_text : Array (Option Value)}
    (n_set_text : PySem.W.nsIn K mainGlobals "set_text" = some (some (.ref a_set_text))) (l_set_text : K.lookup a_set_text = some ⟨oc_set_text, od_set_text, .func (PySem.W.fnOf "set_text" "set_text" (defArgs s_set_text) (defBody s_set_text) (defScope s_set_text) .none kV_set_text dc_set_text pm_set_text an_set_text cd_set_text ct_set_text), sl_set_text⟩) (c_set_text : PySem.W.codeIn K cd_set_text "set_text" = true) (k_set_text : PySem.W.keepIn K (.ref a_set_text) = true)
    {a_family_text : Addr} {oc_family_text kV_family_text dc_family_text pm_family_text cd_family_text ct_family_text : Value} {od_family_text an_family_text : Option Addr} {sl_family_text : Array (Option Value)}
    (n_family_text : PySem.W.nsIn K mainGlobals "family_text" = some (some (.ref a_family_text))) (l_family_text : K.lookup a_family_text = some ⟨oc_family_text, od_family_text, .func (PySem.W.fnOf "family_text" "family_text" (defArgs s_family_text) (defBody s_family_text) (defScope s_family_text) .none kV_family_text dc_family_text pm_family_text an_family_text cd_family_text ct_family_text), sl_family_text⟩) (c_family_text : PySem.W.codeIn K cd_family_text "family_text" = true) (k_family_text : PySem.W.keepIn K (.ref a_family_text) = true)
    {a_write_family : Addr} {oc_write_family kV_write_family dc_write_family pm_write_family cd_write_family ct_write_family : Value} {od_write_family an_write_family : Option Addr} {sl_write_family : Array (Option Value)}
    (n_write_family : PySem.W.nsIn K mainGlobals "write_family" = some (some (.ref a_write_family))) (l_write_family : K.lookup a_write_family = some ⟨oc_write_family, od_write_family, .func (PySem.W.fnOf "write_family" "write_family" (defArgs s_write_family) (defBody s_write_family) (defScope s_write_family) .none kV_write_family dc_write_family pm_write_family an_write_family cd_write_family ct_write_family), sl_write_family⟩) (c_write_family : PySem.W.codeIn K cd_write_family "write_family" = true) (k_write_family : PySem.W.keepIn K (.ref a_write_family) = true)
    {a_require_both : Addr} {oc_require_both kV_require_both dc_require_both pm_require_both cd_require_both ct_require_both : Value} {od_require_both an_require_both : Option Addr} {sl_require_both : Array (Option Value)}
    (n_require_both : PySem.W.nsIn K mainGlobals "require_both" = some (some (.ref a_require_both))) (l_require_both : K.lookup a_require_both = some ⟨oc_require_both, od_require_both, .func (PySem.W.fnOf "require_both" "require_both" (defArgs s_require_both) (defBody s_require_both) (defScope s_require_both) .none kV_require_both dc_require_both pm_require_both an_require_both cd_require_both ct_require_both), sl_require_both⟩) (c_require_both : PySem.W.codeIn K cd_require_both "require_both" = true) (k_require_both : PySem.W.keepIn K (.ref a_require_both) = true)
    {a_either : Addr} {oc_either kV_either dc_either pm_either cd_either ct_either : Value} {od_either an_either : Option Addr} {sl_either : Array (Option Value)}
    (n_either : PySem.W.nsIn K mainGlobals "either" = some (some (.ref a_either))) (l_either : K.lookup a_either = some ⟨oc_either, od_either, .func (PySem.W.fnOf "either" "either" (defArgs s_either) (defBody s_either) (defScope s_either) .none kV_either dc_either pm_either an_either cd_either ct_either), sl_either⟩) (c_either : PySem.W.codeIn K cd_either "either" = true) (k_either : PySem.W.keepIn K (.ref a_either) = true)
    {a_both : Addr} {oc_both kV_both dc_both pm_both cd_both ct_both : Value} {od_both an_both : Option Addr} {sl_both : Array (Option Value)}
    (n_both : PySem.W.nsIn K mainGlobals "both" = some (some (.ref a_both))) (l_both : K.lookup a_both = some ⟨oc_both, od_both, .func (PySem.W.fnOf "both" "both" (defArgs s_both) (defBody s_both) (defScope s_both) .none kV_both dc_both pm_both an_both cd_both ct_both), sl_both⟩) (c_both : PySem.W.codeIn K cd_both "both" = true) (k_both : PySem.W.keepIn K (.ref a_both) = true)
    {a_require_places : Addr} {oc_require_places kV_require_places dc_require_places pm_require_places cd_require_places ct_require_places : Value} {od_require_places an_require_places : Option Addr} {sl_require_places : Array (Option Value)}
    (n_require_places : PySem.W.nsIn K mainGlobals "require_places" = some (some (.ref a_require_places))) (l_require_places : K.lookup a_require_places = some ⟨oc_require_places, od_require_places, .func (PySem.W.fnOf "require_places" "require_places" (defArgs s_require_places) (defBody s_require_places) (defScope s_require_places) .none kV_require_places dc_require_places pm_require_places an_require_places cd_require_places ct_require_places), sl_require_places⟩) (c_require_places : PySem.W.codeIn K cd_require_places "require_places" = true) (k_require_places : PySem.W.keepIn K (.ref a_require_places) = true)
    {a_is_held : Addr} {oc_is_held kV_is_held dc_is_held pm_is_held cd_is_held ct_is_held : Value} {od_is_held an_is_held : Option Addr} {sl_is_held : Array (Option Value)}
    (n_is_held : PySem.W.nsIn K mainGlobals "is_held" = some (some (.ref a_is_held))) (l_is_held : K.lookup a_is_held = some ⟨oc_is_held, od_is_held, .func (PySem.W.fnOf "is_held" "is_held" (defArgs s_is_held) (defBody s_is_held) (defScope s_is_held) .none kV_is_held dc_is_held pm_is_held an_is_held cd_is_held ct_is_held), sl_is_held⟩) (c_is_held : PySem.W.codeIn K cd_is_held "is_held" = true) (k_is_held : PySem.W.keepIn K (.ref a_is_held) = true)
    {a_rest_of : Addr} {oc_rest_of kV_rest_of dc_rest_of pm_rest_of cd_rest_of ct_rest_of : Value} {od_rest_of an_rest_of : Option Addr} {sl_rest_of : Array (Option Value)}
    (n_rest_of : PySem.W.nsIn K mainGlobals "rest_of" = some (some (.ref a_rest_of))) (l_rest_of : K.lookup a_rest_of = some ⟨oc_rest_of, od_rest_of, .func (PySem.W.fnOf "rest_of" "rest_of" (defArgs s_rest_of) (defBody s_rest_of) (defScope s_rest_of) .none kV_rest_of dc_rest_of pm_rest_of an_rest_of cd_rest_of ct_rest_of), sl_rest_of⟩) (c_rest_of : PySem.W.codeIn K cd_rest_of "rest_of" = true) (k_rest_of : PySem.W.keepIn K (.ref a_rest_of) = true)
    {a_moved_family : Addr} {oc_moved_family kV_moved_family dc_moved_family pm_moved_family cd_moved_family ct_moved_family : Value} {od_moved_family an_moved_family : Option Addr} {sl_moved_family : Array (Option Value)}
    (n_moved_family : PySem.W.nsIn K mainGlobals "moved_family" = some (some (.ref a_moved_family))) (l_moved_family : K.lookup a_moved_family = some ⟨oc_moved_family, od_moved_family, .func (PySem.W.fnOf "moved_family" "moved_family" (defArgs s_moved_family) (defBody s_moved_family) (defScope s_moved_family) .none kV_moved_family dc_moved_family pm_moved_family an_moved_family cd_moved_family ct_moved_family), sl_moved_family⟩) (c_moved_family : PySem.W.codeIn K cd_moved_family "moved_family" = true) (k_moved_family : PySem.W.keepIn K (.ref a_moved_family) = true)
    {a_are_turns : Addr} {oc_are_turns kV_are_turns dc_are_turns pm_are_turns cd_are_turns ct_are_turns : Value} {od_are_turns an_are_turns : Option Addr} {sl_are_turns : Array (Option Value)}
    (n_are_turns : PySem.W.nsIn K mainGlobals "are_turns" = some (some (.ref a_are_turns))) (l_are_turns : K.lookup a_are_turns = some ⟨oc_are_turns, od_are_turns, .func (PySem.W.fnOf "are_turns" "are_turns" (defArgs s_are_turns) (defBody s_are_turns) (defScope s_are_turns) .none kV_are_turns dc_are_turns pm_are_turns an_are_turns cd_are_turns ct_are_turns), sl_are_turns⟩) (c_are_turns : PySem.W.codeIn K cd_are_turns "are_turns" = true) (k_are_turns : PySem.W.keepIn K (.ref a_are_turns) = true)
    {a_placed : Addr} {oc_placed kV_placed dc_placed pm_placed cd_placed ct_placed : Value} {od_placed an_placed : Option Addr} {sl_placed : Array (Option Value)}
    (n_placed : PySem.W.nsIn K mainGlobals "placed" = some (some (.ref a_placed))) (l_placed : K.lookup a_placed = some ⟨oc_placed, od_placed, .func (PySem.W.fnOf "placed" "placed" (defArgs s_placed) (defBody s_placed) (defScope s_placed) .none kV_placed dc_placed pm_placed an_placed cd_placed ct_placed), sl_placed⟩) (c_placed : PySem.W.codeIn K cd_placed "placed" = true) (k_placed : PySem.W.keepIn K (.ref a_placed) = true)
    {a_is_set : Addr} {oc_is_set kV_is_set dc_is_set pm_is_set cd_is_set ct_is_set : Value} {od_is_set an_is_set : Option Addr} {sl_is_set : Array (Option Value)}
    (n_is_set : PySem.W.nsIn K mainGlobals "is_set" = some (some (.ref a_is_set))) (l_is_set : K.lookup a_is_set = some ⟨oc_is_set, od_is_set, .func (PySem.W.fnOf "is_set" "is_set" (defArgs s_is_set) (defBody s_is_set) (defScope s_is_set) .none kV_is_set dc_is_set pm_is_set an_is_set cd_is_set ct_is_set), sl_is_set⟩) (c_is_set : PySem.W.codeIn K cd_is_set "is_set" = true) (k_is_set : PySem.W.keepIn K (.ref a_is_set) = true)
    {a_is_family : Addr} {oc_is_family kV_is_family dc_is_family pm_is_family cd_is_family ct_is_family : Value} {od_is_family an_is_family : Option Addr} {sl_is_family : Array (Option Value)}
    (n_is_family : PySem.W.nsIn K mainGlobals "is_family" = some (some (.ref a_is_family))) (l_is_family : K.lookup a_is_family = some ⟨oc_is_family, od_is_family, .func (PySem.W.fnOf "is_family" "is_family" (defArgs s_is_family) (defBody s_is_family) (defScope s_is_family) .none kV_is_family dc_is_family pm_is_family an_is_family cd_is_family ct_is_family), sl_is_family⟩) (c_is_family : PySem.W.codeIn K cd_is_family "is_family" = true) (k_is_family : PySem.W.keepIn K (.ref a_is_family) = true)
    {a__law_right : Addr} {oc__law_right kV__law_right dc__law_right pm__law_right cd__law_right ct__law_right : Value} {od__law_right an__law_right : Option Addr} {sl__law_right : Array (Option Value)}
    (n__law_right : PySem.W.nsIn K mainGlobals "_law_right" = some (some (.ref a__law_right))) (l__law_right : K.lookup a__law_right = some ⟨oc__law_right, od__law_right, .func (PySem.W.fnOf "_law_right" "_law_right" (defArgs s__law_right) (defBody s__law_right) (defScope s__law_right) .none kV__law_right dc__law_right pm__law_right an__law_right cd__law_right ct__law_right), sl__law_right⟩) (c__law_right : PySem.W.codeIn K cd__law_right "_law_right" = true) (k__law_right : PySem.W.keepIn K (.ref a__law_right) = true)
    {a_least_of : Addr} {oc_least_of kV_least_of dc_least_of pm_least_of cd_least_of ct_least_of : Value} {od_least_of an_least_of : Option Addr} {sl_least_of : Array (Option Value)}
    (n_least_of : PySem.W.nsIn K mainGlobals "least_of" = some (some (.ref a_least_of))) (l_least_of : K.lookup a_least_of = some ⟨oc_least_of, od_least_of, .func (PySem.W.fnOf "least_of" "least_of" (defArgs s_least_of) (defBody s_least_of) (defScope s_least_of) .none kV_least_of dc_least_of pm_least_of an_least_of cd_least_of ct_least_of), sl_least_of⟩) (c_least_of : PySem.W.codeIn K cd_least_of "least_of" = true) (k_least_of : PySem.W.keepIn K (.ref a_least_of) = true)
    {a_set_in : Addr} {oc_set_in kV_set_in dc_set_in pm_set_in cd_set_in ct_set_in : Value} {od_set_in an_set_in : Option Addr} {sl_set_in : Array (Option Value)}
    (n_set_in : PySem.W.nsIn K mainGlobals "set_in" = some (some (.ref a_set_in))) (l_set_in : K.lookup a_set_in = some ⟨oc_set_in, od_set_in, .func (PySem.W.fnOf "set_in" "set_in" (defArgs s_set_in) (defBody s_set_in) (defScope s_set_in) .none kV_set_in dc_set_in pm_set_in an_set_in cd_set_in ct_set_in), sl_set_in⟩) (c_set_in : PySem.W.codeIn K cd_set_in "set_in" = true) (k_set_in : PySem.W.keepIn K (.ref a_set_in) = true)
    {a_family_in : Addr} {oc_family_in kV_family_in dc_family_in pm_family_in cd_family_in ct_family_in : Value} {od_family_in an_family_in : Option Addr} {sl_family_in : Array (Option Value)}
    (n_family_in : PySem.W.nsIn K mainGlobals "family_in" = some (some (.ref a_family_in))) (l_family_in : K.lookup a_family_in = some ⟨oc_family_in, od_family_in, .func (PySem.W.fnOf "family_in" "family_in" (defArgs s_family_in) (defBody s_family_in) (defScope s_family_in) .none kV_family_in dc_family_in pm_family_in an_family_in cd_family_in ct_family_in), sl_family_in⟩) (c_family_in : PySem.W.codeIn K cd_family_in "family_in" = true) (k_family_in : PySem.W.keepIn K (.ref a_family_in) = true)
    {a_read_family : Addr} {oc_read_family kV_read_family dc_read_family pm_read_family cd_read_family ct_read_family : Value} {od_read_family an_read_family : Option Addr} {sl_read_family : Array (Option Value)}
    (n_read_family : PySem.W.nsIn K mainGlobals "read_family" = some (some (.ref a_read_family))) (l_read_family : K.lookup a_read_family = some ⟨oc_read_family, od_read_family, .func (PySem.W.fnOf "read_family" "read_family" (defArgs s_read_family) (defBody s_read_family) (defScope s_read_family) .none kV_read_family dc_read_family pm_read_family an_read_family cd_read_family ct_read_family), sl_read_family⟩) (c_read_family : PySem.W.codeIn K cd_read_family "read_family" = true) (k_read_family : PySem.W.keepIn K (.ref a_read_family) = true)
    {a__law_others_right : Addr} {oc__law_others_right kV__law_others_right dc__law_others_right pm__law_others_right cd__law_others_right ct__law_others_right : Value} {od__law_others_right an__law_others_right : Option Addr} {sl__law_others_right : Array (Option Value)}
    (n__law_others_right : PySem.W.nsIn K mainGlobals "_law_others_right" = some (some (.ref a__law_others_right))) (l__law_others_right : K.lookup a__law_others_right = some ⟨oc__law_others_right, od__law_others_right, .func (PySem.W.fnOf "_law_others_right" "_law_others_right" (defArgs s__law_others_right) (defBody s__law_others_right) (defScope s__law_others_right) .none kV__law_others_right dc__law_others_right pm__law_others_right an__law_others_right cd__law_others_right ct__law_others_right), sl__law_others_right⟩) (c__law_others_right : PySem.W.codeIn K cd__law_others_right "_law_others_right" = true) (k__law_others_right : PySem.W.keepIn K (.ref a__law_others_right) = true)
    {a_law : Addr} {oc_law kV_law dc_law pm_law cd_law ct_law : Value} {od_law an_law : Option Addr} {sl_law : Array (Option Value)}
    (n_law : PySem.W.nsIn K mainGlobals "law" = some (some (.ref a_law))) (l_law : K.lookup a_law = some ⟨oc_law, od_law, .func (PySem.W.fnOf "law" "law" (defArgs s_law) (defBody s_law) (defScope s_law) .none kV_law dc_law pm_law an_law cd_law ct_law), sl_law⟩) (c_law : PySem.W.codeIn K cd_law "law" = true) (k_law : PySem.W.keepIn K (.ref a_law) = true)
    {tk_BLANK : Tok} (g_BLANK : PySem.W.nsIn K mainGlobals "BLANK" = some (some (.str c_BLANK tk_BLANK)))
    {tk_FIGURES : Tok} (g_FIGURES : PySem.W.nsIn K mainGlobals "FIGURES" = some (some (.str c_FIGURES tk_FIGURES)))
    {tk_LIMIT : Tok} (g_LIMIT : PySem.W.nsIn K mainGlobals "LIMIT" = some (some (.int c_LIMIT tk_LIMIT)))
    {tk_MAX_WIDTH : Tok} (g_MAX_WIDTH : PySem.W.nsIn K mainGlobals "MAX_WIDTH" = some (some (.int c_MAX_WIDTH tk_MAX_WIDTH)))
    {tk_MIN_WIDTH : Tok} (g_MIN_WIDTH : PySem.W.nsIn K mainGlobals "MIN_WIDTH" = some (some (.int c_MIN_WIDTH tk_MIN_WIDTH)))
    (z_abs : PySem.W.nsIn K mainGlobals "abs" = some none)
    (z_all : PySem.W.nsIn K mainGlobals "all" = some none)
    (z_any : PySem.W.nsIn K mainGlobals "any" = some none)
    (z_bool : PySem.W.nsIn K mainGlobals "bool" = some none)
    (z_int : PySem.W.nsIn K mainGlobals "int" = some none)
    (z_isinstance : PySem.W.nsIn K mainGlobals "isinstance" = some none)
    (z_len : PySem.W.nsIn K mainGlobals "len" = some none)
    (z_max : PySem.W.nsIn K mainGlobals "max" = some none)
    (z_min : PySem.W.nsIn K mainGlobals "min" = some none)
    (z_range : PySem.W.nsIn K mainGlobals "range" = some none)
    (z_repr : PySem.W.nsIn K mainGlobals "repr" = some none)
    (z_set : PySem.W.nsIn K mainGlobals "set" = some none)
    (z_sorted : PySem.W.nsIn K mainGlobals "sorted" = some none)
    (z_str : PySem.W.nsIn K mainGlobals "str" = some none)
    (z_tuple : PySem.W.nsIn K mainGlobals "tuple" = some none)
    (z_zip : PySem.W.nsIn K mainGlobals "zip" = some none)
    {c_InvalidNumber : Addr} (g_InvalidNumber : PySem.W.nsIn K mainGlobals "InvalidNumber" = some (some (.ref c_InvalidNumber)))
    {fI_InvalidNumber : Addr} (i_InvalidNumber : PySem.W.findIn K (.ref c_InvalidNumber) "__init__" = some (some (.ref fI_InvalidNumber)))
    {oc_InvalidNumber kV_InvalidNumber dc_InvalidNumber pm_InvalidNumber cd_InvalidNumber ct_InvalidNumber : Value} {od_InvalidNumber an_InvalidNumber : Option Addr} {sl_InvalidNumber : Array (Option Value)}
    (l_InvalidNumber : K.lookup fI_InvalidNumber = some ⟨oc_InvalidNumber, od_InvalidNumber, .func (PySem.W.fnOf "__init__" "InvalidNumber.__init__" (defArgs s_InvalidNumber__init__) (defBody s_InvalidNumber__init__) (defScope s_InvalidNumber__init__) .none kV_InvalidNumber dc_InvalidNumber pm_InvalidNumber an_InvalidNumber cd_InvalidNumber ct_InvalidNumber), sl_InvalidNumber⟩) (cc_InvalidNumber : PySem.W.codeIn K cd_InvalidNumber "InvalidNumber.__init__" = true) (kk_InvalidNumber : PySem.W.keepIn K (.ref fI_InvalidNumber) = true)
    (k_InvalidNumber : PySem.W.keepIn K (.ref c_InvalidNumber) = true)
    (b_InvalidNumber : PySem.W.subIn K (.ref c_InvalidNumber) (.type "BaseException") = some true)
    (y_InvalidNumber : PySem.W.typeIn K (.ref c_InvalidNumber) = some (.type "type"))
    (q_InvalidNumber : PySem.W.excInitIn K c_InvalidNumber [.type "IndexError", .type "LookupError", .type "Exception", .type "BaseException", .type "object"] "IndexError.__new__" = true)
    (o_InvalidNumber : PySem.W.excOver K c_InvalidNumber [.type "IndexError", .type "LookupError", .type "Exception", .type "BaseException", .type "object"] = true)
    (s_InvalidNumber : PySem.W.findIn K (.ref c_InvalidNumber) "__setattr__" = some (some (.builtin "object.__setattr__")))
    (tk_InvalidNumber : PySem.W.takerIn K c_InvalidNumber "value" = some none)
    (hd_InvalidNumber : PySem.W.hasDictIn K c_InvalidNumber = true)
    (ti_InvalidNumber : PySem.W.typeIn K (.ref fI_InvalidNumber) = some (.type "function"))
    (ga_InvalidNumber : PySem.W.findIn K (.ref c_InvalidNumber) "__getattribute__" = some (some (.builtin "BaseException.__getattribute__")))
    (gg_InvalidNumber : PySem.W.findIn K (.ref c_InvalidNumber) "__getattr__" = some none)
    (no_InvalidNumber : PySem.W.findIn K (.ref c_InvalidNumber) "value" = some none)
    {c_InvalidOperation : Addr} (g_InvalidOperation : PySem.W.nsIn K mainGlobals "InvalidOperation" = some (some (.ref c_InvalidOperation)))
    (k_InvalidOperation : PySem.W.keepIn K (.ref c_InvalidOperation) = true)
    (b_InvalidOperation : PySem.W.subIn K (.ref c_InvalidOperation) (.type "BaseException") = some true)
    (y_InvalidOperation : PySem.W.typeIn K (.ref c_InvalidOperation) = some (.type "type"))
    (x_InvalidOperation : PySem.W.excIn K c_InvalidOperation [.type "ValueError", .type "Exception", .type "BaseException", .type "object"] "ValueError.__new__" = true)
    {c_InvalidSet : Addr} (g_InvalidSet : PySem.W.nsIn K mainGlobals "InvalidSet" = some (some (.ref c_InvalidSet)))
    (k_InvalidSet : PySem.W.keepIn K (.ref c_InvalidSet) = true)
    (b_InvalidSet : PySem.W.subIn K (.ref c_InvalidSet) (.type "BaseException") = some true)
    (y_InvalidSet : PySem.W.typeIn K (.ref c_InvalidSet) = some (.type "type"))
    (x_InvalidSet : PySem.W.excIn K c_InvalidSet [.type "ValueError", .type "Exception", .type "BaseException", .type "object"] "ValueError.__new__" = true)
    {c_ParseError : Addr} (g_ParseError : PySem.W.nsIn K mainGlobals "ParseError" = some (some (.ref c_ParseError)))
    {fI_ParseError : Addr} (i_ParseError : PySem.W.findIn K (.ref c_ParseError) "__init__" = some (some (.ref fI_ParseError)))
    {oc_ParseError kV_ParseError dc_ParseError pm_ParseError cd_ParseError ct_ParseError : Value} {od_ParseError an_ParseError : Option Addr} {sl_ParseError : Array (Option Value)}
    (l_ParseError : K.lookup fI_ParseError = some ⟨oc_ParseError, od_ParseError, .func (PySem.W.fnOf "__init__" "ParseError.__init__" (defArgs s_ParseError__init__) (defBody s_ParseError__init__) (defScope s_ParseError__init__) .none kV_ParseError dc_ParseError pm_ParseError an_ParseError cd_ParseError ct_ParseError), sl_ParseError⟩) (cc_ParseError : PySem.W.codeIn K cd_ParseError "ParseError.__init__" = true) (kk_ParseError : PySem.W.keepIn K (.ref fI_ParseError) = true)
    (k_ParseError : PySem.W.keepIn K (.ref c_ParseError) = true)
    (b_ParseError : PySem.W.subIn K (.ref c_ParseError) (.type "BaseException") = some true)
    (y_ParseError : PySem.W.typeIn K (.ref c_ParseError) = some (.type "type"))
    (q_ParseError : PySem.W.excInitIn K c_ParseError [.type "ValueError", .type "Exception", .type "BaseException", .type "object"] "ValueError.__new__" = true)
    (o_ParseError : PySem.W.excOver K c_ParseError [.type "ValueError", .type "Exception", .type "BaseException", .type "object"] = true)
    (s_ParseError : PySem.W.findIn K (.ref c_ParseError) "__setattr__" = some (some (.builtin "object.__setattr__")))
    (tk_ParseError : PySem.W.takerIn K c_ParseError "number" = some none)
    (hd_ParseError : PySem.W.hasDictIn K c_ParseError = true)
    (ti_ParseError : PySem.W.typeIn K (.ref fI_ParseError) = some (.type "function"))
    (ga_ParseError : PySem.W.findIn K (.ref c_ParseError) "__getattribute__" = some (some (.builtin "BaseException.__getattribute__")))
    (gg_ParseError : PySem.W.findIn K (.ref c_ParseError) "__getattr__" = some none)
    (no_ParseError : PySem.W.findIn K (.ref c_ParseError) "number" = some none)
    (m_InvalidNumber_ParseError : PySem.W.exmOne K (.ref c_InvalidNumber) (.ref c_ParseError) = some false)
    (m_InvalidNumber_InvalidOperation : PySem.W.exmOne K (.ref c_InvalidNumber) (.ref c_InvalidOperation) = some false)
    (m_InvalidNumber_InvalidSet : PySem.W.exmOne K (.ref c_InvalidNumber) (.ref c_InvalidSet) = some false)
    (m_InvalidNumber_InvalidNumber : PySem.W.exmOne K (.ref c_InvalidNumber) (.ref c_InvalidNumber) = some true)
    (m_InvalidSet_ParseError : PySem.W.exmOne K (.ref c_InvalidSet) (.ref c_ParseError) = some false)
    (m_InvalidSet_InvalidOperation : PySem.W.exmOne K (.ref c_InvalidSet) (.ref c_InvalidOperation) = some false)
    (m_InvalidSet_InvalidSet : PySem.W.exmOne K (.ref c_InvalidSet) (.ref c_InvalidSet) = some true)
    (m_InvalidSet_InvalidNumber : PySem.W.exmOne K (.ref c_InvalidSet) (.ref c_InvalidNumber) = some false)
    (m_InvalidOperation_ParseError : PySem.W.exmOne K (.ref c_InvalidOperation) (.ref c_ParseError) = some false)
    (m_InvalidOperation_InvalidOperation : PySem.W.exmOne K (.ref c_InvalidOperation) (.ref c_InvalidOperation) = some true)
    (m_InvalidOperation_InvalidSet : PySem.W.exmOne K (.ref c_InvalidOperation) (.ref c_InvalidSet) = some false)
    (m_InvalidOperation_InvalidNumber : PySem.W.exmOne K (.ref c_InvalidOperation) (.ref c_InvalidNumber) = some false)
    (m_ParseError_ParseError : PySem.W.exmOne K (.ref c_ParseError) (.ref c_ParseError) = some true)
    (m_ParseError_InvalidOperation : PySem.W.exmOne K (.ref c_ParseError) (.ref c_InvalidOperation) = some false)
    (m_ParseError_InvalidSet : PySem.W.exmOne K (.ref c_ParseError) (.ref c_InvalidSet) = some false)
    (m_ParseError_InvalidNumber : PySem.W.exmOne K (.ref c_ParseError) (.ref c_InvalidNumber) = some false)
    {cc__law_right P__law_right : Addr} (hc__law_right : cd__law_right = .ref cc__law_right) {o2__law_right : Value} {d2__law_right : Option Addr} {s2__law_right : Array (Option Value)} {vs__law_right : Array Value} (lk__law_right : K.lookup cc__law_right = some ⟨o2__law_right, d2__law_right, .fields vs__law_right, s2__law_right⟩) (vp__law_right : vs__law_right[11]? = some (.ref P__law_right))
    {cc__law_others_right P__law_others_right : Addr} (hc__law_others_right : cd__law_others_right = .ref cc__law_others_right) {o2__law_others_right : Value} {d2__law_others_right : Option Addr} {s2__law_others_right : Array (Option Value)} {vs__law_others_right : Array Value} (lk__law_others_right : K.lookup cc__law_others_right = some ⟨o2__law_others_right, d2__law_others_right, .fields vs__law_others_right, s2__law_others_right⟩) (vp__law_others_right : vs__law_others_right[11]? = some (.ref P__law_others_right))
    {cc_law P_law : Addr} (hc_law : cd_law = .ref cc_law) {o2_law : Value} {d2_law : Option Addr} {s2_law : Array (Option Value)} {vs_law : Array Value} (lk_law : K.lookup cc_law = some ⟨o2_law, d2_law, .fields vs_law, s2_law⟩) (vp_law : vs_law[11]? = some (.ref P_law))
    (hd__law_right : PySem.W.codeHdIn K cc__law_right P__law_right = true) (np__law_right : K.lookup P__law_right = none) (mt__law_right : h.get? P__law_right = some { cls := .none, data := .fields #[] })
    (hd__law_others_right : PySem.W.codeHdIn K cc__law_others_right P__law_others_right = true) (np__law_others_right : K.lookup P__law_others_right = none) (mt__law_others_right : h.get? P__law_others_right = some { cls := .none, data := .fields #[] })
    (hd_law : PySem.W.codeHdIn K cc_law P_law = true) (np_law : K.lookup P_law = none) (mt_law : h.get? P_law = some { cls := .none, data := .fields #[] })
    (nd : [P__law_right, P__law_others_right, P_law].Nodup) : ∃ t : Tx K mg, (Tb.adr (tbsOf t)).Nodup ∧ ∀ p ∈ tbsOf t, TbOk K h p := by
  obtain ⟨t, e1__law_right, e2__law_right, e1__law_others_right, e2__law_others_right, e1_law, e2_law, _⟩ := tx_of X G n__law_dice l__law_dice c__law_dice k__law_dice n__law_met l__law_met c__law_met k__law_met n_is_integer l_is_integer c_is_integer k_is_integer n_is_count l_is_count c_is_count k_is_count n_is_width l_is_width c_is_width k_is_width n_require_width l_require_width c_require_width k_require_width n_contains l_contains c_contains k_contains n_are_least l_are_least c_are_least k_are_least n_are_places l_are_places c_are_places k_are_places n_is_set_of l_is_set_of c_is_set_of k_is_set_of n_is_family_of l_is_family_of c_is_family_of k_is_family_of n_require_family l_require_family c_require_family k_require_family n_least_in l_least_in c_least_in k_least_in n_do_meet l_do_meet c_do_meet k_do_meet n_all_sets l_all_sets c_all_sets k_all_sets n_dual_family l_dual_family c_dual_family k_dual_family n_holds_one l_holds_one c_holds_one k_holds_one n_completed l_completed c_completed k_completed n__law_roll l__law_roll c__law_roll k__law_roll n__law_pick l__law_pick c__law_pick k__law_pick n__law_limit l__law_limit c__law_limit k__law_limit n__law_first l__law_first c__law_first k__law_first n_blocks_of l_blocks_of c_blocks_of k_blocks_of n_set_text l_set_text c_set_text k_set_text n_family_text l_family_text c_family_text k_family_text n_write_family l_write_family c_write_family k_write_family n_require_both l_require_both c_require_both k_require_both n_either l_either c_either k_either n_both l_both c_both k_both n_require_places l_require_places c_require_places k_require_places n_is_held l_is_held c_is_held k_is_held n_rest_of l_rest_of c_rest_of k_rest_of n_moved_family l_moved_family c_moved_family k_moved_family n_are_turns l_are_turns c_are_turns k_are_turns n_placed l_placed c_placed k_placed n_is_set l_is_set c_is_set k_is_set n_is_family l_is_family c_is_family k_is_family n__law_right l__law_right c__law_right k__law_right n_least_of l_least_of c_least_of k_least_of n_set_in l_set_in c_set_in k_set_in n_family_in l_family_in c_family_in k_family_in n_read_family l_read_family c_read_family k_read_family n__law_others_right l__law_others_right c__law_others_right k__law_others_right n_law l_law c_law k_law g_BLANK g_FIGURES g_LIMIT g_MAX_WIDTH g_MIN_WIDTH z_abs z_all z_any z_bool z_int z_isinstance z_len z_max z_min z_range z_repr z_set z_sorted z_str z_tuple z_zip g_InvalidNumber i_InvalidNumber l_InvalidNumber cc_InvalidNumber kk_InvalidNumber k_InvalidNumber b_InvalidNumber y_InvalidNumber q_InvalidNumber o_InvalidNumber s_InvalidNumber tk_InvalidNumber hd_InvalidNumber ti_InvalidNumber ga_InvalidNumber gg_InvalidNumber no_InvalidNumber g_InvalidOperation k_InvalidOperation b_InvalidOperation y_InvalidOperation x_InvalidOperation g_InvalidSet k_InvalidSet b_InvalidSet y_InvalidSet x_InvalidSet g_ParseError i_ParseError l_ParseError cc_ParseError kk_ParseError k_ParseError b_ParseError y_ParseError q_ParseError o_ParseError s_ParseError tk_ParseError hd_ParseError ti_ParseError ga_ParseError gg_ParseError no_ParseError m_InvalidNumber_ParseError m_InvalidNumber_InvalidOperation m_InvalidNumber_InvalidSet m_InvalidNumber_InvalidNumber m_InvalidSet_ParseError m_InvalidSet_InvalidOperation m_InvalidSet_InvalidSet m_InvalidSet_InvalidNumber m_InvalidOperation_ParseError m_InvalidOperation_InvalidOperation m_InvalidOperation_InvalidSet m_InvalidOperation_InvalidNumber m_ParseError_ParseError m_ParseError_InvalidOperation m_ParseError_InvalidSet m_ParseError_InvalidNumber hc__law_right lk__law_right vp__law_right hc__law_others_right lk__law_others_right vp__law_others_right hc_law lk_law vp_law
  refine ⟨t, ?_, fun p hp => ?_⟩
  · show [t.P__law_right, t.P__law_others_right, t.P_law].Nodup
    rw [e2__law_right, e2__law_others_right, e2_law]
    exact nd
  · unfold tbsOf at hp
    rcases List.mem_cons.mp hp with rfl | hp
    · exact tbOk_by X t.tb__law_right (by rw [e1__law_right, e2__law_right]; exact hd__law_right) (by rw [e2__law_right]; exact np__law_right) (by rw [e2__law_right]; exact mt__law_right)
    rcases List.mem_cons.mp hp with rfl | hp
    · exact tbOk_by X t.tb__law_others_right (by rw [e1__law_others_right, e2__law_others_right]; exact hd__law_others_right) (by rw [e2__law_others_right]; exact np__law_others_right) (by rw [e2__law_others_right]; exact mt__law_others_right)
    rcases List.mem_cons.mp hp with rfl | hp
    · exact tbOk_by X t.tb_law (by rw [e1_law, e2_law]; exact hd_law) (by rw [e2_law]; exact np_law) (by rw [e2_law]; exact mt_law)
    cases hp
theorem walk {l : PySem.W.OpenLaw} {q : Program} {loose : List Str} {XP : (Str → Option Value) → Heap → Prop} {YP : World → Heap → Prop} {d : DefRec} {K : Params → PySem.W.Frag} (hn : l.most = some 63) (hdf : d.params.defaults = []) (hd : d.name = "law")
    (hY : ∀ (w : World) (h : Heap), YP w h → (K w.params).In h) (F : ∀ (w : World) (mg : Str → Option Value) (h : Heap), YP w h → (K w.params).In h → h.Ns mainGlobals mg → ∃ t : Tx (K w.params) mg, (Tb.adr (tbsOf t)).Nodup ∧ ∀ p ∈ tbsOf t, TbOk (K w.params) h p)
    (h : ∀ ns : List Int, ns.length ≤ 63 → ∃ st, m_law [.scr (ns.map D.int)] ((["_law_right", "_law_others_right", "law"] : List Str).map C.tab) = .ok (.bl true) st) : PySem.W.WalkO q loose XP YP l.row.toRowW d [] (fun f vs => PySem.call f vs) :=
  law_walkT (n := 63) (k := 12) (x := "script") (ys := (["_law_right", "_law_others_right", "law"] : List Str)) hn (by decide) hdf ⟨⟨rfl, by decide, by decide⟩, rfl⟩ hY (fun w mg fa hp hYw h1 h2 h3 => by
    obtain ⟨t, nd, tb⟩ := F w mg hp hYw h1 h2
    rw [hd] at h3
    have e : fa = t.a_law := by
      have := h3.symm.trans t.d_law.mg
      cases this
      rfl
    subst e
    refine ⟨t.f_law, tbsOf t, ctOf t, rfl, nd, tb, fun s u => ?_, fun base _ _ hB => ok_law t ⟨hB ("_law_right", t.cd__law_right, t.P__law_right) (by simp [tbsOf]), hB ("_law_others_right", t.cd__law_others_right, t.P__law_others_right) (by simp [tbsOf]), hB ("law", t.cd_law, t.P_law) (by simp [tbsOf])⟩⟩
    obtain ⟨_, _, kV, doc, pm, an, cdv, ct, _, e, _, _⟩ := t.d_law.fn.ex
    rw [e]
    exact .of_eq rfl) h
end G
local macro_rules | `(tactic| walk_at "ev") => `(tactic| simp only [L3.R.go_ok, L3.R.go_ex, L3.R.go_bad, L3.R.ofO_some, L3.R.ofO_none, L3.R.toS_ok, L3.R.toS_ex, L3.R.toS_bad, L3.SR.go_nx, L3.SR.go_rt, L3.SR.go_bk, L3.SR.go_ct, L3.SR.go_ex, L3.SR.go_bad, L3.SR.out_nx, L3.SR.out_rt, L3.SR.out_ex, L3.ev_bind, L3.ev_opt, L3.ev_rd, L3.ev_pure, L3.ev_badM, L3.SR.ofO_some, L3.ev_var, L3.ev_c, L3.ev_asB, L3.ev_bin, L3.ev_kB1, L3.ev_kB2, L3.ev_un, L3.ev_kU, L3.ev_and, L3.ev_kAnd, L3.ev_kAnd2_t, L3.ev_kAnd2_f, L3.ev_or, L3.ev_kOr, L3.ev_kOr2_t, L3.ev_kOr2_f, L3.ev_not, L3.ev_kNot, L3.ev_if, L3.ev_kIf_t, L3.ev_kIf_f, L3.ev_bE, L3.ev_bAnd, L3.ev_kbAnd_t, L3.ev_kbAnd_f, L3.ev_bOr, L3.ev_kbOr_t, L3.ev_kbOr_f, L3.ev_bNot, L3.ev_kbNot, L3.ev_aNil, L3.ev_aCons, L3.ev_kA1, L3.ev_kA2, L3.ev_tup, L3.ev_kTup, L3.ev_lst, L3.ev_kLst, L3.ev_lstC, L3.ev_kLstC, L3.ev_call, L3.ev_kCall, L3.ev_app, L3.ev_chain, L3.ev_kC1, L3.ev_kC2, L3.ev_kC3, L3.ev_kC4_t, L3.ev_kC4_f, L3.ev_sNext, L3.ev_sSeq, L3.ev_sE, L3.ev_sSet, L3.ev_kSet, L3.ev_sExpr, L3.ev_kExpr, L3.ev_sRet, L3.ev_kRet, L3.ev_sRetN, L3.ev_sBreak, L3.ev_sCont, L3.ev_sIf, L3.ev_kIfS_t, L3.ev_kIfS_f, L3.ev_sAsg, L3.ev_kAsg1, L3.ev_kAsg2, L3.ev_kAsg3, L3.ev_sPar, L3.ev_kP1, L3.ev_kP2, L3.ev_sPar3, L3.ev_kQ1, L3.ev_kQ2, L3.ev_kQ3, L3.ev_sSub, L3.ev_kS1, L3.ev_kS2, L3.ev_kS3, L3.ev_sFor, L3.ev_kFor, L3.ev_range1, L3.ev_range2, L3.ev_kR2a, L3.ev_seqT, L3.ev_kST, L3.ev_seqL, L3.ev_kSL, L3.ev_kSR, L3.ev_kSC, L3.ev_lc, L3.ev_kL1, L3.ev_kL2, L3.ev_fun0, L3.ev_fun1, L3.ev_fun2, L3.ev_fun3, L3.ev_fun4, L3.ev_fun5, L3.ev_seq, L3.ev_ixO, L3.ev_atI0, L3.ev_atI1, L3.ev_atI2, L3.ev_setAt, L3.ev_addII, L3.ev_addSS, L3.ev_addTT, L3.ev_addLL, L3.ev_subII, L3.ev_fdivII, L3.ev_modII, L3.ev_powII, L3.ev_negI, L3.ev_ltII, L3.ev_leII, L3.ev_gtII, L3.ev_geII, L3.ev_ltSS, L3.ev_leSS, L3.ev_abs, L3.ev_max, L3.ev_min, L3.ev_intI, L3.ev_intB, L3.ev_strI, L3.ev_lenS, L3.ev_lenT, L3.ev_lenL, L3.ev_lenR, L3.ev_ixT, L3.ev_ixL, L3.ev_ixR, L3.ev_ixC, L3.ev_ixS, L3.ev_setIx, L3.ev_setO0, L3.ev_setO1, L3.ev_setO2, L3.ev_lenC, L3.kit_NoneType_int, L3.kit_NoneType_bool, L3.kit_NoneType_str, L3.kit_NoneType_tuple, L3.kit_NoneType_list, L3.kit_NoneType_dict, L3.kit_bool_int, L3.kit_bool_bool, L3.kit_bool_str, L3.kit_bool_tuple, L3.kit_bool_list, L3.kit_bool_dict, L3.kit_int_int, L3.kit_int_bool, L3.kit_int_str, L3.kit_int_tuple, L3.kit_int_list, L3.kit_int_dict, L3.kit_str_int, L3.kit_str_bool, L3.kit_str_str, L3.kit_str_tuple, L3.kit_str_list, L3.kit_str_dict, L3.kit_tuple_int, L3.kit_tuple_bool, L3.kit_tuple_str, L3.kit_tuple_tuple, L3.kit_tuple_list, L3.kit_tuple_dict, L3.kit_list_int, L3.kit_list_bool, L3.kit_list_str, L3.kit_list_tuple, L3.kit_list_list, L3.kit_list_dict, L3.kit_dict_int, L3.kit_dict_bool, L3.kit_dict_str, L3.kit_dict_tuple, L3.kit_dict_list, L3.kit_dict_dict, L3.ev_isi', L3.ev_isi_non, L3.ev_isi_bl, L3.ev_isi_int, L3.ev_isi_str, L3.ev_isi_tup, L3.ev_isi_lst, L3.ev_isi_scr, L3.ev_isi_dic, L3.ev_fits_00, L3.ev_fits_01, L3.ev_fits_02, L3.ev_fits_03, L3.ev_fits_04, L3.ev_fits_05, L3.ev_fits_06, L3.ev_fits_07, L3.ev_fits_08, L3.ev_fits_09, L3.ev_fits_10, L3.ev_fits_11, L3.ev_fits_12, L3.ev_fits_13, L3.ev_fits_14, L3.ev_fits_15, L3.ev_fits_16, L3.ev_fits_17, L3.ev_fits_18, L3.ev_fits_19, L3.ev_fits_20, L3.ev_fits_21, L3.ev_fits_22, L3.ev_fits_23, L3.ev_fits_24, L3.ev_fits_25, L3.ev_fits_26, L3.ev_fits_27, L3.ev_fits_28, L3.ev_fits_29, L3.ev_fits_30, L3.ev_fits_31, L3.ev_fits_32, L3.ev_eqII, L3.ev_neII, L3.ev_eqSS, L3.ev_neSS, L3.ev_sRaise, L3.ev_sRaiseF, L3.ev_kRaise, L3.ev_meth, L3.ev_kM1c, L3.ev_isSome, L3.ev_kM2_append, L3.ev_kM2_extend, L3.ev_sls, L3.ev_sl, L3.ev_kSl1, L3.ev_kSl2, L3.ev_kSl3T, L3.ev_kSl3L, L3.ev_kSl3S, L3.ev_pNo, L3.ev_pInt, L3.ev_kPI, L3.ev_revT, L3.ev_revL, L3.ev_revC, L3.ev_listT, L3.ev_listL, L3.ev_listC, L3.ev_tupT, L3.ev_tupL, L3.ev_tupC, L3.ev_divmod, L3.ev_allB, L3.ev_anyB, L3.ev_enum, L3.ev_kEnL, L3.ev_kEnC, L3.ev_zip, L3.ev_kZ1, L3.ev_kZ2T, L3.ev_kZ2L, L3.ev_aug, L3.ev_augO, L3.ev_kAug, L3.ev_augR, L3.ev_addI, L3.ev_mulI, L3.ev_sTry, L3.try_nx, L3.try_rt, L3.try_ex, L3.bel_non, L3.bel_bl, L3.bel_int, L3.bel_str, L3.bel_tup, L3.bel_lst, L3.bel_scr, L3.bel_dic, L3.bel_cell, L3.bels_nil, L3.bels_cons, L3.belk_nil, L3.belk_cons, L3.bels_ints, L3.bels_strs, L3.bels_bls, L3.bel_row, L3.bels_rows, L3.bels_append, L3.bels_rng, L3.ev_iso, L3.ev_isoP, L3.ev_gcC, L3.ev_isoX, L3.ev_ltAII, L3.ev_ltATT, L3.ev_ltARR, L3.ev_kM1s, L3.ev_kM1l, L3.ev_joinL, L3.ev_joinT, L3.ev_split, L3.ev_sindex, L3.ev_aStar, L3.ev_kSt0T, L3.ev_kSt0L, L3.ev_kSt2, L3.ev_eLstRg1, L3.ev_eTupRg1, L3.ev_kLR1, L3.ev_kTR1, L3.ev_eListC, L3.ev_kLC0T, L3.ev_kLC0L, L3.ev_eLstRgC1, L3.ev_kLRC, L3.ev_lc2, L3.ev_kL12, L3.ev_sortI, L3.ev_sortR, L3.ev_ssetR, L3.ev_ssetI, L3.ev_lsetI, L3.ev_seqA, L3.ev_kSAT, L3.ev_kSAL, L3.ev_kSAR, L3.ev_kSAS, L3.ev_mapSrc, L3.ev_kSAC, L3.ev_signsLit, L3.ev_intAI, L3.ev_intAB, L3.ev_isA_bb, L3.ev_notA_bb, L3.ev_isA_non, L3.ev_notA_non, L3.ev_isA_bn, L3.ev_isA_in, L3.ev_isA_sn, L3.ev_isA_tn, L3.ev_isA_ln, L3.ev_notA_bn, L3.ev_notA_in, L3.ev_notA_sn, L3.ev_notA_tn, L3.ev_notA_ln, L3.ev_kSA_row, L3.ev_isi_row, L3.ev_len_row, L3.ev_rev_row, L3.ev_list_row, L3.ev_tuple_row, L3.ev_tuple_ints, L3.ev_kSl3_row, L3.ev_add_row, L3.ev_add_row1, L3.ev_kSt0_row, L3.ev_kZ2_row, L3.ev_kSl3C, L3.ev_kAsgU2, L3.ev_kAsgU3, L3.ev_reprA, L3.ev_reprN, L3.ev_reprE, L3.ev_lamV, L3.ev_eqA, L3.forget, List.foldr_cons, List.foldr_nil, Bool.not_not, L3.orO_some, L3.orO_none, L3.lstOf_lst, L3.tupOf_tup, L3.join_some, List.replicate, eq_self, Int.reduceEq, Int.reduceLT, Int.reduceLE, Int.reduceAdd, Int.reduceSub, Int.reduceMul, Int.reduceNeg, Nat.reduceLeDiff, Nat.reduceEqDiff, Bool.and_true, Bool.true_and, Bool.and_false, Bool.false_and, List.set_set, Int.cast_ofNat_Int, and_self, Option.join_some, Option.map_some, Option.map_none, Nat.reduceSub, Nat.reduceAdd, List.set_cons_zero, List.set_cons_succ, List.set_nil, List.getElem?_cons_zero, List.getElem?_cons_succ, List.length_cons, List.length_nil, List.length_append, List.nil_append, List.cons_append, decide_true, decide_false, if_true, if_false, ↓reduceIte, Bool.false_eq_true, Bool.not_true, Bool.not_false, List.map_cons, List.map_nil, L3.ev_isoC, Bool.decide_eq_true, Bool.decide_eq_false, Function.comp_apply, List.append_nil, Nat.add_zero, L3.ev_mulII', L3.ev_kR1, L3.ev_kR2b, L3.lstOf_seq, *])
namespace G
open PySem PySem.Spec PyProof.Rows L2 L3
/-! ## The dice -/
def DiceAt (st : Sto) (n : Nat) (N : Int) : Prop := ∃ a b c : Int, st[n]? = some (.lst [.int a, .int b, .int c]) ∧ 0 ≤ a ∧ a < 10 ^ 120 ∧ 0 ≤ b ∧ b < 2 ^ 100 ∧ 0 ≤ c ∧ c ≤ N
theorem DiceAt.mono {st : Sto} {n : Nat} {N M : Int} (h : DiceAt st n N) (hm : N ≤ M) : DiceAt st n M := by
  obtain ⟨a, b, c, h1, h2, h3, h4, h5, h6, h7⟩ := h
  exact ⟨a, b, c, h1, h2, h3, h4, h5, h6, Int.le_trans h7 hm⟩
theorem dice_cell (ns : List Int) (hn : ns.length ≤ 63) (spot : Nat) (hs : spot ≤ 1000) (cell : Int) (st : Sto)
    (hc : (spot < ns.length ∧ ns[spot]? = some cell) ∨ (¬ spot < ns.length ∧ cell = 67 * spot + 23)) :
    ∃ a b : Int, m__law_dice [.scr (ns.map .int), .int spot] st = .ok (.cell st.length) (st ++ [.lst [.int a, .int b, .int 0]]) ∧ 0 ≤ a ∧ a < 10 ^ 120 ∧ 0 ≤ b ∧ b < 2 ^ 66 := by
  have hp1 : powOk 10 15 = true := by decide
  have hp2 : powOk 10 60 = true := by decide
  have hm1 : mulOk (10 ^ Int.toNat 60) (10 ^ Int.toNat 60) = true := by decide +kernel
  have hd1 : ∀ x, modOk x (10 ^ Int.toNat 60 * 10 ^ Int.toNat 60) = true := fun x => modOk_of (by decide)
  have hd2 : ∀ x, modOk x 1152921504606846959 = true := fun x => modOk_of (by decide)
  have hm2 : ∀ x : Int, mulOk (x % 1152921504606846959) 41 = true := fun x => mulOk_of (n := 61) (m := 6) (emod_abs (by decide) (by decide)) (by decide) (by decide) (by decide) (by decide)
  have hm3 : mulOk 907 (spot : Int) = true := mulOk_of (n := 10) (m := 10) (by decide) (by omega) (by decide) (by decide) (by decide)
  have hm4 : mulOk 67 (spot : Int) = true := mulOk_of (n := 10) (m := 10) (by decide) (by omega) (by decide) (by decide) (by decide)
  have hm5 : mulOk 29 1 = true := by decide
  have hm6 : mulOk 29 0 = true := by decide
  have hb : 0 ≤ ((if cell < 0 then -cell else cell) % 1152921504606846959 * 41 + 907 * spot + 29 * (if cell < 0 then 1 else 0) + 5) ∧ ((if cell < 0 then -cell else cell) % 1152921504606846959 * 41 + 907 * spot + 29 * (if cell < 0 then 1 else 0) + 5) < 2 ^ 66 := by
    omega
  refine ⟨(if (if cell < 0 then -cell else cell) - 10 ^ Int.toNat 15 > (0 : Int) then (if cell < 0 then -cell else cell) - 10 ^ Int.toNat 15 else (0 : Int)) % (10 ^ Int.toNat 60 * 10 ^ Int.toNat 60), (if cell < 0 then -cell else cell) % 1152921504606846959 * 41 + 907 * spot + 29 * (if cell < 0 then 1 else 0) + 5, ?_, Int.emod_nonneg _ (by decide), Int.emod_lt_of_pos _ (by decide), hb.1, hb.2⟩
  have hlen : ((ns.map D.int).length : Int) = (ns.length : Int) := by rw [List.length_map]
  unfold m__law_dice b__law_dice
  rcases hc with ⟨h1, h2⟩ | ⟨h1, h2⟩
  · have hlt : (spot : Int) < ((ns.map D.int).length : Int) := by rw [hlen]; omega
    have hix : atI (ns.map D.int) (spot : Int) = some (.int cell) := L3.atI_nat (by rw [List.getElem?_map, h2]; rfl)
    clear hlen hb h2 h1
    by_cases hneg : cell < 0
    · walk_at "ev"
    · walk_at "ev"
  · have hlt : ¬ (spot : Int) < ((ns.map D.int).length : Int) := by rw [hlen]; omega
    have he : 67 * (spot : Int) + 23 = cell := h2.symm
    clear hlen hb h2 h1
    by_cases hneg : cell < 0
    · walk_at "ev"
    · walk_at "ev"
theorem dice_ok (ns : List Int) (hn : ns.length ≤ 63) (spot : Nat) (hs : spot ≤ 1000) (st : Sto) :
    ∃ s', m__law_dice [.scr (ns.map .int), .int spot] st = .ok (.cell st.length) s' ∧ DiceAt s' st.length 0 ∧ s' = st ++ s'.drop st.length := by
  have key : ∃ cell : Int, (spot < ns.length ∧ ns[spot]? = some cell) ∨ (¬ spot < ns.length ∧ cell = 67 * spot + 23) := by
    by_cases h : spot < ns.length
    · exact ⟨ns[spot], .inl ⟨h, List.getElem?_eq_getElem h⟩⟩
    · exact ⟨_, .inr ⟨h, rfl⟩⟩
  obtain ⟨cell, hc⟩ := key
  obtain ⟨a, b, h, ha, ha', hb, hb'⟩ := dice_cell ns hn spot hs cell st hc
  refine ⟨_, h, ⟨a, b, 0, ?_, ha, ha', hb, Int.lt_trans hb' (by decide), by decide, by decide⟩, ?_⟩
  · rw [List.getElem?_append_right (Nat.le_refl _), Nat.sub_self]; rfl
  · rw [List.drop_left]
theorem bels_at {xs : List D} {d : D} (h : D.bels 0 xs = true) (hd : d ∈ xs) : D.bel 0 d = true := by
  induction xs with
  | nil => cases hd
  | cons x xs ih =>
    rw [bels_cons, Bool.and_eq_true] at h
    rcases List.mem_cons.mp hd with e | hd
    · rw [e]; exact h.1
    · exact ih h.2 hd
theorem DiceAt.len {st : Sto} {n : Nat} {N : Int} (h : DiceAt st n N) : n < st.length := by
  obtain ⟨a, b, c, h1, h2⟩ := h
  by_cases hl : n < st.length
  · exact hl
  · rw [List.getElem?_eq_none (by omega)] at h1; cases h1
theorem DiceAt.bel {st : Sto} {n : Nat} {N M : Int} {c : C} (h : DiceAt (st.set n c) n N) (h0 : DiceAt st n M) : C.bel 0 c = true := by
  obtain ⟨a, b, d, h1, _⟩ := h
  rw [List.getElem?_set_self h0.len] at h1
  cases h1
  simp only [C.bel, bels_cons, bel_int, bels_nil, Bool.and_true]
theorem gc_set {m : List D → M D} {ds : List D} {d : D} {st : Sto} {n : Nat} {c : C} (h : m ds st = .ok d (st.set n c)) (hc : C.bel 0 c = true) (hd : D.bel 0 d = true) : gcD m ds st = .ok d (st.set n c) := by
  refine gc_ok (t := []) (by rw [List.append_nil]; exact h) (by rw [List.length_set]) (fun i x hx => ?_) hd
  by_cases hi : n = i
  · subst hi
    right
    by_cases hl : n < st.length
    · rw [List.getElem?_set_self hl] at hx
      cases hx
      exact hc
    · rw [List.getElem?_eq_none (by simpa using hl)] at hx; cases hx
  · rw [List.getElem?_set_ne hi] at hx
    exact .inl hx
theorem roll_ok (st : Sto) (n : Nat) (N total : Int) (h : DiceAt st n N) (hN : N < 10 ^ 12) (ht : 0 < total) (ht' : total < 2 ^ 2000) :
    ∃ (r : Int) (c : C), m__law_roll [.cell n, .int total] st = .ok (.int r) (st.set n c) ∧ 0 ≤ r ∧ r < total ∧ DiceAt (st.set n c) n (N + 1) := by
  obtain ⟨a, b, c, h1, ha, ha', hb, hb', hc, hc'⟩ := h
  have hmt : ∀ x, modOk x total = true := fun x => modOk_of ht
  have hdt : divOk a total = true := divOk_of (n := 2000) ht (natAbs_lt (by omega) ht') (by decide) (by decide)
  have hset : ∀ v : C, (st.set n v)[n]? = some v := fun v => by rw [ev_setAt, h1]; rfl
  by_cases hp : 0 < a
  · refine ⟨a % total, .lst [.int (a / total), .int b, .int c], ?_, Int.emod_nonneg _ (by omega), Int.emod_lt_of_pos _ ht, ⟨_, _, _, hset _, Int.ediv_nonneg ha (by omega), ?_, hb, hb', hc, by omega⟩⟩
    · refine gc_set ?_ (by simp only [C.bel, bels_cons, bel_int, bels_nil, Bool.and_true]) (bel_int 0 _)
      unfold b__law_roll
      walk_at "ev"
    · exact Int.lt_of_le_of_lt (Int.ediv_le_self _ ha) ha'
  · have hm1 : mulOk 49979687 (c + 1) = true := mulOk_of (n := 30) (m := 42) (by decide) (by omega) (by decide) (by decide) (by decide)
    have hm2 : ∀ x : Int, modOk x 2305843009213693907 = true := fun x => modOk_of (by decide)
    have hm3 : ∀ x : Int, mulOk (x % 2305843009213693907) (x % 2305843009213693907) = true := fun x => mulOk_of (n := 62) (m := 62) (emod_abs (by decide) (by decide)) (emod_abs (by decide) (by decide)) (by decide) (by decide) (by decide)
    have hm4 : mulOk 89 (c + 1) = true := mulOk_of (n := 30) (m := 42) (by decide) (by omega) (by decide) (by decide) (by decide)
    have hm5 : ∀ x : Int, modOk x 1152921504606846847 = true := fun x => modOk_of (by decide)
    have hm6 : ∀ x : Int, mulOk (x % 1152921504606846847) 6700417 = true := fun x => mulOk_of (n := 62) (m := 62) (emod_abs (by decide) (by decide)) (by decide) (by decide) (by decide) (by decide)
    have hm7 : ∀ x : Int, divOk x 131072 = true := fun x => divOk_of (n := 20) (by decide) (by decide) (by decide) (by decide)
    refine ⟨(((b + 49979687 * (c + 1)) % 2305843009213693907 * ((b + 49979687 * (c + 1)) % 2305843009213693907) + 89 * (c + 1)) % 1152921504606846847 * 6700417 + (b + 49979687 * (c + 1)) % 2305843009213693907) / 131072 % total, .lst [.int a, .int b, .int (c + 1)], ?_, Int.emod_nonneg _ (by omega), Int.emod_lt_of_pos _ ht, ⟨a, b, c + 1, hset _, ha, ha', hb, hb', by omega, by omega⟩⟩
    · refine gc_set ?_ (by simp only [C.bel, bels_cons, bel_int, bels_nil, Bool.and_true]) (bel_int 0 _)
      unfold b__law_roll
      walk_at "ev"
theorem pick_ok {st : Sto} {n : Nat} {N : Int} (xs : List D) (h : DiceAt st n N) (hN : N < 10 ^ 12) (hx : 0 < xs.length) (hx' : xs.length < 2 ^ 60) (hp : D.bels 0 xs = true) (y : D) (hy : y = .lst xs ∨ y = .tup xs) :
    ∃ d c, m__law_pick [.cell n, y] st = .ok d (st.set n c) ∧ d ∈ xs ∧ DiceAt (st.set n c) n (N + 1) := by
  obtain ⟨r, c, hr, h0, h1, h2⟩ := roll_ok st n N xs.length h hN (by omega) (by omega)
  obtain ⟨k, rfl⟩ := Int.eq_ofNat_of_zero_le h0
  have hk : k < xs.length := by omega
  have hix : atI xs (k : Int) = some xs[k] := L3.atI_nat (List.getElem?_eq_getElem hk)
  refine ⟨xs[k], c, ?_, List.getElem_mem hk, h2⟩
  have hd : D.bel 0 xs[k] = true := bels_at hp (List.getElem_mem hk)
  have hc : C.bel 0 c = true := DiceAt.bel h2 h
  refine gc_set ?_ hc hd
  rcases hy with rfl | rfl
  · unfold b__law_pick
    walk_at "ev"
  · unfold b__law_pick
    walk_at "ev"
theorem filt_nil {α : Type} (p : α → Bool) (l : List α) : decide (l.filter p = []) = l.all fun x => !p x := by
  rw [Bool.eq_iff_iff, decide_eq_true_eq, List.filter_eq_nil_iff, List.all_eq_true]
  constructor
  · exact fun h x hx => by have := h x hx; simpa using this
  · exact fun h x hx => by have := h x hx; simpa using this
/-! ## Told errors -/
theorem neD_cell {st : Sto} {m : Nat} {L : List D} {y : D} (h : st[m]? = some (.lst L)) : neD st (.cell m) y = neD st (.lst L) y := by
  have e : topPy st (.cell m) = topPy st (.lst L) := by
    show (lstOf st (.cell m)).bind _ = D.py (.lst L)
    rw [lstOf_cell h, D.py]
    rfl
  have e2 : neS (.cell m) y = neS (.lst L) y := by cases y <;> rfl
  unfold neD neP
  rw [e, e2]
theorem eqD_cell {st : Sto} {m : Nat} {L : List D} {y : D} (h : st[m]? = some (.lst L)) : eqD st (.cell m) y = eqD st (.lst L) y := by
  have e : topPy st (.cell m) = topPy st (.lst L) := by
    show (lstOf st (.cell m)).bind _ = D.py (.lst L)
    rw [lstOf_cell h, D.py]
    rfl
  have e2 : eqS (.cell m) y = eqS (.lst L) y := by cases y <;> rfl
  unfold eqD eqP
  rw [e, e2]
/-! ## Pure calls, reckoned once on the empty store -/
def liftR (st : Sto) : R D → R D
  | .ok d _ => .ok d st
  | .ex x _ => .ex x st
  | .bad => .bad
theorem iso_lift {m : List D → M D} {ds : List D} (hp : D.bels 0 ds = true) (st : Sto) : isoD m ds st = liftR st (isoD m ds []) := by
  have e : ∀ s, isoD m ds s = isoR s true (gcD m ds []) := fun s => by
    unfold isoD
    rw [if_pos (show D.pures ds = true from hp)]
  rw [e, e]
  cases gcD m ds [] <;> rfl
def strR : R D → Option Str
  | .ok (.str T) _ => some T
  | _ => none
theorem strR_of {r : R D} {T : Str} (h : strR r = some T) (st : Sto) : liftR st r = .ok (.str T) st := by
  cases r with
  | ok d s =>
    cases d with
    | str U =>
      have : U = T := by simpa [strR] using h
      rw [this]
      rfl
    | _ => simp [strR] at h
  | _ => simp [strR] at h
def strO : Option D → Option Str
  | some (.str T) => some T
  | _ => none
theorem strO_of {o : Option D} {T : Str} (h : strO o = some T) : o = some (.str T) := by
  cases o with
  | none => simp [strO] at h
  | some d =>
    cases d with
    | str U =>
      have : U = T := by simpa [strO] using h
      rw [this]
    | _ => simp [strO] at h
/-- a told error with a value -/
def showE : D → Option Str
  | .cell _ => none
  | v => strO (reprA [] [v])
theorem showE_of {v : D} {R : Str} (h : showE v = some R) (st : Sto) : reprA st [v] = some (.str R) := by
  cases v with
  | cell _ => simp [showE] at h
  | non => exact strO_of h
  | bl _ => exact strO_of h
  | int _ => exact strO_of h
  | str _ => exact strO_of h
  | tup _ => exact strO_of h
  | lst _ => exact strO_of h
  | scr _ => exact strO_of h
  | dic _ => exact strO_of h
def allL {α : Type} (l : List α) (p : α → Bool) : Bool := match l with
  | [] => true
  | x :: xs => p x && allL xs p
theorem allL_of {α : Type} {l : List α} {p : α → Bool} (h : allL l p = true) {x : α} (hx : x ∈ l) : p x = true := by
  induction l with
  | nil => cases hx
  | cons y ys ih =>
    rw [allL, Bool.and_eq_true] at h
    rcases List.mem_cons.mp hx with rfl | hx
    · exact h.1
    · exact ih h.2 hx
/-! ## The first word that is not empty -/
def neE (x : Str) : Bool := !decide (x = ("" : Str))
def firstS (l : List Str) : Str := match l.filter neE with
  | [] => ""
  | x :: _ => x
theorem firstS_e (l : List Str) : firstS ("" :: l) = firstS l := by
  unfold firstS
  rw [List.filter_cons_of_neg (by simp [neE])]
theorem firstS_n {x : Str} (h : x ≠ "") (l : List Str) : firstS (x :: l) = x := by
  unfold firstS
  rw [List.filter_cons_of_pos (by simp [neE, h])]
theorem firstS_1 (x : Str) : firstS [x] = x := by
  by_cases h : x = ""
  · rw [h]; rfl
  · exact firstS_n h []
theorem first_ok {l : List Str} (h : ∀ x ∈ l, PyData.strOk x = true) : PyData.strOk (firstS l) = true := by
  unfold firstS
  cases e : l.filter neE with
  | nil => decide +kernel
  | cons x xs =>
    have : x ∈ l.filter neE := by rw [e]; exact List.mem_cons_self
    exact h x (List.mem_filter.mp this).1
theorem first_w {L G : List D} {st : Sto} {x : D} {q : Bool} (h : lcD none (gN 2) (bE (eBin neD (eVar 2) (eC (.str "")))) (eVar 2) [some (.lst L), none, none] L [] st = .ok G st) (hn : neD st (.lst G) (.lst []) = some (.bl q)) (hx : q = true → atI G 0 = some x) (h0 : q = false → x = .str "") : funD 1 3 b__law_first [.lst L] st = .ok x st := by
  unfold b__law_first
  cases q with
  | true =>
    have := hx rfl
    clear hx h0
    walk_at "ev"
  | false =>
    have := h0 rfl
    subst this
    clear hx h0
    walk_at "ev"
theorem bels_strs (k : Nat) : ∀ l : List Str, D.bels k (l.map D.str) = true
  | [] => by simp [D.bels]
  | x :: xs => by rw [List.map_cons, bels_cons, bel_str, bels_strs k xs]; rfl
theorem law_first_ok {l : List Str} (hl : l.length ≤ 1000) (hs : ∀ x ∈ l, PyData.strOk x = true) (st : Sto) : m__law_first [.lst (l.map D.str)] st = .ok (.str (firstS l)) st := by
  have hc : lcD none (gN 2) (bE (eBin neD (eVar 2) (eC (.str "")))) (eVar 2) [some (.lst (l.map D.str)), none, none] (l.map D.str) [] [] = .ok ((l.filter neE).map D.str) [] := by
    refine lcE_filt (fun x => [some (.lst (l.map D.str)), none, some (.str x)]) [] rfl (by omega) (fun _ _ => rfl) (fun x hx => ?_) fun x hx _ => ?_
    · have e : neE x = !decide (x = ("" : Str)) := rfl
      rw [e]
      generalize D.lst (l.map D.str) = L
      walk_at "ev"
    · generalize D.lst (l.map D.str) = L
      walk_at "ev"
  have hcmp : D.cmp 1 (.lst ((l.filter neE).map D.str)) = true := by
    show ((l.filter neE).map D.str).all (D.cmp 0) = true
    rw [List.all_eq_true]
    intro d hd
    obtain ⟨x, hx, rfl⟩ := List.mem_map.mp hd
    exact hs x (List.mem_filter.mp hx).1
  refine iso_ok (s := []) (by rw [bels_cons, bel_lst, bels_strs]; rfl) ?_ (bel_str 0 _)
  unfold firstS
  cases e : l.filter neE with
  | nil =>
    rw [e] at hc hcmp
    exact first_w (q := false) hc (neD_same [] hcmp) (fun z => by cases z) (fun _ => rfl)
  | cons x xs =>
    rw [e] at hc hcmp
    exact first_w (q := true) hc (neD_diff (m := 1) [] hcmp rfl (by simp [D.norm, D.norms])) (fun _ => ev_atI0 _ _) (fun z => by cases z)
/-! ## What a call told -/
def okB : R D → Bool
  | .ok _ _ => true
  | _ => false
def exB (c : Str) : R D → Bool
  | .ex ⟨c', []⟩ _ => decide (c' = c)
  | _ => false
def exvB (c f : Str) (w : D) : R D → Bool
  | .ex ⟨c', [(f', v)]⟩ _ => decide (c' = c) && (decide (f' = f) && D.beq v w)
  | _ => false
theorem okB_of {r : R D} (h : okB r = true) (st : Sto) : ∃ d, liftR st r = .ok d st := by
  cases r with
  | ok d s => exact ⟨d, rfl⟩
  | _ => cases h
theorem exB_of {r : R D} {c : Str} (h : exB c r = true) (st : Sto) : liftR st r = .ex ⟨c, []⟩ st := by
  cases r with
  | ex x s =>
    obtain ⟨c', fs⟩ := x
    cases fs with
    | nil => rw [of_decide_eq_true (show decide (c' = c) = true from h)]; rfl
    | cons _ _ => cases h
  | _ => cases h
theorem exvB_of {r : R D} {c f : Str} {w : D} (h : exvB c f w r = true) (st : Sto) : liftR st r = .ex ⟨c, [(f, w)]⟩ st := by
  cases r with
  | ex x s =>
    obtain ⟨c', fs⟩ := x
    match fs, h with
    | [(f', v)], h =>
      have h : (decide (c' = c) && (decide (f' = f) && D.beq v w)) = true := h
      rw [Bool.and_eq_true, Bool.and_eq_true] at h
      rw [of_decide_eq_true h.1, of_decide_eq_true h.2.1, D.beq_eq h.2.2]
      rfl
  | _ => cases h
def okNB : R D → Bool
  | .ok .non _ => true
  | _ => false
theorem okNB_of {r : R D} (h : okNB r = true) (st : Sto) : liftR st r = .ok .non st := by
  cases r with
  | ok d s => cases d <;> first | rfl | cases h
  | _ => cases h
theorem iso_okB {m : List D → M D} {ds : List D} (hp : D.bels 0 ds = true) (h : okB (isoD m ds []) = true) (st : Sto) : ∃ d, isoD m ds st = .ok d st := by
  rw [iso_lift hp]; exact okB_of h st
theorem iso_okNB {m : List D → M D} {ds : List D} (hp : D.bels 0 ds = true) (h : okNB (isoD m ds []) = true) (st : Sto) : isoD m ds st = .ok .non st := by
  rw [iso_lift hp]; exact okNB_of h st
theorem iso_exB {m : List D → M D} {ds : List D} {c : Str} (hp : D.bels 0 ds = true) (h : exB c (isoD m ds []) = true) (st : Sto) : isoD m ds st = .ex ⟨c, []⟩ st := by
  rw [iso_lift hp]; exact exB_of h st
theorem iso_exvB {m : List D → M D} {ds : List D} {c f : Str} {w : D} (hp : D.bels 0 ds = true) (h : exvB c f w (isoD m ds []) = true) (st : Sto) : isoD m ds st = .ex ⟨c, [(f, w)]⟩ st := by
  rw [iso_lift hp]; exact exvB_of h st
/-! ## What is caught -/
def OutS (r : R D) (st : Sto) (T : Str) : Prop :=
  (∃ d, r = .ok d st ∧ T = "") ∨ (∃ v R, r = .ex ⟨"InvalidNumber", [("value", v)]⟩ st ∧ (∀ s, orO (reprD s [v]) (reprE s [v]) = some (.str R)) ∧ R.length ≤ 5000 ∧ T = "number " ++ R) ∨
  (r = .ex ⟨"InvalidSet", []⟩ st ∧ T = "set") ∨ (r = .ex ⟨"InvalidOperation", []⟩ st ∧ T = "operation") ∨ (r = .ex ⟨"ParseError", [("number", .non)]⟩ st ∧ T = "parse None")
def hs7 : List Hd := (⟨is_InvalidNumber, some 1, fun fs5 => (sRet (eBin addD (eC (.str "number ")) (eCall reprA (aCons (eXf 1 fs5 "value") aNil))))⟩ :: (⟨is_InvalidSet, none, fun _ => (sRet (eC (.str "set")))⟩ :: (⟨is_InvalidOperation, none, fun _ => (sRet (eC (.str "operation")))⟩ :: (⟨is_ParseError, some 1, fun fs2 => (sRet (eBin addD (eC (.str "parse ")) (eCall reprA (aCons (eXf 1 fs2 "number") aNil))))⟩ :: []))))
theorem hand_num {v : D} {st : Sto} {R : Str} (h2 : ∀ s, orO (reprD s [v]) (reprE s [v]) = some (.str R)) (hf : fits (("number " : Str).length + R.length) = true) : handD hs7 ⟨"InvalidNumber", [("value", v)]⟩ [none, none] st = .rt (.str ("number " ++ R)) st := by
  have e : eXf 1 [("value", v)] "value" [none, none] st = .ok v st := rfl
  show unS (some 1) (sRet _ [none, none] st) = _
  have e2 : sRet (eBin addD (eC (.str "number ")) (eCall reprA (aCons (eXf 1 [("value", v)] "value") aNil))) [none, none] st = .rt (.str ("number " ++ R)) st := by
    walk_at "ev"
  rw [e2]
  rfl
theorem met_out {n : Nat} {y : Str} {mb : EM} {env : DEnv} {st : Sto} {T : Str} (h : st[n]? = some (.tab y)) (ho : OutS (mb env st) st T) : eLam n y m__law_met mb env st = .ok (.str T) st := by
  rw [lam_ev h]
  unfold m__law_met funL b__law_met
  rcases ho with ⟨d, e, rfl⟩ | ⟨v, R, e, hr, hl, rfl⟩ | ⟨e, rfl⟩ | ⟨e, rfl⟩ | ⟨e, rfl⟩
  · walk_at "ev"
  · have hH := hand_num (st := st) hr (fits_of (by
      have : ("number " : Str).length = 7 := rfl
      omega))
    unfold hs7 at hH
    clear hr
    walk_at "ev"
  · have hH : handD hs7 ⟨"InvalidSet", []⟩ [none, none] st = .rt (.str "set") st := rfl
    unfold hs7 at hH
    walk_at "ev"
  · have hH : handD hs7 ⟨"InvalidOperation", []⟩ [none, none] st = .rt (.str "operation") st := rfl
    unfold hs7 at hH
    walk_at "ev"
  · have hH : handD hs7 ⟨"ParseError", [("number", .non)]⟩ [none, none] st = .rt (.str "parse None") st := rfl
    unfold hs7 at hH
    walk_at "ev"
/-! ## The menus -/
def c3 : D := .tup [.tup [.int 0, .int 1], .tup [.int 0, .int 2]]
def c0 : D := .tup [.tup [.int 0]]
def widths : List D := [.int 3, .int 3, .int 3, .int 3, .int 4, .int 1, .int 6, .int 0, .non, .bl true, .str "3", .tup [.int 3], .lst [], .int c_LIMIT]
def goodW : List D := [.int 3, .int 4]
def badW : List D := [.int 1, .int 6, .int 0, .non, .bl true, .str "3", .tup [.int 3], .lst [], .int c_LIMIT]
def fams : List D := [c3, c3, c3, c3, c3, .non, .int 0, .str "01", .tup [], .tup [.tup []], .tup [.tup [.int 0], .tup [.int 0, .int 1]], .tup [.tup [.int 1], .tup [.int 0]], .tup [.tup [.int 0, .int 5]], .lst [.tup [.int 0, .int 1]], .tup [.tup [.int 1, .int 0]], .tup [.tup [.bl true]], .tup [.int 0, .int 1], .dic []]
def badF : List D := [.non, .int 0, .str "01", .tup [], .tup [.tup []], .tup [.tup [.int 0], .tup [.int 0, .int 1]], .tup [.tup [.int 1], .tup [.int 0]], .tup [.tup [.int 0, .int 5]], .lst [.tup [.int 0, .int 1]], .tup [.tup [.int 1, .int 0]], .tup [.tup [.bl true]], .tup [.int 0, .int 1], .dic []]
def placs : List D := [.tup [], .tup [.int 0, .int 2], .tup [.int 1], .non, .tup [.int 0, .int 0], .tup [.int 2, .int 1], .lst [.int 0], .tup [.int 5], .tup [.int (-1)], .str "0", .tup [.non], .dic [], .tup [.bl true]]
def goodP : List D := [.tup [], .tup [.int 0, .int 2], .tup [.int 1]]
def badP : List D := [.non, .tup [.int 0, .int 0], .tup [.int 2, .int 1], .lst [.int 0], .tup [.int 5], .tup [.int (-1)], .str "0", .tup [.non], .dic [], .tup [.bl true]]
def turnss : List D := [.non, .tup [.int 0, .int 1], .tup [.int 0, .int 1, .int 1], .lst [.int 0, .int 1, .int 2], .tup [.int 0, .int 1, .int 2, .int 3, .int 4], .tup [.int 0, .int 2, .int 3, .int 5], .str "012", .tup [], .dic [], .tup [.int 0, .int 1, .bl true]]
theorem w_of {x : D} (h : x ∈ widths) : x ∈ goodW ∨ x ∈ badW := by
  unfold widths at h
  unfold goodW badW
  simp only [List.mem_cons, List.not_mem_nil, or_false] at *
  rcases h with h | h | h | h | h | h | h | h | h | h | h | h | h | h <;> simp [h]
theorem f_of {x : D} (h : x ∈ fams) : x = c3 ∨ x ∈ badF := by
  unfold fams at h
  unfold badF
  simp only [List.mem_cons, List.not_mem_nil, or_false] at *
  rcases h with h | h | h | h | h | h | h | h | h | h | h | h | h | h | h | h | h | h <;> simp [h]
theorem p_of {x : D} (h : x ∈ placs) : x ∈ goodP ∨ x ∈ badP := by
  unfold placs at h
  unfold goodP badP
  simp only [List.mem_cons, List.not_mem_nil, or_false] at *
  rcases h with h | h | h | h | h | h | h | h | h | h | h | h | h <;> simp [h]
/-! ## Tables -/
theorem tb2 : allL badW (fun w => exvB "InvalidNumber" "value" w (m_require_width [w] [])) = true := by kernel_rfl
theorem tg2 : allL goodW (fun w => okB (m_blocks_of [w, c3] []) && (okB (m_write_family [w, c3] []) && (okB (m_completed [w, c3] []) && (okB (m_either [w, c3, c0] []) && (okB (m_both [w, c0, c3] []) && (okNB (m_require_width [w] []) && okNB (m_require_family [w, c3] []))))))) = true := by kernel_rfl
theorem tw2 : allL goodW (fun w => allL badF fun f => exB "InvalidSet" (m_require_family [w, f] []) && (okB (m_is_set [w, f] []))) = true := by kernel_rfl
theorem tc2 : allL goodW (fun w => okB (m_is_set [w, c3] []) && okNB (m_require_family [w, c0] [])) = true := by kernel_rfl
theorem tp1 : allL goodW (fun w => allL goodP fun p => okB (m_is_held [w, c3, p] []) && (okB (m_rest_of [w, p] []) && okB (m_is_family [w, p] []))) = true := by kernel_rfl
theorem tp2 : allL goodW (fun w => allL badP fun p => exB "InvalidSet" (m_require_places [w, p] []) && okB (m_is_family [w, p] [])) = true := by kernel_rfl
theorem tt2 : allL goodW (fun w => allL turnss fun t => exB "InvalidOperation" (m_placed [w, c3, t] [])) = true := by kernel_rfl
/-! ## Where they are refused -/
theorem blocks_of_num {w f : D} (h : ∀ st, m_require_width [w] st = .ex ⟨"InvalidNumber", [("value", w)]⟩ st) (hp : D.bels 0 [w, f] = true) (st : Sto) : m_blocks_of [w, f] st = .ex ⟨"InvalidNumber", [("value", w)]⟩ st := by
  refine iso_ex (s := []) hp ?_ (by
    simp only [bels_cons, Bool.and_eq_true] at hp
    simp only [List.map_cons, List.map_nil, bels_cons, bels_nil, hp.1, Bool.and_true])
  unfold b_blocks_of
  clear hp
  walk_at "ev"
theorem write_family_num {w f : D} (h : ∀ st, m_require_width [w] st = .ex ⟨"InvalidNumber", [("value", w)]⟩ st) (hp : D.bels 0 [w, f] = true) (st : Sto) : m_write_family [w, f] st = .ex ⟨"InvalidNumber", [("value", w)]⟩ st := by
  refine iso_ex (s := []) hp ?_ (by
    simp only [bels_cons, Bool.and_eq_true] at hp
    simp only [List.map_cons, List.map_nil, bels_cons, bels_nil, hp.1, Bool.and_true])
  unfold b_write_family
  clear hp
  walk_at "ev"
theorem completed_num {w f : D} (h : ∀ st, m_require_width [w] st = .ex ⟨"InvalidNumber", [("value", w)]⟩ st) (hp : D.bels 0 [w, f] = true) (st : Sto) : m_completed [w, f] st = .ex ⟨"InvalidNumber", [("value", w)]⟩ st := by
  refine iso_ex (s := []) hp ?_ (by
    simp only [bels_cons, Bool.and_eq_true] at hp
    simp only [List.map_cons, List.map_nil, bels_cons, bels_nil, hp.1, Bool.and_true])
  unfold b_completed
  clear hp
  walk_at "ev"
theorem is_held_num {w f p : D} (h : ∀ st, m_require_width [w] st = .ex ⟨"InvalidNumber", [("value", w)]⟩ st) (hp : D.bels 0 [w, f, p] = true) (st : Sto) : m_is_held [w, f, p] st = .ex ⟨"InvalidNumber", [("value", w)]⟩ st := by
  refine iso_ex (s := []) hp ?_ (by
    simp only [bels_cons, Bool.and_eq_true] at hp
    simp only [List.map_cons, List.map_nil, bels_cons, bels_nil, hp.1, Bool.and_true])
  unfold b_is_held
  clear hp
  walk_at "ev"
theorem rest_of_num {w p : D} (h : ∀ st, m_require_width [w] st = .ex ⟨"InvalidNumber", [("value", w)]⟩ st) (hp : D.bels 0 [w, p] = true) (st : Sto) : m_rest_of [w, p] st = .ex ⟨"InvalidNumber", [("value", w)]⟩ st := by
  refine iso_ex (s := []) hp ?_ (by
    simp only [bels_cons, Bool.and_eq_true] at hp
    simp only [List.map_cons, List.map_nil, bels_cons, bels_nil, hp.1, Bool.and_true])
  unfold b_rest_of
  clear hp
  walk_at "ev"
theorem placed_num {w f t : D} (h : ∀ st, m_require_width [w] st = .ex ⟨"InvalidNumber", [("value", w)]⟩ st) (hp : D.bels 0 [w, f, t] = true) (st : Sto) : m_placed [w, f, t] st = .ex ⟨"InvalidNumber", [("value", w)]⟩ st := by
  refine iso_ex (s := []) hp ?_ (by
    simp only [bels_cons, Bool.and_eq_true] at hp
    simp only [List.map_cons, List.map_nil, bels_cons, bels_nil, hp.1, Bool.and_true])
  unfold b_placed
  clear hp
  walk_at "ev"
theorem is_set_num {w f : D} (h : ∀ st, m_require_width [w] st = .ex ⟨"InvalidNumber", [("value", w)]⟩ st) (hp : D.bels 0 [w, f] = true) (st : Sto) : m_is_set [w, f] st = .ex ⟨"InvalidNumber", [("value", w)]⟩ st := by
  refine iso_ex (s := []) hp ?_ (by
    simp only [bels_cons, Bool.and_eq_true] at hp
    simp only [List.map_cons, List.map_nil, bels_cons, bels_nil, hp.1, Bool.and_true])
  unfold b_is_set
  clear hp
  walk_at "ev"
theorem is_family_num {w p : D} (h : ∀ st, m_require_width [w] st = .ex ⟨"InvalidNumber", [("value", w)]⟩ st) (hp : D.bels 0 [w, p] = true) (st : Sto) : m_is_family [w, p] st = .ex ⟨"InvalidNumber", [("value", w)]⟩ st := by
  refine iso_ex (s := []) hp ?_ (by
    simp only [bels_cons, Bool.and_eq_true] at hp
    simp only [List.map_cons, List.map_nil, bels_cons, bels_nil, hp.1, Bool.and_true])
  unfold b_is_family
  clear hp
  walk_at "ev"
theorem require_both_num {w f g : D} (h : ∀ st, m_require_width [w] st = .ex ⟨"InvalidNumber", [("value", w)]⟩ st) (hp : D.bels 0 [w, f, g] = true) (st : Sto) : m_require_both [w, f, g] st = .ex ⟨"InvalidNumber", [("value", w)]⟩ st := by
  refine iso_ex (s := []) hp ?_ (by
    simp only [bels_cons, Bool.and_eq_true] at hp
    simp only [List.map_cons, List.map_nil, bels_cons, bels_nil, hp.1, Bool.and_true])
  unfold b_require_both
  clear hp
  walk_at "ev"
theorem least_of_num {w f : D} (h : ∀ st, m_require_width [w] st = .ex ⟨"InvalidNumber", [("value", w)]⟩ st) (hp : D.bels 0 [w, f] = true) (st : Sto) : m_least_of [w, f] st = .ex ⟨"InvalidNumber", [("value", w)]⟩ st := by
  refine iso_ex (s := []) hp ?_ (by
    simp only [bels_cons, Bool.and_eq_true] at hp
    simp only [List.map_cons, List.map_nil, bels_cons, bels_nil, hp.1, Bool.and_true])
  unfold b_least_of
  clear hp
  walk_at "ev"
theorem read_family_num {w f : D} (h : ∀ st, m_require_width [w] st = .ex ⟨"InvalidNumber", [("value", w)]⟩ st) (hp : D.bels 0 [w, f] = true) (st : Sto) : m_read_family [w, f] st = .ex ⟨"InvalidNumber", [("value", w)]⟩ st := by
  refine iso_ex (s := []) hp ?_ (by
    simp only [bels_cons, Bool.and_eq_true] at hp
    simp only [List.map_cons, List.map_nil, bels_cons, bels_nil, hp.1, Bool.and_true])
  unfold b_read_family
  clear hp
  walk_at "ev"
theorem either_num {w f g : D} (h : ∀ st, m_require_both [w, f, g] st = .ex ⟨"InvalidNumber", [("value", w)]⟩ st) (hp : D.bels 0 [w, f, g] = true) (st : Sto) : m_either [w, f, g] st = .ex ⟨"InvalidNumber", [("value", w)]⟩ st := by
  refine iso_ex (s := []) hp ?_ (by
    simp only [bels_cons, Bool.and_eq_true] at hp
    simp only [List.map_cons, List.map_nil, bels_cons, bels_nil, hp.1, Bool.and_true])
  unfold b_either
  clear hp
  walk_at "ev"
theorem both_num {w f g : D} (h : ∀ st, m_require_both [w, f, g] st = .ex ⟨"InvalidNumber", [("value", w)]⟩ st) (hp : D.bels 0 [w, f, g] = true) (st : Sto) : m_both [w, f, g] st = .ex ⟨"InvalidNumber", [("value", w)]⟩ st := by
  refine iso_ex (s := []) hp ?_ (by
    simp only [bels_cons, Bool.and_eq_true] at hp
    simp only [List.map_cons, List.map_nil, bels_cons, bels_nil, hp.1, Bool.and_true])
  unfold b_both
  clear hp
  walk_at "ev"
theorem blocks_of_set {w f : D} (h : ∀ st, m_require_width [w] st = .ok .non st) (h2 : ∀ st, m_require_family [w, f] st = .ex ⟨"InvalidSet", []⟩ st) (hp : D.bels 0 [w, f] = true) (st : Sto) : m_blocks_of [w, f] st = .ex ⟨"InvalidSet", []⟩ st := by
  refine iso_ex (s := []) hp ?_ (by rfl)
  unfold b_blocks_of
  clear hp
  walk_at "ev"
theorem write_family_set {w f : D} (h : ∀ st, m_require_width [w] st = .ok .non st) (h2 : ∀ st, m_require_family [w, f] st = .ex ⟨"InvalidSet", []⟩ st) (hp : D.bels 0 [w, f] = true) (st : Sto) : m_write_family [w, f] st = .ex ⟨"InvalidSet", []⟩ st := by
  refine iso_ex (s := []) hp ?_ (by rfl)
  unfold b_write_family
  clear hp
  walk_at "ev"
theorem completed_set {w f : D} (h : ∀ st, m_require_width [w] st = .ok .non st) (h2 : ∀ st, m_require_family [w, f] st = .ex ⟨"InvalidSet", []⟩ st) (hp : D.bels 0 [w, f] = true) (st : Sto) : m_completed [w, f] st = .ex ⟨"InvalidSet", []⟩ st := by
  refine iso_ex (s := []) hp ?_ (by rfl)
  unfold b_completed
  clear hp
  walk_at "ev"
theorem is_held_set {w f p : D} (h : ∀ st, m_require_width [w] st = .ok .non st) (h2 : ∀ st, m_require_family [w, f] st = .ex ⟨"InvalidSet", []⟩ st) (hp : D.bels 0 [w, f, p] = true) (st : Sto) : m_is_held [w, f, p] st = .ex ⟨"InvalidSet", []⟩ st := by
  refine iso_ex (s := []) hp ?_ (by rfl)
  unfold b_is_held
  clear hp
  walk_at "ev"
theorem placed_set {w f t : D} (h : ∀ st, m_require_width [w] st = .ok .non st) (h2 : ∀ st, m_require_family [w, f] st = .ex ⟨"InvalidSet", []⟩ st) (hp : D.bels 0 [w, f, t] = true) (st : Sto) : m_placed [w, f, t] st = .ex ⟨"InvalidSet", []⟩ st := by
  refine iso_ex (s := []) hp ?_ (by rfl)
  unfold b_placed
  clear hp
  walk_at "ev"
theorem require_both_set {w f g : D} (h : ∀ st, m_require_width [w] st = .ok .non st) (h2 : ∀ st, m_require_family [w, f] st = .ex ⟨"InvalidSet", []⟩ st) (hp : D.bels 0 [w, f, g] = true) (st : Sto) : m_require_both [w, f, g] st = .ex ⟨"InvalidSet", []⟩ st := by
  refine iso_ex (s := []) hp ?_ (by rfl)
  unfold b_require_both
  clear hp
  walk_at "ev"
theorem require_both_set2 {w f g : D} (h : ∀ st, m_require_width [w] st = .ok .non st) (h2 : ∀ st, m_require_family [w, f] st = .ok .non st) (h3 : ∀ st, m_require_family [w, g] st = .ex ⟨"InvalidSet", []⟩ st) (hp : D.bels 0 [w, f, g] = true) (st : Sto) : m_require_both [w, f, g] st = .ex ⟨"InvalidSet", []⟩ st := by
  refine iso_ex (s := []) hp ?_ (by rfl)
  unfold b_require_both
  clear hp
  walk_at "ev"
theorem either_set {w f g : D} (h : ∀ st, m_require_both [w, f, g] st = .ex ⟨"InvalidSet", []⟩ st) (hp : D.bels 0 [w, f, g] = true) (st : Sto) : m_either [w, f, g] st = .ex ⟨"InvalidSet", []⟩ st := by
  refine iso_ex (s := []) hp ?_ (by rfl)
  unfold b_either
  clear hp
  walk_at "ev"
theorem both_set {w f g : D} (h : ∀ st, m_require_both [w, f, g] st = .ex ⟨"InvalidSet", []⟩ st) (hp : D.bels 0 [w, f, g] = true) (st : Sto) : m_both [w, f, g] st = .ex ⟨"InvalidSet", []⟩ st := by
  refine iso_ex (s := []) hp ?_ (by rfl)
  unfold b_both
  clear hp
  walk_at "ev"
theorem is_held_set2 {w f p : D} (h : ∀ st, m_require_width [w] st = .ok .non st) (h2 : ∀ st, m_require_family [w, f] st = .ok .non st) (h3 : ∀ st, m_require_places [w, p] st = .ex ⟨"InvalidSet", []⟩ st) (hp : D.bels 0 [w, f, p] = true) (st : Sto) : m_is_held [w, f, p] st = .ex ⟨"InvalidSet", []⟩ st := by
  refine iso_ex (s := []) hp ?_ (by rfl)
  unfold b_is_held
  clear hp
  walk_at "ev"
theorem rest_of_set {w p : D} (h : ∀ st, m_require_width [w] st = .ok .non st) (h3 : ∀ st, m_require_places [w, p] st = .ex ⟨"InvalidSet", []⟩ st) (hp : D.bels 0 [w, p] = true) (st : Sto) : m_rest_of [w, p] st = .ex ⟨"InvalidSet", []⟩ st := by
  refine iso_ex (s := []) hp ?_ (by rfl)
  unfold b_rest_of
  clear hp
  walk_at "ev"
/-! ## What each value of the menus tells -/
def WA (w : D) (A : Str) : Prop := (w ∈ goodW ∧ A = "") ∨ (w ∈ badW ∧ ∃ R : Str, (∀ s, orO (reprD s [w]) (reprE s [w]) = some (.str R)) ∧ R.length ≤ 5000 ∧ PyData.strOk R = true ∧ A = "number " ++ R)
def FW (f : D) (T : Str) : Prop := (f = c3 ∧ T = "") ∨ (f ∈ badF ∧ T = "set")
def PB (p : D) (T : Str) : Prop := (p ∈ goodP ∧ T = "") ∨ (p ∈ badP ∧ T = "set")
theorem repr_key (y : D) (h1 : D.shw 1 y = true) (h2 : y.bd ≤ 5000) (h3 : PyData.strOk y.show = true) : ∃ R : Str, (∀ s, orO (reprD s [y]) (reprE s [y]) = some (.str R)) ∧ R.length ≤ 5000 ∧ PyData.strOk R = true := by
  refine ⟨y.show, fun s => ?_, ?_, h3⟩
  · rw [repr_of (n := 1) s h1 (by omega)]
    rfl
  · obtain ⟨p, e1, _, _, _, e5⟩ := shw_py h1
    unfold D.show
    rw [e1]
    exact Nat.le_trans e5 h2
theorem wa_of {w : D} (h : w ∈ widths) : ∃ A, WA w A := by
  rcases w_of h with h | h
  · exact ⟨_, .inl ⟨h, rfl⟩⟩
  · have hb := h
    unfold badW at h
    simp only [List.mem_cons, List.not_mem_nil, or_false] at h
    have key : (∃ R : Str, (∀ s, orO (reprD s [w]) (reprE s [w]) = some (.str R)) ∧ R.length ≤ 5000 ∧ PyData.strOk R = true) → ∃ A, WA w A := fun ⟨R, h1, h2, h3⟩ => ⟨_, .inr ⟨hb, R, h1, h2, h3, rfl⟩⟩
    refine key ?_
    clear key hb
    rcases h with rfl | rfl | rfl | rfl | rfl | rfl | rfl | rfl | rfl
    · exact repr_key _ (by decide +kernel) (by decide +kernel) (ok_int _)
    · exact repr_key _ (by decide +kernel) (by decide +kernel) (ok_int _)
    · exact repr_key _ (by decide +kernel) (by decide +kernel) (ok_int _)
    · exact repr_key _ (by decide +kernel) (by decide +kernel) (by decide +kernel)
    · exact repr_key _ (by decide +kernel) (by decide +kernel) (by decide +kernel)
    · exact repr_key _ (by decide +kernel) (by decide +kernel) (by decide +kernel)
    · exact repr_key _ (by decide +kernel) (by decide +kernel) (by decide +kernel)
    · exact repr_key _ (by decide +kernel) (by decide +kernel) (by decide +kernel)
    · exact repr_key _ (by decide +kernel) (by decide +kernel) (ok_int _)
theorem fw_of {f : D} (h : f ∈ fams) : ∃ T, FW f T := by
  rcases f_of h with h | h
  · exact ⟨_, .inl ⟨h, rfl⟩⟩
  · exact ⟨_, .inr ⟨h, rfl⟩⟩
theorem pb_of {f : D} (h : f ∈ placs) : ∃ T, PB f T := by
  rcases p_of h with h | h
  · exact ⟨_, .inl ⟨h, rfl⟩⟩
  · exact ⟨_, .inr ⟨h, rfl⟩⟩
theorem wa_ok {w : D} {A : Str} (h : WA w A) : PyData.strOk A = true ∧ A.length ≤ 6000 ∧ D.bel 0 w = true := by
  rcases h with ⟨h, rfl⟩ | ⟨h, R, _, h2, h3, rfl⟩
  · exact ⟨by decide +kernel, by decide, allL_of (l := goodW) (p := D.bel 0) (by kernel_rfl) h⟩
  · refine ⟨by rw [ok_app, h3]; decide +kernel, ?_, allL_of (l := badW) (p := D.bel 0) (by kernel_rfl) h⟩
    have e : ("number " ++ R : Str).length = ("number " : Str).length + R.length := Str.length_append _ _
    have : ("number " : Str).length = 7 := rfl
    omega
theorem fw_ok {f : D} {T : Str} (h : FW f T) : (T = "" ∨ T = "set") ∧ D.bel 0 f = true := by
  rcases h with ⟨rfl, rfl⟩ | ⟨h, rfl⟩
  · exact ⟨.inl rfl, by decide +kernel⟩
  · exact ⟨.inr rfl, allL_of (l := badF) (p := D.bel 0) (by kernel_rfl) h⟩
theorem pb_ok {f : D} {T : Str} (h : PB f T) : (T = "" ∨ T = "set") ∧ D.bel 0 f = true := by
  rcases h with ⟨h, rfl⟩ | ⟨h, rfl⟩
  · exact ⟨.inl rfl, allL_of (l := goodP) (p := D.bel 0) (by kernel_rfl) h⟩
  · exact ⟨.inr rfl, allL_of (l := badP) (p := D.bel 0) (by kernel_rfl) h⟩
/-! ## The three words -/
theorem q1_w {n : Nat} {w : D} {A : Str} (h : WA w A) (st : Sto) : q1__law_right [some (.cell n), some w, none, none, none, none, none, none, none, none, none, none] st = .nx [some (.cell n), some w, some (.str A), none, none, none, none, none, none, none, none, none] st := by
  rcases h with ⟨h, rfl⟩ | ⟨h, R, h1, h2, h3, rfl⟩
  · have hi : ∀ s, inD s w (.tup [.int 3, .int 4]) = some (.bl true) := by
      unfold goodW at h
      simp only [List.mem_cons, List.not_mem_nil, or_false] at h
      rcases h with rfl | rfl <;> · intro s; kernel_rfl
    clear h
    unfold q1__law_right
    walk_at "ev"
  · have hi : ∀ s, inD s w (.tup [.int 3, .int 4]) = some (.bl false) := by
      unfold badW at h
      simp only [List.mem_cons, List.not_mem_nil, or_false] at h
      rcases h with rfl | rfl | rfl | rfl | rfl | rfl | rfl | rfl | rfl <;> · intro s; kernel_rfl
    have hF : fits (("number " : Str).length + R.length) = true := fits_of (by
      have : ("number " : Str).length = 7 := rfl
      omega)
    clear h h2 h3
    unfold q1__law_right
    walk_at "ev"
theorem q2_w {f : D} {T : Str} (h : FW f T) (o0 o1 o2 o3 o5 o6 o7 o8 o9 o10 o11 : Option D) (st : Sto) : q2__law_right [o0, o1, o2, o3, some f, o5, o6, o7, o8, o9, o10, o11] st = .nx [o0, o1, o2, o3, some f, some (.str T), o6, o7, o8, o9, o10, o11] st := by
  rcases h with ⟨rfl, rfl⟩ | ⟨h, rfl⟩
  · have hi : ∀ s, orO (eqD s c3 (.tup [.tup [.int 0, .int 1], .tup [.int 0, .int 2]])) (eqT s c3 (.tup [.tup [.int 0, .int 1], .tup [.int 0, .int 2]])) = some (.bl true) := by intro s; kernel_rfl
    unfold q2__law_right
    generalize c3 = f at *
    walk_at "ev"
  · have hi : ∀ s, orO (eqD s f (.tup [.tup [.int 0, .int 1], .tup [.int 0, .int 2]])) (eqT s f (.tup [.tup [.int 0, .int 1], .tup [.int 0, .int 2]])) = some (.bl false) := by
      unfold badF at h
      simp only [List.mem_cons, List.not_mem_nil, or_false] at h
      rcases h with rfl | rfl | rfl | rfl | rfl | rfl | rfl | rfl | rfl | rfl | rfl | rfl | rfl <;> · intro s; kernel_rfl
    clear h
    unfold q2__law_right
    walk_at "ev"
def shP (p : D) : Str := (strO (reprA [] [p])).getD ""
theorem q3_w {f : D} {T : Str} (h : PB f T) (o0 o1 o2 o3 o4 o5 o7 o8 o9 o10 o11 : Option D) (st : Sto) : q3__law_right [o0, o1, o2, o3, o4, o5, some f, o7, o8, o9, o10, o11] st = .nx [o0, o1, o2, o3, o4, o5, some f, some (.str T), o8, o9, o10, o11] st := by
  rcases h with ⟨h, rfl⟩ | ⟨h, rfl⟩
  · have hi : (∀ s, orO (reprD s [f]) (reprE s [f]) = some (.str (shP f))) ∧ ∀ s, inD s (.str (shP f)) (.tup [.str "()", .str "(0, 2)", .str "(1,)"]) = some (.bl true) := by
      unfold goodP at h
      simp only [List.mem_cons, List.not_mem_nil, or_false] at h
      rcases h with rfl | rfl | rfl <;> · constructor <;> · intro s; kernel_rfl
    obtain ⟨h1, h2⟩ := hi
    clear h
    unfold q3__law_right
    walk_at "ev"
  · have hi : (∀ s, orO (reprD s [f]) (reprE s [f]) = some (.str (shP f))) ∧ ∀ s, inD s (.str (shP f)) (.tup [.str "()", .str "(0, 2)", .str "(1,)"]) = some (.bl false) := by
      unfold badP at h
      simp only [List.mem_cons, List.not_mem_nil, or_false] at h
      rcases h with rfl | rfl | rfl | rfl | rfl | rfl | rfl | rfl | rfl | rfl <;> · constructor <;> · intro s; kernel_rfl
    obtain ⟨h1, h2⟩ := hi
    clear h
    unfold q3__law_right
    walk_at "ev"
/-! ## Each call's word -/
theorem req_ok {w : D} (h : w ∈ goodW) (st : Sto) : m_require_width [w] st = .ok .non st := by
  have t := allL_of tg2 h
  simp only [Bool.and_eq_true] at t
  have hw : D.bel 0 w = true := allL_of (l := goodW) (p := D.bel 0) (by kernel_rfl) h
  exact iso_okNB (by rw [bels_cons, hw]; rfl) t.2.2.2.2.2.1 st
theorem req_no {w : D} (h : w ∈ badW) (st : Sto) : m_require_width [w] st = .ex ⟨"InvalidNumber", [("value", w)]⟩ st := by
  have hw : D.bel 0 w = true := allL_of (l := badW) (p := D.bel 0) (by kernel_rfl) h
  exact iso_exvB (by rw [bels_cons, hw]; rfl) (allL_of tb2 h) st
theorem fam_ok {w : D} (h : w ∈ goodW) (st : Sto) : m_require_family [w, c3] st = .ok .non st := by
  have t := allL_of tg2 h
  simp only [Bool.and_eq_true] at t
  have hw : D.bel 0 w = true := allL_of (l := goodW) (p := D.bel 0) (by kernel_rfl) h
  exact iso_okNB (by rw [bels_cons, hw]; decide +kernel) t.2.2.2.2.2.2 st
theorem fam0_ok {w : D} (h : w ∈ goodW) (st : Sto) : m_require_family [w, c0] st = .ok .non st := by
  have t := allL_of tc2 h
  simp only [Bool.and_eq_true] at t
  have hw : D.bel 0 w = true := allL_of (l := goodW) (p := D.bel 0) (by kernel_rfl) h
  exact iso_okNB (by rw [bels_cons, hw]; decide +kernel) t.2 st
theorem fam_no {w f : D} (h : w ∈ goodW) (hf : f ∈ badF) (st : Sto) : m_require_family [w, f] st = .ex ⟨"InvalidSet", []⟩ st := by
  have t := allL_of (allL_of tw2 h) hf
  simp only [Bool.and_eq_true] at t
  have hw : D.bel 0 w = true := allL_of (l := goodW) (p := D.bel 0) (by kernel_rfl) h
  have hf' : D.bel 0 f = true := allL_of (l := badF) (p := D.bel 0) (by kernel_rfl) hf
  exact iso_exB (by rw [bels_cons, hw, bels_cons, hf']; rfl) t.1 st
theorem pla_no {w f : D} (h : w ∈ goodW) (hf : f ∈ badP) (st : Sto) : m_require_places [w, f] st = .ex ⟨"InvalidSet", []⟩ st := by
  have t := allL_of (allL_of tp2 h) hf
  simp only [Bool.and_eq_true] at t
  have hw : D.bel 0 w = true := allL_of (l := goodW) (p := D.bel 0) (by kernel_rfl) h
  have hf' : D.bel 0 f = true := allL_of (l := badP) (p := D.bel 0) (by kernel_rfl) hf
  exact iso_exB (by rw [bels_cons, hw, bels_cons, hf']; rfl) t.1 st
theorem out_num {w : D} {A : Str} {r : R D} {R : Str} {st : Sto} {l : List Str} (hR : ∀ s, orO (reprD s [w]) (reprE s [w]) = some (.str R)) (hl : R.length ≤ 5000) (hA : A = "number " ++ R) (h : r = .ex ⟨"InvalidNumber", [("value", w)]⟩ st) : OutS r st (firstS (A :: l)) := by
  have ne : A ≠ "" := fun z => by
    have e : A.length = ("number " : Str).length + R.length := by rw [hA]; exact Str.length_append _ _
    rw [z] at e
    have : ("number " : Str).length = 7 := rfl
    have : ("" : Str).length = 0 := rfl
    omega
  rw [firstS_n ne]
  exact .inr (.inl ⟨w, R, h, hR, hl, hA⟩)
/-- a call that asks the width, then the family -/
theorem call2 {m : M D} {w f : D} {A T : Str} (hA : WA w A) (hF : FW f T) (h1 : w ∈ badW → ∀ st, m st = .ex ⟨"InvalidNumber", [("value", w)]⟩ st) (h2 : w ∈ goodW → f ∈ badF → ∀ st, m st = .ex ⟨"InvalidSet", []⟩ st) (h3 : w ∈ goodW → f = c3 → ∀ st, ∃ d, m st = .ok d st) (st : Sto) : OutS (m st) st (firstS [A, T]) := by
  rcases hA with ⟨hw, rfl⟩ | ⟨hw, R, r1, r2, _, r4⟩
  · rw [firstS_e, firstS_1]
    rcases hF with ⟨hf, rfl⟩ | ⟨hf, rfl⟩
    · obtain ⟨d, e⟩ := h3 hw hf st
      exact .inl ⟨d, e, rfl⟩
    · exact .inr (.inr (.inl ⟨h2 hw hf st, rfl⟩))
  · exact out_num r1 r2 r4 (h1 hw st)
theorem callP {m : M D} {w p : D} {A T : Str} (hA : WA w A) (hF : PB p T) (h1 : w ∈ badW → ∀ st, m st = .ex ⟨"InvalidNumber", [("value", w)]⟩ st) (h2 : w ∈ goodW → p ∈ badP → ∀ st, m st = .ex ⟨"InvalidSet", []⟩ st) (h3 : w ∈ goodW → p ∈ goodP → ∀ st, ∃ d, m st = .ok d st) (st : Sto) : OutS (m st) st (firstS [A, T]) := by
  rcases hA with ⟨hw, rfl⟩ | ⟨hw, R, r1, r2, _, r4⟩
  · rw [firstS_e, firstS_1]
    rcases hF with ⟨hf, rfl⟩ | ⟨hf, rfl⟩
    · obtain ⟨d, e⟩ := h3 hw hf st
      exact .inl ⟨d, e, rfl⟩
    · exact .inr (.inr (.inl ⟨h2 hw hf st, rfl⟩))
  · exact out_num r1 r2 r4 (h1 hw st)
theorem call3 {m : M D} {w f p : D} {A T U : Str} (hA : WA w A) (hF : FW f T) (hP : PB p U) (h1 : w ∈ badW → ∀ st, m st = .ex ⟨"InvalidNumber", [("value", w)]⟩ st) (h2 : w ∈ goodW → f ∈ badF → ∀ st, m st = .ex ⟨"InvalidSet", []⟩ st) (h3 : w ∈ goodW → f = c3 → p ∈ badP → ∀ st, m st = .ex ⟨"InvalidSet", []⟩ st) (h4 : w ∈ goodW → f = c3 → p ∈ goodP → ∀ st, ∃ d, m st = .ok d st) (st : Sto) : OutS (m st) st (firstS [A, T, U]) := by
  rcases hA with ⟨hw, rfl⟩ | ⟨hw, R, r1, r2, _, r4⟩
  · rw [firstS_e]
    rcases hF with ⟨hf, rfl⟩ | ⟨hf, rfl⟩
    · rw [firstS_e, firstS_1]
      rcases hP with ⟨hp, rfl⟩ | ⟨hp, rfl⟩
      · obtain ⟨d, e⟩ := h4 hw hf hp st
        exact .inl ⟨d, e, rfl⟩
      · exact .inr (.inr (.inl ⟨h3 hw hf hp st, rfl⟩))
    · rw [firstS_n (by decide +kernel)]
      exact .inr (.inr (.inl ⟨h2 hw hf st, rfl⟩))
  · exact out_num r1 r2 r4 (h1 hw st)
theorem callT {m : M D} {w f : D} {A T : Str} (hA : WA w A) (hF : FW f T) (h1 : w ∈ badW → ∀ st, m st = .ex ⟨"InvalidNumber", [("value", w)]⟩ st) (h2 : w ∈ goodW → f ∈ badF → ∀ st, m st = .ex ⟨"InvalidSet", []⟩ st) (h3 : w ∈ goodW → f = c3 → ∀ st, m st = .ex ⟨"InvalidOperation", []⟩ st) (st : Sto) : OutS (m st) st (firstS [A, T, "operation"]) := by
  rcases hA with ⟨hw, rfl⟩ | ⟨hw, R, r1, r2, _, r4⟩
  · rw [firstS_e]
    rcases hF with ⟨hf, rfl⟩ | ⟨hf, rfl⟩
    · rw [firstS_e, firstS_1]
      exact .inr (.inr (.inr (.inl ⟨h3 hw hf st, rfl⟩)))
    · rw [firstS_n (by decide +kernel)]
      exact .inr (.inr (.inl ⟨h2 hw hf st, rfl⟩))
  · exact out_num r1 r2 r4 (h1 hw st)
theorem call1 {m : M D} {w : D} {A : Str} (hA : WA w A) (h1 : w ∈ badW → ∀ st, m st = .ex ⟨"InvalidNumber", [("value", w)]⟩ st) (h3 : w ∈ goodW → ∀ st, ∃ d, m st = .ok d st) (st : Sto) : OutS (m st) st A := by
  rcases hA with ⟨hw, rfl⟩ | ⟨hw, R, r1, r2, _, r4⟩
  · obtain ⟨d, e⟩ := h3 hw st
    exact .inl ⟨d, e, rfl⟩
  · have h := out_num (l := []) r1 r2 r4 (h1 hw st)
    rw [firstS_1] at h
    exact h
section
variable {w f p t : D} {A T U : Str}
theorem c_blocks_of (hA : WA w A) (hF : FW f T) (st : Sto) : OutS (m_blocks_of [w, f] st) st (firstS [A, T]) := by
  have hp : D.bels 0 [w, f] = true := by simp only [bels_cons, (wa_ok hA).2.2, (fw_ok hF).2, bels_nil, Bool.and_true]
  exact call2 hA hF (fun hw => blocks_of_num (req_no hw) hp) (fun hw hf => blocks_of_set (req_ok hw) (fam_no hw hf) hp) (fun hw hf st => by
    have q := allL_of tg2 hw
    simp only [Bool.and_eq_true] at q
    subst hf
    exact iso_okB hp q.1 st) st
theorem c_write_family (hA : WA w A) (hF : FW f T) (st : Sto) : OutS (m_write_family [w, f] st) st (firstS [A, T]) := by
  have hp : D.bels 0 [w, f] = true := by simp only [bels_cons, (wa_ok hA).2.2, (fw_ok hF).2, bels_nil, Bool.and_true]
  exact call2 hA hF (fun hw => write_family_num (req_no hw) hp) (fun hw hf => write_family_set (req_ok hw) (fam_no hw hf) hp) (fun hw hf st => by
    have q := allL_of tg2 hw
    simp only [Bool.and_eq_true] at q
    subst hf
    exact iso_okB hp q.2.1 st) st
theorem c_completed (hA : WA w A) (hF : FW f T) (st : Sto) : OutS (m_completed [w, f] st) st (firstS [A, T]) := by
  have hp : D.bels 0 [w, f] = true := by simp only [bels_cons, (wa_ok hA).2.2, (fw_ok hF).2, bels_nil, Bool.and_true]
  exact call2 hA hF (fun hw => completed_num (req_no hw) hp) (fun hw hf => completed_set (req_ok hw) (fam_no hw hf) hp) (fun hw hf st => by
    have q := allL_of tg2 hw
    simp only [Bool.and_eq_true] at q
    subst hf
    exact iso_okB hp q.2.2.1 st) st
theorem c_either (hA : WA w A) (hF : FW f T) (st : Sto) : OutS (m_either [w, f, c0] st) st (firstS [A, T]) := by
  have hp : D.bels 0 [w, f, c0] = true := by
    simp only [bels_cons, (wa_ok hA).2.2, (fw_ok hF).2, Bool.true_and]
    decide +kernel
  exact call2 hA hF (fun hw => either_num (require_both_num (req_no hw) hp) hp) (fun hw hf => either_set (require_both_set (req_ok hw) (fam_no hw hf) hp) hp) (fun hw hf st => by
    have q := allL_of tg2 hw
    simp only [Bool.and_eq_true] at q
    subst hf
    exact iso_okB hp q.2.2.2.1 st) st
theorem c_both (hA : WA w A) (hF : FW f T) (st : Sto) : OutS (m_both [w, c0, f] st) st (firstS [A, T]) := by
  have hp : D.bels 0 [w, c0, f] = true := by
    simp only [bels_cons, (wa_ok hA).2.2, (fw_ok hF).2, Bool.true_and]
    decide +kernel
  exact call2 hA hF (fun hw => both_num (require_both_num (req_no hw) hp) hp) (fun hw hf => both_set (require_both_set2 (req_ok hw) (fam0_ok hw) (fam_no hw hf) hp) hp) (fun hw hf st => by
    have q := allL_of tg2 hw
    simp only [Bool.and_eq_true] at q
    subst hf
    exact iso_okB hp q.2.2.2.2.1 st) st
theorem c_is_held (hA : WA w A) (hF : FW f T) (hP : PB p U) (st : Sto) : OutS (m_is_held [w, f, p] st) st (firstS [A, T, U]) := by
  have hp : D.bels 0 [w, f, p] = true := by simp only [bels_cons, (wa_ok hA).2.2, (fw_ok hF).2, (pb_ok hP).2, bels_nil, Bool.and_true]
  refine call3 hA hF hP (fun hw => is_held_num (req_no hw) hp) (fun hw hf => is_held_set (req_ok hw) (fam_no hw hf) hp) (fun hw hf hb => ?_) (fun hw hf hg st => ?_) st
  · subst hf
    exact is_held_set2 (req_ok hw) (fam_ok hw) (pla_no hw hb) hp
  · subst hf
    have q := allL_of (allL_of tp1 hw) hg
    simp only [Bool.and_eq_true] at q
    exact iso_okB hp q.1 st
theorem c_rest_of (hA : WA w A) (hP : PB p U) (st : Sto) : OutS (m_rest_of [w, p] st) st (firstS [A, U]) := by
  have hp : D.bels 0 [w, p] = true := by simp only [bels_cons, (wa_ok hA).2.2, (pb_ok hP).2, bels_nil, Bool.and_true]
  refine callP hA hP (fun hw => rest_of_num (req_no hw) hp) (fun hw hf => rest_of_set (req_ok hw) (pla_no hw hf) hp) (fun hw hg st => ?_) st
  have q := allL_of (allL_of tp1 hw) hg
  simp only [Bool.and_eq_true] at q
  exact iso_okB hp q.2.1 st
theorem c_placed (hA : WA w A) (hF : FW f T) (ht : t ∈ turnss) (st : Sto) : OutS (m_placed [w, f, t] st) st (firstS [A, T, "operation"]) := by
  have ht' : D.bel 0 t = true := allL_of (l := turnss) (p := D.bel 0) (by kernel_rfl) ht
  have hp : D.bels 0 [w, f, t] = true := by simp only [bels_cons, (wa_ok hA).2.2, (fw_ok hF).2, ht', bels_nil, Bool.and_true]
  refine callT hA hF (fun hw => placed_num (req_no hw) hp) (fun hw hf => placed_set (req_ok hw) (fam_no hw hf) hp) (fun hw hf st => ?_) st
  subst hf
  exact iso_exB hp (allL_of (allL_of tt2 hw) ht) st
theorem c_is_set (hA : WA w A) (hF : FW f T) (st : Sto) : OutS (m_is_set [w, f] st) st A := by
  have hp : D.bels 0 [w, f] = true := by simp only [bels_cons, (wa_ok hA).2.2, (fw_ok hF).2, bels_nil, Bool.and_true]
  refine call1 hA (fun hw => is_set_num (req_no hw) hp) (fun hw st => ?_) st
  rcases hF with ⟨rfl, _⟩ | ⟨hf, _⟩
  · have q := allL_of tc2 hw
    simp only [Bool.and_eq_true] at q
    exact iso_okB hp q.1 st
  · have q := allL_of (allL_of tw2 hw) hf
    simp only [Bool.and_eq_true] at q
    exact iso_okB hp q.2 st
theorem c_is_family (hA : WA w A) (hP : PB p U) (st : Sto) : OutS (m_is_family [w, p] st) st A := by
  have hp : D.bels 0 [w, p] = true := by simp only [bels_cons, (wa_ok hA).2.2, (pb_ok hP).2, bels_nil, Bool.and_true]
  refine call1 hA (fun hw => is_family_num (req_no hw) hp) (fun hw st => ?_) st
  rcases hP with ⟨hg, _⟩ | ⟨hb, _⟩
  · have q := allL_of (allL_of tp1 hw) hg
    simp only [Bool.and_eq_true] at q
    exact iso_okB hp q.2.2 st
  · have q := allL_of (allL_of tp2 hw) hb
    simp only [Bool.and_eq_true] at q
    exact iso_okB hp q.2 st
end
def oddL : List D := [.non, .int 0, .str "01", .tup [], .tup [.tup []], .tup [.tup [.int 0], .tup [.int 0, .int 1]], .tup [.tup [.int 1], .tup [.int 0]], .tup [.tup [.int 0, .int 5]], .lst [.tup [.int 0, .int 1]], .tup [.tup [.int 1, .int 0]], .tup [.tup [.bl true]], .tup [.int 0, .int 1], .dic []]
theorem right_w {n : Nat} {w f p t : D} {A T U W2 W3 WP WT : Str} {st s1 s2 s3 s4 : Sto} (hL : ∀ s, m__law_limit [] s = .ok (.int c_LIMIT) s) (p1 : m__law_pick [.cell n, .lst widths] st = .ok w s1) (k1 : ∀ st, q1__law_right [some (.cell n), some w, none, none, none, none, none, none, none, none, none, none] st = .nx [some (.cell n), some w, some (.str A), none, none, none, none, none, none, none, none, none] st)
    (p2 : m__law_pick [.cell n, .lst fams] s1 = .ok f s2) (k2 : ∀ (o0 o1 o2 o3 o5 o6 o7 o8 o9 o10 o11 : Option D) (st : Sto), q2__law_right [o0, o1, o2, o3, some f, o5, o6, o7, o8, o9, o10, o11] st = .nx [o0, o1, o2, o3, some f, some (.str T), o6, o7, o8, o9, o10, o11] st)
    (p3 : m__law_pick [.cell n, .lst placs] s2 = .ok p s3) (k3 : ∀ (o0 o1 o2 o3 o4 o5 o7 o8 o9 o10 o11 : Option D) (st : Sto), q3__law_right [o0, o1, o2, o3, o4, o5, some p, o7, o8, o9, o10, o11] st = .nx [o0, o1, o2, o3, o4, o5, some p, some (.str U), o8, o9, o10, o11] st)
    (p4 : m__law_pick [.cell n, .lst turnss] s3 = .ok t s4) (hA : ∀ x, (s4 ++ x)[0]? = some (.tab "_law_right")) (h4 : s4[0]? = some (.tab "_law_right"))
    (m0 : ∀ o10 o11 st, st[0]? = some (.tab "_law_right") → eLam 0 "_law_right" m__law_met (eApp m_blocks_of (aCons (eVar 1) (aCons (eVar 4) aNil))) [some (.cell n), some w, some (.str A), some (.lst oddL), some f, some (.str T), some p, some (.str U), some (.lst turnss), some t, o10, o11] st = .ok (.str W2) st)
    (m1 : ∀ o10 o11 st, st[0]? = some (.tab "_law_right") → eLam 0 "_law_right" m__law_met (eApp m_write_family (aCons (eVar 1) (aCons (eVar 4) aNil))) [some (.cell n), some w, some (.str A), some (.lst oddL), some f, some (.str T), some p, some (.str U), some (.lst turnss), some t, o10, o11] st = .ok (.str W2) st)
    (m2 : ∀ o10 o11 st, st[0]? = some (.tab "_law_right") → eLam 0 "_law_right" m__law_met (eApp m_completed (aCons (eVar 1) (aCons (eVar 4) aNil))) [some (.cell n), some w, some (.str A), some (.lst oddL), some f, some (.str T), some p, some (.str U), some (.lst turnss), some t, o10, o11] st = .ok (.str W2) st)
    (m3 : ∀ o10 o11 st, st[0]? = some (.tab "_law_right") → eLam 0 "_law_right" m__law_met (eApp m_either (aCons (eVar 1) (aCons (eVar 4) (aCons (eTup (aCons (eTup (aCons (eC (.int 0)) aNil)) aNil)) aNil)))) [some (.cell n), some w, some (.str A), some (.lst oddL), some f, some (.str T), some p, some (.str U), some (.lst turnss), some t, o10, o11] st = .ok (.str W2) st)
    (m4 : ∀ o10 o11 st, st[0]? = some (.tab "_law_right") → eLam 0 "_law_right" m__law_met (eApp m_both (aCons (eVar 1) (aCons (eTup (aCons (eTup (aCons (eC (.int 0)) aNil)) aNil)) (aCons (eVar 4) aNil)))) [some (.cell n), some w, some (.str A), some (.lst oddL), some f, some (.str T), some p, some (.str U), some (.lst turnss), some t, o10, o11] st = .ok (.str W2) st)
    (m5 : ∀ o10 o11 st, st[0]? = some (.tab "_law_right") → eLam 0 "_law_right" m__law_met (eApp m_is_held (aCons (eVar 1) (aCons (eVar 4) (aCons (eVar 6) aNil)))) [some (.cell n), some w, some (.str A), some (.lst oddL), some f, some (.str T), some p, some (.str U), some (.lst turnss), some t, o10, o11] st = .ok (.str W3) st)
    (m6 : ∀ o10 o11 st, st[0]? = some (.tab "_law_right") → eLam 0 "_law_right" m__law_met (eApp m_rest_of (aCons (eVar 1) (aCons (eVar 6) aNil))) [some (.cell n), some w, some (.str A), some (.lst oddL), some f, some (.str T), some p, some (.str U), some (.lst turnss), some t, o10, o11] st = .ok (.str WP) st)
    (m7 : ∀ o10 o11 st, st[0]? = some (.tab "_law_right") → eLam 0 "_law_right" m__law_met (eApp m_placed (aCons (eVar 1) (aCons (eVar 4) (aCons (eVar 9) aNil)))) [some (.cell n), some w, some (.str A), some (.lst oddL), some f, some (.str T), some p, some (.str U), some (.lst turnss), some t, o10, o11] st = .ok (.str WT) st)
    (m8 : ∀ o10 o11 st, st[0]? = some (.tab "_law_right") → eLam 0 "_law_right" m__law_met (eApp m_is_set (aCons (eVar 1) (aCons (eVar 4) aNil))) [some (.cell n), some w, some (.str A), some (.lst oddL), some f, some (.str T), some p, some (.str U), some (.lst turnss), some t, o10, o11] st = .ok (.str A) st)
    (m9 : ∀ o10 o11 st, st[0]? = some (.tab "_law_right") → eLam 0 "_law_right" m__law_met (eApp m_is_family (aCons (eVar 1) (aCons (eVar 6) aNil))) [some (.cell n), some w, some (.str A), some (.lst oddL), some f, some (.str T), some p, some (.str U), some (.lst turnss), some t, o10, o11] st = .ok (.str A) st)
    (f2 : ∀ st, m__law_first [.lst [.str A, .str T]] st = .ok (.str W2) st) (f3 : ∀ st, m__law_first [.lst [.str A, .str T, .str U]] st = .ok (.str W3) st) (fP : ∀ st, m__law_first [.lst [.str A, .str U]] st = .ok (.str WP) st) (fT : ∀ st, m__law_first [.lst [.str A, .str T, .str "operation"]] st = .ok (.str WT) st)
    (hE : ∀ st, st[s4.length]? = some (C.lst [.str W2, .str W2, .str W2, .str W2, .str W2, .str W3, .str WP, .str WT, .str A, .str A]) → eqD st (.cell s4.length) (.lst [.str W2, .str W2, .str W2, .str W2, .str W2, .str W3, .str WP, .str WT, .str A, .str A]) = some (.bl true)) :
    ∃ x, funD 1 12 b__law_right [.cell n] st = .ok (.bl true) (s4 ++ x) := by
  have hG : ∀ x : C, (s4 ++ [x])[s4.length]? = some x := fun x => by simp
  have hS : ∀ x y : C, (s4 ++ [x]).set s4.length y = s4 ++ [y] := fun x y => by simp
  have hM2 : ∀ (st : Sto) (x : D), mulD st (.lst [x]) (.int 2) = some (.lst [x, x]) := fun st x => rfl
  have hM5 : ∀ (st : Sto) (x : D), mulD st (.lst [x]) (.int 5) = some (.lst [x, x, x, x, x]) := fun st x => rfl
  unfold widths at p1
  unfold fams c3 at p2
  unfold placs at p3
  unfold turnss oddL at *
  unfold b__law_right
  walk_at "ev"
  exact ⟨_, rfl⟩
theorem lst_eq {L : List D} {m : Nat} (h : ∀ x ∈ L, ∃ T : Str, x = .str T ∧ PyData.strOk T = true) (st : Sto) (hs : st[m]? = some (.lst L)) : eqD st (.cell m) (.lst L) = some (.bl true) := by
  rw [eqD_cell hs]
  refine eqD_same (n := 1) st ?_
  show L.all (D.cmp 0) = true
  rw [List.all_eq_true]
  intro x hx
  obtain ⟨T, rfl, ht⟩ := h x hx
  exact ht
def TabAt (st : Sto) : Prop := st[0]? = some (.tab "_law_right") ∧ st[1]? = some (.tab "_law_others_right") ∧ st[2]? = some (.tab "law")
theorem tab_set {s : Sto} {n : Nat} {c : C} (h : TabAt s) (hn : 3 ≤ n) : TabAt (s.set n c) := by
  unfold TabAt
  rw [List.getElem?_set_ne (by omega), List.getElem?_set_ne (by omega), List.getElem?_set_ne (by omega)]
  exact h
theorem tab_app {s : Sto} (h : TabAt s) (x : Sto) : TabAt (s ++ x) := by
  have h2 := (List.getElem?_eq_some_iff.mp h.2.2).1
  unfold TabAt
  rw [List.getElem?_append_left (by omega), List.getElem?_append_left (by omega), List.getElem?_append_left (by omega)]
  exact h
theorem small_ok {T : Str} (h : T = "" ∨ T = "set") : PyData.strOk T = true := by
  rcases h with rfl | rfl <;> decide +kernel
theorem limit_ok (st : Sto) : m__law_limit [] st = .ok (.int c_LIMIT) st := by
  have h1 : powOk 10 50 = true := by decide +kernel
  have h2 : powOk (10 ^ Int.toNat 50) 8 = true := by decide +kernel
  have h3 : (10 ^ Int.toNat 50 : Int) ^ Int.toNat 8 = c_LIMIT := by decide +kernel
  refine iso_ok (by rfl) (s := []) ?_ (bel_int 0 _)
  unfold b__law_limit
  walk_at "ev"
theorem gc_set2 {m : List D → M D} {ds : List D} {d : D} {st x : Sto} {n : Nat} {c : C} (h : m ds st = .ok d (st.set n c ++ x)) (hc : C.bel 0 c = true) (hd : D.bel 0 d = true) : gcD m ds st = .ok d (st.set n c) := by
  refine gc_ok (t := x) h (by rw [List.length_set]) (fun i y hy => ?_) hd
  by_cases hi : n = i
  · subst hi
    right
    by_cases hl : n < st.length
    · rw [List.getElem?_set_self hl] at hy
      cases hy
      exact hc
    · rw [List.getElem?_eq_none (by simpa using hl)] at hy; cases hy
  · rw [List.getElem?_set_ne hi] at hy
    exact .inl hy
theorem right_ok (n : Nat) (hn : 3 ≤ n) (N : Int) (hN : N < 10 ^ 9) (st : Sto) (hd : DiceAt st n N) (hT : TabAt st) : ∃ c, m__law_right [.cell n] st = .ok (.bl true) (st.set n c) ∧ DiceAt (st.set n c) n (N + 4) := by
  obtain ⟨w, c1, p1, m1, g1⟩ := pick_ok widths hd (by omega) (by decide) (by decide) (by kernel_rfl) _ (.inl rfl)
  obtain ⟨f, c2, p2, m2, g2⟩ := pick_ok fams g1 (by omega) (by decide) (by decide) (by kernel_rfl) _ (.inl rfl)
  obtain ⟨p, c3', p3, m3, g3⟩ := pick_ok placs g2 (by omega) (by decide) (by decide) (by kernel_rfl) _ (.inl rfl)
  obtain ⟨t, c4, p4, m4, g4⟩ := pick_ok turnss g3 (by omega) (by decide) (by decide) (by kernel_rfl) _ (.inl rfl)
  rw [List.set_set] at p2 g2 p3 g3 p4 g4
  rw [List.set_set] at p3 g3 p4 g4
  rw [List.set_set] at p4 g4
  obtain ⟨A, hA⟩ := wa_of m1
  obtain ⟨T, hF⟩ := fw_of m2
  obtain ⟨U, hP⟩ := pb_of m3
  have T4 := tab_set (c := c4) hT hn
  have a1 := (wa_ok hA).1
  have a2 := small_ok (fw_ok hF).1
  have a3 := small_ok (pb_ok hP).1
  have a4 : PyData.strOk ("operation" : Str) = true := by decide +kernel
  have b2 : ∀ x ∈ [A, T], PyData.strOk x = true := by simp [a1, a2]
  have b3 : ∀ x ∈ [A, T, U], PyData.strOk x = true := by simp [a1, a2, a3]
  have bP : ∀ x ∈ [A, U], PyData.strOk x = true := by simp [a1, a3]
  have bT : ∀ x ∈ [A, T, "operation"], PyData.strOk x = true := by simp [a1, a2, a4]
  obtain ⟨x, hx⟩ := right_w limit_ok p1 (q1_w hA) p2 (q2_w hF) p3 (q3_w hP) p4 (fun x => (tab_app T4 x).1) T4.1
    (fun o10 o11 st h => met_out h (c_blocks_of hA hF st)) (fun o10 o11 st h => met_out h (c_write_family hA hF st)) (fun o10 o11 st h => met_out h (c_completed hA hF st)) (fun o10 o11 st h => met_out h (c_either hA hF st)) (fun o10 o11 st h => met_out h (c_both hA hF st)) (fun o10 o11 st h => met_out h (c_is_held hA hF hP st))
    (fun o10 o11 st h => met_out h (c_rest_of hA hP st)) (fun o10 o11 st h => met_out h (c_placed hA hF m4 st)) (fun o10 o11 st h => met_out h (c_is_set hA hF st)) (fun o10 o11 st h => met_out h (c_is_family hA hP st))
    (law_first_ok (l := [A, T]) (by simp) b2) (law_first_ok (l := [A, T, U]) (by simp) b3) (law_first_ok (l := [A, U]) (by simp) bP) (law_first_ok (l := [A, T, "operation"]) (by simp) bT) (lst_eq fun x hx => by
      have e2 := first_ok b2
      have e3 := first_ok b3
      have eP := first_ok bP
      have eT := first_ok bT
      simp only [List.mem_cons, List.not_mem_nil, or_false] at hx
      rcases hx with rfl | rfl | rfl | rfl | rfl | rfl | rfl | rfl | rfl | rfl
      · exact ⟨_, rfl, e2⟩
      · exact ⟨_, rfl, e2⟩
      · exact ⟨_, rfl, e2⟩
      · exact ⟨_, rfl, e2⟩
      · exact ⟨_, rfl, e2⟩
      · exact ⟨_, rfl, e3⟩
      · exact ⟨_, rfl, eP⟩
      · exact ⟨_, rfl, eT⟩
      · exact ⟨_, rfl, a1⟩
      · exact ⟨_, rfl, a1⟩)
  exact ⟨c4, gc_set2 hx (DiceAt.bel g4 hd) (bel_bl 0 _), g4.mono (by omega)⟩
/-! ## The other calls -/
def widths2 : List D := [.int 3, .int 3, .int 5, .int 1, .non, .bl true, .str "3", .int 6]
def goodV : List D := [.int 3, .int 5]
def somes : List D := [.non, .tup [], .tup [.tup []], .lst [.tup [.int 0]], .tup [.tup [.int 0], .non], .tup [.tup [.int 5]], .tup [.tup [.int 1, .int 0]], .tup [.int 0], .str "0", .dic []]
def texts : List D := [.non, .int 0, .str "", .str "0 0", .str "1 0", .str "012 01", .str "9", .str "0,1", .tup [.str "0"], .lst [], .dic [], .str " 0", .str "0 "]
def WV (w : D) (A : Str) : Prop := (w ∈ goodV ∧ A = "") ∨ (w ∈ badW ∧ WA w A)
theorem wv_of {w : D} (h : w ∈ widths2) : ∃ A, WV w A := by
  have h2 : w ∈ goodV ∨ w ∈ badW := by
    unfold widths2 at h
    unfold goodV badW
    simp only [List.mem_cons, List.not_mem_nil, or_false] at *
    rcases h with h | h | h | h | h | h | h | h <;> simp [h]
  rcases h2 with h | h
  · exact ⟨_, .inl ⟨h, rfl⟩⟩
  · have : w ∈ widths := by
      unfold badW at h
      unfold widths
      simp only [List.mem_cons, List.not_mem_nil, or_false] at *
      rcases h with h | h | h | h | h | h | h | h | h <;> simp [h]
    obtain ⟨A, hA⟩ := wa_of this
    exact ⟨A, .inr ⟨h, hA⟩⟩
theorem tv1 : allL goodV (fun w => allL somes fun s => exB "InvalidSet" (m_least_of [w, s] [])) = true := by kernel_rfl
theorem tv2 : allL goodV (fun w => allL texts fun s => exvB "ParseError" "number" .non (m_read_family [w, s] [])) = true := by kernel_rfl
theorem tv3 : okB (m_least_of [.int 3, .tup [.tup [.int 0, .int 1], .tup [.int 0], .tup [.int 0, .int 1]]] []) = true := by kernel_rfl
theorem tv4 : exB "InvalidOperation" (m_completed [.int 4, .tup [.tup [.int 0, .int 1], .tup [.int 2, .int 3]]] []) = true := by kernel_rfl
theorem wv_bel {w : D} {A : Str} (h : WV w A) : D.bel 0 w = true ∧ PyData.strOk A = true := by
  rcases h with ⟨h, rfl⟩ | ⟨_, h⟩
  · exact ⟨allL_of (l := goodV) (p := D.bel 0) (by kernel_rfl) h, by decide +kernel⟩
  · exact ⟨(wa_ok h).2.2, (wa_ok h).1⟩
theorem bad_notgood {w : D} (h : w ∈ badW) : w ∉ goodW := fun z => by
  have t : allL badW (fun w => !(D.beq w (.int 3) || D.beq w (.int 4))) = true := by kernel_rfl
  have q := allL_of t h
  unfold goodW at z
  simp only [List.mem_cons, List.not_mem_nil, or_false] at z
  rcases z with rfl | rfl <;> revert q <;> decide +kernel
theorem wv_case {w : D} {A : Str} (h : WV w A) : (w ∈ goodV ∧ A = "") ∨ (w ∈ badW ∧ ∃ R : Str, (∀ s, orO (reprD s [w]) (reprE s [w]) = some (.str R)) ∧ R.length ≤ 5000 ∧ PyData.strOk R = true ∧ A = "number " ++ R) := by
  rcases h with h | ⟨h, h2⟩
  · exact .inl h
  · rcases h2 with ⟨h3, _⟩ | h3
    · exact absurd h3 (bad_notgood h)
    · exact .inr h3
theorem c_least_of {w s : D} {A : Str} (hA : WV w A) (hs : s ∈ somes) (st : Sto) : OutS (m_least_of [w, s] st) st (firstS [A, "set"]) := by
  have hs' : D.bel 0 s = true := allL_of (l := somes) (p := D.bel 0) (by kernel_rfl) hs
  have hp : D.bels 0 [w, s] = true := by simp only [bels_cons, (wv_bel hA).1, hs', bels_nil, Bool.and_true]
  rcases wv_case hA with ⟨hw, rfl⟩ | ⟨hw, R, r1, r2, _, r4⟩
  · rw [firstS_e, firstS_1]
    exact .inr (.inr (.inl ⟨iso_exB hp (allL_of (allL_of tv1 hw) hs) st, rfl⟩))
  · exact out_num r1 r2 r4 (least_of_num (req_no hw) hp st)
theorem c_read_family {w s : D} {A : Str} (hA : WV w A) (hs : s ∈ texts) (st : Sto) : OutS (m_read_family [w, s] st) st (firstS [A, "parse None"]) := by
  have hs' : D.bel 0 s = true := allL_of (l := texts) (p := D.bel 0) (by kernel_rfl) hs
  have hp : D.bels 0 [w, s] = true := by simp only [bels_cons, (wv_bel hA).1, hs', bels_nil, Bool.and_true]
  rcases wv_case hA with ⟨hw, rfl⟩ | ⟨hw, R, r1, r2, _, r4⟩
  · rw [firstS_e, firstS_1]
    exact .inr (.inr (.inr (.inr ⟨iso_exvB hp (allL_of (allL_of tv2 hw) hs) st, rfl⟩)))
  · exact out_num r1 r2 r4 (read_family_num (req_no hw) hp st)
theorem q1_v {n : Nat} {w : D} {A : Str} (h : WV w A) (st : Sto) : q1__law_others_right [some (.cell n), some w, none, none, none, none] st = .nx [some (.cell n), some w, some (.str A), none, none, none] st := by
  have hc := wv_case h
  clear h
  rcases hc with ⟨h, rfl⟩ | ⟨h, R, h1, h2, h3, rfl⟩
  · have hi : (∀ s, inD s w (.tup [.int 3, .int 5]) = some (.bl true)) ∧ ∀ s, notA s w (.bl true) = some (.bl true) := by
      unfold goodV at h
      simp only [List.mem_cons, List.not_mem_nil, or_false] at h
      rcases h with rfl | rfl <;> · constructor <;> · intro s; kernel_rfl
    obtain ⟨i1, i2⟩ := hi
    clear h
    unfold q1__law_others_right
    walk_at "ev"
  · have hi : ∀ s, inD s w (.tup [.int 3, .int 5]) = some (.bl false) := by
      unfold badW at h
      simp only [List.mem_cons, List.not_mem_nil, or_false] at h
      rcases h with rfl | rfl | rfl | rfl | rfl | rfl | rfl | rfl | rfl <;> · intro s; kernel_rfl
    have hF : fits (("number " : Str).length + R.length) = true := fits_of (by
      have : ("number " : Str).length = 7 := rfl
      omega)
    clear h h2 h3
    unfold q1__law_others_right
    walk_at "ev"
theorem others_w {n : Nat} {w f p : D} {A W1 W2 : Str} {st s1 s2 s3 : Sto} (p1 : m__law_pick [.cell n, .lst widths2] st = .ok w s1) (k1 : ∀ st, q1__law_others_right [some (.cell n), some w, none, none, none, none] st = .nx [some (.cell n), some w, some (.str A), none, none, none] st)
    (p2 : m__law_pick [.cell n, .lst somes] s1 = .ok f s2) (p3 : m__law_pick [.cell n, .lst texts] s2 = .ok p s3) (hA : ∀ x, (s3 ++ x)[1]? = some (.tab "_law_others_right")) (h3 : s3[1]? = some (.tab "_law_others_right"))
    (m1 : ∀ o5 st, st[1]? = some (.tab "_law_others_right") → eLam 1 "_law_others_right" m__law_met (eApp m_least_of (aCons (eVar 1) (aCons (eVar 3) aNil))) [some (.cell n), some w, some (.str A), some f, some p, o5] st = .ok (.str W1) st)
    (m2 : ∀ o5 st, st[1]? = some (.tab "_law_others_right") → eLam 1 "_law_others_right" m__law_met (eApp m_read_family (aCons (eVar 1) (aCons (eVar 4) aNil))) [some (.cell n), some w, some (.str A), some f, some p, o5] st = .ok (.str W2) st)
    (m3 : ∀ o5 st, st[1]? = some (.tab "_law_others_right") → eLam 1 "_law_others_right" m__law_met (eApp m_least_of (aCons (eC (.int 3)) (aCons (eTup (aCons (eTup (aCons (eC (.int 0)) (aCons (eC (.int 1)) aNil))) (aCons (eTup (aCons (eC (.int 0)) aNil)) (aCons (eTup (aCons (eC (.int 0)) (aCons (eC (.int 1)) aNil))) aNil)))) aNil))) [some (.cell n), some w, some (.str A), some f, some p, o5] st = .ok (.str "") st)
    (f1 : ∀ st, m__law_first [.lst [.str A, .str "set"]] st = .ok (.str W1) st) (f2 : ∀ st, m__law_first [.lst [.str A, .str "parse None"]] st = .ok (.str W2) st)
    (hE : ∀ st, st[s3.length]? = some (C.lst [.str W1, .str W2, .str ""]) → eqD st (.cell s3.length) (.lst [.str W1, .str W2, .str ""]) = some (.bl true)) :
    ∃ x, funD 1 6 b__law_others_right [.cell n] st = .ok (.bl true) (s3 ++ x) := by
  have hG : ∀ x : C, (s3 ++ [x])[s3.length]? = some x := fun x => by simp
  have hS : ∀ x y : C, (s3 ++ [x]).set s3.length y = s3 ++ [y] := fun x y => by simp
  unfold widths2 at p1
  unfold somes at p2
  unfold texts at p3
  unfold b__law_others_right
  walk_at "ev"
  exact ⟨_, rfl⟩
theorem others_ok (n : Nat) (hn : 3 ≤ n) (N : Int) (hN : N < 10 ^ 9) (st : Sto) (hd : DiceAt st n N) (hT : TabAt st) : ∃ c, m__law_others_right [.cell n] st = .ok (.bl true) (st.set n c) ∧ DiceAt (st.set n c) n (N + 4) := by
  obtain ⟨w, c1, p1, m1, g1⟩ := pick_ok widths2 hd (by omega) (by decide) (by decide) (by kernel_rfl) _ (.inl rfl)
  obtain ⟨f, c2, p2, m2, g2⟩ := pick_ok somes g1 (by omega) (by decide) (by decide) (by kernel_rfl) _ (.inl rfl)
  obtain ⟨p, c3', p3, m3, g3⟩ := pick_ok texts g2 (by omega) (by decide) (by decide) (by kernel_rfl) _ (.inl rfl)
  rw [List.set_set] at p2 g2 p3 g3
  rw [List.set_set] at p3 g3
  obtain ⟨A, hA⟩ := wv_of m1
  have T4 := tab_set (c := c3') hT hn
  have a1 := (wv_bel hA).2
  have b2 : ∀ x ∈ [A, "set"], PyData.strOk x = true := by simp [a1]; decide +kernel
  have b3 : ∀ x ∈ [A, "parse None"], PyData.strOk x = true := by simp [a1]; decide +kernel
  obtain ⟨x, hx⟩ := others_w p1 (q1_v hA) p2 p3 (fun x => (tab_app T4 x).2.1) T4.2.1 (fun o5 st h => met_out h (c_least_of hA m2 st)) (fun o5 st h => met_out h (c_read_family hA m3 st))
    (fun o5 st h => met_out h (by
      obtain ⟨d, e⟩ := iso_okB (m := funD 2 3 b_least_of) (ds := [.int 3, .tup [.tup [.int 0, .int 1], .tup [.int 0], .tup [.int 0, .int 1]]]) (by kernel_rfl) tv3 st
      exact .inl ⟨d, e, rfl⟩))
    (law_first_ok (l := [A, "set"]) (by simp) b2) (law_first_ok (l := [A, "parse None"]) (by simp) b3) (lst_eq fun x hx => by
      have e2 := first_ok b2
      have e3 := first_ok b3
      simp only [List.mem_cons, List.not_mem_nil, or_false] at hx
      rcases hx with rfl | rfl | rfl
      · exact ⟨_, rfl, e2⟩
      · exact ⟨_, rfl, e3⟩
      · exact ⟨_, rfl, by decide +kernel⟩)
  exact ⟨c3', gc_set2 hx (DiceAt.bel g3 hd) (bel_bl 0 _), g3.mono (by omega)⟩
/-! ## The law -/
def Inv3 (sc : D) (i : Int) (n : Nat) (N : Int) (j : Nat) (e : DEnv) (s : Sto) : Prop := ∃ o3, e = [some sc, some (.int i), some (.cell n), o3] ∧ DiceAt s n (N + 8 * j) ∧ TabAt s
theorem l1_w {sc : D} {i : Int} {n : Nat} {o3 : Option D} {s t u : Sto} (h : m__law_right [.cell n] s = .ok (.bl true) t) (h2 : m__law_others_right [.cell n] t = .ok (.bl true) u) : l1_law [some sc, some (.int i), some (.cell n), o3] s = .nx [some sc, some (.int i), some (.cell n), o3] u := by
  unfold l1_law
  walk_at "ev"
theorem l2_w {sc : D} {i : Int} {n : Nat} {o2 o3 f3 : Option D} {s s1 t : Sto} (hd : m__law_dice [sc, .int i] s = .ok (.cell n) s1) (h62 : small62 4 = true) (h : forD none (gN 3) l1_law (rngD 0 4) [some sc, some (.int i), some (.cell n), o3] s1 = .nx [some sc, some (.int i), some (.cell n), f3] t) :
    l2_law [some sc, some (.int i), o2, o3] s = .nx [some sc, some (.int i), some (.cell n), f3] t := by
  unfold l2_law
  walk_at "ev"
theorem turn4 (ns : List Int) (hn : ns.length ≤ 63) (i : Nat) (hi : i < 7) (e : DEnv) (s : Sto) (hI : (∃ a b c, e = [some (.scr (ns.map D.int)), a, b, c]) ∧ TabAt s) :
    ∃ e1, gN 1 (.int (i : Int)) e = some e1 ∧ ∃ e2 s2, (l2_law e1 s = .nx e2 s2 ∨ l2_law e1 s = .ct e2 s2) ∧ (∃ a b c, e2 = [some (.scr (ns.map D.int)), a, b, c]) ∧ TabAt s2 := by
  obtain ⟨⟨o1, o2, o3, rfl⟩, hT⟩ := hI
  refine ⟨_, rfl, ?_⟩
  obtain ⟨s', h1, h2, h3⟩ := dice_ok ns hn i (by omega) s
  have hs0 : 3 ≤ s.length := (List.getElem?_eq_some_iff.mp hT.2.2).1
  have hT' : TabAt s' := by
    rw [h3]
    exact tab_app hT _
  obtain ⟨e2, s2, h4, f3, rfl, g2, T2⟩ := forD_inv (c := none) (g := gN 3) (b := l1_law) (items := rngD 0 4) (s := s') (e := [some (.scr (ns.map D.int)), some (.int (i : Int)), some (.cell s.length), o3])
    (Inv3 (.scr (ns.map D.int)) i s.length 0) ⟨_, rfl, h2.mono (by omega), hT'⟩ (fun _ _ _ _ => rfl) fun j d e' s' hd hI => by
      obtain ⟨rfl, hj⟩ := rngD_get hd
      obtain ⟨q3, rfl, gd, TT⟩ := hI
      have hj' : j < 4 := by omega
      obtain ⟨c1, a1, g1⟩ := right_ok _ hs0 _ (by omega) s' gd TT
      have TT2 := tab_set (c := c1) TT hs0
      obtain ⟨c2, a2, g2⟩ := others_ok _ hs0 _ (by omega) _ g1 TT2
      exact ⟨_, rfl, _, _, .inl (l1_w a1 a2), _, rfl, g2.mono (by omega), tab_set TT2 hs0⟩
  exact ⟨_, _, .inl (l2_w h1 (small62_of (by decide) (by decide)) h4), ⟨_, _, _, rfl⟩, T2⟩
theorem law_w {sc : D} {L : List D} {k : Int} {s2 : Sto} (h62 : small62 k = true) (hk : (if (if (L.length : Int) < 6 then (L.length : Int) else 6) > 1 then (if (L.length : Int) < 6 then (L.length : Int) else 6) else 1) = k) (hsc : sc = .scr L) {o1 o2 o3 : Option D} {s : Sto}
    (h : forD none (gN 1) l2_law (rngD 0 k) [some sc, none, none, none] s = .nx [some sc, o1, o2, o3] s2)
    (h2 : eLam 2 "law" m__law_met (eApp m_completed (aCons (eC (.int 4)) (aCons (eTup (aCons (eTup (aCons (eC (.int 0)) (aCons (eC (.int 1)) aNil))) (aCons (eTup (aCons (eC (.int 2)) (aCons (eC (.int 3)) aNil))) aNil))) aNil))) [some sc, o1, o2, o3] s2 = .ok (.str "operation") s2) :
    funD 1 4 b_law [sc] s = .ok (.bl true) s2 := by
  subst hsc
  unfold b_law
  walk_at "ev"
theorem drop_tab {s : Sto} (h : TabAt s) : s = [C.tab "_law_right", .tab "_law_others_right", .tab "law"] ++ s.drop 3 := by
  obtain ⟨h0, h1, h2⟩ := h
  match s, h0, h1, h2 with
  | a :: b :: c :: r, h0, h1, h2 =>
    simp at h0 h1 h2
    subst h0 h1 h2
    rfl
theorem holds (ns : List Int) (hn : ns.length ≤ 63) : ∃ st, m_law [.scr (ns.map D.int)] ((["_law_right", "_law_others_right", "law"] : List Str).map C.tab) = .ok (.bl true) st := by
  generalize hk : (if (if ((ns.map D.int).length : Int) < 6 then ((ns.map D.int).length : Int) else 6) > 1 then (if ((ns.map D.int).length : Int) < 6 then ((ns.map D.int).length : Int) else 6) else 1) = k
  have hk5 : k ≤ 7 ∧ 1 ≤ k := by
    subst hk
    split
    · split <;> omega
    · omega
  obtain ⟨e2, s2, h2, ⟨o1, o2, o3, rfl⟩, T2⟩ := forD_inv (c := none) (g := gN 1) (b := l2_law) (items := rngD 0 k) (s := [.tab "_law_right", .tab "_law_others_right", .tab "law"]) (e := [some (.scr (ns.map D.int)), none, none, none]) (fun _ e s => (∃ a b c, e = [some (.scr (ns.map D.int)), a, b, c]) ∧ TabAt s) ⟨⟨_, _, _, rfl⟩, rfl, rfl, rfl⟩ (fun _ _ _ _ => rfl)
    (fun j x e s hj hi => by
      obtain ⟨rfl, hjk⟩ := rngD_get hj
      have := turn4 ns hn j (by omega) e s hi
      rw [Int.zero_add]
      exact this)
  have hfin := law_w (L := ns.map D.int) (small62_of (by omega) (by omega)) hk rfl h2 (met_out T2.2.2 (.inr (.inr (.inr (.inl ⟨iso_exB (m := funD 2 6 b_completed) (ds := [.int 4, .tup [.tup [.int 0, .int 1], .tup [.int 2, .int 3]]]) (by kernel_rfl) tv4 s2, rfl⟩)))))
  rw [drop_tab T2] at hfin
  exact ⟨_, gc_ok hfin rfl (fun i x hx => .inl hx) (bel_bl 0 _)⟩
end G
open PySem PySem.W PyProof.Rows
set_option maxRecDepth 100000 in
set_option maxHeartbeats 0 in
theorem PySem.Challenge.cw_grownquorums_k07_errors_of_sets_holds : PySem.Challenge.rw_grownquorums_k07_errors_of_sets.Holds := by
  w_on; o_law; k_head; (case hw => w_witness2)
  k_fill
  refine G.walk (l := PySem.Challenge.rw_grownquorums_k07_errors_of_sets) rfl rfl rfl (fun w h Y => PySem.W.km_in_of Y) ?F G.holds
  case F =>
    intro w mg h Y KX Gn
    refine' G.tx_of' KX Gn ?n__law_dice ?l__law_dice ?c__law_dice ?k__law_dice ?n__law_met ?l__law_met ?c__law_met ?k__law_met ?n_is_integer ?l_is_integer ?c_is_integer ?k_is_integer ?n_is_count ?l_is_count ?c_is_count ?k_is_count ?n_is_width ?l_is_width ?c_is_width ?k_is_width ?n_require_width ?l_require_width ?c_require_width ?k_require_width ?n_contains ?l_contains ?c_contains ?k_contains ?n_are_least ?l_are_least ?c_are_least ?k_are_least ?n_are_places ?l_are_places ?c_are_places ?k_are_places ?n_is_set_of ?l_is_set_of ?c_is_set_of ?k_is_set_of ?n_is_family_of ?l_is_family_of ?c_is_family_of ?k_is_family_of ?n_require_family ?l_require_family ?c_require_family ?k_require_family ?n_least_in ?l_least_in ?c_least_in ?k_least_in ?n_do_meet ?l_do_meet ?c_do_meet ?k_do_meet ?n_all_sets ?l_all_sets ?c_all_sets ?k_all_sets ?n_dual_family ?l_dual_family ?c_dual_family ?k_dual_family ?n_holds_one ?l_holds_one ?c_holds_one ?k_holds_one ?n_completed ?l_completed ?c_completed ?k_completed ?n__law_roll ?l__law_roll ?c__law_roll ?k__law_roll ?n__law_pick ?l__law_pick ?c__law_pick ?k__law_pick ?n__law_limit ?l__law_limit ?c__law_limit ?k__law_limit ?n__law_first ?l__law_first ?c__law_first ?k__law_first ?n_blocks_of ?l_blocks_of ?c_blocks_of ?k_blocks_of ?n_set_text ?l_set_text ?c_set_text ?k_set_text ?n_family_text ?l_family_text ?c_family_text ?k_family_text ?n_write_family ?l_write_family ?c_write_family ?k_write_family ?n_require_both ?l_require_both ?c_require_both ?k_require_both ?n_either ?l_either ?c_either ?k_either ?n_both ?l_both ?c_both ?k_both ?n_require_places ?l_require_places ?c_require_places ?k_require_places ?n_is_held ?l_is_held ?c_is_held ?k_is_held ?n_rest_of ?l_rest_of ?c_rest_of ?k_rest_of ?n_moved_family ?l_moved_family ?c_moved_family ?k_moved_family ?n_are_turns ?l_are_turns ?c_are_turns ?k_are_turns ?n_placed ?l_placed ?c_placed ?k_placed ?n_is_set ?l_is_set ?c_is_set ?k_is_set ?n_is_family ?l_is_family ?c_is_family ?k_is_family ?n__law_right ?l__law_right ?c__law_right ?k__law_right ?n_least_of ?l_least_of ?c_least_of ?k_least_of ?n_set_in ?l_set_in ?c_set_in ?k_set_in ?n_family_in ?l_family_in ?c_family_in ?k_family_in ?n_read_family ?l_read_family ?c_read_family ?k_read_family ?n__law_others_right ?l__law_others_right ?c__law_others_right ?k__law_others_right ?n_law ?l_law ?c_law ?k_law ?g_BLANK ?g_FIGURES ?g_LIMIT ?g_MAX_WIDTH ?g_MIN_WIDTH ?z_abs ?z_all ?z_any ?z_bool ?z_int ?z_isinstance ?z_len ?z_max ?z_min ?z_range ?z_repr ?z_set ?z_sorted ?z_str ?z_tuple ?z_zip ?g_InvalidNumber ?i_InvalidNumber ?l_InvalidNumber ?cc_InvalidNumber ?kk_InvalidNumber ?k_InvalidNumber ?b_InvalidNumber ?y_InvalidNumber ?q_InvalidNumber ?o_InvalidNumber ?s_InvalidNumber ?tk_InvalidNumber ?hd_InvalidNumber ?ti_InvalidNumber ?ga_InvalidNumber ?gg_InvalidNumber ?no_InvalidNumber ?g_InvalidOperation ?k_InvalidOperation ?b_InvalidOperation ?y_InvalidOperation ?x_InvalidOperation ?g_InvalidSet ?k_InvalidSet ?b_InvalidSet ?y_InvalidSet ?x_InvalidSet ?g_ParseError ?i_ParseError ?l_ParseError ?cc_ParseError ?kk_ParseError ?k_ParseError ?b_ParseError ?y_ParseError ?q_ParseError ?o_ParseError ?s_ParseError ?tk_ParseError ?hd_ParseError ?ti_ParseError ?ga_ParseError ?gg_ParseError ?no_ParseError ?m_InvalidNumber_ParseError ?m_InvalidNumber_InvalidOperation ?m_InvalidNumber_InvalidSet ?m_InvalidNumber_InvalidNumber ?m_InvalidSet_ParseError ?m_InvalidSet_InvalidOperation ?m_InvalidSet_InvalidSet ?m_InvalidSet_InvalidNumber ?m_InvalidOperation_ParseError ?m_InvalidOperation_InvalidOperation ?m_InvalidOperation_InvalidSet ?m_InvalidOperation_InvalidNumber ?m_ParseError_ParseError ?m_ParseError_InvalidOperation ?m_ParseError_InvalidSet ?m_ParseError_InvalidNumber ?hc__law_right ?lk__law_right ?vp__law_right ?hc__law_others_right ?lk__law_others_right ?vp__law_others_right ?hc_law ?lk_law ?vp_law ?hd__law_right ?np__law_right ?mt__law_right ?hd__law_others_right ?np__law_others_right ?mt__law_others_right ?hd_law ?np_law ?mt_law ?nd
    (case n__law_dice => k_is); (case l__law_dice => k_is); (case c__law_dice => k_is); (case k__law_dice => k_is); (case n__law_met => k_is); (case l__law_met => k_is); (case c__law_met => k_is); (case k__law_met => k_is); (case n_is_integer => k_is); (case l_is_integer => k_is); (case c_is_integer => k_is); (case k_is_integer => k_is); (case n_is_count => k_is); (case l_is_count => k_is); (case c_is_count => k_is); (case k_is_count => k_is); (case n_is_width => k_is); (case l_is_width => k_is); (case c_is_width => k_is); (case k_is_width => k_is); (case n_require_width => k_is); (case l_require_width => k_is); (case c_require_width => k_is); (case k_require_width => k_is); (case n_contains => k_is); (case l_contains => k_is); (case c_contains => k_is); (case k_contains => k_is); (case n_are_least => k_is); (case l_are_least => k_is); (case c_are_least => k_is); (case k_are_least => k_is); (case n_are_places => k_is); (case l_are_places => k_is); (case c_are_places => k_is); (case k_are_places => k_is); (case n_is_set_of => k_is); (case l_is_set_of => k_is); (case c_is_set_of => k_is); (case k_is_set_of => k_is); (case n_is_family_of => k_is); (case l_is_family_of => k_is); (case c_is_family_of => k_is); (case k_is_family_of => k_is); (case n_require_family => k_is); (case l_require_family => k_is); (case c_require_family => k_is); (case k_require_family => k_is); (case n_least_in => k_is); (case l_least_in => k_is); (case c_least_in => k_is); (case k_least_in => k_is); (case n_do_meet => k_is); (case l_do_meet => k_is); (case c_do_meet => k_is); (case k_do_meet => k_is); (case n_all_sets => k_is); (case l_all_sets => k_is); (case c_all_sets => k_is); (case k_all_sets => k_is); (case n_dual_family => k_is); (case l_dual_family => k_is); (case c_dual_family => k_is); (case k_dual_family => k_is); (case n_holds_one => k_is); (case l_holds_one => k_is); (case c_holds_one => k_is); (case k_holds_one => k_is); (case n_completed => k_is); (case l_completed => k_is); (case c_completed => k_is); (case k_completed => k_is); (case n__law_roll => k_is); (case l__law_roll => k_is); (case c__law_roll => k_is); (case k__law_roll => k_is); (case n__law_pick => k_is); (case l__law_pick => k_is); (case c__law_pick => k_is); (case k__law_pick => k_is); (case n__law_limit => k_is); (case l__law_limit => k_is); (case c__law_limit => k_is); (case k__law_limit => k_is); (case n__law_first => k_is); (case l__law_first => k_is); (case c__law_first => k_is); (case k__law_first => k_is); (case n_blocks_of => k_is); (case l_blocks_of => k_is); (case c_blocks_of => k_is); (case k_blocks_of => k_is); (case n_set_text => k_is); (case l_set_text => k_is); (case c_set_text => k_is); (case k_set_text => k_is); (case n_family_text => k_is); (case l_family_text => k_is); (case c_family_text => k_is); (case k_family_text => k_is); (case n_write_family => k_is); (case l_write_family => k_is); (case c_write_family => k_is); (case k_write_family => k_is); (case n_require_both => k_is); (case l_require_both => k_is); (case c_require_both => k_is); (case k_require_both => k_is); (case n_either => k_is); (case l_either => k_is); (case c_either => k_is); (case k_either => k_is); (case n_both => k_is); (case l_both => k_is); (case c_both => k_is); (case k_both => k_is); (case n_require_places => k_is); (case l_require_places => k_is); (case c_require_places => k_is); (case k_require_places => k_is); (case n_is_held => k_is); (case l_is_held => k_is); (case c_is_held => k_is); (case k_is_held => k_is); (case n_rest_of => k_is); (case l_rest_of => k_is); (case c_rest_of => k_is); (case k_rest_of => k_is); (case n_moved_family => k_is); (case l_moved_family => k_is); (case c_moved_family => k_is); (case k_moved_family => k_is); (case n_are_turns => k_is); (case l_are_turns => k_is); (case c_are_turns => k_is); (case k_are_turns => k_is); (case n_placed => k_is); (case l_placed => k_is); (case c_placed => k_is); (case k_placed => k_is); (case n_is_set => k_is); (case l_is_set => k_is); (case c_is_set => k_is); (case k_is_set => k_is); (case n_is_family => k_is); (case l_is_family => k_is); (case c_is_family => k_is); (case k_is_family => k_is); (case n__law_right => k_is); (case l__law_right => k_is); (case c__law_right => k_is); (case k__law_right => k_is); (case n_least_of => k_is); (case l_least_of => k_is); (case c_least_of => k_is); (case k_least_of => k_is); (case n_set_in => k_is); (case l_set_in => k_is); (case c_set_in => k_is); (case k_set_in => k_is); (case n_family_in => k_is); (case l_family_in => k_is); (case c_family_in => k_is); (case k_family_in => k_is); (case n_read_family => k_is); (case l_read_family => k_is); (case c_read_family => k_is); (case k_read_family => k_is); (case n__law_others_right => k_is); (case l__law_others_right => k_is); (case c__law_others_right => k_is); (case k__law_others_right => k_is); (case n_law => k_is); (case l_law => k_is); (case c_law => k_is); (case k_law => k_is); (case g_BLANK => k_is); (case g_FIGURES => k_is); (case g_LIMIT => k_is); (case g_MAX_WIDTH => k_is); (case g_MIN_WIDTH => k_is); (case z_abs => k_is); (case z_all => k_is); (case z_any => k_is); (case z_bool => k_is); (case z_int => k_is); (case z_isinstance => k_is); (case z_len => k_is); (case z_max => k_is); (case z_min => k_is); (case z_range => k_is); (case z_repr => k_is); (case z_set => k_is); (case z_sorted => k_is); (case z_str => k_is); (case z_tuple => k_is); (case z_zip => k_is); (case g_InvalidNumber => k_is); (case i_InvalidNumber => k_is); (case l_InvalidNumber => k_is); (case cc_InvalidNumber => k_is); (case kk_InvalidNumber => k_is); (case k_InvalidNumber => k_is); (case b_InvalidNumber => k_is); (case y_InvalidNumber => k_is); (case q_InvalidNumber => kx_is); (case o_InvalidNumber => kx_is); (case s_InvalidNumber => k_is); (case tk_InvalidNumber => k_is); (case hd_InvalidNumber => k_is); (case ti_InvalidNumber => k_is); (case ga_InvalidNumber => k_is); (case gg_InvalidNumber => k_is); (case no_InvalidNumber => k_is); (case g_InvalidOperation => k_is); (case k_InvalidOperation => k_is); (case b_InvalidOperation => k_is); (case y_InvalidOperation => k_is); (case x_InvalidOperation => k_exc); (case g_InvalidSet => k_is); (case k_InvalidSet => k_is); (case b_InvalidSet => k_is); (case y_InvalidSet => k_is); (case x_InvalidSet => k_exc); (case g_ParseError => k_is); (case i_ParseError => k_is); (case l_ParseError => k_is); (case cc_ParseError => k_is); (case kk_ParseError => k_is); (case k_ParseError => k_is); (case b_ParseError => k_is); (case y_ParseError => k_is); (case q_ParseError => kx_is); (case o_ParseError => kx_is); (case s_ParseError => k_is); (case tk_ParseError => k_is); (case hd_ParseError => k_is); (case ti_ParseError => k_is); (case ga_ParseError => k_is); (case gg_ParseError => k_is); (case no_ParseError => k_is); (case m_InvalidNumber_ParseError => kts_exm); (case m_InvalidNumber_InvalidOperation => kts_exm); (case m_InvalidNumber_InvalidSet => kts_exm); (case m_InvalidNumber_InvalidNumber => kts_exm); (case m_InvalidSet_ParseError => kts_exm); (case m_InvalidSet_InvalidOperation => kts_exm); (case m_InvalidSet_InvalidSet => kts_exm); (case m_InvalidSet_InvalidNumber => kts_exm); (case m_InvalidOperation_ParseError => kts_exm); (case m_InvalidOperation_InvalidOperation => kts_exm); (case m_InvalidOperation_InvalidSet => kts_exm); (case m_InvalidOperation_InvalidNumber => kts_exm); (case m_ParseError_ParseError => kts_exm); (case m_ParseError_InvalidOperation => kts_exm); (case m_ParseError_InvalidSet => kts_exm); (case m_ParseError_InvalidNumber => kts_exm); (case hc__law_right => rfl); (case lk__law_right => k_is); (case vp__law_right => rfl); (case hc__law_others_right => rfl); (case lk__law_others_right => k_is); (case vp__law_others_right => rfl); (case hc_law => rfl); (case lk_law => k_is); (case vp_law => rfl); (case hd__law_right => kernel_rfl); (case np__law_right => kernel_rfl); (case mt__law_right => exact PySem.W.km_tabs_of Y _ (by k_mem)); (case hd__law_others_right => kernel_rfl); (case np__law_others_right => kernel_rfl); (case mt__law_others_right => exact PySem.W.km_tabs_of Y _ (by k_mem)); (case hd_law => kernel_rfl); (case np_law => kernel_rfl); (case mt_law => exact PySem.W.km_tabs_of Y _ (by k_mem)); (case nd => decide)
