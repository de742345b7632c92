import PyProof.Rows.All
import Wide.All
import OpenK.AllK
import Wide.FinOn
import PyProof.EqAt
import PyProof.EqKinds
import PyProof.TupleCall
import HandS.ForMost
import HandS.ForExc
import HandS.Wide
import HandS.IsInst
import HandS.Style
import HandS.Sort
import HandS.TryMany
import HandS.Deep
import HandS.TupAny
import HandS.RaiseMore
import PySem.Challenge.RW_grownquorums_k00_integers_and_letters
set_option Elab.async false
set_option linter.all false
set_option maxHeartbeats 4000000
set_option maxRecDepth 100000
/-! # L3: what a def does, told over data: values without addresses, a store of mutable cells, and for each construct the rule that joins it with the hand layer -/
namespace L3
open PySem PySem.Spec PyProof.Rows L2

/-! ## Data -/
/-- data: tuples, lists and dicts that nobody changes stand by themselves; what may change is a cell of the store -/
inductive D where
  | non | bl (b : Bool) | int (i : Int) | str (x : Str)
  | tup (xs : List D) | lst (xs : List D) | scr (xs : List D) | dic (kvs : List (Key × D)) | cell (n : Nat)
/-- a mutable thing -/
inductive C where
  | lst (xs : List D) | dic (kvs : List (Key × D)) | gone
abbrev Sto := List C
/-- an exception: its class by name, what it keeps -/
structure Ex where
  cls : Str
  fs : List (Str × D)
inductive R (α : Type) where
  | ok (a : α) (s : Sto) | ex (x : Ex) (s : Sto) | bad
abbrev M (α : Type) := Sto → R α
def M.pure {α : Type} (a : α) : M α := fun s => .ok a s
def M.bind {α β : Type} (m : M α) (f : α → M β) : M β := fun s => match m s with
  | .ok a s' => f a s'
  | .ex x s' => .ex x s'
  | .bad => .bad
def M.bad {α : Type} : M α := fun _ => .bad
def M.opt {α : Type} : Option α → M α
  | some a => M.pure a
  | none => M.bad
@[simp] theorem M.pure_bind {α β : Type} (a : α) (f : α → M β) : M.bind (M.pure a) f = f a := rfl
@[simp] theorem M.bad_bind {α β : Type} (f : α → M β) : M.bind M.bad f = M.bad := rfl
theorem M.bind_assoc {α β γ : Type} (m : M α) (f : α → M β) (g : β → M γ) : M.bind (M.bind m f) g = M.bind m fun a => M.bind (f a) g := by
  funext s
  unfold M.bind
  cases m s <;> rfl
@[simp] theorem M.opt_some {α : Type} (a : α) : M.opt (some a) = M.pure a := rfl
@[simp] theorem M.opt_none {α : Type} : M.opt (none : Option α) = M.bad := rfl
@[simp] theorem M.pure_app {α : Type} (a : α) (s : Sto) : M.pure a s = .ok a s := rfl
theorem M.bind_app {α β : Type} (m : M α) (f : α → M β) (s : Sto) : M.bind m f s = match m s with | .ok a s' => f a s' | .ex x s' => .ex x s' | .bad => .bad := rfl
theorem M.bind_ok {α β : Type} {m : M α} {f : α → M β} {s s' : Sto} {a : α} (h : m s = .ok a s') : M.bind m f s = f a s' := by rw [M.bind_app, h]
theorem M.bind_ex {α β : Type} {m : M α} {f : α → M β} {s s' : Sto} {x : Ex} (h : m s = .ex x s') : M.bind m f s = .ex x s' := by rw [M.bind_app, h]

/-! ## How data lies in the heap: G what stands for good, ι the addresses of the cells -/
mutual
inductive DV (K : PySem.W.Frag) (G : Hp) (ι : List Addr) : V → D → Prop
  | non : DV K G ι .non .non
  | bl (b : Bool) : DV K G ι (.bl b) (.bl b)
  | int (i : Int) : DV K G ι (.int i) (.int i)
  | str (x : Str) : DV K G ι (.str x) (.str x)
  | tup {a : Addr} {xs : List V} {ds : List D} : SqT K G a xs → DVs K G ι xs ds → DV K G ι (.ref a) (.tup ds)
  | lst {a : Addr} {xs : List V} {ds : List D} : G a = some (.lst xs) → DVs K G ι xs ds → DV K G ι (.ref a) (.lst ds)
  | scr {a : Addr} {xs : List V} {ds : List D} : SqL K G a xs → DVs K G ι xs ds → DV K G ι (.ref a) (.scr ds)
  | dic {a : Addr} {kvs : List (Key × V)} {kds : List (Key × D)} : G a = some (.dK kvs) → DVk K G ι kvs kds → DV K G ι (.ref a) (.dic kds)
  | cell {n : Nat} {a : Addr} : ι[n]? = some a → DV K G ι (.ref a) (.cell n)
inductive DVs (K : PySem.W.Frag) (G : Hp) (ι : List Addr) : List V → List D → Prop
  | nil : DVs K G ι [] []
  | cons {v : V} {d : D} {vs : List V} {ds : List D} : DV K G ι v d → DVs K G ι vs ds → DVs K G ι (v :: vs) (d :: ds)
inductive DVk (K : PySem.W.Frag) (G : Hp) (ι : List Addr) : List (Key × V) → List (Key × D) → Prop
  | nil : DVk K G ι [] []
  | cons {k : Key} {v : V} {d : D} {vs : List (Key × V)} {ds : List (Key × D)} : DV K G ι v d → DVk K G ι vs ds → DVk K G ι ((k, v) :: vs) ((k, d) :: ds)
end
section
variable {K : PySem.W.Frag} {G G' : Hp} {ι ι' : List Addr}
theorem _root_.L2.Same.rd {H H' : Hp} {a : Addr} {u : HO} (e : Same H H') (h : Rd H a u) : Rd H' a u := by
  rcases h with h | ⟨o, h⟩
  · exact .inl (e _ _ h)
  · exact .inr ⟨o, e _ _ h⟩
theorem _root_.L2.Same.tup {H H' : Hp} {a : Addr} {xs : List V} (e : Same H H') (h : SqT K H a xs) : SqT K H' a xs := by
  rcases h with h | h
  · exact .inl (e.rd h)
  · exact .inr h
theorem ix_mono {n : Nat} {a : Addr} (p : ∃ t, ι' = ι ++ t) (h : ι[n]? = some a) : ι'[n]? = some a := by
  obtain ⟨t, rfl⟩ := p
  rw [List.getElem?_append_left (List.getElem?_eq_some_iff.mp h).1]
  exact h
mutual
theorem DV.mono (sm : Same G G') (p : ∃ t, ι' = ι ++ t) : ∀ {v : V} {d : D}, DV K G ι v d → DV K G' ι' v d
  | _, _, .non => .non
  | _, _, .bl b => .bl b
  | _, _, .int i => .int i
  | _, _, .str x => .str x
  | _, _, .tup h hs => .tup (sm.tup h) (DVs.mono sm p hs)
  | _, _, .lst h hs => .lst (sm _ _ h) (DVs.mono sm p hs)
  | _, _, .scr h hs => .scr (sm.seq h) (DVs.mono sm p hs)
  | _, _, .dic h hs => .dic (sm _ _ h) (DVk.mono sm p hs)
  | _, _, .cell h => .cell (ix_mono p h)
theorem DVs.mono (sm : Same G G') (p : ∃ t, ι' = ι ++ t) : ∀ {v : List V} {d : List D}, DVs K G ι v d → DVs K G' ι' v d
  | _, _, .nil => .nil
  | _, _, .cons h hs => .cons (DV.mono sm p h) (DVs.mono sm p hs)
theorem DVk.mono (sm : Same G G') (p : ∃ t, ι' = ι ++ t) : ∀ {v : List (Key × V)} {d : List (Key × D)}, DVk K G ι v d → DVk K G' ι' v d
  | _, _, .nil => .nil
  | _, _, .cons h hs => .cons (DV.mono sm p h) (DVk.mono sm p hs)
end
theorem DVs.length : ∀ {vs : List V} {ds : List D}, DVs K G ι vs ds → vs.length = ds.length
  | _, _, .nil => rfl
  | _, _, .cons _ t => by simp [DVs.length t]
theorem DVs.get : ∀ {vs : List V} {ds : List D} {i : Nat} {d : D}, DVs K G ι vs ds → ds[i]? = some d → ∃ v, vs[i]? = some v ∧ DV K G ι v d
  | _, _, _, _, .nil, e => by simp at e
  | _, _, 0, _, .cons r _, e => by simp at e; subst e; exact ⟨_, rfl, r⟩
  | _, _, i + 1, _, .cons _ t, e => by
    obtain ⟨v, h1, h2⟩ := DVs.get (i := i) t (by simpa using e)
    exact ⟨v, by simpa using h1, h2⟩
theorem DVs.getV : ∀ {vs : List V} {ds : List D} {i : Nat} {v : V}, DVs K G ι vs ds → vs[i]? = some v → ∃ d, ds[i]? = some d ∧ DV K G ι v d
  | _, _, _, _, .nil, e => by simp at e
  | _, _, 0, _, .cons r _, e => by simp at e; subst e; exact ⟨_, rfl, r⟩
  | _, _, i + 1, _, .cons _ t, e => by
    obtain ⟨v, h1, h2⟩ := DVs.getV (i := i) t (by simpa using e)
    exact ⟨v, by simpa using h1, h2⟩
theorem DVs.append : ∀ {vs ws : List V} {ds es : List D}, DVs K G ι vs ds → DVs K G ι ws es → DVs K G ι (vs ++ ws) (ds ++ es)
  | _, _, _, _, .nil, s => s
  | _, _, _, _, .cons r t, s => .cons r (DVs.append t s)
theorem DVs.set {v : V} {d : D} (r : DV K G ι v d) : ∀ {vs : List V} {ds : List D} (i : Nat), DVs K G ι vs ds → DVs K G ι (vs.set i v) (ds.set i d)
  | _, _, _, .nil => .nil
  | _, _, 0, .cons _ t => .cons r t
  | _, _, i + 1, .cons q t => .cons q (DVs.set r i t)
theorem DVs.take : ∀ {vs : List V} {ds : List D} (n : Nat), DVs K G ι vs ds → DVs K G ι (vs.take n) (ds.take n)
  | _, _, 0, _ => .nil
  | _, _, _ + 1, .nil => .nil
  | _, _, n + 1, .cons r t => .cons r (DVs.take n t)
theorem DVs.drop : ∀ {vs : List V} {ds : List D} (n : Nat), DVs K G ι vs ds → DVs K G ι (vs.drop n) (ds.drop n)
  | _, _, 0, r => r
  | _, _, _ + 1, .nil => .nil
  | _, _, n + 1, .cons _ t => DVs.drop n t
theorem DVs.reverse : ∀ {vs : List V} {ds : List D}, DVs K G ι vs ds → DVs K G ι vs.reverse ds.reverse
  | _, _, .nil => .nil
  | _, _, .cons r t => by
    rw [List.reverse_cons, List.reverse_cons]
    exact DVs.append (DVs.reverse t) (.cons r .nil)
end

/-! ## Cells -/
def CellR (K : PySem.W.Frag) (G : Hp) (ι : List Addr) (H : Hp) (a : Addr) : C → Prop
  | .lst ds => G a = none ∧ ∃ vs, H a = some (.lst vs) ∧ DVs K G ι vs ds
  | .dic ds => G a = none ∧ ∃ vs, H a = some (.dK vs) ∧ DVk K G ι vs ds
  | .gone => True
/-- G and the cells ι with the contents st, in H -/
structure WH (K : PySem.W.Frag) (G : Hp) (ι : List Addr) (st : Sto) (H : Hp) : Prop where
  same : Same G H
  len : ι.length = st.length
  nd : ι.Nodup
  there : ∀ a ∈ ι, H a ≠ none
  cells : ∀ (n : Nat) (a : Addr) (c : C), ι[n]? = some a → st[n]? = some c → CellR K G ι H a c
/-- what a piece of code leaves -/
structure Ext (ι ι' : List Addr) (H H' G G' : Hp) : Prop where
  fr : ∀ a o, H a = some o → a ∉ ι → H' a = some o
  sm : Same G G'
  pre : ∃ t, ι' = ι ++ t
  new : ∀ a ∈ ι', a ∈ ι ∨ H a = none
  gn : ∀ a o, G' a = some o → G a = some o ∨ H a = none ∨ a ∈ ι
section
variable {K : PySem.W.Frag} {G G' G'' : Hp} {ι ι' ι'' : List Addr} {H H' H'' : Hp} {st st' : Sto}
theorem Ext.refl : Ext ι ι H H G G := ⟨fun _ _ h _ => h, fun _ _ h => h, ⟨[], by simp⟩, fun _ h => .inl h, fun _ _ h => .inl h⟩
theorem Ext.trans (a : Ext ι ι' H H' G G') (b : Ext ι' ι'' H' H'' G' G'') (wb : ∀ x, H' x = none → H x = none) : Ext ι ι'' H H'' G G'' where
  fr := fun x o h hn => b.fr x o (a.fr x o h hn) fun hx => by
    rcases a.new x hx with z | z
    · exact hn z
    · rw [z] at h; cases h
  sm := a.sm.trans b.sm
  pre := by
    obtain ⟨t, e⟩ := a.pre
    obtain ⟨u, f⟩ := b.pre
    exact ⟨t ++ u, by rw [f, e, List.append_assoc]⟩
  new := fun x hx => by
    rcases b.new x hx with z | z
    · exact a.new x z
    · exact .inr (wb x z)
  gn := fun x o h => by
    rcases b.gn x o h with z | z | z
    · exact a.gn x o z
    · exact .inr (.inl (wb x z))
    · rcases a.new x z with y | y
      · exact .inr (.inr y)
      · exact .inr (.inl y)
/-- nothing that was tracked is lost -/
theorem Ext.back (a : Ext ι ι' H H' G G') (w : WH K G' ι' st' H') (x : Addr) (h : H' x = none) : H x = none := by
  cases e : H x with
  | none => rfl
  | some o =>
    by_cases hx : x ∈ ι
    · obtain ⟨t, ht⟩ := a.pre
      have : x ∈ ι' := by rw [ht]; exact List.mem_append_left _ hx
      exact absurd h (w.there x this)
    · rw [a.fr x o e hx] at h; cases h
theorem Ext.cons (a : Ext ι ι' H H' G G') (w : WH K G' ι' st' H') (b : Ext ι' ι'' H' H'' G' G'') : Ext ι ι'' H H'' G G'' := a.trans b (a.back w)
theorem Ext.dv (a : Ext ι ι' H H' G G') {v : V} {d : D} (h : DV K G ι v d) : DV K G' ι' v d := h.mono a.sm a.pre
theorem Ext.dvs (a : Ext ι ι' H H' G G') {v : List V} {d : List D} (h : DVs K G ι v d) : DVs K G' ι' v d := h.mono a.sm a.pre
end

/-! ## The names of a frame -/
abbrev DEnv := List (Option D)
structure EnvR (K : PySem.W.Frag) (G : Hp) (ι : List Addr) (σ : L2.St) (env : DEnv) : Prop where
  len : σ.length = env.length
  at_ : ∀ (i : Nat) (d : D), env[i]? = some (some d) → ∃ v, σ[i]? = some (some v) ∧ DV K G ι v d
section
variable {K : PySem.W.Frag} {G G' : Hp} {ι ι' : List Addr} {H H' : Hp} {σ : L2.St} {env : DEnv}
theorem EnvR.mono (e : EnvR K G ι σ env) (a : Ext ι ι' H H' G G') : EnvR K G' ι' σ env := ⟨e.len, fun i d h => by
  obtain ⟨v, h1, h2⟩ := e.at_ i d h
  exact ⟨v, h1, a.dv h2⟩⟩
theorem EnvR.set (e : EnvR K G ι σ env) {v : V} {d : D} (h : DV K G ι v d) (i : Nat) : EnvR K G ι (σ.set i (some v)) (env.set i (some d)) := ⟨by simp [e.len], fun j x hx => by
  by_cases hj : i = j
  · subst hj
    by_cases hl : i < env.length
    · rw [List.getElem?_set_self hl] at hx
      cases hx
      exact ⟨v, by rw [List.getElem?_set_self (by rw [e.len]; exact hl)], h⟩
    · rw [List.getElem?_eq_none (by simpa using hl)] at hx; cases hx
  · rw [List.getElem?_set_ne hj] at hx
    rw [List.getElem?_set_ne hj]
    exact e.at_ j x hx⟩
theorem EnvR.forget (e : EnvR K G ι σ env) (i : Nat) : EnvR K G ι (σ.set i none) (env.set i none) := ⟨by simp [e.len], fun j x hx => by
  by_cases hj : i = j
  · subst hj
    by_cases hl : i < env.length
    · rw [List.getElem?_set_self hl] at hx
      cases hx
    · rw [List.getElem?_eq_none (by simpa using hl)] at hx; cases hx
  · rw [List.getElem?_set_ne hj] at hx
    rw [List.getElem?_set_ne hj]
    exact e.at_ j x hx⟩
theorem EnvR.wipe (e : EnvR K G ι σ env) : ∀ vs : List Nat, EnvR K G ι (L2.wipe σ vs) (vs.foldr (fun v en => en.set v none) env)
  | [] => e
  | v :: vs => by
    unfold L2.wipe
    exact (EnvR.wipe e vs).forget v
end

/-! ## Exceptions, ends -/
/-- the classes of the program's own exceptions -/
structure CT where
  addr : Str → Option Addr
inductive DVf (K : PySem.W.Frag) (G : Hp) (ι : List Addr) : List (Str × V) → List (Str × D) → Prop
  | nil : DVf K G ι [] []
  | cons {k : Str} {v : V} {d : D} {vs : List (Str × V)} {ds : List (Str × D)} : DV K G ι v d → DVf K G ι vs ds → DVf K G ι ((k, v) :: vs) ((k, d) :: ds)
def ExR (K : PySem.W.Frag) (T : CT) (G : Hp) (ι : List Addr) (c : Value) (dd : Option Addr) (x : Ex) : Prop :=
  ∃ a, T.addr x.cls = some a ∧ c = .ref a ∧ ((x.fs = [] ∧ dd = none) ∨ ∃ b vs, dd = some b ∧ G b = some (.xd vs) ∧ DVf K G ι vs x.fs)
section
variable (K : PySem.W.Frag) (T : CT) (G : Hp) (ι : List Addr) (H : Hp)
def PostE (r : R D) (E : XK) (Q : VK) : Prop := match r with
  | .ok d st' => ∀ v G' ι' H', Ext ι ι' H H' G G' → WH K G' ι' st' H' → DV K G' ι' v d → Q v H'
  | .ex x st' => ∀ c dd G' ι' H', Ext ι ι' H H' G G' → WH K G' ι' st' H' → ExR K T G' ι' c dd x → E c dd H'
  | .bad => False
def PostB (r : R Bool) (E : XK) (Q : Bool → Hp → Prop) : Prop := match r with
  | .ok b st' => ∀ G' ι' H', Ext ι ι' H H' G G' → WH K G' ι' st' H' → Q b H'
  | .ex x st' => ∀ c dd G' ι' H', Ext ι ι' H H' G G' → WH K G' ι' st' H' → ExR K T G' ι' c dd x → E c dd H'
  | .bad => False
def PostA (r : R (List D)) (E : XK) (Q : List V → Hp → Prop) : Prop := match r with
  | .ok d st' => ∀ v G' ι' H', Ext ι ι' H H' G G' → WH K G' ι' st' H' → DVs K G' ι' v d → Q v H'
  | .ex x st' => ∀ c dd G' ι' H', Ext ι ι' H H' G G' → WH K G' ι' st' H' → ExR K T G' ι' c dd x → E c dd H'
  | .bad => False
end
section
variable {K : PySem.W.Frag} {T : CT} {G : Hp} {ι : List Addr} {H : Hp} {st : Sto} {E : XK}
theorem PostE.ok {d : D} {st' : Sto} {Q : VK} (p : PostE K T G ι H (.ok d st') E Q) {v : V} (w : WH K G ι st' H) (r : DV K G ι v d) : Q v H := p v G ι H .refl w r
/-- one behind another -/
theorem PostE.bind {m : M D} {f : D → M D} {Q Q' : VK} (p : PostE K T G ι H (M.bind m f st) E Q)
    (h : ∀ d st1 v G1 ι1 H1, Ext ι ι1 H H1 G G1 → WH K G1 ι1 st1 H1 → DV K G1 ι1 v d → PostE K T G1 ι1 H1 (f d st1) E Q → Q' v H1) : PostE K T G ι H (m st) E Q' := by
  rw [M.bind_app] at p
  cases e : m st with
  | bad => rw [e] at p; exact p
  | ex x s => rw [e] at p; exact p
  | ok d s =>
    rw [e] at p
    dsimp only at p
    intro v G1 ι1 H1 x1 w1 r1
    refine h d s v G1 ι1 H1 x1 w1 r1 ?_
    cases e2 : f d s with
    | bad => rw [e2] at p; exact p
    | ex x s2 =>
      rw [e2] at p
      exact fun c dd G' ι' H' x2 w2 r2 => p c dd G' ι' H' (x1.cons w1 x2) w2 r2
    | ok d2 s2 =>
      rw [e2] at p
      exact fun v2 G' ι' H' x2 w2 r2 => p v2 G' ι' H' (x1.cons w1 x2) w2 r2
end
end L3
namespace L3
open PySem PySem.Spec PyProof.Rows L2

/-! ## New things -/
section
variable {K : PySem.W.Frag} {T : CT} {G : Hp} {ι : List Addr} {H : Hp} {st : Sto} {E : XK}
theorem WH.off (w : WH K G ι st H) {p : Addr} (hp : H p = none) : G p = none := w.same.free hp
theorem WH.ne (w : WH K G ι st H) {p a : Addr} (hp : H p = none) (ha : a ∈ ι) : a ≠ p := fun e => w.there a ha (by rw [e]; exact hp)
theorem upd_sameS {G H : Hp} {p : Addr} {o : HO} (s : Same G H) : Same (upd G p o) (upd H p o) := fun b u h => by
  by_cases e : b = p
  · subst e; rw [upd_same] at h; rw [upd_same]; exact h
  · rw [upd_ne e] at h; rw [upd_ne e]; exact s b u h
theorem Same.upd_new {G : Hp} {p : Addr} {o : HO} (hp : G p = none) : Same G (upd G p o) := fun b u h => by
  rw [upd_ne (ne_of_none h hp)]; exact h
theorem CellR.keep {G' H' : Hp} {ι' : List Addr} {a : Addr} {c : C} (h : CellR K G ι H a c) (sm : Same G G') (p : ∃ t, ι' = ι ++ t) (hg : G a = none → G' a = none) (hh : ∀ o, H a = some o → H' a = some o) : CellR K G' ι' H' a c := by
  cases c with
  | lst ds => obtain ⟨g, vs, e, r⟩ := h; exact ⟨hg g, vs, hh _ e, r.mono sm p⟩
  | dic ds => obtain ⟨g, vs, e, r⟩ := h; exact ⟨hg g, vs, hh _ e, r.mono sm p⟩
  | gone => trivial
/-- a new thing that stands for good -/
theorem WH.fz (w : WH K G ι st H) {p : Addr} (hp : H p = none) (o : HO) : WH K (upd G p o) ι st (upd H p o) where
  same := upd_sameS w.same
  len := w.len
  nd := w.nd
  there := fun a ha => by rw [upd_ne (w.ne hp ha)]; exact w.there a ha
  cells := fun n a c h1 h2 => by
    have ha : a ∈ ι := List.mem_of_getElem? h1
    refine (w.cells n a c h1 h2).keep (Same.upd_new (w.off hp)) ⟨[], by simp⟩ (fun g => by rw [upd_ne (w.ne hp ha)]; exact g) fun o' e => by rw [upd_ne (w.ne hp ha)]; exact e
theorem WH.fzExt (w : WH K G ι st H) {p : Addr} (hp : H p = none) (o : HO) : Ext ι ι H (upd H p o) G (upd G p o) where
  fr := fun a u h _ => by rw [upd_ne (ne_of_none h hp)]; exact h
  sm := Same.upd_new (w.off hp)
  pre := ⟨[], by simp⟩
  new := fun _ h => .inl h
  gn := fun a u h => by
    by_cases e : a = p
    · subst e; exact .inr (.inl hp)
    · rw [upd_ne e] at h; exact .inl h
/-- a new cell -/
theorem WH.cl (w : WH K G ι st H) {p : Addr} (hp : H p = none) {o : HO} {c : C} (hc : CellR K G (ι ++ [p]) (upd H p o) p c) : WH K G (ι ++ [p]) (st ++ [c]) (upd H p o) where
  same := fun b u h => by rw [upd_ne (ne_of_none (w.same b u h) hp)]; exact w.same b u h
  len := by simp [w.len]
  nd := by
    rw [List.nodup_append]
    refine ⟨w.nd, by simp, fun a ha b hb => ?_⟩
    have e : b = p := by simpa using hb
    rw [e]
    exact w.ne hp ha
  there := fun a ha => by
    rcases List.mem_append.mp ha with h | h
    · rw [upd_ne (w.ne hp h)]; exact w.there a h
    · have e : a = p := by simpa using h
      rw [e, upd_same]; exact Option.some_ne_none _
  cells := fun n a c' h1 h2 => by
    by_cases hn : n < ι.length
    · rw [List.getElem?_append_left hn] at h1
      rw [List.getElem?_append_left (by rw [← w.len]; exact hn)] at h2
      have ha : a ∈ ι := List.mem_of_getElem? h1
      exact (w.cells n a c' h1 h2).keep (fun _ _ h => h) ⟨[p], rfl⟩ (fun g => g) fun o' e => by rw [upd_ne (w.ne hp ha)]; exact e
    · have hn' : ι.length ≤ n := by omega
      rw [List.getElem?_append_right hn'] at h1
      rw [List.getElem?_append_right (by rw [← w.len]; exact hn')] at h2
      rw [← w.len] at h2
      cases e : n - ι.length with
      | zero =>
        rw [e] at h1 h2
        have e1 : p = a := by simpa using h1
        have e2 : c = c' := by simpa using h2
        rw [← e1, ← e2]
        exact hc
      | succ k => rw [e] at h1; simp at h1
theorem WH.clExt (w : WH K G ι st H) {p : Addr} (hp : H p = none) (o : HO) : Ext ι (ι ++ [p]) H (upd H p o) G G where
  fr := fun a u h _ => by rw [upd_ne (ne_of_none h hp)]; exact h
  sm := fun _ _ h => h
  pre := ⟨[p], rfl⟩
  new := fun a h => by
    rcases List.mem_append.mp h with h | h
    · exact .inl h
    · have e : a = p := by simpa using h
      rw [e]; exact .inr hp
  gn := fun _ _ h => .inl h
/-- a cell is written -/
theorem WH.put (w : WH K G ι st H) {n : Nat} {a : Addr} {o : HO} {c : C} (h1 : ι[n]? = some a) (hg : G a = none) (hc : CellR K G ι (upd H a o) a c) : WH K G ι (st.set n c) (upd H a o) where
  same := fun b u h => by
    by_cases e : b = a
    · subst e; rw [hg] at h; cases h
    · rw [upd_ne e]; exact w.same b u h
  len := by simp [w.len]
  nd := w.nd
  there := fun b hb => by
    by_cases e : b = a
    · subst e; rw [upd_same]; exact Option.some_ne_none _
    · rw [upd_ne e]; exact w.there b hb
  cells := fun m b c' h2 h3 => by
    by_cases hm : n = m
    · subst hm
      rw [h1] at h2
      cases h2
      have hl : n < st.length := by rw [← w.len]; exact (List.getElem?_eq_some_iff.mp h1).1
      rw [List.getElem?_set_self hl] at h3
      cases h3
      exact hc
    · rw [List.getElem?_set_ne hm] at h3
      have ne : b ≠ a := fun e => by
        subst e
        obtain ⟨l1, e1⟩ := List.getElem?_eq_some_iff.mp h1
        obtain ⟨l2, e2⟩ := List.getElem?_eq_some_iff.mp h2
        exact hm ((List.getElem_inj w.nd).mp (e1.trans e2.symm))
      exact (w.cells m b c' h2 h3).keep (fun _ _ h => h) ⟨[], by simp⟩ (fun g => g) fun o' e => by rw [upd_ne ne]; exact e
theorem WH.putExt {n : Nat} {a : Addr} {o : HO} (h1 : ι[n]? = some a) : Ext ι ι H (upd H a o) G G where
  fr := fun b u h hn => by
    rw [upd_ne (fun e => hn (by rw [e]; exact List.mem_of_getElem? h1))]; exact h
  sm := fun _ _ h => h
  pre := ⟨[], by simp⟩
  new := fun _ h => .inl h
  gn := fun _ _ h => .inl h
end

/-! ## What is read of a list, wherever it stands -/
def slsOf (st : Sto) : D → Option (List D)
  | .lst xs => some xs
  | .cell n => match st[n]? with
    | some (.lst xs) => some xs
    | _ => none
  | _ => none
def lstOf (st : Sto) : D → Option (List D)
  | .lst xs => some xs
  | .scr xs => some xs
  | .cell n => match st[n]? with
    | some (.lst xs) => some xs
    | _ => none
  | _ => none
def tupOf : D → Option (List D)
  | .tup xs => some xs
  | _ => none
@[simp] theorem slsOf_lst (st : Sto) (xs : List D) : slsOf st (.lst xs) = some xs := rfl
@[simp] theorem lstOf_scr (st : Sto) (xs : List D) : lstOf st (.scr xs) = some xs := rfl
@[simp] theorem lstOf_lst (st : Sto) (xs : List D) : lstOf st (.lst xs) = some xs := rfl
@[simp] theorem tupOf_tup (xs : List D) : tupOf (.tup xs) = some xs := rfl
theorem lstOf_cell {st : Sto} {n : Nat} {xs : List D} (h : st[n]? = some (.lst xs)) : lstOf st (.cell n) = some xs := by
  show (match st[n]? with | some (.lst xs) => some xs | _ => none) = some xs
  rw [h]
theorem slsOf_cell {st : Sto} {n : Nat} {xs : List D} (h : st[n]? = some (.lst xs)) : slsOf st (.cell n) = some xs := by
  show (match st[n]? with | some (.lst xs) => some xs | _ => none) = some xs
  rw [h]
section
variable {K : PySem.W.Frag} {T : CT} {G : Hp} {ι : List Addr} {H : Hp} {st : Sto}
theorem cell_at (w : WH K G ι st H) {n : Nat} {c : C} (h : st[n]? = some c) : ∃ a, ι[n]? = some a ∧ CellR K G ι H a c := by
  have hl : n < ι.length := by rw [w.len]; exact (List.getElem?_eq_some_iff.mp h).1
  exact ⟨ι[n], List.getElem?_eq_getElem hl, w.cells n _ c (List.getElem?_eq_getElem hl) h⟩
theorem sls_at (w : WH K G ι st H) {v : V} {d : D} {ds : List D} (r : DV K G ι v d) (h : slsOf st d = some ds) : ∃ a vs, v = .ref a ∧ H a = some (.lst vs) ∧ DVs K G ι vs ds := by
  cases r with
  | lst q hs =>
    rw [slsOf_lst] at h
    cases h
    exact ⟨_, _, rfl, w.same _ _ q, hs⟩
  | @cell n a q =>
    have h' : (match st[n]? with | some (.lst xs) => some xs | _ => none) = some ds := h
    cases e2 : st[n]? with
    | none => rw [e2] at h'; cases h'
    | some c =>
      rw [e2] at h'
      cases c with
      | lst xs =>
        cases h'
        have z : ∃ vs, H a = some (.lst vs) ∧ DVs K G ι vs ds := (w.cells n a _ q e2).2
        obtain ⟨vs, e3, r3⟩ := z
        exact ⟨a, vs, rfl, e3, r3⟩
      | dic _ => cases h'
      | gone => cases h'
  | scr => cases h
  | non => cases h
  | bl => cases h
  | int => cases h
  | str => cases h
  | tup => cases h
  | dic => cases h
theorem lst_atS (w : WH K G ι st H) {v : V} {d : D} {ds : List D} (r : DV K G ι v d) (h : lstOf st d = some ds) : ∃ a vs, v = .ref a ∧ SqL K H a vs ∧ DVs K G ι vs ds := by
  cases d with
  | scr xs =>
    cases h
    cases r with
    | scr q hs => exact ⟨_, _, rfl, w.same.seq q, hs⟩
  | lst xs =>
    obtain ⟨a, vs, e, q, r'⟩ := sls_at w r (show slsOf st (.lst xs) = some ds from h)
    exact ⟨a, vs, e, .of q, r'⟩
  | cell n =>
    obtain ⟨a, vs, e, q, r'⟩ := sls_at w r (show slsOf st (.cell n) = some ds from h)
    exact ⟨a, vs, e, .of q, r'⟩
  | non => cases h
  | bl => cases h
  | int => cases h
  | str => cases h
  | tup => cases h
  | dic => cases h
theorem tup_at (w : WH K G ι st H) {v : V} {d : D} {ds : List D} (r : DV K G ι v d) (h : tupOf d = some ds) : ∃ a vs, v = .ref a ∧ SqT K H a vs ∧ DVs K G ι vs ds := by
  cases r with
  | tup q hs =>
    cases h
    exact ⟨_, _, rfl, w.same.tup q, hs⟩
  | lst => cases h
  | scr => cases h
  | cell => cases h
  | non => cases h
  | bl => cases h
  | int => cases h
  | str => cases h
  | dic => cases h
end

/-! ## Readings over data -/
abbrev EM := DEnv → M D
abbrev BM := DEnv → M Bool
abbrev AM := DEnv → M (List D)
def M.rd {α : Type} (f : Sto → Option α) : M α := fun st => match f st with
  | some a => .ok a st
  | none => .bad
theorem M.rd_ok {α : Type} {f : Sto → Option α} {st : Sto} {a : α} (h : f st = some a) : M.rd f st = .ok a st := by unfold M.rd; rw [h]
@[simp] theorem M.rd_const {α : Type} (o : Option α) : M.rd (fun _ => o) = M.opt o := by
  funext st
  cases o <;> rfl
section
variable (K : PySem.W.Frag) (T : CT) (W : WX)
def tOf (m : EM) : TE := fun σ H Q => ∃ G ι st env, WH K G ι st H ∧ EnvR K G ι σ env ∧ PostE K T G ι H (m env st) (fun c d H' => W c d σ H') Q
def bOf (m : BM) : TT := fun σ H Q => ∃ G ι st env, WH K G ι st H ∧ EnvR K G ι σ env ∧ PostB K T G ι H (m env st) (fun c d H' => W c d σ H') Q
def aOf (m : AM) : TA := fun σ H Q => ∃ G ι st env, WH K G ι st H ∧ EnvR K G ι σ env ∧ PostA K T G ι H (m env st) (fun c d H' => W c d σ H') Q
/-- what an operation gives that changes no cell -/
def PostO (G : Hp) (ι : List Addr) (st : Sto) (H : Hp) (o : Option D) (Q : VK) : Prop := match o with
  | some d => ∀ v G' H', Ext ι ι H H' G G' → WH K G' ι st H' → DV K G' ι v d → Q v H'
  | none => False
def rOf (op : Sto → D → D → Option D) : R2 := fun x y H Q => ∃ G ι st dx dy, WH K G ι st H ∧ DV K G ι x dx ∧ DV K G ι y dy ∧ PostO K G ι st H (op st dx dy) Q
def uOf (op : Sto → D → Option D) : V → Hp → VK → Prop := fun x H Q => ∃ G ι st dx, WH K G ι st H ∧ DV K G ι x dx ∧ PostO K G ι st H (op st dx) Q
def cOf (op : Sto → List D → Option D) : List V → Hp → VK → Prop := fun xs H Q => ∃ G ι st ds, WH K G ι st H ∧ DVs K G ι xs ds ∧ PostO K G ι st H (op st ds) Q
end
def DE (X : Cx) (T : CT) (W : WX) (e : Expr) (m : EM) : Prop := PE X e (tOf X.K T W m)
def DT (X : Cx) (T : CT) (W : WX) (e : Expr) (m : BM) : Prop := PT X e (bOf X.K T W m)
def DA (X : Cx) (T : CT) (W : WX) (es : List Expr) (m : AM) : Prop := PA X es (aOf X.K T W m)
def OpD (X : Cx) (f : Value → Value → Sem Value) (op : Sto → D → D → Option D) : Prop := OpR X f (rOf X.K op)
def UnD (X : Cx) (f : Value → Sem Value) (op : Sto → D → Option D) : Prop := UnR X f (uOf X.K op)
def CallD (X : Cx) (f : Value) (op : Sto → List D → Option D) : Prop := CallR X f (cOf X.K op)
def IxD (X : Cx) (op : Sto → D → D → Option D) : Prop := IxR X (rOf X.K op)
section
variable {X : Cx} {T : CT} {W : WX} {e : Expr}
theorem DE.of {t : TE} {m : EM} (h : PE X e t) (ht : ∀ σ H Q G ι st env, WH X.K G ι st H → EnvR X.K G ι σ env → PostE X.K T G ι H (m env st) (fun c d H' => W c d σ H') Q → t σ H Q) : DE X T W e m :=
  ⟨fun pins s σ H Q I ⟨G, ι, st, env, w, r, p⟩ => h.run pins s σ H Q I (ht σ H Q G ι st env w r p)⟩
theorem DT.of {t : TT} {m : BM} (h : PT X e t) (ht : ∀ σ H Q G ι st env, WH X.K G ι st H → EnvR X.K G ι σ env → PostB X.K T G ι H (m env st) (fun c d H' => W c d σ H') Q → t σ H Q) : DT X T W e m :=
  ⟨fun pins s σ H Q I ⟨G, ι, st, env, w, r, p⟩ => h.run pins s σ H Q I (ht σ H Q G ι st env w r p)⟩
theorem DA.of {es : List Expr} {t : TA} {m : AM} (h : PA X es t) (ht : ∀ σ H Q G ι st env, WH X.K G ι st H → EnvR X.K G ι σ env → PostA X.K T G ι H (m env st) (fun c d H' => W c d σ H') Q → t σ H Q) : DA X T W es m :=
  ⟨fun pos pins s σ H Q I ⟨G, ι, st, env, w, r, p⟩ => h.run pos pins s σ H Q I (ht σ H Q G ι st env w r p)⟩
theorem OpD.of {f : Value → Value → Sem Value} {r : R2} {op : Sto → D → D → Option D} (h : OpR X f r) (ht : ∀ G ι st H x y dx dy Q, WH X.K G ι st H → DV X.K G ι x dx → DV X.K G ι y dy → PostO X.K G ι st H (op st dx dy) Q → r x y H Q) : OpD X f op :=
  fun pins s σ H x y v u Q I rx ry ⟨G, ι, st, dx, dy, w, hx, hy, p⟩ => h pins s σ H x y v u Q I rx ry (ht G ι st H x y dx dy Q w hx hy p)
theorem UnD.of {f : Value → Sem Value} {r : V → Hp → VK → Prop} {op : Sto → D → Option D} (h : UnR X f r) (ht : ∀ G ι st H x dx Q, WH X.K G ι st H → DV X.K G ι x dx → PostO X.K G ι st H (op st dx) Q → r x H Q) : UnD X f op :=
  fun pins s σ H x v Q I rx ⟨G, ι, st, dx, w, hx, p⟩ => h pins s σ H x v Q I rx (ht G ι st H x dx Q w hx p)
theorem CallD.of {f : Value} {r : List V → Hp → VK → Prop} {op : Sto → List D → Option D} (h : CallR X f r) (ht : ∀ G ι st H xs ds Q, WH X.K G ι st H → DVs X.K G ι xs ds → PostO X.K G ι st H (op st ds) Q → r xs H Q) : CallD X f op :=
  fun pins s σ H xs us Q I rx ⟨G, ι, st, ds, w, hx, p⟩ => h pins s σ H xs us Q I rx (ht G ι st H xs ds Q w hx p)
theorem IxD.of {r : R2} {op : Sto → D → D → Option D} (h : IxR X r) (ht : ∀ G ι st H x y dx dy Q, WH X.K G ι st H → DV X.K G ι x dx → DV X.K G ι y dy → PostO X.K G ι st H (op st dx dy) Q → r x y H Q) : IxD X op :=
  fun value slice pins s σ H x y v u Q I rx ry ⟨G, ι, st, dx, dy, w, hx, hy, p⟩ hs => h value slice pins s σ H x y v u Q I rx ry (ht G ι st H x y dx dy Q w hx hy p) hs
/-- where the first operation has no answer, the second one -/
def orO {α : Type} (o : Option α) (o' : Option α) : Option α := match o with
  | some a => some a
  | none => o'
theorem PostO.or {K : PySem.W.Frag} {G : Hp} {ι : List Addr} {st : Sto} {H : Hp} {o o' : Option D} {Q : VK} (p : PostO K G ι st H (orO o o') Q) : PostO K G ι st H o Q ∨ PostO K G ι st H o' Q := by
  cases o with
  | none => exact .inr p
  | some d => exact .inl p
theorem OpD.or {f : Value → Value → Sem Value} {op op' : Sto → D → D → Option D} (h : OpD X f op) (h' : OpD X f op') : OpD X f (fun st x y => orO (op st x y) (op' st x y)) :=
  OpD.of (OpR.or h h') fun G ι st H x y dx dy Q w hx hy p => by
    rcases p.or with p | p
    · exact .inl ⟨G, ι, st, dx, dy, w, hx, hy, p⟩
    · exact .inr ⟨G, ι, st, dx, dy, w, hx, hy, p⟩
theorem IxD.or {op op' : Sto → D → D → Option D} (h : IxD X op) (h' : IxD X op') : IxD X (fun st x y => orO (op st x y) (op' st x y)) :=
  IxD.of (IxR.or h h') fun G ι st H x y dx dy Q w hx hy p => by
    rcases p.or with p | p
    · exact .inl ⟨G, ι, st, dx, dy, w, hx, hy, p⟩
    · exact .inr ⟨G, ι, st, dx, dy, w, hx, hy, p⟩
theorem CallD.or {f : Value} {op op' : Sto → List D → Option D} (h : CallD X f op) (h' : CallD X f op') : CallD X f (fun st xs => orO (op st xs) (op' st xs)) :=
  fun pins s σ H xs us Q I rx ⟨G, ι, st, ds, w, hx, p⟩ => by
    rcases p.or with p | p
    · exact h pins s σ H xs us Q I rx ⟨G, ι, st, ds, w, hx, p⟩
    · exact h' pins s σ H xs us Q I rx ⟨G, ι, st, ds, w, hx, p⟩
end

section
variable {K : PySem.W.Frag} {T : CT} {G : Hp} {ι : List Addr} {H : Hp} {st : Sto} {E : XK}
theorem PostO.val {d : D} {Q : VK} (p : PostO K G ι st H (some d) Q) (w : WH K G ι st H) {v : V} (r : DV K G ι v d) : Q v H := p v G H .refl w r
theorem PostE.rd {f : Sto → Option D} {Q : VK} (p : PostE K T G ι H (M.rd f st) E Q) : PostO K G ι st H (f st) Q := by
  unfold M.rd at p
  cases e : f st with
  | none => rw [e] at p; exact p
  | some d => rw [e] at p; exact fun v G' H' x w r => p v G' ι H' x w r
theorem PostE.bindB {m : M Bool} {f : Bool → M D} {Q : VK} {Q' : Bool → Hp → Prop} (p : PostE K T G ι H (M.bind m f st) E Q)
    (h : ∀ d st1 G1 ι1 H1, Ext ι ι1 H H1 G G1 → WH K G1 ι1 st1 H1 → PostE K T G1 ι1 H1 (f d st1) E Q → Q' d H1) : PostB K T G ι H (m st) E Q' := by
  rw [M.bind_app] at p
  cases e : m st with
  | bad => rw [e] at p; exact p
  | ex x s => rw [e] at p; exact p
  | ok d s =>
    rw [e] at p
    dsimp only at p
    intro G1 ι1 H1 x1 w1
    refine h d s G1 ι1 H1 x1 w1 ?_
    cases e2 : f d s with
    | bad => rw [e2] at p; exact p
    | ex x s2 =>
      rw [e2] at p
      exact fun c dd G' ι' H' x2 w2 r2 => p c dd G' ι' H' (x1.cons w1 x2) w2 r2
    | ok d2 s2 =>
      rw [e2] at p
      exact fun v2 G' ι' H' x2 w2 r2 => p v2 G' ι' H' (x1.cons w1 x2) w2 r2
theorem PostB.bindE {m : M D} {f : D → M Bool} {Q : Bool → Hp → Prop} {Q' : VK} (p : PostB K T G ι H (M.bind m f st) E Q)
    (h : ∀ d st1 v G1 ι1 H1, Ext ι ι1 H H1 G G1 → WH K G1 ι1 st1 H1 → DV K G1 ι1 v d → PostB K T G1 ι1 H1 (f d st1) E Q → Q' v H1) : PostE K T G ι H (m st) E Q' := by
  rw [M.bind_app] at p
  cases e : m st with
  | bad => rw [e] at p; exact p
  | ex x s => rw [e] at p; exact p
  | ok d s =>
    rw [e] at p
    dsimp only at p
    intro v G1 ι1 H1 x1 w1 r1
    refine h d s v G1 ι1 H1 x1 w1 r1 ?_
    cases e2 : f d s with
    | bad => rw [e2] at p; exact p
    | ex x s2 =>
      rw [e2] at p
      exact fun c dd G' ι' H' x2 w2 r2 => p c dd G' ι' H' (x1.cons w1 x2) w2 r2
    | ok d2 s2 =>
      rw [e2] at p
      exact fun G' ι' H' x2 w2 => p G' ι' H' (x1.cons w1 x2) w2
theorem PostB.bindB {m : M Bool} {f : Bool → M Bool} {Q : Bool → Hp → Prop} {Q' : Bool → Hp → Prop} (p : PostB K T G ι H (M.bind m f st) E Q)
    (h : ∀ d st1 G1 ι1 H1, Ext ι ι1 H H1 G G1 → WH K G1 ι1 st1 H1 → PostB K T G1 ι1 H1 (f d st1) E Q → Q' d H1) : PostB K T G ι H (m st) E Q' := by
  rw [M.bind_app] at p
  cases e : m st with
  | bad => rw [e] at p; exact p
  | ex x s => rw [e] at p; exact p
  | ok d s =>
    rw [e] at p
    dsimp only at p
    intro G1 ι1 H1 x1 w1
    refine h d s G1 ι1 H1 x1 w1 ?_
    cases e2 : f d s with
    | bad => rw [e2] at p; exact p
    | ex x s2 =>
      rw [e2] at p
      exact fun c dd G' ι' H' x2 w2 r2 => p c dd G' ι' H' (x1.cons w1 x2) w2 r2
    | ok d2 s2 =>
      rw [e2] at p
      exact fun G' ι' H' x2 w2 => p G' ι' H' (x1.cons w1 x2) w2
theorem PostE.bindA {m : M (List D)} {f : List D → M D} {Q : VK} {Q' : List V → Hp → Prop} (p : PostE K T G ι H (M.bind m f st) E Q)
    (h : ∀ d st1 v G1 ι1 H1, Ext ι ι1 H H1 G G1 → WH K G1 ι1 st1 H1 → DVs K G1 ι1 v d → PostE K T G1 ι1 H1 (f d st1) E Q → Q' v H1) : PostA K T G ι H (m st) E Q' := by
  rw [M.bind_app] at p
  cases e : m st with
  | bad => rw [e] at p; exact p
  | ex x s => rw [e] at p; exact p
  | ok d s =>
    rw [e] at p
    dsimp only at p
    intro v G1 ι1 H1 x1 w1 r1
    refine h d s v G1 ι1 H1 x1 w1 r1 ?_
    cases e2 : f d s with
    | bad => rw [e2] at p; exact p
    | ex x s2 =>
      rw [e2] at p
      exact fun c dd G' ι' H' x2 w2 r2 => p c dd G' ι' H' (x1.cons w1 x2) w2 r2
    | ok d2 s2 =>
      rw [e2] at p
      exact fun v2 G' ι' H' x2 w2 r2 => p v2 G' ι' H' (x1.cons w1 x2) w2 r2
theorem PostA.bindE {m : M D} {f : D → M (List D)} {Q : List V → Hp → Prop} {Q' : VK} (p : PostA K T G ι H (M.bind m f st) E Q)
    (h : ∀ d st1 v G1 ι1 H1, Ext ι ι1 H H1 G G1 → WH K G1 ι1 st1 H1 → DV K G1 ι1 v d → PostA K T G1 ι1 H1 (f d st1) E Q → Q' v H1) : PostE K T G ι H (m st) E Q' := by
  rw [M.bind_app] at p
  cases e : m st with
  | bad => rw [e] at p; exact p
  | ex x s => rw [e] at p; exact p
  | ok d s =>
    rw [e] at p
    dsimp only at p
    intro v G1 ι1 H1 x1 w1 r1
    refine h d s v G1 ι1 H1 x1 w1 r1 ?_
    cases e2 : f d s with
    | bad => rw [e2] at p; exact p
    | ex x s2 =>
      rw [e2] at p
      exact fun c dd G' ι' H' x2 w2 r2 => p c dd G' ι' H' (x1.cons w1 x2) w2 r2
    | ok d2 s2 =>
      rw [e2] at p
      exact fun v2 G' ι' H' x2 w2 r2 => p v2 G' ι' H' (x1.cons w1 x2) w2 r2
theorem PostA.bindA {m : M (List D)} {f : List D → M (List D)} {Q : List V → Hp → Prop} {Q' : List V → Hp → Prop} (p : PostA K T G ι H (M.bind m f st) E Q)
    (h : ∀ d st1 v G1 ι1 H1, Ext ι ι1 H H1 G G1 → WH K G1 ι1 st1 H1 → DVs K G1 ι1 v d → PostA K T G1 ι1 H1 (f d st1) E Q → Q' v H1) : PostA K T G ι H (m st) E Q' := by
  rw [M.bind_app] at p
  cases e : m st with
  | bad => rw [e] at p; exact p
  | ex x s => rw [e] at p; exact p
  | ok d s =>
    rw [e] at p
    dsimp only at p
    intro v G1 ι1 H1 x1 w1 r1
    refine h d s v G1 ι1 H1 x1 w1 r1 ?_
    cases e2 : f d s with
    | bad => rw [e2] at p; exact p
    | ex x s2 =>
      rw [e2] at p
      exact fun c dd G' ι' H' x2 w2 r2 => p c dd G' ι' H' (x1.cons w1 x2) w2 r2
    | ok d2 s2 =>
      rw [e2] at p
      exact fun v2 G' ι' H' x2 w2 r2 => p v2 G' ι' H' (x1.cons w1 x2) w2 r2
end

/-! ## Expressions -/
def eVar (i : Nat) : EM := fun env => match env[i]? with
  | some (some d) => M.pure d
  | _ => M.bad
def eC (d : D) : EM := fun _ => M.pure d
def eBin (op : Sto → D → D → Option D) (a b : EM) : EM := fun env => M.bind (a env) fun x => M.bind (b env) fun y => M.rd fun st => op st x y
def eUn (op : Sto → D → Option D) (a : EM) : EM := fun env => M.bind (a env) fun x => M.rd fun st => op st x
def asB : D → M Bool
  | .bl b => M.pure b
  | _ => M.bad
@[simp] theorem asB_bl (b : Bool) : asB (.bl b) = M.pure b := rfl
def bE (a : EM) : BM := fun env => M.bind (a env) asB
def eAnd (a b : EM) : EM := fun env => M.bind (a env) fun x => M.bind (asB x) fun c => if c = true then b env else M.pure (.bl false)
def eOr (a b : EM) : EM := fun env => M.bind (a env) fun x => M.bind (asB x) fun c => if c = true then M.pure (.bl true) else b env
def eNot (a : EM) : EM := fun env => M.bind (a env) fun x => M.bind (asB x) fun c => M.pure (.bl (!c))
def eIf (c : BM) (a b : EM) : EM := fun env => M.bind (c env) fun k => if k = true then a env else b env
def bAnd (a b : BM) : BM := fun env => M.bind (a env) fun c => if c = true then b env else M.pure false
def bOr (a b : BM) : BM := fun env => M.bind (a env) fun c => if c = true then M.pure true else b env
def bNot (a : BM) : BM := fun env => M.bind (a env) fun c => M.pure (!c)
def aNil : AM := fun _ => M.pure []
def aCons (a : EM) (b : AM) : AM := fun env => M.bind (a env) fun x => M.bind (b env) fun xs => M.pure (x :: xs)
def fits (n : Nat) : Bool := decide (n ≤ 16777216)
theorem fits_line {n : Nat} (h : fits n = true) : n ≤ sizeLine := by
  rw [sizeLine_eq]; exact of_decide_eq_true h
def eTup (a : AM) : EM := fun env => M.bind (a env) fun xs => M.opt (if fits xs.length then some (.tup xs) else none)
def eLst (a : AM) : EM := fun env => M.bind (a env) fun xs => M.opt (if fits xs.length then some (.lst xs) else none)
def M.new (c : C) : M D := fun st => .ok (.cell st.length) (st ++ [c])
def eLstC (a : AM) : EM := fun env => M.bind (a env) fun xs => if fits xs.length then M.new (.lst xs) else M.bad
def eCall (op : Sto → List D → Option D) (a : AM) : EM := fun env => M.bind (a env) fun xs => M.rd fun st => op st xs
def eChain (op op' : Sto → D → D → Option D) (a b c : EM) : EM := fun env => M.bind (a env) fun x => M.bind (b env) fun y => M.bind (M.rd fun st => op st x y) fun z => M.bind (asB z) fun k =>
  if k = true then M.bind (c env) fun u => M.rd fun st => op' st y u else M.pure (.bl false)
section
variable {X : Cx} {T : CT} {W : WX} {e a b c : Expr} {es : List Expr} {m ma mb mc : EM} {pos : Pos}
theorem PostE.asB {K : PySem.W.Frag} {G : Hp} {ι : List Addr} {H : Hp} {st : Sto} {E : XK} {x : D} {f : Bool → M D} {Q : VK} {v : V} (r : DV K G ι v x) (p : PostE K T G ι H (M.bind (L3.asB x) f st) E Q) : ∃ k, v = .bl k ∧ x = .bl k ∧ PostE K T G ι H (f k st) E Q := by
  cases r with
  | bl k => exact ⟨k, rfl, rfl, p⟩
  | _ => exact p.elim
theorem PostB.asB {K : PySem.W.Frag} {G : Hp} {ι : List Addr} {H : Hp} {st : Sto} {E : XK} {x : D} {Q : Bool → Hp → Prop} {v : V} (w : WH K G ι st H) (r : DV K G ι v x) (p : PostB K T G ι H (L3.asB x st) E Q) : ∃ k, v = .bl k ∧ Q k H := by
  cases r with
  | bl k => exact ⟨k, rfl, p G ι H .refl w⟩
  | _ => exact p.elim
theorem de_var {i : Nat} (h : PE X e (tVar i)) : DE X T W e (eVar i) := DE.of h fun σ H Q G ι st env w r p => by
  unfold eVar at p
  cases hd : env[i]? with
  | none => rw [hd] at p; exact p.elim
  | some o =>
    rw [hd] at p
    cases o with
    | none => exact p.elim
    | some d =>
      obtain ⟨v, h1, h2⟩ := r.at_ i d hd
      exact ⟨v, h1, PostE.ok p w h2⟩
theorem de_c {v : V} {d : D} (h : PE X e (tC v)) (hv : ∀ G ι, DV X.K G ι v d := by intro _ _; constructor) : DE X T W e (eC d) := DE.of h fun σ H Q G ι st env w r p => p.ok w (hv G ι)
theorem de_bin {op : Operator} {g : Sto → D → D → Option D} (ho : OpD X (binaryOp op) g) (ha : DE X T W a ma) (hb : DE X T W b mb) : DE X T W (.BinOp a op b pos) (eBin g ma mb) :=
  DE.of (pe_op ho ha hb) fun σ H Q G ι st env w r p => ⟨G, ι, st, env, w, r, p.bind fun d st1 v G1 ι1 H1 x1 w1 r1 p1 =>
    ⟨G1, ι1, st1, env, w1, r.mono x1, p1.bind fun d2 st2 v2 G2 ι2 H2 x2 w2 r2 p2 => ⟨G2, ι2, st2, d, d2, w2, x2.dv r1, r2, p2.rd⟩⟩⟩
theorem de_cmp {op : CmpOp} {g : Sto → D → D → Option D} (ho : OpD X (compareOp op) g) (ha : DE X T W a ma) (hb : DE X T W b mb) (hm : behindInMarks op b = false := by first | exact nomark _ | rfl) : DE X T W (.Compare a [op] [b] pos) (eBin g ma mb) :=
  DE.of (pe_cmpR ho ha hb hm) fun σ H Q G ι st env w r p => ⟨G, ι, st, env, w, r, p.bind fun d st1 v G1 ι1 H1 x1 w1 r1 p1 =>
    ⟨G1, ι1, st1, env, w1, r.mono x1, p1.bind fun d2 st2 v2 G2 ι2 H2 x2 w2 r2 p2 => ⟨G2, ι2, st2, d, d2, w2, x2.dv r1, r2, p2.rd⟩⟩⟩
theorem de_un {op : UnaryOp} {g : Sto → D → Option D} (ho : UnD X (unaryOp op) g) (ha : DE X T W a ma) : DE X T W (.UnaryOp op a pos) (eUn g ma) :=
  DE.of (pe_un ho ha) fun σ H Q G ι st env w r p => ⟨G, ι, st, env, w, r, p.bind fun d st1 v G1 ι1 H1 x1 w1 r1 p1 => ⟨G1, ι1, st1, d, w1, r1, p1.rd⟩⟩
/-- a value as a test -/
theorem dt_val (ha : DE X T W a ma) (he : ∀ whole, isTrue a X.env whole = (do let v ← whole; standAt a.pos; holding [v] (truthy v)) := by intro _; rfl) : DT X T W a (bE ma) :=
  DT.of (pt_val ha he) fun σ H Q G ι st env w r p => ⟨G, ι, st, env, w, r, p.bindE fun d st1 v G1 ι1 H1 x1 w1 r1 p1 => p1.asB w1 r1⟩
theorem dt_cmp {op : CmpOp} {g : Sto → D → D → Option D} (ho : OpD X (compareOp op) g) (ha : DE X T W a ma) (hb : DE X T W b mb) (hm : behindInMarks op b = false := by first | exact nomark _ | rfl) : DT X T W (.Compare a [op] [b] pos) (bE (eBin g ma mb)) :=
  DT.of (pt_cmpR ho ha hb hm) fun σ H Q G ι st env w r p => by
    unfold bE eBin at p
    rw [M.bind_assoc] at p
    refine ⟨G, ι, st, env, w, r, p.bindE fun d st1 v G1 ι1 H1 x1 w1 r1 p1 => ?_⟩
    rw [M.bind_assoc] at p1
    refine ⟨G1, ι1, st1, env, w1, r.mono x1, p1.bindE fun d2 st2 v2 G2 ι2 H2 x2 w2 r2 p2 => ⟨G2, ι2, st2, d, d2, w2, x2.dv r1, r2, ?_⟩⟩
    rw [M.bind_app] at p2
    unfold M.rd at p2
    dsimp only at p2
    cases e : g st2 d d2 with
    | none => rw [e] at p2; exact p2
    | some z =>
      rw [e] at p2
      intro v3 G3 H3 x3 w3 r3
      dsimp only at p2
      refine PostB.asB (T := T) (E := fun c d H' => W c d σ H') w3 r3 ?_
      cases e2 : asB z st2 with
      | bad => rw [e2] at p2; exact p2
      | ex x s2 => rw [e2] at p2; exact fun c dd G' ι' H' x4 w4 r4 => p2 c dd G' ι' H' (x3.cons w3 x4) w4 r4
      | ok k s2 => rw [e2] at p2; exact fun G' ι' H' x4 w4 => p2 G' ι' H' (x3.cons w3 x4) w4
theorem de_and (ha : DE X T W a ma) (hb : DE X T W (.BoolOp .And (b :: es) pos) mb) : DE X T W (.BoolOp .And (a :: b :: es) pos) (eAnd ma mb) :=
  DE.of (pe_and ha hb) fun σ H Q G ι st env w r p => ⟨G, ι, st, env, w, r, p.bind fun d st1 v G1 ι1 H1 x1 w1 r1 p1 => by
    obtain ⟨k, e1, _, p2⟩ := PostE.asB r1 p1
    refine ⟨k, e1, ?_⟩
    cases k with
    | true => exact ⟨G1, ι1, st1, env, w1, r.mono x1, p2⟩
    | false => exact p2.ok w1 (.bl false)⟩
theorem de_or (ha : DE X T W a ma) (hb : DE X T W (.BoolOp .Or (b :: es) pos) mb) : DE X T W (.BoolOp .Or (a :: b :: es) pos) (eOr ma mb) :=
  DE.of (pe_or ha hb) fun σ H Q G ι st env w r p => ⟨G, ι, st, env, w, r, p.bind fun d st1 v G1 ι1 H1 x1 w1 r1 p1 => by
    obtain ⟨k, e1, _, p2⟩ := PostE.asB r1 p1
    refine ⟨k, e1, ?_⟩
    cases k with
    | false => exact ⟨G1, ι1, st1, env, w1, r.mono x1, p2⟩
    | true => exact p2.ok w1 (.bl true)⟩
theorem de_one {op : PySem.BoolOp} (ha : DE X T W a ma) : DE X T W (.BoolOp op [a] pos) ma := pe_one ha
theorem de_not (ha : DE X T W a ma) : DE X T W (.UnaryOp .Not a pos) (eNot ma) :=
  DE.of (pe_not ha) fun σ H Q G ι st env w r p => ⟨G, ι, st, env, w, r, p.bind fun d st1 v G1 ι1 H1 x1 w1 r1 p1 => by
    obtain ⟨k, e1, _, p2⟩ := PostE.asB r1 p1
    exact ⟨k, e1, p2.ok w1 (.bl _)⟩⟩
theorem de_if {k : BM} (hc : DT X T W c k) (ha : DE X T W a ma) (hb : DE X T W b mb) : DE X T W (.IfExp c a b pos) (eIf k ma mb) :=
  DE.of (pe_ifExp hc ha hb) fun σ H Q G ι st env w r p => ⟨G, ι, st, env, w, r, p.bindB fun d st1 G1 ι1 H1 x1 w1 p1 => by
    cases d with
    | true => exact ⟨G1, ι1, st1, env, w1, r.mono x1, p1⟩
    | false => exact ⟨G1, ι1, st1, env, w1, r.mono x1, p1⟩⟩
end
end L3
namespace L3
open PySem PySem.Spec PyProof.Rows L2

/-! ## Arguments, displays, calls -/
section
variable {X : Cx} {T : CT} {W : WX} {e a b c : Expr} {es : List Expr} {m ma mb mc : EM} {mas : AM} {pos : Pos}
theorem PostO.fresh {K : PySem.W.Frag} {G : Hp} {ι : List Addr} {H : Hp} {st : Sto} {d : D} {Q : VK} (p : PostO K G ι st H (some d) Q) (w : WH K G ι st H) {q : Addr} (hq : H q = none) {o : HO} (r : DV K (upd G q o) ι (.ref q) d) : Q (.ref q) (upd H q o) :=
  p _ _ _ (w.fzExt hq o) (w.fz hq o) r
theorem WH.dvs_new {K : PySem.W.Frag} {G : Hp} {ι : List Addr} {H : Hp} {st : Sto} (w : WH K G ι st H) {q : Addr} (hq : H q = none) {o : HO} {vs : List V} {ds : List D} (r : DVs K G ι vs ds) : DVs K (upd G q o) ι vs ds :=
  r.mono (Same.upd_new (w.off hq)) ⟨[], by simp⟩
theorem dv_tup {K : PySem.W.Frag} {G : Hp} {ι : List Addr} {H : Hp} {st : Sto} (w : WH K G ι st H) {q : Addr} (hq : H q = none) {vs : List V} {ds : List D} (r : DVs K G ι vs ds) : DV K (upd G q (.tup vs)) ι (.ref q) (.tup ds) :=
  .tup (.of upd_same) (w.dvs_new hq r)
theorem dv_lst {K : PySem.W.Frag} {G : Hp} {ι : List Addr} {H : Hp} {st : Sto} (w : WH K G ι st H) {q : Addr} (hq : H q = none) {vs : List V} {ds : List D} (r : DVs K G ι vs ds) : DV K (upd G q (.lst vs)) ι (.ref q) (.lst ds) :=
  .lst upd_same (w.dvs_new hq r)
theorem da_nil : DA X T W [] aNil := DA.of pa_nil fun σ H Q G ι st env w r p => p [] G ι H .refl w .nil
theorem da_cons (ha : DE X T W e ma) (hr : DA X T W es mas) (hs : starEach (e :: es) X.env = (false, eval e X.env) :: starEach es X.env := by rfl) : DA X T W (e :: es) (aCons ma mas) :=
  DA.of (pa_cons ha hr hs) fun σ H Q G ι st env w r p => ⟨G, ι, st, env, w, r, PostA.bindE p fun d st1 v G1 ι1 H1 x1 w1 r1 p1 =>
    ⟨G1, ι1, st1, env, w1, r.mono x1, p1.bindA fun ds st2 vs G2 ι2 H2 x2 w2 r2 p2 => p2 (v :: vs) G2 ι2 H2 .refl w2 (.cons (x2.dv r1) r2)⟩⟩
theorem de_tup {x1} (h : DA X T W es mas) : DE X T W (.Tuple es x1 pos) (eTup mas) :=
  DE.of (pe_tup h) fun σ H Q G ι st env w r p => ⟨G, ι, st, env, w, r, p.bindA fun ds st1 vs G1 ι1 H1 x1 w1 r1 p1 => by
    by_cases hf : fits ds.length = true
    · rw [if_pos hf] at p1
      refine ⟨by rw [r1.length]; exact fits_line hf, fun q hq => ?_⟩
      exact PostO.fresh (d := .tup ds) (PostE.rd (f := fun _ => some (.tup ds)) p1) w1 hq (dv_tup w1 hq r1)
    · rw [if_neg hf] at p1
      exact p1.elim⟩
theorem de_lst (h : DA X T W es mas) : DE X T W (.List es pos) (eLst mas) :=
  DE.of (pe_lst h) fun σ H Q G ι st env w r p => ⟨G, ι, st, env, w, r, p.bindA fun ds st1 vs G1 ι1 H1 x1 w1 r1 p1 => by
    by_cases hf : fits ds.length = true
    · rw [if_pos hf] at p1
      refine ⟨by rw [r1.length]; exact fits_line hf, fun q hq => ?_⟩
      exact PostO.fresh (d := .lst ds) (PostE.rd (f := fun _ => some (.lst ds)) p1) w1 hq (dv_lst w1 hq r1)
    · rw [if_neg hf] at p1
      exact p1.elim⟩
/-- a list that will be changed: a new cell -/
theorem de_lstC (h : DA X T W es mas) : DE X T W (.List es pos) (eLstC mas) :=
  DE.of (pe_lst h) fun σ H Q G ι st env w r p => ⟨G, ι, st, env, w, r, p.bindA fun ds st1 vs G1 ι1 H1 x1 w1 r1 p1 => by
    by_cases hf : fits ds.length = true
    · rw [if_pos hf] at p1
      refine ⟨by rw [r1.length]; exact fits_line hf, fun q hq => ?_⟩
      have cr : CellR X.K G1 (ι1 ++ [q]) (upd H1 q (.lst vs)) q (.lst ds) := ⟨w1.off hq, vs, upd_same, r1.mono (fun _ _ h => h) ⟨[q], rfl⟩⟩
      refine p1 _ _ _ _ (w1.clExt hq _) (w1.cl hq cr) (.cell ?_)
      rw [← w1.len, List.getElem?_append_right (Nat.le_refl _)]
      simp
    · rw [if_neg hf] at p1
      exact p1.elim⟩
theorem de_callB {x : Str} {id : String} {p : Pos} {g : Sto → List D → Option D} (hc : CallD X (.builtin id) g) (hg : Gl X x) (hm : X.mg x = none) (hv : bootBuiltins x = some (.builtin id)) (ha : DA X T W (e :: es) mas) (hn : x ≠ "__name__" := by decide) (hdb : (x == ("__debug__" : Str)) = false := by decide)
    (he : starEach (e :: es) X.env = (false, eval e X.env) :: starEach es X.env := by rfl) (hpl : (backTo pos (starEach es X.env)).any (·.1) = false := by rfl) : DE X T W (.Call (.Name x p) (e :: es) [] pos) (eCall g mas) :=
  DE.of (pe_callB hc hg hm hv ha hn hdb he hpl) fun σ H Q G ι st env w r p => ⟨G, ι, st, env, w, r, p.bindA fun ds st1 vs G1 ι1 H1 x1 w1 r1 p1 => ⟨G1, ι1, st1, ds, w1, r1, p1.rd⟩⟩
theorem de_callTy {x : Str} {T' : String} {p : Pos} {g : Sto → List D → Option D} (hc : CallD X (.type T') g) (hg : Gl X x) (hm : X.mg x = none) (hv : bootBuiltins x = some (.type T')) (ha : DA X T W (e :: es) mas) (hn : x ≠ "__name__" := by decide) (hdb : (x == ("__debug__" : Str)) = false := by decide)
    (he : starEach (e :: es) X.env = (false, eval e X.env) :: starEach es X.env := by rfl) (hpl : (backTo pos (starEach es X.env)).any (·.1) = false := by rfl) : DE X T W (.Call (.Name x p) (e :: es) [] pos) (eCall g mas) :=
  DE.of (pe_callTy hc hg hm hv ha hn hdb he hpl) fun σ H Q G ι st env w r p => ⟨G, ι, st, env, w, r, p.bindA fun ds st1 vs G1 ι1 H1 x1 w1 r1 p1 => ⟨G1, ι1, st1, ds, w1, r1, p1.rd⟩⟩
theorem de_ix {g : Sto → D → D → Option D} (hr : IxD X g) (ha : DE X T W a ma) (hb : DE X T W b mb) (hs : PlainIx b := by exact fun _ _ => rfl) : DE X T W (.Subscript a b pos) (eBin g ma mb) :=
  DE.of (pe_ix hr ha hb hs) fun σ H Q G ι st env w r p => ⟨G, ι, st, env, w, r, p.bind fun d st1 v G1 ι1 H1 x1 w1 r1 p1 =>
    ⟨G1, ι1, st1, env, w1, r.mono x1, p1.bind fun d2 st2 v2 G2 ι2 H2 x2 w2 r2 p2 => ⟨G2, ι2, st2, d, d2, w2, x2.dv r1, r2, p2.rd⟩⟩⟩
theorem de_chain {op op' : CmpOp} {g g' : Sto → D → D → Option D} (ho : OpD X (compareOp op) g) (ho' : OpD X (compareOp op') g') (ha : DE X T W a ma) (hb : DE X T W b mb) (hc : DE X T W c mc) (hm : lastMarks [op, op'] [b, c] = false := by with_unfolding_all rfl) :
    DE X T W (.Compare a [op, op'] [b, c] pos) (eChain g g' ma mb mc) :=
  DE.of (pe_chain ho ho' ha hb hc hm) fun σ H Q G ι st env w r p => ⟨G, ι, st, env, w, r, p.bind fun d st1 v G1 ι1 H1 x1 w1 r1 p1 =>
    ⟨G1, ι1, st1, env, w1, r.mono x1, p1.bind fun d2 st2 v2 G2 ι2 H2 x2 w2 r2 p2 => ⟨G2, ι2, st2, d, d2, w2, x2.dv r1, r2, (p2.bind (Q' := fun z H3 => ∃ k, z = .bl k ∧ (if k = true then tOf X.K T W mc σ H3 fun w' H4 => rOf X.K g' v2 w' H4 Q else Q (.bl false) H3)) fun d3 st3 v3 G3 ι3 H3 x3 w3 r3 p3 => by
      obtain ⟨k, e1, _, p4⟩ := PostE.asB r3 p3
      refine ⟨k, e1, ?_⟩
      cases k with
      | true =>
        exact ⟨G3, ι3, st3, env, w3, ((r.mono x1).mono x2).mono x3, p4.bind fun d4 st4 v4 G4 ι4 H4 x4 w4 r4 p5 => ⟨G4, ι4, st4, d2, d4, w4, x4.dv (x3.dv r2), r4, p5.rd⟩⟩
      | false => exact p4.ok w3 (.bl false)).rd⟩⟩⟩
end

/-! ## Statements -/
inductive SR where
  | nx (e : DEnv) (s : Sto) | rt (d : D) (s : Sto) | bk (e : DEnv) (s : Sto) | ct (e : DEnv) (s : Sto) | ex (x : Ex) (e : DEnv) (s : Sto) | bad
abbrev SM := DEnv → Sto → SR
section
variable (K : PySem.W.Frag) (T : CT) (W : WX)
def PostS (G : Hp) (ι : List Addr) (H : Hp) (r : SR) (Dd : Ends) : Prop := match r with
  | .nx env st' => ∀ σ G' ι' H', Ext ι ι' H H' G G' → WH K G' ι' st' H' → EnvR K G' ι' σ env → Dd.nx σ H'
  | .bk env st' => ∀ σ G' ι' H', Ext ι ι' H H' G G' → WH K G' ι' st' H' → EnvR K G' ι' σ env → Dd.bk σ H'
  | .ct env st' => ∀ σ G' ι' H', Ext ι ι' H H' G G' → WH K G' ι' st' H' → EnvR K G' ι' σ env → Dd.ct σ H'
  | .rt d st' => ∀ v G' ι' H', Ext ι ι' H H' G G' → WH K G' ι' st' H' → DV K G' ι' v d → Dd.rt v H'
  | .ex x env st' => ∀ c dd σ G' ι' H', Ext ι ι' H H' G G' → WH K G' ι' st' H' → EnvR K G' ι' σ env → ExR K T G' ι' c dd x → W c dd σ H'
  | .bad => False
def sOf (m : SM) : TS := fun Dd σ H => ∃ G ι st env, WH K G ι st H ∧ EnvR K G ι σ env ∧ PostS K T W G ι H (m env st) Dd
end
def DS (X : Cx) (T : CT) (W : WX) (s : Stmt) (m : SM) : Prop := PS X s (sOf X.K T W m)
def DSs (X : Cx) (T : CT) (W : WX) (s : List Stmt) (m : SM) : Prop := PSs X s (sOf X.K T W m)
section
variable {K : PySem.W.Frag} {T : CT} {W : WX} {G G1 : Hp} {ι ι1 : List Addr} {H H1 : Hp} {st : Sto} {Dd : Ends}
/-- later is as good -/
theorem PostS.later {r : SR} (p : PostS K T W G ι H r Dd) {st1 : Sto} (x : Ext ι ι1 H H1 G G1) (w : WH K G1 ι1 st1 H1) : PostS K T W G1 ι1 H1 r Dd := by
  cases r with
  | nx env s => exact fun σ G' ι' H' x2 w2 r2 => p σ G' ι' H' (x.cons w x2) w2 r2
  | bk env s => exact fun σ G' ι' H' x2 w2 r2 => p σ G' ι' H' (x.cons w x2) w2 r2
  | ct env s => exact fun σ G' ι' H' x2 w2 r2 => p σ G' ι' H' (x.cons w x2) w2 r2
  | rt d s => exact fun v G' ι' H' x2 w2 r2 => p v G' ι' H' (x.cons w x2) w2 r2
  | ex y env s => exact fun c dd σ G' ι' H' x2 w2 r2 r3 => p c dd σ G' ι' H' (x.cons w x2) w2 r2 r3
  | bad => exact p
theorem PostE.later {E : XK} {Q : VK} {r : R D} (p : PostE K T G ι H r E Q) {st1 : Sto} (x : Ext ι ι1 H H1 G G1) (w : WH K G1 ι1 st1 H1) : PostE K T G1 ι1 H1 r E Q := by
  cases r with
  | ok d s => exact fun v G' ι' H' x2 w2 r2 => p v G' ι' H' (x.cons w x2) w2 r2
  | ex y s => exact fun c dd G' ι' H' x2 w2 r2 => p c dd G' ι' H' (x.cons w x2) w2 r2
  | bad => exact p
end
/-- an expression within a statement -/
def sE (m : EM) (f : D → SM) : SM := fun env st => match m env st with
  | .ok d s => f d env s
  | .ex x s => .ex x env s
  | .bad => .bad
def sB (m : BM) (f : Bool → SM) : SM := fun env st => match m env st with
  | .ok d s => f d env s
  | .ex x s => .ex x env s
  | .bad => .bad
section
variable {K : PySem.W.Frag} {T : CT} {W : WX} {G : Hp} {ι : List Addr} {H : Hp} {st : Sto} {Dd : Ends} {σ : L2.St} {env : DEnv}
theorem PostS.bindE {m : EM} {f : D → SM} {Q : VK} (re : EnvR K G ι σ env) (p : PostS K T W G ι H (sE m f env st) Dd)
    (h : ∀ d st1 v G1 ι1 H1, Ext ι ι1 H H1 G G1 → WH K G1 ι1 st1 H1 → DV K G1 ι1 v d → PostS K T W G1 ι1 H1 (f d env st1) Dd → Q v H1) : PostE K T G ι H (m env st) (fun c d H' => W c d σ H') Q := by
  unfold sE at p
  cases e : m env st with
  | bad => rw [e] at p; exact p
  | ex x s => rw [e] at p; exact fun c dd G' ι' H' x2 w2 r2 => p c dd σ G' ι' H' x2 w2 (re.mono x2) r2
  | ok d s =>
    rw [e] at p
    exact fun v G1 ι1 H1 x1 w1 r1 => h d s v G1 ι1 H1 x1 w1 r1 (PostS.later p x1 w1)
theorem PostS.bindB {m : BM} {f : Bool → SM} {Q : Bool → Hp → Prop} (re : EnvR K G ι σ env) (p : PostS K T W G ι H (sB m f env st) Dd)
    (h : ∀ d st1 G1 ι1 H1, Ext ι ι1 H H1 G G1 → WH K G1 ι1 st1 H1 → PostS K T W G1 ι1 H1 (f d env st1) Dd → Q d H1) : PostB K T G ι H (m env st) (fun c d H' => W c d σ H') Q := by
  unfold sB at p
  cases e : m env st with
  | bad => rw [e] at p; exact p
  | ex x s => rw [e] at p; exact fun c dd G' ι' H' x2 w2 r2 => p c dd σ G' ι' H' x2 w2 (re.mono x2) r2
  | ok d s =>
    rw [e] at p
    exact fun G1 ι1 H1 x1 w1 => h d s G1 ι1 H1 x1 w1 (PostS.later p x1 w1)
theorem PostS.nx {env' : DEnv} (p : PostS K T W G ι H (.nx env' st) Dd) (w : WH K G ι st H) {σ' : L2.St} (r : EnvR K G ι σ' env') : Dd.nx σ' H := p σ' G ι H .refl w r
theorem PostS.rt {d : D} (p : PostS K T W G ι H (.rt d st) Dd) (w : WH K G ι st H) {v : V} (r : DV K G ι v d) : Dd.rt v H := p v G ι H .refl w r
end
def sNext : SM := fun env st => .nx env st
def sSeq (a b : SM) : SM := fun env st => match a env st with
  | .nx e s => b e s
  | .rt d s => .rt d s
  | .bk e s => .bk e s
  | .ct e s => .ct e s
  | .ex x e s => .ex x e s
  | .bad => .bad
def sSet (i : Nat) (m : EM) : SM := sE m fun d env st => .nx (env.set i (some d)) st
def sExpr (m : EM) : SM := sE m fun _ env st => .nx env st
def sRet (m : EM) : SM := sE m fun d _ st => .rt d st
def sRetN : SM := fun _ st => .rt .non st
def sIf (c : BM) (a b : SM) : SM := sB c fun k env st => if k = true then a env st else b env st
def sBreak : SM := fun env st => .bk env st
def sCont : SM := fun env st => .ct env st
section
variable {X : Cx} {T : CT} {W : WX} {s : Stmt} {ss : List Stmt} {e : Expr} {m : EM} {k : BM} {a b : SM} {pos : Pos}
theorem DS.of {t : TS} {m : SM} (h : PS X s t) (ht : ∀ Dd σ H G ι st env, WH X.K G ι st H → EnvR X.K G ι σ env → PostS X.K T W G ι H (m env st) Dd → t Dd σ H) : DS X T W s m :=
  ⟨fun pins s σ H Dd I ⟨G, ι, st, env, w, r, p⟩ => h.run pins s σ H Dd I (ht Dd σ H G ι st env w r p)⟩
theorem DSs.of {t : TS} {m : SM} (h : PSs X ss t) (ht : ∀ Dd σ H G ι st env, WH X.K G ι st H → EnvR X.K G ι σ env → PostS X.K T W G ι H (m env st) Dd → t Dd σ H) : DSs X T W ss m :=
  ⟨fun pins s σ H Dd I ⟨G, ι, st, env, w, r, p⟩ => h.run pins s σ H Dd I (ht Dd σ H G ι st env w r p)⟩
theorem dss_nil : DSs X T W [] sNext := DSs.of pss_nil fun Dd σ H G ι st env w r p => p.nx w r
theorem dss_one (h : DS X T W s a) : DSs X T W [s] a := pss_one h
theorem dss_cons (h1 : DS X T W s a) (h2 : DSs X T W ss b) : DSs X T W (s :: ss) (sSeq a b) :=
  DSs.of (pss_cons h1 h2) fun Dd σ H G ι st env w r p => by
    refine ⟨G, ι, st, env, w, r, ?_⟩
    unfold sSeq at p
    cases e : a env st with
    | bad => rw [e] at p; exact p
    | ex x e' s' => rw [e] at p; exact p
    | rt d s' => rw [e] at p; exact p
    | bk e' s' => rw [e] at p; exact p
    | ct e' s' => rw [e] at p; exact p
    | nx e' s' =>
      rw [e] at p
      exact fun σ' G' ι' H' x' w' r' => ⟨G', ι', s', e', w', r', PostS.later p x' w'⟩
theorem ds_pass : DS X T W (.Pass pos) sNext := DS.of ps_pass fun Dd σ H G ι st env w r p => p.nx w r
theorem ds_break : DS X T W (.Break pos) sBreak := DS.of ps_break fun Dd σ H G ι st env w r p => p σ G ι H .refl w r
theorem ds_continue : DS X T W (.Continue pos) sCont := DS.of ps_continue fun Dd σ H G ι st env w r p => p σ G ι H .refl w r
theorem ds_expr (he : DE X T W e m) (hs : swapsWith e none pos.line X.env = pure false := by rfl) : DS X T W (.Expr e pos) (sExpr m) :=
  DS.of (ps_expr he hs) fun Dd σ H G ι st env w r p => ⟨G, ι, st, env, w, r, PostS.bindE r p fun d st1 v G1 ι1 H1 x1 w1 r1 p1 => p1.nx w1 (r.mono x1)⟩
theorem ds_ret (he : DE X T W e m) : DS X T W (.Return (some e) pos) (sRet m) :=
  DS.of (ps_ret he) fun Dd σ H G ι st env w r p => ⟨G, ι, st, env, w, r, PostS.bindE r p fun d st1 v G1 ι1 H1 x1 w1 r1 p1 => p1.rt w1 r1⟩
theorem ds_retN : DS X T W (.Return none pos) sRetN := DS.of ps_retN fun Dd σ H G ι st env w r p => p.rt w .non
theorem ds_set {i : Nat} {x : Str} {pos' : Pos} (hN : X.N.Nodup) (hi : X.N[i]? = some x) (hx : Loc X.env.scope x) (he : DE X T W e m) (hs : swapsWith e (some (.Name x pos')) pos.line X.env = pure false := by rfl) (hf : X.fn x = true ∨ X.env.scope.names.lookup x = some .local := by first | exact .inl rfl | exact .inr rfl | assumption) :
    DS X T W (.Assign [.Name x pos'] e pos) (sSet i m) :=
  DS.of (ps_set hN hi hx he hs hf) fun Dd σ H G ι st env w r p => ⟨G, ι, st, env, w, r, PostS.bindE r p fun d st1 v G1 ι1 H1 x1 w1 r1 p1 => p1.nx w1 ((r.mono x1).set r1 i)⟩
theorem ds_if {c : Expr} {as bs : List Stmt} (hc : DT X T W c k) (ha : DSs X T W as a) (hb : DSs X T W bs b) : DS X T W (.If c as bs pos) (sIf k a b) :=
  DS.of (ps_if hc ha hb) fun Dd σ H G ι st env w r p => ⟨G, ι, st, env, w, r, PostS.bindB r p fun d st1 G1 ι1 H1 x1 w1 p1 => by
    cases d with
    | true => exact ⟨G1, ι1, st1, env, w1, r.mono x1, p1⟩
    | false => exact ⟨G1, ι1, st1, env, w1, r.mono x1, p1⟩⟩
end

/-! ## Targets -/
section
variable (K : PySem.W.Frag)
def gOf (vs : List Nat) (g : D → DEnv → Option DEnv) : TG := fun v σ H Q => ∃ G ι st env d, WH K G ι st H ∧ EnvR K G ι σ env ∧ DV K G ι v d ∧ match g d env with
  | some env' => ∀ σ', EnvR K G ι σ' env' → σ'.length = σ.length → (∀ j, j ∉ vs → σ'[j]? = σ[j]?) → Q σ' H
  | none => False
end
def DG (X : Cx) (e : Expr) (vs : List Nat) (g : D → DEnv → Option DEnv) : Prop := PG X e (gOf X.K vs g)
def gN (i : Nat) : D → DEnv → Option DEnv := fun d env => some (env.set i (some d))
def gT2 (i j : Nat) : D → DEnv → Option DEnv := fun d env => match d with
  | .tup [x, y] => some ((env.set i (some x)).set j (some y))
  | _ => none
def gT3 (i j k : Nat) : D → DEnv → Option DEnv := fun d env => match d with
  | .tup [x, y, z] => some (((env.set i (some x)).set j (some y)).set k (some z))
  | _ => none
section
variable {X : Cx} {T : CT} {W : WX} {e : Expr} {m : EM} {pos : Pos}
theorem dg_name {i : Nat} {x : Str} (hN : X.N.Nodup) (hi : X.N[i]? = some x) (hx : Loc X.env.scope x) (hf : X.fn x = true ∨ X.env.scope.names.lookup x = some .local := by first | exact .inl rfl | exact .inr rfl | assumption) : DG X (.Name x pos) [i] (gN i) := by
  refine ⟨fun pins s σ H v u Q I rv ⟨G, ι, st, env, d, w, r, rd, p⟩ => (pg_name hN hi hx hf).run pins s σ H v u Q I rv (p _ (r.set rd i) (by simp) fun j hj => ?_)⟩
  rw [List.getElem?_set_ne (fun z => hj (by simp [z]))]
theorem dg_tup2 {i j : Nat} {x y : Str} {px py : Pos} {k : Nat} (hc : X.calm = true) (hN : X.N.Nodup) (hi : X.N[i]? = some x) (hx : Loc X.env.scope x) (hj : X.N[j]? = some y) (hy : Loc X.env.scope y)
    (hfx : X.fn x = true ∨ X.env.scope.names.lookup x = some .local := by first | exact .inl rfl | exact .inr rfl | assumption) (hfy : X.fn y = true ∨ X.env.scope.names.lookup y = some .local := by first | exact .inl rfl | exact .inr rfl | assumption)
    (h1 : (assignEach [.Name x px, .Name y py] X.env).length = 2 := by rfl) (h2 : (assignEach [.Name x px, .Name y py] X.env).findIdx? (·.1) = none := by rfl)
    (h3 : (assignEach (.Name x px :: [.Name y py]) X.env).map (·.2) = assign (.Name x px) X.env :: (assignEach [.Name y py] X.env).map (·.2) := by rfl)
    (h4 : (assignEach (.Name y py :: []) X.env).map (·.2) = assign (.Name y py) X.env :: (assignEach [] X.env).map (·.2) := by rfl) : DG X (.Tuple [.Name x px, .Name y py] k pos) [i, j] (gT2 i j) := by
  refine ⟨fun pins s σ H v u Q I rv ⟨G, ι, st, env, d, w, r, rd, p⟩ => (pg_tup hc (pgs_cons (pg_name hN hi hx hfx) (pgs_cons (pg_name hN hj hy hfy) pgs_nil h4) h3) h1 h2).run pins s σ H v u Q I rv ?_⟩
  cases rd with
  | @tup a xs ds q hs =>
    cases hs with
    | nil => exact p.elim
    | cons r1 hs =>
      cases hs with
      | nil => exact p.elim
      | cons r2 hs =>
        cases hs with
        | cons _ _ => exact p.elim
        | nil =>
          refine ⟨a, _, rfl, w.same.tup q, rfl, _, _, rfl, _, _, rfl, rfl, ?_⟩
          refine p _ ((r.set r1 i).set r2 j) (by simp) fun l hl => ?_
          rw [List.getElem?_set_ne (fun z => hl (by simp [z])), List.getElem?_set_ne (fun z => hl (by simp [z]))]
  | _ => exact p.elim
theorem dg_tup3 {i j l : Nat} {x y z : Str} {px py pz : Pos} {k : Nat} (hc : X.calm = true) (hN : X.N.Nodup) (hi : X.N[i]? = some x) (hx : Loc X.env.scope x) (hj : X.N[j]? = some y) (hy : Loc X.env.scope y) (hl : X.N[l]? = some z) (hz : Loc X.env.scope z)
    (hfx : X.fn x = true ∨ X.env.scope.names.lookup x = some .local := by first | exact .inl rfl | exact .inr rfl | assumption) (hfy : X.fn y = true ∨ X.env.scope.names.lookup y = some .local := by first | exact .inl rfl | exact .inr rfl | assumption)
    (hfz : X.fn z = true ∨ X.env.scope.names.lookup z = some .local := by first | exact .inl rfl | exact .inr rfl | assumption)
    (h1 : (assignEach [.Name x px, .Name y py, .Name z pz] X.env).length = 3 := by rfl) (h2 : (assignEach [.Name x px, .Name y py, .Name z pz] X.env).findIdx? (·.1) = none := by rfl)
    (h3 : (assignEach (.Name x px :: [.Name y py, .Name z pz]) X.env).map (·.2) = assign (.Name x px) X.env :: (assignEach [.Name y py, .Name z pz] X.env).map (·.2) := by rfl)
    (h4 : (assignEach (.Name y py :: [.Name z pz]) X.env).map (·.2) = assign (.Name y py) X.env :: (assignEach [.Name z pz] X.env).map (·.2) := by rfl)
    (h5 : (assignEach (.Name z pz :: []) X.env).map (·.2) = assign (.Name z pz) X.env :: (assignEach [] X.env).map (·.2) := by rfl) : DG X (.Tuple [.Name x px, .Name y py, .Name z pz] k pos) [i, j, l] (gT3 i j l) := by
  refine ⟨fun pins s σ H v u Q I rv ⟨G, ι, st, env, d, w, r, rd, p⟩ => (pg_tup hc (pgs_cons (pg_name hN hi hx hfx) (pgs_cons (pg_name hN hj hy hfy) (pgs_cons (pg_name hN hl hz hfz) pgs_nil h5) h4) h3) h1 h2).run pins s σ H v u Q I rv ?_⟩
  cases rd with
  | @tup a xs ds q hs =>
    cases hs with
    | nil => exact p.elim
    | cons r1 hs =>
      cases hs with
      | nil => exact p.elim
      | cons r2 hs =>
        cases hs with
        | nil => exact p.elim
        | cons r3 hs =>
          cases hs with
          | cons _ _ => exact p.elim
          | nil =>
            refine ⟨a, _, rfl, w.same.tup q, rfl, _, _, rfl, _, _, rfl, _, _, rfl, rfl, ?_⟩
            refine p _ (((r.set r1 i).set r2 j).set r3 l) (by simp) fun n hn => ?_
            rw [List.getElem?_set_ne (fun z => hn (by simp [z])), List.getElem?_set_ne (fun z => hn (by simp [z])), List.getElem?_set_ne (fun z => hn (by simp [z]))]
  | _ => exact p.elim
/-- target = value, the target of any form -/
def sAsg (g : D → DEnv → Option DEnv) (m : EM) : SM := sE m fun d env st => match g d env with
  | some e => .nx e st
  | none => .bad
theorem ds_asg {tg : Expr} {vs : List Nat} {g : D → DEnv → Option DEnv} (hg : DG X tg vs g) (he : DE X T W e m) (hs : swapsWithSole [tg] e pos.line X.env = pure false := by rfl) (hw : swappedStores [tg] e X.env = pure none := by rfl)
    (h1 : (assignEach [tg] X.env).map (·.2) = [assign tg X.env] := by rfl) : DS X T W (.Assign [tg] e pos) (sAsg g m) :=
  DS.of (ps_asg he hg hs hw h1) fun Dd σ H G ι st env w r p => ⟨G, ι, st, env, w, r, PostS.bindE r p fun d st1 v G1 ι1 H1 x1 w1 r1 p1 => by
    refine ⟨G1, ι1, st1, env, d, w1, r.mono x1, r1, ?_⟩
    cases e2 : g d env with
    | none => rw [e2] at p1; exact p1
    | some env' => rw [e2] at p1; exact fun σ' r' _ _ => p1.nx w1 r'⟩
/-- a, b = x, y (both sides written) -/
def sPar (i j : Nat) (ma mb : EM) : SM := sE ma fun x env st => (sE mb fun y env st => .nx ((env.set i (some x)).set j (some y)) st) env st
theorem ds_par {i j : Nat} {x y : Str} {a b : Expr} {ma mb : EM} {px py pt : Pos} {kt k2 pt2} (hc : X.calm = true) (hN : X.N.Nodup) (hi : X.N[i]? = some x) (hj : X.N[j]? = some y) (hij : i ≠ j)
    (hx : X.env.scope.names.lookup x = some .local) (hy : X.env.scope.names.lookup y = some .local) (ha : DE X T W a ma) (hb : DE X T W b mb)
    (hw : swappedStores [.Tuple [.Name x px, .Name y py] kt pt] (.Tuple [a, b] k2 pt2) X.env = pure (some [x, y]) := by rfl)
    (hs : swapsWithSole [.Tuple [.Name x px, .Name y py] kt pt] (.Tuple [a, b] k2 pt2) pos.line X.env = pure false := by rfl)
    (h1 : starEach (a :: [b]) X.env = (false, eval a X.env) :: starEach [b] X.env := by rfl) (h2 : starEach (b :: []) X.env = (false, eval b X.env) :: starEach [] X.env := by rfl) :
    DS X T W (.Assign [.Tuple [.Name x px, .Name y py] kt pt] (.Tuple [a, b] k2 pt2) pos) (sPar i j ma mb) :=
  DS.of (ps_par hc hN hi hj hij hx hy (pa_cons ha (pa_cons hb pa_nil h2) h1) hw hs) fun Dd σ H G ι st env w r p => ⟨G, ι, st, env, w, r, PostS.bindE r p fun d st1 v G1 ι1 H1 x1 w1 r1 p1 =>
    ⟨G1, ι1, st1, env, w1, r.mono x1, PostS.bindE (r.mono x1) p1 fun d2 st2 v2 G2 ι2 H2 x2 w2 r2 p2 => ⟨v, v2, rfl, p2.nx w2 ((((r.mono x1).mono x2).set (x2.dv r1) i).set r2 j)⟩⟩⟩
def sPar3 (i j l : Nat) (ma mb mc : EM) : SM := sE ma fun x env st => (sE mb fun y env st => (sE mc fun z env st => .nx (((env.set i (some x)).set j (some y)).set l (some z)) st) env st) env st
theorem ds_par3 {i j l : Nat} {x y z : Str} {a b c : Expr} {ma mb mc : EM} {px py pz pt : Pos} {kt k2 pt2} (hc : X.calm = true) (hN : X.N.Nodup) (hi : X.N[i]? = some x) (hj : X.N[j]? = some y) (hl : X.N[l]? = some z) (hij : i ≠ j) (hil : i ≠ l) (hjl : j ≠ l)
    (hx : X.env.scope.names.lookup x = some .local) (hy : X.env.scope.names.lookup y = some .local) (hz : X.env.scope.names.lookup z = some .local) (ha : DE X T W a ma) (hb : DE X T W b mb) (hcc : DE X T W c mc)
    (hw : swappedStores [.Tuple [.Name x px, .Name y py, .Name z pz] kt pt] (.Tuple [a, b, c] k2 pt2) X.env = pure (some [x, y, z]) := by rfl)
    (hs : swapsWithSole [.Tuple [.Name x px, .Name y py, .Name z pz] kt pt] (.Tuple [a, b, c] k2 pt2) pos.line X.env = pure false := by rfl)
    (h1 : starEach (a :: [b, c]) X.env = (false, eval a X.env) :: starEach [b, c] X.env := by rfl) (h2 : starEach (b :: [c]) X.env = (false, eval b X.env) :: starEach [c] X.env := by rfl) (h3 : starEach (c :: []) X.env = (false, eval c X.env) :: starEach [] X.env := by rfl) :
    DS X T W (.Assign [.Tuple [.Name x px, .Name y py, .Name z pz] kt pt] (.Tuple [a, b, c] k2 pt2) pos) (sPar3 i j l ma mb mc) :=
  DS.of (ps_par3 hc hN hi hj hl hij hil hjl hx hy hz (pa_cons ha (pa_cons hb (pa_cons hcc pa_nil h3) h2) h1) hw hs) fun Dd σ H G ι st env w r p => ⟨G, ι, st, env, w, r, PostS.bindE r p fun d st1 v G1 ι1 H1 x1 w1 r1 p1 =>
    ⟨G1, ι1, st1, env, w1, r.mono x1, PostS.bindE (r.mono x1) p1 fun d2 st2 v2 G2 ι2 H2 x2 w2 r2 p2 =>
      ⟨G2, ι2, st2, env, w2, (r.mono x1).mono x2, PostS.bindE ((r.mono x1).mono x2) p2 fun d3 st3 v3 G3 ι3 H3 x3 w3 r3 p3 => ⟨v, v2, v3, rfl, p3.nx w3 ((((((r.mono x1).mono x2).mono x3).set (x3.dv (x2.dv r1)) i).set (x3.dv r2) j).set r3 l)⟩⟩⟩⟩
end
end L3
namespace L3
open PySem PySem.Spec PyProof.Rows L2

/-! ## Equal data -/
mutual
def D.beq : D → D → Bool
  | .non, .non => true
  | .bl a, .bl b => a == b
  | .int a, .int b => a == b
  | .str a, .str b => decide (a = b)
  | .tup a, .tup b => D.beqs a b
  | .lst a, .lst b => D.beqs a b
  | .scr a, .scr b => D.beqs a b
  | .dic a, .dic b => D.beqk a b
  | .cell a, .cell b => a == b
  | _, _ => false
def D.beqs : List D → List D → Bool
  | [], [] => true
  | a :: as, b :: bs => D.beq a b && D.beqs as bs
  | _, _ => false
def D.beqk : List (Key × D) → List (Key × D) → Bool
  | [], [] => true
  | (k, a) :: as, (l, b) :: bs => decide (k = l) && (D.beq a b && D.beqk as bs)
  | _, _ => false
end
mutual
theorem D.beq_eq : ∀ {a b : D}, D.beq a b = true → a = b
  | .non, b, h => by cases b <;> simp_all [D.beq]
  | .bl x, b, h => by cases b <;> simp_all [D.beq]
  | .int x, b, h => by cases b <;> simp_all [D.beq]
  | .str x, b, h => by cases b <;> simp_all [D.beq]
  | .cell x, b, h => by cases b <;> simp_all [D.beq]
  | .tup x, b, h => by
    cases b with
    | tup y => rw [D.beqs_eq (show D.beqs x y = true by simpa [D.beq] using h)]
    | _ => simp [D.beq] at h
  | .lst x, b, h => by
    cases b with
    | lst y => rw [D.beqs_eq (show D.beqs x y = true by simpa [D.beq] using h)]
    | _ => simp [D.beq] at h
  | .scr x, b, h => by
    cases b with
    | scr y => rw [D.beqs_eq (show D.beqs x y = true by simpa [D.beq] using h)]
    | _ => simp [D.beq] at h
  | .dic x, b, h => by
    cases b with
    | dic y => rw [D.beqk_eq (show D.beqk x y = true by simpa [D.beq] using h)]
    | _ => simp [D.beq] at h
theorem D.beqs_eq : ∀ {a b : List D}, D.beqs a b = true → a = b
  | [], b, h => by cases b <;> simp_all [D.beqs]
  | a :: as, [], h => by simp [D.beqs] at h
  | a :: as, b :: bs, h => by
    have h' : D.beq a b = true ∧ D.beqs as bs = true := by simpa [D.beqs] using h
    rw [D.beq_eq h'.1, D.beqs_eq h'.2]
theorem D.beqk_eq : ∀ {a b : List (Key × D)}, D.beqk a b = true → a = b
  | [], b, h => by cases b <;> simp_all [D.beqk]
  | (k, a) :: as, [], h => by simp [D.beqk] at h
  | (k, a) :: as, (l, b) :: bs, h => by
    have h' : k = l ∧ D.beq a b = true ∧ D.beqk as bs = true := by simpa [D.beqk] using h
    rw [h'.1, D.beq_eq h'.2.1, D.beqk_eq h'.2.2]
end
mutual
theorem D.beq_refl : ∀ a : D, D.beq a a = true
  | .non => by simp [D.beq]
  | .bl x => by simp [D.beq]
  | .int x => by simp [D.beq]
  | .str x => by simp [D.beq]
  | .cell x => by simp [D.beq]
  | .tup x => by simp [D.beq, D.beqs_refl x]
  | .lst x => by simp [D.beq, D.beqs_refl x]
  | .scr x => by simp [D.beq, D.beqs_refl x]
  | .dic x => by simp [D.beq, D.beqk_refl x]
theorem D.beqs_refl : ∀ a : List D, D.beqs a a = true
  | [] => by simp [D.beqs]
  | a :: as => by simp [D.beqs, D.beq_refl a, D.beqs_refl as]
theorem D.beqk_refl : ∀ a : List (Key × D), D.beqk a a = true
  | [] => by simp [D.beqk]
  | (k, a) :: as => by simp [D.beqk, D.beq_refl a, D.beqk_refl as]
end

/-! ## What is walked -/
/-- the cell that is walked, as it was (none: the source stands for good) -/
abbrev Src := Option (Nat × List D)
def Src.ok (c : Src) (st : Sto) : Bool := match c with
  | none => true
  | some (n, xs) => match st[n]? with
    | some (.lst ys) => D.beqs ys xs
    | _ => false
@[simp] theorem Src.ok_none (st : Sto) : Src.ok none st = true := rfl
theorem Src.ok_some {n : Nat} {xs : List D} {st : Sto} (h : st[n]? = some (.lst xs)) : Src.ok (some (n, xs)) st = true := by
  unfold Src.ok
  dsimp only
  rw [h]
  exact D.beqs_refl xs
theorem Src.at_ {n : Nat} {xs : List D} {st : Sto} (h : Src.ok (some (n, xs)) st = true) : st[n]? = some (.lst xs) := by
  unfold Src.ok at h
  dsimp only at h
  cases e : st[n]? with
  | none => rw [e] at h; cases h
  | some c =>
    rw [e] at h
    cases c with
    | lst ys => rw [D.beqs_eq h]
    | dic _ => cases h
    | gone => cases h
def ItD (K : PySem.W.Frag) (G0 : Hp) (ι0 : List Addr) (J : It) (items : List D) (c : Src) : Prop := ∀ G ι st H, Same G0 G → (∃ t, ι = ι0 ++ t) → WH K G ι st H → c.ok st = true →
  (∀ i, items.length ≤ i → J.stop i H) ∧ ∀ i d, items[i]? = some d → J.go i H ∧ ∀ x H', J.yld i H x H' → ∃ G', Ext ι ι H H' G G' ∧ WH K G' ι st H' ∧ DV K G' ι x d
abbrev IM := DEnv → M (List D × Src)
section
variable (K : PySem.W.Frag) (T : CT) (W : WX)
def PostI (G : Hp) (ι : List Addr) (H : Hp) (r : R (List D × Src)) (E : XK) (Q : It → Hp → Prop) : Prop := match r with
  | .ok d st' => ∀ J G' ι' H', Ext ι ι' H H' G G' → WH K G' ι' st' H' → ItD K G' ι' J d.1 d.2 → Q J H'
  | .ex x st' => ∀ c dd G' ι' H', Ext ι ι' H H' G G' → WH K G' ι' st' H' → ExR K T G' ι' c dd x → E c dd H'
  | .bad => False
def iOf (m : IM) : TI := fun σ H Q => ∃ G ι st env, WH K G ι st H ∧ EnvR K G ι σ env ∧ PostI K T G ι H (m env st) (fun c d H' => W c d σ H') Q
end
def DI (X : Cx) (T : CT) (W : WX) (tg e : Expr) (m : IM) : Prop := PI X tg e (iOf X.K T W m)
section
variable {X : Cx} {T : CT} {W : WX} {tg e : Expr} {m : EM} {pos : Pos}
theorem DI.of {t : TI} {m : IM} (h : PI X tg e t) (ht : ∀ σ H Q G ι st env, WH X.K G ι st H → EnvR X.K G ι σ env → PostI X.K T G ι H (m env st) (fun c d H' => W c d σ H') Q → t σ H Q) : DI X T W tg e m :=
  ⟨fun pins s σ H Q I ⟨G, ι, st, env, w, r, p⟩ => h.run pins s σ H Q I (ht σ H Q G ι st env w r p)⟩
theorem PostI.bindE {K : PySem.W.Frag} {G : Hp} {ι : List Addr} {H : Hp} {st : Sto} {E : XK} {m : M D} {f : D → M (List D × Src)} {Q : It → Hp → Prop} {Q' : VK} (p : PostI K T G ι H (M.bind m f st) E Q)
    (h : ∀ d st1 v G1 ι1 H1, Ext ι ι1 H H1 G G1 → WH K G1 ι1 st1 H1 → DV K G1 ι1 v d → PostI K T G1 ι1 H1 (f d st1) E Q → Q' v H1) : PostE K T G ι H (m st) E Q' := by
  rw [M.bind_app] at p
  cases e : m st with
  | bad => rw [e] at p; exact p
  | ex x s => rw [e] at p; exact p
  | ok d s =>
    rw [e] at p
    dsimp only at p
    intro v G1 ι1 H1 x1 w1 r1
    refine h d s v G1 ι1 H1 x1 w1 r1 ?_
    cases e2 : f d s with
    | bad => rw [e2] at p; exact p
    | ex x s2 =>
      rw [e2] at p
      exact fun c dd G' ι' H' x2 w2 r2 => p c dd G' ι' H' (x1.cons w1 x2) w2 r2
    | ok d2 s2 =>
      rw [e2] at p
      exact fun J G' ι' H' x2 w2 r2 => p J G' ι' H' (x1.cons w1 x2) w2 r2
theorem PostI.bindA {K : PySem.W.Frag} {G : Hp} {ι : List Addr} {H : Hp} {st : Sto} {E : XK} {m : M (List D)} {f : List D → M (List D × Src)} {Q : It → Hp → Prop} {Q' : List V → Hp → Prop} (p : PostI K T G ι H (M.bind m f st) E Q)
    (h : ∀ d st1 v G1 ι1 H1, Ext ι ι1 H H1 G G1 → WH K G1 ι1 st1 H1 → DVs K G1 ι1 v d → PostI K T G1 ι1 H1 (f d st1) E Q → Q' v H1) : PostA K T G ι H (m st) E Q' := by
  rw [M.bind_app] at p
  cases e : m st with
  | bad => rw [e] at p; exact p
  | ex x s => rw [e] at p; exact p
  | ok d s =>
    rw [e] at p
    dsimp only at p
    intro v G1 ι1 H1 x1 w1 r1
    refine h d s v G1 ι1 H1 x1 w1 r1 ?_
    cases e2 : f d s with
    | bad => rw [e2] at p; exact p
    | ex x s2 =>
      rw [e2] at p
      exact fun c dd G' ι' H' x2 w2 r2 => p c dd G' ι' H' (x1.cons w1 x2) w2 r2
    | ok d2 s2 =>
      rw [e2] at p
      exact fun J G' ι' H' x2 w2 r2 => p J G' ι' H' (x1.cons w1 x2) w2 r2
/-- range(n) -/
def rngD (lo hi : Int) : List D := (List.range (hi - lo).toNat).map fun i => .int (lo + (i : Nat))
def small62 (i : Int) : Bool := decide (-(2 ^ 62) ≤ i) && decide (i < 2 ^ 62)
theorem small62_lt {i : Int} (h : small62 i = true) : -(2 ^ 62) ≤ i ∧ i < 2 ^ 62 := by
  unfold small62 at h
  simpa using h
theorem itd_range {K : PySem.W.Frag} {G : Hp} {ι : List Addr} (lo hi : Int) : ItD K G ι (Itr lo (hi - lo).toNat) (rngD lo hi) none := fun G1 ι1 st H sm pre w _ => by
  refine ⟨fun i hi' => ?_, fun i d hd => ?_⟩
  · show (hi - lo).toNat ≤ i
    unfold rngD at hi'
    simpa using hi'
  · unfold rngD at hd
    rw [List.getElem?_map] at hd
    by_cases hl : i < (hi - lo).toNat
    · rw [List.getElem?_range hl] at hd
      cases hd
      refine ⟨hl, fun x H' y => ?_⟩
      obtain ⟨e1, e2⟩ := y
      subst e1 e2
      exact ⟨G1, .refl, w, .int _⟩
    · rw [List.getElem?_eq_none (by simpa using hl)] at hd
      cases hd
def iRange1 (m : EM) : IM := fun env => M.bind (m env) fun d => M.opt (match d with
  | .int j => if small62 j then some (rngD 0 j, none) else none
  | _ => none)
def iRange2 (ma mb : EM) : IM := fun env => M.bind (ma env) fun x => M.bind (mb env) fun y => M.opt (match x, y with
  | .int i, .int j => if small62 i && small62 j then some (rngD i j, none) else none
  | _, _ => none)
theorem di_range1 {a : Expr} {p : Pos} (hg : Gl X "range") (hm : X.mg "range" = none) (ha : DE X T W a m) (hs : starEach [a] X.env = [(false, eval a X.env)] := by rfl) (h1 : starEach (a :: []) X.env = (false, eval a X.env) :: starEach [] X.env := by rfl) : DI X T W tg (.Call (.Name "range" p) [a] [] pos) (iRange1 m) :=
  DI.of (pi_range1 hg hm (pa_cons ha pa_nil h1) hs) fun σ H Q G ι st env w r p => ⟨G, ι, st, env, w, r, PostI.bindE p fun d st1 v G1 ι1 H1 x1 w1 r1 p1 => by
    cases r1 with
    | int j =>
      dsimp only at p1
      by_cases hs : small62 j = true
      · rw [if_pos hs] at p1
        obtain ⟨h1, h2⟩ := small62_lt hs
        refine ⟨j, rfl, h1, h2, ?_⟩
        have z : ItD X.K G1 ι1 (Itr 0 (j - 0).toNat) (rngD 0 j) none := itd_range 0 j
        rw [Int.sub_zero] at z
        exact p1 _ G1 ι1 H1 .refl w1 z
      · rw [if_neg hs] at p1
        exact p1.elim
    | _ => exact p1.elim⟩
theorem di_range2 {a b : Expr} {mb : EM} {p : Pos} (hg : Gl X "range") (hm : X.mg "range" = none) (ha : DE X T W a m) (hb : DE X T W b mb) (hs : starEach [a, b] X.env = [(false, eval a X.env), (false, eval b X.env)] := by rfl) (hs2 : starEach [b] X.env = [(false, eval b X.env)] := by rfl)
    (h1 : starEach (a :: [b]) X.env = (false, eval a X.env) :: starEach [b] X.env := by rfl) (h2 : starEach (b :: []) X.env = (false, eval b X.env) :: starEach [] X.env := by rfl) : DI X T W tg (.Call (.Name "range" p) [a, b] [] pos) (iRange2 m mb) :=
  DI.of (pi_range2 hg hm (pa_cons ha (pa_cons hb pa_nil h2) h1) hs hs2) fun σ H Q G ι st env w r p => ⟨G, ι, st, env, w, r, PostI.bindE p fun d st1 v G1 ι1 H1 x1 w1 r1 p1 =>
    ⟨G1, ι1, st1, env, w1, r.mono x1, PostI.bindE p1 fun d2 st2 v2 G2 ι2 H2 x2 w2 r2 p2 => by
      cases r1 with
      | int i =>
        cases r2 with
        | int j =>
          dsimp only at p2
          by_cases hs : (small62 i && small62 j) = true
          · rw [if_pos hs] at p2
            rw [Bool.and_eq_true] at hs
            obtain ⟨h1, h2⟩ := small62_lt hs.1
            obtain ⟨h3, h4⟩ := small62_lt hs.2
            exact ⟨i, j, rfl, ⟨h1, h2, h3, h4⟩, p2 _ G2 ι2 H2 .refl w2 (itd_range i j)⟩
          · rw [if_neg hs] at p2
            exact p2.elim
        | _ => exact p2.elim
      | _ => exact p2.elim⟩⟩
/-- a tuple; a list, wherever it stands -/
def srcOf : D → List D → Src
  | .cell n, xs => some (n, xs)
  | _, _ => none
def iSeqT (m : EM) : IM := fun env => M.bind (m env) fun d => M.opt ((tupOf d).map fun xs => (xs, none))
def iSeqL (m : EM) : IM := fun env => M.bind (m env) fun d => M.rd fun st => (lstOf st d).map fun xs => (xs, srcOf d xs)
theorem di_tup (ha : DE X T W e m) : DI X T W tg e (iSeqT m) :=
  DI.of (pi_tup ha) fun σ H Q G ι st env w r p => ⟨G, ι, st, env, w, r, PostI.bindE p fun d st1 v G1 ι1 H1 x1 w1 r1 p1 => by
    cases r1 with
    | @tup a xs ds q hs =>
      refine ⟨a, rfl, ⟨xs, w1.same.tup q⟩, p1 _ G1 ι1 H1 .refl w1 fun G2 ι2 st2 H2 sm pre w2 _ => ⟨fun i hi => ⟨xs, w2.same.tup (sm.tup q), by rw [hs.length]; exact hi⟩, fun i d hd => ?_⟩⟩
      obtain ⟨v, h1, h2⟩ := hs.get hd
      refine ⟨⟨xs, v, w2.same.tup (sm.tup q), h1⟩, fun x H' y => ?_⟩
      obtain ⟨e1, e2⟩ := y
      subst e1
      have e3 := e2 xs (w2.same.tup (sm.tup q))
      rw [h1] at e3
      cases e3
      exact ⟨G2, .refl, w2, h2.mono sm pre⟩
    | _ => exact p1.elim⟩
theorem di_lst (ha : DE X T W e m) : DI X T W tg e (iSeqL m) :=
  DI.of (pi_list ha) fun σ H Q G ι st env w r p => ⟨G, ι, st, env, w, r, PostI.bindE p fun d st1 v G1 ι1 H1 x1 w1 r1 p1 => by
    have fin : ∀ {a : Addr} {vs : List V} {ds : List D} {c : Src}, (∃ xs, SqL X.K H1 a xs) → (∀ G2 ι2 st2 H2, Same G1 G2 → (∃ t, ι2 = ι1 ++ t) → WH X.K G2 ι2 st2 H2 → c.ok st2 = true → ∃ vs, SqL X.K H2 a vs ∧ DVs X.K G2 ι2 vs ds) →
        PostI X.K T G1 ι1 H1 (.ok (ds, c) st1) (fun c d H' => W c d σ H') Q → v = .ref a → ∃ a, v = .ref a ∧ (∃ xs, SqL X.K H1 a xs) ∧ Q (Itl X.K a) H1 := fun {a vs ds c} hx h p2 e => by
      refine ⟨a, e, hx, p2 _ G1 ι1 H1 .refl w1 fun G2 ι2 st2 H2 sm pre w2 ok => ?_⟩
      obtain ⟨vs, q, hs⟩ := h G2 ι2 st2 H2 sm pre w2 ok
      refine ⟨fun i hi => ⟨vs, q, by rw [hs.length]; exact hi⟩, fun i d hd => ?_⟩
      obtain ⟨v, h1, h2⟩ := hs.get hd
      refine ⟨⟨vs, v, q, h1⟩, fun x H' y => ?_⟩
      obtain ⟨e1, e2⟩ := y
      subst e1
      have e3 := e2 vs q
      rw [h1] at e3
      cases e3
      exact ⟨G2, .refl, w2, h2⟩
    unfold M.rd at p1
    cases r1 with
    | @lst a xs ds q hs => exact fin (vs := xs) ⟨xs, .of (w1.same _ _ q)⟩ (fun G2 ι2 st2 H2 sm pre w2 _ => ⟨xs, .of (w2.same _ _ (sm _ _ q)), hs.mono sm pre⟩) p1 rfl
    | @scr a xs ds q hs => exact fin (vs := xs) ⟨xs, w1.same.seq q⟩ (fun G2 ι2 st2 H2 sm pre w2 _ => ⟨xs, w2.same.seq (sm.seq q), hs.mono sm pre⟩) p1 rfl
    | @cell n a q =>
      cases e2 : lstOf st1 (.cell n) with
      | none => dsimp only at p1; rw [e2] at p1; exact p1.elim
      | some ds =>
        dsimp only at p1
        rw [e2] at p1
        obtain ⟨b, vs, e3, h3, h4⟩ := lst_atS w1 (.cell q) e2
        cases e3
        refine fin (vs := vs) ⟨vs, h3⟩ (fun G2 ι2 st2 H2 sm pre w2 ok => ?_) p1 rfl
        have z : ∃ ws, H2 a = some (.lst ws) ∧ DVs X.K G2 ι2 ws ds := (w2.cells n a _ (ix_mono pre q) (Src.at_ ok)).2
        obtain ⟨ws, h5, h6⟩ := z
        exact ⟨ws, .of h5, h6⟩
    | _ => exact p1.elim⟩
end

/-! ## for -/
def forD (c : Src) (g : D → DEnv → Option DEnv) (b : SM) : List D → SM
  | [] => fun env st => if c.ok st then .nx env st else .bad
  | x :: xs => fun env st => if c.ok st then (match g x env with
    | none => .bad
    | some e1 => match b e1 st with
      | .nx e2 s2 => forD c g b xs e2 s2
      | .ct e2 s2 => forD c g b xs e2 s2
      | .bk e2 s2 => .nx e2 s2
      | .rt d s2 => .rt d s2
      | .ex y e2 s2 => .ex y e2 s2
      | .bad => .bad) else .bad
def sFor (i : IM) (g : D → DEnv → Option DEnv) (b : SM) : SM := fun env st => match i env st with
  | .ok d s => forD d.2 g b d.1 env s
  | .ex x s => .ex x env s
  | .bad => .bad
section
variable {X : Cx} {T : CT} {W : WX} {tg e : Expr} {body : List Stmt} {i : IM} {g : D → DEnv → Option DEnv} {vs : List Nat} {b : SM} {pos : Pos}
theorem ds_for (hp : PassesOwn (model X.prog X.w) X.A X.env X.xe) (hc : X.calm = true) (hi : DI X T W tg e i) (hg : DG X tg vs g) (hb : DSs X T W body b) (hs : ∀ x, foldedSetIterable e X.env x = pure x := by intro _; rfl) : DS X T W (.For tg e body [] pos) (sFor i g b) :=
  DS.of (ps_for hp hc hi hg hb hs) fun Dd σ H G ι st env w r p => by
    refine ⟨G, ι, st, env, w, r, ?_⟩
    unfold sFor at p
    cases e1 : i env st with
    | bad => rw [e1] at p; exact p
    | ex x s => rw [e1] at p; exact fun c dd G' ι' H' x2 w2 r2 => p c dd σ G' ι' H' x2 w2 (r.mono x2) r2
    | ok ds s =>
      obtain ⟨items, c⟩ := ds
      rw [e1] at p
      intro J G1 ι1 H1 x1 w1 j1
      have p1 := PostS.later p x1 w1
      dsimp only at p1 j1
      refine ⟨fun n m σ H => n ≤ items.length ∧ m = items.length - n ∧ ∃ G ι st env, Same G1 G ∧ (∃ t, ι = ι1 ++ t) ∧ WH X.K G ι st H ∧ EnvR X.K G ι σ env ∧ PostS X.K T W G ι H (forD c g b (items.drop n) env st) Dd,
        ⟨items.length, Nat.zero_le _, rfl, G1, ι1, s, env, fun _ _ h => h, ⟨[], by simp⟩, w1, r.mono x1, p1⟩, ?_⟩
      rintro n m σ2 H2 ⟨hn, hm, G2, ι2, st2, env2, sm, pre, w2, r2, p2⟩
      have ok : c.ok st2 = true := by
        cases h : c.ok st2 with
        | true => rfl
        | false =>
          cases h2 : items.drop n with
          | nil => rw [h2] at p2; unfold forD at p2; rw [h] at p2; exact p2.elim
          | cons x xs => rw [h2] at p2; unfold forD at p2; rw [h] at p2; exact p2.elim
      obtain ⟨js, jg⟩ := j1 G2 ι2 st2 H2 sm pre w2 ok
      cases h2 : items.drop n with
      | nil =>
        rw [h2] at p2
        unfold forD at p2
        rw [if_pos ok] at p2
        have hl : items.length ≤ n := by
          have := congrArg List.length h2
          rw [List.length_drop] at this
          simp at this
          omega
        exact .inl ⟨js n hl, p2.nx w2 r2⟩
      | cons x xs =>
        rw [h2] at p2
        unfold forD at p2
        rw [if_pos ok] at p2
        have hx : items[n]? = some x := by
          have := congrArg (·[0]?) h2
          simpa using this
        have hlt : n < items.length := (List.getElem?_eq_some_iff.mp hx).1
        have hxs : items.drop (n + 1) = xs := by
          have := congrArg (List.drop 1) h2
          rw [List.drop_drop] at this
          simpa [Nat.add_comm] using this
        obtain ⟨go, yl⟩ := jg n x hx
        refine .inr ⟨go, fun σ' H' => ∃ G ι st env, Same G1 G ∧ (∃ t, ι = ι1 ++ t) ∧ WH X.K G ι st H' ∧ EnvR X.K G ι σ' env ∧ PostS X.K T W G ι H' (forD c g b xs env st) Dd, ?_, ?_⟩
        · rintro σ' H' ⟨G3, ι3, st3, env3, sm3, pre3, w3, r3, p3⟩
          refine ⟨items.length - (n + 1), by omega, hlt, rfl, G3, ι3, st3, env3, sm3, pre3, w3, r3, ?_⟩
          rw [hxs]
          exact p3
        · intro v H3 y
          obtain ⟨G3, x3, w3, r3⟩ := yl v H3 y
          refine ⟨G3, ι2, st2, env2, x, w3, r2.mono x3, r3, ?_⟩
          cases e2 : g x env2 with
          | none => rw [e2] at p2; exact p2.elim
          | some env3 =>
            rw [e2] at p2
            dsimp only at p2
            intro σ3 rr _ _
            refine ⟨G3, ι2, st2, env3, w3, rr, ?_⟩
            have p3 := PostS.later p2 x3 w3
            have sm3 : Same G1 G3 := sm.trans x3.sm
            have again : ∀ {e4 : DEnv} {s4 : Sto}, PostS X.K T W G3 ι2 H3 (forD c g b xs e4 s4) Dd → ∀ σ G' ι' H', Ext ι2 ι' H3 H' G3 G' → WH X.K G' ι' s4 H' → EnvR X.K G' ι' σ e4 →
                ∃ G ι st env, Same G1 G ∧ (∃ t, ι = ι1 ++ t) ∧ WH X.K G ι st H' ∧ EnvR X.K G ι σ env ∧ PostS X.K T W G ι H' (forD c g b xs env st) Dd := fun {e4 s4} p4 σ G' ι' H' x4 w4 r4 => by
              refine ⟨G', ι', s4, e4, sm3.trans x4.sm, ?_, w4, r4, PostS.later p4 x4 w4⟩
              obtain ⟨t, e5⟩ := pre
              obtain ⟨t', e6⟩ := x4.pre
              exact ⟨t ++ t', by rw [e6, e5, List.append_assoc]⟩
            cases e4 : b env3 st2 with
            | bad => rw [e4] at p3; exact p3
            | ex y e5 s5 => rw [e4] at p3; exact p3
            | rt d s5 => rw [e4] at p3; exact p3
            | bk e5 s5 => rw [e4] at p3; exact p3
            | nx e5 s5 => rw [e4] at p3; exact again p3
            | ct e5 s5 => rw [e4] at p3; exact again p3

/-! ## while -/
def whileD (c : BM) (b : SM) : Nat → SM
  | 0 => fun _ _ => .bad
  | n + 1 => sB c fun k env st => if k = true then (match b env st with
    | .nx e2 s2 => whileD c b n e2 s2
    | .ct e2 s2 => whileD c b n e2 s2
    | .bk e2 s2 => .nx e2 s2
    | .rt d s2 => .rt d s2
    | .ex y e2 s2 => .ex y e2 s2
    | .bad => .bad) else .nx env st
theorem ds_while {c : Expr} {k : BM} (n : Nat) (hp : PassesOwn (model X.prog X.w) X.A X.env X.xe) (hc : DT X T W c k) (hb : DSs X T W body b) : DS X T W (.While c body [] pos) (whileD k b n) :=
  DS.of (ps_while hp hc hb) fun Dd σ H G ι st env w r p => by
    refine ⟨fun m σ H => ∃ G ι st env, WH X.K G ι st H ∧ EnvR X.K G ι σ env ∧ PostS X.K T W G ι H (whileD k b m env st) Dd, ⟨n, G, ι, st, env, w, r, p⟩, ?_⟩
    rintro m σ1 H1 ⟨G1, ι1, st1, env1, w1, r1, p1⟩
    cases m with
    | zero => exact p1.elim
    | succ m =>
      refine ⟨G1, ι1, st1, env1, w1, r1, PostS.bindB r1 p1 fun d st2 G2 ι2 H2 x2 w2 p2 => ?_⟩
      cases d with
      | false => exact p2.nx w2 (r1.mono x2)
      | true =>
        rw [if_pos rfl] at p2 ⊢
        refine ⟨fun σ' H' => ∃ G ι st env, WH X.K G ι st H' ∧ EnvR X.K G ι σ' env ∧ PostS X.K T W G ι H' (whileD k b m env st) Dd, fun σ' H' z => ⟨m, Nat.lt_succ_self _, z⟩, G2, ι2, st2, env1, w2, r1.mono x2, ?_⟩
        cases e4 : b env1 st2 with
        | bad => rw [e4] at p2; exact p2
        | ex y e5 s5 => rw [e4] at p2; exact p2
        | rt d s5 => rw [e4] at p2; exact p2
        | bk e5 s5 => rw [e4] at p2; exact p2
        | nx e5 s5 => rw [e4] at p2; exact fun σ G' ι' H' x4 w4 r4 => ⟨G', ι', s5, e5, w4, r4, PostS.later p2 x4 w4⟩
        | ct e5 s5 => rw [e4] at p2; exact fun σ G' ι' H' x4 w4 r4 => ⟨G', ι', s5, e5, w4, r4, PostS.later p2 x4 w4⟩
end
end L3
namespace L3
open PySem PySem.Spec PyProof.Rows L2

/-! ## List comprehensions -/
def forget (env : DEnv) (vs : List Nat) : DEnv := vs.foldr (fun v en => en.set v none) env
/-- nothing is let out -/
def M.nox {α : Type} (m : M α) : M α := fun st => match m st with
  | .ok a s => .ok a s
  | _ => .bad
theorem M.nox_ok {α : Type} {m : M α} {st s : Sto} {a : α} (h : m st = .ok a s) : M.nox m st = .ok a s := by unfold M.nox; rw [h]
/-- the items made, one behind the other -/
def lcD (c : Src) (g : D → DEnv → Option DEnv) (t : BM) (el : EM) (env : DEnv) : List D → List D → M (List D)
  | [], acc => fun st => if c.ok st then .ok acc st else .bad
  | x :: xs, acc => fun st => if c.ok st then (match g x env with
    | none => .bad
    | some e1 => M.bind (M.nox (t e1)) (fun k => if k = true then M.bind (M.nox (el e1)) (fun y => if decide (acc.length < 16777216) then lcD c g t el env xs (acc ++ [y]) else M.bad) else lcD c g t el env xs acc) st) else .bad
def eLc (i : IM) (vs : List Nat) (g : D → DEnv → Option DEnv) (t : BM) (el : EM) : EM := fun env => M.bind (i env) fun d => M.bind (lcD d.2 g t el (forget env vs) d.1 []) fun xs => M.pure (.lst xs)
def bYes : BM := fun _ => M.pure true
theorem wipe_of {σ σ2 : L2.St} {vs : List Nat} (hl : σ2.length = σ.length) (h : ∀ j, j ∉ vs → σ2[j]? = (L2.wipe σ vs)[j]?) : L2.wipe σ2 vs = L2.wipe σ vs := by
  have len : ∀ σ : L2.St, (L2.wipe σ vs).length = σ.length := fun σ => L2.wipe_length σ vs
  have inn : ∀ (ws : List Nat) (σ : L2.St) (j : Nat), j ∈ ws → j < σ.length → (L2.wipe σ ws)[j]? = some none := by
    intro ws
    induction ws with
    | nil => intro σ j hj; cases hj
    | cons v ws ih =>
      intro σ j hj hlt
      unfold L2.wipe
      by_cases e : v = j
      · subst e
        rw [List.getElem?_set_self (by rw [L2.wipe_length]; exact hlt)]
      · rw [List.getElem?_set_ne e]
        rcases List.mem_cons.mp hj with z | z
        · exact absurd z.symm e
        · exact ih σ j z hlt
  have out : ∀ (ws : List Nat) (σ : L2.St) (j : Nat), j ∉ ws → (L2.wipe σ ws)[j]? = σ[j]? := by
    intro ws
    induction ws with
    | nil => intro σ j _; rfl
    | cons v ws ih =>
      intro σ j hj
      unfold L2.wipe
      rw [List.getElem?_set_ne (fun e => hj (by simp [e]))]
      exact ih σ j fun z => hj (List.mem_cons_of_mem _ z)
  refine List.ext_getElem? fun j => ?_
  by_cases hj : j ∈ vs
  · by_cases hlt : j < σ.length
    · rw [inn vs σ2 j hj (by rw [hl]; exact hlt), inn vs σ j hj hlt]
    · rw [List.getElem?_eq_none (by rw [len, hl]; omega), List.getElem?_eq_none (by rw [len]; omega)]
  · rw [out vs σ2 j hj, h j hj]
/-- what a comprehension's block may let out: nothing -/
abbrev W0 : WX := fun _ _ _ _ => False
section
variable {K : PySem.W.Frag} {T : CT} {G G1 : Hp} {ι ι1 : List Addr} {H H1 H2 : Hp} {st st1 : Sto} {E : XK}
/-- a thing apart is written -/
theorem WH.other (w : WH K G ι st H) {a : Addr} (hg : G a = none) (hi : a ∉ ι) (o : HO) : WH K G ι st (upd H a o) where
  same := fun b u h => by rw [upd_ne (ne_of_none h hg)]; exact w.same b u h
  len := w.len
  nd := w.nd
  there := fun b hb => by rw [upd_ne (fun e => hi (by rw [← e]; exact hb))]; exact w.there b hb
  cells := fun n b c h1 h2 => (w.cells n b c h1 h2).keep (fun _ _ h => h) ⟨[], by simp⟩ (fun g => g) fun o' e => by rw [upd_ne (fun e => hi (by rw [← e]; exact List.mem_of_getElem? h1))]; exact e
theorem Ext.other (x : Ext ι ι1 H H1 G G1) {a : Addr} (h : H a = none) (o : HO) : Ext ι ι1 H (upd H1 a o) G G1 :=
  ⟨fun b u hb hn => by rw [upd_ne (ne_of_none hb h)]; exact x.fr b u hb hn, x.sm, x.pre, x.new, x.gn⟩
/-- .. and then stands for good -/
theorem WH.still (w : WH K G ι st H) {a : Addr} (hg : G a = none) (hi : a ∉ ι) {o : HO} (h : H a = some o) : WH K (upd G a o) ι st H where
  same := fun b u hb => by
    by_cases e : b = a
    · subst e; rw [upd_same] at hb; cases hb; exact h
    · rw [upd_ne e] at hb; exact w.same b u hb
  len := w.len
  nd := w.nd
  there := w.there
  cells := fun n b c h1 h2 => (w.cells n b c h1 h2).keep (Same.upd_new hg) ⟨[], by simp⟩ (fun g => by rw [upd_ne (fun e => hi (by rw [← e]; exact List.mem_of_getElem? h1))]; exact g) fun o' e => e
theorem Ext.still (x : Ext ι ι1 H H1 G G1) {a : Addr} (h : H a = none) (hg : G1 a = none) (o : HO) : Ext ι ι1 H H1 G (upd G1 a o) :=
  ⟨x.fr, x.sm.trans (Same.upd_new hg), x.pre, x.new, fun b u hb => by
    by_cases e : b = a
    · subst e; exact .inr (.inl h)
    · rw [upd_ne e] at hb; exact x.gn b u hb⟩
end
section
variable {X : Cx} {T : CT} {W : WX} {tg elt iter : Expr} {ifs : List Expr} {scope : Scope} {own : List (Str × Nat)} {pos : Pos} {i : IM} {g : D → DEnv → Option DEnv} {t : BM} {el : EM}
/-- the reading of a comprehension's walk -/
theorem lc_read {vs : List Nat} {σ : L2.St} {H : Hp} {Q : VK} {G : Hp} {ι : List Addr} {st : Sto} {env : DEnv} (w : WH X.K G ι st H) (r : EnvR X.K G ι σ env)
    (p : PostE X.K T G ι H (eLc i vs g t el env st) (fun c d H' => W c d σ H') Q) : tLc (iOf X.K T W i) (gOf X.K vs g) (bOf X.K T W0 t) (tOf X.K T W0 el) vs σ H Q := by
  refine ⟨G, ι, st, env, w, r, ?_⟩
  unfold eLc at p
  rw [M.bind_app] at p
  cases e1 : i env st with
  | bad => rw [e1] at p; exact p
  | ex x s => rw [e1] at p; exact p
  | ok ds s =>
    obtain ⟨items, c⟩ := ds
    rw [e1] at p
    dsimp only at p
    intro J G1 ι1 H1 x1 w1 j1 Dl hD
    dsimp only at j1
    have p1 := PostE.later p x1 w1
    have gD : G1 Dl = none := w1.off hD
    have iD : Dl ∉ ι1 := fun z => w1.there Dl z hD
    refine ⟨fun n m H => n ≤ items.length ∧ m = items.length - n ∧ ∃ G ι st acc vacc, Ext ι1 ι H1 H G1 G ∧ WH X.K G ι st H ∧ G Dl = none ∧ Dl ∉ ι ∧ H Dl = some (.lst vacc) ∧ DVs X.K G ι vacc acc ∧
      PostE X.K T G1 ι1 H1 (M.bind (lcD c g t el (forget env vs) (items.drop n) acc) (fun xs => M.pure (.lst xs)) st) (fun c d H' => W c d σ H') Q,
      ⟨items.length, Nat.zero_le _, rfl, G1, ι1, s, [], [], Ext.other .refl hD _, w1.other gD iD _, gD, iD, upd_same, .nil, by rw [List.drop_zero]; exact p1⟩, ?_⟩
    rintro n m H2 ⟨hn, hm, G2, ι2, st2, acc, vacc, x2, w2, gd, di, hd, ra, p2⟩
    rw [M.bind_app] at p2
    have ok : c.ok st2 = true := by
      cases h : c.ok st2 with
      | true => rfl
      | false =>
        cases h2 : items.drop n with
        | nil => rw [h2] at p2; unfold lcD at p2; rw [h] at p2; exact p2.elim
        | cons x xs => rw [h2] at p2; unfold lcD at p2; rw [h] at p2; exact p2.elim
    obtain ⟨js, jg⟩ := j1 G2 ι2 st2 H2 x2.sm x2.pre w2 ok
    cases h2 : items.drop n with
    | nil =>
      rw [h2] at p2
      unfold lcD at p2
      rw [if_pos ok] at p2
      have hl : items.length ≤ n := by
        have := congrArg List.length h2
        rw [List.length_drop] at this
        simp at this
        omega
      exact .inl ⟨js n hl, p2 (.ref Dl) _ ι2 H2 (x2.still hD gd (.lst vacc)) (w2.still gd di hd) (.lst upd_same (ra.mono (Same.upd_new gd) ⟨[], by simp⟩))⟩
    | cons x xs =>
      rw [h2] at p2
      unfold lcD at p2
      rw [if_pos ok] at p2
      have hx : items[n]? = some x := by
        have := congrArg (·[0]?) h2
        simpa using this
      have hlt : n < items.length := (List.getElem?_eq_some_iff.mp hx).1
      have hxs : items.drop (n + 1) = xs := by
        have := congrArg (List.drop 1) h2
        rw [List.drop_drop] at this
        simpa [Nat.add_comm] using this
      obtain ⟨go, yl⟩ := jg n x hx
      refine .inr ⟨go, fun H' => ∃ G ι st acc vacc, Ext ι1 ι H1 H' G1 G ∧ WH X.K G ι st H' ∧ G Dl = none ∧ Dl ∉ ι ∧ H' Dl = some (.lst vacc) ∧ DVs X.K G ι vacc acc ∧
        PostE X.K T G1 ι1 H1 (M.bind (lcD c g t el (forget env vs) xs acc) (fun xs => M.pure (.lst xs)) st) (fun c d H' => W c d σ H') Q, ?_, ?_⟩
      · rintro H' ⟨G3, ι3, st3, acc3, vacc3, z⟩
        exact ⟨items.length - (n + 1), by omega, hlt, rfl, G3, ι3, st3, acc3, vacc3, by rw [hxs]; exact z⟩
      · intro v H3 y
        obtain ⟨G3, x3, w3, r3⟩ := yl v H3 y
        have gd3 : ∀ {G' : Hp} {ι' : List Addr} {H' : Hp}, Ext ι2 ι' H2 H' G2 G' → G' Dl = none ∧ Dl ∉ ι' ∧ H' Dl = some (.lst vacc) := fun {G' ι' H'} z => by
          refine ⟨?_, ?_, z.fr _ _ hd di⟩
          · cases q : G' Dl with
            | none => rfl
            | some o =>
              rcases z.gn _ _ q with z | z | z
              · rw [gd] at z; cases z
              · rw [hd] at z; cases z
              · exact absurd z di
          · intro q
            rcases z.new _ q with z | z
            · exact di z
            · rw [hd] at z; cases z
        cases e2 : g x (forget env vs) with
        | none => rw [e2] at p2; exact p2.elim
        | some env3 =>
          rw [e2] at p2
          dsimp only at p2
          refine ⟨G3, ι2, st2, forget env vs, x, w3, (EnvR.wipe ((r.mono (x1.cons w1 x2)).mono x3) vs), r3, ?_⟩
          rw [e2]
          intro σ3 rr hl hσ
          refine ⟨wipe_of (by rw [hl, L2.wipe_length]) hσ, G3, ι2, st2, env3, w3, rr, ?_⟩
          rw [M.bind_app] at p2
          unfold M.nox at p2
          cases e3 : t env3 st2 with
          | bad => rw [e3] at p2; exact p2.elim
          | ex y s3 => rw [e3] at p2; exact p2.elim
          | ok k s3 =>
            rw [e3] at p2
            dsimp only at p2
            intro G4 ι4 H4 x4 w4
            cases k with
            | false =>
              obtain ⟨a1, a2, a3⟩ := gd3 (x3.cons w3 x4)
              exact ⟨G4, ι4, s3, acc, vacc, x2.cons w2 (x3.cons w3 x4), w4, a1, a2, a3, (x3.cons w3 x4).dvs ra, p2⟩
            | true =>
              rw [if_pos rfl] at p2 ⊢
              refine ⟨G4, ι4, s3, env3, w4, rr.mono x4, ?_⟩
              rw [M.bind_app] at p2
              cases e4 : el env3 s3 with
              | bad => rw [e4] at p2; exact p2.elim
              | ex y s4 => rw [e4] at p2; exact p2.elim
              | ok y s4 =>
                rw [e4] at p2
                dsimp only at p2
                intro v5 G5 ι5 H5 x5 w5 r5
                have x25 := x3.cons w3 (x4.cons w4 x5)
                obtain ⟨a1, a2, a3⟩ := gd3 x25
                have hsz : acc.length < 16777216 := by
                  by_cases hz : acc.length < 16777216
                  · exact hz
                  · rw [if_neg (by simpa using hz)] at p2
                    exact p2.elim
                rw [if_pos (by simpa using hsz)] at p2
                have rv := x25.dvs ra
                refine ⟨vacc, a3, by rw [rv.length, sizeLine_eq]; exact hsz, G5, ι5, s4, acc ++ [y], vacc ++ [v5], (x2.cons w2 x25).other hD _, w5.other a1 a2 _, a1, a2, upd_same, rv.append (.cons r5 .nil), p2⟩
theorem de_lc (hc : X.calm = true) (hN : X.N.Nodup) (hi : DI X T W tg iter i) (ok : BlkOk X.N X.env.scope scope own)
    (hg : ∀ (s : Shared) (H : Hp) (C : Addr) (cl : List (Str × Addr)) (fp : List Addr), DG (X.blk s H scope (compEnvC scope cl C X.env) fp) tg (own.map (·.2)) g)
    (ht : ∀ (s : Shared) (H : Hp) (C : Addr) (cl : List (Str × Addr)) (fp : List Addr), PTs (X.blk s H scope (compEnvC scope cl C X.env) fp) ifs (bOf X.K T W0 t))
    (he : ∀ (s : Shared) (H : Hp) (C : Addr) (cl : List (Str × Addr)) (fp : List Addr), DE (X.blk s H scope (compEnvC scope cl C X.env) fp) T W0 elt el) (hs : ∀ x, foldedSetIterable iter X.env x = pure x := by intro _; rfl) :
    DE X T W (.ListComp elt [⟨tg, iter, ifs, 0⟩] scope pos) (eLc i (own.map (·.2)) g t el) :=
  DE.of (pe_lc (wi := iOf X.K T W i) (g := gOf X.K (own.map fun p : Str × Nat => p.2) g) (tt := bOf X.K T W0 t) (te := tOf X.K T W0 el) hc hN hi ok hg ht he hs) fun σ H Q G ι st env w r p => lc_read w r p
/-- a block's tests -/
theorem dts_nil {Y : Cx} {K : PySem.W.Frag} (hk : Y.K = K := by rfl) : PTs Y [] (bOf K T W0 bYes) := by
  subst hk
  exact ⟨fun pins s σ H Q I ⟨G, ι, st, env, w, r, p⟩ => pts_nil.run pins s σ H Q I (p G ι H .refl w)⟩
theorem dts_one {Y : Cx} {K : PySem.W.Frag} {c : Expr} (h : DT Y T W0 c t) (hk : Y.K = K := by rfl) : PTs Y [c] (bOf K T W0 t) := by
  subst hk
  exact pts_one h
/-- x = [..] -/
theorem ds_setLc {j : Nat} {y : Str} {py spos : Pos} (hc : X.calm = true) (hN : X.N.Nodup) (hy : X.N[j]? = some y) (hyl : X.env.scope.names.lookup y = some .local)
    (hsw : swapsWith (.ListComp elt [⟨tg, iter, ifs, 0⟩] scope pos) (some (.Name y py)) spos.line X.env = pure true) (hi : DI X T W tg iter i) (ok : BlkOk X.N X.env.scope scope own)
    (hg : ∀ (s : Shared) (H : Hp) (C : Addr) (cl : List (Str × Addr)) (fp : List Addr), DG (X.blk s H scope (compEnvC scope cl C X.env) fp) tg (own.map (·.2)) g)
    (ht : ∀ (s : Shared) (H : Hp) (C : Addr) (cl : List (Str × Addr)) (fp : List Addr), PTs (X.blk s H scope (compEnvC scope cl C X.env) fp) ifs (bOf X.K T W0 t))
    (he : ∀ (s : Shared) (H : Hp) (C : Addr) (cl : List (Str × Addr)) (fp : List Addr), DE (X.blk s H scope (compEnvC scope cl C X.env) fp) T W0 elt el) (hs : ∀ x, foldedSetIterable iter X.env x = pure x := by intro _; rfl) :
    DS X T W (.Assign [.Name y py] (.ListComp elt [⟨tg, iter, ifs, 0⟩] scope pos) spos) (sSet j (eLc i (own.map (·.2)) g t el)) :=
  DS.of (ps_setLc (wi := iOf X.K T W i) (g := gOf X.K (own.map fun p : Str × Nat => p.2) g) (tt := bOf X.K T W0 t) (te := tOf X.K T W0 el) hc hN hy hyl hsw hi ok hg ht he hs) fun Dd σ H G ι st env w r p => by
    refine lc_read w r ?_
    exact PostS.bindE r p fun d st1 v G1 ι1 H1 x1 w1 r1 p1 => p1.nx w1 ((r.mono x1).set r1 j)
end
end L3
namespace L3
open PySem PySem.Spec PyProof.Rows L2

/-! ## Defs, where nothing is being shown around (repr asks it) -/
structure RoomG (k : Nat) (A : Around) : Prop where
  r : Room k A
  g : A.guards = some []
theorem RoomG.mono {j k : Nat} {A : Around} (h : RoomG k A) (l : j ≤ k) : RoomG j A := ⟨h.r.mono l, h.g⟩
def spD (K : PySem.W.Frag) (T : CT) (sem : List D → M D) : Sp := fun vs H Q E => ∃ G ι st ds, WH K G ι st H ∧ DVs K G ι vs ds ∧ PostE K T G ι H (sem ds st) E Q
structure FnG (P : Program) (w : World) (K : PySem.W.Frag) (mg : Str → Option Value) (base : Heap) (k : Nat) (f : Addr) (fd : FuncData) (ps : List Str) (sp : Sp) : Prop where
  len : ∀ vs H Q E, sp vs H Q E → vs.length = ps.length
  run : ∀ (A : Around) (outer : List Env) (s : Shared) (H : Hp) (args : Args) (us : List Value) (vs : List V) (Q : VK) (E : XK), RoomG k A → Env0 P w K mg base A outer s H →
    BindsTo s fd args (ps.zip us) → Vals vs us → sp vs H Q E → codeAny (model P w) A (.call (.ref f) args) (CR (L2.CX P w) outer P w H s Q E) s
abbrev FnD (P : Program) (w : World) (K : PySem.W.Frag) (mg : Str → Option Value) (base : Heap) (T : CT) (k : Nat) (f : Addr) (fd : FuncData) (ps : List Str) (sem : List D → M D) : Prop :=
  FnG P w K mg base k f fd ps (spD K T sem)
/-- the body b of a def with n parameters and l names -/
def funD (n l : Nat) (b : SM) : List D → M D := fun ds st => if ds.length = n then (match b (ds.map some ++ List.replicate (l - n) none) st with
  | .nx _ s => .ok .non s
  | .rt d s => .ok d s
  | .ex x _ s => .ex x s
  | _ => .bad) else .bad
theorem EnvR.start {K : PySem.W.Frag} {G : Hp} {ι : List Addr} {N : List Str} {vs : List V} {ds : List D} (r : DVs K G ι vs ds) : EnvR K G ι (L2.start N vs) (ds.map some ++ List.replicate (N.length - ds.length) none) := by
  unfold L2.start
  refine ⟨by simp [r.length], fun i d h => ?_⟩
  by_cases hi : i < ds.length
  · rw [List.getElem?_append_left (by simpa using hi), List.getElem?_map] at h
    cases e : ds[i]? with
    | none => rw [e] at h; cases h
    | some d' =>
      rw [e] at h
      cases h
      obtain ⟨v, h1, h2⟩ := r.get e
      refine ⟨v, ?_, h2⟩
      rw [List.getElem?_append_left (by simpa [r.length] using hi), List.getElem?_map, h1]
      rfl
  · rw [List.getElem?_append_right (by simpa using hi)] at h
    rw [List.getElem?_replicate] at h
    split at h <;> cases h
section
variable {P : Program} {w : World} {K : PySem.W.Frag} {mg : Str → Option Value} {base : Heap} {T : CT}
theorem fn_ok {x qual : Str} {st : Stmt} {f : Addr} {fd : FuncData} {N ps : List Str} {k : Nat} {b : SM} (F : Fun K x qual st f fd) (S : FnScope N ps (defScope st))
    (hb : ∀ (cdv : Value) (A : Around) (outer : List Env) (s : Shared) (H : Hp) (E : XK), RoomG k (A.deeper (envOfC qual (defScope st) s.heap.objs.size f cdv)) →
      DSs (cxOf (L2.CX P w) P w K mg base N qual (defScope st) f cdv A outer s H E) T (fun cls d _ H => E cls d H) (defBody st) b) {n l : Nat} (hn : ps.length = n := by rfl) (hl : N.length = l := by rfl) : FnD P w K mg base T (k + 1) f fd ps (funD n l b) := by
  subst hn hl
  obtain ⟨oc, od, kV, doc, pm, an, cdv, ct, osl, rfl, lk, hcd⟩ := F.ex
  have len : ∀ vs H Q E, spD K T (funD ps.length N.length b) vs H Q E → vs.length = ps.length := fun vs H Q E h => by
    obtain ⟨G, ι, st, ds, _, r, p⟩ := h
    unfold funD at p
    by_cases hl : ds.length = ps.length
    · rw [r.length]; exact hl
    · rw [if_neg hl] at p; exact p.elim
  refine ⟨len, fun A outer s H args us vs Q E hr e0 hbi rv hsp => ?_⟩
  have hl := len _ _ _ _ hsp
  -- the frame's names
  have KX : K.In s.heap := e0.mod.kin.keeps fun a o e => (e0.bs a o e).1
  have lim : s.heap.NoLimit := e0.mod.nolimit.keeps fun a o e => (e0.bs a o e).1
  have places : ∀ y ∈ ps.zip us, (defScope st).names.lookup y.1 = some .local ∨ ((defScope st).names.lookup y.1 = some .cell ∧
      ((cellsFrom (s.heap.objs.size + 1) (defScope st).names []).lookup y.1).isSome = true) := fun ⟨n, v⟩ hy =>
    (S.par n (List.of_mem_zip hy).1).elim .inl fun q => .inr ⟨q, PySem.W.cellsFrom_some _ _ _ (.inl q)⟩
  refine codeAny_call_function hr.r.depth (KX _ _ lk) rfl S.co S.gen rfl (PySem.W.codeRec_of KX hcd) (hbi _ _ _ _ ?_)
  refine wpAny_newFunctionEnv_cells S.kind places fun env he s1 x => ?_
  subst he
  refine ⟨lim.keeps x.toInCall.keep, codeAny_func ?_⟩
  have hbody := hb cdv A outer s H E ⟨hr.r.deeper _, hr.g⟩
  have I : Inv (cxOf (L2.CX P w) P w K mg base N qual (defScope st) f cdv A outer s H E) [] (L2.start N vs) H s1 := inv_start S hr.r.hd e0 hl rv x
  obtain ⟨G, ι, sto, ds, wh, r, p⟩ := hsp
  have hbs : sOf K T (fun cls d _ H => E cls d H) b { nx := fun _ H' => Q .non H', rt := Q } (L2.start N vs) H := by
    refine ⟨G, ι, sto, _, wh, EnvR.start r, ?_⟩
    unfold funD at p
    by_cases hl : ds.length = ps.length
    · rw [if_pos hl, ← hl] at p
      cases e : b (ds.map some ++ List.replicate (N.length - ds.length) none) sto with
      | bad => rw [e] at p; exact p
      | bk _ _ => rw [e] at p; exact p.elim
      | ct _ _ => rw [e] at p; exact p.elim
      | ex y _ s2 => rw [e] at p; exact fun c dd σ G' ι' H' x2 w2 _ r2 => p c dd G' ι' H' x2 w2 r2
      | rt d s2 => rw [e] at p; exact fun v G' ι' H' x2 w2 r2 => p v G' ι' H' x2 w2 r2
      | nx _ s2 => rw [e] at p; exact fun σ G' ι' H' x2 w2 _ => p .non G' ι' H' x2 w2 .non
    · rw [if_neg hl] at p; exact p.elim
  refine wpAny_mono (hbody.run [] s1 (L2.start N vs) H _ I hbs) (fun fl s' hs => ?_) fun e s' hs => hs
  cases fl with
  | ret u =>
    obtain ⟨v, σ', H', J, rv', q⟩ := hs
    exact ⟨v, H', J.os, J.bare, J.base, J.hok, rv', q⟩
  | next =>
    obtain ⟨σ', H', J, q⟩ := hs
    exact ⟨.non, H', J.os, J.bare, J.base, J.hok, rfl, q⟩
  | brk => exact False.elim (let ⟨_, _, _, q⟩ := hs; q)
  | cont => exact False.elim (let ⟨_, _, _, q⟩ := hs; q)
theorem FnG.imp {k : Nat} {f : Addr} {fd : FuncData} {ps : List Str} {sp sp' : Sp} (F : FnG P w K mg base k f fd ps sp) (h : ∀ vs H Q E, sp' vs H Q E → sp vs H Q E) : FnG P w K mg base k f fd ps sp' :=
  ⟨fun vs H Q E q => F.len vs H Q E (h _ _ _ _ q), fun A outer s H args us vs Q E hr e0 hb hv hs => F.run A outer s H args us vs Q E hr e0 hb hv (h _ _ _ _ hs)⟩
theorem FnG.mono {j k : Nat} {f : Addr} {fd : FuncData} {ps : List Str} {sp : Sp} (F : FnG P w K mg base j f fd ps sp) (h : j ≤ k) : FnG P w K mg base k f fd ps sp :=
  ⟨F.len, fun A outer s H args us vs Q E hr => F.run A outer s H args us vs Q E (hr.mono h)⟩
/-- a def whose meaning is known under another name -/
theorem FnG.as {k : Nat} {f : Addr} {fd : FuncData} {ps : List Str} {sem sem' : List D → M D} (h : FnD P w K mg base T k f fd ps sem) (e : ∀ ds st, sem' ds st ≠ .bad → sem ds st = sem' ds st) : FnD P w K mg base T k f fd ps sem' :=
  h.imp fun vs H Q E ⟨G, ι, st, ds, wh, r, p⟩ => ⟨G, ι, st, ds, wh, r, by
    rw [e ds st]
    · exact p
    · intro z
      rw [z] at p
      exact p⟩
end
def eApp (sem : List D → M D) (a : AM) : EM := fun env => M.bind (a env) sem
section
variable {X : Cx} {T : CT} {W : WX} {e : Expr} {es : List Expr} {mas : AM} {pos p : Pos} {k : Nat} {f : Addr} {fd : FuncData} {ps : List Str} {sem : List D → M D} {x : Str}
theorem run_g {sp : Sp} {E : L2.St → XK} {pins : List (Addr × Obj)} {σ : L2.St} {H : Hp} {s : Shared} {Q : VK} {us : List Value} {vs : List V} (F : FnG X.prog X.w X.K X.mg X.base k f fd ps sp) (hr : RoomG k X.A) (hb : Binds X.K fd ps []) (hx : PassesAt (L2.CX X.prog X.w) X σ (E σ))
    (I : Inv X pins σ H s) (r : Vals vs us) (h : sp vs H Q (E σ)) : wpAny (model X.prog X.w) X.A (PySem.call (.ref f) us) (EP X pins σ Q) X.xe s := by
  have hl : us.length = ps.length := r.length.symm.trans (F.len _ _ _ _ h)
  have b := hb s us I.kIn (by rw [List.append_nil]; exact hl)
  rw [List.append_nil] at b
  refine wpAny_call (codeAny_mono (F.run X.A X.stack s H ⟨us, []⟩ us vs Q (E σ) hr I.env0 b r h) fun res s' hq => ?_)
  match res, hq with
  | .error e, hq => exact hx pins H s e s' I hq
  | .ok (.ret u), hq => exact I.after hq
  | .ok .next, hq => exact False.elim hq
  | .ok .brk, hq => exact False.elim hq
  | .ok .cont, hq => exact False.elim hq
theorem de_call (F : FnD X.prog X.w X.K X.mg X.base T k f fd ps sem) (hr : RoomG k X.A) (hg : Gl X x) (hm : X.mg x = some (.ref f)) (hk : PySem.W.keepIn X.K (.ref f) = true) (hb : Binds X.K fd ps []) (tk : Takes X W)
    (ha : DA X T W (e :: es) mas) (hdb : (x == ("__debug__" : Str)) = false := by decide) (he : starEach (e :: es) X.env = (false, eval e X.env) :: starEach es X.env := by rfl) (hpl : (backTo pos (starEach es X.env)).any (·.1) = false := by rfl) :
    DE X T W (.Call (.Name x p) (e :: es) [] pos) (eApp sem mas) := by
  refine ⟨fun pins s σ H Q I ⟨G, ι, st, env, w, r, q⟩ => ?_⟩
  refine wpAny_Call_Name_kw (ld_glob I hg hm ?_ hdb)
  refine PySem.W.callWith_K (h₀ := X.base) I.ok.mod.kin hk (thn (ha.run pos pins s σ H (fun vs H1 => spD X.K T sem vs H1 Q (WE W σ)) I ⟨G, ι, st, env, w, r, ?_⟩) fun us s1 ⟨vs, H1, I1, r1, q1⟩ => ⟨I1.kIn, ?_⟩) he hpl
  · exact PostE.bindA q fun ds st1 vs G1 ι1 H1 x1 w1 r1 p1 => ⟨G1, ι1, st1, ds, w1, r1, p1⟩
  · exact run_g (E := WE W) F hr hb (passAt tk σ) I1 r1 q1
theorem de_call0 (F : FnD X.prog X.w X.K X.mg X.base T k f fd ps sem) (hr : RoomG k X.A) (hg : Gl X x) (hm : X.mg x = some (.ref f)) (hk : PySem.W.keepIn X.K (.ref f) = true) (hb : Binds X.K fd ps []) (tk : Takes X W)
    (hdb : (x == ("__debug__" : Str)) = false := by decide) : DE X T W (.Call (.Name x p) [] [] pos) (fun _ => sem []) := by
  refine ⟨fun pins s σ H Q I ⟨G, ι, st, env, w, r, q⟩ => ?_⟩
  refine wpAny_Call_Name_kw (ld_glob I hg hm ?_ hdb)
  exact PySem.W.callWith_K0 I.kIn hk (run_g (us := []) (E := WE W) F hr hb (passAt tk σ) I .nil ⟨G, ι, st, [], w, .nil, q⟩)
end

/-! ## The end of a law -/
theorem law_sp {K : PySem.W.Frag} {T : CT} {sem : List D → M D} {n : Nat} (h : ∀ ns : List Int, ns.length ≤ n → ∃ st, sem [.scr (ns.map D.int)] [] = .ok (.bl true) st) (H : Hp) (a : Addr) (ns : List Int) (hl : ns.length ≤ n) (hS : SqL K H a (ns.map V.int)) :
    spD K T sem [.ref a] H (fun v _ => v = .bl true) fun _ _ _ => False := by
  obtain ⟨st, e⟩ := h ns hl
  refine ⟨H, [], [], [.scr (ns.map D.int)], ⟨fun _ _ h => h, rfl, by simp, by simp, fun n a c h1 => by simp at h1⟩, .cons (.scr hS ?_) .nil, ?_⟩
  · clear e hl hS
    induction ns with
    | nil => exact .nil
    | cons i r ih => exact .cons (.int i) ih
  · rw [e]
    intro v G' ι' H' x w r
    cases r
    rfl
section
variable {P : Program} {w : World} {K : PySem.W.Frag} {mg mb : Str → Option Value} {k : Nat} {fa a : Addr} {fd : FuncData} {x : Str} {sp : Sp} {s₁ : Shared} {vs : List Value} {ns : List Int}
/-- from a heap in which nothing but the script may be tracked -/
theorem law_core (KX : K.In s₁.heap) (hns : s₁.heap.Ns mainGlobals mg) (hb : s₁.heap.Ns builtinsNs mb) (hbb : ∀ x : Str, x ≠ "__name__" → mb x = bootBuiltins x) (hlim : s₁.heap.NoLimit) (hg : s₁.gens = #[])
    (ha : s₁.heap.get? a = some { cls := .type "list", data := .seq vs.toArray }) (hr : RoomG k callerA) (F : ∀ base : Heap, K.In base → base.Ns mainGlobals mg → FnG P w K mg base k fa fd [x] sp) (hbind : ∀ (s : Shared) (u : Value), BindsTo s fd ⟨[u], []⟩ [(x, u)])
    {H : Hp} (hq : sp [.ref a] H (fun v _ => v = .bl true) fun _ _ _ => False) (hO : Only H) (hok : HOk P w H s₁.heap) (hA : ∀ b u, H b = some u → b = a) (hK : ∀ u, H a = some u → K.lookup a = none) :
    codeAny (model P w) callerA (.call (.ref fa) ⟨[.ref a], []⟩) (fun r s' => r = .ok (.ret (.bool true)) ∧ OldK s₁.heap s'.heap ∧ s'.os = s₁.os ∧ AllBare s'.gens) s₁ := by
  have free : ∀ {b : Addr} {o : Obj}, s₁.heap.get? b = some o → (∀ vs n, o.data ≠ .seq vs n) → H b = none := fun {b o} e d => by
    cases q : H b with
    | none => rfl
    | some u =>
      have e' := hA b u q
      subst e'
      rw [ha] at e
      cases e
      exact absurd rfl (d _ _)
  have ns_ : ∀ {b : Addr} {m : Str → Option Value}, s₁.heap.Ns b m → (hidT s₁.heap H).Ns b m := fun {b m} ⟨o, es, ep, e, d, r⟩ =>
    ⟨o, es, ep, hidT_get e (free e fun vs n z => by rw [d] at z; cases z), d, r⟩
  have kin : K.In (hidT s₁.heap H) := fun b o e => hidT_get (KX b o e) (by
    cases q : H b with
    | none => rfl
    | some u =>
      have e' := hA b u q
      subst e'
      rw [hK u q] at e
      cases e)
  have md : Mod K mg (hidT s₁.heap H) := ⟨kin, ns_ hns, ⟨mb, ns_ hb, hbb⟩, let ⟨mc, h1, h2⟩ := hlim; ⟨mc, ns_ h1, h2⟩⟩
  have nol : ∀ {b : Addr}, b ∈ frs [] → False := fun {b} z => by cases z
  have e0 : Env0 P w K mg (hidT s₁.heap H) callerA [] s₁ H := ⟨rfl, md, fun b o e => of_hidT e, by rw [hidT_size]; exact Nat.le_refl _, trivial, fun b z => (nol z).elim, hok, .of_eq hg⟩
  refine codeAny_mono ((F _ kin (ns_ hns)).run callerA [] s₁ H ⟨[.ref a], []⟩ [.ref a] [.ref a] _ _ hr e0 (hbind s₁ (.ref a)) (.cons rfl .nil) hq) fun r s' h => ?_
  match r, h with
  | .error e, h =>
    obtain ⟨_, _, _, _, _, _, _, _, _, _, _, _, z⟩ := h
    exact z.elim
  | .ok .next, h => exact False.elim h
  | .ok .brk, h => exact False.elim h
  | .ok .cont, h => exact False.elim h
  | .ok (.ret u), h =>
    obtain ⟨v, H', os, bare, un, hok', r', q⟩ := h
    have ev : v = .bl true := q
    subst ev
    have eu : u = Value.bool true := r'
    subst eu
    refine ⟨rfl, OldK.of_keep fun b o e => ?_, os, bare⟩
    cases q2 : H b with
    | none => exact un.keep b o e q2 (fun z => nol z) (by simp)
    | some u =>
      rcases hO b with z | ⟨ob, xs, z⟩
      · rw [q2] at z; cases z
      · obtain ⟨e1, _⟩ := hok b _ z
        obtain ⟨e2, _⟩ := hok' b _ (un.frzs b ob _ z)
        rw [e] at e1
        cases e1
        exact e2
theorem law_callG (KX : K.In s₁.heap) (hns : s₁.heap.Ns mainGlobals mg) (hb : s₁.heap.Ns builtinsNs mb) (hbb : ∀ x : Str, x ≠ "__name__" → mb x = bootBuiltins x) (hlim : s₁.heap.NoLimit) (hg : s₁.gens = #[])
    (ha : s₁.heap.get? a = some { cls := .type "list", data := .seq vs.toArray }) (hi : IntsAre vs ns) (hl : ns.length ≤ sizeLine) (hr : RoomG k callerA) (F : ∀ base : Heap, K.In base → base.Ns mainGlobals mg → FnG P w K mg base k fa fd [x] sp)
    (hbind : ∀ (s : Shared) (u : Value), BindsTo s fd ⟨[u], []⟩ [(x, u)]) (hsp : ∀ H : Hp, Only H → SqL K H a (ns.map V.int) → sp [.ref a] H (fun v _ => v = .bl true) fun _ _ _ => False) :
    codeAny (model P w) callerA (.call (.ref fa) ⟨[.ref a], []⟩) (fun r s' => r = .ok (.ret (.bool true)) ∧ OldK s₁.heap s'.heap ∧ s'.os = s₁.os ∧ AllBare s'.gens) s₁ := by
  have rv := vals_ints hi
  have lenV := hi.length
  cases hk : K.lookup a with
  | some o =>
    have e := KX a o hk
    rw [ha] at e
    cases e
    have hS : SqL K (fun _ => none) a (ns.map V.int) := .inr ⟨_, vs.toArray, _, hk, rfl, rfl, rfl, by rw [List.size_toArray, lenV]; exact hl, by simpa using rv⟩
    have hO : Only (fun _ => none) := fun _ => .inl rfl
    exact law_core KX hns hb hbb hlim hg ha hr F hbind (hsp _ hO hS) hO (fun b u z => nomatch (show (none : Option HO) = some u from z)) (fun b u z => nomatch (show (none : Option HO) = some u from z)) (fun u z => nomatch (show (none : Option HO) = some u from z))
  | none =>
    let ob : Obj := { cls := .type "list", data := .seq vs.toArray }
    let H : Hp := fun b => if b = a then some (.frz ob (.lst (ns.map V.int))) else none
    have at_ : H a = some (.frz ob (.lst (ns.map V.int))) := if_pos rfl
    have off : ∀ b, b ≠ a → H b = none := fun b hb => if_neg hb
    have hA : ∀ b u, H b = some u → b = a := fun b u z => by
      by_cases e : b = a
      · exact e
      · rw [off b e] at z; cases z
    have hO : Only H := fun b => by
      by_cases e : b = a
      · exact .inr ⟨_, _, if_pos e⟩
      · exact .inl (off b e)
    refine law_core KX hns hb hbb hlim hg ha hr F hbind (hsp H hO (.inl (.inr ⟨ob, at_⟩))) hO (fun b u z => ?_) hA fun _ _ => hk
    have e := hA b u z
    subst e
    rw [at_] at z
    cases z
    exact ⟨ha, by rw [List.length_map]; exact hl, vs, _, rv, ha⟩
end
theorem law_walk {l : PySem.W.OpenLaw} {q : Program} {loose : List Str} {XP : (Str → Option Value) → Heap → Prop} {YP : World → Heap → Prop} {d : DefRec} {K : Params → PySem.W.Frag} {sem : List D → M D} {n k : Nat} {x : Str} (hn : l.most = some n) (hn2 : n ≤ sizeLine) (hdf : d.params.defaults = []) (hr : RoomG k callerA)
    (hY : ∀ (w : World) (h : Heap), YP w h → (K w.params).In h)
    (F : ∀ (w : World) (mg : Str → Option Value) (fa : Addr) (h : Heap), (K w.params).In h → h.Ns mainGlobals mg → mg d.name = some (.ref fa) →
      ∃ fd : FuncData, (∀ (s : Shared) (u : Value), BindsTo s fd ⟨[u], []⟩ [(x, u)]) ∧ ∃ T : CT, ∀ base : Heap, (K w.params).In base → base.Ns mainGlobals mg → FnD l.prog w (K w.params) mg base T k fa fd [x] sem)
    (h : ∀ ns : List Int, ns.length ≤ n → ∃ st, sem [.scr (ns.map D.int)] [] = .ok (.bl true) st) :
    PySem.W.WalkO q loose XP YP l.row.toRowW d [] (fun f vs => PySem.call f vs) := by
  refine Att.attach_call hn hdf fun w s₀ s₁ mg mb fa o pm cd doc a vs ns G Y ho hd hcd hmg hobj hints hlen hg => ?_
  have KX := hY w _ Y
  obtain ⟨fd, hb, T, hF⟩ := F w mg fa _ KX G.T.g hmg
  exact law_callG KX G.T.g G.T.b G.T.builtins G.T.nolimit hg hobj hints (Nat.le_trans hlen hn2) hr hF hb fun H hO hS => law_sp h H a ns hlen hS
end L3
namespace L3
open PySem PySem.Spec PyProof.Rows L2

/-! ## Operations upon data -/
section
variable {X : Cx}
/-! ints -/
def opII (C : Int → Int → Bool) (g : Int → Int → D) (x y : D) : Option D := match x, y with
  | .int i, .int j => if C i j then some (g i j) else none
  | _, _ => none
theorem opII_of {f : Value → Value → Sem Value} {C' : Int → Int → Prop} {g' : Int → Int → V} {C : Int → Int → Bool} {g : Int → Int → D} (h : OpR X f (rI C' g')) (hc : ∀ i j, C i j = true → C' i j) (hg : ∀ G ι i j, DV X.K G ι (g' i j) (g i j)) : OpD X f (fun _ => opII C g) :=
  OpD.of h fun G ι st H x y dx dy Q w hx hy p => by
    unfold opII at p
    cases hx with
    | int i =>
      cases hy with
      | int j =>
        dsimp only at p
        by_cases hz : C i j = true
        · rw [if_pos hz] at p
          exact ⟨i, j, rfl, rfl, hc i j hz, p.val w (hg G ι i j)⟩
        · rw [if_neg hz] at p
          exact p.elim
      | _ => exact p.elim
    | _ => exact p.elim
theorem opII0_of {f : Value → Value → Sem Value} {g' : Int → Int → V} {g : Int → Int → D} (h : OpR X f (rI0 g')) (hg : ∀ G ι i j, DV X.K G ι (g' i j) (g i j)) : OpD X f (fun _ => opII (fun _ _ => true) g) :=
  OpD.of h fun G ι st H x y dx dy Q w hx hy p => by
    unfold opII at p
    cases hx with
    | int i =>
      cases hy with
      | int j =>
        dsimp only at p
        rw [if_pos rfl] at p
        exact ⟨i, j, rfl, rfl, p.val w (hg G ι i j)⟩
      | _ => exact p.elim
    | _ => exact p.elim
def cT (_ _ : Int) : Bool := true
def mulOk (i j : Int) : Bool := decide (i.natAbs.log2 + j.natAbs.log2 < 1000000)
def divOk (_ j : Int) : Bool := decide (0 < j) && decide (j.natAbs.log2 < 9000)
def modOk (_ j : Int) : Bool := decide (0 < j)
def powOk (i j : Int) : Bool := decide (0 ≤ j) && decide (((i.natAbs.log2 : Int) + 1) * j ≤ 134217728)
def addI : D → D → Option D := opII (fun _ _ => true) fun i j => .int (i + j)
def subI : D → D → Option D := opII (fun _ _ => true) fun i j => .int (i - j)
def mulI : D → D → Option D := opII mulOk fun i j => .int (i * j)
def fdivI : D → D → Option D := opII divOk fun i j => .int (i / j)
def modI : D → D → Option D := opII modOk fun i j => .int (i % j)
def powI : D → D → Option D := opII powOk fun i j => .int (i ^ j.toNat)
theorem od_addI : OpD X (binaryOp .Add) (fun _ => addI) := opII0_of op_add fun _ _ _ _ => .int _
theorem od_subI : OpD X (binaryOp .Sub) (fun _ => subI) := opII0_of op_sub fun _ _ _ _ => .int _
theorem od_mulI : OpD X (binaryOp .Mult) (fun _ => mulI) := opII_of op_mulW (fun i j h => (of_decide_eq_true h : i.natAbs.log2 + j.natAbs.log2 < 1000000)) fun _ _ _ _ => .int _
theorem od_fdivI : OpD X (binaryOp .FloorDiv) (fun _ => fdivI) := opII_of op_fdivW (fun i j h => by
  have h' : (decide (0 < j) && decide (j.natAbs.log2 < 9000)) = true := h
  rw [Bool.and_eq_true, decide_eq_true_eq, decide_eq_true_eq] at h'
  exact h') fun _ _ _ _ => .int _
theorem od_modI : OpD X (binaryOp .Mod) (fun _ => modI) := opII_of op_mod (fun i j h => of_decide_eq_true h) fun _ _ _ _ => .int _
theorem od_powI : OpD X (binaryOp .Pow) (fun _ => powI) := fun pins s σ H x y v u Q I rx ry ⟨G, ι, st, dx, dy, w, hx, hy, p⟩ => by
  unfold powI opII at p
  cases hx with
  | int i =>
    cases hy with
    | int j =>
      dsimp only at p
      by_cases hz : powOk i j = true
      · rw [if_pos hz] at p
        obtain ⟨t, rfl⟩ := rx
        obtain ⟨t', rfl⟩ := ry
        have h' : (decide (0 ≤ j) && decide (((i.natAbs.log2 : Int) + 1) * j ≤ 134217728)) = true := hz
        rw [Bool.and_eq_true, decide_eq_true_eq, decide_eq_true_eq] at h'
        have hb : (Builtin.Int.intBits i : Int) ≤ (i.natAbs.log2 : Int) + 1 := by
          unfold Builtin.Int.intBits
          split <;> omega
        refine PyProof.Rows.pow_int h'.1 ?_ ⟨.int _, H, I.tok _, ⟨_, rfl⟩, p.val w (.int _)⟩
        exact Int.le_trans (Int.mul_le_mul_of_nonneg_right hb h'.1) h'.2
      · rw [if_neg hz] at p
        exact p.elim
    | _ => exact p.elim
  | _ => exact p.elim
def ltI : D → D → Option D := opII (fun _ _ => true) fun i j => .bl (decide (i < j))
def leI : D → D → Option D := opII (fun _ _ => true) fun i j => .bl (decide (i ≤ j))
def gtI : D → D → Option D := opII (fun _ _ => true) fun i j => .bl (decide (j < i))
def geI : D → D → Option D := opII (fun _ _ => true) fun i j => .bl (decide (j ≤ i))
theorem od_ltI : OpD X (compareOp .Lt) (fun _ => ltI) := opII0_of op_lt fun _ _ _ _ => .bl _
theorem od_leI : OpD X (compareOp .LtE) (fun _ => leI) := opII0_of op_le fun _ _ _ _ => .bl _
theorem od_gtI : OpD X (compareOp .Gt) (fun _ => gtI) := opII0_of op_gt fun _ _ _ _ => .bl _
theorem od_geI : OpD X (compareOp .GtE) (fun _ => geI) := opII0_of op_ge fun _ _ _ _ => .bl _
def negI : D → Option D
  | .int i => some (.int (-i))
  | _ => none
theorem ud_neg : UnD X (unaryOp .USub) (fun _ => negI) := UnD.of un_neg fun G ι st H x dx Q w hx p => by
  cases hx with
  | int i => exact ⟨i, rfl, p.val w (.int _)⟩
  | _ => exact p.elim
/-! texts -/
def opSS (g : Str → Str → Option D) (x y : D) : Option D := match x, y with
  | .str i, .str j => g i j
  | _, _ => none
def addS : D → D → Option D := opSS fun i j => if fits (i.length + j.length) then some (.str (i ++ j)) else none
theorem od_addS : OpD X (binaryOp .Add) (fun _ => addS) := OpD.of op_add_str fun G ι st H x y dx dy Q w hx hy p => by
  unfold addS opSS at p
  cases hx with
  | str i =>
    cases hy with
    | str j =>
      dsimp only at p
      by_cases hz : fits (i.length + j.length) = true
      · rw [if_pos hz] at p
        exact ⟨i, j, rfl, rfl, fits_line hz, p.val w (.str _)⟩
      · rw [if_neg hz] at p
        exact p.elim
    | _ => exact p.elim
  | _ => exact p.elim
theorem opSS_of {f : Value → Value → Sem Value} {g' : Str → Str → Bool} (h : OpR X f (fun x y H Q => ∃ i j, x = .str i ∧ y = .str j ∧ Q (.bl (g' i j)) H)) : OpD X f (fun _ => opSS fun i j => some (.bl (g' i j))) :=
  OpD.of h fun G ι st H x y dx dy Q w hx hy p => by
    unfold opSS at p
    cases hx with
    | str i =>
      cases hy with
      | str j => exact ⟨i, j, rfl, rfl, p.val w (.bl _)⟩
      | _ => exact p.elim
    | _ => exact p.elim
def ltS : D → D → Option D := opSS fun i j => some (.bl (decide (i.cps.toList < j.cps.toList)))
def leS : D → D → Option D := opSS fun i j => some (.bl (!decide (j.cps.toList < i.cps.toList)))
def gtS : D → D → Option D := opSS fun i j => some (.bl (decide (j.cps.toList < i.cps.toList)))
def geS : D → D → Option D := opSS fun i j => some (.bl (!decide (i.cps.toList < j.cps.toList)))
def inS : D → D → Option D := opSS fun i j => some (.bl (!(Builtin.Str.occurrences j i 0 j.length 1).isEmpty))
def notInS : D → D → Option D := opSS fun i j => some (.bl (!(!(Builtin.Str.occurrences j i 0 j.length 1).isEmpty)))
theorem od_ltS : OpD X (compareOp .Lt) (fun _ => ltS) := opSS_of op_lt_str
theorem od_leS : OpD X (compareOp .LtE) (fun _ => leS) := opSS_of op_le_str
theorem od_gtS : OpD X (compareOp .Gt) (fun _ => gtS) := opSS_of op_gt_str
theorem od_geS : OpD X (compareOp .GtE) (fun _ => geS) := opSS_of op_ge_str
theorem od_inS : OpD X (compareOp .In) (fun _ => inS) := opSS_of op_in_str
theorem od_notInS : OpD X (compareOp .NotIn) (fun _ => notInS) := opSS_of op_notin_str
/-! lists, tuples -/
def addT (x y : D) : Option D := match x, y with
  | .tup xs, .tup ys => if fits (xs.length + ys.length) then some (.tup (xs ++ ys)) else none
  | _, _ => none
theorem od_addT : OpD X (binaryOp .Add) (fun _ => addT) := OpD.of op_catA fun G ι st H x y dx dy Q w hx hy p => by
  unfold addT at p
  cases hx with
  | @tup a vs xs q hs =>
    cases hy with
    | @tup b ws ys q2 hs2 =>
      dsimp only at p
      by_cases hz : fits (xs.length + ys.length) = true
      · rw [if_pos hz] at p
        refine ⟨a, b, vs, ws, rfl, rfl, w.same.tup q, w.same.tup q2, by rw [hs.length, hs2.length]; exact fits_line hz, fun e => ?_, fun e e2 => ?_, fun e e2 l hl => ?_⟩
        · subst e
          cases hs
          exact p.val w (.tup q2 hs2)
        · subst e2
          cases hs2
          rw [List.append_nil] at p
          exact p.val w (.tup q hs)
        · exact p.fresh w hl (dv_tup w hl (hs.append hs2))
      · rw [if_neg hz] at p
        exact p.elim
    | _ => exact p.elim
  | _ => exact p.elim
def addL (st : Sto) (x y : D) : Option D := match slsOf st x, slsOf st y with
  | some xs, some ys => if fits (xs.length + ys.length) then some (.lst (xs ++ ys)) else none
  | _, _ => none
theorem od_addL : OpD X (binaryOp .Add) addL := OpD.of op_cat fun G ι st H x y dx dy Q w hx hy p => by
  unfold addL at p
  cases e1 : slsOf st dx with
  | none => rw [e1] at p; exact p.elim
  | some xs =>
    cases e2 : slsOf st dy with
    | none => rw [e1, e2] at p; exact p.elim
    | some ys =>
      rw [e1, e2] at p
      dsimp only at p
      obtain ⟨a, vs, e3, h3, r3⟩ := sls_at w hx e1
      obtain ⟨b, ws, e4, h4, r4⟩ := sls_at w hy e2
      by_cases hz : fits (xs.length + ys.length) = true
      · rw [if_pos hz] at p
        exact ⟨a, b, vs, ws, e3, e4, h3, h4, by rw [r3.length, r4.length]; exact fits_line hz, fun l hl => p.fresh w hl (dv_lst w hl (r3.append r4))⟩
      · rw [if_neg hz] at p
        exact p.elim
def addD (st : Sto) (x y : D) : Option D := orO (addI x y) (orO (addS x y) (orO (addT x y) (addL st x y)))
theorem od_add : OpD X (binaryOp .Add) addD := od_addI.or (od_addS.or (od_addT.or od_addL))
def repL (st : Sto) (x y : D) : Option D := match slsOf st x, y with
  | some xs, .int k => if decide (-(2 ^ 63) ≤ k) && (decide (k < 2 ^ 63) && fits (xs.length * k.toNat)) then some (.lst (List.replicate k.toNat xs).flatten) else none
  | _, _ => none
theorem DVs.flatten {K : PySem.W.Frag} {G : Hp} {ι : List Addr} {vs : List V} {ds : List D} (r : DVs K G ι vs ds) : ∀ n : Nat, DVs K G ι (List.replicate n vs).flatten (List.replicate n ds).flatten
  | 0 => .nil
  | n + 1 => by
    rw [List.replicate_succ, List.replicate_succ, List.flatten_cons, List.flatten_cons]
    exact r.append (DVs.flatten r n)
theorem od_repL : OpD X (binaryOp .Mult) repL := OpD.of op_rep fun G ι st H x y dx dy Q w hx hy p => by
  unfold repL at p
  cases e1 : slsOf st dx with
  | none => rw [e1] at p; exact p.elim
  | some xs =>
    rw [e1] at p
    obtain ⟨a, vs, e3, h3, r3⟩ := sls_at w hx e1
    cases hy with
    | int k =>
      dsimp only at p
      by_cases hz : (decide (-(2 ^ 63) ≤ k) && (decide (k < 2 ^ 63) && fits (xs.length * k.toNat))) = true
      · rw [if_pos hz] at p
        rw [Bool.and_eq_true, Bool.and_eq_true, decide_eq_true_eq, decide_eq_true_eq] at hz
        exact ⟨a, k, vs, e3, rfl, h3, hz.1, hz.2.1, by rw [r3.length]; exact fits_line hz.2.2, fun l hl => p.fresh w hl (dv_lst w hl (r3.flatten _))⟩
      · rw [if_neg hz] at p
        exact p.elim
    | _ => exact p.elim
def mulD (st : Sto) (x y : D) : Option D := orO (mulI x y) (repL st x y)
theorem od_mul : OpD X (binaryOp .Mult) mulD := od_mulI.or od_repL
end

/-! ## Data as the library's own -/
mutual
def D.py : D → Option PyData
  | .non => some .none
  | .bl b => some (.bool b)
  | .int i => some (.int i)
  | .str x => some (.str x)
  | .tup xs => (D.pys xs).map .tuple
  | .lst xs => (D.pys xs).map .list
  | .scr xs => (D.pys xs).map .list
  | .dic _ => none
  | .cell _ => none
def D.pys : List D → Option (List PyData)
  | [] => some []
  | x :: xs => (D.py x).bind fun p => (D.pys xs).map fun ps => p :: ps
end
def topPy (st : Sto) (d : D) : Option PyData := match d with
  | .cell n => (lstOf st (.cell n)).bind fun xs => (D.pys xs).map .list
  | d => d.py
section
variable {K : PySem.W.Frag} {G : Hp} {ι : List Addr} {H : Hp} {st : Sto}
mutual
theorem dp_of (w : Same G H) : ∀ {v : V} {d : D} {p : PyData}, DV K G ι v d → D.py d = some p → Dp K H v p
  | _, _, _, .non, h => by rw [D.py] at h; cases h; exact .non
  | _, _, _, .bl b, h => by rw [D.py] at h; cases h; exact .bl b
  | _, _, _, .int i, h => by rw [D.py] at h; cases h; exact .int i
  | _, _, _, .str x, h => by rw [D.py] at h; cases h; exact .str x
  | _, .tup xs, _, .tup q hs, h => by
    rw [D.py] at h
    cases e : D.pys xs with
    | none => rw [e] at h; cases h
    | some ps => rw [e] at h; cases h; exact .tup (w.tup q) (dps_of w hs e)
  | _, .lst xs, _, .lst q hs, h => by
    rw [D.py] at h
    cases e : D.pys xs with
    | none => rw [e] at h; cases h
    | some ps => rw [e] at h; cases h; exact .lst (.of (w _ _ q)) (dps_of w hs e)
  | _, .scr xs, _, .scr q hs, h => by
    rw [D.py] at h
    cases e : D.pys xs with
    | none => rw [e] at h; cases h
    | some ps => rw [e] at h; cases h; exact .lst (w.seq q) (dps_of w hs e)
  | _, _, _, .dic _ _, h => by rw [D.py] at h; cases h
  | _, _, _, .cell _, h => by rw [D.py] at h; cases h
theorem dps_of (w : Same G H) : ∀ {v : List V} {d : List D} {p : List PyData}, DVs K G ι v d → D.pys d = some p → DpAll K H v p
  | _, _, _, .nil, h => by rw [D.pys] at h; cases h; exact .nil
  | _, x :: xs, _, .cons r rs, h => by
    rw [D.pys] at h
    cases e : D.py x with
    | none => rw [e] at h; cases h
    | some p =>
      rw [e] at h
      cases e2 : D.pys xs with
      | none => rw [Option.bind_some, e2] at h; cases h
      | some ps => rw [Option.bind_some, e2] at h; cases h; exact .cons (dp_of w r e) (dps_of w rs e2)
end
theorem dp_top (w : WH K G ι st H) {v : V} {d : D} {p : PyData} (r : DV K G ι v d) (h : topPy st d = some p) : Dp K H v p := by
  cases d with
  | cell n =>
    unfold topPy at h
    dsimp only at h
    cases e : lstOf st (.cell n) with
    | none => rw [e] at h; cases h
    | some xs =>
      rw [e, Option.bind_some] at h
      cases e2 : D.pys xs with
      | none => rw [e2] at h; cases h
      | some ps =>
        rw [e2] at h
        cases h
        obtain ⟨a, vs, e3, h3, r3⟩ := lst_atS w r e
        rw [e3]
        have sm : DpAll K H vs ps := dps_of w.same r3 e2
        exact .lst h3 sm
  | _ => exact dp_of w.same r h
end
def eqP (st : Sto) (x y : D) : Option D := (topPy st x).bind fun p => (topPy st y).bind fun q => if SeqAt.shaped p && SeqAt.shaped q then some (.bl (PyData.eqv p q)) else none
def neP (st : Sto) (x y : D) : Option D := (topPy st x).bind fun p => (topPy st y).bind fun q => if SeqAt.shaped p && SeqAt.shaped q then some (.bl (!PyData.eqv p q)) else none
def reprD (st : Sto) (xs : List D) : Option D := match xs with
  | [x] => (topPy st x).bind fun p => if p.showable && (!p.hasDict && (decide (p.depth ≤ 64) && fits p.shown.length)) then some (.str p.shown) else none
  | _ => none
section
variable {X : Cx} {k : Nat}
theorem od_eqP (hr : RoomG k X.A) : OpD X (compareOp .Eq) eqP := OpD.of (op_eqD hr.r.units) fun G ι st H x y dx dy Q w hx hy p => by
  unfold eqP at p
  cases e1 : topPy st dx with
  | none => rw [e1] at p; exact p.elim
  | some a =>
    cases e2 : topPy st dy with
    | none => rw [e1, e2] at p; exact p.elim
    | some b =>
      rw [e1, e2, Option.bind_some, Option.bind_some] at p
      by_cases hz : (SeqAt.shaped a && SeqAt.shaped b) = true
      · rw [if_pos hz] at p
        rw [Bool.and_eq_true] at hz
        exact ⟨a, b, dp_top w hx e1, dp_top w hy e2, hz.1, hz.2, p.val w (.bl _)⟩
      · rw [if_neg hz] at p
        exact p.elim
theorem od_neP (hr : RoomG k X.A) : OpD X (compareOp .NotEq) neP := OpD.of (op_neD hr.r.units) fun G ι st H x y dx dy Q w hx hy p => by
  unfold neP at p
  cases e1 : topPy st dx with
  | none => rw [e1] at p; exact p.elim
  | some a =>
    cases e2 : topPy st dy with
    | none => rw [e1, e2] at p; exact p.elim
    | some b =>
      rw [e1, e2, Option.bind_some, Option.bind_some] at p
      by_cases hz : (SeqAt.shaped a && SeqAt.shaped b) = true
      · rw [if_pos hz] at p
        rw [Bool.and_eq_true] at hz
        exact ⟨a, b, dp_top w hx e1, dp_top w hy e2, hz.1, hz.2, p.val w (.bl _)⟩
      · rw [if_neg hz] at p
        exact p.elim
end
def eqS : D → D → Option D
  | .int i, .int j => some (.bl (decide (i = j)))
  | .str x, .str y => some (.bl (decide (x = y)))
  | _, _ => none
def neS : D → D → Option D
  | .int i, .int j => some (.bl (!decide (i = j)))
  | .str x, .str y => some (.bl (!decide (x = y)))
  | _, _ => none
theorem dec_int (i j : Int) : decide (V.int i = V.int j) = decide (i = j) := decide_eq_decide.mpr ⟨fun h => by cases h; rfl, fun h => by rw [h]⟩
theorem dec_str (i j : Str) : decide (V.str i = V.str j) = decide (i = j) := decide_eq_decide.mpr ⟨fun h => by cases h; rfl, fun h => by rw [h]⟩
theorem od_eqS {X : Cx} : OpD X (compareOp .Eq) (fun _ => eqS) := OpD.of op_eq fun G ι st H x y dx dy Q w hx hy p => by
  cases hx with
  | int i =>
    cases hy with
    | int j => exact ⟨rfl, by rw [L3.dec_int]; exact p.val w (.bl _)⟩
    | _ => exact p.elim
  | str i =>
    cases hy with
    | str j => exact ⟨rfl, by rw [L3.dec_str]; exact p.val w (.bl _)⟩
    | _ => exact p.elim
  | _ => exact p.elim
theorem od_neS {X : Cx} : OpD X (compareOp .NotEq) (fun _ => neS) := OpD.of op_ne fun G ι st H x y dx dy Q w hx hy p => by
  cases hx with
  | int i =>
    cases hy with
    | int j => exact ⟨rfl, by rw [L3.dec_int]; exact p.val w (.bl _)⟩
    | _ => exact p.elim
  | str i =>
    cases hy with
    | str j => exact ⟨rfl, by rw [L3.dec_str]; exact p.val w (.bl _)⟩
    | _ => exact p.elim
  | _ => exact p.elim
def eqD (st : Sto) (x y : D) : Option D := orO (eqS x y) (eqP st x y)
def neD (st : Sto) (x y : D) : Option D := orO (neS x y) (neP st x y)
theorem od_eq {X : Cx} {k : Nat} (hr : RoomG k X.A) : OpD X (compareOp .Eq) eqD := od_eqS.or (od_eqP hr)
theorem od_ne {X : Cx} {k : Nat} (hr : RoomG k X.A) : OpD X (compareOp .NotEq) neD := od_neS.or (od_neP hr)
section
variable {X : Cx} {k : Nat}
theorem cd_repr (hr : RoomG k X.A) : CallD X (.builtin "repr") reprD := fun pins s σ H xs us Q I rx ⟨G, ι, st, ds, w, hx, p⟩ => by
  unfold reprD at p
  cases hx with
  | nil => exact p.elim
  | @cons v d vs ds r rs =>
    cases rs with
    | cons _ _ => exact p.elim
    | nil =>
      dsimp only at p
      cases e1 : topPy st d with
      | none => rw [e1] at p; exact p.elim
      | some a =>
        rw [e1, Option.bind_some] at p
        by_cases hz : (a.showable && (!a.hasDict && (decide (a.depth ≤ 64) && fits a.shown.length))) = true
        · rw [if_pos hz] at p
          rw [Bool.and_eq_true, Bool.and_eq_true, Bool.and_eq_true, decide_eq_true_eq] at hz
          obtain ⟨h1, h2, h3, h4⟩ := hz
          have nd : a.hasDict = false := by simpa using h2
          have hl := fits_line h4
          have fin : ∀ t : Nat, EP X pins σ Q (.str a.shown t) { s with toks := t + 1 } := fun t => ⟨.str _, H, I.tok _, ⟨_, rfl⟩, p.val w (.str _)⟩
          obtain ⟨u, rfl, ru⟩ := vals1 rx
          have dp := dp_top w r e1
          obtain ⟨as, rd⟩ := Dp.reads I a v u dp ru
          cases rd with
          | none => exact PySem.P.repr_of_none ⟨.str _, H, I.tok _, ⟨_, rfl⟩, p.val w (.str _)⟩
          | bool b => exact PySem.P.repr_of_bool ⟨.str _, H, I.tok _, ⟨_, rfl⟩, p.val w (.str _)⟩
          | int i t =>
            have hi : i.natAbs.log2 < 1920 := of_decide_eq_true h1
            exact PySem.P.repr_of_int hi ⟨.str _, H, I.tok _, ⟨_, rfl⟩, p.val w (.str _)⟩
          | str z t => exact PySem.P.repr_of_str ⟨.str _, H, I.tok _, ⟨_, rfl⟩, p.val w (.str _)⟩ hl
          | list a1 a2 a3 a4 =>
            refine repr_of_reads' (.list a1 a2 a3 a4) h1 (PyData.noDict_hsm nd) hr.g (by have := hr.r.un; omega) (fun b o e => e) (fun h' t tk hk => ?_) hl
            exact ⟨.str _, H, I.kept hk, ⟨_, rfl⟩, p.val w (.str _)⟩
          | tuple a1 a2 a3 a4 =>
            refine repr_of_reads' (.tuple a1 a2 a3 a4) h1 (PyData.noDict_hsm nd) hr.g (by have := hr.r.un; omega) (fun b o e => e) (fun h' t tk hk => ?_) hl
            exact ⟨.str _, H, I.kept hk, ⟨_, rfl⟩, p.val w (.str _)⟩
          | dict => cases nd
        · rw [if_neg hz] at p
          exact p.elim
end
end L3
namespace L3
open PySem PySem.Spec PyProof.Rows L2

/-! ## Items -/
section
variable {X : Cx} {T : CT} {W : WX} {k : Nat}
theorem atI_dvs {K : PySem.W.Frag} {G : Hp} {ι : List Addr} {vs : List V} {ds : List D} {i : Int} {d : D} (r : DVs K G ι vs ds) (h : atI ds i = some d) : ∃ v, atI vs i = some v ∧ DV K G ι v d := by
  unfold atI at h ⊢
  rw [r.length]
  cases e : ixN ds.length i with
  | none => rw [e] at h; cases h
  | some j => rw [e, Option.bind_some] at h; exact r.get h
def ixL (st : Sto) (x y : D) : Option D := match lstOf st x, y with
  | some xs, .int i => atI xs i
  | _, _ => none
theorem xd_ixL : IxD X ixL := IxD.of ix_list fun G ι st H x y dx dy Q w hx hy p => by
  unfold ixL at p
  cases e1 : lstOf st dx with
  | none => rw [e1] at p; exact p.elim
  | some xs =>
    rw [e1] at p
    obtain ⟨a, vs, e3, h3, r3⟩ := lst_atS w hx e1
    cases hy with
    | int i =>
      dsimp only at p
      cases e2 : atI xs i with
      | none => rw [e2] at p; exact p.elim
      | some d =>
        rw [e2] at p
        obtain ⟨v, e4, r4⟩ := atI_dvs r3 e2
        exact ⟨a, vs, i, v, e3, rfl, h3, e4, p.val w r4⟩
    | _ => exact p.elim
def ixT (x y : D) : Option D := match x, y with
  | .tup xs, .int i => atI xs i
  | _, _ => none
theorem xd_ixT : IxD X (fun _ => ixT) := IxD.of ix_tup fun G ι st H x y dx dy Q w hx hy p => by
  unfold ixT at p
  cases hx with
  | @tup a vs xs q hs =>
    cases hy with
    | int i =>
      dsimp only at p
      cases e2 : atI xs i with
      | none => rw [e2] at p; exact p.elim
      | some d =>
        rw [e2] at p
        obtain ⟨v, e4, r4⟩ := atI_dvs hs e2
        exact ⟨a, vs, i, v, rfl, rfl, w.same.tup q, e4, p.val w r4⟩
    | _ => exact p.elim
  | _ => exact p.elim
def ixS (x y : D) : Option D := match x, y with
  | .str z, .int i => if fits z.length then (atI z.cps.toList i).map fun c => .str ⟨#[c]⟩ else none
  | _, _ => none
theorem xd_ixS : IxD X (fun _ => ixS) := IxD.of ix_str fun G ι st H x y dx dy Q w hx hy p => by
  unfold ixS at p
  cases hx with
  | str z =>
    cases hy with
    | int i =>
      dsimp only at p
      by_cases hz : fits z.length = true
      · rw [if_pos hz] at p
        cases e2 : atI z.cps.toList i with
        | none => rw [e2] at p; exact p.elim
        | some c =>
          rw [e2] at p
          exact ⟨z, i, c, rfl, rfl, fits_line hz, e2, p.val w (.str _)⟩
      · rw [if_neg hz] at p
        exact p.elim
    | _ => exact p.elim
  | _ => exact p.elim
def ixD (st : Sto) (x y : D) : Option D := orO (ixT x y) (orO (ixL st x y) (ixS x y))
theorem xd_ix : IxD X ixD := xd_ixT.or (xd_ixL.or xd_ixS)

/-! ## o[i] = v -/
def setIx (st : Sto) (o i v : D) : Option Sto := match o, i with
  | .cell n, .int k => (match st[n]? with
    | some (.lst xs) => (ixN xs.length k).map fun j => st.set n (.lst (xs.set j v))
    | _ => none)
  | _, _ => none
def sSub (mo mi mv : EM) (g : Sto → D → D → D → Option Sto) : SM := sE mv fun v => sE mo fun o => sE mi fun i env st => match g st o i v with
  | some s => .nx env s
  | none => .bad
theorem ds_setL {o i e : Expr} {mo mi mv : EM} {tpos pos : Pos} (ho : DE X T W o mo) (hi : DE X T W i mi) (hv : DE X T W e mv)
    (ha : ∀ v, assign (.Subscript o i tpos) X.env v = (do
      let ov ← holding [v] (eval o X.env)
      let iv ← holding [v, ov] (eval i X.env)
      standAt tpos
      holding [v, ov, iv] (setItem ov iv v)
      release [v, ov, iv] []) := by intro _; rfl)
    (hs : swapsWithSole [.Subscript o i tpos] e pos.line X.env = pure false := by rfl) (hw : swappedStores [.Subscript o i tpos] e X.env = pure none := by rfl)
    (h1 : (assignEach [.Subscript o i tpos] X.env).map (·.2) = [assign (.Subscript o i tpos) X.env] := by rfl) : DS X T W (.Assign [.Subscript o i tpos] e pos) (sSub mo mi mv setIx) :=
  DS.of (ps_asg hv (pg_sub ho hi set_list ha) hs hw h1) fun Dd σ H G ι st env w r p => ⟨G, ι, st, env, w, r, PostS.bindE r p fun v st1 vv G1 ι1 H1 x1 w1 r1 p1 =>
    ⟨G1, ι1, st1, env, w1, r.mono x1, PostS.bindE (r.mono x1) p1 fun o st2 vo G2 ι2 H2 x2 w2 r2 p2 =>
      ⟨G2, ι2, st2, env, w2, (r.mono x1).mono x2, PostS.bindE ((r.mono x1).mono x2) p2 fun i st3 vi G3 ι3 H3 x3 w3 r3 p3 => by
        have ro := x3.dv r2
        have rv := x3.dv (x2.dv r1)
        have re := ((r.mono x1).mono x2).mono x3
        unfold setIx at p3
        cases ro with
        | @cell n a q =>
          cases r3 with
          | int k =>
            dsimp only at p3
            cases e1 : st3[n]? with
            | none => rw [e1] at p3; exact p3.elim
            | some c =>
              cases c with
              | dic _ => rw [e1] at p3; exact p3.elim
              | gone => rw [e1] at p3; exact p3.elim
              | lst xs =>
                rw [e1] at p3
                dsimp only at p3
                cases e2 : ixN xs.length k with
                | none => rw [e2] at p3; exact p3.elim
                | some j =>
                  rw [e2] at p3
                  dsimp only [Option.map] at p3
                  have z : G3 a = none ∧ ∃ vs, H3 a = some (.lst vs) ∧ DVs X.K G3 ι3 vs xs := w3.cells n a _ q e1
                  obtain ⟨g, vs, e4, r4⟩ := z
                  refine ⟨a, vs, k, j, rfl, rfl, e4, by rw [r4.length]; exact e2, ?_⟩
                  have cr : CellR X.K G3 ι3 (upd H3 a (.lst (vs.set j vv))) a (.lst (xs.set j v)) := ⟨g, _, upd_same, DVs.set rv j r4⟩
                  have xx : Ext ι3 ι3 H3 (upd H3 a (.lst (vs.set j vv))) G3 G3 := WH.putExt q
                  exact p3 σ _ _ _ xx (w3.put q g cr) (re.mono xx)
          | _ => exact p3.elim
        | _ => exact p3.elim⟩⟩⟩
end

/-! ## Built-in functions -/
section
variable {X : Cx} {T : CT} {W : WX} {k : Nat}
def absD (_ : Sto) (xs : List D) : Option D := match xs with
  | [.int i] => some (.int (if i < 0 then -i else i))
  | _ => none
theorem one_int {K : PySem.W.Frag} {G : Hp} {ι : List Addr} {xs : List V} {i : Int} (h : DVs K G ι xs [.int i]) : xs = [.int i] := by
  cases h with
  | cons r rs => cases r; cases rs; rfl
theorem two_int {K : PySem.W.Frag} {G : Hp} {ι : List Addr} {xs : List V} {i j : Int} (h : DVs K G ι xs [.int i, .int j]) : xs = [.int i, .int j] := by
  cases h with
  | cons r rs =>
    cases r
    rw [one_int rs]
theorem cd_abs : CallD X (.builtin "abs") absD := CallD.of call_abs fun G ι st H xs ds Q w hx p => by
  unfold absD at p
  split at p
  · exact ⟨_, one_int hx, p.val w (.int _)⟩
  · exact p.elim
def maxD (_ : Sto) (xs : List D) : Option D := match xs with
  | [.int i, .int j] => some (.int (if j > i then j else i))
  | _ => none
def minD (_ : Sto) (xs : List D) : Option D := match xs with
  | [.int i, .int j] => some (.int (if j < i then j else i))
  | _ => none
theorem cd_max (hc : X.calm = true) : CallD X (.builtin "max") maxD := CallD.of (call_max2 hc) fun G ι st H xs ds Q w hx p => by
  unfold maxD at p
  split at p
  · exact ⟨_, _, two_int hx, p.val w (.int _)⟩
  · exact p.elim
theorem cd_min (hc : X.calm = true) : CallD X (.builtin "min") minD := CallD.of (call_min2 hc) fun G ι st H xs ds Q w hx p => by
  unfold minD at p
  split at p
  · exact ⟨_, _, two_int hx, p.val w (.int _)⟩
  · exact p.elim
def intD (_ : Sto) (xs : List D) : Option D := match xs with
  | [.int i] => some (.int i)
  | [.bl b] => some (.int (if b then 1 else 0))
  | _ => none
theorem cd_int : CallD X (.type "int") intD := CallD.of call_int1 fun G ι st H xs ds Q w hx p => by
  unfold intD at p
  split at p
  · exact .inl ⟨_, one_int hx, p.val w (.int _)⟩
  · cases hx with
    | cons r rs => cases r; cases rs; exact .inr ⟨_, rfl, p.val w (.int _)⟩
  · exact p.elim
def strI (_ : Sto) (xs : List D) : Option D := match xs with
  | [.int i] => if decide (i.natAbs.log2 < 1920) then some (.str (toString i)) else none
  | _ => none
theorem cd_strI : CallD X (.type "str") strI := CallD.of call_str_int fun G ι st H xs ds Q w hx p => by
  unfold strI at p
  split at p
  · rename_i i
    by_cases hz : i.natAbs.log2 < 1920
    · rw [if_pos (decide_eq_true hz)] at p
      exact ⟨_, one_int hx, hz, p.val w (.str _)⟩
    · rw [if_neg (by simpa using hz)] at p
      exact p.elim
  · exact p.elim
def lenD (st : Sto) (xs : List D) : Option D := match xs with
  | [.str z] => if fits z.length then some (.int z.length) else none
  | [.tup ys] => some (.int ys.length)
  | [x] => (lstOf st x).map fun ys => .int ys.length
  | _ => none
theorem cd_len : CallD X (.builtin "len") lenD := CallD.of call_len fun G ι st H xs ds Q w hx p => by
  unfold lenD at p
  split at p
  · rename_i z
    by_cases hz : fits z.length = true
    · rw [if_pos hz] at p
      cases hx with
      | cons r rs => cases r; cases rs; exact ⟨.str z, z.length, rfl, ⟨fits_line hz, rfl⟩, p.val w (.int _)⟩
    · rw [if_neg hz] at p
      exact p.elim
  · cases hx with
    | cons r rs =>
      cases rs
      cases r with
      | @tup a vs ys q hs => exact ⟨.ref a, vs.length, rfl, .inr ⟨vs, w.same.tup q, rfl⟩, by rw [hs.length]; exact p.val w (.int _)⟩
  · rename_i x _ _
    cases hx with
    | cons r rs =>
      cases rs
      cases e : lstOf st x with
      | none => rw [e] at p; exact p.elim
      | some ys =>
        rw [e] at p
        obtain ⟨a, vs, e3, h3, r3⟩ := lst_atS w r e
        subst e3
        exact ⟨.ref a, vs.length, rfl, .inl ⟨vs, h3, rfl⟩, by rw [r3.length]; exact p.val w (.int _)⟩
  · exact p.elim
/-! isinstance(x, T), T a built-in class -/
def tyN (st : Sto) : D → String
  | .non => "NoneType"
  | .bl _ => "bool"
  | .int _ => "int"
  | .str _ => "str"
  | .tup _ => "tuple"
  | .lst _ => "list"
  | .scr _ => "list"
  | .dic _ => "dict"
  | .cell n => match st[n]? with
    | some (.lst _) => "list"
    | some (.dic _) => "dict"
    | _ => ""
theorem tyx_of {K : PySem.W.Frag} {G : Hp} {ι : List Addr} {H : Hp} {st : Sto} (w : WH K G ι st H) {v : V} {d : D} (r : DV K G ι v d) (hn : tyN st d ≠ "") : TyX K H v (.type (tyN st d)) := by
  cases r with
  | non => exact .base .non
  | bl b => exact .base (.bl b)
  | int i => exact .base (.int i)
  | str x => exact .base (.str x)
  | tup q hs =>
    rcases w.same.tup q with (h | ⟨o, h⟩) | ⟨o, its, n, h1, h2, _⟩
    · exact .base (.tup h)
    · exact .fTuple h
    · exact .kTuple h1 h2
  | lst q hs => exact .base (.lst (w.same _ _ q))
  | scr q hs =>
    rcases w.same.seq q with (h | ⟨o, h⟩) | ⟨o, its, n, h1, h2, _⟩
    · exact .base (.lst h)
    · exact .base (.frz h)
    · exact .kList h1 h2
  | dic q hs => exact .base (.dK (w.same _ _ q))
  | @cell n a q =>
    unfold tyN at hn ⊢
    dsimp only at hn ⊢
    cases e : st[n]? with
    | none => rw [e] at hn; exact absurd rfl hn
    | some c =>
      rw [e] at hn
      cases c with
      | gone => exact absurd rfl hn
      | lst ds =>
        have z : ∃ vs, H a = some (.lst vs) ∧ DVs K G ι vs ds := (w.cells n a _ q e).2
        obtain ⟨vs, e1, _⟩ := z
        exact .base (.lst e1)
      | dic ds =>
        have z : ∃ vs, H a = some (.dK vs) ∧ DVk K G ι vs ds := (w.cells n a _ q e).2
        obtain ⟨vs, e1, _⟩ := z
        exact .base (.dK e1)
def eIsi (T' : String) (a : EM) : EM := fun env => M.bind (a env) fun x => M.rd fun st => if tyN st x = "" then none else (kitB (tyN st x) T').map .bl
theorem de_isi {x : Str} {T' : String} {a : Expr} {ma : EM} {p p2 pos : Pos} (hg : Gl X "isinstance") (hm : X.mg "isinstance" = none) (hv : bootBuiltins "isinstance" = some (.builtin "isinstance")) (ha : DE X T W a ma) (gT : Gl X x) (mT : X.mg x = none) (vT : bootBuiltins x = some (.type T')) (nT : x ≠ "__name__" := by decide) (dT : (x == ("__debug__" : Str)) = false := by decide)
    (hn : ("isinstance" : Str) ≠ "__name__" := by decide) (hdb : (("isinstance" : Str) == ("__debug__" : Str)) = false := by decide)
    (h1 : starEach (a :: [.Name x p2]) X.env = (false, eval a X.env) :: starEach [.Name x p2] X.env := by rfl) (h2 : starEach (.Name x p2 :: []) X.env = (false, eval (.Name x p2) X.env) :: starEach [] X.env := by rfl)
    (hpl : (backTo pos (starEach [.Name x p2] X.env)).any (·.1) = false := by rfl) : DE X T W (.Call (.Name "isinstance" p) [a, .Name x p2] [] pos) (eIsi T' ma) :=
  DE.of (pe_callB call_isi hg hm hv (pa_cons ha (pa_cons (pe_bltn (v := .ty T') gT mT vT rfl nT dT) pa_nil h2) h1) hn hdb h1 hpl) fun σ H Q G ι st env w r p => ⟨G, ι, st, env, w, r, p.bind fun d st1 v G1 ι1 H1 x1 w1 r1 p1 => by
    have p2 := p1.rd
    by_cases hz : tyN st1 d = ""
    · rw [if_pos hz] at p2
      exact p2.elim
    · rw [if_neg hz] at p2
      cases e : kitB (tyN st1 d) T' with
      | none => rw [e] at p2; exact p2.elim
      | some b =>
        rw [e] at p2
        exact ⟨v, .ty T', _, _, b, rfl, .ty T', tyx_of w1 r1 hz, kit_ty e, p2.val w1 (.bl b)⟩⟩
end
/-- a module's own number -/
theorem de_globI {X : Cx} {T : CT} {W : WX} {x : Str} {i : Int} {tk : Tok} {pos : Pos} (hg : Gl X x) (hm : X.mg x = some (.int i tk)) (hd : (x == ("__debug__" : Str)) = false := by decide) : DE X T W (.Name x pos) (eC (.int i)) := de_c (pe_glob (v := .int i) hg hm ⟨tk, rfl⟩ hd) fun _ _ => .int i
theorem de_globS {X : Cx} {T : CT} {W : WX} {x : Str} {z : Str} {tk : Tok} {pos : Pos} (hg : Gl X x) (hm : X.mg x = some (.str z tk)) (hd : (x == ("__debug__" : Str)) = false := by decide) : DE X T W (.Name x pos) (eC (.str z)) := de_c (pe_glob (v := .str z) hg hm ⟨tk, rfl⟩ hd) fun _ _ => .str z
theorem de_globT {X : Cx} {T : CT} {W : WX} {x : Str} {a : Addr} {vs : List V} {ds : List D} {pos : Pos} (hg : Gl X x) (hm : X.mg x = some (.ref a)) (q : ∀ G, SqT X.K G a vs) (r : ∀ G ι, DVs X.K G ι vs ds) (hd : (x == ("__debug__" : Str)) = false := by decide) : DE X T W (.Name x pos) (eC (.tup ds)) :=
  de_c (pe_glob hg hm (v := .ref a) rfl hd) fun G ι => .tup (q G) (r G ι)

/-! ## Dict displays (at most fifteen entries) -/
def keyOf : D → Option Key
  | .int i => some (.inl i)
  | .str x => some (.inr x)
  | _ => none
def putKD (kvs : List (Key × D)) (k : Key) (v : D) : List (Key × D) :=
  if (kvs.any fun kv => decide (kv.1 = k)) = true then kvs.map (fun kv => if kv.1 = k then (kv.1, v) else kv) else kvs ++ [(k, v)]
def mergeKD (kvs more : List (Key × D)) : List (Key × D) := more.foldl (fun acc kv => putKD acc kv.1 kv.2) kvs
def valKD (kvs : List (Key × D)) (k : Key) : Option D := (kvs.find? fun kv => decide (kv.1 = k)).map (·.2)
def pairsD (env : DEnv) : List (EM × EM) → List (Key × D) → M (List (Key × D))
  | [], acc => M.pure acc
  | (k, v) :: r, acc => M.bind (k env) fun x => M.bind (v env) fun y => M.bind (M.opt (keyOf x)) fun kk => pairsD env r (acc ++ [(kk, y)])
def eDic (prs : List (EM × EM)) : EM := fun env => M.bind (pairsD env prs []) fun kvs => M.opt (if decide (kvs.length ≤ 15) then some (.dic (mergeKD [] kvs)) else none)
section
variable {K : PySem.W.Frag} {T : CT} {G G0 : Hp} {ι ι0 : List Addr} {H H0 : Hp} {st : Sto} {E : XK}
theorem PostE.step {m : M D} {f : D → M D} {Q Q' : VK} (p : PostE K T G0 ι0 H0 (M.bind m f st) E Q) (x : Ext ι0 ι H0 H G0 G) (w : WH K G ι st H)
    (h : ∀ d st1 v G1 ι1 H1, Ext ι ι1 H H1 G G1 → WH K G1 ι1 st1 H1 → DV K G1 ι1 v d → PostE K T G0 ι0 H0 (f d st1) E Q → Q' v H1) : PostE K T G ι H (m st) E Q' := by
  rw [M.bind_app] at p
  cases e : m st with
  | bad => rw [e] at p; exact p
  | ex y s => rw [e] at p; exact fun c dd G' ι' H' x2 w2 r2 => p c dd G' ι' H' (x.cons w x2) w2 r2
  | ok d s =>
    rw [e] at p
    exact fun v G1 ι1 H1 x1 w1 r1 => h d s v G1 ι1 H1 x1 w1 r1 p
theorem DVk.append : ∀ {vs ws : List (Key × V)} {ds es : List (Key × D)}, DVk K G ι vs ds → DVk K G ι ws es → DVk K G ι (vs ++ ws) (ds ++ es)
  | _, _, _, _, .nil, s => s
  | _, _, _, _, .cons r t, s => .cons r (DVk.append t s)
theorem DVk.length : ∀ {vs : List (Key × V)} {ds : List (Key × D)}, DVk K G ι vs ds → vs.length = ds.length
  | _, _, .nil => rfl
  | _, _, .cons _ t => by simp [DVk.length t]
theorem DVk.any (k : Key) : ∀ {vs : List (Key × V)} {ds : List (Key × D)}, DVk K G ι vs ds → (vs.any fun kv => decide (kv.1 = k)) = ds.any fun kv => decide (kv.1 = k)
  | _, _, .nil => rfl
  | _, _, .cons _ t => by simp [DVk.any k t]
theorem DVk.mapPut (k : Key) {v : V} {d : D} (r : DV K G ι v d) : ∀ {vs : List (Key × V)} {ds : List (Key × D)}, DVk K G ι vs ds → DVk K G ι (vs.map fun kv => if kv.1 = k then (kv.1, v) else kv) (ds.map fun kv => if kv.1 = k then (kv.1, d) else kv)
  | _, _, .nil => .nil
  | _, _, .cons (k := l) q t => by
    rw [List.map_cons, List.map_cons]
    by_cases e : l = k
    · rw [if_pos e, if_pos e]; exact .cons r (DVk.mapPut k r t)
    · rw [if_neg e, if_neg e]; exact .cons q (DVk.mapPut k r t)
theorem DVk.put {k : Key} {v : V} {d : D} (r : DV K G ι v d) {vs : List (Key × V)} {ds : List (Key × D)} (h : DVk K G ι vs ds) : DVk K G ι (putK vs k v) (putKD ds k d) := by
  unfold putK putKD
  rw [h.any k]
  by_cases e : (ds.any fun kv => decide (kv.1 = k)) = true
  · rw [if_pos e, if_pos e]; exact h.mapPut k r
  · rw [if_neg e, if_neg e]; exact h.append (.cons r .nil)
theorem DVk.merge : ∀ {more : List (Key × V)} {md : List (Key × D)} {vs : List (Key × V)} {ds : List (Key × D)}, DVk K G ι more md → DVk K G ι vs ds → DVk K G ι (mergeK vs more) (mergeKD ds md)
  | _, _, _, _, .nil, h => h
  | (k, v) :: more, (_, d) :: md, vs, ds, .cons r t, h => show DVk K G ι (mergeK (putK vs k v) more) (mergeKD (putKD ds k d) md) from DVk.merge t (h.put r)
theorem DVk.val {k : Key} : ∀ {vs : List (Key × V)} {ds : List (Key × D)}, DVk K G ι vs ds → (∀ d, valKD ds k = some d → ∃ v, valV vs k = some v ∧ DV K G ι v d) ∧ (valKD ds k = none → valV vs k = none)
  | _, _, .nil => ⟨(fun d h => by cases h), (fun _ => rfl)⟩
  | _, _, .cons (k := l) (v := v) (d := d) (vs := vs) (ds := ds) r t => by
    obtain ⟨h1, h2⟩ := DVk.val (k := k) t
    by_cases e : l = k
    · have e1 : valKD ((l, d) :: ds) k = some d := by unfold valKD; rw [List.find?_cons_of_pos (by simpa using e)]; rfl
      have e2 : valV ((l, v) :: vs) k = some v := by unfold valV; rw [List.find?_cons_of_pos (by simpa using e)]; rfl
      rw [e1, e2]
      exact ⟨fun d' h => by cases h; exact ⟨v, rfl, r⟩, fun h => by cases h⟩
    · have e1 : valKD ((l, d) :: ds) k = valKD ds k := by unfold valKD; rw [List.find?_cons_of_neg (by simpa using e)]
      have e2 : valV ((l, v) :: vs) k = valV vs k := by unfold valV; rw [List.find?_cons_of_neg (by simpa using e)]
      rw [e1, e2]
      exact ⟨h1, h2⟩
theorem apart {a : Addr} {G' : Hp} {ι' : List Addr} {H' : Hp} {o : HO} (z : Ext ι ι' H H' G G') (g : G a = none) (i : a ∉ ι) (h : H a = some o) : G' a = none ∧ a ∉ ι' ∧ H' a = some o := by
  refine ⟨?_, ?_, z.fr _ _ h i⟩
  · cases q : G' a with
    | none => rfl
    | some o =>
      rcases z.gn _ _ q with y | y | y
      · rw [g] at y; cases y
      · rw [h] at y; cases y
      · exact absurd y i
  · intro q
    rcases z.new _ q with y | y
    · exact i y
    · rw [h] at y; cases y
end
section
variable {X : Cx} {T : CT} {W : WX}
def DPs (X : Cx) (T : CT) (W : WX) (pos : Pos) (ks : List (Option Expr)) (vs : List Expr) (ms : List (EM × EM)) : Prop := PPs X pos ks vs (ms.map fun m => (tOf X.K T W m.1, tOf X.K T W m.2))
theorem dps_nil {pos : Pos} : DPs X T W pos [] [] [] := pps_nil
theorem dps_cons {pos : Pos} {k v : Expr} {ks : List (Option Expr)} {vs : List Expr} {mk mv : EM} {ms : List (EM × EM)} (hk : DE X T W k mk) (hv : DE X T W v mv) (hr : DPs X T W pos ks vs ms) : DPs X T W pos (some k :: ks) (v :: vs) ((mk, mv) :: ms) := pps_cons hk hv hr
theorem pairs_read {a : Addr} {σ : L2.St} {env : DEnv} {Q : VK} {G0 : Hp} {ι0 : List Addr} {H0 : Hp} (h0 : H0 a = none) : ∀ (ms : List (EM × EM)) (acc : List (Key × D)) (vacc : List (Key × V)) (G : Hp) (ι : List Addr) (st : Sto) (H : Hp), Ext ι0 ι H0 H G0 G → WH X.K G ι st H → EnvR X.K G ι σ env → G a = none → a ∉ ι →
    H a = some (.dK []) → DVk X.K G ι vacc acc → PostE X.K T G0 ι0 H0 (M.bind (pairsD env ms acc) (fun kvs => M.opt (if decide (kvs.length ≤ 15) then some (.dic (mergeKD [] kvs)) else none)) st) (fun c d H' => W c d σ H') Q →
    ∀ Qp : List (V × V) → Hp → Prop, (∀ (kvs : List (Key × V)) (H2 : Hp), H2 a = some (.dK []) → (vacc ++ kvs).length ≤ 15 → Q (.ref a) (upd H2 a (.dK (mergeK [] (vacc ++ kvs)))) → Qp (kvs.map fun kv => (kV kv.1, kv.2)) H2) →
    tPairs (ms.map fun m => (tOf X.K T W m.1, tOf X.K T W m.2)) σ H Qp
  | [], acc, vacc, G, ι, st, H, x, w, r, g, i, h, ra, p, Qp, hq => by
    refine hq [] H h ?_ ?_
    · rw [List.append_nil]
      unfold pairsD at p
      rw [M.pure_bind] at p
      by_cases hz : acc.length ≤ 15
      · rw [ra.length]; exact hz
      · rw [if_neg (by simpa using hz)] at p
        exact p.elim
    · rw [List.append_nil]
      unfold pairsD at p
      rw [M.pure_bind] at p
      by_cases hz : acc.length ≤ 15
      · rw [if_pos (by simpa using hz)] at p
        have gn : upd G a (.dK (mergeK [] vacc)) a = some (.dK (mergeK [] vacc)) := upd_same
        refine p (.ref a) (upd G a (.dK (mergeK [] vacc))) ι _ ((x.other h0 _).still h0 g _) ((w.other g i _).still g i upd_same) (.dic gn ?_)
        exact (DVk.merge ra .nil).mono (Same.upd_new g) ⟨[], by simp⟩
      · rw [if_neg (by simpa using hz)] at p
        exact p.elim
  | (mk, mv) :: ms, acc, vacc, G, ι, st, H, x, w, r, g, i, h, ra, p, Qp, hq => by
    unfold pairsD at p
    rw [M.bind_assoc] at p
    refine ⟨G, ι, st, env, w, r, PostE.step p x w fun dk st1 vk G1 ι1 H1 x1 w1 r1 p1 => ?_⟩
    rw [M.bind_assoc] at p1
    refine ⟨G1, ι1, st1, env, w1, r.mono x1, PostE.step p1 (x.cons w x1) w1 fun dv st2 vv G2 ι2 H2 x2 w2 r2 p2 => ?_⟩
    cases e : keyOf dk with
    | none => rw [e] at p2; exact p2.elim
    | some kk =>
      rw [e] at p2
      have x12 := x1.cons w1 x2
      obtain ⟨g2, i2, h2⟩ := apart x12 g i h
      have ek : vk = kV kk := by
        cases r1 with
        | int n => cases e; rfl
        | str z => cases e; rfl
        | _ => cases e
      refine pairs_read h0 ms (acc ++ [(kk, dv)]) (vacc ++ [(kk, vv)]) G2 ι2 st2 H2 (x.cons w x12) w2 ((r.mono x1).mono x2) g2 i2 h2 (DVk.append (ra.mono x12.sm x12.pre) (.cons r2 .nil)) p2 _ fun kvs H3 a1 a2 a3 => ?_
      rw [List.append_assoc] at a2 a3
      rw [ek]
      exact hq ((kk, vv) :: kvs) H3 a1 a2 a3
theorem de_dic {pos : Pos} {k : Option Expr} {v : Expr} {ks : List (Option Expr)} {vs : List Expr} {ms : List (EM × EM)} (h : DPs X T W pos (k :: ks) (v :: vs) ms) (hall : (k :: ks).all (·.isSome) = true := by rfl) (hl : (k :: ks).length = (v :: vs).length := by rfl) (h15 : (k :: ks).length ≤ 15 := by decide) :
    DE X T W (.Dict (k :: ks) (v :: vs) pos) (eDic ms) :=
  DE.of (pe_disp h hall hl (by intro z; cases z) h15) fun σ H Q G ι st env w r p a ha => by
    have ga := w.off ha
    have ia : a ∉ ι := fun z => w.there a z ha
    refine pairs_read ha ms [] [] G ι st _ (Ext.other .refl ha _) (w.other ga ia _) r ga ia upd_same .nil p _ fun kvs H2 h1 h2 h3 => ⟨h1, kvs, rfl, h2, h3⟩
theorem de_dic0 {pos : Pos} : DE X T W (.Dict [] [] pos) (eC (.dic [])) := DE.of pe_dnewK fun σ H Q G ι st env w r p a ha => p _ _ ι _ (w.fzExt ha (.dK [])) (w.fz ha _) (.dic upd_same .nil)
/-- a dict that will be changed -/
theorem de_dicC0 {pos : Pos} : DE X T W (.Dict [] [] pos) (fun _ => M.new (.dic [])) := DE.of pe_dnewK fun σ H Q G ι st env w r p a ha => by
  have cr : CellR X.K G (ι ++ [a]) (upd H a (.dK [])) a (.dic []) := ⟨w.off ha, [], upd_same, .nil⟩
  refine p _ _ _ _ (w.clExt ha _) (w.cl ha cr) (.cell ?_)
  rw [← w.len, List.getElem?_append_right (Nat.le_refl _)]
  simp
end
end L3
namespace L3
open PySem PySem.Spec PyProof.Rows L2

/-! ## Comparisons -/
section
variable {X : Cx} {k : Nat}
def ltD (_ : Sto) (x y : D) : Option D := orO (ltI x y) (ltS x y)
def leD (_ : Sto) (x y : D) : Option D := orO (leI x y) (leS x y)
def gtD (_ : Sto) (x y : D) : Option D := orO (gtI x y) (gtS x y)
def geD (_ : Sto) (x y : D) : Option D := orO (geI x y) (geS x y)
theorem od_lt : OpD X (compareOp .Lt) ltD := od_ltI.or od_ltS
theorem od_le : OpD X (compareOp .LtE) leD := od_leI.or od_leS
theorem od_gt : OpD X (compareOp .Gt) gtD := od_gtI.or od_gtS
theorem od_ge : OpD X (compareOp .GtE) geD := od_geI.or od_geS
def itemsPy : PyData → Option (List PyData)
  | .list ds => some ds
  | .tuple ds => some ds
  | _ => none
def inSeq (st : Sto) (x y : D) : Option Bool := (topPy st x).bind fun d => (topPy st y).bind fun c => (itemsPy c).bind fun ds => if SeqAt.shaped d && SeqAt.shaped c then some (ds.any fun z => PyData.eqv z d) else none
theorem in_room {A : Around} {c d : PyData} {ds : List PyData} (h : SeqAt.shaped d = true) (hu : RoomG k A) : A.units + 1 + min (PyData.depthAll ds) d.depth < cLine := by
  have h1 := SeqAt.depth_of_shaped h
  have h2 : min (PyData.depthAll ds) d.depth ≤ d.depth := Nat.min_le_right _ _
  have h3 := hu.r.un
  omega
theorem inSeq_get {st : Sto} {dx dy : D} {b : Bool} (h : inSeq st dx dy = some b) : ∃ d c ds, topPy st dx = some d ∧ topPy st dy = some c ∧ itemsPy c = some ds ∧ SeqAt.shaped d = true ∧ SeqAt.shaped c = true ∧ b = ds.any fun z => PyData.eqv z d := by
  unfold inSeq at h
  cases e1 : topPy st dx with
  | none => rw [e1] at h; cases h
  | some d =>
    cases e2 : topPy st dy with
    | none => rw [e1, e2] at h; cases h
    | some c =>
      cases e3 : itemsPy c with
      | none => rw [e1, e2, Option.bind_some, Option.bind_some, e3] at h; cases h
      | some ds =>
        rw [e1, e2, Option.bind_some, Option.bind_some, e3, Option.bind_some] at h
        by_cases hz : (SeqAt.shaped d && SeqAt.shaped c) = true
        · rw [if_pos hz] at h
          rw [Bool.and_eq_true] at hz
          cases h
          exact ⟨d, c, ds, rfl, rfl, e3, hz.1, hz.2, rfl⟩
        · rw [if_neg hz] at h
          cases h
theorem od_inSeq (hr : RoomG k X.A) : OpD X (compareOp .In) (fun st x y => (inSeq st x y).map .bl) := fun pins s σ H x y v u Q I rx ry ⟨G, ι, st, dx, dy, w, hx, hy, p⟩ => by
  dsimp only at p
  cases e : inSeq st dx dy with
  | none => rw [e] at p; exact p.elim
  | some b =>
    rw [e] at p
    obtain ⟨d, c, ds, e1, e2, e3, s1, s2, e4⟩ := inSeq_get e
    obtain ⟨as, r1⟩ := Dp.reads I d x v (dp_top w hx e1) rx
    obtain ⟨bs, r2⟩ := Dp.reads I c y u (dp_top w hy e2) ry
    have fin : EP X pins σ Q (.bool (ds.any fun z => PyData.eqv z d)) s := ⟨.bl _, H, I, rfl, by rw [← e4]; exact p.val w (.bl _)⟩
    cases c with
    | list xs => cases e3; exact SeqAt.in_list_reads r2 r1 (SeqAt.canLay_of_shaped s2) (SeqAt.canLay_of_shaped s1) (in_room (c := d) s1 hr) fin
    | tuple xs => cases e3; exact SeqAt.in_tuple_reads r2 r1 (SeqAt.canLay_of_shaped s2) (SeqAt.canLay_of_shaped s1) (in_room (c := d) s1 hr) fin
    | _ => cases e3
theorem od_notInSeq (hr : RoomG k X.A) : OpD X (compareOp .NotIn) (fun st x y => (inSeq st x y).map fun b => .bl (!b)) := fun pins s σ H x y v u Q I rx ry ⟨G, ι, st, dx, dy, w, hx, hy, p⟩ => by
  dsimp only at p
  cases e : inSeq st dx dy with
  | none => rw [e] at p; exact p.elim
  | some b =>
    rw [e] at p
    obtain ⟨d, c, ds, e1, e2, e3, s1, s2, e4⟩ := inSeq_get e
    obtain ⟨as, r1⟩ := Dp.reads I d x v (dp_top w hx e1) rx
    obtain ⟨bs, r2⟩ := Dp.reads I c y u (dp_top w hy e2) ry
    have fin : EP X pins σ Q (.bool (!ds.any fun z => PyData.eqv z d)) s := ⟨.bl _, H, I, rfl, by rw [← e4]; exact p.val w (.bl _)⟩
    cases c with
    | list xs => cases e3; exact SeqAt.notIn_list_reads r2 r1 (SeqAt.canLay_of_shaped s2) (SeqAt.canLay_of_shaped s1) (in_room (c := d) s1 hr) fin
    | tuple xs => cases e3; exact SeqAt.notIn_tuple_reads r2 r1 (SeqAt.canLay_of_shaped s2) (SeqAt.canLay_of_shaped s1) (in_room (c := d) s1 hr) fin
    | _ => cases e3
def inD (st : Sto) (x y : D) : Option D := orO (inS x y) ((inSeq st x y).map .bl)
def notInD (st : Sto) (x y : D) : Option D := orO (notInS x y) ((inSeq st x y).map fun b => .bl (!b))
theorem od_in (hr : RoomG k X.A) : OpD X (compareOp .In) inD := od_inS.or (od_inSeq hr)
theorem od_notIn (hr : RoomG k X.A) : OpD X (compareOp .NotIn) notInD := od_notInS.or (od_notInSeq hr)
def isNone : D → Bool
  | .non => true
  | _ => false
theorem dv_none {K : PySem.W.Frag} {G : Hp} {ι : List Addr} {v : V} {d : D} (r : DV K G ι v d) : decide (v = .non) = isNone d := by
  cases r <;> rfl
def isND (_ : Sto) (x y : D) : Option D := if isNone y then some (.bl (isNone x)) else none
def notND (_ : Sto) (x y : D) : Option D := if isNone y then some (.bl (!isNone x)) else none
theorem od_isN : OpD X (compareOp .Is) isND := OpD.of op_isN fun G ι st H x y dx dy Q w hx hy p => by
  unfold isND at p
  cases hy with
  | non =>
    rw [if_pos (show isNone .non = true from rfl)] at p
    exact ⟨rfl, by rw [dv_none hx]; exact p.val w (.bl _)⟩
  | _ => exact p.elim
theorem od_notN : OpD X (compareOp .IsNot) notND := OpD.of op_notN fun G ι st H x y dx dy Q w hx hy p => by
  unfold notND at p
  cases hy with
  | non =>
    rw [if_pos (show isNone .non = true from rfl)] at p
    exact ⟨rfl, by rw [dv_none hx]; exact p.val w (.bl _)⟩
  | _ => exact p.elim
end

/-! ## Tests -/
section
variable {X : Cx} {T : CT} {W : WX} {a b c : Expr} {es : List Expr} {ma mb mc : EM} {ka kb : BM} {pos : Pos}
def DW (X : Cx) (T : CT) (W : WX) (e : Expr) (m : BM) : Prop := PW X e (bOf X.K T W m)
theorem DW.dt (h : DW X T W a ka) : DT X T W a ka := PW.pt h
theorem dw_and1 (h : DT X T W a ka) : DW X T W (.BoolOp .And [a] pos) ka := pw_and1 h
theorem dw_or1 (h : DT X T W a ka) : DW X T W (.BoolOp .Or [a] pos) ka := pw_or1 h
theorem dw_and (ha : DT X T W a ka) (hb : DW X T W (.BoolOp .And (b :: es) pos) kb) : DW X T W (.BoolOp .And (a :: b :: es) pos) (bAnd ka kb) :=
  ⟨fun wh pins s σ H Q I ⟨G, ι, st, env, w, r, p⟩ => (pw_and ha hb).run wh pins s σ H Q I ⟨G, ι, st, env, w, r, p.bindB fun d st1 G1 ι1 H1 x1 w1 p1 => by
    cases d with
    | true => exact ⟨G1, ι1, st1, env, w1, r.mono x1, p1⟩
    | false => exact p1 G1 ι1 H1 .refl w1⟩⟩
theorem dw_or (ha : DT X T W a ka) (hb : DW X T W (.BoolOp .Or (b :: es) pos) kb) : DW X T W (.BoolOp .Or (a :: b :: es) pos) (bOr ka kb) :=
  ⟨fun wh pins s σ H Q I ⟨G, ι, st, env, w, r, p⟩ => (pw_or ha hb).run wh pins s σ H Q I ⟨G, ι, st, env, w, r, p.bindB fun d st1 G1 ι1 H1 x1 w1 p1 => by
    cases d with
    | false => exact ⟨G1, ι1, st1, env, w1, r.mono x1, p1⟩
    | true => exact p1 G1 ι1 H1 .refl w1⟩⟩
theorem dt_not (ha : DT X T W a ka) : DT X T W (.UnaryOp .Not a pos) (bNot ka) :=
  DT.of (pt_not ha) fun σ H Q G ι st env w r p => ⟨G, ι, st, env, w, r, p.bindB fun d st1 G1 ι1 H1 x1 w1 p1 => p1 G1 ι1 H1 .refl w1⟩
/-- what is wanted of a value as a test -/
theorem tTest_of {G : Hp} {ι : List Addr} {H : Hp} {st : Sto} {env : DEnv} {σ : L2.St} {t : TE} {Q : Bool → Hp → Prop} (h : ∀ Q' : VK, PostE X.K T G ι H (ma env st) (fun c d H' => W c d σ H') Q' → t σ H Q') (w : WH X.K G ι st H)
    (p : PostB X.K T G ι H (bE ma env st) (fun c d H' => W c d σ H') Q) : tTest t σ H Q :=
  h _ (p.bindE fun d st1 v G1 ι1 H1 x1 w1 r1 p1 => p1.asB w1 r1)
theorem dt_chain {op op' : CmpOp} {g g' : Sto → D → D → Option D} (ho : OpD X (compareOp op) g) (ho' : OpD X (compareOp op') g') (ha : DE X T W a ma) (hb : DE X T W b mb) (hc : DE X T W c mc) (hm : lastMarks [op, op'] [b, c] = false := by with_unfolding_all rfl) : DT X T W (.Compare a [op, op'] [b, c] pos) (bE (eChain g g' ma mb mc)) :=
  DT.of (pt_chain ho ho' ha hb hc hm) fun σ H Q G ι st env w r p => tTest_of (ma := eChain g g' ma mb mc) (T := T) (W := W) (st := st) (env := env) (σ := σ) (fun Q' p => ⟨G, ι, st, env, w, r, p.bind fun d st1 v G1 ι1 H1 x1 w1 r1 p1 =>
    ⟨G1, ι1, st1, env, w1, r.mono x1, p1.bind fun d2 st2 v2 G2 ι2 H2 x2 w2 r2 p2 => ⟨G2, ι2, st2, d, d2, w2, x2.dv r1, r2, (p2.bind (Q' := fun z H3 => ∃ k, z = .bl k ∧ (if k = true then tOf X.K T W mc σ H3 fun w' H4 => rOf X.K g' v2 w' H4 Q' else Q' (.bl false) H3)) fun d3 st3 v3 G3 ι3 H3 x3 w3 r3 p3 => by
      obtain ⟨k, e1, _, p4⟩ := PostE.asB r3 p3
      refine ⟨k, e1, ?_⟩
      cases k with
      | true =>
        exact ⟨G3, ι3, st3, env, w3, ((r.mono x1).mono x2).mono x3, p4.bind fun d4 st4 v4 G4 ι4 H4 x4 w4 r4 p5 => ⟨G4, ι4, st4, d2, d4, w4, x4.dv (x3.dv r2), r4, p5.rd⟩⟩
      | false => exact p4.ok w3 (.bl false)).rd⟩⟩⟩) w p
end

/-! ## Built-in names -/
theorem bb_abs : bootBuiltins "abs" = some (.builtin "abs") := by decide +kernel
theorem bb_max : bootBuiltins "max" = some (.builtin "max") := by decide +kernel
theorem bb_min : bootBuiltins "min" = some (.builtin "min") := by decide +kernel
theorem bb_len : bootBuiltins "len" = some (.builtin "len") := by decide +kernel
theorem bb_repr : bootBuiltins "repr" = some (.builtin "repr") := by decide +kernel
theorem bb_isinstance : bootBuiltins "isinstance" = some (.builtin "isinstance") := by decide +kernel
theorem bb_all : bootBuiltins "all" = some (.builtin "all") := by decide +kernel
theorem bb_any : bootBuiltins "any" = some (.builtin "any") := by decide +kernel
theorem bb_sorted : bootBuiltins "sorted" = some (.builtin "sorted") := by decide +kernel
theorem bb_sum : bootBuiltins "sum" = some (.builtin "sum") := by decide +kernel
theorem bb_divmod : bootBuiltins "divmod" = some (.builtin "divmod") := by decide +kernel
theorem bb_ord : bootBuiltins "ord" = some (.builtin "ord") := by decide +kernel
theorem bb_chr : bootBuiltins "chr" = some (.builtin "chr") := by decide +kernel
theorem bb_int : bootBuiltins "int" = some (.type "int") := by decide +kernel
theorem bb_str : bootBuiltins "str" = some (.type "str") := by decide +kernel
theorem bb_bool : bootBuiltins "bool" = some (.type "bool") := by decide +kernel
theorem bb_tuple : bootBuiltins "tuple" = some (.type "tuple") := by decide +kernel
theorem bb_list : bootBuiltins "list" = some (.type "list") := by decide +kernel
theorem bb_dict : bootBuiltins "dict" = some (.type "dict") := by decide +kernel
theorem bb_set : bootBuiltins "set" = some (.type "set") := by decide +kernel

/-! ## Short words -/
section
variable {X : Cx} {T : CT} {W : WX}
theorem de_int {i j pos} : DE X T W (.Constant (.int i) j pos) (eC (.int i)) := de_c pe_int
theorem de_str {x j pos} : DE X T W (.Constant (.str x) j pos) (eC (.str x)) := de_c pe_str
theorem de_bl {b j pos} : DE X T W (.Constant (.bool b) j pos) (eC (.bl b)) := de_c pe_bl
theorem de_non {j pos} : DE X T W (.Constant .none j pos) (eC .non) := de_c pe_non
theorem dv (i : Nat) {x : Str} {pos : Pos} (hN : X.N[i]? = some x := by rfl) (hv : Vis X.env.scope x := by first | exact Or.inl rfl | exact Or.inr (Or.inl rfl) | exact Or.inr (Or.inr rfl)) (hd : (x == ("__debug__" : Str)) = false := by decide)
    (hcd : (x == ("__classdict__" : Str)) = false := by decide) : DE X T W (.Name x pos) (eVar i) := de_var (pe_var hN hv hd hcd)
end
/-- where a def of the text stands behind the top -/
structure DefAt (K : PySem.W.Frag) (mg : Str → Option Value) (x : Str) (st : Stmt) (ps : List Str) (a : Addr) (fd : FuncData) : Prop where
  mg : mg x = some (.ref a)
  fn : Fun K x x st a fd
  bi : Binds K fd ps []
section
variable {X : Cx} {T : CT} {W : WX} {e : Expr} {es : List Expr} {mas : AM} {pos p : Pos} {j k : Nat} {f : Addr} {fd : FuncData} {ps : List Str} {sem : List D → M D} {x : Str} {sf : Stmt}
theorem dc {L : DefAt X.K X.mg x sf ps f fd} (F : FnD X.prog X.w X.K X.mg X.base T k f fd ps sem) (hr : RoomG j X.A) (tk : Takes X W) (ha : DA X T W (e :: es) mas) (hg : Gl X x := by rfl) (hl : k ≤ j := by decide) (hdb : (x == ("__debug__" : Str)) = false := by decide)
    (he : starEach (e :: es) X.env = (false, eval e X.env) :: starEach es X.env := by rfl) (hpl : (backTo pos (starEach es X.env)).any (·.1) = false := by rfl) : DE X T W (.Call (.Name x p) (e :: es) [] pos) (eApp sem mas) :=
  de_call F (hr.mono hl) hg L.mg L.fn.kp L.bi tk ha hdb he hpl
theorem dc0 {L : DefAt X.K X.mg x sf ps f fd} (F : FnD X.prog X.w X.K X.mg X.base T k f fd ps sem) (hr : RoomG j X.A) (tk : Takes X W) (hg : Gl X x := by rfl) (hl : k ≤ j := by decide) (hdb : (x == ("__debug__" : Str)) = false := by decide) : DE X T W (.Call (.Name x p) [] [] pos) (fun _ => sem []) :=
  de_call0 F (hr.mono hl) hg L.mg L.fn.kp L.bi tk hdb
end
end L3
namespace L3
open PySem PySem.Spec PyProof.Rows L2

/-! ## How a meaning is reckoned: from the left, what comes behind is not looked at before its turn -/
def R.go {α β : Type} (r : R α) (f : α → M β) : R β := match r with
  | .ok a s => f a s
  | .ex x s => .ex x s
  | .bad => .bad
def R.ofO {α : Type} (o : Option α) (s : Sto) : R α := match o with
  | some a => .ok a s
  | none => .bad
def R.toS {α : Type} (r : R α) (e : DEnv) (f : α → SM) : SR := match r with
  | .ok a s => f a e s
  | .ex x s => .ex x e s
  | .bad => .bad
def SR.go (r : SR) (f : SM) : SR := match r with
  | .nx e s => f e s
  | .rt d s => .rt d s
  | .bk e s => .bk e s
  | .ct e s => .ct e s
  | .ex x e s => .ex x e s
  | .bad => .bad
def SR.out (r : SR) : R D := match r with
  | .nx _ s => .ok .non s
  | .rt d s => .ok d s
  | .ex x _ s => .ex x s
  | _ => .bad
section
variable {α β : Type}
theorem R.go_ok (a : α) (s : Sto) (f : α → M β) : R.go (.ok a s) f = f a s := rfl
theorem R.go_ex (x : Ex) (s : Sto) (f : α → M β) : R.go (.ex x s) f = .ex x s := rfl
theorem R.go_bad (f : α → M β) : R.go .bad f = .bad := rfl
theorem R.ofO_some (a : α) (s : Sto) : R.ofO (some a) s = .ok a s := rfl
theorem R.ofO_none (s : Sto) : R.ofO (none : Option α) s = .bad := rfl
theorem R.toS_ok (a : α) (s : Sto) (e : DEnv) (f : α → SM) : R.toS (.ok a s) e f = f a e s := rfl
theorem R.toS_ex (x : Ex) (s : Sto) (e : DEnv) (f : α → SM) : R.toS (.ex x s) e f = .ex x e s := rfl
theorem R.toS_bad (e : DEnv) (f : α → SM) : R.toS .bad e f = .bad := rfl
theorem SR.go_nx (e : DEnv) (s : Sto) (f : SM) : SR.go (.nx e s) f = f e s := rfl
theorem SR.go_rt (d : D) (s : Sto) (f : SM) : SR.go (.rt d s) f = .rt d s := rfl
theorem SR.go_bk (e : DEnv) (s : Sto) (f : SM) : SR.go (.bk e s) f = .bk e s := rfl
theorem SR.go_ct (e : DEnv) (s : Sto) (f : SM) : SR.go (.ct e s) f = .ct e s := rfl
theorem SR.go_ex (x : Ex) (e : DEnv) (s : Sto) (f : SM) : SR.go (.ex x e s) f = .ex x e s := rfl
theorem SR.go_bad (f : SM) : SR.go .bad f = .bad := rfl
theorem SR.out_nx (e : DEnv) (s : Sto) : SR.out (.nx e s) = .ok .non s := rfl
theorem SR.out_rt (d : D) (s : Sto) : SR.out (.rt d s) = .ok d s := rfl
theorem SR.out_ex (x : Ex) (e : DEnv) (s : Sto) : SR.out (.ex x e s) = .ex x s := rfl
theorem ev_bind (m : M α) (f : α → M β) (st : Sto) : M.bind m f st = R.go (m st) f := by
  rw [M.bind_app]; cases m st <;> rfl
theorem ev_opt (o : Option α) (st : Sto) : M.opt o st = R.ofO o st := by cases o <;> rfl
theorem ev_rd (f : Sto → Option α) (st : Sto) : M.rd f st = R.ofO (f st) st := by
  unfold M.rd
  cases f st <;> rfl
theorem ev_pure (a : α) (st : Sto) : M.pure a st = .ok a st := rfl
theorem ev_badM (st : Sto) : (M.bad : M α) st = .bad := rfl
end
def SR.ofO (o : Option Sto) (e : DEnv) : SR := match o with
  | some s => .nx e s
  | none => .bad
theorem SR.ofO_some (s : Sto) (e : DEnv) : SR.ofO (some s) e = .nx e s := rfl
/-! what comes behind, by name -/
def kB2 (op : Sto → D → D → Option D) (x : D) : D → M D := fun y s => R.ofO (op s x y) s
def kB1 (op : Sto → D → D → Option D) (b : EM) (env : DEnv) : D → M D := fun x s => R.go (b env s) (kB2 op x)
def kU (op : Sto → D → Option D) : D → M D := fun x s => R.ofO (op s x) s
def kAnd2 (b : EM) (env : DEnv) : Bool → M D := fun c s => if c = true then b env s else .ok (.bl false) s
def kAnd (b : EM) (env : DEnv) : D → M D := fun x s => R.go (asB x s) (kAnd2 b env)
def kOr2 (b : EM) (env : DEnv) : Bool → M D := fun c s => if c = true then .ok (.bl true) s else b env s
def kOr (b : EM) (env : DEnv) : D → M D := fun x s => R.go (asB x s) (kOr2 b env)
def kNot2 : Bool → M D := fun c s => .ok (.bl (!c)) s
def kNot : D → M D := fun x s => R.go (asB x s) kNot2
def kIf (a b : EM) (env : DEnv) : Bool → M D := fun k s => if k = true then a env s else b env s
def kbAnd (b : BM) (env : DEnv) : Bool → M Bool := fun c s => if c = true then b env s else .ok false s
def kbOr (b : BM) (env : DEnv) : Bool → M Bool := fun c s => if c = true then .ok true s else b env s
def kbNot : Bool → M Bool := fun c s => .ok (!c) s
def kA2 (x : D) : List D → M (List D) := fun xs s => .ok (x :: xs) s
def kA1 (b : AM) (env : DEnv) : D → M (List D) := fun x s => R.go (b env s) (kA2 x)
def kTup : List D → M D := fun xs s => R.ofO (if fits xs.length = true then some (.tup xs) else none) s
def kLst : List D → M D := fun xs s => R.ofO (if fits xs.length = true then some (.lst xs) else none) s
def kLstC : List D → M D := fun xs s => if fits xs.length = true then .ok (.cell s.length) (s ++ [.lst xs]) else .bad
def kCall (op : Sto → List D → Option D) : List D → M D := fun xs s => R.ofO (op s xs) s
def kC4 (op' : Sto → D → D → Option D) (y : D) (c : EM) (env : DEnv) : Bool → M D := fun k s => if k = true then R.go (c env s) (kB2 op' y) else .ok (.bl false) s
def kC3 (op' : Sto → D → D → Option D) (y : D) (c : EM) (env : DEnv) : D → M D := fun z s => R.go (asB z s) (kC4 op' y c env)
def kC2 (op op' : Sto → D → D → Option D) (x : D) (c : EM) (env : DEnv) : D → M D := fun y s => R.go (R.ofO (op s x y) s) (kC3 op' y c env)
def kC1 (op op' : Sto → D → D → Option D) (b c : EM) (env : DEnv) : D → M D := fun x s => R.go (b env s) (kC2 op op' x c env)
def kSet (i : Nat) : D → SM := fun d e s => .nx (e.set i (some d)) s
def kExpr : D → SM := fun _ e s => .nx e s
def kRet : D → SM := fun d _ s => .rt d s
def kIfS (a b : SM) : Bool → SM := fun k e s => if k = true then a e s else b e s
def kAsg (g : D → DEnv → Option DEnv) : D → SM := fun d e s => match g d e with
  | some e' => .nx e' s
  | none => .bad
def kP2 (i j : Nat) (x : D) : D → SM := fun y e s => .nx ((e.set i (some x)).set j (some y)) s
def kP1 (i j : Nat) (b : EM) : D → SM := fun x e s => R.toS (b e s) e (kP2 i j x)
def kQ3 (i j l : Nat) (x y : D) : D → SM := fun z e s => .nx (((e.set i (some x)).set j (some y)).set l (some z)) s
def kQ2 (i j l : Nat) (x : D) (c : EM) : D → SM := fun y e s => R.toS (c e s) e (kQ3 i j l x y)
def kQ1 (i j l : Nat) (b c : EM) : D → SM := fun x e s => R.toS (b e s) e (kQ2 i j l x c)
def kS3 (g : Sto → D → D → D → Option Sto) (v o : D) : D → SM := fun i e s => match g s o i v with
  | some s' => .nx e s'
  | none => .bad
def kS2 (mi : EM) (g : Sto → D → D → D → Option Sto) (v : D) : D → SM := fun o e s => R.toS (mi e s) e (kS3 g v o)
def kS1 (mo mi : EM) (g : Sto → D → D → D → Option Sto) : D → SM := fun v e s => R.toS (mo e s) e (kS2 mi g v)
def kFor (g : D → DEnv → Option DEnv) (b : SM) : List D × Src → SM := fun d e s => forD d.2 g b d.1 e s
def kR1 : D → M (List D × Src) := fun d s => R.ofO (match d with
  | .int j => if small62 j = true then some (rngD 0 j, none) else none
  | _ => none) s
def kR2b (x : D) : D → M (List D × Src) := fun y s => R.ofO (match x, y with
  | .int i, .int j => if (small62 i && small62 j) = true then some (rngD i j, none) else none
  | _, _ => none) s
def kR2a (b : EM) (env : DEnv) : D → M (List D × Src) := fun x s => R.go (b env s) (kR2b x)
def kST : D → M (List D × Src) := fun d s => R.ofO ((tupOf d).map fun xs => (xs, none)) s
def kSL : D → M (List D × Src) := fun d s => R.ofO ((lstOf s d).map fun xs => (xs, srcOf d xs)) s
def kL2 : List D → M D := fun xs s => .ok (.lst xs) s
def kL1 (g : D → DEnv → Option DEnv) (t : BM) (el : EM) (env : DEnv) : List D × Src → M D := fun d s => R.go (lcD d.2 g t el env d.1 [] s) kL2
theorem go_ext {α β : Type} {r : R α} {f g : α → M β} (h : ∀ a s, f a s = g a s) : R.go r f = R.go r g := by
  have : f = g := funext fun a => funext fun s => h a s
  rw [this]
theorem toS_ext {α : Type} {r : R α} {e : DEnv} {f g : α → SM} (h : ∀ a e s, f a e s = g a e s) : R.toS r e f = R.toS r e g := by
  have : f = g := funext fun a => funext fun e => funext fun s => h a e s
  rw [this]
section
variable (env : DEnv) (st : Sto)
theorem ev_var (i : Nat) : eVar i env st = R.ofO (env[i]?.join) st := by
  unfold eVar
  cases env[i]? with
  | none => rfl
  | some o => cases o <;> rfl
theorem ev_c (d : D) : eC d env st = .ok d st := rfl
theorem ev_asB (b : Bool) : asB (.bl b) st = .ok b st := rfl
theorem ev_bin (op : Sto → D → D → Option D) (a b : EM) : eBin op a b env st = R.go (a env st) (kB1 op b env) := by
  unfold eBin
  rw [ev_bind]
  refine go_ext fun x s => ?_
  rw [ev_bind]
  exact go_ext fun y s' => ev_rd _ _
theorem ev_kB1 (op : Sto → D → D → Option D) (b : EM) (x : D) : kB1 op b env x st = R.go (b env st) (kB2 op x) := rfl
theorem ev_kB2 (op : Sto → D → D → Option D) (x y : D) : kB2 op x y st = R.ofO (op st x y) st := rfl
theorem ev_un (op : Sto → D → Option D) (a : EM) : eUn op a env st = R.go (a env st) (kU op) := by
  unfold eUn
  rw [ev_bind]
  exact go_ext fun y s' => ev_rd _ _
theorem ev_kU (op : Sto → D → Option D) (x : D) : kU op x st = R.ofO (op st x) st := rfl
theorem ev_and (a b : EM) : eAnd a b env st = R.go (a env st) (kAnd b env) := by
  unfold eAnd
  rw [ev_bind]
  refine go_ext fun x s => ?_
  rw [ev_bind]
  exact go_ext fun c s => by cases c <;> rfl
theorem ev_kAnd (b : EM) (k : Bool) : kAnd b env (.bl k) st = kAnd2 b env k st := rfl
theorem ev_kAnd2_t (b : EM) : kAnd2 b env true st = b env st := rfl
theorem ev_kAnd2_f (b : EM) : kAnd2 b env false st = .ok (.bl false) st := rfl
theorem ev_or (a b : EM) : eOr a b env st = R.go (a env st) (kOr b env) := by
  unfold eOr
  rw [ev_bind]
  refine go_ext fun x s => ?_
  rw [ev_bind]
  exact go_ext fun c s => by cases c <;> rfl
theorem ev_kOr (b : EM) (k : Bool) : kOr b env (.bl k) st = kOr2 b env k st := rfl
theorem ev_kOr2_t (b : EM) : kOr2 b env true st = .ok (.bl true) st := rfl
theorem ev_kOr2_f (b : EM) : kOr2 b env false st = b env st := rfl
theorem ev_not (a : EM) : eNot a env st = R.go (a env st) kNot := by
  unfold eNot
  rw [ev_bind]
  refine go_ext fun x s => ?_
  rw [ev_bind]
  rfl
theorem ev_kNot (k : Bool) : kNot (.bl k) st = .ok (.bl (!k)) st := rfl
theorem ev_if (c : BM) (a b : EM) : eIf c a b env st = R.go (c env st) (kIf a b env) := by
  unfold eIf
  rw [ev_bind]
  exact go_ext fun c s => by cases c <;> rfl
theorem ev_kIf_t (a b : EM) : kIf a b env true st = a env st := rfl
theorem ev_kIf_f (a b : EM) : kIf a b env false st = b env st := rfl
theorem ev_bE (a : EM) : bE a env st = R.go (a env st) asB := by
  unfold bE
  rw [ev_bind]
theorem ev_bAnd (a b : BM) : bAnd a b env st = R.go (a env st) (kbAnd b env) := by
  unfold bAnd
  rw [ev_bind]
  exact go_ext fun c s => by cases c <;> rfl
theorem ev_kbAnd_t (b : BM) : kbAnd b env true st = b env st := rfl
theorem ev_kbAnd_f (b : BM) : kbAnd b env false st = .ok false st := rfl
theorem ev_bOr (a b : BM) : bOr a b env st = R.go (a env st) (kbOr b env) := by
  unfold bOr
  rw [ev_bind]
  exact go_ext fun c s => by cases c <;> rfl
theorem ev_kbOr_t (b : BM) : kbOr b env true st = .ok true st := rfl
theorem ev_kbOr_f (b : BM) : kbOr b env false st = b env st := rfl
theorem ev_bNot (a : BM) : bNot a env st = R.go (a env st) kbNot := by
  unfold bNot
  rw [ev_bind]
  rfl
theorem ev_kbNot (k : Bool) : kbNot k st = .ok (!k) st := rfl
theorem ev_aNil : aNil env st = .ok [] st := rfl
theorem ev_aCons (a : EM) (b : AM) : aCons a b env st = R.go (a env st) (kA1 b env) := by
  unfold aCons
  rw [ev_bind]
  refine go_ext fun x s => ?_
  rw [ev_bind]
  rfl
theorem ev_kA1 (b : AM) (x : D) : kA1 b env x st = R.go (b env st) (kA2 x) := rfl
theorem ev_kA2 (x : D) (xs : List D) : kA2 x xs st = .ok (x :: xs) st := rfl
theorem ev_tup (a : AM) : eTup a env st = R.go (a env st) kTup := by
  unfold eTup
  rw [ev_bind]
  exact go_ext fun x s => ev_opt _ _
theorem ev_kTup (xs : List D) : kTup xs st = R.ofO (if fits xs.length = true then some (.tup xs) else none) st := rfl
theorem ev_lst (a : AM) : eLst a env st = R.go (a env st) kLst := by
  unfold eLst
  rw [ev_bind]
  exact go_ext fun x s => ev_opt _ _
theorem ev_kLst (xs : List D) : kLst xs st = R.ofO (if fits xs.length = true then some (.lst xs) else none) st := rfl
theorem ev_lstC (a : AM) : eLstC a env st = R.go (a env st) kLstC := by
  unfold eLstC
  rw [ev_bind]
  refine go_ext fun x s => ?_
  unfold kLstC
  by_cases h : fits x.length = true
  · rw [if_pos h, if_pos h]; rfl
  · rw [if_neg h, if_neg h]; rfl
theorem ev_kLstC (xs : List D) : kLstC xs st = if fits xs.length = true then .ok (.cell st.length) (st ++ [.lst xs]) else .bad := rfl
theorem ev_call (op : Sto → List D → Option D) (a : AM) : eCall op a env st = R.go (a env st) (kCall op) := by
  unfold eCall
  rw [ev_bind]
  exact go_ext fun x s => ev_rd _ _
theorem ev_kCall (op : Sto → List D → Option D) (xs : List D) : kCall op xs st = R.ofO (op st xs) st := rfl
theorem ev_app (sem : List D → M D) (a : AM) : eApp sem a env st = R.go (a env st) sem := by
  unfold eApp
  rw [ev_bind]
theorem ev_chain (op op' : Sto → D → D → Option D) (a b c : EM) : eChain op op' a b c env st = R.go (a env st) (kC1 op op' b c env) := by
  unfold eChain
  rw [ev_bind]
  refine go_ext fun x s => ?_
  rw [ev_bind]
  refine go_ext fun y s1 => ?_
  rw [ev_bind, ev_rd]
  refine go_ext fun z s2 => ?_
  rw [ev_bind]
  refine go_ext fun k s3 => ?_
  cases k with
  | true =>
    rw [if_pos rfl, ev_bind]
    exact go_ext fun u s4 => ev_rd _ _
  | false => rfl
theorem ev_kC1 (op op' : Sto → D → D → Option D) (b c : EM) (x : D) : kC1 op op' b c env x st = R.go (b env st) (kC2 op op' x c env) := rfl
theorem ev_kC2 (op op' : Sto → D → D → Option D) (c : EM) (x y : D) : kC2 op op' x c env y st = R.go (R.ofO (op st x y) st) (kC3 op' y c env) := rfl
theorem ev_kC3 (op' : Sto → D → D → Option D) (c : EM) (y : D) (k : Bool) : kC3 op' y c env (.bl k) st = kC4 op' y c env k st := rfl
theorem ev_kC4_t (op' : Sto → D → D → Option D) (c : EM) (y : D) : kC4 op' y c env true st = R.go (c env st) (kB2 op' y) := rfl
theorem ev_kC4_f (op' : Sto → D → D → Option D) (c : EM) (y : D) : kC4 op' y c env false st = .ok (.bl false) st := rfl
theorem ev_sNext : sNext env st = .nx env st := rfl
theorem ev_sSeq (a b : SM) : sSeq a b env st = SR.go (a env st) b := by
  unfold sSeq
  cases a env st <;> rfl
theorem ev_sE (m : EM) (f : D → SM) : sE m f env st = R.toS (m env st) env f := by
  unfold sE
  cases m env st <;> rfl
theorem ev_sSet (i : Nat) (m : EM) : sSet i m env st = R.toS (m env st) env (kSet i) := ev_sE _ _ _ _
theorem ev_kSet (i : Nat) (d : D) : kSet i d env st = .nx (env.set i (some d)) st := rfl
theorem ev_sExpr (m : EM) : sExpr m env st = R.toS (m env st) env kExpr := ev_sE _ _ _ _
theorem ev_kExpr (d : D) : kExpr d env st = .nx env st := rfl
theorem ev_sRet (m : EM) : sRet m env st = R.toS (m env st) env kRet := ev_sE _ _ _ _
theorem ev_kRet (d : D) : kRet d env st = .rt d st := rfl
theorem ev_sRetN : sRetN env st = .rt .non st := rfl
theorem ev_sBreak : sBreak env st = .bk env st := rfl
theorem ev_sCont : sCont env st = .ct env st := rfl
theorem ev_sIf (c : BM) (a b : SM) : sIf c a b env st = R.toS (c env st) env (kIfS a b) := by
  unfold sIf sB
  cases c env st <;> rfl
theorem ev_kIfS_t (a b : SM) : kIfS a b true env st = a env st := rfl
theorem ev_kIfS_f (a b : SM) : kIfS a b false env st = b env st := rfl
theorem ev_sAsg (g : D → DEnv → Option DEnv) (m : EM) : sAsg g m env st = R.toS (m env st) env (kAsg g) := ev_sE _ _ _ _
theorem ev_kAsg1 (i : Nat) (d : D) : kAsg (gN i) d env st = .nx (env.set i (some d)) st := rfl
theorem ev_kAsg2 (i j : Nat) (x y : D) : kAsg (gT2 i j) (.tup [x, y]) env st = .nx ((env.set i (some x)).set j (some y)) st := rfl
theorem ev_kAsg3 (i j k : Nat) (x y z : D) : kAsg (gT3 i j k) (.tup [x, y, z]) env st = .nx (((env.set i (some x)).set j (some y)).set k (some z)) st := rfl
theorem ev_sPar (i j : Nat) (a b : EM) : sPar i j a b env st = R.toS (a env st) env (kP1 i j b) := by
  unfold sPar
  rw [ev_sE]
  refine toS_ext fun x e s => ?_
  rw [ev_sE]
  rfl
theorem ev_kP1 (i j : Nat) (b : EM) (x : D) : kP1 i j b x env st = R.toS (b env st) env (kP2 i j x) := rfl
theorem ev_kP2 (i j : Nat) (x y : D) : kP2 i j x y env st = .nx ((env.set i (some x)).set j (some y)) st := rfl
theorem ev_sPar3 (i j l : Nat) (a b c : EM) : sPar3 i j l a b c env st = R.toS (a env st) env (kQ1 i j l b c) := by
  unfold sPar3
  rw [ev_sE]
  refine toS_ext fun x e s => ?_
  rw [ev_sE]
  refine toS_ext fun y e s => ?_
  rw [ev_sE]
  rfl
theorem ev_kQ1 (i j l : Nat) (b c : EM) (x : D) : kQ1 i j l b c x env st = R.toS (b env st) env (kQ2 i j l x c) := rfl
theorem ev_kQ2 (i j l : Nat) (c : EM) (x y : D) : kQ2 i j l x c y env st = R.toS (c env st) env (kQ3 i j l x y) := rfl
theorem ev_kQ3 (i j l : Nat) (x y z : D) : kQ3 i j l x y z env st = .nx (((env.set i (some x)).set j (some y)).set l (some z)) st := rfl
theorem ev_sSub (mo mi mv : EM) (g : Sto → D → D → D → Option Sto) : sSub mo mi mv g env st = R.toS (mv env st) env (kS1 mo mi g) := by
  unfold sSub
  rw [ev_sE]
  refine toS_ext fun v e s => ?_
  rw [ev_sE]
  refine toS_ext fun o e s => ?_
  rw [ev_sE]
  rfl
theorem ev_kS1 (mo mi : EM) (g : Sto → D → D → D → Option Sto) (v : D) : kS1 mo mi g v env st = R.toS (mo env st) env (kS2 mi g v) := rfl
theorem ev_kS2 (mi : EM) (g : Sto → D → D → D → Option Sto) (v o : D) : kS2 mi g v o env st = R.toS (mi env st) env (kS3 g v o) := rfl
theorem ev_kS3 (g : Sto → D → D → D → Option Sto) (v o i : D) : kS3 g v o i env st = SR.ofO (g st o i v) env := by
  unfold kS3
  cases g st o i v <;> rfl
theorem ev_sFor (i : IM) (g : D → DEnv → Option DEnv) (b : SM) : sFor i g b env st = R.toS (i env st) env (kFor g b) := by
  unfold sFor
  cases i env st <;> rfl
theorem ev_kFor (g : D → DEnv → Option DEnv) (b : SM) (ds : List D) (c : Src) : kFor g b (ds, c) env st = forD c g b ds env st := rfl
theorem ev_range1 (m : EM) : iRange1 m env st = R.go (m env st) kR1 := by
  unfold iRange1
  rw [ev_bind]
  exact go_ext fun x s => ev_opt _ _
theorem ev_kR1 {j : Int} (h : small62 j = true) : kR1 (.int j) st = .ok (rngD 0 j, none) st := by
  unfold kR1
  dsimp only
  rw [if_pos h]
  rfl
theorem ev_range2 (a b : EM) : iRange2 a b env st = R.go (a env st) (kR2a b env) := by
  unfold iRange2
  rw [ev_bind]
  refine go_ext fun x s => ?_
  rw [ev_bind]
  exact go_ext fun y s => ev_opt _ _
theorem ev_kR2a (b : EM) (x : D) : kR2a b env x st = R.go (b env st) (kR2b x) := rfl
theorem ev_kR2b {i j : Int} (h : small62 i = true) (h' : small62 j = true) : kR2b (.int i) (.int j) st = .ok (rngD i j, none) st := by
  unfold kR2b
  dsimp only
  rw [h, h']
  rfl
theorem ev_seqT (m : EM) : iSeqT m env st = R.go (m env st) kST := by
  unfold iSeqT
  rw [ev_bind]
  exact go_ext fun x s => ev_opt _ _
theorem ev_kST (xs : List D) : kST (.tup xs) st = .ok (xs, none) st := rfl
theorem ev_seqL (m : EM) : iSeqL m env st = R.go (m env st) kSL := by
  unfold iSeqL
  rw [ev_bind]
  exact go_ext fun x s => ev_rd _ _
theorem ev_kSL (xs : List D) : kSL (.lst xs) st = .ok (xs, none) st := rfl
theorem ev_kSR (xs : List D) : kSL (.scr xs) st = .ok (xs, none) st := rfl
theorem ev_kSC {n : Nat} : kSL (.cell n) st = R.ofO ((lstOf st (.cell n)).map fun xs => (xs, some (n, xs))) st := rfl
theorem ev_lc (i : IM) (vs : List Nat) (g : D → DEnv → Option DEnv) (t : BM) (el : EM) : eLc i vs g t el env st = R.go (i env st) (kL1 g t el (forget env vs)) := by
  unfold eLc
  rw [ev_bind]
  refine go_ext fun d s => ?_
  rw [ev_bind]
  rfl
theorem ev_kL1 (g : D → DEnv → Option DEnv) (t : BM) (el : EM) (ds : List D) (c : Src) : kL1 g t el env (ds, c) st = R.go (lcD c g t el env ds [] st) kL2 := rfl
theorem ev_kL2 (xs : List D) : kL2 xs st = .ok (.lst xs) st := rfl
theorem ev_isi (T' : String) (a : EM) : eIsi T' a env st = R.go (a env st) (kU fun st x => if tyN st x = "" then none else (kitB (tyN st x) T').map .bl) := by
  unfold eIsi
  rw [ev_bind]
  exact go_ext fun x s => ev_rd _ _
end
theorem ev_fun {n l : Nat} {b : SM} {ds : List D} {st : Sto} (h : ds.length = n) : funD n l b ds st = SR.out (b (ds.map some ++ List.replicate (l - n) none) st) := by
  unfold funD
  rw [if_pos h]
  cases b (ds.map some ++ List.replicate (l - n) none) st <;> rfl
theorem ev_fun0 (l : Nat) (b : SM) (st : Sto) : funD 0 l b [] st = SR.out (b (List.replicate l none) st) := ev_fun rfl
theorem ev_fun1 (l : Nat) (b : SM) (x : D) (st : Sto) : funD 1 l b [x] st = SR.out (b (some x :: List.replicate (l - 1) none) st) := ev_fun rfl
theorem ev_fun2 (l : Nat) (b : SM) (x y : D) (st : Sto) : funD 2 l b [x, y] st = SR.out (b (some x :: some y :: List.replicate (l - 2) none) st) := ev_fun rfl
theorem ev_fun3 (l : Nat) (b : SM) (x y z : D) (st : Sto) : funD 3 l b [x, y, z] st = SR.out (b (some x :: some y :: some z :: List.replicate (l - 3) none) st) := ev_fun rfl
theorem ev_fun4 (l : Nat) (b : SM) (x y z u : D) (st : Sto) : funD 4 l b [x, y, z, u] st = SR.out (b (some x :: some y :: some z :: some u :: List.replicate (l - 4) none) st) := ev_fun rfl
theorem ev_fun5 (l : Nat) (b : SM) (x y z u v : D) (st : Sto) : funD 5 l b [x, y, z, u, v] st = SR.out (b (some x :: some y :: some z :: some u :: some v :: List.replicate (l - 5) none) st) := ev_fun rfl
def C.seq : Option C → Option (List D)
  | some (.lst xs) => some xs
  | _ => none
theorem ev_seq (xs : List D) : C.seq (some (.lst xs)) = some xs := rfl
theorem lstOf_seq (st : Sto) (n : Nat) : lstOf st (.cell n) = C.seq st[n]? := by
  show (match st[n]? with | some (.lst xs) => some xs | _ => none) = _
  cases st[n]? with
  | none => rfl
  | some c => cases c <;> rfl
def ixO (o : Option (List D)) (i : Int) : Option D := match o with
  | some xs => atI xs i
  | none => none
theorem ev_ixO (xs : List D) (i : Int) : ixO (some xs) i = atI xs i := rfl
def setO (st : Sto) (n : Nat) (o : Option (List D)) (i : Int) (v : D) : Option Sto := match o with
  | some xs => (ixN xs.length i).map fun j => st.set n (.lst (xs.set j v))
  | none => none
theorem ev_atI0 {α : Type} (a : α) (r : List α) : atI (a :: r) 0 = some a := by
  unfold atI ixN
  rw [if_pos (by omega), if_pos (by simp <;> omega)]
  rfl
theorem ev_atI1 {α : Type} (a b : α) (r : List α) : atI (a :: b :: r) 1 = some b := by
  unfold atI ixN
  rw [if_pos (by omega), if_pos (by simp <;> omega)]
  rfl
theorem ev_atI2 {α : Type} (a b c : α) (r : List α) : atI (a :: b :: c :: r) 2 = some c := by
  unfold atI ixN
  rw [if_pos (by omega), if_pos (by simp <;> omega)]
  rfl
theorem ev_setAt (st : Sto) (n : Nat) (c : C) : (st.set n c)[n]? = (st[n]?).map fun _ => c := by
  by_cases h : n < st.length
  · rw [List.getElem?_set_self h, List.getElem?_eq_getElem h]; rfl
  · rw [List.getElem?_eq_none (by simpa using h), List.getElem?_eq_none (by omega)]; rfl
/-! operations, where the answer is plain -/
theorem orO_some {α : Type} (a : α) (o : Option α) : orO (some a) o = some a := rfl
theorem orO_none {α : Type} (o : Option α) : orO none o = o := rfl
section
variable (st : Sto) (i j : Int) (x y : Str)
theorem ev_addII : addD st (.int i) (.int j) = some (.int (i + j)) := rfl
theorem ev_addSS : addD st (.str x) (.str y) = if fits (x.length + y.length) = true then some (.str (x ++ y)) else none := by
  show orO (none : Option D) (orO (if fits (x.length + y.length) = true then some (D.str (x ++ y)) else none) (orO none none)) = _
  rw [orO_none]
  by_cases h : fits (x.length + y.length) = true
  · rw [if_pos h]; rfl
  · rw [if_neg h]; rfl
theorem ev_addTT (xs ys : List D) : addD st (.tup xs) (.tup ys) = if fits (xs.length + ys.length) = true then some (.tup (xs ++ ys)) else none := by
  show orO (none : Option D) (orO none (orO (if fits (xs.length + ys.length) = true then some (D.tup (xs ++ ys)) else none) none)) = _
  rw [orO_none, orO_none]
  by_cases h : fits (xs.length + ys.length) = true
  · rw [if_pos h]; rfl
  · rw [if_neg h]; rfl
theorem ev_addLL (xs ys : List D) : addD st (.lst xs) (.lst ys) = if fits (xs.length + ys.length) = true then some (.lst (xs ++ ys)) else none := rfl
theorem ev_subII : subI (.int i) (.int j) = some (.int (i - j)) := rfl
theorem ev_mulII : mulD st (.int i) (.int j) = orO (if mulOk i j = true then some (.int (i * j)) else none) none := rfl
theorem ev_mulII' (h : mulOk i j = true) : mulD st (.int i) (.int j) = some (.int (i * j)) := by rw [ev_mulII, if_pos h]; rfl
theorem ev_fdivII : fdivI (.int i) (.int j) = if divOk i j = true then some (.int (i / j)) else none := rfl
theorem ev_modII : modI (.int i) (.int j) = if modOk i j = true then some (.int (i % j)) else none := rfl
theorem ev_powII : powI (.int i) (.int j) = if powOk i j = true then some (.int (i ^ j.toNat)) else none := rfl
theorem ev_negI : negI (.int i) = some (.int (-i)) := rfl
theorem ev_ltII : ltD st (.int i) (.int j) = some (.bl (decide (i < j))) := rfl
theorem ev_leII : leD st (.int i) (.int j) = some (.bl (decide (i ≤ j))) := rfl
theorem ev_gtII : gtD st (.int i) (.int j) = some (.bl (decide (j < i))) := rfl
theorem ev_geII : geD st (.int i) (.int j) = some (.bl (decide (j ≤ i))) := rfl
theorem ev_ltSS : ltD st (.str x) (.str y) = some (.bl (decide (x.cps.toList < y.cps.toList))) := rfl
theorem ev_leSS : leD st (.str x) (.str y) = some (.bl (!decide (y.cps.toList < x.cps.toList))) := rfl
theorem ev_abs : absD st [.int i] = some (.int (if i < 0 then -i else i)) := rfl
theorem ev_max : maxD st [.int i, .int j] = some (.int (if j > i then j else i)) := rfl
theorem ev_min : minD st [.int i, .int j] = some (.int (if j < i then j else i)) := rfl
theorem ev_intI : intD st [.int i] = some (.int i) := rfl
theorem ev_intB (b : Bool) : intD st [.bl b] = some (.int (if b = true then 1 else 0)) := rfl
theorem ev_strI : strI st [.int i] = if decide (i.natAbs.log2 < 1920) = true then some (.str (toString i)) else none := rfl
theorem ev_lenS : lenD st [.str x] = if fits x.length = true then some (.int x.length) else none := rfl
theorem ev_lenT (ys : List D) : lenD st [.tup ys] = some (.int ys.length) := rfl
theorem ev_lenL (ys : List D) : lenD st [.lst ys] = some (.int ys.length) := rfl
theorem ev_lenR (ys : List D) : lenD st [.scr ys] = some (.int ys.length) := rfl
theorem ev_ixT (ys : List D) : ixD st (.tup ys) (.int i) = orO (atI ys i) (orO none none) := rfl
theorem ev_ixL (ys : List D) : ixD st (.lst ys) (.int i) = orO none (orO (atI ys i) none) := rfl
theorem ev_ixR (ys : List D) : ixD st (.scr ys) (.int i) = orO none (orO (atI ys i) none) := rfl
theorem ev_ixC (n : Nat) : ixD st (.cell n) (.int i) = orO none (orO (ixO (C.seq st[n]?) i) none) := by
  show orO none (orO (match lstOf st (.cell n), D.int i with | some xs, .int i => atI xs i | _, _ => none) none) = _
  rw [lstOf_seq]
  cases C.seq st[n]? <;> rfl
theorem ev_ixS : ixD st (.str x) (.int i) = orO none (orO none (if fits x.length = true then (atI x.cps.toList i).map fun c => .str ⟨#[c]⟩ else none)) := rfl
theorem ev_setIx (n : Nat) (v : D) : setIx st (.cell n) (.int i) v = setO st n (C.seq st[n]?) i v := by
  show (match st[n]? with | some (.lst xs) => (ixN xs.length i).map fun j => st.set n (.lst (xs.set j v)) | _ => none) = _
  cases st[n]? with
  | none => rfl
  | some c => cases c <;> rfl
theorem ev_setO0 (n : Nat) (a v : D) (r : List D) : setO st n (some (a :: r)) 0 v = some (st.set n (.lst (v :: r))) := by
  unfold setO ixN
  dsimp only
  rw [if_pos (by omega), if_pos (by simp <;> omega)]
  rfl
theorem ev_setO1 (n : Nat) (a b v : D) (r : List D) : setO st n (some (a :: b :: r)) 1 v = some (st.set n (.lst (a :: v :: r))) := by
  unfold setO ixN
  dsimp only
  rw [if_pos (by omega), if_pos (by simp <;> omega)]
  rfl
theorem ev_setO2 (n : Nat) (a b c v : D) (r : List D) : setO st n (some (a :: b :: c :: r)) 2 v = some (st.set n (.lst (a :: b :: v :: r))) := by
  unfold setO ixN
  dsimp only
  rw [if_pos (by omega), if_pos (by simp <;> omega)]
  rfl
theorem ev_lenC (n : Nat) : lenD st [.cell n] = (C.seq st[n]?).map fun ys => .int ys.length := by
  show (lstOf st (.cell n)).map (fun ys => D.int ys.length) = _
  rw [lstOf_seq]
end
theorem atI_nat {α : Type} {xs : List α} {i : Nat} {a : α} (h : xs[i]? = some a) : atI xs (i : Int) = some a := by
  have hl := (List.getElem?_eq_some_iff.mp h).1
  unfold atI ixN
  rw [if_pos (by omega), if_pos (by omega), Option.bind_some]
  simpa using h
theorem modOk_of {i j : Int} (h : 0 < j) : modOk i j = true := decide_eq_true h
theorem log2_of {i : Int} {n : Nat} (h : i.natAbs < 2 ^ n) (hn : 0 < n) : i.natAbs.log2 < n := by
  by_cases h0 : i.natAbs = 0
  · rw [h0]; simpa using hn
  · exact (Nat.log2_lt h0).mpr h
theorem divOk_of {i j : Int} {n : Nat} (h : 0 < j) (hb : j.natAbs < 2 ^ n) (h0 : 0 < n) (hn : n ≤ 9000) : divOk i j = true := by
  unfold divOk
  rw [Bool.and_eq_true, decide_eq_true_eq, decide_eq_true_eq]
  exact ⟨h, Nat.lt_of_lt_of_le (log2_of hb h0) hn⟩
theorem mulOk_of {i j : Int} {n m : Nat} (hi : i.natAbs < 2 ^ n) (hj : j.natAbs < 2 ^ m) (h0 : 0 < n) (h1 : 0 < m) (h : n + m ≤ 1000000) : mulOk i j = true := by
  unfold mulOk
  rw [decide_eq_true_eq]
  have := log2_of hi h0
  have := log2_of hj h1
  omega
theorem fits_of {n : Nat} (h : n ≤ 16777216) : fits n = true := decide_eq_true h
theorem join_some {α : Type} (o : Option α) : (some o).join = o := rfl
end L3
namespace L3
open PySem PySem.Spec PyProof.Rows L2

/-! ## The kinds of data, for isinstance -/
theorem kit_NoneType_int : kitB "NoneType" "int" = some false := by decide +kernel
theorem kit_NoneType_bool : kitB "NoneType" "bool" = some false := by decide +kernel
theorem kit_NoneType_str : kitB "NoneType" "str" = some false := by decide +kernel
theorem kit_NoneType_tuple : kitB "NoneType" "tuple" = some false := by decide +kernel
theorem kit_NoneType_list : kitB "NoneType" "list" = some false := by decide +kernel
theorem kit_NoneType_dict : kitB "NoneType" "dict" = some false := by decide +kernel
theorem kit_bool_int : kitB "bool" "int" = some true := by decide +kernel
theorem kit_bool_bool : kitB "bool" "bool" = some true := by decide +kernel
theorem kit_bool_str : kitB "bool" "str" = some false := by decide +kernel
theorem kit_bool_tuple : kitB "bool" "tuple" = some false := by decide +kernel
theorem kit_bool_list : kitB "bool" "list" = some false := by decide +kernel
theorem kit_bool_dict : kitB "bool" "dict" = some false := by decide +kernel
theorem kit_int_int : kitB "int" "int" = some true := by decide +kernel
theorem kit_int_bool : kitB "int" "bool" = some false := by decide +kernel
theorem kit_int_str : kitB "int" "str" = some false := by decide +kernel
theorem kit_int_tuple : kitB "int" "tuple" = some false := by decide +kernel
theorem kit_int_list : kitB "int" "list" = some false := by decide +kernel
theorem kit_int_dict : kitB "int" "dict" = some false := by decide +kernel
theorem kit_str_int : kitB "str" "int" = some false := by decide +kernel
theorem kit_str_bool : kitB "str" "bool" = some false := by decide +kernel
theorem kit_str_str : kitB "str" "str" = some true := by decide +kernel
theorem kit_str_tuple : kitB "str" "tuple" = some false := by decide +kernel
theorem kit_str_list : kitB "str" "list" = some false := by decide +kernel
theorem kit_str_dict : kitB "str" "dict" = some false := by decide +kernel
theorem kit_tuple_int : kitB "tuple" "int" = some false := by decide +kernel
theorem kit_tuple_bool : kitB "tuple" "bool" = some false := by decide +kernel
theorem kit_tuple_str : kitB "tuple" "str" = some false := by decide +kernel
theorem kit_tuple_tuple : kitB "tuple" "tuple" = some true := by decide +kernel
theorem kit_tuple_list : kitB "tuple" "list" = some false := by decide +kernel
theorem kit_tuple_dict : kitB "tuple" "dict" = some false := by decide +kernel
theorem kit_list_int : kitB "list" "int" = some false := by decide +kernel
theorem kit_list_bool : kitB "list" "bool" = some false := by decide +kernel
theorem kit_list_str : kitB "list" "str" = some false := by decide +kernel
theorem kit_list_tuple : kitB "list" "tuple" = some false := by decide +kernel
theorem kit_list_list : kitB "list" "list" = some true := by decide +kernel
theorem kit_list_dict : kitB "list" "dict" = some false := by decide +kernel
theorem kit_dict_int : kitB "dict" "int" = some false := by decide +kernel
theorem kit_dict_bool : kitB "dict" "bool" = some false := by decide +kernel
theorem kit_dict_str : kitB "dict" "str" = some false := by decide +kernel
theorem kit_dict_tuple : kitB "dict" "tuple" = some false := by decide +kernel
theorem kit_dict_list : kitB "dict" "list" = some false := by decide +kernel
theorem kit_dict_dict : kitB "dict" "dict" = some true := by decide +kernel
section
variable (st : Sto)
theorem ty_non : tyN st .non = "NoneType" := rfl
theorem ty_bl (b : Bool) : tyN st (.bl b) = "bool" := rfl
theorem ty_int (i : Int) : tyN st (.int i) = "int" := rfl
theorem ty_str (x : Str) : tyN st (.str x) = "str" := rfl
theorem ty_tup (xs : List D) : tyN st (.tup xs) = "tuple" := rfl
theorem ty_lst (xs : List D) : tyN st (.lst xs) = "list" := rfl
theorem ty_scr (xs : List D) : tyN st (.scr xs) = "list" := rfl
theorem ty_dic (xs : List (Key × D)) : tyN st (.dic xs) = "dict" := rfl
end
def kIsi (T' : String) : D → M D := fun x st => R.ofO (if tyN st x = "" then none else (kitB (tyN st x) T').map .bl) st
theorem ev_isi' (T' : String) (a : EM) (env : DEnv) (st : Sto) : eIsi T' a env st = R.go (a env st) (kIsi T') := by
  rw [ev_isi]
  rfl
theorem ev_kIsi {T' t : String} {x : D} {st : Sto} (h : tyN st x = t) (h0 : (t == "") = false) : kIsi T' x st = R.ofO ((kitB t T').map .bl) st := by
  unfold kIsi
  rw [h, if_neg (by simpa using h0)]
section
variable (T' : String) (st : Sto)
theorem ev_isi_non : kIsi T' .non st = R.ofO ((kitB "NoneType" T').map .bl) st := ev_kIsi rfl rfl
theorem ev_isi_bl (b : Bool) : kIsi T' (.bl b) st = R.ofO ((kitB "bool" T').map .bl) st := ev_kIsi rfl rfl
theorem ev_isi_int (i : Int) : kIsi T' (.int i) st = R.ofO ((kitB "int" T').map .bl) st := ev_kIsi rfl rfl
theorem ev_isi_str (x : Str) : kIsi T' (.str x) st = R.ofO ((kitB "str" T').map .bl) st := ev_kIsi rfl rfl
theorem ev_isi_tup (xs : List D) : kIsi T' (.tup xs) st = R.ofO ((kitB "tuple" T').map .bl) st := ev_kIsi rfl rfl
theorem ev_isi_lst (xs : List D) : kIsi T' (.lst xs) st = R.ofO ((kitB "list" T').map .bl) st := ev_kIsi rfl rfl
theorem ev_isi_scr (xs : List D) : kIsi T' (.scr xs) st = R.ofO ((kitB "list" T').map .bl) st := ev_kIsi rfl rfl
theorem ev_isi_dic (xs : List (Key × D)) : kIsi T' (.dic xs) st = R.ofO ((kitB "dict" T').map .bl) st := ev_kIsi rfl rfl
end

/-! ## Loops -/
theorem forD_nil (c : Src) (g : D → DEnv → Option DEnv) (b : SM) (e : DEnv) (s : Sto) : forD c g b [] e s = if c.ok s = true then .nx e s else .bad := rfl
theorem forD_inv {c : Src} {g : D → DEnv → Option DEnv} {b : SM} {items : List D} (Inv : Nat → DEnv → Sto → Prop) {e : DEnv} {s : Sto} (h0 : Inv 0 e s) (hc : ∀ i e s, Inv i e s → c.ok s = true)
    (turn : ∀ i d e s, items[i]? = some d → Inv i e s → ∃ e1, g d e = some e1 ∧ ∃ e2 s2, (b e1 s = .nx e2 s2 ∨ b e1 s = .ct e2 s2) ∧ Inv (i + 1) e2 s2) : ∃ e' s', forD c g b items e s = .nx e' s' ∧ Inv items.length e' s' := by
  suffices h : ∀ (xs : List D) (i : Nat) (e : DEnv) (s : Sto), i ≤ items.length → items.drop i = xs → Inv i e s → ∃ e' s', forD c g b xs e s = .nx e' s' ∧ Inv items.length e' s' from h items 0 e s (Nat.zero_le _) (by simp) h0
  intro xs
  induction xs with
  | nil =>
    intro i e s hle hd hi
    have hl : items.length ≤ i := by
      have := congrArg List.length hd
      rw [List.length_drop] at this
      simp at this
      omega
    have hz : i = items.length := by omega
    subst hz
    exact ⟨e, s, by rw [forD_nil, if_pos (hc _ e s hi)], hi⟩
  | cons x xs ih =>
    intro i e s hle hd hi
    have hx : items[i]? = some x := by
      have := congrArg (·[0]?) hd
      simpa using this
    have hlt : i < items.length := (List.getElem?_eq_some_iff.mp hx).1
    have hxs : items.drop (i + 1) = xs := by
      have := congrArg (List.drop 1) hd
      rw [List.drop_drop] at this
      simpa [Nat.add_comm] using this
    obtain ⟨e1, hg, e2, s2, hb, h2⟩ := turn i x e s hx hi
    obtain ⟨e', s', h3, h4⟩ := ih (i + 1) e2 s2 hlt hxs h2
    refine ⟨e', s', ?_, h4⟩
    show (if c.ok s = true then (match g x e with
      | none => SR.bad
      | some e1 => match b e1 s with
        | .nx e2 s2 => forD c g b xs e2 s2
        | .ct e2 s2 => forD c g b xs e2 s2
        | .bk e2 s2 => .nx e2 s2
        | .rt d s2 => .rt d s2
        | .ex y e2 s2 => .ex y e2 s2
        | .bad => .bad) else .bad) = _
    rw [if_pos (hc i e s hi), hg]
    dsimp only
    rcases hb with hb | hb
    · rw [hb]; exact h3
    · rw [hb]; exact h3
theorem rngD_length (lo hi : Int) : (rngD lo hi).length = (hi - lo).toNat := by unfold rngD; simp
theorem rngD_get {lo hi : Int} {i : Nat} {d : D} (h : (rngD lo hi)[i]? = some d) : d = .int (lo + i) ∧ i < (hi - lo).toNat := by
  unfold rngD at h
  rw [List.getElem?_map] at h
  by_cases hl : i < (hi - lo).toNat
  · rw [List.getElem?_range hl] at h
    cases h
    exact ⟨rfl, hl⟩
  · rw [List.getElem?_eq_none (by simpa using hl)] at h
    cases h
theorem small62_of {i : Int} (h : -4611686018427387904 ≤ i) (h' : i < 4611686018427387904) : small62 i = true := by
  unfold small62
  rw [Bool.and_eq_true, decide_eq_true_eq, decide_eq_true_eq]
  exact ⟨h, h'⟩
/-! ## Numbers -/
theorem ev_fits_00 : fits 0 = true := rfl
theorem ev_fits_01 : fits 1 = true := rfl
theorem ev_fits_02 : fits 2 = true := rfl
theorem ev_fits_03 : fits 3 = true := rfl
theorem ev_fits_04 : fits 4 = true := rfl
theorem ev_fits_05 : fits 5 = true := rfl
theorem ev_fits_06 : fits 6 = true := rfl
theorem ev_fits_07 : fits 7 = true := rfl
theorem ev_fits_08 : fits 8 = true := rfl
theorem ev_fits_09 : fits 9 = true := rfl
theorem ev_fits_10 : fits 10 = true := rfl
theorem ev_fits_11 : fits 11 = true := rfl
theorem ev_fits_12 : fits 12 = true := rfl
theorem ev_fits_13 : fits 13 = true := rfl
theorem ev_fits_14 : fits 14 = true := rfl
theorem ev_fits_15 : fits 15 = true := rfl
theorem ev_fits_16 : fits 16 = true := rfl
theorem ev_fits_17 : fits 17 = true := rfl
theorem ev_fits_18 : fits 18 = true := rfl
theorem ev_fits_19 : fits 19 = true := rfl
theorem ev_fits_20 : fits 20 = true := rfl
theorem ev_fits_21 : fits 21 = true := rfl
theorem ev_fits_22 : fits 22 = true := rfl
theorem ev_fits_23 : fits 23 = true := rfl
theorem ev_fits_24 : fits 24 = true := rfl
theorem ev_fits_25 : fits 25 = true := rfl
theorem ev_fits_26 : fits 26 = true := rfl
theorem ev_fits_27 : fits 27 = true := rfl
theorem ev_fits_28 : fits 28 = true := rfl
theorem ev_fits_29 : fits 29 = true := rfl
theorem ev_fits_30 : fits 30 = true := rfl
theorem ev_fits_31 : fits 31 = true := rfl
theorem ev_fits_32 : fits 32 = true := rfl

theorem natAbs_lt {i : Int} {n : Nat} (h0 : 0 ≤ i) (h : i < 2 ^ n) : i.natAbs < 2 ^ n := by
  have : ((i.natAbs : Nat) : Int) = i := Int.natAbs_of_nonneg h0
  have h2 : ((i.natAbs : Nat) : Int) < ((2 ^ n : Nat) : Int) := by rw [this]; simpa using h
  exact Int.ofNat_lt.mp h2
theorem emod_abs {x m : Int} {n : Nat} (h : 0 < m) (hm : m ≤ 2 ^ n) : (x % m).natAbs < 2 ^ n := natAbs_lt (Int.emod_nonneg _ (by omega)) (Int.lt_of_lt_of_le (Int.emod_lt_of_pos _ h) hm)
theorem abs_if (i : Int) : (if i < 0 then -i else i) = (i.natAbs : Int) := by
  split <;> omega
end L3
namespace L3
open PySem PySem.Spec PyProof.Rows L2

/-! ## Equality of data -/
section
variable (st : Sto) (i j : Int) (x y : Str)
theorem ev_eqII : eqD st (.int i) (.int j) = some (.bl (decide (i = j))) := rfl
theorem ev_neII : neD st (.int i) (.int j) = some (.bl (!decide (i = j))) := rfl
theorem ev_eqSS : eqD st (.str x) (.str y) = some (.bl (decide (x = y))) := rfl
theorem ev_neSS : neD st (.str x) (.str y) = some (.bl (!decide (x = y))) := rfl
end
def D.cmp : Nat → D → Bool
  | _, .non => true
  | _, .bl _ => true
  | _, .int _ => true
  | _, .str x => PyData.strOk x
  | 0, _ => false
  | n + 1, .tup xs => xs.all (D.cmp n)
  | n + 1, .lst xs => xs.all (D.cmp n)
  | n + 1, .scr xs => xs.all (D.cmp n)
  | _ + 1, _ => false
def pnI (b : Bool) : Int := if b = true then 1 else 0
mutual
def pn : PyData → D
  | .none => .non
  | .bool b => .int (pnI b)
  | .int i => .int i
  | .str x => .str x
  | .list xs => .lst (pns xs)
  | .tuple xs => .tup (pns xs)
  | .dict _ => .dic []
def pns : List PyData → List D
  | [] => []
  | x :: xs => pn x :: pns xs
end
mutual
def D.norm : D → D
  | .non => .non
  | .bl b => .int (pnI b)
  | .int i => .int i
  | .str x => .str x
  | .tup xs => .tup (D.norms xs)
  | .lst xs => .lst (D.norms xs)
  | .scr xs => .lst (D.norms xs)
  | .dic _ => .dic []
  | .cell n => .cell n
def D.norms : List D → List D
  | [] => []
  | x :: xs => D.norm x :: D.norms xs
end
theorem norms_map (xs : List D) : D.norms xs = xs.map D.norm := by
  induction xs with
  | nil => rfl
  | cons x xs ih => rw [D.norms, ih, List.map_cons]
theorem pnI_inj (a b : Bool) : (pnI a = pnI b) ↔ a = b := by cases a <;> cases b <;> decide
theorem pnI_beq (a : Bool) (j : Int) : ((if a = true then 1 else 0) == j) = true ↔ pnI a = j := by unfold pnI; rw [beq_iff_eq]
theorem pnI_beq' (a : Bool) (j : Int) : (j == (if a = true then 1 else 0)) = true ↔ j = pnI a := by unfold pnI; rw [beq_iff_eq]
mutual
theorem eqv_iff : ∀ p q : PyData, p.hasDict = false → (PyData.eqv p q = true ↔ pn p = pn q)
  | .none, q, _ => by cases q <;> simp [PyData.eqv, pn]
  | .bool a, q, _ => by
    cases q with
    | bool b => rw [PyData.eqv, pn, pn, D.int.injEq, pnI_inj, beq_iff_eq]
    | int j => rw [PyData.eqv, pn, pn, D.int.injEq, pnI_beq]
    | _ => simp [PyData.eqv, pn]
  | .int i, q, _ => by cases q <;> simp [PyData.eqv, pn, pnI_beq', pnI]
  | .str x, q, _ => by cases q <;> simp [PyData.eqv, pn]
  | .list xs, q, h => by
    rw [PyData.hasDict] at h
    cases q with
    | list ys => rw [PyData.eqv, pn, pn, eqvs_iff xs ys h]; exact ⟨fun e => by rw [e], fun e => D.lst.inj e⟩
    | _ => simp [PyData.eqv, pn]
  | .tuple xs, q, h => by
    rw [PyData.hasDict] at h
    cases q with
    | tuple ys => rw [PyData.eqv, pn, pn, eqvs_iff xs ys h]; exact ⟨fun e => by rw [e], fun e => D.tup.inj e⟩
    | _ => simp [PyData.eqv, pn]
  | .dict _, _, h => by rw [PyData.hasDict] at h; cases h
theorem eqvs_iff : ∀ xs ys : List PyData, PyData.hasDictAll xs = false → (PyData.eqvAll xs ys = true ↔ pns xs = pns ys)
  | [], ys, _ => by cases ys <;> simp [PyData.eqvAll, pns]
  | x :: xs, ys, h => by
    rw [PyData.hasDictAll, Bool.or_eq_false_iff] at h
    cases ys with
    | nil => simp [PyData.eqvAll, pns]
    | cons y ys => rw [PyData.eqvAll, pns, pns, Bool.and_eq_true, eqv_iff x y h.1, eqvs_iff xs ys h.2, List.cons.injEq]
end
mutual
theorem pn_py : ∀ {x : D} {p : PyData}, D.py x = some p → pn p = x.norm
  | .non, _, h => by rw [D.py] at h; cases h; rfl
  | .bl b, _, h => by rw [D.py] at h; cases h; rfl
  | .int i, _, h => by rw [D.py] at h; cases h; rfl
  | .str x, _, h => by rw [D.py] at h; cases h; rfl
  | .tup xs, _, h => by
    rw [D.py] at h
    cases e : D.pys xs with
    | none => rw [e] at h; cases h
    | some ps => rw [e] at h; cases h; rw [pn, D.norm, pns_pys e]
  | .lst xs, _, h => by
    rw [D.py] at h
    cases e : D.pys xs with
    | none => rw [e] at h; cases h
    | some ps => rw [e] at h; cases h; rw [pn, D.norm, pns_pys e]
  | .scr xs, _, h => by
    rw [D.py] at h
    cases e : D.pys xs with
    | none => rw [e] at h; cases h
    | some ps => rw [e] at h; cases h; rw [pn, D.norm, pns_pys e]
  | .dic _, _, h => by rw [D.py] at h; cases h
  | .cell _, _, h => by rw [D.py] at h; cases h
theorem pns_pys : ∀ {xs : List D} {ps : List PyData}, D.pys xs = some ps → pns ps = D.norms xs
  | [], _, h => by rw [D.pys] at h; cases h; rfl
  | x :: xs, _, h => by
    rw [D.pys] at h
    cases e : D.py x with
    | none => rw [e] at h; cases h
    | some p =>
      rw [e] at h
      cases e2 : D.pys xs with
      | none => rw [Option.bind_some, e2] at h; cases h
      | some ps => rw [Option.bind_some, e2] at h; cases h; rw [pns, D.norms, pn_py e, pns_pys e2]
end
theorem cmps_py {n : Nat} (ih : ∀ x : D, D.cmp n x = true → ∃ p, D.py x = some p ∧ p.canLay0 = true ∧ p.depth ≤ n) : ∀ {xs : List D}, xs.all (D.cmp n) = true → ∃ ps, D.pys xs = some ps ∧ PyData.canLayAll0 ps = true ∧ PyData.depthAll ps ≤ n
  | [], _ => ⟨[], by rw [D.pys], by rw [PyData.canLayAll0], by rw [PyData.depthAll]; omega⟩
  | x :: xs, h => by
    rw [List.all_cons, Bool.and_eq_true] at h
    obtain ⟨p, h1, h2, h3⟩ := ih x h.1
    obtain ⟨ps, h4, h5, h6⟩ := cmps_py ih h.2
    exact ⟨p :: ps, by rw [D.pys, h1, h4]; rfl, by rw [PyData.canLayAll0, h2, h5]; rfl, by rw [PyData.depthAll]; omega⟩
theorem cmp_py : ∀ {n : Nat} {x : D}, D.cmp n x = true → ∃ p, D.py x = some p ∧ p.canLay0 = true ∧ p.depth ≤ n
  | _, .non, _ => ⟨_, by rw [D.py], by rw [PyData.canLay0], by rw [PyData.depth]; omega⟩
  | _, .bl _, _ => ⟨_, by rw [D.py], by rw [PyData.canLay0], by rw [PyData.depth]; omega⟩
  | _, .int _, _ => ⟨_, by rw [D.py], by rw [PyData.canLay0], by rw [PyData.depth]; omega⟩
  | n, .str x, h => ⟨_, by rw [D.py], by rw [PyData.canLay0]; cases n <;> exact h, by rw [PyData.depth]; omega⟩
  | n + 1, .tup xs, h => by
    obtain ⟨ps, h4, h5, h6⟩ := cmps_py (n := n) (fun x hx => cmp_py hx) h
    exact ⟨_, by rw [D.py, h4]; rfl, by rw [PyData.canLay0, h5], by rw [PyData.depth]; omega⟩
  | n + 1, .lst xs, h => by
    obtain ⟨ps, h4, h5, h6⟩ := cmps_py (n := n) (fun x hx => cmp_py hx) h
    exact ⟨_, by rw [D.py, h4]; rfl, by rw [PyData.canLay0, h5], by rw [PyData.depth]; omega⟩
  | n + 1, .scr xs, h => by
    obtain ⟨ps, h4, h5, h6⟩ := cmps_py (n := n) (fun x hx => cmp_py hx) h
    exact ⟨_, by rw [D.py, h4]; rfl, by rw [PyData.canLay0, h5], by rw [PyData.depth]; omega⟩
  | 0, .tup _, h => nomatch h
  | 0, .lst _, h => nomatch h
  | 0, .scr _, h => nomatch h
  | 0, .dic _, h => nomatch h
  | 0, .cell _, h => nomatch h
  | _ + 1, .dic _, h => nomatch h
  | _ + 1, .cell _, h => nomatch h
theorem topPy_cmp {n : Nat} {x : D} (st : Sto) (h : D.cmp n x = true) : topPy st x = D.py x := by
  cases x with
  | cell m => cases n <;> exact nomatch h
  | _ => rfl
theorem shaped_cmp {n : Nat} {p : PyData} (h : p.canLay0 = true) (h' : p.depth ≤ n) (hn : n ≤ 64) : SeqAt.shaped p = true := by
  unfold SeqAt.shaped
  rw [h, decide_eq_true (Nat.le_trans h' hn)]
  rfl
theorem eqP_of {n m : Nat} {x y : D} {b : Bool} (st : Sto) (hx : D.cmp n x = true) (hy : D.cmp m y = true) (hn : n ≤ 64) (hm : m ≤ 64) (hb : b = true ↔ x.norm = y.norm) : eqP st x y = some (.bl b) ∧ neP st x y = some (.bl (!b)) := by
  obtain ⟨p, h1, h2, h3⟩ := cmp_py hx
  obtain ⟨q, h4, h5, h6⟩ := cmp_py hy
  have hd : p.hasDict = false := PyData.hasDict_of_canLay p h2
  have he : PyData.eqv p q = b := by
    rw [Bool.eq_iff_iff, eqv_iff p q hd, pn_py h1, pn_py h4, hb]
  unfold eqP neP
  rw [topPy_cmp st hx, topPy_cmp st hy, h1, h4, Option.bind_some, Option.bind_some, Option.bind_some, Option.bind_some, shaped_cmp h2 h3 hn, shaped_cmp h5 h6 hm, he]
  exact ⟨rfl, rfl⟩
theorem eqD_of {n m : Nat} {x y : D} {b : Bool} (st : Sto) (hx : D.cmp n x = true) (hy : D.cmp m y = true) (hn : n ≤ 64) (hm : m ≤ 64) (hb : b = true ↔ x.norm = y.norm) : eqD st x y = some (.bl b) ∧ neD st x y = some (.bl (!b)) := by
  obtain ⟨h1, h2⟩ := eqP_of st hx hy hn hm hb
  unfold eqD neD
  rw [h1, h2]
  have ei : ∀ i j : Int, (D.int i).norm = (D.int j).norm ↔ i = j := fun i j => by rw [D.norm, D.norm, D.int.injEq]
  have es : ∀ i j : Str, (D.str i).norm = (D.str j).norm ↔ i = j := fun i j => by rw [D.norm, D.norm, D.str.injEq]
  cases x with
  | int i =>
    cases y with
    | int j =>
      rw [ei] at hb
      have : decide (i = j) = b := by rw [Bool.eq_iff_iff, decide_eq_true_eq, hb]
      subst this
      exact ⟨rfl, rfl⟩
    | _ => exact ⟨rfl, rfl⟩
  | str i =>
    cases y with
    | str j =>
      rw [es] at hb
      have : decide (i = j) = b := by rw [Bool.eq_iff_iff, decide_eq_true_eq, hb]
      subst this
      exact ⟨rfl, rfl⟩
    | _ => exact ⟨rfl, rfl⟩
  | _ => exact ⟨rfl, rfl⟩
theorem eqD_same {n : Nat} {x : D} (st : Sto) (hx : D.cmp n x = true) (hn : n ≤ 64 := by decide) : eqD st x x = some (.bl true) := (eqD_of (b := true) st hx hx hn hn (iff_of_true rfl rfl)).1
theorem neD_same {n : Nat} {x : D} (st : Sto) (hx : D.cmp n x = true) (hn : n ≤ 64 := by decide) : neD st x x = some (.bl false) := (eqD_of (b := true) st hx hx hn hn (iff_of_true rfl rfl)).2
theorem eqD_norm {n m : Nat} {x y : D} (st : Sto) (hx : D.cmp n x = true) (hy : D.cmp m y = true) (h : x.norm = y.norm) (hn : n ≤ 64 := by decide) (hm : m ≤ 64 := by decide) : eqD st x y = some (.bl true) := (eqD_of (b := true) st hx hy hn hm (iff_of_true rfl h)).1
theorem eqD_diff {n m : Nat} {x y : D} (st : Sto) (hx : D.cmp n x = true) (hy : D.cmp m y = true) (h : x.norm ≠ y.norm) (hn : n ≤ 64 := by decide) (hm : m ≤ 64 := by decide) : eqD st x y = some (.bl false) := (eqD_of (b := false) st hx hy hn hm (iff_of_false (by decide) h)).1
theorem neD_diff {n m : Nat} {x y : D} (st : Sto) (hx : D.cmp n x = true) (hy : D.cmp m y = true) (h : x.norm ≠ y.norm) (hn : n ≤ 64 := by decide) (hm : m ≤ 64 := by decide) : neD st x y = some (.bl true) := (eqD_of (b := false) st hx hy hn hm (iff_of_false (by decide) h)).2

/-! ## repr -/
def D.shw : Nat → D → Bool
  | _, .non => true
  | _, .bl _ => true
  | _, .int i => decide (i.natAbs.log2 < 1920)
  | _, .str x => PyData.strOk x
  | 0, _ => false
  | n + 1, .tup xs => xs.all (D.shw n)
  | n + 1, .lst xs => xs.all (D.shw n)
  | n + 1, .scr xs => xs.all (D.shw n)
  | _ + 1, _ => false
mutual
def D.bd : D → Nat
  | .non => 4
  | .bl _ => 5
  | .int _ => 1921
  | .str x => 10 * x.length + 2
  | .tup xs => D.bds xs + 3
  | .lst xs => D.bds xs + 3
  | .scr xs => D.bds xs + 3
  | .dic _ => 0
  | .cell _ => 0
def D.bds : List D → Nat
  | [] => 0
  | x :: xs => D.bd x + 2 + D.bds xs
end
theorem shws_py {n : Nat} (ih : ∀ x : D, D.shw n x = true → ∃ p, D.py x = some p ∧ p.canLay0 = true ∧ p.depth ≤ n ∧ p.showable = true ∧ p.shown.length ≤ x.bd) : ∀ {xs : List D}, xs.all (D.shw n) = true →
    ∃ ps, D.pys xs = some ps ∧ PyData.canLayAll0 ps = true ∧ PyData.depthAll ps ≤ n ∧ PyData.showableAll ps = true ∧ ((PyData.shownAll ps).map (·.length)).sum + 2 * ps.length ≤ D.bds xs
  | [], _ => ⟨[], by rw [D.pys], by rw [PyData.canLayAll0], by rw [PyData.depthAll]; omega, by rw [PyData.showableAll], by rw [PyData.shownAll]; exact Nat.zero_le _⟩
  | x :: xs, h => by
    rw [List.all_cons, Bool.and_eq_true] at h
    obtain ⟨p, h1, h2, h3, h7, h8⟩ := ih x h.1
    obtain ⟨ps, h4, h5, h6, h9, h10⟩ := shws_py ih h.2
    refine ⟨p :: ps, by rw [D.pys, h1, h4]; rfl, by rw [PyData.canLayAll0, h2, h5]; rfl, by rw [PyData.depthAll]; omega, by rw [PyData.showableAll, h7, h9]; rfl, ?_⟩
    rw [PyData.shownAll, List.map_cons, List.sum_cons, List.length_cons, D.bds]
    omega
theorem shw_py : ∀ {n : Nat} {x : D}, D.shw n x = true → ∃ p, D.py x = some p ∧ p.canLay0 = true ∧ p.depth ≤ n ∧ p.showable = true ∧ p.shown.length ≤ x.bd
  | _, .non, _ => ⟨_, by rw [D.py], by rw [PyData.canLay0], by rw [PyData.depth]; omega, by rw [PyData.showable], by rw [PyData.shown, D.bd]; decide⟩
  | _, .bl b, _ => ⟨_, by rw [D.py], by rw [PyData.canLay0], by rw [PyData.depth]; omega, by rw [PyData.showable], by rw [PyData.shown, D.bd]; cases b <;> decide⟩
  | n, .int i, h => by
    have h' : i.natAbs.log2 < 1920 := by cases n <;> exact of_decide_eq_true h
    refine ⟨_, by rw [D.py], by rw [PyData.canLay0], by rw [PyData.depth]; omega, by rw [PyData.showable]; exact decide_eq_true h', ?_⟩
    have e := int_text_length_le (k := 1920) (by decide) h'
    show (Str.ofString (toString i)).length ≤ 1921
    rw [PySem.ofString_length]; exact e
  | n, .str x, h => by
    have h' : PyData.strOk x = true := by cases n <;> exact h
    refine ⟨_, by rw [D.py], by rw [PyData.canLay0]; exact h', by rw [PyData.depth]; omega, by rw [PyData.showable], ?_⟩
    refine StrLaws.reprText_len x fun c hc => ?_
    have := Array.all_eq_true_iff_forall_mem.mp h' c (Array.mem_toList_iff.mp hc)
    have := of_decide_eq_true this
    omega
  | n + 1, .tup xs, h => by
    obtain ⟨ps, h4, h5, h6, h9, h10⟩ := shws_py (n := n) (fun x hx => shw_py hx) h
    refine ⟨_, by rw [D.py, h4]; rfl, by rw [PyData.canLay0, h5], by rw [PyData.depth]; omega, by rw [PyData.showable, h9], ?_⟩
    have := tupleText_len_le (PyData.shownAll ps)
    rw [PyData.shownAll_length] at this
    show (tupleText (PyData.shownAll ps)).length ≤ D.bds xs + 3
    omega
  | n + 1, .lst xs, h => by
    obtain ⟨ps, h4, h5, h6, h9, h10⟩ := shws_py (n := n) (fun x hx => shw_py hx) h
    refine ⟨_, by rw [D.py, h4]; rfl, by rw [PyData.canLay0, h5], by rw [PyData.depth]; omega, by rw [PyData.showable, h9], ?_⟩
    have := listText_len_le (PyData.shownAll ps)
    rw [PyData.shownAll_length] at this
    show (listText (PyData.shownAll ps)).length ≤ D.bds xs + 3
    omega
  | n + 1, .scr xs, h => by
    obtain ⟨ps, h4, h5, h6, h9, h10⟩ := shws_py (n := n) (fun x hx => shw_py hx) h
    refine ⟨_, by rw [D.py, h4]; rfl, by rw [PyData.canLay0, h5], by rw [PyData.depth]; omega, by rw [PyData.showable, h9], ?_⟩
    have := listText_len_le (PyData.shownAll ps)
    rw [PyData.shownAll_length] at this
    show (listText (PyData.shownAll ps)).length ≤ D.bds xs + 3
    omega
  | 0, .tup _, h => nomatch h
  | 0, .lst _, h => nomatch h
  | 0, .scr _, h => nomatch h
  | 0, .dic _, h => nomatch h
  | 0, .cell _, h => nomatch h
  | _ + 1, .dic _, h => nomatch h
  | _ + 1, .cell _, h => nomatch h
def D.show (x : D) : Str := match D.py x with
  | some p => p.shown
  | none => ""
theorem repr_of {n : Nat} {x : D} (st : Sto) (h : D.shw n x = true) (hb : x.bd ≤ 16777216) (hn : n ≤ 64 := by decide) : reprD st [x] = some (.str x.show) := by
  obtain ⟨p, h1, h2, h3, h4, h5⟩ := shw_py h
  have ht : topPy st x = some p := by
    rw [← h1]
    cases x with
    | cell m => cases n <;> exact nomatch h
    | _ => rfl
  have hs : x.show = p.shown := by unfold D.show; rw [h1]
  show (topPy st x).bind _ = _
  rw [ht, Option.bind_some, h4, PyData.hasDict_of_canLay p h2, decide_eq_true (Nat.le_trans h3 hn), fits_of (Nat.le_trans h5 hb), hs]
  rfl
theorem bds_le {B : Nat} : ∀ {xs : List D}, (∀ x ∈ xs, x.bd ≤ B) → D.bds xs ≤ (B + 2) * xs.length
  | [], _ => Nat.zero_le _
  | x :: xs, h => by
    have h1 := h x (List.mem_cons_self ..)
    have h2 := bds_le fun y hy => h y (List.mem_cons_of_mem _ hy)
    rw [D.bds, List.length_cons, Nat.mul_add]
    omega
theorem intText_len {n : Nat} {k : Nat} (hk : 1 ≤ k) : ((Str.ofString (toString ((n : Nat) : Int))).length ≤ k) ↔ n < 10 ^ k := by
  have e : (Str.ofString (toString ((n : Nat) : Int))).length = (Nat.toDigits 10 n).length := by
    rw [PySem.ofString_length]
    show (Nat.repr n).length = _
    unfold Nat.repr
    exact String.length_ofList
  rw [e]
  constructor
  · intro h
    by_cases hn : n < 10 ^ k
    · exact hn
    · have := digits10_ge (Nat.le_of_not_lt hn)
      omega
  · exact fun h => digits10_le hk h
end L3
namespace G
open PySem PySem.Spec PyProof.Rows L2 L3
/-! ## The text -/
def top (i : Nat) : Stmt := PySem.Challenge.pw_grownquorums_k00_integers_and_letters.main.body.getD i (.Pass ⟨0, 0, 0, 0⟩)
abbrev s__law_dice : Stmt := top 8
abbrev s__law_roll : Stmt := top 9
abbrev s__law_pick : Stmt := top 10
abbrev s_is_integer : Stmt := top 4
abbrev s_is_count : Stmt := top 5
abbrev s__law_limit : Stmt := top 11
abbrev s__law_number : Stmt := top 12
abbrev s_is_letter : Stmt := top 6
abbrev s_law : Stmt := top 13
def c_LETTERS : Str := "abcdefghijklmnopqrstuvwxyz"
def c_LIMIT : Int := 10 ^ 400
def c_MAX_FIGURES : Int := 400
/-! ## What each def means -/
def b__law_dice : SM := (sSeq (sSet 2 (eIf (bE (eBin ltD (eVar 1) (eCall lenD (aCons (eVar 0) aNil)))) (eCall intD (aCons (eBin ixD (eVar 0) (eVar 1)) aNil)) (eBin addD (eBin mulD (eC (.int 67)) (eVar 1)) (eC (.int 23)))))
    (sSeq (sSet 3 (eBin (fun _ => modI) (eCall maxD (aCons (eC (.int 0)) (aCons (eBin (fun _ => subI) (eCall absD (aCons (eVar 2) aNil)) (eBin (fun _ => powI) (eC (.int 10)) (eC (.int 15)))) aNil))) (eBin mulD (eBin (fun _ => powI) (eC (.int 10)) (eC (.int 60))) (eBin (fun _ => powI) (eC (.int 10)) (eC (.int 60))))))
    (sRet (eLstC (aCons (eVar 3) (aCons (eBin addD (eBin addD (eBin addD (eBin mulD (eBin (fun _ => modI) (eCall absD (aCons (eVar 2) aNil)) (eC (.int 1152921504606846959))) (eC (.int 41))) (eBin mulD (eC (.int 907)) (eVar 1))) (eBin mulD (eC (.int 29)) (eCall intD (aCons (eBin ltD (eVar 2) (eC (.int 0))) aNil)))) (eC (.int 5))) (aCons (eC (.int 0)) aNil)))))))
def m__law_dice : List D → M D := funD 2 4 b__law_dice
def b__law_roll : SM := (sSeq (sIf (bE (eBin gtD (eBin ixD (eVar 0) (eC (.int 0))) (eC (.int 0)))) (sSeq (sSet 2 (eBin (fun _ => modI) (eCall intD (aCons (eBin ixD (eVar 0) (eC (.int 0))) aNil)) (eVar 1)))
    (sSeq (sSub (eVar 0) (eC (.int 0)) (eBin (fun _ => fdivI) (eBin ixD (eVar 0) (eC (.int 0))) (eVar 1)) setIx)
    (sRet (eVar 2)))) sNext)
    (sSeq (sSub (eVar 0) (eC (.int 2)) (eBin addD (eBin ixD (eVar 0) (eC (.int 2))) (eC (.int 1))) setIx)
    (sSeq (sSet 3 (eBin (fun _ => modI) (eCall intD (aCons (eBin addD (eBin ixD (eVar 0) (eC (.int 1))) (eBin mulD (eC (.int 49979687)) (eBin ixD (eVar 0) (eC (.int 2))))) aNil)) (eC (.int 2305843009213693907))))
    (sSeq (sSet 4 (eBin addD (eBin mulD (eBin (fun _ => modI) (eCall intD (aCons (eBin addD (eBin mulD (eVar 3) (eVar 3)) (eBin mulD (eC (.int 89)) (eBin ixD (eVar 0) (eC (.int 2))))) aNil)) (eC (.int 1152921504606846847))) (eC (.int 6700417))) (eVar 3)))
    (sRet (eBin (fun _ => modI) (eCall intD (aCons (eBin (fun _ => fdivI) (eVar 4) (eC (.int 131072))) aNil)) (eVar 1)))))))
def m__law_roll : List D → M D := funD 2 5 b__law_roll
def b__law_pick : SM := (sRet (eBin ixD (eVar 1) (eApp m__law_roll (aCons (eVar 0) (aCons (eCall lenD (aCons (eVar 1) aNil)) aNil)))))
def m__law_pick : List D → M D := funD 2 2 b__law_pick
def b_is_integer : SM := (sRet (eAnd (eIsi "int" (eVar 0)) (eAnd (eNot (eIsi "bool" (eVar 0))) (eChain ltD ltD (eUn (fun _ => negI) (eC (.int c_LIMIT))) (eVar 0) (eC (.int c_LIMIT))))))
def m_is_integer : List D → M D := funD 1 1 b_is_integer
def b_is_count : SM := (sRet (eAnd (eApp m_is_integer (aCons (eVar 0) aNil)) (eBin geD (eVar 0) (eC (.int 0)))))
def m_is_count : List D → M D := funD 1 1 b_is_count
def b__law_limit : SM := (sRet (eBin (fun _ => powI) (eBin (fun _ => powI) (eC (.int 10)) (eC (.int 50))) (eC (.int 8))))
def m__law_limit : List D → M D := funD 0 0 b__law_limit
def b__law_number : SM := (sSeq (sSet 1 (eLst (aCons (eC (.int 0)) (aCons (eC (.int 1)) (aCons (eC (.int 10)) (aCons (eBin (fun _ => powI) (eC (.int 10)) (eC (.int 20))) (aCons (eBin (fun _ => fdivI) (fun _ => m__law_limit []) (eC (.int 10))) (aCons (fun _ => m__law_limit []) (aCons (fun _ => m__law_limit []) (aCons (eBin mulD (fun _ => m__law_limit []) (eBin (fun _ => powI) (eC (.int 10)) (eC (.int 50)))) aNil))))))))))
    (sSeq (sSet 2 (eBin (fun _ => subI) (eBin addD (eApp m__law_pick (aCons (eVar 0) (aCons (eVar 1) aNil))) (eApp m__law_roll (aCons (eVar 0) (aCons (eC (.int 5)) aNil)))) (eC (.int 2))))
    (sRet (eIf (bE (eBin eqD (eApp m__law_roll (aCons (eVar 0) (aCons (eC (.int 2)) aNil))) (eC (.int 0)))) (eBin (fun _ => subI) (eC (.int 0)) (eVar 2)) (eVar 2)))))
def m__law_number : List D → M D := funD 1 3 b__law_number
def b_is_letter : SM := (sRet (eAnd (eIsi "str" (eVar 0)) (eAnd (eBin eqD (eCall lenD (aCons (eVar 0) aNil)) (eC (.int 1))) (eBin inD (eVar 0) (eC (.str c_LETTERS))))))
def m_is_letter : List D → M D := funD 1 1 b_is_letter
def l1_law : SM := (sSeq (sPar 5 6 (eApp m__law_number (aCons (eVar 3) aNil)) (eBin ixD (eVar 1) (eApp m__law_roll (aCons (eVar 3) (aCons (eCall lenD (aCons (eVar 1) aNil)) aNil)))))
    (sSeq (sSet 7 (eBin addD (eVar 6) (eApp m__law_pick (aCons (eVar 3) (aCons (eLst (aCons (eC (.str "")) (aCons (eC (.str "")) (aCons (eC (.str "")) (aCons (eC (.str "a")) (aCons (eC (.str " ")) aNil)))))) aNil)))))
    (sSeq (sSet 8 (eBin leD (eCall lenD (aCons (eCall strI (aCons (eCall absD (aCons (eVar 5) aNil)) aNil)) aNil)) (eC (.int 400))))
    (sSeq (sSet 9 (eLst (aCons (eApp m_is_integer (aCons (eVar 5) aNil)) (aCons (eApp m_is_count (aCons (eVar 5) aNil)) (aCons (eApp m_is_letter (aCons (eVar 7) aNil)) (aCons (eApp m_is_letter (aCons (eVar 5) aNil)) aNil))))))
    (sIf (bE (eBin neD (eCall reprD (aCons (eVar 9) aNil)) (eCall reprD (aCons (eLst (aCons (eVar 8) (aCons (eAnd (eVar 8) (eBin geD (eVar 5) (eC (.int 0)))) (aCons (eAnd (eBin eqD (eCall lenD (aCons (eVar 7) aNil)) (eC (.int 1))) (eChain leD leD (eC (.str "a")) (eVar 7) (eC (.str "z")))) (aCons (eC (.bl false)) aNil))))) aNil)))) (sRet (eC (.bl false))) sNext)))))
def l2_law : SM := (sSeq (sSet 3 (eApp m__law_dice (aCons (eVar 0) (aCons (eVar 2) aNil))))
    (sSeq (sFor (iRange1 (eC (.int 4))) (gN 4) l1_law)
    (sSeq (sSet 10 (eApp m__law_pick (aCons (eVar 3) (aCons (eLst (aCons (eC .non) (aCons (eC (.bl true)) (aCons (eC (.bl false)) (aCons (eC (.str "7")) (aCons (eTup aNil) (aCons (eTup (aCons (eC (.int 7)) aNil)) (aCons (eLst (aCons (eC (.int 7)) aNil)) (aCons (eDic (((eC (.int 7)), (eC (.int 7))) :: [])) (aCons (eTup (aCons (eC (.str "a")) aNil)) (aCons (eLst (aCons (eC (.str "a")) aNil)) (aCons (eC (.str "")) (aCons (eC (.str "ab")) (aCons (eDic (((eC (.str "a")), (eC (.int 1))) :: [])) (aCons (eC (.str "\n")) aNil))))))))))))))) aNil))))
    (sIf (bE (eBin neD (eLst (aCons (eApp m_is_integer (aCons (eVar 10) aNil)) (aCons (eApp m_is_count (aCons (eVar 10) aNil)) (aCons (eApp m_is_letter (aCons (eVar 10) aNil)) aNil)))) (eLst (aCons (eC (.bl false)) (aCons (eC (.bl false)) (aCons (eC (.bl false)) aNil)))))) (sRet (eC (.bl false))) sNext))))
def b_law : SM := (sSeq (sSet 1 (eC (.str "abcdefghijklmnopqrstuvwxyzAZ09 _-.,+{}[]@")))
    (sSeq (sFor (iRange1 (eCall maxD (aCons (eC (.int 1)) (aCons (eCall minD (aCons (eC (.int 5)) (aCons (eCall lenD (aCons (eVar 0) aNil)) aNil))) aNil)))) (gN 2) l2_law)
    (sRet (eBin eqD (eLst (aCons (eApp m_is_integer (aCons (eC (.int 0)) aNil)) (aCons (eApp m_is_count (aCons (eC (.int 0)) aNil)) (aCons (eApp m_is_count (aCons (eBin (fun _ => subI) (eC (.int 0)) (eC (.int 1))) aNil)) (aCons (eC (.int c_MAX_FIGURES)) aNil))))) (eLst (aCons (eC (.bl true)) (aCons (eC (.bl true)) (aCons (eC (.bl false)) (aCons (eC (.int 400)) aNil)))))))))
def m_law : List D → M D := funD 1 11 b_law
/-! ## What the top leaves -/
structure Tx (K : PySem.W.Frag) (mg : Str → Option Value) where
  a__law_dice : Addr
  f__law_dice : FuncData
  d__law_dice : DefAt K mg "_law_dice" s__law_dice ["script", "spot"] a__law_dice f__law_dice
  a__law_roll : Addr
  f__law_roll : FuncData
  d__law_roll : DefAt K mg "_law_roll" s__law_roll ["dice", "total"] a__law_roll f__law_roll
  a__law_pick : Addr
  f__law_pick : FuncData
  d__law_pick : DefAt K mg "_law_pick" s__law_pick ["dice", "items"] a__law_pick f__law_pick
  a_is_integer : Addr
  f_is_integer : FuncData
  d_is_integer : DefAt K mg "is_integer" s_is_integer ["value"] a_is_integer f_is_integer
  a_is_count : Addr
  f_is_count : FuncData
  d_is_count : DefAt K mg "is_count" s_is_count ["value"] a_is_count f_is_count
  a__law_limit : Addr
  f__law_limit : FuncData
  d__law_limit : DefAt K mg "_law_limit" s__law_limit [] a__law_limit f__law_limit
  a__law_number : Addr
  f__law_number : FuncData
  d__law_number : DefAt K mg "_law_number" s__law_number ["dice"] a__law_number f__law_number
  a_is_letter : Addr
  f_is_letter : FuncData
  d_is_letter : DefAt K mg "is_letter" s_is_letter ["value"] a_is_letter f_is_letter
  a_law : Addr
  f_law : FuncData
  d_law : DefAt K mg "law" s_law ["script"] a_law f_law
  g_LETTERS : ∃ tk, mg "LETTERS" = some (.str c_LETTERS tk)
  g_LIMIT : ∃ tk, mg "LIMIT" = some (.int c_LIMIT tk)
  g_MAX_FIGURES : ∃ tk, mg "MAX_FIGURES" = some (.int c_MAX_FIGURES tk)
  n_abs : mg "abs" = none
  n_bool : mg "bool" = none
  n_int : mg "int" = none
  n_isinstance : mg "isinstance" = none
  n_len : mg "len" = none
  n_max : mg "max" = none
  n_min : mg "min" = none
  n_range : mg "range" = none
  n_repr : mg "repr" = none
  n_str : mg "str" = none
/-! ## Each def is what it means -/
theorem sc__law_dice : FnScope ["script", "spot", "cell", "left"] ["script", "spot"] (defScope s__law_dice) := ⟨rfl, rfl, rfl, by decide +kernel, rfl, by decide +kernel, by decide +kernel⟩
theorem ok__law_dice {P : Program} {w : World} {K : PySem.W.Frag} {mg : Str → Option Value} {base : Heap} {T : CT} (t : Tx K mg) : FnD P w K mg base T 1 t.a__law_dice t.f__law_dice ["script", "spot"] m__law_dice := by
  refine fn_ok (b := b__law_dice) t.d__law_dice.fn sc__law_dice fun cdv A outer s H E hr => ?_
  refine dss_cons ?_ ?_
  refine ds_set (i := 2) sc__law_dice.nd (by rfl) (by first | exact Or.inl rfl | exact Or.inr rfl) ?_
  refine de_if ?_ ?_ ?_
  refine dt_cmp od_lt ?_ ?_
  exact dv 1
  refine de_callB cd_len (by rfl) t.n_len bb_len ?_
  refine da_cons ?_ ?_
  exact dv 0
  exact da_nil
  refine de_callTy cd_int (by rfl) t.n_int bb_int ?_
  refine da_cons ?_ ?_
  refine de_ix xd_ix ?_ ?_
  exact dv 0
  exact dv 1
  exact da_nil
  refine de_bin od_add ?_ ?_
  refine de_bin od_mul ?_ ?_
  exact de_int
  exact dv 1
  exact de_int
  refine dss_cons ?_ ?_
  refine ds_set (i := 3) sc__law_dice.nd (by rfl) (by first | exact Or.inl rfl | exact Or.inr rfl) ?_
  refine de_bin od_modI ?_ ?_
  refine de_callB (cd_max (by rfl)) (by rfl) t.n_max bb_max ?_
  refine da_cons ?_ ?_
  exact de_int
  refine da_cons ?_ ?_
  refine de_bin od_subI ?_ ?_
  refine de_callB cd_abs (by rfl) t.n_abs bb_abs ?_
  refine da_cons ?_ ?_
  exact dv 2
  exact da_nil
  refine de_bin od_powI ?_ ?_
  exact de_int
  exact de_int
  exact da_nil
  refine de_bin od_mul ?_ ?_
  refine de_bin od_powI ?_ ?_
  exact de_int
  exact de_int
  refine de_bin od_powI ?_ ?_
  exact de_int
  exact de_int
  refine dss_one ?_
  refine ds_ret ?_
  refine de_lstC ?_
  refine da_cons ?_ ?_
  exact dv 3
  refine da_cons ?_ ?_
  refine de_bin od_add ?_ ?_
  refine de_bin od_add ?_ ?_
  refine de_bin od_add ?_ ?_
  refine de_bin od_mul ?_ ?_
  refine de_bin od_modI ?_ ?_
  refine de_callB cd_abs (by rfl) t.n_abs bb_abs ?_
  refine da_cons ?_ ?_
  exact dv 2
  exact da_nil
  exact de_int
  exact de_int
  refine de_bin od_mul ?_ ?_
  exact de_int
  exact dv 1
  refine de_bin od_mul ?_ ?_
  exact de_int
  refine de_callTy cd_int (by rfl) t.n_int bb_int ?_
  refine da_cons ?_ ?_
  refine de_cmp od_lt ?_ ?_
  exact dv 2
  exact de_int
  exact da_nil
  exact de_int
  refine da_cons ?_ ?_
  exact de_int
  exact da_nil

theorem sc__law_roll : FnScope ["dice", "total", "found", "one", "two"] ["dice", "total"] (defScope s__law_roll) := ⟨rfl, rfl, rfl, by decide +kernel, rfl, by decide +kernel, by decide +kernel⟩
theorem ok__law_roll {P : Program} {w : World} {K : PySem.W.Frag} {mg : Str → Option Value} {base : Heap} {T : CT} (t : Tx K mg) : FnD P w K mg base T 1 t.a__law_roll t.f__law_roll ["dice", "total"] m__law_roll := by
  refine fn_ok (b := b__law_roll) t.d__law_roll.fn sc__law_roll fun cdv A outer s H E hr => ?_
  refine dss_cons ?_ ?_
  refine ds_if ?_ ?_ ?_
  refine dt_cmp od_gt ?_ ?_
  refine de_ix xd_ix ?_ ?_
  exact dv 0
  exact de_int
  exact de_int
  refine dss_cons ?_ ?_
  refine ds_set (i := 2) sc__law_roll.nd (by rfl) (by first | exact Or.inl rfl | exact Or.inr rfl) ?_
  refine de_bin od_modI ?_ ?_
  refine de_callTy cd_int (by rfl) t.n_int bb_int ?_
  refine da_cons ?_ ?_
  refine de_ix xd_ix ?_ ?_
  exact dv 0
  exact de_int
  exact da_nil
  exact dv 1
  refine dss_cons ?_ ?_
  refine ds_setL ?_ ?_ ?_
  exact dv 0
  exact de_int
  refine de_bin od_fdivI ?_ ?_
  refine de_ix xd_ix ?_ ?_
  exact dv 0
  exact de_int
  exact dv 1
  refine dss_one ?_
  refine ds_ret ?_
  exact dv 2
  exact dss_nil
  refine dss_cons ?_ ?_
  refine ds_setL ?_ ?_ ?_
  exact dv 0
  exact de_int
  refine de_bin od_add ?_ ?_
  refine de_ix xd_ix ?_ ?_
  exact dv 0
  exact de_int
  exact de_int
  refine dss_cons ?_ ?_
  refine ds_set (i := 3) sc__law_roll.nd (by rfl) (by first | exact Or.inl rfl | exact Or.inr rfl) ?_
  refine de_bin od_modI ?_ ?_
  refine de_callTy cd_int (by rfl) t.n_int bb_int ?_
  refine da_cons ?_ ?_
  refine de_bin od_add ?_ ?_
  refine de_ix xd_ix ?_ ?_
  exact dv 0
  exact de_int
  refine de_bin od_mul ?_ ?_
  exact de_int
  refine de_ix xd_ix ?_ ?_
  exact dv 0
  exact de_int
  exact da_nil
  exact de_int
  refine dss_cons ?_ ?_
  refine ds_set (i := 4) sc__law_roll.nd (by rfl) (by first | exact Or.inl rfl | exact Or.inr rfl) ?_
  refine de_bin od_add ?_ ?_
  refine de_bin od_mul ?_ ?_
  refine de_bin od_modI ?_ ?_
  refine de_callTy cd_int (by rfl) t.n_int bb_int ?_
  refine da_cons ?_ ?_
  refine de_bin od_add ?_ ?_
  refine de_bin od_mul ?_ ?_
  exact dv 3
  exact dv 3
  refine de_bin od_mul ?_ ?_
  exact de_int
  refine de_ix xd_ix ?_ ?_
  exact dv 0
  exact de_int
  exact da_nil
  exact de_int
  exact de_int
  exact dv 3
  refine dss_one ?_
  refine ds_ret ?_
  refine de_bin od_modI ?_ ?_
  refine de_callTy cd_int (by rfl) t.n_int bb_int ?_
  refine da_cons ?_ ?_
  refine de_bin od_fdivI ?_ ?_
  exact dv 4
  exact de_int
  exact da_nil
  exact dv 1

theorem sc__law_pick : FnScope ["dice", "items"] ["dice", "items"] (defScope s__law_pick) := ⟨rfl, rfl, rfl, by decide +kernel, rfl, by decide +kernel, by decide +kernel⟩
theorem ok__law_pick {P : Program} {w : World} {K : PySem.W.Frag} {mg : Str → Option Value} {base : Heap} {T : CT} (t : Tx K mg) : FnD P w K mg base T 2 t.a__law_pick t.f__law_pick ["dice", "items"] m__law_pick := by
  refine fn_ok (b := b__law_pick) t.d__law_pick.fn sc__law_pick fun cdv A outer s H E hr => ?_
  refine dss_one ?_
  refine ds_ret ?_
  refine de_ix xd_ix ?_ ?_
  exact dv 1
  refine dc (L := t.d__law_roll) (ok__law_roll t) hr (takes_of (by rfl) (by rfl) (by rfl) (by rfl)) ?_
  refine da_cons ?_ ?_
  exact dv 0
  refine da_cons ?_ ?_
  refine de_callB cd_len (by rfl) t.n_len bb_len ?_
  refine da_cons ?_ ?_
  exact dv 1
  exact da_nil
  exact da_nil

theorem sc_is_integer : FnScope ["value"] ["value"] (defScope s_is_integer) := ⟨rfl, rfl, rfl, by decide +kernel, rfl, by decide +kernel, by decide +kernel⟩
theorem ok_is_integer {P : Program} {w : World} {K : PySem.W.Frag} {mg : Str → Option Value} {base : Heap} {T : CT} (t : Tx K mg) : FnD P w K mg base T 1 t.a_is_integer t.f_is_integer ["value"] m_is_integer := by
  obtain ⟨k_LIMIT, h_LIMIT⟩ := t.g_LIMIT
  refine fn_ok (b := b_is_integer) t.d_is_integer.fn sc_is_integer fun cdv A outer s H E hr => ?_
  refine dss_one ?_
  refine ds_ret ?_
  refine de_and ?_ ?_
  refine de_isi (by rfl) t.n_isinstance bb_isinstance ?_ (by rfl) t.n_int bb_int
  exact dv 0
  refine de_and ?_ ?_
  refine de_not ?_
  refine de_isi (by rfl) t.n_isinstance bb_isinstance ?_ (by rfl) t.n_bool bb_bool
  exact dv 0
  refine de_one ?_
  refine de_chain od_lt od_lt ?_ ?_ ?_
  refine de_un ud_neg ?_
  exact de_globI (by rfl) h_LIMIT
  exact dv 0
  exact de_globI (by rfl) h_LIMIT

theorem sc_is_count : FnScope ["value"] ["value"] (defScope s_is_count) := ⟨rfl, rfl, rfl, by decide +kernel, rfl, by decide +kernel, by decide +kernel⟩
theorem ok_is_count {P : Program} {w : World} {K : PySem.W.Frag} {mg : Str → Option Value} {base : Heap} {T : CT} (t : Tx K mg) : FnD P w K mg base T 2 t.a_is_count t.f_is_count ["value"] m_is_count := by
  refine fn_ok (b := b_is_count) t.d_is_count.fn sc_is_count fun cdv A outer s H E hr => ?_
  refine dss_one ?_
  refine ds_ret ?_
  refine de_and ?_ ?_
  refine dc (L := t.d_is_integer) (ok_is_integer t) hr (takes_of (by rfl) (by rfl) (by rfl) (by rfl)) ?_
  refine da_cons ?_ ?_
  exact dv 0
  exact da_nil
  refine de_one ?_
  refine de_cmp od_ge ?_ ?_
  exact dv 0
  exact de_int

theorem sc__law_limit : FnScope [] [] (defScope s__law_limit) := ⟨rfl, rfl, rfl, by decide +kernel, rfl, by decide +kernel, by decide +kernel⟩
theorem ok__law_limit {P : Program} {w : World} {K : PySem.W.Frag} {mg : Str → Option Value} {base : Heap} {T : CT} (t : Tx K mg) : FnD P w K mg base T 1 t.a__law_limit t.f__law_limit [] m__law_limit := by
  refine fn_ok (b := b__law_limit) t.d__law_limit.fn sc__law_limit fun cdv A outer s H E hr => ?_
  refine dss_one ?_
  refine ds_ret ?_
  refine de_bin od_powI ?_ ?_
  refine de_bin od_powI ?_ ?_
  exact de_int
  exact de_int
  exact de_int

theorem sc__law_number : FnScope ["dice", "near", "number"] ["dice"] (defScope s__law_number) := ⟨rfl, rfl, rfl, by decide +kernel, rfl, by decide +kernel, by decide +kernel⟩
theorem ok__law_number {P : Program} {w : World} {K : PySem.W.Frag} {mg : Str → Option Value} {base : Heap} {T : CT} (t : Tx K mg) : FnD P w K mg base T 3 t.a__law_number t.f__law_number ["dice"] m__law_number := by
  refine fn_ok (b := b__law_number) t.d__law_number.fn sc__law_number fun cdv A outer s H E hr => ?_
  refine dss_cons ?_ ?_
  refine ds_set (i := 1) sc__law_number.nd (by rfl) (by first | exact Or.inl rfl | exact Or.inr rfl) ?_
  refine de_lst ?_
  refine da_cons ?_ ?_
  exact de_int
  refine da_cons ?_ ?_
  exact de_int
  refine da_cons ?_ ?_
  exact de_int
  refine da_cons ?_ ?_
  refine de_bin od_powI ?_ ?_
  exact de_int
  exact de_int
  refine da_cons ?_ ?_
  refine de_bin od_fdivI ?_ ?_
  exact dc0 (L := t.d__law_limit) (ok__law_limit t) hr (takes_of (by rfl) (by rfl) (by rfl) (by rfl))
  exact de_int
  refine da_cons ?_ ?_
  exact dc0 (L := t.d__law_limit) (ok__law_limit t) hr (takes_of (by rfl) (by rfl) (by rfl) (by rfl))
  refine da_cons ?_ ?_
  exact dc0 (L := t.d__law_limit) (ok__law_limit t) hr (takes_of (by rfl) (by rfl) (by rfl) (by rfl))
  refine da_cons ?_ ?_
  refine de_bin od_mul ?_ ?_
  exact dc0 (L := t.d__law_limit) (ok__law_limit t) hr (takes_of (by rfl) (by rfl) (by rfl) (by rfl))
  refine de_bin od_powI ?_ ?_
  exact de_int
  exact de_int
  exact da_nil
  refine dss_cons ?_ ?_
  refine ds_set (i := 2) sc__law_number.nd (by rfl) (by first | exact Or.inl rfl | exact Or.inr rfl) ?_
  refine de_bin od_subI ?_ ?_
  refine de_bin od_add ?_ ?_
  refine dc (L := t.d__law_pick) (ok__law_pick t) hr (takes_of (by rfl) (by rfl) (by rfl) (by rfl)) ?_
  refine da_cons ?_ ?_
  exact dv 0
  refine da_cons ?_ ?_
  exact dv 1
  exact da_nil
  refine dc (L := t.d__law_roll) (ok__law_roll t) hr (takes_of (by rfl) (by rfl) (by rfl) (by rfl)) ?_
  refine da_cons ?_ ?_
  exact dv 0
  refine da_cons ?_ ?_
  exact de_int
  exact da_nil
  exact de_int
  refine dss_one ?_
  refine ds_ret ?_
  refine de_if ?_ ?_ ?_
  refine dt_cmp (od_eq hr) ?_ ?_
  refine dc (L := t.d__law_roll) (ok__law_roll t) hr (takes_of (by rfl) (by rfl) (by rfl) (by rfl)) ?_
  refine da_cons ?_ ?_
  exact dv 0
  refine da_cons ?_ ?_
  exact de_int
  exact da_nil
  exact de_int
  refine de_bin od_subI ?_ ?_
  exact de_int
  exact dv 2
  exact dv 2

theorem sc_is_letter : FnScope ["value"] ["value"] (defScope s_is_letter) := ⟨rfl, rfl, rfl, by decide +kernel, rfl, by decide +kernel, by decide +kernel⟩
theorem ok_is_letter {P : Program} {w : World} {K : PySem.W.Frag} {mg : Str → Option Value} {base : Heap} {T : CT} (t : Tx K mg) : FnD P w K mg base T 1 t.a_is_letter t.f_is_letter ["value"] m_is_letter := by
  obtain ⟨k_LETTERS, h_LETTERS⟩ := t.g_LETTERS
  refine fn_ok (b := b_is_letter) t.d_is_letter.fn sc_is_letter fun cdv A outer s H E hr => ?_
  refine dss_one ?_
  refine ds_ret ?_
  refine de_and ?_ ?_
  refine de_isi (by rfl) t.n_isinstance bb_isinstance ?_ (by rfl) t.n_str bb_str
  exact dv 0
  refine de_and ?_ ?_
  refine de_cmp (od_eq hr) ?_ ?_
  refine de_callB cd_len (by rfl) t.n_len bb_len ?_
  refine da_cons ?_ ?_
  exact dv 0
  exact da_nil
  exact de_int
  refine de_one ?_
  refine de_cmp (od_in hr) ?_ ?_
  exact dv 0
  exact de_globS (by rfl) h_LETTERS

theorem sc_law : FnScope ["script", "signs", "spot", "dice", "turn", "number", "sign", "text", "is_short", "told", "odd"] ["script"] (defScope s_law) := ⟨rfl, rfl, rfl, by decide +kernel, rfl, by decide +kernel, by decide +kernel⟩
theorem ok_law {P : Program} {w : World} {K : PySem.W.Frag} {mg : Str → Option Value} {base : Heap} {T : CT} (t : Tx K mg) : FnD P w K mg base T 4 t.a_law t.f_law ["script"] m_law := by
  obtain ⟨k_MAX_FIGURES, h_MAX_FIGURES⟩ := t.g_MAX_FIGURES
  refine fn_ok (b := b_law) t.d_law.fn sc_law fun cdv A outer s H E hr => ?_
  refine dss_cons ?_ ?_
  refine ds_set (i := 1) sc_law.nd (by rfl) (by first | exact Or.inl rfl | exact Or.inr rfl) ?_
  exact de_str
  refine dss_cons ?_ ?_
  refine ds_for (b := l2_law) (passes_of (by rfl)) (by rfl) ?_ (dg_name (i := 2) sc_law.nd (by rfl) (by first | exact Or.inl rfl | exact Or.inr rfl)) ?_
  refine di_range1 (by rfl) t.n_range ?_
  refine de_callB (cd_max (by rfl)) (by rfl) t.n_max bb_max ?_
  refine da_cons ?_ ?_
  exact de_int
  refine da_cons ?_ ?_
  refine de_callB (cd_min (by rfl)) (by rfl) t.n_min bb_min ?_
  refine da_cons ?_ ?_
  exact de_int
  refine da_cons ?_ ?_
  refine de_callB cd_len (by rfl) t.n_len bb_len ?_
  refine da_cons ?_ ?_
  exact dv 0
  exact da_nil
  exact da_nil
  exact da_nil
  refine dss_cons ?_ ?_
  refine ds_set (i := 3) sc_law.nd (by rfl) (by first | exact Or.inl rfl | exact Or.inr rfl) ?_
  refine dc (L := t.d__law_dice) (ok__law_dice t) hr (takes_of (by rfl) (by rfl) (by rfl) (by rfl)) ?_
  refine da_cons ?_ ?_
  exact dv 0
  refine da_cons ?_ ?_
  exact dv 2
  exact da_nil
  refine dss_cons ?_ ?_
  refine ds_for (b := l1_law) (passes_of (by rfl)) (by rfl) ?_ (dg_name (i := 4) sc_law.nd (by rfl) (by first | exact Or.inl rfl | exact Or.inr rfl)) ?_
  refine di_range1 (by rfl) t.n_range ?_
  exact de_int
  refine dss_cons ?_ ?_
  refine ds_par (i := 5) (j := 6) (by rfl) sc_law.nd (by rfl) (by rfl) (by decide) (by rfl) (by rfl) ?_ ?_
  refine dc (L := t.d__law_number) (ok__law_number t) hr (takes_of (by rfl) (by rfl) (by rfl) (by rfl)) ?_
  refine da_cons ?_ ?_
  exact dv 3
  exact da_nil
  refine de_ix xd_ix ?_ ?_
  exact dv 1
  refine dc (L := t.d__law_roll) (ok__law_roll t) hr (takes_of (by rfl) (by rfl) (by rfl) (by rfl)) ?_
  refine da_cons ?_ ?_
  exact dv 3
  refine da_cons ?_ ?_
  refine de_callB cd_len (by rfl) t.n_len bb_len ?_
  refine da_cons ?_ ?_
  exact dv 1
  exact da_nil
  exact da_nil
  refine dss_cons ?_ ?_
  refine ds_set (i := 7) sc_law.nd (by rfl) (by first | exact Or.inl rfl | exact Or.inr rfl) ?_
  refine de_bin od_add ?_ ?_
  exact dv 6
  refine dc (L := t.d__law_pick) (ok__law_pick t) hr (takes_of (by rfl) (by rfl) (by rfl) (by rfl)) ?_
  refine da_cons ?_ ?_
  exact dv 3
  refine da_cons ?_ ?_
  refine de_lst ?_
  refine da_cons ?_ ?_
  exact de_str
  refine da_cons ?_ ?_
  exact de_str
  refine da_cons ?_ ?_
  exact de_str
  refine da_cons ?_ ?_
  exact de_str
  refine da_cons ?_ ?_
  exact de_str
  exact da_nil
  exact da_nil
  refine dss_cons ?_ ?_
  refine ds_set (i := 8) sc_law.nd (by rfl) (by first | exact Or.inl rfl | exact Or.inr rfl) ?_
  refine de_cmp od_le ?_ ?_
  refine de_callB cd_len (by rfl) t.n_len bb_len ?_
  refine da_cons ?_ ?_
  refine de_callTy cd_strI (by rfl) t.n_str bb_str ?_
  refine da_cons ?_ ?_
  refine de_callB cd_abs (by rfl) t.n_abs bb_abs ?_
  refine da_cons ?_ ?_
  exact dv 5
  exact da_nil
  exact da_nil
  exact da_nil
  exact de_int
  refine dss_cons ?_ ?_
  refine ds_set (i := 9) sc_law.nd (by rfl) (by first | exact Or.inl rfl | exact Or.inr rfl) ?_
  refine de_lst ?_
  refine da_cons ?_ ?_
  refine dc (L := t.d_is_integer) (ok_is_integer t) hr (takes_of (by rfl) (by rfl) (by rfl) (by rfl)) ?_
  refine da_cons ?_ ?_
  exact dv 5
  exact da_nil
  refine da_cons ?_ ?_
  refine dc (L := t.d_is_count) (ok_is_count t) hr (takes_of (by rfl) (by rfl) (by rfl) (by rfl)) ?_
  refine da_cons ?_ ?_
  exact dv 5
  exact da_nil
  refine da_cons ?_ ?_
  refine dc (L := t.d_is_letter) (ok_is_letter t) hr (takes_of (by rfl) (by rfl) (by rfl) (by rfl)) ?_
  refine da_cons ?_ ?_
  exact dv 7
  exact da_nil
  refine da_cons ?_ ?_
  refine dc (L := t.d_is_letter) (ok_is_letter t) hr (takes_of (by rfl) (by rfl) (by rfl) (by rfl)) ?_
  refine da_cons ?_ ?_
  exact dv 5
  exact da_nil
  exact da_nil
  refine dss_one ?_
  refine ds_if ?_ ?_ ?_
  refine dt_cmp (od_ne hr) ?_ ?_
  refine de_callB (cd_repr hr) (by rfl) t.n_repr bb_repr ?_
  refine da_cons ?_ ?_
  exact dv 9
  exact da_nil
  refine de_callB (cd_repr hr) (by rfl) t.n_repr bb_repr ?_
  refine da_cons ?_ ?_
  refine de_lst ?_
  refine da_cons ?_ ?_
  exact dv 8
  refine da_cons ?_ ?_
  refine de_and ?_ ?_
  exact dv 8
  refine de_one ?_
  refine de_cmp od_ge ?_ ?_
  exact dv 5
  exact de_int
  refine da_cons ?_ ?_
  refine de_and ?_ ?_
  refine de_cmp (od_eq hr) ?_ ?_
  refine de_callB cd_len (by rfl) t.n_len bb_len ?_
  refine da_cons ?_ ?_
  exact dv 7
  exact da_nil
  exact de_int
  refine de_one ?_
  refine de_chain od_le od_le ?_ ?_ ?_
  exact de_str
  exact dv 7
  exact de_str
  refine da_cons ?_ ?_
  exact de_bl
  exact da_nil
  exact da_nil
  refine dss_one ?_
  refine ds_ret ?_
  exact de_bl
  exact dss_nil
  refine dss_cons ?_ ?_
  refine ds_set (i := 10) sc_law.nd (by rfl) (by first | exact Or.inl rfl | exact Or.inr rfl) ?_
  refine dc (L := t.d__law_pick) (ok__law_pick t) hr (takes_of (by rfl) (by rfl) (by rfl) (by rfl)) ?_
  refine da_cons ?_ ?_
  exact dv 3
  refine da_cons ?_ ?_
  refine de_lst ?_
  refine da_cons ?_ ?_
  exact de_non
  refine da_cons ?_ ?_
  exact de_bl
  refine da_cons ?_ ?_
  exact de_bl
  refine da_cons ?_ ?_
  exact de_str
  refine da_cons ?_ ?_
  refine de_tup ?_
  exact da_nil
  refine da_cons ?_ ?_
  refine de_tup ?_
  refine da_cons ?_ ?_
  exact de_int
  exact da_nil
  refine da_cons ?_ ?_
  refine de_lst ?_
  refine da_cons ?_ ?_
  exact de_int
  exact da_nil
  refine da_cons ?_ ?_
  refine de_dic ?_
  refine dps_cons ?_ ?_ ?_
  exact de_int
  exact de_int
  exact dps_nil
  refine da_cons ?_ ?_
  refine de_tup ?_
  refine da_cons ?_ ?_
  exact de_str
  exact da_nil
  refine da_cons ?_ ?_
  refine de_lst ?_
  refine da_cons ?_ ?_
  exact de_str
  exact da_nil
  refine da_cons ?_ ?_
  exact de_str
  refine da_cons ?_ ?_
  exact de_str
  refine da_cons ?_ ?_
  refine de_dic ?_
  refine dps_cons ?_ ?_ ?_
  exact de_str
  exact de_int
  exact dps_nil
  refine da_cons ?_ ?_
  exact de_str
  exact da_nil
  exact da_nil
  refine dss_one ?_
  refine ds_if ?_ ?_ ?_
  refine dt_cmp (od_ne hr) ?_ ?_
  refine de_lst ?_
  refine da_cons ?_ ?_
  refine dc (L := t.d_is_integer) (ok_is_integer t) hr (takes_of (by rfl) (by rfl) (by rfl) (by rfl)) ?_
  refine da_cons ?_ ?_
  exact dv 10
  exact da_nil
  refine da_cons ?_ ?_
  refine dc (L := t.d_is_count) (ok_is_count t) hr (takes_of (by rfl) (by rfl) (by rfl) (by rfl)) ?_
  refine da_cons ?_ ?_
  exact dv 10
  exact da_nil
  refine da_cons ?_ ?_
  refine dc (L := t.d_is_letter) (ok_is_letter t) hr (takes_of (by rfl) (by rfl) (by rfl) (by rfl)) ?_
  refine da_cons ?_ ?_
  exact dv 10
  exact da_nil
  exact da_nil
  refine de_lst ?_
  refine da_cons ?_ ?_
  exact de_bl
  refine da_cons ?_ ?_
  exact de_bl
  refine da_cons ?_ ?_
  exact de_bl
  exact da_nil
  refine dss_one ?_
  refine ds_ret ?_
  exact de_bl
  exact dss_nil
  refine dss_one ?_
  refine ds_ret ?_
  refine de_cmp (od_eq hr) ?_ ?_
  refine de_lst ?_
  refine da_cons ?_ ?_
  refine dc (L := t.d_is_integer) (ok_is_integer t) hr (takes_of (by rfl) (by rfl) (by rfl) (by rfl)) ?_
  refine da_cons ?_ ?_
  exact de_int
  exact da_nil
  refine da_cons ?_ ?_
  refine dc (L := t.d_is_count) (ok_is_count t) hr (takes_of (by rfl) (by rfl) (by rfl) (by rfl)) ?_
  refine da_cons ?_ ?_
  exact de_int
  exact da_nil
  refine da_cons ?_ ?_
  refine dc (L := t.d_is_count) (ok_is_count t) hr (takes_of (by rfl) (by rfl) (by rfl) (by rfl)) ?_
  refine da_cons ?_ ?_
  refine de_bin od_subI ?_ ?_
  exact de_int
  exact de_int
  exact da_nil
  refine da_cons ?_ ?_
  exact de_globI (by rfl) h_MAX_FIGURES
  exact da_nil
  refine de_lst ?_
  refine da_cons ?_ ?_
  exact de_bl
  refine da_cons ?_ ?_
  exact de_bl
  refine da_cons ?_ ?_
  exact de_bl
  refine da_cons ?_ ?_
  exact de_int
  exact da_nil

theorem tx_of {K : PySem.W.Frag} {h : Heap} {mg : Str → Option Value} (X : K.In h) (G : h.Ns mainGlobals mg)
    {a__law_dice : Addr} {oc__law_dice kV__law_dice dc__law_dice pm__law_dice cd__law_dice ct__law_dice : Value} {od__law_dice an__law_dice : Option Addr} {sl__law_dice : Array (Option Value)}
    (n__law_dice : PySem.W.nsIn K mainGlobals "_law_dice" = some (some (.ref a__law_dice))) (l__law_dice : K.lookup a__law_dice = some ⟨oc__law_dice, od__law_dice, .func (PySem.W.fnOf "_law_dice" "_law_dice" (defArgs s__law_dice) (defBody s__law_dice) (defScope s__law_dice) .none kV__law_dice dc__law_dice pm__law_dice an__law_dice cd__law_dice ct__law_dice), sl__law_dice⟩) (c__law_dice : PySem.W.codeIn K cd__law_dice "_law_dice" = true) (k__law_dice : PySem.W.keepIn K (.ref a__law_dice) = true)
    {a__law_roll : Addr} {oc__law_roll kV__law_roll dc__law_roll pm__law_roll cd__law_roll ct__law_roll : Value} {od__law_roll an__law_roll : Option Addr} {sl__law_roll : Array (Option Value)}
    (n__law_roll : PySem.W.nsIn K mainGlobals "_law_roll" = some (some (.ref a__law_roll))) (l__law_roll : K.lookup a__law_roll = some ⟨oc__law_roll, od__law_roll, .func (PySem.W.fnOf "_law_roll" "_law_roll" (defArgs s__law_roll) (defBody s__law_roll) (defScope s__law_roll) .none kV__law_roll dc__law_roll pm__law_roll an__law_roll cd__law_roll ct__law_roll), sl__law_roll⟩) (c__law_roll : PySem.W.codeIn K cd__law_roll "_law_roll" = true) (k__law_roll : PySem.W.keepIn K (.ref a__law_roll) = true)
    {a__law_pick : Addr} {oc__law_pick kV__law_pick dc__law_pick pm__law_pick cd__law_pick ct__law_pick : Value} {od__law_pick an__law_pick : Option Addr} {sl__law_pick : Array (Option Value)}
    (n__law_pick : PySem.W.nsIn K mainGlobals "_law_pick" = some (some (.ref a__law_pick))) (l__law_pick : K.lookup a__law_pick = some ⟨oc__law_pick, od__law_pick, .func (PySem.W.fnOf "_law_pick" "_law_pick" (defArgs s__law_pick) (defBody s__law_pick) (defScope s__law_pick) .none kV__law_pick dc__law_pick pm__law_pick an__law_pick cd__law_pick ct__law_pick), sl__law_pick⟩) (c__law_pick : PySem.W.codeIn K cd__law_pick "_law_pick" = true) (k__law_pick : PySem.W.keepIn K (.ref a__law_pick) = true)
    {a_is_integer : Addr} {oc_is_integer kV_is_integer dc_is_integer pm_is_integer cd_is_integer ct_is_integer : Value} {od_is_integer an_is_integer : Option Addr} {sl_is_integer : Array (Option Value)}
    (n_is_integer : PySem.W.nsIn K mainGlobals "is_integer" = some (some (.ref a_is_integer))) (l_is_integer : K.lookup a_is_integer = some ⟨oc_is_integer, od_is_integer, .func (PySem.W.fnOf "is_integer" "is_integer" (defArgs s_is_integer) (defBody s_is_integer) (defScope s_is_integer) .none kV_is_integer dc_is_integer pm_is_integer an_is_integer cd_is_integer ct_is_integer), sl_is_integer⟩) (c_is_integer : PySem.W.codeIn K cd_is_integer "is_integer" = true) (k_is_integer : PySem.W.keepIn K (.ref a_is_integer) = true)
    {a_is_count : Addr} {oc_is_count kV_is_count dc_is_count pm_is_count cd_is_count ct_is_count : Value} {od_is_count an_is_count : Option Addr} {sl_is_count : Array (Option Value)}
    (n_is_count : PySem.W.nsIn K mainGlobals "is_count" = some (some (.ref a_is_count))) (l_is_count : K.lookup a_is_count = some ⟨oc_is_count, od_is_count, .func (PySem.W.fnOf "is_count" "is_count" (defArgs s_is_count) (defBody s_is_count) (defScope s_is_count) .none kV_is_count dc_is_count pm_is_count an_is_count cd_is_count ct_is_count), sl_is_count⟩) (c_is_count : PySem.W.codeIn K cd_is_count "is_count" = true) (k_is_count : PySem.W.keepIn K (.ref a_is_count) = true)
    {a__law_limit : Addr} {oc__law_limit kV__law_limit dc__law_limit pm__law_limit cd__law_limit ct__law_limit : Value} {od__law_limit an__law_limit : Option Addr} {sl__law_limit : Array (Option Value)}
    (n__law_limit : PySem.W.nsIn K mainGlobals "_law_limit" = some (some (.ref a__law_limit))) (l__law_limit : K.lookup a__law_limit = some ⟨oc__law_limit, od__law_limit, .func (PySem.W.fnOf "_law_limit" "_law_limit" (defArgs s__law_limit) (defBody s__law_limit) (defScope s__law_limit) .none kV__law_limit dc__law_limit pm__law_limit an__law_limit cd__law_limit ct__law_limit), sl__law_limit⟩) (c__law_limit : PySem.W.codeIn K cd__law_limit "_law_limit" = true) (k__law_limit : PySem.W.keepIn K (.ref a__law_limit) = true)
    {a__law_number : Addr} {oc__law_number kV__law_number dc__law_number pm__law_number cd__law_number ct__law_number : Value} {od__law_number an__law_number : Option Addr} {sl__law_number : Array (Option Value)}
    (n__law_number : PySem.W.nsIn K mainGlobals "_law_number" = some (some (.ref a__law_number))) (l__law_number : K.lookup a__law_number = some ⟨oc__law_number, od__law_number, .func (PySem.W.fnOf "_law_number" "_law_number" (defArgs s__law_number) (defBody s__law_number) (defScope s__law_number) .none kV__law_number dc__law_number pm__law_number an__law_number cd__law_number ct__law_number), sl__law_number⟩) (c__law_number : PySem.W.codeIn K cd__law_number "_law_number" = true) (k__law_number : PySem.W.keepIn K (.ref a__law_number) = true)
    {a_is_letter : Addr} {oc_is_letter kV_is_letter dc_is_letter pm_is_letter cd_is_letter ct_is_letter : Value} {od_is_letter an_is_letter : Option Addr} {sl_is_letter : Array (Option Value)}
    (n_is_letter : PySem.W.nsIn K mainGlobals "is_letter" = some (some (.ref a_is_letter))) (l_is_letter : K.lookup a_is_letter = some ⟨oc_is_letter, od_is_letter, .func (PySem.W.fnOf "is_letter" "is_letter" (defArgs s_is_letter) (defBody s_is_letter) (defScope s_is_letter) .none kV_is_letter dc_is_letter pm_is_letter an_is_letter cd_is_letter ct_is_letter), sl_is_letter⟩) (c_is_letter : PySem.W.codeIn K cd_is_letter "is_letter" = true) (k_is_letter : PySem.W.keepIn K (.ref a_is_letter) = true)
    {a_law : Addr} {oc_law kV_law dc_law pm_law cd_law ct_law : Value} {od_law an_law : Option Addr} {sl_law : Array (Option Value)}
    (n_law : PySem.W.nsIn K mainGlobals "law" = some (some (.ref a_law))) (l_law : K.lookup a_law = some ⟨oc_law, od_law, .func (PySem.W.fnOf "law" "law" (defArgs s_law) (defBody s_law) (defScope s_law) .none kV_law dc_law pm_law an_law cd_law ct_law), sl_law⟩) (c_law : PySem.W.codeIn K cd_law "law" = true) (k_law : PySem.W.keepIn K (.ref a_law) = true)
    {tk_LETTERS : Tok} (g_LETTERS : PySem.W.nsIn K mainGlobals "LETTERS" = some (some (.str c_LETTERS tk_LETTERS)))
    {tk_LIMIT : Tok} (g_LIMIT : PySem.W.nsIn K mainGlobals "LIMIT" = some (some (.int c_LIMIT tk_LIMIT)))
    {tk_MAX_FIGURES : Tok} (g_MAX_FIGURES : PySem.W.nsIn K mainGlobals "MAX_FIGURES" = some (some (.int c_MAX_FIGURES tk_MAX_FIGURES)))
    (z_abs : PySem.W.nsIn K mainGlobals "abs" = some none)
    (z_bool : PySem.W.nsIn K mainGlobals "bool" = some none)
    (z_int : PySem.W.nsIn K mainGlobals "int" = some none)
    (z_isinstance : PySem.W.nsIn K mainGlobals "isinstance" = some none)
    (z_len : PySem.W.nsIn K mainGlobals "len" = some none)
    (z_max : PySem.W.nsIn K mainGlobals "max" = some none)
    (z_min : PySem.W.nsIn K mainGlobals "min" = some none)
    (z_range : PySem.W.nsIn K mainGlobals "range" = some none)
    (z_repr : PySem.W.nsIn K mainGlobals "repr" = some none)
    (z_str : PySem.W.nsIn K mainGlobals "str" = some none) : ∃ t : Tx K mg, t.a_law = a_law ∧ t.f_law = PySem.W.fnOf "law" "law" (defArgs s_law) (defBody s_law) (defScope s_law) .none kV_law dc_law pm_law an_law cd_law ct_law :=
  ⟨{
    a__law_dice := a__law_dice, f__law_dice := _, d__law_dice := ⟨PySem.W.mg_of X G n__law_dice, fun_mk (st := s__law_dice) l__law_dice c__law_dice k__law_dice, (fun_mk (st := s__law_dice) l__law_dice c__law_dice k__law_dice).binds fun _ _ _ _ _ _ us hl => match us, hl with | [_, _], _ => rfl⟩,
    a__law_roll := a__law_roll, f__law_roll := _, d__law_roll := ⟨PySem.W.mg_of X G n__law_roll, fun_mk (st := s__law_roll) l__law_roll c__law_roll k__law_roll, (fun_mk (st := s__law_roll) l__law_roll c__law_roll k__law_roll).binds fun _ _ _ _ _ _ us hl => match us, hl with | [_, _], _ => rfl⟩,
    a__law_pick := a__law_pick, f__law_pick := _, d__law_pick := ⟨PySem.W.mg_of X G n__law_pick, fun_mk (st := s__law_pick) l__law_pick c__law_pick k__law_pick, (fun_mk (st := s__law_pick) l__law_pick c__law_pick k__law_pick).binds fun _ _ _ _ _ _ us hl => match us, hl with | [_, _], _ => rfl⟩,
    a_is_integer := a_is_integer, f_is_integer := _, d_is_integer := ⟨PySem.W.mg_of X G n_is_integer, fun_mk (st := s_is_integer) l_is_integer c_is_integer k_is_integer, (fun_mk (st := s_is_integer) l_is_integer c_is_integer k_is_integer).binds fun _ _ _ _ _ _ us hl => match us, hl with | [_], _ => rfl⟩,
    a_is_count := a_is_count, f_is_count := _, d_is_count := ⟨PySem.W.mg_of X G n_is_count, fun_mk (st := s_is_count) l_is_count c_is_count k_is_count, (fun_mk (st := s_is_count) l_is_count c_is_count k_is_count).binds fun _ _ _ _ _ _ us hl => match us, hl with | [_], _ => rfl⟩,
    a__law_limit := a__law_limit, f__law_limit := _, d__law_limit := ⟨PySem.W.mg_of X G n__law_limit, fun_mk (st := s__law_limit) l__law_limit c__law_limit k__law_limit, (fun_mk (st := s__law_limit) l__law_limit c__law_limit k__law_limit).binds fun _ _ _ _ _ _ us hl => match us, hl with | [], _ => rfl⟩,
    a__law_number := a__law_number, f__law_number := _, d__law_number := ⟨PySem.W.mg_of X G n__law_number, fun_mk (st := s__law_number) l__law_number c__law_number k__law_number, (fun_mk (st := s__law_number) l__law_number c__law_number k__law_number).binds fun _ _ _ _ _ _ us hl => match us, hl with | [_], _ => rfl⟩,
    a_is_letter := a_is_letter, f_is_letter := _, d_is_letter := ⟨PySem.W.mg_of X G n_is_letter, fun_mk (st := s_is_letter) l_is_letter c_is_letter k_is_letter, (fun_mk (st := s_is_letter) l_is_letter c_is_letter k_is_letter).binds fun _ _ _ _ _ _ us hl => match us, hl with | [_], _ => rfl⟩,
    a_law := a_law, f_law := _, d_law := ⟨PySem.W.mg_of X G n_law, fun_mk (st := s_law) l_law c_law k_law, (fun_mk (st := s_law) l_law c_law k_law).binds fun _ _ _ _ _ _ us hl => match us, hl with | [_], _ => rfl⟩,
    g_LETTERS := ⟨_, PySem.W.mg_of X G g_LETTERS⟩,
    g_LIMIT := ⟨_, PySem.W.mg_of X G g_LIMIT⟩,
    g_MAX_FIGURES := ⟨_, PySem.W.mg_of X G g_MAX_FIGURES⟩,
    n_abs := PySem.W.mg_none_of X G z_abs,
    n_bool := PySem.W.mg_none_of X G z_bool,
    n_int := PySem.W.mg_none_of X G z_int,
    n_isinstance := PySem.W.mg_none_of X G z_isinstance,
    n_len := PySem.W.mg_none_of X G z_len,
    n_max := PySem.W.mg_none_of X G z_max,
    n_min := PySem.W.mg_none_of X G z_min,
    n_range := PySem.W.mg_none_of X G z_range,
    n_repr := PySem.W.mg_none_of X G z_repr,
    n_str := PySem.W.mg_none_of X G z_str
  }, rfl, rfl⟩
theorem tx_of' {K : PySem.W.Frag} {h : Heap} {mg : Str → Option Value} (X : K.In h) (G : h.Ns mainGlobals mg)
    {a__law_dice : Addr} {oc__law_dice kV__law_dice dc__law_dice pm__law_dice cd__law_dice ct__law_dice : Value} {od__law_dice an__law_dice : Option Addr} {sl__law_dice : Array (Option Value)}
    (n__law_dice : PySem.W.nsIn K mainGlobals "_law_dice" = some (some (.ref a__law_dice))) (l__law_dice : K.lookup a__law_dice = some ⟨oc__law_dice, od__law_dice, .func (PySem.W.fnOf "_law_dice" "_law_dice" (defArgs s__law_dice) (defBody s__law_dice) (defScope s__law_dice) .none kV__law_dice dc__law_dice pm__law_dice an__law_dice cd__law_dice ct__law_dice), sl__law_dice⟩) (c__law_dice : PySem.W.codeIn K cd__law_dice "_law_dice" = true) (k__law_dice : PySem.W.keepIn K (.ref a__law_dice) = true)
    {a__law_roll : Addr} {oc__law_roll kV__law_roll dc__law_roll pm__law_roll cd__law_roll ct__law_roll : Value} {od__law_roll an__law_roll : Option Addr} {sl__law_roll : Array (Option Value)}
    (n__law_roll : PySem.W.nsIn K mainGlobals "_law_roll" = some (some (.ref a__law_roll))) (l__law_roll : K.lookup a__law_roll = some ⟨oc__law_roll, od__law_roll, .func (PySem.W.fnOf "_law_roll" "_law_roll" (defArgs s__law_roll) (defBody s__law_roll) (defScope s__law_roll) .none kV__law_roll dc__law_roll pm__law_roll an__law_roll cd__law_roll ct__law_roll), sl__law_roll⟩) (c__law_roll : PySem.W.codeIn K cd__law_roll "_law_roll" = true) (k__law_roll : PySem.W.keepIn K (.ref a__law_roll) = true)
    {a__law_pick : Addr} {oc__law_pick kV__law_pick dc__law_pick pm__law_pick cd__law_pick ct__law_pick : Value} {od__law_pick an__law_pick : Option Addr} {sl__law_pick : Array (Option Value)}
    (n__law_pick : PySem.W.nsIn K mainGlobals "_law_pick" = some (some (.ref a__law_pick))) (l__law_pick : K.lookup a__law_pick = some ⟨oc__law_pick, od__law_pick, .func (PySem.W.fnOf "_law_pick" "_law_pick" (defArgs s__law_pick) (defBody s__law_pick) (defScope s__law_pick) .none kV__law_pick dc__law_pick pm__law_pick an__law_pick cd__law_pick ct__law_pick), sl__law_pick⟩) (c__law_pick : PySem.W.codeIn K cd__law_pick "_law_pick" = true) (k__law_pick : PySem.W.keepIn K (.ref a__law_pick) = true)
    {a_is_integer : Addr} {oc_is_integer kV_is_integer dc_is_integer pm_is_integer cd_is_integer ct_is_integer : Value} {od_is_integer an_is_integer : Option Addr} {sl_is_integer : Array (Option Value)}
    (n_is_integer : PySem.W.nsIn K mainGlobals "is_integer" = some (some (.ref a_is_integer))) (l_is_integer : K.lookup a_is_integer = some ⟨oc_is_integer, od_is_integer, .func (PySem.W.fnOf "is_integer" "is_integer" (defArgs s_is_integer) (defBody s_is_integer) (defScope s_is_integer) .none kV_is_integer dc_is_integer pm_is_integer an_is_integer cd_is_integer ct_is_integer), sl_is_integer⟩) (c_is_integer : PySem.W.codeIn K cd_is_integer "is_integer" = true) (k_is_integer : PySem.W.keepIn K (.ref a_is_integer) = true)
    {a_is_count : Addr} {oc_is_count kV_is_count dc_is_count pm_is_count cd_is_count ct_is_count : Value} {od_is_count an_is_count : Option Addr} {sl_is_count : Array (Option Value)}
    (n_is_count : PySem.W.nsIn K mainGlobals "is_count" = some (some (.ref a_is_count))) (l_is_count : K.lookup a_is_count = some ⟨oc_is_count, od_is_count, .func (PySem.W.fnOf "is_count" "is_count" (defArgs s_is_count) (defBody s_is_count) (defScope s_is_count) .none kV_is_count dc_is_count pm_is_count an_is_count cd_is_count ct_is_count), sl_is_count⟩) (c_is_count : PySem.W.codeIn K cd_is_count "is_count" = true) (k_is_count : PySem.W.keepIn K (.ref a_is_count) = true)
    {a__law_limit : Addr} {oc__law_limit kV__law_limit dc__law_limit pm__law_limit cd__law_limit ct__law_limit : Value} {od__law_limit an__law_limit : Option Addr} {sl__law_limit : Array (Option Value)}
    (n__law_limit : PySem.W.nsIn K mainGlobals "_law_limit" = some (some (.ref a__law_limit))) (l__law_limit : K.lookup a__law_limit = some ⟨oc__law_limit, od__law_limit, .func (PySem.W.fnOf "_law_limit" "_law_limit" (defArgs s__law_limit) (defBody s__law_limit) (defScope s__law_limit) .none kV__law_limit dc__law_limit pm__law_limit an__law_limit cd__law_limit ct__law_limit), sl__law_limit⟩) (c__law_limit : PySem.W.codeIn K cd__law_limit "_law_limit" = true) (k__law_limit : PySem.W.keepIn K (.ref a__law_limit) = true)
    {a__law_number : Addr} {oc__law_number kV__law_number dc__law_number pm__law_number cd__law_number ct__law_number : Value} {od__law_number an__law_number : Option Addr} {sl__law_number : Array (Option Value)}
    (n__law_number : PySem.W.nsIn K mainGlobals "_law_number" = some (some (.ref a__law_number))) (l__law_number : K.lookup a__law_number = some ⟨oc__law_number, od__law_number, .func (PySem.W.fnOf "_law_number" "_law_number" (defArgs s__law_number) (defBody s__law_number) (defScope s__law_number) .none kV__law_number dc__law_number pm__law_number an__law_number cd__law_number ct__law_number), sl__law_number⟩) (c__law_number : PySem.W.codeIn K cd__law_number "_law_number" = true) (k__law_number : PySem.W.keepIn K (.ref a__law_number) = true)
    {a_is_letter : Addr} {oc_is_letter kV_is_letter dc_is_letter pm_is_letter cd_is_letter ct_is_letter : Value} {od_is_letter an_is_letter : Option Addr} {sl_is_letter : Array (Option Value)}
    (n_is_letter : PySem.W.nsIn K mainGlobals "is_letter" = some (some (.ref a_is_letter))) (l_is_letter : K.lookup a_is_letter = some ⟨oc_is_letter, od_is_letter, .func (PySem.W.fnOf "is_letter" "is_letter" (defArgs s_is_letter) (defBody s_is_letter) (defScope s_is_letter) .none kV_is_letter dc_is_letter pm_is_letter an_is_letter cd_is_letter ct_is_letter), sl_is_letter⟩) (c_is_letter : PySem.W.codeIn K cd_is_letter "is_letter" = true) (k_is_letter : PySem.W.keepIn K (.ref a_is_letter) = true)
    {a_law : Addr} {oc_law kV_law dc_law pm_law cd_law ct_law : Value} {od_law an_law : Option Addr} {sl_law : Array (Option Value)}
    (n_law : PySem.W.nsIn K mainGlobals "law" = some (some (.ref a_law))) (l_law : K.lookup a_law = some ⟨oc_law, od_law, .func (PySem.W.fnOf "law" "law" (defArgs s_law) (defBody s_law) (defScope s_law) .none kV_law dc_law pm_law an_law cd_law ct_law), sl_law⟩) (c_law : PySem.W.codeIn K cd_law "law" = true) (k_law : PySem.W.keepIn K (.ref a_law) = true)
    {tk_LETTERS : Tok} (g_LETTERS : PySem.W.nsIn K mainGlobals "LETTERS" = some (some (.str c_LETTERS tk_LETTERS)))
    {tk_LIMIT : Tok} (g_LIMIT : PySem.W.nsIn K mainGlobals "LIMIT" = some (some (.int c_LIMIT tk_LIMIT)))
    {tk_MAX_FIGURES : Tok} (g_MAX_FIGURES : PySem.W.nsIn K mainGlobals "MAX_FIGURES" = some (some (.int c_MAX_FIGURES tk_MAX_FIGURES)))
    (z_abs : PySem.W.nsIn K mainGlobals "abs" = some none)
    (z_bool : PySem.W.nsIn K mainGlobals "bool" = some none)
    (z_int : PySem.W.nsIn K mainGlobals "int" = some none)
    (z_isinstance : PySem.W.nsIn K mainGlobals "isinstance" = some none)
    (z_len : PySem.W.nsIn K mainGlobals "len" = some none)
    (z_max : PySem.W.nsIn K mainGlobals "max" = some none)
    (z_min : PySem.W.nsIn K mainGlobals "min" = some none)
    (z_range : PySem.W.nsIn K mainGlobals "range" = some none)
    (z_repr : PySem.W.nsIn K mainGlobals "repr" = some none)
    (z_str : PySem.W.nsIn K mainGlobals "str" = some none) : ∃ t : Tx K mg, True :=
  let ⟨t, _⟩ := tx_of X G n__law_dice l__law_dice c__law_dice k__law_dice n__law_roll l__law_roll c__law_roll k__law_roll n__law_pick l__law_pick c__law_pick k__law_pick n_is_integer l_is_integer c_is_integer k_is_integer n_is_count l_is_count c_is_count k_is_count n__law_limit l__law_limit c__law_limit k__law_limit n__law_number l__law_number c__law_number k__law_number n_is_letter l_is_letter c_is_letter k_is_letter n_law l_law c_law k_law g_LETTERS g_LIMIT g_MAX_FIGURES z_abs z_bool z_int z_isinstance z_len z_max z_min z_range z_repr z_str
  ⟨t, trivial⟩
theorem walk {l : PySem.W.OpenLaw} {q : Program} {loose : List Str} {XP : (Str → Option Value) → Heap → Prop} {YP : World → Heap → Prop} {d : DefRec} {K : Params → PySem.W.Frag} (hn : l.most = some 63) (hdf : d.params.defaults = []) (hd : d.name = "law")
    (hY : ∀ (w : World) (h : Heap), YP w h → (K w.params).In h) (F : ∀ (w : World) (mg : Str → Option Value) (h : Heap), (K w.params).In h → h.Ns mainGlobals mg → ∃ t : Tx (K w.params) mg, True)
    (h : ∀ ns : List Int, ns.length ≤ 63 → ∃ st, m_law [.scr (ns.map D.int)] [] = .ok (.bl true) st) : PySem.W.WalkO q loose XP YP l.row.toRowW d [] (fun f vs => PySem.call f vs) :=
  law_walk (n := 63) (k := 4) (x := "script") hn (by decide) hdf ⟨⟨rfl, by decide, by decide⟩, rfl⟩ hY (fun w mg fa hp h1 h2 h3 => by
    obtain ⟨t, _⟩ := F w mg hp h1 h2
    rw [hd] at h3
    have e : fa = t.a_law := by
      have := h3.symm.trans t.d_law.mg
      cases this
      rfl
    subst e
    refine ⟨t.f_law, fun s u => ?_, ⟨fun _ => none⟩, fun base _ _ => ok_law t⟩
    obtain ⟨_, _, kV, doc, pm, an, cdv, ct, _, e, _, _⟩ := t.d_law.fn.ex
    rw [e]
    exact .of_eq rfl) h
end G
local macro_rules | `(tactic| walk_at "ev") => `(tactic| simp only [L3.R.go_ok, L3.R.go_ex, L3.R.go_bad, L3.R.ofO_some, L3.R.ofO_none, L3.R.toS_ok, L3.R.toS_ex, L3.R.toS_bad, L3.SR.go_nx, L3.SR.go_rt, L3.SR.go_bk, L3.SR.go_ct, L3.SR.go_ex, L3.SR.go_bad, L3.SR.out_nx, L3.SR.out_rt, L3.SR.out_ex, L3.ev_bind, L3.ev_opt, L3.ev_rd, L3.ev_pure, L3.ev_badM, L3.SR.ofO_some, L3.ev_var, L3.ev_c, L3.ev_asB, L3.ev_bin, L3.ev_kB1, L3.ev_kB2, L3.ev_un, L3.ev_kU, L3.ev_and, L3.ev_kAnd, L3.ev_kAnd2_t, L3.ev_kAnd2_f, L3.ev_or, L3.ev_kOr, L3.ev_kOr2_t, L3.ev_kOr2_f, L3.ev_not, L3.ev_kNot, L3.ev_if, L3.ev_kIf_t, L3.ev_kIf_f, L3.ev_bE, L3.ev_bAnd, L3.ev_kbAnd_t, L3.ev_kbAnd_f, L3.ev_bOr, L3.ev_kbOr_t, L3.ev_kbOr_f, L3.ev_bNot, L3.ev_kbNot, L3.ev_aNil, L3.ev_aCons, L3.ev_kA1, L3.ev_kA2, L3.ev_tup, L3.ev_kTup, L3.ev_lst, L3.ev_kLst, L3.ev_lstC, L3.ev_kLstC, L3.ev_call, L3.ev_kCall, L3.ev_app, L3.ev_chain, L3.ev_kC1, L3.ev_kC2, L3.ev_kC3, L3.ev_kC4_t, L3.ev_kC4_f, L3.ev_sNext, L3.ev_sSeq, L3.ev_sE, L3.ev_sSet, L3.ev_kSet, L3.ev_sExpr, L3.ev_kExpr, L3.ev_sRet, L3.ev_kRet, L3.ev_sRetN, L3.ev_sBreak, L3.ev_sCont, L3.ev_sIf, L3.ev_kIfS_t, L3.ev_kIfS_f, L3.ev_sAsg, L3.ev_kAsg1, L3.ev_kAsg2, L3.ev_kAsg3, L3.ev_sPar, L3.ev_kP1, L3.ev_kP2, L3.ev_sPar3, L3.ev_kQ1, L3.ev_kQ2, L3.ev_kQ3, L3.ev_sSub, L3.ev_kS1, L3.ev_kS2, L3.ev_kS3, L3.ev_sFor, L3.ev_kFor, L3.ev_range1, L3.ev_range2, L3.ev_kR2a, L3.ev_seqT, L3.ev_kST, L3.ev_seqL, L3.ev_kSL, L3.ev_kSR, L3.ev_kSC, L3.ev_lc, L3.ev_kL1, L3.ev_kL2, L3.ev_fun0, L3.ev_fun1, L3.ev_fun2, L3.ev_fun3, L3.ev_fun4, L3.ev_fun5, L3.ev_seq, L3.ev_ixO, L3.ev_atI0, L3.ev_atI1, L3.ev_atI2, L3.ev_setAt, L3.ev_addII, L3.ev_addSS, L3.ev_addTT, L3.ev_addLL, L3.ev_subII, L3.ev_fdivII, L3.ev_modII, L3.ev_powII, L3.ev_negI, L3.ev_ltII, L3.ev_leII, L3.ev_gtII, L3.ev_geII, L3.ev_ltSS, L3.ev_leSS, L3.ev_abs, L3.ev_max, L3.ev_min, L3.ev_intI, L3.ev_intB, L3.ev_strI, L3.ev_lenS, L3.ev_lenT, L3.ev_lenL, L3.ev_lenR, L3.ev_ixT, L3.ev_ixL, L3.ev_ixR, L3.ev_ixC, L3.ev_ixS, L3.ev_setIx, L3.ev_setO0, L3.ev_setO1, L3.ev_setO2, L3.ev_lenC, L3.kit_NoneType_int, L3.kit_NoneType_bool, L3.kit_NoneType_str, L3.kit_NoneType_tuple, L3.kit_NoneType_list, L3.kit_NoneType_dict, L3.kit_bool_int, L3.kit_bool_bool, L3.kit_bool_str, L3.kit_bool_tuple, L3.kit_bool_list, L3.kit_bool_dict, L3.kit_int_int, L3.kit_int_bool, L3.kit_int_str, L3.kit_int_tuple, L3.kit_int_list, L3.kit_int_dict, L3.kit_str_int, L3.kit_str_bool, L3.kit_str_str, L3.kit_str_tuple, L3.kit_str_list, L3.kit_str_dict, L3.kit_tuple_int, L3.kit_tuple_bool, L3.kit_tuple_str, L3.kit_tuple_tuple, L3.kit_tuple_list, L3.kit_tuple_dict, L3.kit_list_int, L3.kit_list_bool, L3.kit_list_str, L3.kit_list_tuple, L3.kit_list_list, L3.kit_list_dict, L3.kit_dict_int, L3.kit_dict_bool, L3.kit_dict_str, L3.kit_dict_tuple, L3.kit_dict_list, L3.kit_dict_dict, L3.ev_isi', L3.ev_isi_non, L3.ev_isi_bl, L3.ev_isi_int, L3.ev_isi_str, L3.ev_isi_tup, L3.ev_isi_lst, L3.ev_isi_scr, L3.ev_isi_dic, L3.ev_fits_00, L3.ev_fits_01, L3.ev_fits_02, L3.ev_fits_03, L3.ev_fits_04, L3.ev_fits_05, L3.ev_fits_06, L3.ev_fits_07, L3.ev_fits_08, L3.ev_fits_09, L3.ev_fits_10, L3.ev_fits_11, L3.ev_fits_12, L3.ev_fits_13, L3.ev_fits_14, L3.ev_fits_15, L3.ev_fits_16, L3.ev_fits_17, L3.ev_fits_18, L3.ev_fits_19, L3.ev_fits_20, L3.ev_fits_21, L3.ev_fits_22, L3.ev_fits_23, L3.ev_fits_24, L3.ev_fits_25, L3.ev_fits_26, L3.ev_fits_27, L3.ev_fits_28, L3.ev_fits_29, L3.ev_fits_30, L3.ev_fits_31, L3.ev_fits_32, L3.ev_eqII, L3.ev_neII, L3.ev_eqSS, L3.ev_neSS, L3.orO_some, L3.orO_none, L3.lstOf_lst, L3.tupOf_tup, L3.join_some, List.replicate, eq_self, Int.reduceEq, Int.reduceLT, Int.reduceLE, Int.reduceAdd, Int.reduceSub, Int.reduceMul, Int.reduceNeg, Nat.reduceLeDiff, Nat.reduceEqDiff, Bool.and_true, Bool.true_and, Bool.and_false, Bool.false_and, List.set_set, Int.cast_ofNat_Int, and_self, Option.join_some, Option.map_some, Option.map_none, Nat.reduceSub, Nat.reduceAdd, List.set_cons_zero, List.set_cons_succ, List.set_nil, List.getElem?_cons_zero, List.getElem?_cons_succ, List.length_cons, List.length_nil, List.length_append, List.nil_append, List.cons_append, decide_true, decide_false, if_true, if_false, ↓reduceIte, Bool.false_eq_true, Bool.not_true, Bool.not_false, L3.ev_mulII', L3.ev_kR1, L3.ev_kR2b, L3.lstOf_seq, *])
namespace G
open PySem PySem.Spec PyProof.Rows L2 L3
/-! ## The dice -/
def DiceAt (st : Sto) (n : Nat) (N : Int) : Prop := ∃ a b c : Int, st[n]? = some (.lst [.int a, .int b, .int c]) ∧ 0 ≤ a ∧ a < 10 ^ 120 ∧ 0 ≤ b ∧ b < 2 ^ 100 ∧ 0 ≤ c ∧ c ≤ N
theorem DiceAt.mono {st : Sto} {n : Nat} {N M : Int} (h : DiceAt st n N) (hm : N ≤ M) : DiceAt st n M := by
  obtain ⟨a, b, c, h1, h2, h3, h4, h5, h6, h7⟩ := h
  exact ⟨a, b, c, h1, h2, h3, h4, h5, h6, Int.le_trans h7 hm⟩
theorem dice_cell (ns : List Int) (hn : ns.length ≤ 63) (spot : Nat) (hs : spot ≤ 1000) (cell : Int) (st : Sto)
    (hc : (spot < ns.length ∧ ns[spot]? = some cell) ∨ (¬ spot < ns.length ∧ cell = 67 * spot + 23)) :
    ∃ a b : Int, m__law_dice [.scr (ns.map .int), .int spot] st = .ok (.cell st.length) (st ++ [.lst [.int a, .int b, .int 0]]) ∧ 0 ≤ a ∧ a < 10 ^ 120 ∧ 0 ≤ b ∧ b < 2 ^ 66 := by
  have hp1 : powOk 10 15 = true := by decide
  have hp2 : powOk 10 60 = true := by decide
  have hm1 : mulOk (10 ^ Int.toNat 60) (10 ^ Int.toNat 60) = true := by decide +kernel
  have hd1 : ∀ x, modOk x (10 ^ Int.toNat 60 * 10 ^ Int.toNat 60) = true := fun x => modOk_of (by decide)
  have hd2 : ∀ x, modOk x 1152921504606846959 = true := fun x => modOk_of (by decide)
  have hm2 : ∀ x : Int, mulOk (x % 1152921504606846959) 41 = true := fun x => mulOk_of (n := 61) (m := 6) (emod_abs (by decide) (by decide)) (by decide) (by decide) (by decide) (by decide)
  have hm3 : mulOk 907 (spot : Int) = true := mulOk_of (n := 10) (m := 10) (by decide) (by omega) (by decide) (by decide) (by decide)
  have hm4 : mulOk 67 (spot : Int) = true := mulOk_of (n := 10) (m := 10) (by decide) (by omega) (by decide) (by decide) (by decide)
  have hm5 : mulOk 29 1 = true := by decide
  have hm6 : mulOk 29 0 = true := by decide
  have hb : 0 ≤ ((if cell < 0 then -cell else cell) % 1152921504606846959 * 41 + 907 * spot + 29 * (if cell < 0 then 1 else 0) + 5) ∧ ((if cell < 0 then -cell else cell) % 1152921504606846959 * 41 + 907 * spot + 29 * (if cell < 0 then 1 else 0) + 5) < 2 ^ 66 := by
    omega
  refine ⟨(if (if cell < 0 then -cell else cell) - 10 ^ Int.toNat 15 > (0 : Int) then (if cell < 0 then -cell else cell) - 10 ^ Int.toNat 15 else (0 : Int)) % (10 ^ Int.toNat 60 * 10 ^ Int.toNat 60), (if cell < 0 then -cell else cell) % 1152921504606846959 * 41 + 907 * spot + 29 * (if cell < 0 then 1 else 0) + 5, ?_, Int.emod_nonneg _ (by decide), Int.emod_lt_of_pos _ (by decide), hb.1, hb.2⟩
  have hlen : ((ns.map D.int).length : Int) = (ns.length : Int) := by rw [List.length_map]
  unfold m__law_dice b__law_dice
  rcases hc with ⟨h1, h2⟩ | ⟨h1, h2⟩
  · have hlt : (spot : Int) < ((ns.map D.int).length : Int) := by rw [hlen]; omega
    have hix : atI (ns.map D.int) (spot : Int) = some (.int cell) := L3.atI_nat (by rw [List.getElem?_map, h2]; rfl)
    clear hlen hb h2 h1
    by_cases hneg : cell < 0
    · walk_at "ev"
    · walk_at "ev"
  · have hlt : ¬ (spot : Int) < ((ns.map D.int).length : Int) := by rw [hlen]; omega
    have he : 67 * (spot : Int) + 23 = cell := h2.symm
    clear hlen hb h2 h1
    by_cases hneg : cell < 0
    · walk_at "ev"
    · walk_at "ev"
theorem dice_ok (ns : List Int) (hn : ns.length ≤ 63) (spot : Nat) (hs : spot ≤ 1000) (st : Sto) :
    ∃ s', m__law_dice [.scr (ns.map .int), .int spot] st = .ok (.cell st.length) s' ∧ DiceAt s' st.length 0 ∧ s' = st ++ s'.drop st.length := by
  have key : ∃ cell : Int, (spot < ns.length ∧ ns[spot]? = some cell) ∨ (¬ spot < ns.length ∧ cell = 67 * spot + 23) := by
    by_cases h : spot < ns.length
    · exact ⟨ns[spot], .inl ⟨h, List.getElem?_eq_getElem h⟩⟩
    · exact ⟨_, .inr ⟨h, rfl⟩⟩
  obtain ⟨cell, hc⟩ := key
  obtain ⟨a, b, h, ha, ha', hb, hb'⟩ := dice_cell ns hn spot hs cell st hc
  refine ⟨_, h, ⟨a, b, 0, ?_, ha, ha', hb, Int.lt_trans hb' (by decide), by decide, by decide⟩, ?_⟩
  · rw [List.getElem?_append_right (Nat.le_refl _), Nat.sub_self]; rfl
  · rw [List.drop_left]
theorem roll_ok (st : Sto) (n : Nat) (N total : Int) (h : DiceAt st n N) (hN : N < 10 ^ 12) (ht : 0 < total) (ht' : total < 2 ^ 2000) :
    ∃ (r : Int) (c : C), m__law_roll [.cell n, .int total] st = .ok (.int r) (st.set n c) ∧ 0 ≤ r ∧ r < total ∧ DiceAt (st.set n c) n (N + 1) := by
  obtain ⟨a, b, c, h1, ha, ha', hb, hb', hc, hc'⟩ := h
  have hmt : ∀ x, modOk x total = true := fun x => modOk_of ht
  have hdt : divOk a total = true := divOk_of (n := 2000) ht (natAbs_lt (by omega) ht') (by decide) (by decide)
  have hset : ∀ v : C, (st.set n v)[n]? = some v := fun v => by rw [ev_setAt, h1]; rfl
  by_cases hp : 0 < a
  · refine ⟨a % total, .lst [.int (a / total), .int b, .int c], ?_, Int.emod_nonneg _ (by omega), Int.emod_lt_of_pos _ ht, ⟨_, _, _, hset _, Int.ediv_nonneg ha (by omega), ?_, hb, hb', hc, by omega⟩⟩
    · unfold m__law_roll b__law_roll
      walk_at "ev"
    · exact Int.lt_of_le_of_lt (Int.ediv_le_self _ ha) ha'
  · have hm1 : mulOk 49979687 (c + 1) = true := mulOk_of (n := 30) (m := 42) (by decide) (by omega) (by decide) (by decide) (by decide)
    have hm2 : ∀ x : Int, modOk x 2305843009213693907 = true := fun x => modOk_of (by decide)
    have hm3 : ∀ x : Int, mulOk (x % 2305843009213693907) (x % 2305843009213693907) = true := fun x => mulOk_of (n := 62) (m := 62) (emod_abs (by decide) (by decide)) (emod_abs (by decide) (by decide)) (by decide) (by decide) (by decide)
    have hm4 : mulOk 89 (c + 1) = true := mulOk_of (n := 30) (m := 42) (by decide) (by omega) (by decide) (by decide) (by decide)
    have hm5 : ∀ x : Int, modOk x 1152921504606846847 = true := fun x => modOk_of (by decide)
    have hm6 : ∀ x : Int, mulOk (x % 1152921504606846847) 6700417 = true := fun x => mulOk_of (n := 62) (m := 62) (emod_abs (by decide) (by decide)) (by decide) (by decide) (by decide) (by decide)
    have hm7 : ∀ x : Int, divOk x 131072 = true := fun x => divOk_of (n := 20) (by decide) (by decide) (by decide) (by decide)
    refine ⟨(((b + 49979687 * (c + 1)) % 2305843009213693907 * ((b + 49979687 * (c + 1)) % 2305843009213693907) + 89 * (c + 1)) % 1152921504606846847 * 6700417 + (b + 49979687 * (c + 1)) % 2305843009213693907) / 131072 % total, .lst [.int a, .int b, .int (c + 1)], ?_, Int.emod_nonneg _ (by omega), Int.emod_lt_of_pos _ ht, ⟨a, b, c + 1, hset _, ha, ha', hb, hb', by omega, by omega⟩⟩
    · unfold m__law_roll b__law_roll
      walk_at "ev"
theorem pick_ok {st : Sto} {n : Nat} {N : Int} (xs : List D) (h : DiceAt st n N) (hN : N < 10 ^ 12) (hx : 0 < xs.length) (hx' : xs.length < 2 ^ 60) (y : D) (hy : y = .lst xs ∨ y = .tup xs) :
    ∃ d c, m__law_pick [.cell n, y] st = .ok d (st.set n c) ∧ d ∈ xs ∧ DiceAt (st.set n c) n (N + 1) := by
  obtain ⟨r, c, hr, h0, h1, h2⟩ := roll_ok st n N xs.length h hN (by omega) (by omega)
  obtain ⟨k, rfl⟩ := Int.eq_ofNat_of_zero_le h0
  have hk : k < xs.length := by omega
  have hix : atI xs (k : Int) = some xs[k] := L3.atI_nat (List.getElem?_eq_getElem hk)
  refine ⟨xs[k], c, ?_, List.getElem_mem hk, h2⟩
  rcases hy with rfl | rfl
  · unfold m__law_pick b__law_pick
    walk_at "ev"
  · unfold m__law_pick b__law_pick
    walk_at "ev"
/-! ## k00 -/
theorem limit_ok (st : Sto) : m__law_limit [] st = .ok (.int (10 ^ 400)) st := by
  have h1 : powOk 10 50 = true := by decide
  have h2 : powOk (10 ^ Int.toNat 50) 8 = true := by decide +kernel
  have h3 : ((10 : Int) ^ Int.toNat 50) ^ Int.toNat 8 = 10 ^ 400 := by decide +kernel
  unfold m__law_limit b__law_limit
  walk_at "ev"
theorem is_integer_int (v : Int) (st : Sto) : m_is_integer [.int v] st = .ok (.bl (decide (-c_LIMIT < v) && decide (v < c_LIMIT))) st := by
  unfold m_is_integer b_is_integer
  by_cases h1 : -c_LIMIT < v
  · by_cases h2 : v < c_LIMIT
    · walk_at "ev"
    · walk_at "ev"
  · walk_at "ev"
theorem is_count_int (v : Int) (st : Sto) : m_is_count [.int v] st = .ok (.bl (decide (-c_LIMIT < v) && (decide (v < c_LIMIT) && decide (0 ≤ v)))) st := by
  have := is_integer_int v
  unfold m_is_count b_is_count
  by_cases h1 : -c_LIMIT < v
  · by_cases h2 : v < c_LIMIT
    · by_cases h3 : 0 ≤ v
      · walk_at "ev"
      · walk_at "ev"
    · walk_at "ev"
  · walk_at "ev"
theorem number_ok (st : Sto) (n : Nat) (N : Int) (h : DiceAt st n N) (hN : N < 10 ^ 11) : ∃ (v : Int) (c : C), m__law_number [.cell n] st = .ok (.int v) (st.set n c) ∧ v.natAbs < 2 ^ 1900 ∧ DiceAt (st.set n c) n (N + 3) := by
  have hl := limit_ok
  obtain ⟨d, c1, h1, hm, g1⟩ := pick_ok [.int 0, .int 1, .int 10, .int (10 ^ Int.toNat 20), .int (10 ^ 400 / 10), .int (10 ^ 400), .int (10 ^ 400), .int (10 ^ 400 * 10 ^ Int.toNat 50)] h (by omega) (by decide) (by decide) _ (.inl rfl)
  have hv : ∃ v : Int, d = .int v ∧ 0 ≤ v ∧ v ≤ 10 ^ 400 * 10 ^ Int.toNat 50 := by
    simp only [List.mem_cons, List.not_mem_nil, or_false] at hm
    rcases hm with rfl | rfl | rfl | rfl | rfl | rfl | rfl | rfl <;> exact ⟨_, rfl, by decide +kernel, by decide +kernel⟩
  obtain ⟨v, rfl, hv0, hv1⟩ := hv
  obtain ⟨r, c2, h2, hr0, hr1, g2⟩ := roll_ok _ n _ 5 g1 (by omega) (by decide) (by decide +kernel)
  obtain ⟨r', c3, h3, hr0', hr1', g3⟩ := roll_ok _ n _ 2 g2 (by omega) (by decide) (by decide +kernel)
  rw [List.set_set] at h2 g2 g3 h3
  rw [List.set_set] at h3 g3
  have hp1 : powOk 10 20 = true := by decide
  have hp2 : powOk 10 50 = true := by decide
  have hd : divOk (10 ^ 400) 10 = true := by decide
  have hmu : mulOk (10 ^ 400) (10 ^ Int.toNat 50) = true := by decide +kernel
  have hb : v.natAbs < 2 ^ 1800 := by
    have e : (v.natAbs : Int) = v := Int.natAbs_of_nonneg hv0
    have : (10 : Int) ^ 400 * 10 ^ Int.toNat 50 < ((2 ^ 1800 : Nat) : Int) := by decide +kernel
    omega
  have hb2 : (2 : Nat) ^ 1800 + 10 < 2 ^ 1900 := by decide +kernel
  clear hv1 hm
  by_cases hz : r' = 0
  · refine ⟨0 - (v + r - 2), c3, ?_, ?_, g3.mono (by omega)⟩
    · unfold m__law_number b__law_number
      walk_at "ev"
    · generalize (2 : Nat) ^ 1800 = A at *
      generalize (2 : Nat) ^ 1900 = B at *
      omega
  · refine ⟨v + r - 2, c3, ?_, ?_, g3.mono (by omega)⟩
    · unfold m__law_number b__law_number
      walk_at "ev"
    · generalize (2 : Nat) ^ 1800 = A at *
      generalize (2 : Nat) ^ 1900 = B at *
      omega
theorem is_letter_int (v : Int) (st : Sto) : m_is_letter [.int v] st = .ok (.bl false) st := by
  unfold m_is_letter b_is_letter
  walk_at "ev"
def letL (x : Str) : Bool := decide (x.length = 1) && !(Builtin.Str.occurrences c_LETTERS x 0 c_LETTERS.length 1).isEmpty
def letR (x : Str) : Bool := decide (x.length = 1) && ((!decide (x.cps.toList < ("a" : Str).cps.toList)) && !decide (("z" : Str).cps.toList < x.cps.toList))
theorem ev_inSS (st : Sto) (x y : Str) : inD st (.str x) (.str y) = some (.bl (!(Builtin.Str.occurrences y x 0 y.length 1).isEmpty)) := rfl
theorem is_letter_str (x : Str) (hx : x.length ≤ 2) (st : Sto) : m_is_letter [.str x] st = .ok (.bl (letL x)) st := by
  have hf : fits x.length = true := fits_of (by omega)
  have hi := ev_inSS
  unfold m_is_letter b_is_letter letL
  by_cases h : x.length = 1
  · have h' : (x.length : Int) = 1 := by omega
    walk_at "ev"
  · have h' : ¬ (x.length : Int) = 1 := by omega
    walk_at "ev"
def signs : Str := "abcdefghijklmnopqrstuvwxyzAZ09 _-.,+{}[]@"
theorem letters_same : ∀ c ∈ signs.cps.toList, ∀ t ∈ (["", "a", " "] : List String), letL (⟨#[c]⟩ ++ Str.ofString t) = letR (⟨#[c]⟩ ++ Str.ofString t) := by decide +kernel
def oddD (d : D) : Prop := d ∈ ([.non, .bl true, .bl false, .str "7", .tup [], .tup [.int 7], .lst [.int 7], .dic [(.inl 7, .int 7)], .tup [.str "a"], .lst [.str "a"], .str "", .str "ab", .dic [(.inr "a", .int 1)], .str "\n"] : List D)
theorem odd_no (d : D) (h : oddD d) (st : Sto) : m_is_integer [d] st = .ok (.bl false) st ∧ m_is_count [d] st = .ok (.bl false) st ∧ m_is_letter [d] st = .ok (.bl false) st := by
  have hz : letL "7" = false := by decide +kernel
  have hz2 : letL "" = false := by decide +kernel
  have hz3 : letL "ab" = false := by decide +kernel
  have hz4 : letL "\n" = false := by decide +kernel
  have l7 := is_letter_str "7" (by decide)
  have l8 := is_letter_str "" (by decide)
  have l9 := is_letter_str "ab" (by decide)
  have l10 := is_letter_str "\n" (by decide)
  have key : m_is_integer [d] st = .ok (.bl false) st := by
    unfold m_is_integer b_is_integer
    unfold oddD at h
    simp only [List.mem_cons, List.not_mem_nil, or_false] at h
    rcases h with rfl | rfl | rfl | rfl | rfl | rfl | rfl | rfl | rfl | rfl | rfl | rfl | rfl | rfl <;> walk_at "ev"
  refine ⟨key, ?_, ?_⟩
  · unfold m_is_count b_is_count
    walk_at "ev"
  · unfold oddD at h
    simp only [List.mem_cons, List.not_mem_nil, or_false] at h
    rcases h with rfl | rfl | rfl | rfl | rfl | rfl | rfl | rfl | rfl | rfl | rfl | rfl | rfl | rfl
    any_goals walk_at "ev"
    all_goals
      unfold m_is_letter b_is_letter
      walk_at "ev"
def Inv1 (ns : List Int) (spot n : Nat) (N : Int) (i : Nat) (e : DEnv) (s : Sto) : Prop := ∃ o4 o5 o6 o7 o8 o9 o10, e = [some (.scr (ns.map D.int)), some (.str signs), some (.int spot), some (.cell n), o4, o5, o6, o7, o8, o9, o10] ∧ DiceAt s n (N + 6 * i)
theorem turn1 (ns : List Int) (spot n : Nat) (N : Int) (hN : N < 10 ^ 10) (i : Nat) (hi : i < 4) (d : D) (e : DEnv) (s : Sto) (h : Inv1 ns spot n N i e s) : ∃ e1, gN 4 d e = some e1 ∧ ∃ e2 s2, (l1_law e1 s = .nx e2 s2 ∨ l1_law e1 s = .ct e2 s2) ∧ Inv1 ns spot n N (i + 1) e2 s2 := by
  obtain ⟨o4, o5, o6, o7, o8, o9, o10, rfl, hd⟩ := h
  refine ⟨_, rfl, ?_⟩
  obtain ⟨v, c1, h1, hv, g1⟩ := number_ok s n _ hd (by omega)
  obtain ⟨r, c2, h2, hr0, hr1, g2⟩ := roll_ok _ n _ 41 g1 (by omega) (by decide) (by decide +kernel)
  rw [List.set_set] at h2 g2
  obtain ⟨t, c3, h3, ht, g3⟩ := pick_ok [.str "", .str "", .str "", .str "a", .str " "] g2 (by omega) (by decide) (by decide) _ (.inl rfl)
  rw [List.set_set] at h3 g3
  have hs : ∃ c ∈ signs.cps.toList, atI signs.cps.toList r = some c := by
    obtain ⟨k, rfl⟩ := Int.eq_ofNat_of_zero_le hr0
    have hk : k < signs.cps.toList.length := by
      have : signs.cps.toList.length = 41 := by decide +kernel
      omega
    exact ⟨_, List.getElem_mem hk, L3.atI_nat (List.getElem?_eq_getElem hk)⟩
  obtain ⟨c, hc, hat⟩ := hs
  have ht' : ∃ t' ∈ (["", "a", " "] : List String), t = .str (Str.ofString t') := by
    simp only [List.mem_cons, List.not_mem_nil, or_false] at ht
    rcases ht with rfl | rfl | rfl | rfl | rfl
    · exact ⟨"", by decide, rfl⟩
    · exact ⟨"", by decide, rfl⟩
    · exact ⟨"", by decide, rfl⟩
    · exact ⟨"a", by decide, rfl⟩
    · exact ⟨" ", by decide, rfl⟩
  obtain ⟨t', ht', rfl⟩ := ht'
  have hsame := letters_same c hc t' ht'
  have hlen : (Str.ofString t').length ≤ 1 := by
    simp only [List.mem_cons, List.not_mem_nil, or_false] at ht'
    rcases ht' with rfl | rfl | rfl <;> decide
  have hl1 : Str.length ⟨#[c]⟩ = 1 := rfl
  have hfs : fits signs.length = true := by decide +kernel
  have hls : signs.length = 41 := by decide +kernel
  have hls' : ((41 : Nat) : Int) = 41 := rfl
  have hff : fits (1 + (Str.ofString t').length) = true := fits_of (by omega)
  have hxl : (⟨#[c]⟩ ++ Str.ofString t' : Str).length = 1 + (Str.ofString t').length := by rw [strLen_append, hl1]
  generalize hx : (⟨#[c]⟩ ++ Str.ofString t' : Str) = x at *
  have hlx := is_letter_str x (by omega)
  have hx2 : fits x.length = true := fits_of (by omega)
  have hii := is_integer_int v
  have hic := is_count_int v
  have hil := is_letter_int v
  have habs : (if v < 0 then -v else v) = (v.natAbs : Int) := abs_if v
  have hlog : decide ((v.natAbs : Int).natAbs.log2 < 1920) = true := decide_eq_true (log2_of (Nat.lt_of_lt_of_le hv (Nat.pow_le_pow_right (by decide) (by decide))) (by decide))
  have hshort : decide (((Str.ofString (toString (v.natAbs : Int))).length : Int) ≤ 400) = (decide (-c_LIMIT < v) && decide (v < c_LIMIT)) := by
    have := intText_len (n := v.natAbs) (k := 400) (by decide)
    rw [Bool.eq_iff_iff, Bool.and_eq_true, decide_eq_true_eq, decide_eq_true_eq, decide_eq_true_eq]
    unfold c_LIMIT
    have e : ((10 ^ 400 : Nat) : Int) = (10 : Int) ^ 400 := by decide +kernel
    rw [← e]
    generalize (10 : Nat) ^ 400 = A at *
    omega
  have hfl : fits (Str.ofString (toString (v.natAbs : Int))).length = true := by
    have := int_text_length_le (a := (v.natAbs : Int)) (k := 1920) (by decide) (of_decide_eq_true hlog)
    exact fits_of (by rw [PySem.ofString_length]; omega)
  have hrep : ∀ (a b c d : Bool) (s : Sto), reprD s [.lst [.bl a, .bl b, .bl c, .bl d]] = some (.str (D.show (.lst [.bl a, .bl b, .bl c, .bl d]))) := fun a b c d s => repr_of (n := 1) s rfl (by show 31 ≤ 16777216; decide) (by decide)
  have hic' : ∀ st, m_is_count [.int v] st = .ok (.bl ((decide (-c_LIMIT < v) && decide (v < c_LIMIT)) && decide (0 ≤ v))) st := fun st => by rw [hic st, Bool.and_assoc]
  clear hic
  generalize hb : (decide (-c_LIMIT < v) && decide (v < c_LIMIT)) = b at *
  generalize hy : (Str.ofString (toString (v.natAbs : Int))) = y at *
  have hrun : l1_law [some (.scr (ns.map D.int)), some (.str signs), some (.int spot), some (.cell n), some d, o5, o6, o7, o8, o9, o10] s = .nx [some (.scr (ns.map D.int)), some (.str signs), some (.int spot), some (.cell n), some d, some (.int v), some (.str ⟨#[c]⟩), some (.str x), some (.bl b), some (.lst [.bl b, .bl (b && decide (0 ≤ v)), .bl (letL x), .bl false]), o10] (s.set n c3) := by
    clear hv hb hd g1 g2 g3 hr0 hr1 ht' hlen hc
    have hls2 : ((signs.length : Nat) : Int) = 41 := by rw [hls]; rfl
    clear hls hls' hxl
    unfold l1_law
    by_cases hA : x.length = 1
    · have hA' : (x.length : Int) = 1 := by rw [hA]; rfl
      have hR0 : letR x = ((!decide (x.cps.toList < ("a" : Str).cps.toList)) && !decide (("z" : Str).cps.toList < x.cps.toList)) := by unfold letR; rw [hA]; rfl
      by_cases hB : x.cps.toList < ("a" : Str).cps.toList
      · have hR : letR x = false := by rw [hR0, decide_eq_true hB]; rfl
        clear hR0
        cases b <;> walk_at "ev"
      · by_cases hC : ("z" : Str).cps.toList < x.cps.toList
        · have hR : letR x = false := by rw [hR0, decide_eq_true hC, decide_eq_false hB]; rfl
          clear hR0
          cases b <;> walk_at "ev"
        · have hR : letR x = true := by rw [hR0, decide_eq_false hB, decide_eq_false hC]; rfl
          clear hR0
          cases b <;> walk_at "ev"
    · have hA' : ¬ (x.length : Int) = 1 := fun h => hA (Int.ofNat_inj.mp h)
      have hR : letR x = false := by unfold letR; rw [decide_eq_false hA]; rfl
      cases b <;> walk_at "ev"
  refine ⟨_, _, .inl hrun, ⟨_, _, _, _, _, _, _, rfl, g3.mono (by omega)⟩⟩
def Inv2 (ns : List Int) (_ : Nat) (e : DEnv) (_ : Sto) : Prop := ∃ o2 o3 o4 o5 o6 o7 o8 o9 o10, e = [some (.scr (ns.map D.int)), some (.str signs), o2, o3, o4, o5, o6, o7, o8, o9, o10]
theorem turn2 (ns : List Int) (hn : ns.length ≤ 63) (i : Nat) (hi : i < 5) (d : D) (hd : d = .int i) (e : DEnv) (s : Sto) (h : Inv2 ns i e s) : ∃ e1, gN 2 d e = some e1 ∧ ∃ e2 s2, (l2_law e1 s = .nx e2 s2 ∨ l2_law e1 s = .ct e2 s2) ∧ Inv2 ns (i + 1) e2 s2 := by
  obtain ⟨o2, o3, o4, o5, o6, o7, o8, o9, o10, rfl⟩ := h
  subst hd
  refine ⟨_, rfl, ?_⟩
  obtain ⟨s1, h1, g1, -⟩ := dice_ok ns hn i (by omega) s
  generalize hn0 : s.length = n at *
  obtain ⟨e2, s2, h2, o4', o5', o6', o7', o8', o9', o10', rfl, g2⟩ := forD_inv (c := none) (g := gN 4) (b := l1_law) (items := rngD 0 4) (s := s1) (Inv1 ns i n 0) ⟨o4, o5, o6, o7, o8, o9, o10, rfl, g1⟩ (fun _ _ _ _ => rfl)
    (fun j x e s hj hi => turn1 ns i n 0 (by decide) j (rngD_get hj).2 x e s hi)
  have hlen4 : (rngD 0 4).length = 4 := by rw [rngD_length]; rfl
  rw [hlen4] at g2
  obtain ⟨o, c3, h3, ho, g3⟩ := pick_ok [.non, .bl true, .bl false, .str "7", .tup [], .tup [.int 7], .lst [.int 7], .dic [(.inl 7, .int 7)], .tup [.str "a"], .lst [.str "a"], .str "", .str "ab", .dic [(.inr "a", .int 1)], .str "\n"] g2 (by decide) (by decide) (by decide) _ (.inl rfl)
  have hodd := odd_no o ho
  have ho1 := fun st => (hodd st).1
  have ho2 := fun st => (hodd st).2.1
  have ho3 := fun st => (hodd st).2.2
  have hd1 : ∀ env st, eDic ((eC (.int 7), eC (.int 7)) :: []) env st = .ok (.dic [(.inl 7, .int 7)]) st := fun _ _ => rfl
  have hd2 : ∀ env st, eDic ((eC (.str "a"), eC (.int 1)) :: []) env st = .ok (.dic [(.inr "a", .int 1)]) st := fun _ _ => rfl
  have hne : ∀ st, neD st (.lst [.bl false, .bl false, .bl false]) (.lst [.bl false, .bl false, .bl false]) = some (.bl false) := fun st => neD_same (n := 1) st rfl
  have h4 : small62 4 = true := by decide
  clear hodd ho g3 g2 g1 hn0 hn hi
  have hrun : l2_law [some (.scr (ns.map D.int)), some (.str signs), some (.int i), o3, o4, o5, o6, o7, o8, o9, o10] s = .nx [some (.scr (ns.map D.int)), some (.str signs), some (.int i), some (.cell n), o4', o5', o6', o7', o8', o9', some o] (s2.set n c3) := by
    unfold l2_law
    walk_at "ev"
  exact ⟨_, _, .inl hrun, ⟨_, _, _, _, _, _, _, _, _, rfl⟩⟩
theorem holds (ns : List Int) (hn : ns.length ≤ 63) : ∃ st, m_law [.scr (ns.map D.int)] [] = .ok (.bl true) st := by
  generalize hk : (if (if ((ns.map D.int).length : Int) < 5 then ((ns.map D.int).length : Int) else 5) > 1 then (if ((ns.map D.int).length : Int) < 5 then ((ns.map D.int).length : Int) else 5) else 1) = k
  have hk5 : k ≤ 5 ∧ 1 ≤ k := by
    subst hk
    split
    · split <;> omega
    · omega
  have h62 : small62 k = true := small62_of (by omega) (by omega)
  obtain ⟨e2, s2, h2, o2, o3, o4', o5', o6', o7', o8', o9', o10', rfl⟩ := forD_inv (c := none) (g := gN 2) (b := l2_law) (items := rngD 0 k) (s := []) (Inv2 ns) ⟨none, none, none, none, none, none, none, none, none, rfl⟩ (fun _ _ _ _ => rfl)
    (fun j x e s hj hi => turn2 ns hn j (by have := (rngD_get hj).2; omega) x (by rw [(rngD_get hj).1, Int.zero_add]) e s hi)
  have hi0 : ∀ st, m_is_integer [.int 0] st = .ok (.bl true) st := fun st => by
    rw [is_integer_int, decide_eq_true (show -c_LIMIT < 0 by decide +kernel), decide_eq_true (show (0 : Int) < c_LIMIT by decide +kernel)]; rfl
  have hc0 : ∀ st, m_is_count [.int 0] st = .ok (.bl true) st := fun st => by
    rw [is_count_int, decide_eq_true (show -c_LIMIT < 0 by decide +kernel), decide_eq_true (show (0 : Int) < c_LIMIT by decide +kernel)]; rfl
  have hc1 : ∀ st, m_is_count [.int (-1)] st = .ok (.bl false) st := fun st => by
    rw [is_count_int, decide_eq_false (show ¬ (0 : Int) ≤ -1 by decide), Bool.and_false, Bool.and_false]
  have heq : ∀ st, eqD st (.lst [.bl true, .bl true, .bl false, .int c_MAX_FIGURES]) (.lst [.bl true, .bl true, .bl false, .int 400]) = some (.bl true) := fun st => eqD_same (n := 1) st rfl
  have hsig : Str.ofString "abcdefghijklmnopqrstuvwxyzAZ09 _-.,+{}[]@" = signs := rfl
  clear hk5
  refine ⟨s2, ?_⟩
  unfold m_law b_law
  walk_at "ev"
end G
open PySem PySem.W PyProof.Rows
set_option maxRecDepth 100000 in
set_option maxHeartbeats 0 in
theorem PySem.Challenge.cw_grownquorums_k00_integers_and_letters_holds : PySem.Challenge.rw_grownquorums_k00_integers_and_letters.Holds := by
  w_on; o_law; k_head; (case hw => w_witness2)
  k_fill
  refine G.walk (l := PySem.Challenge.rw_grownquorums_k00_integers_and_letters) rfl rfl rfl (fun w h Y => PySem.W.kIn_of Y) ?F G.holds
  case F =>
    intro w mg h KX Gn
    refine' G.tx_of' KX Gn ?n__law_dice ?l__law_dice ?c__law_dice ?k__law_dice ?n__law_roll ?l__law_roll ?c__law_roll ?k__law_roll ?n__law_pick ?l__law_pick ?c__law_pick ?k__law_pick ?n_is_integer ?l_is_integer ?c_is_integer ?k_is_integer ?n_is_count ?l_is_count ?c_is_count ?k_is_count ?n__law_limit ?l__law_limit ?c__law_limit ?k__law_limit ?n__law_number ?l__law_number ?c__law_number ?k__law_number ?n_is_letter ?l_is_letter ?c_is_letter ?k_is_letter ?n_law ?l_law ?c_law ?k_law ?g_LETTERS ?g_LIMIT ?g_MAX_FIGURES ?z_abs ?z_bool ?z_int ?z_isinstance ?z_len ?z_max ?z_min ?z_range ?z_repr ?z_str
    (case n__law_dice => k_is); (case l__law_dice => k_is); (case c__law_dice => k_is); (case k__law_dice => k_is); (case n__law_roll => k_is); (case l__law_roll => k_is); (case c__law_roll => k_is); (case k__law_roll => k_is); (case n__law_pick => k_is); (case l__law_pick => k_is); (case c__law_pick => k_is); (case k__law_pick => k_is); (case n_is_integer => k_is); (case l_is_integer => k_is); (case c_is_integer => k_is); (case k_is_integer => k_is); (case n_is_count => k_is); (case l_is_count => k_is); (case c_is_count => k_is); (case k_is_count => k_is); (case n__law_limit => k_is); (case l__law_limit => k_is); (case c__law_limit => k_is); (case k__law_limit => k_is); (case n__law_number => k_is); (case l__law_number => k_is); (case c__law_number => k_is); (case k__law_number => k_is); (case n_is_letter => k_is); (case l_is_letter => k_is); (case c_is_letter => k_is); (case k_is_letter => k_is); (case n_law => k_is); (case l_law => k_is); (case c_law => k_is); (case k_law => k_is); (case g_LETTERS => k_is); (case g_LIMIT => k_is); (case g_MAX_FIGURES => k_is); (case z_abs => k_is); (case z_bool => k_is); (case z_int => k_is); (case z_isinstance => k_is); (case z_len => k_is); (case z_max => k_is); (case z_min => k_is); (case z_range => k_is); (case z_repr => k_is); (case z_str => k_is)
