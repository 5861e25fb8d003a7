import PyProof.Rows.All
import Wide.All
import OpenK.AllK
import Wide.FinOn
import HandS.ForMost
import HandS.ForExc
import HandS.Wide
import HandS.Flow
import HandS.IsInst
import HandS.CallSlots
import HandS.More
import HandS.Defaults
import HandS.Dict
import HandS.WordsDict
import HandS.SortInts
import HandS.DictComp
import HandS.Exc
import HandS.TryMany
import HandS.ExcIs
import HandS.HeadHook4
import HandS.Head2
import HandS.HeadEnd
import PySem.Challenge.RW_everyshift_k61_readings_turned_and_joine
set_option Elab.async false
set_option linter.all false
set_option maxRecDepth 100000
set_option maxHeartbeats 2000000
/-! DW: data of a pure program, read off the abstract heap. -/
namespace DW
open PySem PySem.Spec PyProof.Rows L2

/-- plain data -/
abbrev D := PyData
def keyD : Key → D
  | .inl i => .int i
  | .inr x => .str x
def dictD (kvs : List (Key × D)) : D := .dict (kvs.map fun p => (keyD p.1, p.2))

mutual
/-- the value v stands for the data d; all lists and tuples met on the way lie in S -/
inductive Rep (S : Addr → Prop) (H : Hp) : V → D → Prop where
  | non : Rep S H .non .none
  | bl (b : Bool) : Rep S H (.bl b) (.bool b)
  | int (i : Int) : Rep S H (.int i) (.int i)
  | str (x : Str) : Rep S H (.str x) (.str x)
  | lst {a : Addr} {vs : List V} {ds : List D} : S a → H a = some (.lst vs) → Reps S H vs ds → Rep S H (.ref a) (.list ds)
  | tup {a : Addr} {vs : List V} {ds : List D} : S a → H a = some (.tup vs) → Reps S H vs ds → Rep S H (.ref a) (.tuple ds)
  | dic {a : Addr} {ws : List (Key × V)} {kvs : List (Key × D)} {e : D} : S a → Rd H a (.dK ws) → RepK S H ws kvs → e = dictD kvs → Rep S H (.ref a) e
inductive Reps (S : Addr → Prop) (H : Hp) : List V → List D → Prop where
  | nil : Reps S H [] []
  | cons {v : V} {d : D} {vs : List V} {ds : List D} : Rep S H v d → Reps S H vs ds → Reps S H (v :: vs) (d :: ds)
inductive RepK (S : Addr → Prop) (H : Hp) : List (Key × V) → List (Key × D) → Prop where
  | nil : RepK S H [] []
  | cons {k : Key} {v : V} {d : D} {ws : List (Key × V)} {kvs : List (Key × D)} : Rep S H v d → RepK S H ws kvs → RepK S H ((k, v) :: ws) ((k, d) :: kvs)
end

/-- what is in S stays, S may grow -/
structure Gx (S : Addr → Prop) (H : Hp) (S' : Addr → Prop) (H' : Hp) : Prop where
  sub : ∀ b, S b → S' b
  keep : ∀ b o, S b → H b = some o → H' b = some o
theorem Gx.refl (S : Addr → Prop) (H : Hp) : Gx S H S H := ⟨fun _ h => h, fun _ _ _ h => h⟩
theorem Gx.trans {S S1 S2 : Addr → Prop} {H H1 H2 : Hp} (a : Gx S H S1 H1) (b : Gx S1 H1 S2 H2) : Gx S H S2 H2 :=
  ⟨fun x h => b.sub x (a.sub x h), fun x o h e => b.keep x o (a.sub x h) (a.keep x o h e)⟩
section
variable {S S' : Addr → Prop} {H H' : Hp}
mutual
theorem Rep.gx : ∀ {v : V} {d : D}, Gx S H S' H' → Rep S H v d → Rep S' H' v d
  | _, _, _, .non => .non
  | _, _, _, .bl b => .bl b
  | _, _, _, .int i => .int i
  | _, _, _, .str x => .str x
  | _, _, g, .lst h e r => .lst (g.sub _ h) (g.keep _ _ h e) (Reps.gx g r)
  | _, _, g, .tup h e r => .tup (g.sub _ h) (g.keep _ _ h e) (Reps.gx g r)
  | _, _, g, .dic h e r q => .dic (g.sub _ h) (e.elim (fun z => .inl (g.keep _ _ h z)) fun ⟨o, z⟩ => .inr ⟨o, g.keep _ _ h z⟩) (RepK.gx g r) q
theorem Reps.gx : ∀ {vs : List V} {ds : List D}, Gx S H S' H' → Reps S H vs ds → Reps S' H' vs ds
  | _, _, _, .nil => .nil
  | _, _, g, .cons h t => .cons (Rep.gx g h) (Reps.gx g t)
theorem RepK.gx : ∀ {ws : List (Key × V)} {kvs : List (Key × D)}, Gx S H S' H' → RepK S H ws kvs → RepK S' H' ws kvs
  | _, _, _, .nil => .nil
  | _, _, g, .cons h t => .cons (Rep.gx g h) (RepK.gx g t)
end
theorem Reps.len : ∀ {vs : List V} {ds : List D}, Reps S H vs ds → vs.length = ds.length
  | _, _, .nil => rfl
  | _, _, .cons _ t => by rw [List.length_cons, List.length_cons, Reps.len t]
theorem RepK.len : ∀ {vs : List (Key × V)} {ds : List (Key × D)}, RepK S H vs ds → vs.length = ds.length
  | _, _, .nil => rfl
  | _, _, .cons _ t => by rw [List.length_cons, List.length_cons, RepK.len t]
theorem Reps.get : ∀ {vs : List V} {ds : List D} {i : Nat} {d : D}, Reps S H vs ds → ds[i]? = some d → ∃ v, vs[i]? = some v ∧ Rep S H v d
  | _, _, _, _, .nil, e => by simp at e
  | _, _, 0, d, .cons h _, e => by simp at e; subst e; exact ⟨_, rfl, h⟩
  | _, _, i + 1, d, .cons _ t, e => by
    obtain ⟨v, h1, h2⟩ := Reps.get (i := i) (d := d) t (by simpa using e)
    exact ⟨v, by simpa using h1, h2⟩
theorem Reps.getV : ∀ {vs : List V} {ds : List D} {i : Nat} {v : V}, Reps S H vs ds → vs[i]? = some v → ∃ d, ds[i]? = some d ∧ Rep S H v d
  | _, _, _, _, .nil, e => by simp at e
  | _, _, 0, d, .cons h _, e => by simp at e; subst e; exact ⟨_, rfl, h⟩
  | _, _, i + 1, d, .cons _ t, e => by
    obtain ⟨v, h1, h2⟩ := Reps.getV (i := i) (v := d) t (by simpa using e)
    exact ⟨v, by simpa using h1, h2⟩
theorem Reps.append : ∀ {vs ws : List V} {ds es : List D}, Reps S H vs ds → Reps S H ws es → Reps S H (vs ++ ws) (ds ++ es)
  | _, _, _, _, .nil, s => s
  | _, _, _, _, .cons h t, s => .cons h (Reps.append t s)
theorem Reps.set : ∀ {vs : List V} {ds : List D} {v : V} {d : D} (i : Nat), Reps S H vs ds → Rep S H v d → Reps S H (vs.set i v) (ds.set i d)
  | _, _, _, _, _, .nil, _ => .nil
  | _, _, _, _, 0, .cons _ t, r => .cons r t
  | _, _, _, _, i + 1, .cons h t, r => .cons h (Reps.set i t r)
theorem Reps.take : ∀ {vs : List V} {ds : List D} (n : Nat), Reps S H vs ds → Reps S H (vs.take n) (ds.take n)
  | _, _, 0, _ => .nil
  | _, _, _ + 1, .nil => .nil
  | _, _, n + 1, .cons h t => .cons h (Reps.take n t)
theorem Reps.drop : ∀ {vs : List V} {ds : List D} (n : Nat), Reps S H vs ds → Reps S H (vs.drop n) (ds.drop n)
  | _, _, 0, r => r
  | _, _, _ + 1, .nil => .nil
  | _, _, n + 1, .cons _ t => Reps.drop n t
theorem Reps.rev : ∀ {vs : List V} {ds : List D}, Reps S H vs ds → Reps S H vs.reverse ds.reverse
  | _, _, .nil => .nil
  | _, _, .cons h t => by
    rw [List.reverse_cons, List.reverse_cons]
    exact Reps.append (Reps.rev t) (.cons h .nil)
end

/-- the heap has grown, nothing was changed -/
structure Gr (S : Addr → Prop) (H : Hp) (S' : Addr → Prop) (H' : Hp) : Prop where
  keep : ∀ b o, H b = some o → H' b = some o
  sub : ∀ b, S b → S' b
  new : ∀ b, S' b → S b ∨ H b = none
  dom : ∀ b, S' b → H' b ≠ none
theorem Gr.gx {S S' : Addr → Prop} {H H' : Hp} (g : Gr S H S' H') : Gx S H S' H' := ⟨g.sub, fun b o _ e => g.keep b o e⟩
theorem Gr.refl {S : Addr → Prop} {H : Hp} (d : ∀ b, S b → H b ≠ none) : Gr S H S H := ⟨fun _ _ h => h, fun _ h => h, fun _ h => .inl h, d⟩
theorem Gr.trans {S S1 S2 : Addr → Prop} {H H1 H2 : Hp} (a : Gr S H S1 H1) (b : Gr S1 H1 S2 H2) : Gr S H S2 H2 where
  keep := fun x o e => b.keep x o (a.keep x o e)
  sub := fun x h => b.sub x (a.sub x h)
  new := fun x h => by
    rcases b.new x h with h | h
    · exact a.new x h
    · right
      cases e : H x with
      | none => rfl
      | some o => rw [a.keep x o e] at h; cases h
  dom := b.dom
/-- S and one more -/
def addS (S : Addr → Prop) (a : Addr) : Addr → Prop := fun b => S b ∨ b = a
/-- a new object, not shared -/
theorem Gr.new1 {S : Addr → Prop} {H : Hp} {p : Addr} {o : HO} (d : ∀ b, S b → H b ≠ none) (h : H p = none) : Gr S H S (upd H p o) where
  keep := fun b u e => by rw [upd_ne (ne_of_none e h)]; exact e
  sub := fun _ h => h
  new := fun _ h => .inl h
  dom := fun b hb => by
    unfold upd
    split
    · simp
    · exact d b hb
/-- a new object, shared -/
theorem Gr.newS {S : Addr → Prop} {H : Hp} {p : Addr} {o : HO} (d : ∀ b, S b → H b ≠ none) (h : H p = none) : Gr S H (addS S p) (upd H p o) where
  keep := fun b u e => by rw [upd_ne (ne_of_none e h)]; exact e
  sub := fun _ h => .inl h
  new := fun b hb => by
    rcases hb with hb | hb
    · exact .inl hb
    · exact .inr (hb ▸ h)
  dom := fun b hb => by
    rcases hb with hb | hb
    · unfold upd
      split
      · simp
      · exact d b hb
    · subst hb; rw [upd_same]; simp

/-! ### slots -/
inductive Sl where
  /-- nothing is known -/
  | un
  /-- shared data, never changed again -/
  | val (d : D)
  /-- a list of this frame's own, a dict of its own -/
  | own (ds : List D)
  | ownD (kvs : List (Key × D))
  /-- a list that was handed in to be changed -/
  | prm (ds : List D)
  /-- (a result only) what stands in slot i, an own one -/
  | bor (i : Nat)
abbrev Env := List Sl
def Sl.isOwn : Sl → Bool
  | .own _ => true
  | .ownD _ => true
  | .prm _ => true
  | _ => false
def SlotOk (S : Addr → Prop) (H : Hp) (v : Option V) : Sl → Prop
  | .un => True
  | .val d => ∃ x, v = some x ∧ Rep S H x d
  | .own ds => ∃ a vs, v = some (.ref a) ∧ ¬ S a ∧ H a = some (.lst vs) ∧ Reps S H vs ds
  | .prm ds => ∃ a vs, v = some (.ref a) ∧ ¬ S a ∧ H a = some (.lst vs) ∧ Reps S H vs ds
  | .ownD kvs => ∃ a ws, v = some (.ref a) ∧ ¬ S a ∧ H a = some (.dK ws) ∧ RepK S H ws kvs
  | .bor _ => False
/-- the entry: its heap, what is shared there, the lists handed in to be changed -/
structure Ba where
  H0 : Hp
  S0 : Addr → Prop
  par : Nat → Option Addr
def Ba.io (B : Ba) (b : Addr) : Prop := ∃ i, B.par i = some b
structure J (B : Ba) (S : Addr → Prop) (H : Hp) (σ : L2.St) (δ : Env) : Prop where
  len : σ.length = δ.length
  slot : ∀ (i : Nat) (ov : Option V) (s : Sl), σ[i]? = some ov → δ[i]? = some s → SlotOk S H ov s
  dis : ∀ (i j : Nat) (a : Addr) (s t : Sl), i ≠ j → σ[i]? = some (some (.ref a)) → σ[j]? = some (some (.ref a)) → δ[i]? = some s → δ[j]? = some t → s.isOwn = true → t.isOwn = true → False
  ownN : ∀ (i : Nat) (a : Addr) (s : Sl), σ[i]? = some (some (.ref a)) → δ[i]? = some s → s.isOwn = true → (B.H0 a = none ∧ ∀ ds, s ≠ .prm ds) ∨ (B.par i = some a ∧ ∃ ds, s = .prm ds)
  old : ∀ b o, B.H0 b = some o → ¬ B.io b → H b = some o
  sub : ∀ b, B.S0 b → S b
  new : ∀ b, S b → B.S0 b ∨ B.H0 b = none
  ion : ∀ b, B.io b → ¬ S b
  iod : ∀ b, B.io b → H b ≠ none
  dom : ∀ b, S b → H b ≠ none
  parH : ∀ j a, B.par j = some a → B.H0 a ≠ none
section
variable {B : Ba} {S S' : Addr → Prop} {H H' : Hp} {σ : L2.St} {δ : Env}
theorem SlotOk.gr {v : Option V} : ∀ {s : Sl}, Gr S H S' H' → SlotOk S H v s → SlotOk S' H' v s
  | .un, _, _ => trivial
  | .val d, g, ⟨x, e, r⟩ => ⟨x, e, r.gx g.gx⟩
  | .own ds, g, ⟨a, vs, e, n, h, r⟩ => ⟨a, vs, e, fun z => (g.new a z).elim n (fun q => by rw [h] at q; cases q), g.keep _ _ h, r.gx g.gx⟩
  | .prm ds, g, ⟨a, vs, e, n, h, r⟩ => ⟨a, vs, e, fun z => (g.new a z).elim n (fun q => by rw [h] at q; cases q), g.keep _ _ h, r.gx g.gx⟩
  | .ownD ds, g, ⟨a, vs, e, n, h, r⟩ => ⟨a, vs, e, fun z => (g.new a z).elim n (fun q => by rw [h] at q; cases q), g.keep _ _ h, r.gx g.gx⟩
theorem J.h0 (I : J B S H σ δ) {b : Addr} (h : H b = none) : B.H0 b = none := by
  cases e : B.H0 b with
  | none => rfl
  | some o =>
    by_cases hi : B.io b
    · exact absurd h (I.iod b hi)
    · rw [I.old b o e hi] at h; cases h
theorem J.gr (I : J B S H σ δ) (g : Gr S H S' H') : J B S' H' σ δ where
  len := I.len
  slot := fun i ov s h1 h2 => (I.slot i ov s h1 h2).gr g
  dis := I.dis
  ownN := I.ownN
  old := fun b o e n => g.keep b o (I.old b o e n)
  sub := fun b h => g.sub b (I.sub b h)
  new := fun b h => by
    rcases g.new b h with z | z
    · exact I.new b z
    · exact .inr (I.h0 z)
  ion := fun b hi h => by
    rcases g.new b h with z | z
    · exact I.ion b hi z
    · exact I.iod b hi z
  iod := fun b hi h => by
    cases e : H b with
    | none => exact I.iod b hi e
    | some o => rw [g.keep b o e] at h; cases h
  dom := g.dom
  parH := I.parH
end
end DW

set_option Elab.async false
set_option linter.all false
set_option maxRecDepth 100000
set_option maxHeartbeats 2000000
/-! DW: what an expression gives, as a function of the slots. -/
namespace DW
open PySem PySem.Spec PyProof.Rows L2

/-- an error on its way: its class's name, the attribute it holds -/
structure Exn where
  name : Str
  arg : Option (Str × D)
inductive R (α : Type) where
  | ok (a : α) (δ : Env)
  | ex (e : Exn) (δ : Env)
  | bad
abbrev M (α : Type) := Env → R α
def M.ret {α : Type} (a : α) : M α := fun δ => .ok a δ
def M.bind {α β : Type} (f : M α) (g : α → M β) : M β := fun δ => match f δ with
  | .ok a δ' => g a δ'
  | .ex e δ' => .ex e δ'
  | .bad => .bad
instance : Monad M where
  pure := M.ret
  bind := M.bind
theorem M.bind_def {α β : Type} (f : M α) (g : α → M β) : (f >>= g) = M.bind f g := rfl
theorem M.pure_def {α : Type} (a : α) : (pure a : M α) = M.ret a := rfl

def ExOk (mg : Str → Option Value) (S : Addr → Prop) (H : Hp) (c : Value) (d : Option Addr) (e : Exn) : Prop :=
  ∃ C, mg e.name = some (.ref C) ∧ c = .ref C ∧ match e.arg with
    | none => d = none
    | some (f, x) => ∃ dx v, d = some dx ∧ H dx = some (.xd [(f, v)]) ∧ Rep S H v x

def Pst (mg : Str → Option Value) (W : WX) (B : Ba) (S : Addr → Prop) (H : Hp) (σ : L2.St) {α : Type} (r : R α) (k : α → Env → (Addr → Prop) → Hp → Prop) : Prop :=
  match r with
  | .ok a δ' => ∀ S' H', J B S' H' σ δ' → Gx S H S' H' → k a δ' S' H'
  | .ex e δ' => ∀ S' H' c d, J B S' H' σ δ' → Gx S H S' H' → ExOk mg S' H' c d e → W c d σ H'
  | .bad => False
section
variable {mg : Str → Option Value} {W : WX} {B : Ba} {S S1 : Addr → Prop} {H H1 : Hp} {σ : L2.St} {α β : Type}
theorem Pst.gx {r : R α} {k : α → Env → (Addr → Prop) → Hp → Prop} (h : Pst mg W B S H σ r k) (g : Gx S H S1 H1) : Pst mg W B S1 H1 σ r k := by
  cases r with
  | ok a δ => exact fun S' H' j x => h S' H' j (g.trans x)
  | ex e δ => exact fun S' H' c d j x => h S' H' c d j (g.trans x)
  | bad => exact h
theorem Pst.split {f : M α} {g : α → M β} {δ : Env} {k : β → Env → (Addr → Prop) → Hp → Prop} (h : Pst mg W B S H σ (M.bind f g δ) k) :
    Pst mg W B S H σ (f δ) (fun a δ1 S1 H1 => Pst mg W B S1 H1 σ (g a δ1) k) := by
  unfold M.bind at h
  cases e : f δ with
  | ok a δ' => rw [e] at h; exact fun S' H' j x => Pst.gx h x
  | ex e' δ' => rw [e] at h; exact h
  | bad => rw [e] at h; exact h
theorem Pst.mono {r : R α} {k k' : α → Env → (Addr → Prop) → Hp → Prop} (h : Pst mg W B S H σ r k)
    (hk : ∀ a δ' S' H', J B S' H' σ δ' → Gx S H S' H' → k a δ' S' H' → k' a δ' S' H') : Pst mg W B S H σ r k' := by
  cases r with
  | ok a δ => exact fun S' H' j x => hk _ _ _ _ j x (h S' H' j x)
  | ex e δ => exact h
  | bad => exact h
end

/-! ### results -/
/-- an address that no slot owns -/
def Fr (B : Ba) (σ : L2.St) (δ : Env) (a : Addr) : Prop := B.H0 a = none ∧ ¬ B.io a ∧ ∀ (i : Nat) (s : Sl), σ[i]? = some (some (.ref a)) → δ[i]? = some s → s.isOwn = false
def RepR (B : Ba) (S : Addr → Prop) (H : Hp) (σ : L2.St) (δ : Env) (v : V) : Sl → Prop
  | .val d => Rep S H v d
  | .own ds => ∃ a vs, v = .ref a ∧ Fr B σ δ a ∧ ¬ S a ∧ H a = some (.lst vs) ∧ Reps S H vs ds
  | .ownD kvs => ∃ a ws, v = .ref a ∧ Fr B σ δ a ∧ ¬ S a ∧ H a = some (.dK ws) ∧ RepK S H ws kvs
  | .bor i => σ[i]? = some (some v)
  | _ => False
/-- an operand's -/
def RepO (S : Addr → Prop) (H : Hp) (σ : L2.St) (v : V) : Sl → Prop
  | .val d => Rep S H v d
  | .bor i => σ[i]? = some (some v)
  | _ => False
theorem RepO.gx {S S' : Addr → Prop} {H H' : Hp} {σ : L2.St} {v : V} : ∀ {s : Sl}, Gx S H S' H' → RepO S H σ v s → RepO S' H' σ v s
  | .val d, g, h => Rep.gx (d := d) g h
  | .bor i, _, h => h
inductive RepOs (S : Addr → Prop) (H : Hp) (σ : L2.St) : List V → List Sl → Prop where
  | nil : RepOs S H σ [] []
  | cons {v : V} {s : Sl} {vs : List V} {ss : List Sl} : RepO S H σ v s → RepOs S H σ vs ss → RepOs S H σ (v :: vs) (s :: ss)
theorem RepOs.gx {S S' : Addr → Prop} {H H' : Hp} {σ : L2.St} : ∀ {vs : List V} {ss : List Sl}, Gx S H S' H' → RepOs S H σ vs ss → RepOs S' H' σ vs ss
  | _, _, _, .nil => .nil
  | _, _, g, .cons h t => .cons (h.gx g) (t.gx g)

/-- the outermost object may lie outside of S -/
def Rep1 (S : Addr → Prop) (H : Hp) (v : V) (d : D) : Prop :=
  Rep S H v d ∨ (∃ a vs ds, v = .ref a ∧ d = .list ds ∧ H a = some (.lst vs) ∧ Reps S H vs ds) ∨ (∃ a ws kvs, v = .ref a ∧ d = dictD kvs ∧ Rd H a (.dK ws) ∧ RepK S H ws kvs)

/-- a temporary becomes shared -/
def frz : Sl → Sl
  | .own ds => .val (.list ds)
  | .ownD kvs => .val (dictD kvs)
  | s => s
/-- a result as data -/
def rd (δ : Env) : Sl → Option D
  | .val d => some d
  | .bor i => match δ[i]? with
    | some (.own ds) => some (.list ds)
    | some (.prm ds) => some (.list ds)
    | some (.ownD kvs) => some (dictD kvs)
    | _ => none
  | _ => none
section
variable {B : Ba} {S S' : Addr → Prop} {H H' : Hp} {σ : L2.St} {δ : Env} {v : V}
theorem J.add (I : J B S H σ δ) {a : Addr} (f : Fr B σ δ a) (hH : H a ≠ none) : J B (addS S a) H σ δ where
  len := I.len
  slot := fun i ov s h1 h2 => by
    have old := I.slot i ov s h1 h2
    have g : Gx S H (addS S a) H := ⟨fun _ h => .inl h, fun _ _ _ h => h⟩
    have ne : ∀ b, ov = some (.ref b) → s.isOwn = true → b ≠ a := fun b e o z => by
      subst z; subst e
      have := f.2.2 i s h1 h2
      rw [this] at o; cases o
    cases s with
    | un => trivial
    | val d => obtain ⟨x, e, r⟩ := old; exact ⟨x, e, r.gx g⟩
    | own ds => obtain ⟨b, vs, e, n, h, r⟩ := old; exact ⟨b, vs, e, fun z => z.elim n (ne b e rfl), h, r.gx g⟩
    | prm ds => obtain ⟨b, vs, e, n, h, r⟩ := old; exact ⟨b, vs, e, fun z => z.elim n (ne b e rfl), h, r.gx g⟩
    | ownD ds => obtain ⟨b, vs, e, n, h, r⟩ := old; exact ⟨b, vs, e, fun z => z.elim n (ne b e rfl), h, r.gx g⟩
    | bor i => exact old
  dis := I.dis
  ownN := I.ownN
  old := I.old
  sub := fun b h => .inl (I.sub b h)
  new := fun b h => by
    rcases h with h | h
    · exact I.new b h
    · subst h; exact .inr f.1
  ion := fun b hi h => by
    rcases h with h | h
    · exact I.ion b hi h
    · subst h; exact f.2.1 hi
  iod := I.iod
  dom := fun b h => by
    rcases h with h | h
    · exact I.dom b h
    · subst h; exact hH
  parH := I.parH
theorem Gx.add {a : Addr} : Gx S H (addS S a) H := ⟨fun _ h => .inl h, fun _ _ _ h => h⟩
/-- freezing a temporary -/
theorem RepR.froze (I : J B S H σ δ) : ∀ {s : Sl}, RepR B S H σ δ v s → ∃ S', J B S' H σ δ ∧ Gx S H S' H ∧ RepO S' H σ v (frz s)
  | .val d, h => ⟨S, I, Gx.refl S H, h⟩
  | .bor i, h => ⟨S, I, Gx.refl S H, h⟩
  | .own ds, ⟨a, vs, e, f, n, h, r⟩ => ⟨addS S a, I.add f (by rw [h]; simp), Gx.add, by subst e; exact .lst (.inr rfl) h (r.gx Gx.add)⟩
  | .ownD ds, ⟨a, vs, e, f, n, h, r⟩ => ⟨addS S a, I.add f (by rw [h]; simp), Gx.add, by subst e; exact .dic (.inr rfl) (.inl h) (r.gx Gx.add) rfl⟩
theorem RepO.rd (I : J B S H σ δ) {s : Sl} {d : D} (h : RepO S H σ v s) (e : rd δ s = some d) : Rep1 S H v d := by
  cases s with
  | val x => cases e; exact .inl h
  | bor i =>
    have hσ : σ[i]? = some (some v) := h
    unfold DW.rd at e
    cases q : δ[i]? with
    | none => simp [q] at e
    | some t =>
      simp only [q] at e
      have sl := I.slot i _ t hσ q
      cases t with
      | own ds => cases e; obtain ⟨a, vs, ev, n, hh, r⟩ := sl; cases ev; exact .inr (.inl ⟨a, vs, ds, rfl, rfl, hh, r⟩)
      | prm ds => cases e; obtain ⟨a, vs, ev, n, hh, r⟩ := sl; cases ev; exact .inr (.inl ⟨a, vs, ds, rfl, rfl, hh, r⟩)
      | ownD ds => cases e; obtain ⟨a, vs, ev, n, hh, r⟩ := sl; cases ev; exact .inr (.inr ⟨a, vs, ds, rfl, rfl, .inl hh, r⟩)
      | un => cases e
      | val d => cases e
      | bor j => cases e
  | _ => exact h.elim
end

/-! ### the judgements of readings -/
def DE (mg : Str → Option Value) (W : WX) (te : TE) (f : M Sl) : Prop := ∀ (B : Ba) (S : Addr → Prop) (H : Hp) (σ : L2.St) (δ : Env) (Q : VK), J B S H σ δ →
  Pst mg W B S H σ (f δ) (fun r δ' S' H' => ∀ v, RepR B S' H' σ δ' v r → Q v H') → te σ H Q
def DO (mg : Str → Option Value) (W : WX) (te : TE) (f : M Sl) : Prop := ∀ (B : Ba) (S : Addr → Prop) (H : Hp) (σ : L2.St) (δ : Env) (Q : VK), J B S H σ δ →
  Pst mg W B S H σ (f δ) (fun r δ' S' H' => ∀ v, RepO S' H' σ v r → Q v H') → te σ H Q
def DT (mg : Str → Option Value) (W : WX) (t : TT) (f : M Bool) : Prop := ∀ (B : Ba) (S : Addr → Prop) (H : Hp) (σ : L2.St) (δ : Env) (Q : Bool → Hp → Prop), J B S H σ δ →
  Pst mg W B S H σ (f δ) (fun b δ' S' H' => Q b H') → t σ H Q
def DA (mg : Str → Option Value) (W : WX) (t : TA) (f : M (List Sl)) : Prop := ∀ (B : Ba) (S : Addr → Prop) (H : Hp) (σ : L2.St) (δ : Env) (Q : List V → Hp → Prop), J B S H σ δ →
  Pst mg W B S H σ (f δ) (fun rs δ' S' H' => ∀ vs, RepOs S' H' σ vs rs → Q vs H') → t σ H Q

def opnd (f : M Sl) : M Sl := M.bind f fun r => M.ret (frz r)
/-- a result read as data -/
def rdM (r : Sl) : M D := fun δ => match rd δ r with
  | some d => .ok d δ
  | none => .bad
def liftO (o : Option Sl) : M Sl := fun δ => match o with
  | some s => .ok s δ
  | none => .bad
section
variable {mg : Str → Option Value} {W : WX} {te ta tb : TE} {f g : M Sl}
theorem DE.o (h : DE mg W te f) : DO mg W te (opnd f) := by
  intro B S H σ δ Q I p
  refine h B S H σ δ Q I (Pst.mono (Pst.split p) fun r δ' S' H' I' G' q v rv => ?_)
  obtain ⟨S2, I2, G2, ro⟩ := rv.froze I'
  exact q S2 H' I2 G2 v ro
theorem Pst.rdM {B : Ba} {S : Addr → Prop} {H : Hp} {σ : L2.St} {δ : Env} {r : Sl} {k : D → M β} {kk : β → Env → (Addr → Prop) → Hp → Prop} {v : V} (I : J B S H σ δ) (ro : RepO S H σ v r) (p : Pst mg W B S H σ (M.bind (rdM r) k δ) kk) :
    ∃ d, Rep1 S H v d ∧ Pst mg W B S H σ (k d δ) kk := by
  unfold M.bind DW.rdM at p
  cases e : rd δ r with
  | none => rw [e] at p; exact p.elim
  | some d => rw [e] at p; exact ⟨d, ro.rd I e, p⟩

/-! ### names, constants -/
def eVar (i : Nat) : M Sl := fun δ => match δ[i]? with
  | some (.val d) => .ok (.val d) δ
  | some (.own _) => .ok (.bor i) δ
  | some (.prm _) => .ok (.bor i) δ
  | some (.ownD _) => .ok (.bor i) δ
  | _ => .bad
theorem de_var {i : Nat} : DE mg W (tVar i) (eVar i) := by
  intro B S H σ δ Q I p
  unfold eVar at p
  cases e : δ[i]? with
  | none => simp [e] at p; exact p.elim
  | some s =>
    have hl : i < σ.length := by rw [I.len]; exact (List.getElem?_eq_some_iff.mp e).1
    have eσ : σ[i]? = some σ[i] := List.getElem?_eq_getElem hl
    have sl := I.slot i _ s eσ e
    simp only [e] at p
    cases s with
    | val d => obtain ⟨x, ex, r⟩ := sl; exact ⟨x, by rw [eσ, ex], p S H I (Gx.refl S H) x r⟩
    | own ds => obtain ⟨a, vs, ex, n, h, r⟩ := sl; exact ⟨.ref a, by rw [eσ, ex], p S H I (Gx.refl S H) (.ref a) (show σ[i]? = _ by rw [eσ, ex])⟩
    | prm ds => obtain ⟨a, vs, ex, n, h, r⟩ := sl; exact ⟨.ref a, by rw [eσ, ex], p S H I (Gx.refl S H) (.ref a) (show σ[i]? = _ by rw [eσ, ex])⟩
    | ownD ds => obtain ⟨a, vs, ex, n, h, r⟩ := sl; exact ⟨.ref a, by rw [eσ, ex], p S H I (Gx.refl S H) (.ref a) (show σ[i]? = _ by rw [eσ, ex])⟩
    | un => exact p.elim
    | bor j => exact p.elim
def eC (d : D) : M Sl := M.ret (.val d)
theorem de_non : DE mg W (tC .non) (eC .none) := fun B S H σ δ Q I p => p S H I (Gx.refl S H) _ .non
theorem de_int {i : Int} : DE mg W (tC (.int i)) (eC (.int i)) := fun B S H σ δ Q I p => p S H I (Gx.refl S H) _ (.int i)
theorem de_bl {b : Bool} : DE mg W (tC (.bl b)) (eC (.bool b)) := fun B S H σ δ Q I p => p S H I (Gx.refl S H) _ (.bl b)
theorem de_str {x : Str} : DE mg W (tC (.str x)) (eC (.str x)) := fun B S H σ δ Q I p => p S H I (Gx.refl S H) _ (.str x)

/-! ### operations on values -/
/-- what a new result is -/
def RepN (H : Hp) (S' : Addr → Prop) (H' : Hp) (v : V) : Sl → Prop
  | .val d => Rep S' H' v d
  | .own ds => ∃ a vs, v = .ref a ∧ H a = none ∧ ¬ S' a ∧ H' a = some (.lst vs) ∧ Reps S' H' vs ds
  | .ownD kvs => ∃ a ws, v = .ref a ∧ H a = none ∧ ¬ S' a ∧ H' a = some (.dK ws) ∧ RepK S' H' ws kvs
  | _ => False
theorem J.frN {B : Ba} {S : Addr → Prop} {H : Hp} {σ : L2.St} {δ : Env} {a : Addr} (I : J B S H σ δ) (n : H a = none) : Fr B σ δ a := ⟨I.h0 n, fun z => I.iod a z n, fun i s h1 h2 => by
  have sl := I.slot i _ s h1 h2
  cases s with
  | own ds => obtain ⟨b, vs, e, _, h, _⟩ := sl; cases e; rw [n] at h; cases h
  | prm ds => obtain ⟨b, vs, e, _, h, _⟩ := sl; cases e; rw [n] at h; cases h
  | ownD ds => obtain ⟨b, vs, e, _, h, _⟩ := sl; cases e; rw [n] at h; cases h
  | _ => rfl⟩
theorem RepN.r {B : Ba} {S S' : Addr → Prop} {H H' : Hp} {σ : L2.St} {δ : Env} {v : V} (I : J B S H σ δ) : ∀ {s : Sl}, RepN H S' H' v s → RepR B S' H' σ δ v s
  | .val d, h => h
  | .own ds, ⟨a, vs, e, n, nS, h, r⟩ => ⟨a, vs, e, I.frN n, nS, h, r⟩
  | .ownD ds, ⟨a, vs, e, n, nS, h, r⟩ => ⟨a, vs, e, I.frN n, nS, h, r⟩
/-- what is wished of a result -/
def OPost (S : Addr → Prop) (H : Hp) (Q : VK) : Option Sl → Prop
  | some s => ∀ S' H' v, Gr S H S' H' → RepN H S' H' v s → Q v H'
  | none => False
theorem OPost.val {S : Addr → Prop} {H : Hp} {Q : VK} {d : D} {v : V} (dm : ∀ b, S b → H b ≠ none) (q : OPost S H Q (some (.val d))) (r : Rep S H v d) : Q v H := q S H v (Gr.refl dm) r
theorem OPost.own {S : Addr → Prop} {H : Hp} {Q : VK} {ds : List D} {vs : List V} {p : Addr} (dm : ∀ b, S b → H b ≠ none) (q : OPost S H Q (some (.own ds))) (r : Reps S H vs ds) (hp : H p = none) : Q (.ref p) (upd H p (.lst vs)) :=
  q S _ _ (Gr.new1 dm hp) ⟨p, vs, rfl, hp, fun z => dm p z hp, upd_same, r.gx (Gr.new1 dm hp).gx⟩
theorem OPost.tup {S : Addr → Prop} {H : Hp} {Q : VK} {ds : List D} {vs : List V} {p : Addr} (dm : ∀ b, S b → H b ≠ none) (q : OPost S H Q (some (.val (.tuple ds)))) (r : Reps S H vs ds) (hp : H p = none) : Q (.ref p) (upd H p (.tup vs)) :=
  q _ _ _ (Gr.newS dm hp) (.tup (.inr rfl) upd_same (r.gx (Gr.newS dm hp).gx))
/-- a two-place operation by values: what it does, told on data -/
def OD (r : R2) (op : D → D → Option Sl) : Prop := ∀ (S : Addr → Prop) (H : Hp) (x y : V) (a b : D) (Q : VK), (∀ b, S b → H b ≠ none) → Rep1 S H x a → Rep1 S H y b → OPost S H Q (op a b) → r x y H Q
def OU (r : V → Hp → VK → Prop) (op : D → Option Sl) : Prop := ∀ (S : Addr → Prop) (H : Hp) (x : V) (a : D) (Q : VK), (∀ b, S b → H b ≠ none) → Rep1 S H x a → OPost S H Q (op a) → r x H Q
def eOp (op : D → D → Option Sl) (f g : M Sl) : M Sl := M.bind (opnd f) fun r1 => M.bind (opnd g) fun r2 => M.bind (rdM r1) fun a => M.bind (rdM r2) fun b => liftO (op a b)
def eUn (op : D → Option Sl) (f : M Sl) : M Sl := M.bind (opnd f) fun r1 => M.bind (rdM r1) fun a => liftO (op a)
theorem Pst.lift {B : Ba} {S : Addr → Prop} {H : Hp} {σ : L2.St} {δ : Env} {o : Option Sl} {Q : VK} (I : J B S H σ δ) (p : Pst mg W B S H σ (liftO o δ) (fun r δ' S' H' => ∀ v, RepR B S' H' σ δ' v r → Q v H')) : OPost S H Q o := by
  cases o with
  | none => exact p
  | some s => exact fun S' H' v g r => p S' H' (I.gr g) g.gx v (r.r I)
theorem de_op {r : R2} {op : D → D → Option Sl} (ho : OD r op) (ha : DE mg W ta f) (hb : DE mg W tb g) : DE mg W (tOp r ta tb) (eOp op f g) := by
  intro B S H σ δ Q I p
  refine ha.o B S H σ δ _ I (Pst.mono (Pst.split p) fun r1 δ1 S1 H1 I1 G1 p1 x rx => ?_)
  refine hb.o B S1 H1 σ δ1 _ I1 (Pst.mono (Pst.split p1) fun r2 δ2 S2 H2 I2 G2 p2 y ry => ?_)
  obtain ⟨a, ra, p3⟩ := Pst.rdM I2 (rx.gx G2) p2
  obtain ⟨b, rb, p4⟩ := Pst.rdM I2 ry p3
  exact ho S2 H2 x y a b Q I2.dom ra rb (Pst.lift I2 p4)
theorem de_un {r : V → Hp → VK → Prop} {op : D → Option Sl} (ho : OU r op) (ha : DE mg W ta f) : DE mg W (tUn r ta) (eUn op f) := by
  intro B S H σ δ Q I p
  refine ha.o B S H σ δ _ I (Pst.mono (Pst.split p) fun r1 δ1 S1 H1 I1 G1 p1 x rx => ?_)
  obtain ⟨a, ra, p3⟩ := Pst.rdM I1 rx p1
  exact ho S1 H1 x a Q I1.dom ra (Pst.lift I1 p3)
def or2 (op op' : D → D → Option Sl) : D → D → Option Sl := fun a b => (op a b).or (op' a b)
theorem OD.or1 {r r' : R2} {op op' : D → D → Option Sl} (h : OD r op) (h' : OD r' op') : OD (fun x y H Q => r x y H Q ∨ r' x y H Q) (or2 op op') := by
  intro S H x y a b Q d ra rb q
  unfold or2 at q
  cases e : op a b with
  | some s => rw [e] at q; exact .inl (h S H x y a b Q d ra rb (by rw [e]; exact q))
  | none => rw [e] at q; exact .inr (h' S H x y a b Q d ra rb q)

/-! what an operand's data tell of its value -/
section
variable {S : Addr → Prop} {H : Hp} {x : V}
theorem Rep1.int {i : Int} (h : Rep1 S H x (.int i)) : x = .int i := by
  rcases h with h | ⟨a, vs, ds, _, e, _⟩ | ⟨a, vs, ds, _, e, _⟩
  · cases h with
    | int => rfl
    | dic _ _ _ e => cases e
  · cases e
  · cases e
theorem Rep1.bl {i : Bool} (h : Rep1 S H x (.bool i)) : x = .bl i := by
  rcases h with h | ⟨a, vs, ds, _, e, _⟩ | ⟨a, vs, ds, _, e, _⟩
  · cases h with
    | bl => rfl
    | dic _ _ _ e => cases e
  · cases e
  · cases e
theorem Rep1.str {i : Str} (h : Rep1 S H x (.str i)) : x = .str i := by
  rcases h with h | ⟨a, vs, ds, _, e, _⟩ | ⟨a, vs, ds, _, e, _⟩
  · cases h with
    | str => rfl
    | dic _ _ _ e => cases e
  · cases e
  · cases e
theorem Rep1.non (h : Rep1 S H x .none) : x = .non := by
  rcases h with h | ⟨a, vs, ds, _, e, _⟩ | ⟨a, vs, ds, _, e, _⟩
  · cases h with
    | non => rfl
    | dic _ _ _ e => cases e
  · cases e
  · cases e
theorem Rep1.list {ds : List D} (h : Rep1 S H x (.list ds)) : ∃ a vs, x = .ref a ∧ H a = some (.lst vs) ∧ Reps S H vs ds := by
  rcases h with h | ⟨a, vs, ds', e1, e, h1, h2⟩ | ⟨a, vs, ds, _, e, _⟩
  · cases h with
    | lst _ h1 h2 => exact ⟨_, _, rfl, h1, h2⟩
    | dic _ _ _ e => cases e
  · cases e; exact ⟨a, vs, e1, h1, h2⟩
  · cases e
theorem Rep1.tup {ds : List D} (h : Rep1 S H x (.tuple ds)) : ∃ a vs, x = .ref a ∧ S a ∧ H a = some (.tup vs) ∧ Reps S H vs ds := by
  rcases h with h | ⟨a, vs, ds', e1, e, h1, h2⟩ | ⟨a, vs, ds, _, e, _⟩
  · cases h with
    | tup h0 h1 h2 => exact ⟨_, _, rfl, h0, h1, h2⟩
    | dic _ _ _ e => cases e
  · cases e
  · cases e
end
/-! ### numbers -/
def iOp (g : Int → Int → D) (c : Int → Int → Bool) : D → D → Option Sl
  | .int i, .int j => bif c i j then some (.val (g i j)) else none
  | _, _ => none
theorem OD.i {C : Int → Int → Prop} {g : Int → Int → V} {g' : Int → Int → D} {c : Int → Int → Bool} (hc : ∀ i j, c i j = true → C i j) (hg : ∀ S H i j, Rep S H (g i j) (g' i j)) : OD (rI C g) (iOp g' c) := by
  intro S H x y a b Q d ra rb q
  cases a with
  | int i =>
    cases b with
    | int j =>
      have ex := ra.int
      have ey := rb.int
      subst ex; subst ey
      have q' : OPost S H Q (bif c i j then some (.val (g' i j)) else none) := q
      cases h : c i j with
      | true => rw [h] at q'; exact ⟨i, j, rfl, rfl, hc i j h, q'.val d (hg S H i j)⟩
      | false => rw [h] at q'; exact q'.elim
    | _ => exact q.elim
  | _ => cases b <;> exact q.elim
theorem OD.i0 {g : Int → Int → V} {g' : Int → Int → D} (hg : ∀ S H i j, Rep S H (g i j) (g' i j)) : OD (rI0 g) (iOp g' fun _ _ => true) := by
  intro S H x y a b Q d ra rb q
  obtain ⟨i, j, h1, h2, _, h3⟩ := OD.i (C := fun _ _ => True) (fun _ _ _ => trivial) hg S H x y a b Q d ra rb q
  exact ⟨i, j, h1, h2, h3⟩
end
end DW

set_option Elab.async false
set_option linter.all false
set_option maxRecDepth 100000
set_option maxHeartbeats 2000000
/-! DW: expressions: the rule of the text and what it gives, in one. -/
namespace DW
open PySem PySem.Spec PyProof.Rows L2

structure PD (X : Cx) (W : WX) (e : Expr) (te : TE) (f : M Sl) : Prop where
  pe : PE X e te
  de : DE X.mg W te f
structure PDT (X : Cx) (W : WX) (e : Expr) (t : TT) (f : M Bool) : Prop where
  pt : PT X e t
  dt : DT X.mg W t f
structure PDW (X : Cx) (W : WX) (e : Expr) (t : TT) (f : M Bool) : Prop where
  pw : PW X e t
  dt : DT X.mg W t f
structure PDA (X : Cx) (W : WX) (es : List Expr) (t : TA) (f : M (List Sl)) : Prop where
  pa : PA X es t
  da : DA X.mg W t f
theorem PDW.t {X : Cx} {W : WX} {e : Expr} {t : TT} {f : M Bool} (h : PDW X W e t f) : PDT X W e t f := ⟨h.pw.pt, h.dt⟩
section
variable {mg : Str → Option Value} {W : WX} {te ta tb tc : TE} {f g h : M Sl} {tt tu : TT} {p q : M Bool}

/-! ### tests -/
def tB' (f : M Sl) : M Bool := M.bind (opnd f) fun r => M.bind (rdM r) fun d => match d with
  | .bool b => M.ret b
  | _ => fun _ => .bad
theorem dt_b (ha : DE mg W te f) : DT mg W (tTest te) (tB' f) := by
  intro B S H σ δ Q I p
  refine ha.o B S H σ δ _ I (Pst.mono (Pst.split p) fun r1 δ1 S1 H1 I1 G1 p1 x rx => ?_)
  obtain ⟨d, ra, p2⟩ := Pst.rdM I1 rx p1
  cases d with
  | bool b => have e := ra.bl; subst e; exact ⟨b, rfl, p2 S1 H1 I1 (Gx.refl S1 H1)⟩
  | _ => exact p2.elim
theorem dt_b' (ha : DE mg W te f) : DT mg W (tB te) (tB' f) := dt_b ha
def dTru : D → Option Bool
  | .none => some false
  | .bool b => some b
  | .int i => some (i != 0)
  | .str x => bif decide (x.length ≤ 16777216) then some ((x.length : Int) != 0) else none
  | .list xs => some (!xs.isEmpty)
  | .tuple xs => some (!xs.isEmpty)
  | .dict _ => none
def optB (o : Option Bool) : M Bool := fun δ => match o with
  | some b => .ok b δ
  | none => .bad
def truM (f : M Sl) : M Bool := M.bind (opnd f) fun r => M.bind (rdM r) fun d => optB (dTru d)
theorem isEmpty_reps {S : Addr → Prop} {H : Hp} {vs : List V} {ds : List D} (r : Reps S H vs ds) : (!vs.isEmpty) = !ds.isEmpty := by
  cases r <;> rfl
theorem isEmpty_repk {S : Addr → Prop} {H : Hp} {vs : List (Key × V)} {ds : List (Key × D)} (r : RepK S H vs ds) : (!vs.isEmpty) = !ds.isEmpty := by
  cases r <;> rfl
theorem Rep1.dic {S : Addr → Prop} {H : Hp} {x : V} {kvs : List (D × D)} (h : Rep1 S H x (.dict kvs)) : ∃ a ws ks, x = .ref a ∧ Rd H a (.dK ws) ∧ RepK S H ws ks ∧ kvs = ks.map fun p => (keyD p.1, p.2) := by
  rcases h with h | ⟨a, vs, ds', e1, e, h1, h2⟩ | ⟨a, ws, ks, e1, e, h1, h2⟩
  · cases h with
    | dic h0 h1 h2 e => injection e with e; exact ⟨_, _, _, rfl, h1, h2, e⟩
  · cases e
  · injection e with e; exact ⟨a, ws, ks, e1, h1, h2, e⟩
theorem Rep1.truV {K : PySem.W.Frag} {S : Addr → Prop} {H : Hp} {x : V} {d : D} {b : Bool} (r : Rep1 S H x d) (h : dTru d = some b) : TruV K x H b := by
  cases d with
  | none => have e := r.non; subst e; cases h; exact rfl
  | bool c => have e := r.bl; subst e; cases h; exact rfl
  | int i => have e := r.int; subst e; cases h; exact rfl
  | str y =>
    have e := r.str; subst e
    have h' : (bif decide (y.length ≤ 16777216) then some ((y.length : Int) != 0) else none) = some b := h
    cases hz : decide (y.length ≤ 16777216) with
    | true => rw [hz] at h'; cases h'; exact ⟨by rw [sizeLine_eq]; exact of_decide_eq_true hz, rfl⟩
    | false => rw [hz] at h'; cases h'
  | list xs => obtain ⟨a, vs, rfl, hh, rr⟩ := r.list; cases h; exact .inl ⟨vs, SqL.of hh, (isEmpty_reps rr).symm⟩
  | tuple xs => obtain ⟨a, vs, rfl, _, hh, rr⟩ := r.tup; cases h; exact .inr (.inl ⟨vs, SqT.of hh, (isEmpty_reps rr).symm⟩)
  | dict kvs => cases h
theorem dt_tru {K : PySem.W.Frag} (ha : DE mg W te f) : DT mg W (fun σ H Q => te σ H fun x H' => ∃ k, TruV K x H' k ∧ Q k H') (truM f) := by
  intro B S H σ δ Q I p
  refine ha.o B S H σ δ _ I (Pst.mono (Pst.split p) fun r1 δ1 S1 H1 I1 G1 p1 x rx => ?_)
  obtain ⟨d, ra, p2⟩ := Pst.rdM I1 rx p1
  cases e : dTru d with
  | none => rw [e] at p2; exact p2.elim
  | some b => rw [e] at p2; exact ⟨b, ra.truV e, p2 S1 H1 I1 (Gx.refl S1 H1)⟩
def andM (p q : M Bool) : M Bool := M.bind p fun b => bif b then q else M.ret false
def orM (p q : M Bool) : M Bool := M.bind p fun b => bif b then M.ret true else q
def notM (p : M Bool) : M Bool := M.bind p fun b => M.ret (!b)
theorem dt_and (hp : DT mg W tt p) (hq : DT mg W tu q) : DT mg W (tAnd tt tu) (andM p q) := by
  intro B S H σ δ Q I p
  refine hp B S H σ δ _ I (Pst.mono (Pst.split p) fun b δ1 S1 H1 I1 G1 p1 => ?_)
  cases b with
  | true => exact hq B S1 H1 σ δ1 Q I1 p1
  | false => exact p1 S1 H1 I1 (Gx.refl S1 H1)
theorem dt_or (hp : DT mg W tt p) (hq : DT mg W tu q) : DT mg W (tOr tt tu) (orM p q) := by
  intro B S H σ δ Q I p
  refine hp B S H σ δ _ I (Pst.mono (Pst.split p) fun b δ1 S1 H1 I1 G1 p1 => ?_)
  cases b with
  | false => exact hq B S1 H1 σ δ1 Q I1 p1
  | true => exact p1 S1 H1 I1 (Gx.refl S1 H1)
theorem dt_not (hp : DT mg W tt p) : DT mg W (tNot tt) (notM p) := by
  intro B S H σ δ Q I p
  exact hp B S H σ δ _ I (Pst.mono (Pst.split p) fun b δ1 S1 H1 I1 G1 p1 => p1 S1 H1 I1 (Gx.refl S1 H1))
/-- a test as a value -/
def bE (p : M Bool) : M Sl := M.bind p fun b => M.ret (.val (.bool b))

/-! ### values by truth: and, or, not, if -/
def eAnd (f g : M Sl) : M Sl := M.bind (opnd f) fun r => M.bind (rdM r) fun d => M.bind (optB (dTru d)) fun b => bif b then g else M.ret r
def eOr (f g : M Sl) : M Sl := M.bind (opnd f) fun r => M.bind (rdM r) fun d => M.bind (optB (dTru d)) fun b => bif b then M.ret r else g
def eNot (f : M Sl) : M Sl := bE (notM (truM f))
theorem RepO.r {B : Ba} {S : Addr → Prop} {H : Hp} {σ : L2.St} {δ : Env} {v : V} : ∀ {s : Sl}, RepO S H σ v s → RepR B S H σ δ v s
  | .val d, h => h
  | .bor i, h => h
theorem Pst.optB {B : Ba} {S : Addr → Prop} {H : Hp} {σ : L2.St} {δ : Env} {o : Option Bool} {β : Type} {k : Bool → M β} {kk : β → Env → (Addr → Prop) → Hp → Prop} (p : Pst mg W B S H σ (M.bind (optB o) k δ) kk) :
    ∃ b, o = some b ∧ Pst mg W B S H σ (k b δ) kk := by
  cases o with
  | none => exact p.elim
  | some b => exact ⟨b, rfl, p⟩
theorem de_and {K : PySem.W.Frag} (ha : DE mg W ta f) (hb : DE mg W tb g) : DE mg W (tAndT K ta tb) (eAnd f g) := by
  intro B S H σ δ Q I p
  refine ha.o B S H σ δ _ I (Pst.mono (Pst.split p) fun r1 δ1 S1 H1 I1 G1 p1 x rx => ?_)
  obtain ⟨d, ra, p2⟩ := Pst.rdM I1 rx p1
  obtain ⟨b, e, p3⟩ := Pst.optB p2
  refine ⟨b, ra.truV e, ?_⟩
  cases b with
  | true => exact hb B S1 H1 σ δ1 Q I1 p3
  | false => exact p3 S1 H1 I1 (Gx.refl S1 H1) x rx.r
theorem de_or {K : PySem.W.Frag} (ha : DE mg W ta f) (hb : DE mg W tb g) : DE mg W (tOrT K ta tb) (eOr f g) := by
  intro B S H σ δ Q I p
  refine ha.o B S H σ δ _ I (Pst.mono (Pst.split p) fun r1 δ1 S1 H1 I1 G1 p1 x rx => ?_)
  obtain ⟨d, ra, p2⟩ := Pst.rdM I1 rx p1
  obtain ⟨b, e, p3⟩ := Pst.optB p2
  refine ⟨b, ra.truV e, ?_⟩
  cases b with
  | false => exact hb B S1 H1 σ δ1 Q I1 p3
  | true => exact p3 S1 H1 I1 (Gx.refl S1 H1) x rx.r
theorem de_not {K : PySem.W.Frag} (ha : DE mg W ta f) : DE mg W (tNotT K ta) (eNot f) := by
  intro B S H σ δ Q I p
  refine dt_tru ha B S H σ δ (fun b H' => Q (.bl (!b)) H') I (Pst.mono (Pst.split (Pst.split p)) fun b δ1 S1 H1 I1 G1 p1 => ?_)
  exact p1 S1 H1 I1 (Gx.refl S1 H1) S1 H1 I1 (Gx.refl S1 H1) _ (.bl _)
def eIf (p : M Bool) (f g : M Sl) : M Sl := M.bind p fun b => bif b then f else g
theorem de_if (hp : DT mg W tt p) (ha : DE mg W ta f) (hb : DE mg W tb g) : DE mg W (tIf tt ta tb) (eIf p f g) := by
  intro B S H σ δ Q I p
  refine hp B S H σ δ _ I (Pst.mono (Pst.split p) fun b δ1 S1 H1 I1 G1 p1 => ?_)
  cases b with
  | true => exact ha B S1 H1 σ δ1 Q I1 p1
  | false => exact hb B S1 H1 σ δ1 Q I1 p1

/-! ### arguments, displays -/
variable {t : TA} {fs : M (List Sl)}
def aNil : M (List Sl) := M.ret []
def aCons (f : M Sl) (fs : M (List Sl)) : M (List Sl) := M.bind (opnd f) fun r => M.bind fs fun rs => M.ret (r :: rs)
theorem da_nil : DA mg W tNil aNil := fun B S H σ δ Q I p => p S H I (Gx.refl S H) _ .nil
theorem da_cons (ha : DE mg W ta f) (hb : DA mg W t fs) : DA mg W (tCons ta t) (aCons f fs) := by
  intro B S H σ δ Q I p
  refine ha.o B S H σ δ _ I (Pst.mono (Pst.split p) fun r1 δ1 S1 H1 I1 G1 p1 x rx => ?_)
  refine hb B S1 H1 σ δ1 _ I1 (Pst.mono (Pst.split p1) fun rs δ2 S2 H2 I2 G2 p2 xs rxs => ?_)
  exact p2 S2 H2 I2 (Gx.refl S2 H2) _ (.cons (rx.gx G2) rxs)
/-- shared data of all of them -/
def valsD : List Sl → Option (List D)
  | [] => some []
  | .val d :: r => (valsD r).map (d :: ·)
  | _ :: _ => none
theorem valsD_rep {S : Addr → Prop} {H : Hp} {σ : L2.St} : ∀ {vs : List V} {ss : List Sl} {ds : List D}, RepOs S H σ vs ss → valsD ss = some ds → Reps S H vs ds
  | _, _, _, .nil, e => by cases e; exact .nil
  | _, _, ds, .cons (s := s) (ss := ss) h t, e => by
    cases s with
    | val d =>
      have e' : (valsD ss).map (d :: ·) = some ds := e
      cases q : valsD ss with
      | none => rw [q] at e'; cases e'
      | some r => rw [q] at e'; cases e'; exact .cons h (valsD_rep t q)
    | _ => cases e
def optM {α : Type} (o : Option α) : M α := fun δ => match o with
  | some a => .ok a δ
  | none => .bad
theorem Pst.optM {B : Ba} {S : Addr → Prop} {H : Hp} {σ : L2.St} {δ : Env} {α β : Type} {o : Option α} {k : α → M β} {kk : β → Env → (Addr → Prop) → Hp → Prop} (p : Pst mg W B S H σ (M.bind (optM o) k δ) kk) :
    ∃ b, o = some b ∧ Pst mg W B S H σ (k b δ) kk := by
  cases o with
  | none => exact p.elim
  | some b => exact ⟨b, rfl, p⟩
def fitsD (ds : List D) : Option (List D) := bif decide (ds.length ≤ 16777216) then some ds else none
theorem fitsD_le {ds es : List D} (h : fitsD ds = some es) : ds = es ∧ ds.length ≤ sizeLine := by
  unfold fitsD at h
  cases e : decide (ds.length ≤ 16777216) with
  | true => rw [e] at h; cases h; exact ⟨rfl, by rw [sizeLine_eq]; exact of_decide_eq_true e⟩
  | false => rw [e] at h; cases h
def eTup (fs : M (List Sl)) : M Sl := M.bind fs fun rs => M.bind (optM ((valsD rs).bind fitsD)) fun ds => M.ret (.val (.tuple ds))
def eLst (fs : M (List Sl)) : M Sl := M.bind fs fun rs => M.bind (optM ((valsD rs).bind fitsD)) fun ds => M.ret (.own ds)
theorem de_tup (h : DA mg W t fs) : DE mg W (tTup t) (eTup fs) := by
  intro B S H σ δ Q I p
  refine h B S H σ δ _ I (Pst.mono (Pst.split p) fun rs δ1 S1 H1 I1 G1 p1 vs rv => ?_)
  obtain ⟨ds, e, p2⟩ := Pst.optM p1
  obtain ⟨es, e1, e2⟩ := Option.bind_eq_some_iff.mp e
  obtain ⟨rfl, hz⟩ := fitsD_le e2
  have rr := valsD_rep rv e1
  refine ⟨by rw [rr.len]; exact hz, fun l hl => ?_⟩
  have g := Gr.newS (p := l) (o := .tup vs) I1.dom hl
  exact p2 _ _ (I1.gr g) g.gx _ (.tup (.inr rfl) upd_same (rr.gx g.gx))
theorem de_lst (h : DA mg W t fs) : DE mg W (tLst t) (eLst fs) := by
  intro B S H σ δ Q I p
  refine h B S H σ δ _ I (Pst.mono (Pst.split p) fun rs δ1 S1 H1 I1 G1 p1 vs rv => ?_)
  obtain ⟨ds, e, p2⟩ := Pst.optM p1
  obtain ⟨es, e1, e2⟩ := Option.bind_eq_some_iff.mp e
  obtain ⟨rfl, hz⟩ := fitsD_le e2
  have rr := valsD_rep rv e1
  refine ⟨by rw [rr.len]; exact hz, fun l hl => ?_⟩
  have g := Gr.new1 (p := l) (o := .lst vs) I1.dom hl
  exact p2 _ _ (I1.gr g) g.gx _ ⟨l, vs, rfl, I1.frN hl, fun z => I1.dom l z hl, upd_same, rr.gx g.gx⟩
end
end DW

set_option Elab.async false
set_option linter.all false
set_option maxRecDepth 100000
set_option maxHeartbeats 2000000
/-! DW: operators, comparisons, places, slices. -/
namespace DW
open PySem PySem.Spec PyProof.Rows L2

/-! ### + - * // % ** -/
def dSub : D → D → Option Sl := iOp (fun i j => .int (i - j)) fun _ _ => true
def mulC (i j : Int) : Bool := decide (i.natAbs.log2 + j.natAbs.log2 < 1000000)
def divC (_ j : Int) : Bool := decide (0 < j) && decide (j.natAbs.log2 < 9000)
def modC (_ j : Int) : Bool := decide (0 < j)
def powC (i j : Int) : Bool := decide (0 ≤ j) && decide ((Builtin.Int.intBits i : Int) * j ≤ 134217728)
def dDiv : D → D → Option Sl := iOp (fun i j => .int (i / j)) divC
def dMod : D → D → Option Sl := iOp (fun i j => .int (i % j)) modC
def dPow : D → D → Option Sl := iOp (fun i j => .int (i ^ j.toNat)) powC
theorem op_powB {X : Cx} : OpR X (binaryOp .Pow) (rI (fun i j => 0 ≤ j ∧ (Builtin.Int.intBits i : Int) * j ≤ 2 ^ 27) fun i j => .int (i ^ j.toNat)) := opI fun _ _ _ _ _ _ _ hc q => PyProof.Rows.pow_int hc.1 hc.2 q
def dAdd : D → D → Option Sl
  | .int i, .int j => some (.val (.int (i + j)))
  | .str a, .str b => bif decide (a.length + b.length ≤ 16777216) then some (.val (.str (a ++ b))) else none
  | .list a, .list b => bif decide (a.length + b.length ≤ 16777216) then some (.own (a ++ b)) else none
  | .tuple a, .tuple b => bif !a.isEmpty && decide (a.length + b.length ≤ 16777216) then some (.val (.tuple (a ++ b))) else none
  | _, _ => none
def dMul : D → D → Option Sl
  | .int i, .int j => bif mulC i j then some (.val (.int (i * j))) else none
  | .list a, .int k => bif decide (-(2 ^ 62) ≤ k) && decide (k < 2 ^ 62) && decide (a.length * k.toNat ≤ 16777216) then some (.own (List.replicate k.toNat a).flatten) else none
  | _, _ => none
def rAddD (K : PySem.W.Frag) : R2 := fun x y H Q => (rI0 fun i j => .int (i + j)) x y H Q ∨ (∃ i j, x = .str i ∧ y = .str j ∧ i.length + j.length ≤ sizeLine ∧ Q (.str (i ++ j)) H) ∨ rCat x y H Q ∨ rCatT K x y H Q
def rMulD : R2 := fun x y H Q => (rI CMulW fun i j => .int (i * j)) x y H Q ∨ rRep x y H Q
theorem bif_some {α : Type} {c : Bool} {a b : α} (h : (bif c then some a else none) = some b) : c = true ∧ a = b := by
  cases c with
  | true => cases h; exact ⟨rfl, rfl⟩
  | false => cases h
theorem OPost.bif {S : Addr → Prop} {H : Hp} {Q : VK} {c : Bool} {s : Sl} (q : OPost S H Q (bif c then some s else none)) : c = true ∧ OPost S H Q (some s) := by
  cases c with
  | true => exact ⟨rfl, q⟩
  | false => exact q.elim
theorem size_of {n : Nat} (h : decide (n ≤ 16777216) = true) : n ≤ sizeLine := by rw [sizeLine_eq]; exact of_decide_eq_true h
theorem od_sub : OD (rI0 fun i j => .int (i - j)) dSub := OD.i0 fun _ _ _ _ => .int _
theorem od_div : OD (rI CDivW fun i j => .int (i / j)) dDiv := OD.i (fun i j h => by
  have h := (Bool.and_eq_true _ _ ▸ h : _ ∧ _)
  exact ⟨of_decide_eq_true h.1, of_decide_eq_true h.2⟩) fun _ _ _ _ => .int _
theorem od_mod : OD (rI (fun _ j => 0 < j) fun i j => .int (i % j)) dMod := OD.i (fun i j h => of_decide_eq_true h) fun _ _ _ _ => .int _
theorem od_pow : OD (rI (fun i j => 0 ≤ j ∧ (Builtin.Int.intBits i : Int) * j ≤ 2 ^ 27) fun i j => .int (i ^ j.toNat)) dPow := OD.i (fun i j h => by
  have h := (Bool.and_eq_true _ _ ▸ h : _ ∧ _)
  exact ⟨of_decide_eq_true h.1, of_decide_eq_true h.2⟩) fun _ _ _ _ => .int _
theorem od_add {K : PySem.W.Frag} : OD (rAddD K) dAdd := by
  intro S H x y a b Q d ra rb q
  cases a with
  | int i =>
    cases b with
    | int j => have e := ra.int; have e' := rb.int; subst e; subst e'; exact .inl ⟨i, j, rfl, rfl, q.val d (.int _)⟩
    | _ => exact q.elim
  | str i =>
    cases b with
    | str j => have e := ra.str; have e' := rb.str; subst e; subst e'; exact .inr (.inl ⟨i, j, rfl, rfl, size_of q.bif.1, q.bif.2.val d (.str _)⟩)
    | _ => exact q.elim
  | list i =>
    cases b with
    | list j =>
      obtain ⟨l, vs, rfl, h1, r1⟩ := ra.list
      obtain ⟨m, ws, rfl, h2, r2⟩ := rb.list
      refine .inr (.inr (.inl ⟨l, m, vs, ws, rfl, rfl, h1, h2, by rw [r1.len, r2.len]; exact size_of q.bif.1, fun p hp => q.bif.2.own d (r1.append r2) hp⟩))
    | _ => exact q.elim
  | tuple i =>
    cases b with
    | tuple j =>
      obtain ⟨l, vs, rfl, s1, h1, r1⟩ := ra.tup
      obtain ⟨m, ws, rfl, s2, h2, r2⟩ := rb.tup
      have hc := (Bool.and_eq_true _ _ ▸ q.bif.1 : _ ∧ _)
      refine .inr (.inr (.inr ⟨l, m, vs, ws, rfl, rfl, SqT.of h1, SqT.of h2, ?_, by rw [r1.len, r2.len]; exact size_of hc.2, fun hw => ?_, fun hw p hp => q.bif.2.tup d (r1.append r2) hp⟩))
      · rintro rfl; cases r1; exact absurd hc.1 (by decide)
      · subst hw; cases r2
        have q2 : OPost S H Q (some (.val (.tuple (i ++ [])))) := q.bif.2
        rw [List.append_nil] at q2
        exact q2.val d (.tup s1 h1 r1)
    | _ => exact q.elim
  | _ => cases b <;> exact q.elim
theorem reps_rep {S : Addr → Prop} {H : Hp} {vs : List V} {ds : List D} (r : Reps S H vs ds) : ∀ k : Nat, Reps S H (List.replicate k vs).flatten (List.replicate k ds).flatten
  | 0 => .nil
  | k + 1 => by
    rw [List.replicate_succ, List.replicate_succ, List.flatten_cons, List.flatten_cons]
    exact r.append (reps_rep r k)
theorem od_mul : OD rMulD dMul := by
  intro S H x y a b Q d ra rb q
  cases a with
  | int i =>
    cases b with
    | int j => have e := ra.int; have e' := rb.int; subst e; subst e'; exact .inl ⟨i, j, rfl, rfl, (show CMulW i j from of_decide_eq_true (p := i.natAbs.log2 + j.natAbs.log2 < 1000000) q.bif.1), q.bif.2.val d (.int _)⟩
    | _ => exact q.elim
  | list i =>
    cases b with
    | int j =>
      obtain ⟨l, vs, rfl, h1, r1⟩ := ra.list
      have e' := rb.int; subst e'
      have hc := (Bool.and_eq_true _ _ ▸ q.bif.1 : _ ∧ _)
      have hc1 := (Bool.and_eq_true _ _ ▸ hc.1 : _ ∧ _)
      have z1 := of_decide_eq_true hc1.1
      have z2 := of_decide_eq_true hc1.2
      refine .inr ⟨l, j, vs, rfl, rfl, h1, by omega, by omega, by rw [r1.len]; exact size_of hc.2, fun p hp => q.bif.2.own d (reps_rep r1 _) hp⟩
    | _ => exact q.elim
  | _ => cases b <;> exact q.elim
def dNeg : D → Option Sl
  | .int i => some (.val (.int (-i)))
  | _ => none
theorem ou_neg : OU (rU fun i => .int (-i)) dNeg := by
  intro S H x a Q d ra q
  cases a with
  | int i => have e := ra.int; subst e; exact ⟨i, rfl, q.val d (.int _)⟩
  | _ => exact q.elim

/-! ### comparisons -/
def cmpI (f : Int → Int → Bool) : D → D → Option Sl := iOp (fun i j => .bool (f i j)) fun _ _ => true
def dLt : D → D → Option Sl := cmpI fun i j => decide (i < j)
def dLe : D → D → Option Sl := cmpI fun i j => decide (i ≤ j)
def dGt : D → D → Option Sl := cmpI fun i j => decide (j < i)
def dGe : D → D → Option Sl := cmpI fun i j => decide (j ≤ i)
theorem od_lt : OD (rI0 fun i j => .bl (decide (i < j))) dLt := OD.i0 fun _ _ _ _ => .bl _
theorem od_le : OD (rI0 fun i j => .bl (decide (i ≤ j))) dLe := OD.i0 fun _ _ _ _ => .bl _
theorem od_gt : OD (rI0 fun i j => .bl (decide (j < i))) dGt := OD.i0 fun _ _ _ _ => .bl _
theorem od_ge : OD (rI0 fun i j => .bl (decide (j ≤ i))) dGe := OD.i0 fun _ _ _ _ => .bl _
def dEq (a b : D) : Option Sl := bif SeqAt.shaped a && SeqAt.shaped b then some (.val (.bool (PyData.eqv a b))) else none
def dNe (a b : D) : Option Sl := bif SeqAt.shaped a && SeqAt.shaped b then some (.val (.bool (!PyData.eqv a b))) else none
section
variable {K : PySem.W.Frag} {S : Addr → Prop} {H : Hp}
mutual
theorem Rep.dp : ∀ {v : V} {d : D}, Rep S H v d → d.canLay0 = true → Dp K H v d
  | _, _, .non, _ => .non
  | _, _, .bl b, _ => .bl b
  | _, _, .int i, _ => .int i
  | _, _, .str x, _ => .str x
  | _, _, .lst _ h r, c => .lst (SqL.of h) (Reps.dp r (by simpa only [PyData.canLay0] using c))
  | _, _, .tup _ h r, c => .tup (SqT.of h) (Reps.dp r (by simpa only [PyData.canLay0] using c))
  | _, _, .dic _ h r e, c => by
    subst e
    unfold dictD at c
    simp only [PyData.canLay0] at c
    cases c
theorem Reps.dp : ∀ {vs : List V} {ds : List D}, Reps S H vs ds → PyData.canLayAll0 ds = true → DpAll K H vs ds
  | _, _, .nil, _ => .nil
  | _, _, .cons h t, c => by
    simp only [PyData.canLayAll0, Bool.and_eq_true] at c
    exact .cons (Rep.dp h c.1) (Reps.dp t c.2)
end
theorem Rep1.dp {v : V} {d : D} (h : Rep1 S H v d) (c : SeqAt.shaped d = true) : Dp K H v d := by
  have c0 : d.canLay0 = true := (Bool.and_eq_true _ _ ▸ c : _ ∧ _).1
  rcases h with h | ⟨a, vs, ds', e1, e, h1, h2⟩ | ⟨a, ws, ks, e1, e, h1, h2⟩
  · exact h.dp c0
  · subst e; subst e1; exact .lst (SqL.of h1) (h2.dp (by simpa only [PyData.canLay0] using c0))
  · subst e
    unfold dictD at c0
    simp only [PyData.canLay0] at c0
    cases c0
end
theorem od_eq {K : PySem.W.Frag} : OD (rEqD K) dEq := by
  intro S H x y a b Q d ra rb q
  have hc := (Bool.and_eq_true _ _ ▸ q.bif.1 : _ ∧ _)
  exact ⟨a, b, ra.dp hc.1, rb.dp hc.2, hc.1, hc.2, q.bif.2.val d (.bl _)⟩
theorem od_ne {K : PySem.W.Frag} : OD (rNeD K) dNe := by
  intro S H x y a b Q d ra rb q
  have hc := (Bool.and_eq_true _ _ ▸ q.bif.1 : _ ∧ _)
  exact ⟨a, b, ra.dp hc.1, rb.dp hc.2, hc.1, hc.2, q.bif.2.val d (.bl _)⟩
/-- is None -/
def rIsNn : R2 := fun x y H Q => y = .non ∧ Q (.bl (decide (x = .non))) H
def rNotNn : R2 := fun x y H Q => y = .non ∧ Q (.bl (!decide (x = .non))) H
def isNone : D → Bool
  | .none => true
  | _ => false
def dIsN (a b : D) : Option Sl := bif isNone b then some (.val (.bool (isNone a))) else none
def dNotN (a b : D) : Option Sl := bif isNone b then some (.val (.bool (!isNone a))) else none
theorem Rep1.isN {S : Addr → Prop} {H : Hp} {x : V} {a : D} (r : Rep1 S H x a) : decide (x = .non) = isNone a := by
  cases a with
  | none => have e := r.non; subst e; rfl
  | bool b => have e := r.bl; subst e; rfl
  | int b => have e := r.int; subst e; rfl
  | str b => have e := r.str; subst e; rfl
  | list b => obtain ⟨_, _, rfl, _⟩ := r.list; rfl
  | tuple b => obtain ⟨_, _, rfl, _⟩ := r.tup; rfl
  | dict b => obtain ⟨_, _, _, rfl, _⟩ := r.dic; rfl
theorem isNone_eq {b : D} (h : isNone b = true) : b = .none := by
  cases b <;> first | rfl | cases h
theorem od_isN : OD rIsNn dIsN := by
  intro S H x y a b Q d ra rb q
  have e := isNone_eq q.bif.1
  subst e
  have e := rb.non
  subst e
  exact ⟨rfl, by rw [ra.isN]; exact q.bif.2.val d (.bl _)⟩
theorem od_notN : OD rNotNn dNotN := by
  intro S H x y a b Q d ra rb q
  have e := isNone_eq q.bif.1
  subst e
  have e := rb.non
  subst e
  exact ⟨rfl, by rw [ra.isN]; exact q.bif.2.val d (.bl _)⟩
/-! in, not in: flat things -/
def vD : D → V
  | .none => .non
  | .bool b => .bl b
  | .int i => .int i
  | .str x => .str x
  | _ => .ref 0
def flatD : D → Bool
  | .none => true
  | .bool _ => true
  | .int _ => true
  | .str _ => true
  | _ => false
theorem Rep1.flat {S : Addr → Prop} {H : Hp} {x : V} {a : D} (r : Rep1 S H x a) (f : flatD a = true) : x = vD a ∧ flatV x = true := by
  cases a with
  | none => have e := r.non; subst e; exact ⟨rfl, rfl⟩
  | bool b => have e := r.bl; subst e; exact ⟨rfl, rfl⟩
  | int b => have e := r.int; subst e; exact ⟨rfl, rfl⟩
  | str b => have e := r.str; subst e; exact ⟨rfl, rfl⟩
  | _ => cases f
theorem Reps.flat {S : Addr → Prop} {H : Hp} : ∀ {vs : List V} {ds : List D}, Reps S H vs ds → ds.all flatD = true → vs = ds.map vD ∧ vs.all flatV = true
  | _, _, .nil, _ => ⟨rfl, rfl⟩
  | _, _, .cons h t, f => by
    rw [List.all_cons, Bool.and_eq_true] at f
    obtain ⟨e, q⟩ := Rep1.flat (.inl h) f.1
    obtain ⟨e', q'⟩ := Reps.flat t f.2
    exact ⟨by rw [List.map_cons, e, e'], by rw [List.all_cons, q, q']; rfl⟩
def dIn (neg : Bool) (a : D) : D → Option Sl
  | .list ds => bif flatD a && ds.all flatD then some (.val (.bool (bif neg then !inV (vD a) (ds.map vD) else inV (vD a) (ds.map vD)))) else none
  | .tuple ds => bif flatD a && ds.all flatD then some (.val (.bool (bif neg then !inV (vD a) (ds.map vD) else inV (vD a) (ds.map vD)))) else none
  | _ => none
theorem bif_ite {α : Type} {c : Bool} {a b : α} : (bif c then a else b) = if c then a else b := by cases c <;> rfl
theorem od_in {K : PySem.W.Frag} {neg : Bool} : OD (rIn K neg) (dIn neg) := by
  intro S H x y a b Q d ra rb q
  cases b with
  | list ds =>
    obtain ⟨l, vs, rfl, h1, r1⟩ := rb.list
    have hc := (Bool.and_eq_true _ _ ▸ q.bif.1 : _ ∧ _)
    obtain ⟨e, f⟩ := ra.flat hc.1
    obtain ⟨e', f'⟩ := r1.flat hc.2
    refine ⟨l, vs, rfl, .inl (SqL.of h1), f, f', ?_⟩
    subst e; subst e'
    have z := q.bif.2.val d (.bl _)
    rw [bif_ite] at z
    exact z
  | tuple ds =>
    obtain ⟨l, vs, rfl, _, h1, r1⟩ := rb.tup
    have hc := (Bool.and_eq_true _ _ ▸ q.bif.1 : _ ∧ _)
    obtain ⟨e, f⟩ := ra.flat hc.1
    obtain ⟨e', f'⟩ := r1.flat hc.2
    refine ⟨l, vs, rfl, .inr (SqT.of h1), f, f', ?_⟩
    subst e; subst e'
    have z := q.bif.2.val d (.bl _)
    rw [bif_ite] at z
    exact z
  | _ => exact q.elim

/-! ### places and slices -/
def dIx : D → D → Option Sl
  | .list ds, .int i => (atI ds i).map Sl.val
  | .tuple ds, .int i => (atI ds i).map Sl.val
  | .str x, .int i => bif decide (x.length ≤ 16777216) then (atI x.cps.toList i).map fun c => .val (.str ⟨#[c]⟩) else none
  | _, _ => none
theorem Reps.atI {S : Addr → Prop} {H : Hp} {vs : List V} {ds : List D} {i : Int} {d : D} (r : Reps S H vs ds) (h : L2.atI ds i = some d) : ∃ v, L2.atI vs i = some v ∧ Rep S H v d := by
  unfold L2.atI at h ⊢
  rw [r.len]
  cases e : ixN ds.length i with
  | none => rw [e] at h; cases h
  | some j => rw [e] at h; exact r.get h
theorem od_ix {K : PySem.W.Frag} : OD (rIx K) dIx := by
  intro S H x y a b Q d ra rb q
  cases b with
  | int i =>
    have e := rb.int
    subst e
    cases a with
    | list ds =>
      obtain ⟨l, vs, rfl, h1, r1⟩ := ra.list
      have q' : OPost S H Q ((atI ds i).map Sl.val) := q
      cases e : L2.atI ds i with
      | none => rw [e] at q'; exact q'.elim
      | some w => rw [e] at q'; obtain ⟨v, e2, r2⟩ := r1.atI e; exact .inl ⟨l, vs, i, v, rfl, rfl, SqL.of h1, e2, q'.val d r2⟩
    | tuple ds =>
      obtain ⟨l, vs, rfl, _, h1, r1⟩ := ra.tup
      have q' : OPost S H Q ((atI ds i).map Sl.val) := q
      cases e : L2.atI ds i with
      | none => rw [e] at q'; exact q'.elim
      | some w => rw [e] at q'; obtain ⟨v, e2, r2⟩ := r1.atI e; exact .inr (.inl ⟨l, vs, i, v, rfl, rfl, SqT.of h1, e2, q'.val d r2⟩)
    | str z =>
      have e := ra.str
      subst e
      have q' : OPost S H Q (bif decide (z.length ≤ 16777216) then (atI z.cps.toList i).map fun c => Sl.val (.str ⟨#[c]⟩) else none) := q
      cases hz : decide (z.length ≤ 16777216) with
      | false => rw [hz] at q'; exact q'.elim
      | true =>
        rw [hz] at q'
        cases e : L2.atI z.cps.toList i with
        | none => rw [e] at q'; exact q'.elim
        | some c => rw [e] at q'; exact .inr (.inr ⟨z, i, c, rfl, rfl, size_of hz, e, OPost.val d q' (.str _)⟩)
    | _ => exact q.elim
  | _ => cases a <;> exact q.elim
end DW

set_option Elab.async false
set_option linter.all false
set_option maxRecDepth 100000
set_option maxHeartbeats 2000000
/-! DW: slices, calls of built-ins and of defs, statements. -/
namespace DW
open PySem PySem.Spec PyProof.Rows L2

/-! ### slices -/
def DOp (mg : Str → Option Value) (W : WX) (t : TO) (f : M (Option Int)) : Prop := ∀ (B : Ba) (S : Addr → Prop) (H : Hp) (σ : L2.St) (δ : Env) (Q : Option Int → Hp → Prop), J B S H σ δ →
  Pst mg W B S H σ (f δ) (fun r δ' S' H' => Q r H') → t σ H Q
def oNone : M (Option Int) := M.ret none
def oSome (f : M Sl) : M (Option Int) := M.bind (opnd f) fun r => M.bind (rdM r) fun d => match d with
  | .int i => M.ret (some i)
  | _ => fun _ => .bad
def cutD (ds : List D) (lo hi : Option Int) : List D := (ds.drop (HT.sIx ds.length 0 lo)).take (HT.sIx ds.length ds.length hi - HT.sIx ds.length 0 lo)
def dSl (lo hi : Option Int) : D → Option Sl
  | .list ds => some (.own (cutD ds lo hi))
  | .tuple ds => bif decide (HT.sIx ds.length 0 lo = 0) && decide (HT.sIx ds.length ds.length hi = ds.length) then none else some (.val (.tuple (cutD ds lo hi)))
  | .str x => bif decide (x.length ≤ 16777216) then some (.val (.str (cutS x lo hi))) else none
  | _ => none
def eSl (f : M Sl) (lo hi : M (Option Int)) : M Sl := M.bind (opnd f) fun r => M.bind lo fun l => M.bind hi fun h => M.bind (rdM r) fun d => liftO (dSl l h d)
def rSlD (K : PySem.W.Frag) : V → Option Int → Option Int → Hp → VK → Prop := fun x lo hi H Q => rSlL K x lo hi H Q ∨ rSlT K x lo hi H Q ∨ rSlS x lo hi H Q
theorem sl_all {X : Cx} : SlR X (rSlD X.K) := sl_list.or (sl_tup.or sl_str)
section
variable {mg : Str → Option Value} {W : WX} {te ta tb tc : TE} {f g h : M Sl} {tl th : TO} {lo hi : M (Option Int)} {t : TA} {fs : M (List Sl)}
theorem do_none : DOp mg W tNoPart oNone := fun B S H σ δ Q I p => p S H I (Gx.refl S H)
theorem do_some (ha : DE mg W te f) : DOp mg W (tPart te) (oSome f) := by
  intro B S H σ δ Q I p
  refine ha.o B S H σ δ _ I (Pst.mono (Pst.split p) fun r1 δ1 S1 H1 I1 G1 p1 x rx => ?_)
  obtain ⟨d, ra, p2⟩ := Pst.rdM I1 rx p1
  cases d with
  | int i => have e := ra.int; subst e; exact ⟨i, rfl, p2 S1 H1 I1 (Gx.refl S1 H1)⟩
  | _ => exact p2.elim
theorem reps_cut {S : Addr → Prop} {H : Hp} {vs : List V} {ds : List D} (r : Reps S H vs ds) (lo hi : Option Int) : Reps S H (cutV vs lo hi) (cutD ds lo hi) := by
  unfold cutV cutD
  rw [r.len]
  exact (r.drop _).take _
theorem de_sl {K : PySem.W.Frag} (ha : DE mg W te f) (hl : DOp mg W tl lo) (hh : DOp mg W th hi) : DE mg W (tSl (rSlD K) te tl th) (eSl f lo hi) := by
  intro B S H σ δ Q I p
  refine ha.o B S H σ δ _ I (Pst.mono (Pst.split p) fun r1 δ1 S1 H1 I1 G1 p1 x rx => ?_)
  refine hl B S1 H1 σ δ1 _ I1 (Pst.mono (Pst.split p1) fun l δ2 S2 H2 I2 G2 p2 => ?_)
  refine hh B S2 H2 σ δ2 _ I2 (Pst.mono (Pst.split p2) fun u δ3 S3 H3 I3 G3 p3 => ?_)
  obtain ⟨d, ra, p4⟩ := Pst.rdM I3 (rx.gx (G2.trans G3)) p3
  have q := Pst.lift I3 p4
  cases d with
  | list ds =>
    obtain ⟨a, vs, rfl, h1, r1⟩ := ra.list
    exact .inl ⟨a, vs, rfl, SqL.of h1, fun p hp => OPost.own I3.dom q (reps_cut r1 l u) hp⟩
  | tuple ds =>
    obtain ⟨a, vs, rfl, _, h1, r1⟩ := ra.tup
    have q' : OPost S3 H3 Q (bif decide (HT.sIx ds.length 0 l = 0) && decide (HT.sIx ds.length ds.length u = ds.length) then none else some (.val (.tuple (cutD ds l u)))) := q
    cases e : (decide (HT.sIx ds.length 0 l = 0) && decide (HT.sIx ds.length ds.length u = ds.length)) with
    | true => rw [e] at q'; exact q'.elim
    | false =>
      rw [e] at q'
      refine .inr (.inl ⟨a, vs, rfl, SqT.of h1, fun z => ?_, fun p hp => OPost.tup I3.dom q' (reps_cut r1 l u) hp⟩)
      rw [r1.len] at z
      rw [decide_eq_true z.1, decide_eq_true z.2] at e
      cases e
  | str z =>
    have e := ra.str
    subst e
    exact .inr (.inr ⟨z, rfl, size_of q.bif.1, q.bif.2.val I3.dom (.str _)⟩)
  | _ => exact q.elim

/-! ### calls of built-ins, by values -/
inductive Rep1s (S : Addr → Prop) (H : Hp) : List V → List D → Prop where
  | nil : Rep1s S H [] []
  | cons {v : V} {d : D} {vs : List V} {ds : List D} : Rep1 S H v d → Rep1s S H vs ds → Rep1s S H (v :: vs) (d :: ds)
def rds (δ : Env) : List Sl → Option (List D)
  | [] => some []
  | s :: r => match rd δ s, rds δ r with
    | some d, some ds => some (d :: ds)
    | _, _ => none
def rdsM (rs : List Sl) : M (List D) := fun δ => match rds δ rs with
  | some ds => .ok ds δ
  | none => .bad
theorem RepOs.rds {B : Ba} {S : Addr → Prop} {H : Hp} {σ : L2.St} {δ : Env} (I : J B S H σ δ) : ∀ {vs : List V} {ss : List Sl} {ds : List D}, RepOs S H σ vs ss → DW.rds δ ss = some ds → Rep1s S H vs ds
  | _, _, _, .nil, e => by cases e; exact .nil
  | _, _, ds, .cons (s := s) (ss := ss) h t, e => by
    have e' : (match rd δ s, DW.rds δ ss with | some d, some ds => some (d :: ds) | _, _ => none) = some ds := e
    cases q : rd δ s with
    | none => simp [q] at e'
    | some d =>
      cases q2 : DW.rds δ ss with
      | none => simp [q, q2] at e'
      | some r => simp [q, q2] at e'; subst e'; exact .cons (h.rd I q) (RepOs.rds I t q2)
def OB (r : List V → Hp → VK → Prop) (op : List D → Option Sl) : Prop := ∀ (S : Addr → Prop) (H : Hp) (vs : List V) (ds : List D) (Q : VK), (∀ b, S b → H b ≠ none) → Rep1s S H vs ds → OPost S H Q (op ds) → r vs H Q
def eB (op : List D → Option Sl) (fs : M (List Sl)) : M Sl := M.bind fs fun rs => M.bind (rdsM rs) fun ds => liftO (op ds)
theorem de_b {r : List V → Hp → VK → Prop} {op : List D → Option Sl} (ho : OB r op) (ha : DA mg W t fs) : DE mg W (tCB r t) (eB op fs) := by
  intro B S H σ δ Q I p
  refine ha B S H σ δ _ I (Pst.mono (Pst.split p) fun rs δ1 S1 H1 I1 G1 p1 vs rv => ?_)
  unfold M.bind rdsM at p1
  cases e : rds δ1 rs with
  | none => rw [e] at p1; exact p1.elim
  | some ds => rw [e] at p1; exact ho S1 H1 vs ds Q I1.dom (rv.rds I1 e) (Pst.lift I1 p1)
theorem Rep1s.one {S : Addr → Prop} {H : Hp} {vs : List V} {d : D} (h : Rep1s S H vs [d]) : ∃ v, vs = [v] ∧ Rep1 S H v d := by
  cases h with
  | cons r t => cases t; exact ⟨_, rfl, r⟩
theorem Rep1s.two {S : Addr → Prop} {H : Hp} {vs : List V} {d e : D} (h : Rep1s S H vs [d, e]) : ∃ v w, vs = [v, w] ∧ Rep1 S H v d ∧ Rep1 S H w e := by
  cases h with
  | cons r t => cases t with
    | cons r2 t => cases t; exact ⟨_, _, rfl, r, r2⟩
end

/-! ### the call of a def -/
/-- what a def hands back: its result, and the list that was handed in to be changed (at the first place) as it is then -/
inductive FR where
  | ok (r : Sl) (o : Option (List D))
  | ex (e : Exn) (o : Option (List D))
  | bad
abbrev Fn := Option (List D) → List D → FR
structure After (S : Addr → Prop) (H : Hp) (a : Option Addr) (o : Option (List D)) (S' : Addr → Prop) (H' : Hp) : Prop where
  sub : ∀ b, S b → S' b
  new : ∀ b, S' b → S b ∨ H b = none
  keep : ∀ b u, H b = some u → a ≠ some b → H' b = some u
  out : match a, o with
    | some x, some ds => ∃ vs, ¬ S' x ∧ H' x = some (.lst vs) ∧ Reps S' H' vs ds
    | none, none => True
    | _, _ => False
  dom : ∀ b, S' b → H' b ≠ none
def FPost (mg : Str → Option Value) (S : Addr → Prop) (H : Hp) (a : Option Addr) (Q : VK) (E : XK) : FR → Prop
  | .ok r o => ∀ S' H' v, After S H a o S' H' → RepN H S' H' v r → Q v H'
  | .ex e o => ∀ S' H' c d, After S H a o S' H' → ExOk mg S' H' c d e → E c d H'
  | .bad => False
/-- what is handed in: nothing to be changed, or a list at the first place -/
inductive ArgsOk (S : Addr → Prop) (H : Hp) : List V → Option Addr → Option (List D) → List D → Prop where
  | pure {vs : List V} {ds : List D} : Reps S H vs ds → ArgsOk S H vs none none ds
  | prm {a : Addr} {sv vs : List V} {sd ds : List D} : ¬ S a → H a = some (.lst sv) → Reps S H sv sd → Reps S H vs ds → ArgsOk S H (.ref a :: vs) (some a) (some sd) ds
/-- the promise of a def that does F -/
def spD (mg : Str → Option Value) (n : Nat) (F : Fn) : Sp := fun vs H Q E => ∃ (S : Addr → Prop) (a : Option Addr) (sd : Option (List D)) (ds : List D), vs.length = n ∧ (∀ b, S b → H b ≠ none) ∧ ArgsOk S H vs a sd ds ∧ FPost mg S H a Q E (F sd ds)

/-- the arguments of a call, as the callee has them -/
def argsOf (δ : Env) : List Sl → Option (Option Nat × Option (List D) × List D)
  | .bor i :: rs => match δ[i]?, valsD rs with
    | some (.own sd), some ds => some (some i, some sd, ds)
    | some (.prm sd), some ds => some (some i, some sd, ds)
    | _, _ => none
  | rs => (valsD rs).map fun ds => (none, none, ds)
def setC (δ : Env) (i : Nat) (ds : List D) : Env := match δ[i]? with
  | some (.own _) => δ.set i (.own ds)
  | some (.prm _) => δ.set i (.prm ds)
  | _ => δ
def backC (δ : Env) : Option Nat → Option (List D) → Option Env
  | some i, some ds => some (setC δ i ds)
  | none, none => some δ
  | _, _ => none
def callM (F : Fn) (rs : List Sl) : M Sl := fun δ => match argsOf δ rs with
  | none => .bad
  | some (i, sd, ds) => match F sd ds with
    | .ok r o => match backC δ i o with
      | some δ' => .ok r δ'
      | none => .bad
    | .ex e o => match backC δ i o with
      | some δ' => .ex e δ'
      | none => .bad
    | .bad => .bad
def eCall (F : Fn) (fs : M (List Sl)) : M Sl := M.bind fs fun rs => callM F rs
/-- a def of the module: its promise, where it stands -/
structure Df (P : Program) (w : World) (K : PySem.W.Frag) (mg : Str → Option Value) (base : Heap) (x : Str) (k n : Nat) (F : Fn) : Prop where
  ex : ∃ (f : Addr) (fd : FuncData) (ps : List Str), FnOk P w K mg base (L2.CX P w) k f fd ps (spD mg n F) ∧ mg x = some (.ref f) ∧ PySem.W.keepIn K (.ref f) = true ∧ Binds K fd ps []
section
variable {B : Ba} {S S' : Addr → Prop} {H H' : Hp} {σ : L2.St} {δ : Env}
theorem setC_len (δ : Env) (i : Nat) (ds : List D) : (setC δ i ds).length = δ.length := by
  unfold setC
  split <;> simp
/-- behind a call that changed the list in slot i -/
theorem J.back (I : J B S H σ δ) {i : Nat} {a : Addr} {ds : List D} {sd : List D} (hi : δ[i]? = some (.own sd) ∨ δ[i]? = some (.prm sd)) (hσ : σ[i]? = some (some (.ref a))) (A : After S H (some a) (some ds) S' H') : J B S' H' σ (setC δ i ds) := by
  obtain ⟨vs, nS, ha, rr⟩ := A.out
  have own_i : ∃ s, δ[i]? = some s ∧ s.isOwn = true := hi.elim (fun h => ⟨_, h, rfl⟩) (fun h => ⟨_, h, rfl⟩)
  obtain ⟨si, esi, osi⟩ := own_i
  have gx : Gx S H S' H' := ⟨A.sub, fun b o hb e => A.keep b o e fun z => by
    cases z
    have sl := I.slot i _ si hσ esi
    rcases hi with h | h
    · rw [h] at esi; cases esi; obtain ⟨x, _, e1, n, _⟩ := sl; cases e1; exact n hb
    · rw [h] at esi; cases esi; obtain ⟨x, _, e1, n, _⟩ := sl; cases e1; exact n hb⟩
  have hai : H a ≠ none := by
    have sl := I.slot i _ si hσ esi
    rcases hi with h | h
    · rw [h] at esi; cases esi; obtain ⟨x, _, e1, _, h1, _⟩ := sl; cases e1; rw [h1]; simp
    · rw [h] at esi; cases esi; obtain ⟨x, _, e1, _, h1, _⟩ := sl; cases e1; rw [h1]; simp
  -- the kinds are as they were
  have kind : ∀ j s, (setC δ i ds)[j]? = some s → ∃ s0, δ[j]? = some s0 ∧ s.isOwn = s0.isOwn ∧ ((∃ x, s = .prm x) ↔ (∃ x, s0 = .prm x)) ∧ (j ≠ i → s = s0) ∧ (j = i → s = .own ds ∨ s = .prm ds) := fun j s h => by
    unfold setC at h
    have hlt : i < δ.length := by rcases hi with h | h <;> exact (List.getElem?_eq_some_iff.mp h).1
    rcases hi with hi | hi
    · rw [hi] at h
      by_cases e : j = i
      · subst e; rw [List.getElem?_set_self hlt] at h; cases h; exact ⟨_, hi, rfl, ⟨fun ⟨x, q⟩ => (by cases q), fun ⟨x, q⟩ => (by cases q)⟩, fun q => absurd rfl q, fun _ => .inl rfl⟩
      · rw [List.getElem?_set_ne (Ne.symm e)] at h; exact ⟨_, h, rfl, Iff.rfl, fun _ => rfl, fun q => absurd q e⟩
    · rw [hi] at h
      by_cases e : j = i
      · subst e; rw [List.getElem?_set_self hlt] at h; cases h; exact ⟨_, hi, rfl, ⟨fun ⟨x, q⟩ => ⟨_, rfl⟩, fun ⟨x, q⟩ => ⟨_, rfl⟩⟩, fun q => absurd rfl q, fun _ => .inr rfl⟩
      · rw [List.getElem?_set_ne (Ne.symm e)] at h; exact ⟨_, h, rfl, Iff.rfl, fun _ => rfl, fun q => absurd q e⟩
  refine ⟨by rw [setC_len]; exact I.len, fun j ov s h1 h2 => ?_, fun j l b s t ne h1 h2 h3 h4 o1 o2 => ?_, fun j b s h1 h2 o => ?_, fun b o e n => ?_, fun b h => A.sub b (I.sub b h), fun b h => ?_, fun b hb h => ?_, fun b hb h => ?_, A.dom, I.parH⟩
  · obtain ⟨s0, e0, _, _, hne, heq⟩ := kind j s h2
    by_cases e : j = i
    · subst e
      rw [hσ] at h1; cases h1
      rcases heq rfl with q | q <;> (subst q; exact ⟨a, vs, rfl, nS, ha, rr⟩)
    · have q := hne e
      subst q
      have old := I.slot j ov s h1 e0
      have apart : ∀ b, ov = some (.ref b) → s.isOwn = true → b ≠ a := fun b eb ob z => by
        subst z; subst eb
        exact I.dis j i b s si e h1 hσ e0 esi ob osi
      have keepB : ∀ b u, b ≠ a → H b = some u → H' b = some u := fun b u z q => A.keep b u q fun w => z (Option.some.inj w).symm
      have nS' : ∀ b, ¬ S b → H b ≠ none → ¬ S' b := fun b n1 n2 z => (A.new b z).elim n1 n2
      cases s with
      | un => trivial
      | val d => obtain ⟨x, ex, r⟩ := old; exact ⟨x, ex, r.gx gx⟩
      | own es => obtain ⟨b, ws, eb, n, h, r⟩ := old; exact ⟨b, ws, eb, nS' b n (by rw [h]; simp), keepB b _ (apart b eb rfl) h, r.gx gx⟩
      | prm es => obtain ⟨b, ws, eb, n, h, r⟩ := old; exact ⟨b, ws, eb, nS' b n (by rw [h]; simp), keepB b _ (apart b eb rfl) h, r.gx gx⟩
      | ownD es => obtain ⟨b, ws, eb, n, h, r⟩ := old; exact ⟨b, ws, eb, nS' b n (by rw [h]; simp), keepB b _ (apart b eb rfl) h, r.gx gx⟩
      | bor l => exact old
  · obtain ⟨s0, e0, i0, _⟩ := kind j s h3
    obtain ⟨t0, f0, j0, _⟩ := kind l t h4
    exact I.dis j l b s0 t0 ne h1 h2 e0 f0 (i0 ▸ o1) (j0 ▸ o2)
  · obtain ⟨s0, e0, i0, p0, _⟩ := kind j s h2
    rcases I.ownN j b s0 h1 e0 (i0 ▸ o) with ⟨q1, q2⟩ | ⟨q1, q2⟩
    · exact .inl ⟨q1, fun x z => by obtain ⟨y, hy⟩ := p0.mp ⟨x, z⟩; exact q2 y hy⟩
    · exact .inr ⟨q1, p0.mpr q2⟩
  · refine A.keep b o (I.old b o e n) fun z => ?_
    cases z
    rcases I.ownN i a si hσ esi osi with ⟨h0, _⟩ | ⟨h0, _⟩
    · rw [h0] at e; cases e
    · exact n ⟨i, h0⟩
  · rcases A.new b h with z | z
    · exact I.new b z
    · exact .inr (I.h0 z)
  · rcases A.new b h with z | z
    · exact I.ion b hb z
    · exact I.iod b hb z
  · by_cases e : b = a
    · subst e; rw [ha] at h; cases h
    · cases q : H b with
      | none => exact I.iod b hb q
      | some u => rw [A.keep b u q fun w => e (Option.some.inj w).symm] at h; cases h
end
end DW

set_option Elab.async false
set_option linter.all false
set_option maxRecDepth 100000
set_option maxHeartbeats 2000000
/-! DW: calls of defs, statements, a def's promise by its body. -/
namespace DW
open PySem PySem.Spec PyProof.Rows L2
section
variable {mg : Str → Option Value} {W : WX} {t : TA} {fs : M (List Sl)} {B : Ba} {S S' : Addr → Prop} {H H' : Hp} {σ : L2.St} {δ : Env}
theorem RepOs.len : ∀ {vs : List V} {ss : List Sl}, RepOs S H σ vs ss → vs.length = ss.length
  | _, _, .nil => rfl
  | _, _, .cons _ t => by rw [List.length_cons, List.length_cons, RepOs.len t]
theorem setC_own {i j : Nat} {ds : List D} {s : Sl} (h : (setC δ i ds)[j]? = some s) : ∃ s0, δ[j]? = some s0 ∧ s.isOwn = s0.isOwn := by
  unfold setC at h
  split at h
  · rename_i x hi
    by_cases e : j = i
    · subst e; rw [List.getElem?_set_self (List.getElem?_eq_some_iff.mp hi).1] at h; cases h; exact ⟨_, hi, rfl⟩
    · rw [List.getElem?_set_ne (Ne.symm e)] at h; exact ⟨_, h, rfl⟩
  · rename_i x hi
    by_cases e : j = i
    · subst e; rw [List.getElem?_set_self (List.getElem?_eq_some_iff.mp hi).1] at h; cases h; exact ⟨_, hi, rfl⟩
    · rw [List.getElem?_set_ne (Ne.symm e)] at h; exact ⟨_, h, rfl⟩
  · exact ⟨s, h, rfl⟩
theorem Fr.setC {a : Addr} {i : Nat} {ds : List D} (f : Fr B σ δ a) : Fr B σ (setC δ i ds) a := ⟨f.1, f.2.1, fun j s h1 h2 => by
  obtain ⟨s0, e0, k⟩ := setC_own h2
  rw [k]
  exact f.2.2 j s0 h1 e0⟩
theorem RepR.setC {v : V} {i : Nat} {ds : List D} : ∀ {r : Sl}, RepR B S H σ δ v r → RepR B S H σ (DW.setC δ i ds) v r
  | .val d, h => h
  | .bor i, h => h
  | .own ds, ⟨a, vs, e, f, n, h, r⟩ => ⟨a, vs, e, f.setC, n, h, r⟩
  | .ownD ds, ⟨a, vs, e, f, n, h, r⟩ => ⟨a, vs, e, f.setC, n, h, r⟩
def eCallN (n : Nat) (F : Fn) (fs : M (List Sl)) : M Sl := M.bind fs fun rs => bif rs.length == n then callM F rs else fun _ => .bad
theorem After.gx {o : Option (List D)} (A : After S H none o S' H') : Gr S H S' H' := ⟨fun b u e => A.keep b u e (by simp), A.sub, A.new, A.dom⟩
theorem call_sp {n : Nat} {F : Fn} {S1 : Addr → Prop} {H1 : Hp} {δ1 : Env} {Q : VK} {rs : List Sl} {vs : List V} (I1 : J B S1 H1 σ δ1) (rv : RepOs S1 H1 σ vs rs)
    (p1 : Pst mg W B S1 H1 σ ((bif rs.length == n then callM F rs else fun _ => .bad) δ1) (fun r δ' S' H' => ∀ v, RepR B S' H' σ δ' v r → Q v H')) : spD mg n F vs H1 Q (WE W σ) := by
  cases en : rs.length == n with
  | false => rw [en] at p1; exact p1.elim
  | true =>
    rw [en] at p1
    have hn : vs.length = n := by rw [rv.len]; exact beq_iff_eq.mp en
    have p1 : Pst mg W B S1 H1 σ (callM F rs δ1) (fun r δ' S' H' => ∀ v, RepR B S' H' σ δ' v r → Q v H') := p1
    unfold callM at p1
    cases ea : argsOf δ1 rs with
    | none => rw [ea] at p1; exact p1.elim
    | some x =>
      obtain ⟨i, sd, ds⟩ := x
      rw [ea] at p1
      simp only at p1
      cases rs with
      | nil =>
        cases ea
        cases rv
        refine ⟨S1, none, none, [], hn, I1.dom, .pure .nil, ?_⟩
        cases eF : F none [] with
        | bad => rw [eF] at p1; exact p1.elim
        | ok r o =>
          rw [eF] at p1
          cases o with
          | some _ => exact p1.elim
          | none => exact fun S' H' v A rn => p1 S' H' (I1.gr A.gx) A.gx.gx v (rn.r I1)
        | ex e o =>
          rw [eF] at p1
          cases o with
          | some _ => exact p1.elim
          | none => exact fun S' H' c d A rn => p1 S' H' c d (I1.gr A.gx) A.gx.gx rn
      | cons s0 rs =>
        have pureCase : ∀ (es : List D), valsD (s0 :: rs) = some es → i = none → sd = none → ds = es → spD mg n F vs H1 Q (WE W σ) := fun es ev e1 e2 e3 => by
          subst e1; subst e2; subst e3
          refine ⟨S1, none, none, ds, hn, I1.dom, .pure (valsD_rep rv ev), ?_⟩
          cases eF : F none ds with
          | bad => rw [eF] at p1; exact p1.elim
          | ok r o =>
            rw [eF] at p1
            cases o with
            | some _ => exact p1.elim
            | none => exact fun S' H' v A rn => p1 S' H' (I1.gr A.gx) A.gx.gx v (rn.r I1)
          | ex e o =>
            rw [eF] at p1
            cases o with
            | some _ => exact p1.elim
            | none => exact fun S' H' c d A rn => p1 S' H' c d (I1.gr A.gx) A.gx.gx rn
        have plain : (valsD (s0 :: rs)).map (fun ds => ((none : Option Nat), (none : Option (List D)), ds)) = some (i, sd, ds) → spD mg n F vs H1 Q (WE W σ) := fun h => by
          cases ev : valsD (s0 :: rs) with
          | none => rw [ev] at h; cases h
          | some es => rw [ev] at h; injection h with h; injection h with h1 h2; injection h2 with h2 h3; exact pureCase es ev h1.symm h2.symm h3.symm
        cases s0 with
        | bor j =>
          cases rv with
          | cons hv rt =>
            rename_i v0 vs0
            have hv : σ[j]? = some (some v0) := hv
            have prmCase : ∀ (es : List D) (x : List D), valsD rs = some es → (δ1[j]? = some (.own x) ∨ δ1[j]? = some (.prm x)) → i = some j → sd = some x → ds = es → spD mg n F (v0 :: vs0) H1 Q (WE W σ) := fun es x ev hs e1 e2 e3 => by
              subst e1; subst e2; subst e3
              have sl : ∃ a ws, v0 = .ref a ∧ ¬ S1 a ∧ H1 a = some (.lst ws) ∧ Reps S1 H1 ws x := by
                rcases hs with hs | hs
                · obtain ⟨a, ws, e, q⟩ := I1.slot j _ _ hv hs; cases e; exact ⟨a, ws, rfl, q⟩
                · obtain ⟨a, ws, e, q⟩ := I1.slot j _ _ hv hs; cases e; exact ⟨a, ws, rfl, q⟩
              obtain ⟨a, ws, rfl, nS, ha, rr⟩ := sl
              refine ⟨S1, some a, some x, ds, hn, I1.dom, .prm nS ha rr (valsD_rep rt ev), ?_⟩
              have gx : ∀ {ds' : List D} {S' : Addr → Prop} {H' : Hp}, After S1 H1 (some a) (some ds') S' H' → Gx S1 H1 S' H' := fun A => ⟨A.sub, fun b o hb e => A.keep b o e fun z => by cases z; exact nS hb⟩
              cases eF : F (some x) ds with
              | bad => rw [eF] at p1; exact p1.elim
              | ok r o =>
                rw [eF] at p1
                cases o with
                | none => exact p1.elim
                | some ds' => exact fun S' H' v A rn => p1 S' H' (I1.back hs hv A) (gx A) v (rn.r I1).setC
              | ex e o =>
                rw [eF] at p1
                cases o with
                | none => exact p1.elim
                | some ds' => exact fun S' H' c d A rn => p1 S' H' c d (I1.back hs hv A) (gx A) rn
            unfold argsOf at ea
            cases e1 : δ1[j]? with
            | none => simp [e1] at ea
            | some s =>
              cases e2 : valsD rs with
              | none => cases s <;> simp [e1, e2] at ea
              | some es =>
                cases s with
                | own x => simp [e1, e2] at ea; exact prmCase es x e2 (.inl e1) ea.1.symm ea.2.1.symm ea.2.2.symm
                | prm x => simp [e1, e2] at ea; exact prmCase es x e2 (.inr e1) ea.1.symm ea.2.1.symm ea.2.2.symm
                | _ => simp [e1, e2] at ea
        | val d => exact plain ea
        | un => exact plain ea
        | own d => exact plain ea
        | ownD d => exact plain ea
        | prm d => exact plain ea
theorem de_call {n : Nat} {F : Fn} (ha : DA mg W t fs) : DE mg W (tCallSD (spD mg n F) [] (WE W) t) (eCallN n F fs) := by
  intro B S H σ δ Q I p
  refine ha B S H σ δ _ I (Pst.mono (Pst.split p) fun rs δ1 S1 H1 I1 G1 p1 vs rv => ?_)
  show spD mg n F (vs ++ []) H1 Q (WE W σ)
  rw [List.append_nil]
  exact call_sp I1 rv p1
/-- .. with defaults behind the arguments -/
def eCallD (n : Nat) (F : Fn) (dds : List D) (fs : M (List Sl)) : M Sl := M.bind fs fun rs => bif (rs ++ dds.map Sl.val).length == n then callM F (rs ++ dds.map Sl.val) else fun _ => .bad
theorem RepOs.app {S1 : Addr → Prop} {H1 : Hp} : ∀ {vs ws : List V} {rs ss : List Sl}, RepOs S1 H1 σ vs rs → RepOs S1 H1 σ ws ss → RepOs S1 H1 σ (vs ++ ws) (rs ++ ss)
  | _, _, _, _, .nil, h => h
  | _, _, _, _, .cons a t, h => .cons a (RepOs.app t h)
theorem Rep.ofFlat {S1 : Addr → Prop} {H1 : Hp} {d : D} (h : flatD d = true) : Rep S1 H1 (vD d) d := by
  cases d with
  | none => exact .non
  | bool b => exact .bl b
  | int b => exact .int b
  | str b => exact .str b
  | _ => cases h
theorem RepOs.flat {S1 : Addr → Prop} {H1 : Hp} : ∀ {ds : List D}, ds.all flatD = true → RepOs S1 H1 σ (ds.map vD) (ds.map Sl.val)
  | [], _ => .nil
  | d :: ds, h => by
    rw [List.all_cons, Bool.and_eq_true] at h
    exact .cons (Rep.ofFlat h.1) (RepOs.flat h.2)
theorem de_callD {n : Nat} {F : Fn} {dds : List D} (hd : dds.all flatD = true) (ha : DA mg W t fs) : DE mg W (tCallSD (spD mg n F) (dds.map vD) (WE W) t) (eCallD n F dds fs) := by
  intro B S H σ δ Q I p
  refine ha B S H σ δ _ I (Pst.mono (Pst.split p) fun rs δ1 S1 H1 I1 G1 p1 vs rv => ?_)
  exact call_sp I1 (rv.app (RepOs.flat hd)) p1
/-- .. without arguments -/
def eCall0 (n : Nat) (F : Fn) : M Sl := bif n == 0 then (match F none [] with
  | .ok r none => M.ret r
  | _ => fun _ => .bad) else fun _ => .bad
theorem de_call0 {n : Nat} {F : Fn} : DE mg W (tCall (spD mg n F) [] E0 tNil) (eCall0 n F) := by
  intro B S H σ δ Q I p
  show spD mg n F ([] ++ []) H Q E0
  unfold eCall0 at p
  cases en : n == 0 with
  | false => rw [en] at p; exact p.elim
  | true =>
    rw [en] at p
    refine ⟨S, none, none, [], (beq_iff_eq.mp en).symm, I.dom, .pure .nil, ?_⟩
    cases eF : F none [] with
    | bad => rw [eF] at p; exact p.elim
    | ex e o => rw [eF] at p; exact p.elim
    | ok r o =>
      rw [eF] at p
      cases o with
      | some _ => exact p.elim
      | none => exact fun S' H' v A rn => p S' H' (I.gr A.gx) A.gx.gx v (rn.r I)
end
end DW

set_option Elab.async false
set_option linter.all false
set_option maxRecDepth 100000
set_option maxHeartbeats 2000000
/-! DW: statements, loops, a def's promise by its body. -/
namespace DW
open PySem PySem.Spec PyProof.Rows L2

inductive Out where
  | nx
  | rt (r : Sl)
  | bk
  | ct
abbrev SM := M Out
def PstS (mg : Str → Option Value) (W : WX) (B : Ba) (S : Addr → Prop) (H : Hp) (r : R Out) (D : Ends) : Prop :=
  match r with
  | .ok .nx δ' => ∀ S' H' σ', J B S' H' σ' δ' → Gx S H S' H' → D.nx σ' H'
  | .ok (.rt r) δ' => ∀ S' H' σ' v, J B S' H' σ' δ' → Gx S H S' H' → RepR B S' H' σ' δ' v r → D.rt v H'
  | .ok .bk δ' => ∀ S' H' σ', J B S' H' σ' δ' → Gx S H S' H' → D.bk σ' H'
  | .ok .ct δ' => ∀ S' H' σ', J B S' H' σ' δ' → Gx S H S' H' → D.ct σ' H'
  | .ex e δ' => ∀ S' H' σ' c d, J B S' H' σ' δ' → Gx S H S' H' → ExOk mg S' H' c d e → W c d σ' H'
  | .bad => False
def DS (mg : Str → Option Value) (W : WX) (ts : TS) (f : SM) : Prop := ∀ (B : Ba) (S : Addr → Prop) (H : Hp) (σ : L2.St) (δ : Env) (D : Ends), J B S H σ δ → PstS mg W B S H (f δ) D → ts D σ H
/-- a target of an assignment or a for -/
def DG (g : TG) (f : D → Env → Option Env) : Prop := ∀ (B : Ba) (S : Addr → Prop) (H : Hp) (σ : L2.St) (δ : Env) (x : V) (d : D) (Q : L2.St → Hp → Prop), J B S H σ δ → Rep S H x d →
  (match f d δ with
    | some δ' => ∀ σ', J B S H σ' δ' → Q σ' H
    | none => False) → g x σ H Q
/-- what is walked: the data, turn by turn -/
def ItOk (I : It) (S0 : Addr → Prop) (H0 : Hp) (ds : List D) : Prop := ∀ (i : Nat) (S : Addr → Prop) (H : Hp), Gx S0 H0 S H → (∀ b, S b → H b ≠ none) →
  (ds.length ≤ i → I.stop i H) ∧ (∀ d, ds[i]? = some d → I.go i H ∧ ∀ x H', I.yld i H x H' → ∃ S', Gr S H S' H' ∧ Rep S' H' x d)
def DI (mg : Str → Option Value) (W : WX) (wi : TI) (f : M (List D)) : Prop := ∀ (B : Ba) (S : Addr → Prop) (H : Hp) (σ : L2.St) (δ : Env) (R : It → Hp → Prop), J B S H σ δ →
  Pst mg W B S H σ (f δ) (fun ds δ' S' H' => ∀ I, ItOk I S' H' ds → R I H') → wi σ H R

section
variable {mg : Str → Option Value} {W : WX} {ts us tb : TS} {te : TE} {tt : TT} {t : TA} {f g body : SM} {e : M Sl} {p : M Bool} {wi : TI} {gt : TG} {tgt : D → Env → Option Env} {src : M (List D)} {D : Ends}
variable {B : Ba} {S S' S1 : Addr → Prop} {H H' H1 : Hp} {σ : L2.St} {δ : Env} {α : Type}
theorem PstS.gx {r : R Out} (h : PstS mg W B S H r D) (x : Gx S H S1 H1) : PstS mg W B S1 H1 r D := by
  cases r with
  | ok o δ =>
    cases o with
    | nx => exact fun S' H' σ' j y => h S' H' σ' j (x.trans y)
    | rt r => exact fun S' H' σ' v j y => h S' H' σ' v j (x.trans y)
    | bk => exact fun S' H' σ' j y => h S' H' σ' j (x.trans y)
    | ct => exact fun S' H' σ' j y => h S' H' σ' j (x.trans y)
  | ex e δ => exact fun S' H' σ' c d j y => h S' H' σ' c d j (x.trans y)
  | bad => exact h
/-- an expression ahead -/
theorem PstS.split {h : M α} {k : α → SM} (q : PstS mg W B S H (M.bind h k δ) D) : Pst mg W B S H σ (h δ) (fun a δ1 S1 H1 => PstS mg W B S1 H1 (k a δ1) D) := by
  unfold M.bind at q
  cases e : h δ with
  | ok a δ' => rw [e] at q; exact fun S' H' j x => PstS.gx q x
  | ex e' δ' => rw [e] at q; exact fun S' H' c d j x y => q S' H' σ c d j x y
  | bad => rw [e] at q; exact q

/-! ### blocks -/
def sNil : SM := M.ret .nx
def kSeq (g : SM) : Out → SM
  | .nx => g
  | o => M.ret o
def sSeq (f g : SM) : SM := M.bind f (kSeq g)
theorem ds_nil : DS mg W tNext sNil := fun B S H σ δ D I p => p S H σ I (Gx.refl S H)
theorem ds_seq (hf : DS mg W ts f) (hg : DS mg W us g) : DS mg W (tSeq ts us) (sSeq f g) := by
  intro B S H σ δ D I q
  refine hf B S H σ δ { D with nx := us D } I ?_
  unfold sSeq M.bind at q
  cases e : f δ with
  | ok o δ' =>
    rw [e] at q
    cases o with
    | nx => exact fun S' H' σ' j x => hg B S' H' σ' δ' D j (PstS.gx q x)
    | rt r => exact q
    | bk => exact q
    | ct => exact q
  | ex e' δ' => rw [e] at q; exact q
  | bad => rw [e] at q; exact q
def sRet (e : M Sl) : SM := M.bind e fun r => M.ret (.rt r)
theorem ds_ret (he : DE mg W te e) : DS mg W (tRet te) (sRet e) := by
  intro B S H σ δ D I q
  exact he B S H σ δ _ I (Pst.mono (PstS.split q) fun r δ' S' H' I' G' q v rv => q S' H' σ v I' (Gx.refl S' H') rv)
def sRetN : SM := M.ret (.rt (.val .none))
theorem ds_retN : DS mg W tRetN sRetN := fun B S H σ δ D I p => p S H σ _ I (Gx.refl S H) .non
def sExpr (e : M Sl) : SM := M.bind e fun _ => M.ret .nx
theorem ds_expr (he : DE mg W te e) : DS mg W (tDrop te) (sExpr e) := by
  intro B S H σ δ D I q
  exact he B S H σ δ _ I (Pst.mono (PstS.split q) fun r δ' S' H' I' G' q v rv => q S' H' σ I' (Gx.refl S' H'))
def sIf (p : M Bool) (f g : SM) : SM := M.bind p fun b => bif b then f else g
theorem ds_if (hp : DT mg W tt p) (hf : DS mg W ts f) (hg : DS mg W us g) : DS mg W (tIfS tt ts us) (sIf p f g) := by
  intro B S H σ δ D I q
  refine hp B S H σ δ _ I (Pst.mono (PstS.split q) fun b δ1 S1 H1 I1 G1 q => ?_)
  cases b with
  | true => exact hf B S1 H1 σ δ1 D I1 q
  | false => exact hg B S1 H1 σ δ1 D I1 q
def sBrk : SM := M.ret .bk
def sCont : SM := M.ret .ct
theorem ds_brk : DS mg W tBreak sBrk := fun B S H σ δ D I p => p S H σ I (Gx.refl S H)
theorem ds_cont : DS mg W tCont sCont := fun B S H σ δ D I p => p S H σ I (Gx.refl S H)

/-! ### a name stored -/
theorem get_set {β : Type} {l : List β} {i j : Nat} {a b : β} (h : (l.set i a)[j]? = some b) : (j = i ∧ b = a) ∨ (j ≠ i ∧ l[j]? = some b) := by
  by_cases e : j = i
  · subst e
    by_cases hl : j < l.length
    · rw [List.getElem?_set_self hl] at h; cases h; exact .inl ⟨rfl, rfl⟩
    · rw [List.getElem?_eq_none (by simpa using hl)] at h; cases h
  · rw [List.getElem?_set_ne (Ne.symm e)] at h; exact .inr ⟨e, h⟩
/-- a slot is stored: what is said of the new content -/
theorem J.set (I : J B S H σ δ) {i : Nat} {x : V} {s : Sl} (ok : SlotOk S H (some x) s) (hp : ∀ ds, s ≠ .prm ds)
    (fr : s.isOwn = true → ∃ a, x = .ref a ∧ Fr B σ δ a) : J B S H (σ.set i (some x)) (δ.set i s) where
  len := by simp [I.len]
  slot := fun j ov t h1 h2 => by
    rcases get_set h1 with ⟨e, q⟩ | ⟨e, q⟩
    · rcases get_set h2 with ⟨_, q2⟩ | ⟨e2, _⟩
      · subst q; subst q2; exact ok
      · exact absurd e e2
    · rcases get_set h2 with ⟨e2, _⟩ | ⟨_, q2⟩
      · exact absurd e2 e
      · exact I.slot j ov t q q2
  dis := fun j k a t u ne h1 h2 h3 h4 o1 o2 => by
    rcases get_set h1 with ⟨e, q⟩ | ⟨e, q⟩
    · rcases get_set h3 with ⟨_, q3⟩ | ⟨e3, _⟩
      · rcases get_set h2 with ⟨e4, _⟩ | ⟨e4, q4⟩
        · exact ne (e.trans e4.symm)
        · rcases get_set h4 with ⟨e5, _⟩ | ⟨_, q5⟩
          · exact e4 e5
          · subst q3
            obtain ⟨b, eb, f⟩ := fr o1
            cases q
            cases eb
            rw [f.2.2 k u q4 q5] at o2
            cases o2
      · exact e3 e
    · rcases get_set h3 with ⟨e3, _⟩ | ⟨_, q3⟩
      · exact e e3
      · rcases get_set h2 with ⟨e4, q4⟩ | ⟨e4, q4⟩
        · rcases get_set h4 with ⟨_, q5⟩ | ⟨e5, _⟩
          · subst q5
            obtain ⟨b, eb, f⟩ := fr o2
            cases q4
            cases eb
            rw [f.2.2 j t q q3] at o1
            cases o1
          · exact e5 e4
        · rcases get_set h4 with ⟨e5, _⟩ | ⟨_, q5⟩
          · exact e4 e5
          · exact I.dis j k a t u ne q q4 q3 q5 o1 o2
  ownN := fun j a t h1 h2 o => by
    rcases get_set h1 with ⟨e, q⟩ | ⟨e, q⟩
    · rcases get_set h2 with ⟨_, q2⟩ | ⟨e2, _⟩
      · subst q2
        obtain ⟨b, eb, f⟩ := fr o
        cases q
        cases eb
        exact .inl ⟨f.1, hp⟩
      · exact absurd e e2
    · rcases get_set h2 with ⟨e2, _⟩ | ⟨_, q2⟩
      · exact absurd e2 e
      · exact I.ownN j a t q q2 o
  old := I.old
  sub := I.sub
  new := I.new
  ion := I.ion
  iod := I.iod
  dom := I.dom
  parH := I.parH
def storeM (i : Nat) : Sl → M Unit
  | .val d => fun δ => .ok () (δ.set i (.val d))
  | .own ds => fun δ => .ok () (δ.set i (.own ds))
  | .ownD ds => fun δ => .ok () (δ.set i (.ownD ds))
  | _ => fun _ => .bad
def sAsg (i : Nat) (e : M Sl) : SM := M.bind e fun r => M.bind (storeM i r) fun _ => M.ret .nx
theorem ds_asg {i : Nat} (he : DE mg W te e) : DS mg W (tAsg te (gName i)) (sAsg i e) := by
  intro B S H σ δ D I q
  refine he B S H σ δ _ I (Pst.mono (PstS.split q) fun r δ1 S1 H1 I1 G1 q v rv => ?_)
  cases r with
  | val d => exact q S1 H1 _ (I1.set ⟨v, rfl, rv⟩ (fun _ z => by cases z) (fun z => by cases z)) (Gx.refl S1 H1)
  | own ds =>
    obtain ⟨a, vs, e, f, n, h, r⟩ := rv
    exact q S1 H1 _ (I1.set ⟨a, vs, by rw [e], n, h, r⟩ (fun _ z => by cases z) (fun _ => ⟨a, e, f⟩)) (Gx.refl S1 H1)
  | ownD ds =>
    obtain ⟨a, vs, e, f, n, h, r⟩ := rv
    exact q S1 H1 _ (I1.set ⟨a, vs, by rw [e], n, h, r⟩ (fun _ z => by cases z) (fun _ => ⟨a, e, f⟩)) (Gx.refl S1 H1)
  | _ => exact q.elim
/-- the same where the name is never changed in place: a new list is shared at once -/
def sAsgV (i : Nat) (e : M Sl) : SM := sAsg i (opnd e)
theorem DO.toE (h : DO mg W te e) : DE mg W te e := fun B S H σ δ Q I p => h B S H σ δ Q I (Pst.mono p fun r δ' S' H' I' G' q v ro => q v ro.r)
theorem ds_asgV {i : Nat} (he : DE mg W te e) : DS mg W (tAsg te (gName i)) (sAsgV i e) := ds_asg (DO.toE he.o)
/-- a list of one's own becomes shared (nothing happens) -/
def frzS (i : Nat) : Env → Env := fun δ => match δ[i]? with
  | some (.own ds) => δ.set i (.val (.list ds))
  | some (.ownD kvs) => δ.set i (.val (dictD kvs))
  | _ => δ
theorem J.frz (I : J B S H σ δ) (i : Nat) : ∃ S', J B S' H σ (frzS i δ) ∧ Gx S H S' H := by
  have go : ∀ (s : Sl) (d : D) (a : Addr), δ[i]? = some s → s.isOwn = true → (∀ ds, s ≠ .prm ds) → σ[i]? = some (some (.ref a)) → H a ≠ none → ¬ S a → (Rep (addS S a) H (.ref a) d) → J B (addS S a) H σ (δ.set i (.val d)) := fun s d a es os np eσ hH nS rp => by
    obtain ⟨h0, _⟩ := (I.ownN i a s eσ es os).resolve_right fun ⟨_, ds, z⟩ => np ds z
    have nio : ¬ B.io a := fun z => by
      obtain ⟨j, hj⟩ := z
      exact absurd h0 (I.parH j a hj)
    -- the slot is given up, then the object is shared
    have I1 : J B S H σ (δ.set i .un) := {
      len := by simp [I.len]
      slot := fun j ov t h1 h2 => by
        rcases get_set h2 with ⟨_, q2⟩ | ⟨_, q2⟩
        · subst q2; trivial
        · exact I.slot j ov t h1 q2
      dis := fun j k b t u ne h1 h2 h3 h4 o1 o2 => by
        rcases get_set h3 with ⟨_, q3⟩ | ⟨_, q3⟩
        · subst q3; cases o1
        · rcases get_set h4 with ⟨_, q4⟩ | ⟨_, q4⟩
          · subst q4; cases o2
          · exact I.dis j k b t u ne h1 h2 q3 q4 o1 o2
      ownN := fun j b t h1 h2 o => by
        rcases get_set h2 with ⟨_, q2⟩ | ⟨_, q2⟩
        · subst q2; cases o
        · exact I.ownN j b t h1 q2 o
      old := I.old, sub := I.sub, new := I.new, ion := I.ion, iod := I.iod, dom := I.dom, parH := I.parH }
    have f1 : Fr B σ (δ.set i .un) a := ⟨h0, nio, fun j t h1 h2 => by
      rcases get_set h2 with ⟨_, q2⟩ | ⟨e2, q2⟩
      · subst q2; rfl
      · cases o : t.isOwn with
        | false => rfl
        | true => exact (I.dis j i a t s e2 h1 eσ q2 es o os).elim⟩
    have I2 := I1.add f1 hH
    have I3 := I2.set (i := i) (x := .ref a) (s := .val d) ⟨_, rfl, rp⟩ (fun _ z => by cases z) (fun z => by cases z)
    have e1 : σ.set i (some (.ref a)) = σ := by
      have hl := (List.getElem?_eq_some_iff.mp eσ)
      obtain ⟨hl, hv⟩ := hl
      rw [← hv]; exact List.set_getElem_self hl
    rw [e1, List.set_set] at I3
    exact I3
  unfold frzS
  cases es : δ[i]? with
  | none => exact ⟨S, I, Gx.refl S H⟩
  | some s =>
    have hl : i < σ.length := by rw [I.len]; exact (List.getElem?_eq_some_iff.mp es).1
    have eσ : σ[i]? = some σ[i] := List.getElem?_eq_getElem hl
    have sl := I.slot i _ s eσ es
    cases s with
    | own ds =>
      obtain ⟨a, vs, e, n, h, r⟩ := sl
      exact ⟨addS S a, go _ _ a es rfl (fun _ z => by cases z) (by rw [eσ, e]) (by rw [h]; simp) n (.lst (.inr rfl) h (r.gx Gx.add)), Gx.add⟩
    | ownD ds =>
      obtain ⟨a, vs, e, n, h, r⟩ := sl
      exact ⟨addS S a, go _ _ a es rfl (fun _ z => by cases z) (by rw [eσ, e]) (by rw [h]; simp) n (.dic (.inr rfl) (.inl h) (r.gx Gx.add) rfl), Gx.add⟩
    | _ => exact ⟨S, I, Gx.refl S H⟩
/-- give up slot i, then f -/
def sFrz (i : Nat) (f : SM) : SM := fun δ => f (frzS i δ)
theorem ds_frz {i : Nat} (hf : DS mg W ts f) : DS mg W ts (sFrz i f) := by
  intro B S H σ δ D I q
  obtain ⟨S', I', G⟩ := I.frz i
  exact hf B S' H σ (frzS i δ) D I' (PstS.gx q G)
end
end DW

set_option Elab.async false
set_option linter.all false
set_option maxRecDepth 100000
set_option maxHeartbeats 2000000
/-! DW: loops, errors, a def's promise by its body. -/
namespace DW
open PySem PySem.Spec PyProof.Rows L2
section
variable {mg : Str → Option Value} {W : WX} {ts us tb : TS} {te tl : TE} {tt : TT} {t : TA} {f g body : SM} {e : M Sl} {p : M Bool} {wi : TI} {gt : TG} {gs : TGs} {tgt : D → Env → Option Env} {tgts : List D → Env → Option Env} {src : M (List D)} {fs : M (List Sl)}
variable {B : Ba} {S S' S1 : Addr → Prop} {H H' H1 : Hp} {σ : L2.St} {δ : Env} {α : Type}
/-! ### targets -/
def gN (i : Nat) : D → Env → Option Env := fun d δ => some (δ.set i (.val d))
theorem dg_name {i : Nat} : DG (gName i) (gN i) := fun B S H σ δ x d Q I r q => q _ (I.set ⟨x, rfl, r⟩ (fun _ z => by cases z) (fun z => by cases z))
def DGs (g : TGs) (f : List D → Env → Option Env) : Prop := ∀ (B : Ba) (S : Addr → Prop) (H : Hp) (σ : L2.St) (δ : Env) (xs : List V) (ds : List D) (Q : L2.St → Hp → Prop), J B S H σ δ → Reps S H xs ds →
  (match f ds δ with
    | some δ' => ∀ σ', J B S H σ' δ' → Q σ' H
    | none => False) → g xs σ H Q
def gsNil : List D → Env → Option Env
  | [], δ => some δ
  | _, _ => none
def gsCons (f : D → Env → Option Env) (fs : List D → Env → Option Env) : List D → Env → Option Env
  | d :: ds, δ => (f d δ).bind fun δ' => fs ds δ'
  | [], _ => none
theorem dgs_nil : DGs gNil gsNil := fun B S H σ δ xs ds Q I r q => by
  cases r with
  | nil => exact ⟨rfl, q σ I⟩
  | cons _ _ => exact q.elim
theorem dgs_cons (h1 : DG gt tgt) (h2 : DGs gs tgts) : DGs (gCons gt gs) (gsCons tgt tgts) := fun B S H σ δ xs ds Q I r q => by
  cases r with
  | nil => exact q.elim
  | cons h tl =>
    refine ⟨_, _, rfl, h1 B S H σ δ _ _ _ I h ?_⟩
    simp only [gsCons] at q
    cases e : tgt _ δ with
    | some δ1 => simp only [e, Option.bind_some] at q; exact fun σ' I' => h2 B S H σ' δ1 _ _ _ I' tl q
    | none => simp only [e, Option.bind_none] at q
def gT (n : Nat) (fs : List D → Env → Option Env) : D → Env → Option Env
  | .tuple ds, δ => bif ds.length == n then fs ds δ else none
  | _, _ => none
theorem dg_tup {K : PySem.W.Frag} {n : Nat} (h : DGs gs tgts) : DG (gTup K n gs) (gT n tgts) := fun B S H σ δ x d Q I r q => by
  cases d with
  | tuple ds =>
    cases r with
    | tup h0 h1 h2 =>
      cases en : ds.length == n with
      | false => simp only [gT, en] at q; exact q.elim
      | true =>
        simp only [gT, en] at q
        exact ⟨_, _, rfl, SqT.of h1, by rw [h2.len]; exact beq_iff_eq.mp en, h B S H σ δ _ _ _ I h2 q⟩
    | dic _ _ _ e => cases e
  | _ => exact q.elim
def sAsgT (e : M Sl) (tgt : D → Env → Option Env) : SM := M.bind (opnd e) fun r => M.bind (rdM r) fun d => fun δ => match tgt d δ with
  | some δ' => .ok .nx δ'
  | none => .bad
/-- a, b = e -/
theorem ds_asgT {n : Nat} {K : PySem.W.Frag} (he : DE mg W te e) (hg : DGs gs tgts) : DS mg W (tAsg te (gTup K n gs)) (sAsgT e (gT n tgts)) := by
  intro B S H σ δ Ds I q
  refine he.o B S H σ δ _ I (Pst.mono (PstS.split q) fun r δ1 S1 H1 I1 G1 q v ro => ?_)
  have q' : Pst mg W B S1 H1 σ (rdM r δ1) (fun a δ1 S1 H1 => PstS mg W B S1 H1 (match gT n tgts a δ1 with | some δ' => .ok .nx δ' | none => .bad) Ds) := PstS.split q
  unfold rdM at q'
  cases er : rd δ1 r with
  | none => rw [er] at q'; exact q'.elim
  | some d =>
    rw [er] at q'
    have q2 := q' S1 H1 I1 (Gx.refl S1 H1)
    dsimp only at q2
    have r1 := ro.rd I1 er
    cases et : gT n tgts d δ1 with
    | none => rw [et] at q2; exact q2.elim
    | some δ2 =>
      rw [et] at q2
      have rr : Rep S1 H1 v d := by
        rcases r1 with z | ⟨a, vs, es, _, e2, _⟩ | ⟨a, vs, es, _, e2, _⟩
        · exact z
        · subst e2; cases et
        · subst e2; cases et
      refine dg_tup hg B S1 H1 σ δ1 v d Ds.nx I1 rr ?_
      rw [et]
      exact fun σ' I' => q2 S1 H1 σ' I' (Gx.refl S1 H1)

/-! ### for -/
def kLoop (again : SM) : Out → SM
  | .nx => again
  | .ct => again
  | .bk => M.ret .nx
  | .rt r => M.ret (.rt r)
def forL (tgt : D → Env → Option Env) (body : SM) : List D → SM
  | [], δ => .ok .nx δ
  | d :: ds, δ => match tgt d δ with
    | some δ1 => M.bind body (kLoop (forL tgt body ds)) δ1
    | none => .bad
def sFor (src : M (List D)) (tgt : D → Env → Option Env) (body : SM) : SM := M.bind src (forL tgt body)
/-- behind the body -/
theorem kLoop_post {again : SM} {N : L2.St → Hp → Prop} {Ds : Ends} (q : PstS mg W B S H (M.bind body (kLoop again) δ) Ds)
    (h : ∀ S' H' σ' δ', J B S' H' σ' δ' → Gx S H S' H' → PstS mg W B S' H' (again δ') Ds → N σ' H') : PstS mg W B S H (body δ) { Ds with nx := N, ct := N, bk := Ds.nx } := by
  unfold M.bind at q
  generalize body δ = o at q
  cases o with
  | ok a δ4 =>
    cases a with
    | nx => exact fun S4 H4 σ4 j x => h S4 H4 σ4 δ4 j x (PstS.gx q x)
    | ct => exact fun S4 H4 σ4 j x => h S4 H4 σ4 δ4 j x (PstS.gx q x)
    | bk => exact q
    | rt r => exact q
  | ex e' δ4 => exact q
  | bad => exact q
/-- .. at one state -/
def DIs (mg : Str → Option Value) (W : WX) (B : Ba) (S : Addr → Prop) (H : Hp) (σ : L2.St) (δ : Env) (wi : TI) (f : M (List D)) : Prop := ∀ (R : It → Hp → Prop), J B S H σ δ → Pst mg W B S H σ (f δ) (fun ds δ' S' H' => ∀ I, ItOk I S' H' ds → R I H') → wi σ H R
def DEs (mg : Str → Option Value) (W : WX) (B : Ba) (S : Addr → Prop) (H : Hp) (σ : L2.St) (δ : Env) (te : TE) (f : M Sl) : Prop := ∀ (Q : VK), J B S H σ δ → Pst mg W B S H σ (f δ) (fun r δ' S' H' => ∀ v, RepR B S' H' σ δ' v r → Q v H') → te σ H Q
def DSs (mg : Str → Option Value) (W : WX) (B : Ba) (S : Addr → Prop) (H : Hp) (σ : L2.St) (δ : Env) (ts : TS) (f : SM) : Prop := ∀ (D : Ends), J B S H σ δ → PstS mg W B S H (f δ) D → ts D σ H
theorem ds_fors (hi : DIs mg W B S H σ δ wi src) (hg : DG gt tgt) (hb : DS mg W tb body) : DSs mg W B S H σ δ (tFor wi gt tb) (sFor src tgt body) := by
  intro Ds I q
  refine hi _ I (Pst.mono (PstS.split q) fun ds δ1 S1 H1 I1 G1 q It ok => ?_)
  refine ⟨fun i m σ' H' => ∃ S' δ', J B S' H' σ' δ' ∧ Gx S1 H1 S' H' ∧ m = ds.length - i ∧ PstS mg W B S' H' (forL tgt body (ds.drop i) δ') Ds, ⟨_, S1, δ1, I1, Gx.refl S1 H1, rfl, q⟩, ?_⟩
  rintro i m σ' H' ⟨S', δ', I', G', rfl, q'⟩
  obtain ⟨hstop, hgo⟩ := ok i S' H' G' I'.dom
  by_cases hlt : i < ds.length
  · have ed : ds[i]? = some ds[i] := List.getElem?_eq_getElem hlt
    obtain ⟨go, yl⟩ := hgo _ ed
    rw [List.drop_eq_getElem_cons hlt] at q'
    refine .inr ⟨go, fun σ2 H2 => ∃ S' δ', J B S' H2 σ2 δ' ∧ Gx S1 H1 S' H2 ∧ PstS mg W B S' H2 (forL tgt body (ds.drop (i + 1)) δ') Ds, fun σ2 H2 ⟨S2, δ2, a, b, c⟩ => ⟨ds.length - (i + 1), by omega, S2, δ2, a, b, rfl, c⟩, fun x H2 y => ?_⟩
    obtain ⟨S2, g2, r2⟩ := yl x H2 y
    have I2 := I'.gr g2
    have q2 := PstS.gx q' g2.gx
    unfold forL at q2
    refine hg B S2 H2 σ' δ' x _ _ I2 r2 ?_
    cases et : tgt ds[i] δ' with
    | some δ3 =>
      rw [et] at q2
      exact fun σ3 I3 => hb B S2 H2 σ3 δ3 _ I3 (kLoop_post q2 fun S4 H4 σ4 δ4 j x q4 => ⟨S4, δ4, j, (G'.trans g2.gx).trans x, q4⟩)
    | none => rw [et] at q2; exact q2
  · rw [List.drop_eq_nil_of_le (by omega)] at q'
    exact .inl ⟨hstop (by omega), q' S' H' σ' I' (Gx.refl S' H')⟩

theorem ds_for (hi : DI mg W wi src) (hg : DG gt tgt) (hb : DS mg W tb body) : DS mg W (tFor wi gt tb) (sFor src tgt body) := fun B S H σ δ Ds I q => ds_fors (fun R I p => hi B S H σ δ R I p) hg hb Ds I q
/-! ### while -/
def whileL (p : M Bool) (body : SM) : Nat → SM
  | 0 => fun _ => .bad
  | n + 1 => M.bind p fun b => bif b then M.bind body (kLoop (whileL p body n)) else M.ret .nx
/-- more turns than any loop of ours takes -/
def fuel : Nat := 1000000000000
def sWhile (p : M Bool) (body : SM) : SM := whileL p body fuel
theorem ds_while (hp : DT mg W tt p) (hb : DS mg W tb body) : DS mg W (tWhile tt tb) (sWhile p body) := by
  intro B S H σ δ Ds I q
  refine ⟨fun m σ' H' => ∃ S' δ', J B S' H' σ' δ' ∧ Gx S H S' H' ∧ PstS mg W B S' H' (whileL p body m δ') Ds, ⟨fuel, S, δ, I, Gx.refl S H, q⟩, ?_⟩
  rintro m σ' H' ⟨S', δ', I', G', q'⟩
  cases m with
  | zero => exact q'.elim
  | succ m =>
    refine hp B S' H' σ' δ' _ I' (Pst.mono (PstS.split q') fun b δ1 S1 H1 I1 G1 q1 => ?_)
    cases b with
    | true => exact ⟨_, fun σ2 H2 h => ⟨m, Nat.lt_succ_self m, h⟩, hb B S1 H1 σ' δ1 _ I1 (kLoop_post q1 fun S4 H4 σ4 δ4 j x q4 => ⟨S4, δ4, j, (G'.trans G1).trans x, q4⟩)⟩
    | false => exact q1 S1 H1 σ' I1 (Gx.refl S1 H1)

/-! ### what is walked -/
def seqD : D → Option (List D)
  | .list ds => some ds
  | _ => none
theorem Rep.list {x : V} {ds : List D} (h : Rep S H x (.list ds)) : ∃ a vs, x = .ref a ∧ S a ∧ H a = some (.lst vs) ∧ Reps S H vs ds := by
  cases h with
  | lst h0 h1 h2 => exact ⟨_, _, rfl, h0, h1, h2⟩
  | dic _ _ _ e => cases e
theorem Rep.tup' {x : V} {ds : List D} (h : Rep S H x (.tuple ds)) : ∃ a vs, x = .ref a ∧ S a ∧ H a = some (.tup vs) ∧ Reps S H vs ds := by
  cases h with
  | tup h0 h1 h2 => exact ⟨_, _, rfl, h0, h1, h2⟩
  | dic _ _ _ e => cases e
/-- over a shared list -/
def iLst (e : M Sl) : M (List D) := M.bind (opnd e) fun r => match r with
  | .val (.list ds) => M.ret ds
  | _ => fun _ => .bad
def iTpl (e : M Sl) : M (List D) := M.bind (opnd e) fun r => match r with
  | .val (.tuple ds) => M.ret ds
  | _ => fun _ => .bad
theorem di_list {K : PySem.W.Frag} (he : DE mg W te e) : DI mg W (iList K te) (iLst e) := by
  intro B S H σ δ R I q
  refine he.o B S H σ δ _ I (Pst.mono (Pst.split q) fun r δ1 S1 H1 I1 G1 q v ro => ?_)
  cases r with
  | val d =>
    cases d with
    | list ds =>
      obtain ⟨a, vs, rfl, h0, h1, h2⟩ := Rep.list (show Rep S1 H1 v (.list ds) from ro)
      refine ⟨a, rfl, ⟨vs, SqL.of h1⟩, q S1 H1 I1 (Gx.refl S1 H1) _ fun i S2 H2 g dm => ⟨fun hl => ⟨vs, SqL.of (g.keep _ _ h0 h1), by rw [h2.len]; exact hl⟩, fun d ed => ?_⟩⟩
      obtain ⟨w, ew, rw'⟩ := h2.get ed
      refine ⟨⟨vs, w, SqL.of (g.keep _ _ h0 h1), ew⟩, fun x H' y => ?_⟩
      obtain ⟨e1, e2⟩ := y
      subst e1
      have e3 := e2 vs (SqL.of (g.keep _ _ h0 h1))
      rw [ew] at e3
      cases e3
      exact ⟨S2, Gr.refl dm, rw'.gx g⟩
    | _ => exact q.elim
  | _ => exact q.elim
theorem di_tup {K : PySem.W.Frag} (he : DE mg W te e) : DI mg W (iTup K te) (iTpl e) := by
  intro B S H σ δ R I q
  refine he.o B S H σ δ _ I (Pst.mono (Pst.split q) fun r δ1 S1 H1 I1 G1 q v ro => ?_)
  cases r with
  | val d =>
    cases d with
    | tuple ds =>
      obtain ⟨a, vs, rfl, h0, h1, h2⟩ := Rep.tup' (show Rep S1 H1 v (.tuple ds) from ro)
      refine ⟨a, rfl, ⟨vs, SqT.of h1⟩, q S1 H1 I1 (Gx.refl S1 H1) _ fun i S2 H2 g dm => ⟨fun hl => ⟨vs, SqT.of (g.keep _ _ h0 h1), by rw [h2.len]; exact hl⟩, fun d ed => ?_⟩⟩
      obtain ⟨w, ew, rw'⟩ := h2.get ed
      refine ⟨⟨vs, w, SqT.of (g.keep _ _ h0 h1), ew⟩, fun x H' y => ?_⟩
      obtain ⟨e1, e2⟩ := y
      subst e1
      have e3 := e2 vs (SqT.of (g.keep _ _ h0 h1))
      rw [ew] at e3
      cases e3
      exact ⟨S2, Gr.refl dm, rw'.gx g⟩
    | _ => exact q.elim
  | _ => exact q.elim
/-- lo, lo + 1, .. -/
def rangeD (lo hi : Int) : List D := (List.range (hi - lo).toNat).map fun i => .int (lo + (i : Nat))
theorem it_range {lo : Int} {n : Nat} : ItOk (Itr lo n) S H ((List.range n).map fun i => PyData.int (lo + (i : Nat))) := fun i S2 H2 g dm => by
  refine ⟨fun hl => (show n ≤ i by simpa using hl), fun d ed => ?_⟩
  rw [List.getElem?_map] at ed
  cases er : (List.range n)[i]? with
  | none => rw [er] at ed; cases ed
  | some k =>
    rw [er] at ed
    cases ed
    obtain ⟨hl, ek⟩ := List.getElem?_eq_some_iff.mp er
    rw [List.getElem_range] at ek
    subst ek
    refine ⟨(show i < n by simpa using hl), fun x H' y => ?_⟩
    obtain ⟨e1, e2⟩ := y
    subst e1; subst e2
    exact ⟨S2, Gr.refl dm, .int _⟩
def small62 (i : Int) : Bool := decide (-(2 ^ 62) ≤ i) && decide (i < 2 ^ 62)
def iRg (fs : M (List Sl)) : M (List D) := M.bind fs fun rs => M.bind (rdsM rs) fun ds => match ds with
  | [.int j] => bif small62 j then M.ret (rangeD 0 j) else fun _ => .bad
  | _ => fun _ => .bad
def iRg2 (fs : M (List Sl)) : M (List D) := M.bind fs fun rs => M.bind (rdsM rs) fun ds => match ds with
  | [.int i, .int j] => bif small62 i && small62 j then M.ret (rangeD i j) else fun _ => .bad
  | _ => fun _ => .bad
theorem Pst.rds {rs : List Sl} {β : Type} {k : List D → M β} {kk : β → Env → (Addr → Prop) → Hp → Prop} {vs : List V} (I : J B S H σ δ) (ro : RepOs S H σ vs rs) (q : Pst mg W B S H σ (M.bind (rdsM rs) k δ) kk) :
    ∃ ds, Rep1s S H vs ds ∧ Pst mg W B S H σ (k ds δ) kk := by
  unfold M.bind rdsM at q
  cases e : DW.rds δ rs with
  | none => rw [e] at q; exact q.elim
  | some d => rw [e] at q; exact ⟨d, ro.rds I e, q⟩
theorem di_range1 (ha : DA mg W t fs) : DI mg W (iRng1 t) (iRg fs) := by
  intro B S H σ δ R I q
  refine ha B S H σ δ _ I (Pst.mono (Pst.split q) fun rs δ1 S1 H1 I1 G1 q vs rv => ?_)
  obtain ⟨ds, r1, q2⟩ := Pst.rds I1 rv q
  match ds, r1, q2 with
  | [.int j], r1, q2 =>
    obtain ⟨v, rfl, r⟩ := r1.one
    have e := r.int
    subst e
    cases hs : small62 j with
    | false => simp only [hs] at q2; exact q2.elim
    | true =>
      simp only [hs] at q2
      have hc := (Bool.and_eq_true _ _ ▸ hs : _ ∧ _)
      refine ⟨j, rfl, of_decide_eq_true hc.1, of_decide_eq_true hc.2, ?_⟩
      have z := q2 S1 H1 I1 (Gx.refl S1 H1) (Itr 0 j.toNat)
      refine z ?_
      unfold rangeD
      rw [Int.sub_zero]
      exact it_range
  | [], r1, q2 => exact q2.elim
  | .none :: _, r1, q2 => exact q2.elim
  | .bool _ :: _, r1, q2 => exact q2.elim
  | .str _ :: _, r1, q2 => exact q2.elim
  | .list _ :: _, r1, q2 => exact q2.elim
  | .tuple _ :: _, r1, q2 => exact q2.elim
  | .dict _ :: _, r1, q2 => exact q2.elim
  | .int _ :: _ :: _, r1, q2 => exact q2.elim
theorem di_range2 (ha : DA mg W t fs) : DI mg W (iRng2 t) (iRg2 fs) := by
  intro B S H σ δ R I q
  refine ha B S H σ δ _ I (Pst.mono (Pst.split q) fun rs δ1 S1 H1 I1 G1 q vs rv => ?_)
  obtain ⟨ds, r1, q2⟩ := Pst.rds I1 rv q
  by_cases h : ∃ i j, ds = [.int i, .int j]
  · obtain ⟨i, j, rfl⟩ := h
    obtain ⟨v, w, rfl, r, r'⟩ := r1.two
    have e := r.int
    have e' := r'.int
    subst e; subst e'
    cases hs : small62 i && small62 j with
    | false => simp only [hs] at q2; exact q2.elim
    | true =>
      simp only [hs] at q2
      have hc := (Bool.and_eq_true _ _ ▸ hs : _ ∧ _)
      have h1 := (Bool.and_eq_true _ _ ▸ hc.1 : _ ∧ _)
      have h2 := (Bool.and_eq_true _ _ ▸ hc.2 : _ ∧ _)
      exact ⟨i, j, rfl, ⟨of_decide_eq_true h1.1, of_decide_eq_true h1.2, of_decide_eq_true h2.1, of_decide_eq_true h2.2⟩, q2 S1 H1 I1 (Gx.refl S1 H1) _ it_range⟩
  · exfalso
    revert q2
    match ds with
    | [.int i, .int j] => exact absurd ⟨i, j, rfl⟩ h
    | [] => exact id
    | .none :: _ => exact id
    | .bool _ :: _ => exact id
    | .str _ :: _ => exact id
    | .list _ :: _ => exact id
    | .tuple _ :: _ => exact id
    | .dict _ :: _ => exact id
    | [.int _] => exact id
    | .int _ :: .none :: _ => exact id
    | .int _ :: .bool _ :: _ => exact id
    | .int _ :: .str _ :: _ => exact id
    | .int _ :: .list _ :: _ => exact id
    | .int _ :: .tuple _ :: _ => exact id
    | .int _ :: .dict _ :: _ => exact id
    | .int _ :: .int _ :: _ :: _ => exact id
end
end DW

set_option Elab.async false
set_option linter.all false
set_option maxRecDepth 100000
set_option maxHeartbeats 2000000
/-! DW: a def's promise by its body. -/
namespace DW
open PySem PySem.Spec PyProof.Rows L2

def env0 (n : Nat) (sd : Option (List D)) (ds : List D) : Env :=
  match sd with
  | some s => .prm s :: (ds.map Sl.val ++ List.replicate (n - (ds.length + 1)) .un)
  | none => ds.map Sl.val ++ List.replicate (n - ds.length) .un
def outS : Option (List D) → Env → Option (Option (List D))
  | none, _ => some none
  | some _, .prm x :: _ => some (some x)
  | some _, _ => none
def retV (δ : Env) : Sl → Option Sl
  | .val d => some (.val d)
  | .own ds => some (.own ds)
  | .ownD kvs => some (.ownD kvs)
  | .bor i => match δ[i]? with
    | some (.own ds) => some (.own ds)
    | some (.ownD kvs) => some (.ownD kvs)
    | _ => none
  | _ => none
def finF (sd : Option (List D)) (δ : Env) (r : Sl) : FR := match outS sd δ, retV δ r with
  | some o, some r' => .ok r' o
  | _, _ => .bad
def fnOf (n : Nat) (body : SM) : Fn := fun sd ds => match body (env0 n sd ds) with
  | .ok .nx δ' => finF sd δ' (.val .none)
  | .ok (.rt r) δ' => finF sd δ' r
  | .ok _ _ => .bad
  | .ex e δ' => match outS sd δ' with
    | some o => .ex e o
    | none => .bad
  | .bad => .bad
section
variable {mg : Str → Option Value} {S S' : Addr → Prop} {H H' : Hp} {σ : L2.St} {δ : Env}
def baOf (S : Addr → Prop) (H : Hp) (a : Option Addr) : Ba := ⟨H, S, fun i => if i = 0 then a else none⟩
theorem io_of {a : Option Addr} {b : Addr} (h : (baOf S H a).io b) : a = some b := by
  obtain ⟨i, hi⟩ := h
  have hi : (if i = 0 then a else none) = some b := hi
  by_cases e : i = 0
  · rw [if_pos e] at hi; exact hi
  · rw [if_neg e] at hi; cases hi
theorem get_start {N : List Str} {vs : List V} {i : Nat} {ov : Option V} (h : (L2.start N vs)[i]? = some ov) : (i < vs.length ∧ ∃ v, vs[i]? = some v ∧ ov = some v) ∨ (vs.length ≤ i ∧ ov = none) := by
  unfold L2.start at h
  by_cases hi : i < vs.length
  · rw [List.getElem?_append_left (by simpa using hi), List.getElem?_map] at h
    cases e : vs[i]? with
    | none => rw [e] at h; cases h
    | some v => rw [e] at h; cases h; exact .inl ⟨hi, v, rfl, rfl⟩
  · rw [List.getElem?_append_right (by simpa using hi)] at h
    rw [List.getElem?_replicate] at h
    split at h <;> cases h
    exact .inr ⟨by omega, rfl⟩
theorem get_vals {ds : List D} {m i : Nat} {s : Sl} (h : (ds.map Sl.val ++ List.replicate m Sl.un)[i]? = some s) : (∃ d, ds[i]? = some d ∧ s = .val d) ∨ s = .un := by
  by_cases hi : i < ds.length
  · rw [List.getElem?_append_left (by simpa using hi), List.getElem?_map] at h
    cases e : ds[i]? with
    | none => rw [e] at h; cases h
    | some v => rw [e] at h; cases h; exact .inl ⟨v, rfl, rfl⟩
  · rw [List.getElem?_append_right (by simpa using hi)] at h
    rw [List.getElem?_replicate] at h
    split at h <;> cases h
    exact .inr rfl
theorem J.start {N : List Str} {vs : List V} {a : Option Addr} {sd : Option (List D)} {ds : List D} (hN : vs.length ≤ N.length) (dm : ∀ b, S b → H b ≠ none) (A : ArgsOk S H vs a sd ds) : J (baOf S H a) S H (L2.start N vs) (env0 N.length sd ds) := by
  cases A with
  | pure r =>
    have hl := r.len
    refine ⟨by unfold L2.start env0; simp [hl], fun i ov s h1 h2 => ?_, fun i j b s t ne h1 h2 h3 h4 o1 o2 => ?_, fun i b s h1 h2 o => ?_, fun b o e n => e, fun b h => h, fun b h => .inl h, fun b h => ?_, fun b h => ?_, dm, fun j b h => ?_⟩
    · rcases get_vals h2 with ⟨d, e, rfl⟩ | rfl
      · obtain ⟨v, ev, rv⟩ := r.get e
        rcases get_start h1 with ⟨_, w, ew, rfl⟩ | ⟨hlt, _⟩
        · rw [ev] at ew; cases ew; exact ⟨v, rfl, rv⟩
        · have := (List.getElem?_eq_some_iff.mp ev).1; omega
      · trivial
    · rcases get_vals h3 with ⟨d, e, rfl⟩ | rfl <;> cases o1
    · rcases get_vals h2 with ⟨d, e, rfl⟩ | rfl <;> cases o
    · cases io_of h
    · cases io_of h
    · have := io_of ⟨j, h⟩; cases this
  | prm nS ha rs r =>
    rename_i ad sv vs sd
    have hl := r.len
    have h0 : ∀ {i : Nat} {s : Sl}, (env0 N.length (some sd) ds)[i]? = some s → (i = 0 ∧ s = .prm sd) ∨ ∃ j, i = j + 1 ∧ ((∃ d, ds[j]? = some d ∧ s = .val d) ∨ s = .un) := fun {i s} h => by
      cases i with
      | zero => cases h; exact .inl ⟨rfl, rfl⟩
      | succ j => exact .inr ⟨j, rfl, get_vals (by simpa [env0] using h)⟩
    have s0 : ∀ {ov : Option V}, (L2.start N (.ref ad :: vs))[0]? = some ov → ov = some (.ref ad) := fun {ov} h => by
      rcases get_start h with ⟨_, w, ew, rfl⟩ | ⟨hlt, _⟩
      · cases ew; rfl
      · simp at hlt
    refine ⟨by unfold L2.start env0; simp at hN ⊢; omega, fun i ov s h1 h2 => ?_, fun i j b s t ne h1 h2 h3 h4 o1 o2 => ?_, fun i b s h1 h2 o => ?_, fun b o e n => e, fun b h => h, fun b h => .inl h, fun b h => ?_, fun b h => ?_, dm, fun j b h => ?_⟩
    · rcases h0 h2 with ⟨rfl, rfl⟩ | ⟨j, rfl, ⟨d, e, rfl⟩ | rfl⟩
      · exact ⟨ad, sv, s0 h1, nS, ha, rs⟩
      · obtain ⟨v, ev, rv⟩ := r.get e
        rcases get_start h1 with ⟨_, w, ew, rfl⟩ | ⟨hlt, _⟩
        · have ew : vs[j]? = some w := ew
          rw [ev] at ew; cases ew; exact ⟨v, rfl, rv⟩
        · have h3 := (List.getElem?_eq_some_iff.mp ev).1
          simp only [List.length_cons] at hlt
          omega
      · trivial
    · rcases h0 h3 with ⟨rfl, rfl⟩ | ⟨k, rfl, ⟨d, e, rfl⟩ | rfl⟩
      · rcases h0 h4 with ⟨rfl, rfl⟩ | ⟨k, rfl, ⟨d, e, rfl⟩ | rfl⟩
        · exact ne rfl
        · cases o2
        · cases o2
      · cases o1
      · cases o1
    · rcases h0 h2 with ⟨rfl, rfl⟩ | ⟨k, rfl, ⟨d, e, rfl⟩ | rfl⟩
      · have := s0 h1
        cases this
        exact .inr ⟨rfl, sd, rfl⟩
      · cases o
      · cases o
    · have e := io_of h; cases e; exact nS
    · have e := io_of h; cases e; rw [ha]; simp
    · have e := io_of ⟨j, h⟩; cases e; show H ad ≠ none; rw [ha]; simp
theorem J.after {a : Option Addr} {sd : Option (List D)} {o : Option (List D)} (I : J (baOf S H a) S' H' σ δ) (hs : sd.isSome = a.isSome) (ho : outS sd δ = some o) : After S H a o S' H' where
  sub := I.sub
  new := I.new
  keep := fun b u e n => I.old b u e fun z => n (io_of z)
  out := by
    cases sd with
    | none =>
      cases ho
      cases a with
      | none => trivial
      | some _ => cases hs
    | some x =>
      cases a with
      | none => cases hs
      | some ad =>
        cases δ with
        | nil => cases ho
        | cons s r =>
          cases s with
          | prm y =>
            cases ho
            have hl : 0 < σ.length := by rw [I.len]; simp
            have eσ : σ[0]? = some σ[0] := List.getElem?_eq_getElem hl
            obtain ⟨b, vs, eb, n, h, r⟩ := I.slot 0 _ _ eσ rfl
            rcases I.ownN 0 b _ (by rw [eσ, eb]) rfl rfl with ⟨_, z⟩ | ⟨z, _⟩
            · exact absurd rfl (z y)
            · have z : some ad = some b := z
              cases z
              exact ⟨vs, n, h, r⟩
          | _ => cases ho
  dom := I.dom
theorem J.ret {a : Option Addr} {v : V} {r r' : Sl} (I : J (baOf S H a) S' H' σ δ) (rr : RepR (baOf S H a) S' H' σ δ v r) (e : retV δ r = some r') : RepN H S' H' v r' := by
  cases r with
  | val d => cases e; exact rr
  | own ds => cases e; obtain ⟨b, vs, eb, f, n, h, q⟩ := rr; exact ⟨b, vs, eb, f.1, n, h, q⟩
  | ownD ds => cases e; obtain ⟨b, vs, eb, f, n, h, q⟩ := rr; exact ⟨b, vs, eb, f.1, n, h, q⟩
  | bor i =>
    have rr : σ[i]? = some (some v) := rr
    unfold retV at e
    cases es : δ[i]? with
    | none => simp [es] at e
    | some s =>
      simp only [es] at e
      cases s with
      | own ds =>
        cases e
        obtain ⟨b, vs, eb, n, h, q⟩ := I.slot i _ _ rr es
        cases eb
        rcases I.ownN i b _ rr es rfl with ⟨z, _⟩ | ⟨_, x, z⟩
        · exact ⟨b, vs, rfl, z, n, h, q⟩
        · cases z
      | ownD ds =>
        cases e
        obtain ⟨b, vs, eb, n, h, q⟩ := I.slot i _ _ rr es
        cases eb
        rcases I.ownN i b _ rr es rfl with ⟨z, _⟩ | ⟨_, x, z⟩
        · exact ⟨b, vs, rfl, z, n, h, q⟩
        · cases z
      | _ => cases e
  | un => cases e
  | prm _ => cases e
end
section
variable {P : Program} {w : World} {K : PySem.W.Frag} {mg : Str → Option Value} {base : Heap}
theorem fn_ok {x qual : Str} {st : Stmt} {f : Addr} {fd : FuncData} {N ps : List Str} {k : Nat} {body : SM} (F : Fun K x qual st f fd) (S : FnScope N ps (defScope st))
    (hb : ∀ (cdv : Value) (A : Around) (outer : List PySem.Env) (s : Shared) (H : Hp) (E : XK), Room k (A.deeper (envOfC qual (defScope st) s.heap.objs.size f cdv)) →
      ∃ ts, PSs (cxOf (L2.CX P w) P w K mg base N qual (defScope st) f cdv A outer s H E) (defBody st) ts ∧ DS mg (fun c d _ H => E c d H) ts body) :
    FnOk P w K mg base (L2.CX P w) (k + 1) f fd ps (spD mg ps.length (fnOf N.length body)) := by
  refine F.okX S (fun vs H Q E h => h.elim fun _ h => h.elim fun _ h => h.elim fun _ h => h.elim fun _ h => h.1) (fun cdv A outer s H vs Q E hr h => ?_)
  obtain ⟨Sh, a, sd, ds, hn, dm, ar, post⟩ := h
  obtain ⟨ts, hps, hds⟩ := hb cdv A outer s H E hr
  refine ⟨ts, hps, ?_⟩
  have hpl : ps.length ≤ N.length := by have := congrArg List.length S.pre; rw [List.length_take] at this; omega
  have I := J.start (N := N) (by rw [hn]; exact hpl) dm ar
  have hs : sd.isSome = a.isSome := by cases ar <;> rfl
  refine hds (baOf Sh H a) Sh H _ _ _ I ?_
  unfold fnOf at post
  cases eb : body (env0 N.length sd ds) with
  | bad => rw [eb] at post; exact post.elim
  | ex e δ' =>
    rw [eb] at post
    simp only at post
    cases eo : outS sd δ' with
    | none => rw [eo] at post; exact post.elim
    | some o => rw [eo] at post; exact fun S' H' σ' c d I' g x => post S' H' c d (I'.after hs eo) x
  | ok o δ' =>
    rw [eb] at post
    have fin : ∀ r, FPost mg Sh H a Q E (finF sd δ' r) → ∀ S' H' σ' v, J (baOf Sh H a) S' H' σ' δ' → RepR (baOf Sh H a) S' H' σ' δ' v r → Q v H' := fun r post S' H' σ' v I' rv => by
      unfold finF at post
      cases eo : outS sd δ' with
      | none => rw [eo] at post; exact post.elim
      | some o =>
        cases er : retV δ' r with
        | none => rw [eo, er] at post; exact post.elim
        | some r' => rw [eo, er] at post; exact post S' H' v (I'.after hs eo) (I'.ret rv er)
    cases o with
    | nx => exact fun S' H' σ' I' g => fin _ post S' H' σ' _ I' .non
    | rt r => exact fun S' H' σ' v I' g rv => fin _ post S' H' σ' v I' rv
    | bk => exact post.elim
    | ct => exact post.elim
end
end DW

set_option Elab.async false
set_option linter.all false
set_option maxRecDepth 100000
set_option maxHeartbeats 2000000
/-! DW: lists changed in place, comprehensions. -/
namespace DW
open PySem PySem.Spec PyProof.Rows L2
section
variable {mg : Str → Option Value} {W : WX} {te to ti : TE} {t : TA} {e f idx : M Sl} {fs : M (List Sl)}
variable {B : Ba} {S S' S1 : Addr → Prop} {H H' H1 : Hp} {σ : L2.St} {δ : Env}

/-- the list in slot i is changed -/
theorem J.mut (I : J B S H σ δ) {i : Nat} {a : Addr} {ds sd : List D} {vs : List V} (hi : δ[i]? = some (.own sd) ∨ δ[i]? = some (.prm sd)) (hσ : σ[i]? = some (some (.ref a))) (r : Reps S H vs ds) :
    J B S (upd H a (.lst vs)) σ (setC δ i ds) ∧ Gx S H S (upd H a (.lst vs)) := by
  have nS : ¬ S a := by
    rcases hi with h | h
    · obtain ⟨b, _, e, n, _⟩ := I.slot i _ _ hσ h; cases e; exact n
    · obtain ⟨b, _, e, n, _⟩ := I.slot i _ _ hσ h; cases e; exact n
  have g : Gx S H S (upd H a (.lst vs)) := ⟨fun _ h => h, fun b o hb e => by rw [upd_ne (show b ≠ a from fun z => nS (by rw [← z]; exact hb))]; exact e⟩
  refine ⟨I.back hi hσ ⟨fun _ h => h, fun _ h => .inl h, fun b u e n => ?_, ⟨vs, nS, upd_same, r.gx g⟩, fun b hb => ?_⟩, g⟩
  · rw [upd_ne (fun z => n (by rw [z]))]; exact e
  · rw [upd_ne (show b ≠ a from fun z => nS (by rw [← z]; exact hb))]; exact I.dom b hb
/-- the list that stands in slot i -/
def curL (δ : Env) (i : Nat) : Option (List D) := match δ[i]? with
  | some (.own ds) => some ds
  | some (.prm ds) => some ds
  | _ => none
theorem curL_at (I : J B S H σ δ) {i : Nat} {ds : List D} (h : curL δ i = some ds) : ∃ a vs, σ[i]? = some (some (.ref a)) ∧ (δ[i]? = some (.own ds) ∨ δ[i]? = some (.prm ds)) ∧ H a = some (.lst vs) ∧ Reps S H vs ds := by
  unfold curL at h
  cases es : δ[i]? with
  | none => simp [es] at h
  | some s =>
    have hl : i < σ.length := by rw [I.len]; exact (List.getElem?_eq_some_iff.mp es).1
    have eσ : σ[i]? = some σ[i] := List.getElem?_eq_getElem hl
    have sl := I.slot i _ s eσ es
    simp only [es] at h
    cases s with
    | own x => cases h; obtain ⟨a, vs, e, n, h1, r⟩ := sl; exact ⟨a, vs, by rw [eσ, e], .inl rfl, h1, r⟩
    | prm x => cases h; obtain ⟨a, vs, e, n, h1, r⟩ := sl; exact ⟨a, vs, by rw [eσ, e], .inr rfl, h1, r⟩
    | _ => cases h
/-- a method that changes the list in slot i: the arguments' data, the list ahead -> what is handed back, the list behind -/
def mMut (i : Nat) (op : List D → List D → Option (Option D × List D)) (fs : M (List Sl)) : M Sl := fun δ => match curL δ i with
  | none => .bad
  | some _ => M.bind fs (fun rs => M.bind (optM (valsD rs)) fun as => fun δ => match curL δ i with
    | none => .bad
    | some ds => match op as ds with
      | some (r, ds') => .ok (.val (r.getD .none)) (setC δ i ds')
      | none => .bad) δ
/-- the rule's side: what the method's reading asks -/
def MutOk (K : PySem.W.Frag) (r : V → List V → Hp → VK → Prop) (op : List D → List D → Option (Option D × List D)) : Prop := ∀ (S : Addr → Prop) (H : Hp) (a : Addr) (vs us : List V) (ds as : List D) (Q : VK) (o : Option D) (ds' : List D), (∀ b, S b → H b ≠ none) → H a = some (.lst vs) → Reps S H vs ds → Reps S H us as →
  op as ds = some (o, ds') → (∀ vs' v, Reps S H vs' ds' → Rep S H v (o.getD .none) → Q v (upd H a (.lst vs'))) → r (.ref a) us H Q
theorem de_mut {K : PySem.W.Frag} {r : V → List V → Hp → VK → Prop} {i : Nat} {op : List D → List D → Option (Option D × List D)} (ho : MutOk K r op) (ha : DA mg W t fs) : DE mg W (tBM K "list" r (tVar i) t) (mMut i op fs) := by
  intro B S H σ δ Q I p
  unfold mMut at p
  cases e0 : curL δ i with
  | none => simp only [e0] at p; exact p.elim
  | some d0 =>
    simp only [e0] at p
    obtain ⟨a, vs, hσ, _, h1, r1⟩ := curL_at I e0
    refine ⟨.ref a, hσ, .inl ⟨rfl, vs, SqL.of h1⟩, ?_⟩
    refine ha B S H σ δ _ I (Pst.mono (Pst.split p) fun rs δ1 S1 H1 I1 G1 p1 us rv => ?_)
    obtain ⟨as, ea, p2⟩ := Pst.optM p1
    cases e1 : curL δ1 i with
    | none => simp only [e1] at p2; exact p2.elim
    | some ds =>
      simp only [e1] at p2
      obtain ⟨a', ws, hσ', hi, h2, r2⟩ := curL_at I1 e1
      rw [hσ] at hσ'
      cases hσ'
      cases eo : op as ds with
      | none => simp only [eo] at p2; exact p2.elim
      | some z =>
        obtain ⟨o, ds'⟩ := z
        simp only [eo] at p2
        refine ho S1 H1 a ws us ds as Q o ds' I1.dom h2 r2 (valsD_rep rv ea) eo fun vs' v rr ro => ?_
        obtain ⟨I2, G2⟩ := I1.mut hi hσ rr
        exact p2 S1 _ I2 G2 v (ro.gx G2)
/-- .. without arguments -/
theorem de_mut0 {K : PySem.W.Frag} {r : V → List V → Hp → VK → Prop} {i : Nat} {op : List D → List D → Option (Option D × List D)} (ho : MutOk K r op) : DE mg W (tBM0 K "list" r (tVar i)) (mMut i op aNil) :=
  de_mut (K := K) (t := tNil) ho da_nil
def pAppend : List D → List D → Option (Option D × List D)
  | [d], ds => bif decide (ds.length < 16777216) then some (none, ds ++ [d]) else none
  | _, _ => none
theorem bif_eq {α : Type} {c : Bool} {a b : α} (h : (bif c then some a else none) = some b) : c = true ∧ a = b := bif_some h
theorem size_lt {n : Nat} (h : decide (n < 16777216) = true) : n < sizeLine := by rw [sizeLine_eq]; exact of_decide_eq_true h
theorem mo_append {K : PySem.W.Frag} : MutOk K rAppend pAppend := by
  intro S H a vs us ds as Q o ds' dm ha rv ru e q
  match as, ru, e with
  | [d], ru, e =>
    obtain ⟨hz, e2⟩ := bif_eq e
    cases e2
    cases ru with
    | cons h t => cases t; exact ⟨a, vs, _, rfl, rfl, ha, by rw [rv.len]; exact size_lt hz, q _ _ (rv.append (.cons h .nil)) .non⟩
  | [], ru, e => cases e
  | _ :: _ :: _, ru, e => cases e
def pExtend : List D → List D → Option (Option D × List D)
  | [.list es], ds => bif decide (ds.length + es.length ≤ 16777216) then some (none, ds ++ es) else none
  | _, _ => none
theorem mo_extend {K : PySem.W.Frag} : MutOk K rExtend pExtend := by
  intro S H a vs us ds as Q o ds' dm ha rv ru e q
  match as, ru, e with
  | [.list es], ru, e =>
    obtain ⟨hz, e2⟩ := bif_eq e
    cases e2
    cases ru with
    | cons h t =>
      cases t
      obtain ⟨b, ws, rfl, _, hb, rw'⟩ := Rep.list h
      exact ⟨a, b, vs, ws, rfl, rfl, ha, hb, by rw [rv.len, rw'.len]; exact size_of hz, q _ _ (rv.append rw') .non⟩
  | [], ru, e => cases e
  | [.none], ru, e => cases e
  | [.bool _], ru, e => cases e
  | [.int _], ru, e => cases e
  | [.str _], ru, e => cases e
  | [.tuple _], ru, e => cases e
  | [.dict _], ru, e => cases e
  | x :: _ :: _, ru, e => cases x <;> cases e
def pPop : List D → List D → Option (Option D × List D)
  | [], ds => match ds[ds.length - 1]? with
    | some d => some (some d, ds.dropLast)
    | none => none
  | _, _ => none
theorem reps_dropLast : ∀ {vs : List V} {ds : List D}, Reps S H vs ds → Reps S H vs.dropLast ds.dropLast := fun {vs ds} r => by
  rw [List.dropLast_eq_take, List.dropLast_eq_take, r.len]
  exact r.take _
theorem mo_pop {K : PySem.W.Frag} : MutOk K rPop pPop := by
  intro S H a vs us ds as Q o ds' dm ha rv ru e q
  match as, ru, e with
  | [], ru, e =>
    cases ru
    have e : (match ds[ds.length - 1]? with | some d => some (some d, ds.dropLast) | none => none) = some (o, ds') := e
    cases ed : ds[ds.length - 1]? with
    | none => rw [ed] at e; cases e
    | some d =>
      rw [ed] at e
      cases e
      obtain ⟨v, ev, rr⟩ := rv.get ed
      exact ⟨a, vs, v, rfl, rfl, ha, by rw [rv.len]; exact ev, q _ _ (reps_dropLast rv) rr⟩
  | _ :: _, ru, e => cases e
/-! xs[k] = e, d[k] = e -/
def sStore (i : Nat) (e idx : M Sl) : SM := M.bind (opnd e) fun r => M.bind (optM (match r with | .val d => some d | _ => none)) fun d => fun δ => match curL δ i with
  | none => .bad
  | some _ => M.bind (opnd idx) (fun k => M.bind (rdM k) fun kd => fun δ => match kd, curL δ i with
    | .int j, some ds => match ixN ds.length j with
      | some j => .ok .nx (setC δ i (ds.set j d))
      | none => .bad
    | _, _ => .bad) δ
theorem ds_store {i : Nat} (he : DE mg W te e) (hi : DE mg W ti idx) : DS mg W (tAsg te (gSub (tVar i) ti rSetL)) (sStore i e idx) := by
  intro B S H σ δ Ds I q
  refine he.o B S H σ δ _ I (Pst.mono (PstS.split q) fun r δ1 S1 H1 I1 G1 q v ro => ?_)
  have q1 : Pst mg W B S1 H1 σ (optM (match r with | .val d => some d | _ => none) δ1) (fun a δ1 S1 H1 => PstS mg W B S1 H1 ((match curL δ1 i with
    | none => .bad
    | some _ => M.bind (opnd idx) (fun k => M.bind (rdM k) fun kd => fun δ => match kd, curL δ i with
      | .int j, some ds => match ixN ds.length j with
        | some j => .ok .nx (setC δ i (ds.set j a))
        | none => .bad
      | _, _ => .bad) δ1)) Ds) := PstS.split q
  cases r with
  | val d =>
    have q2 := q1 S1 H1 I1 (Gx.refl S1 H1)
    dsimp only at q2
    cases e0 : curL δ1 i with
    | none => rw [e0] at q2; exact q2.elim
    | some d0 =>
      rw [e0] at q2
      obtain ⟨a, vs, hσ, _, h1, r1⟩ := curL_at I1 e0
      refine ⟨.ref a, hσ, ?_⟩
      refine hi.o B S1 H1 σ δ1 _ I1 (Pst.mono (PstS.split q2) fun k δ2 S2 H2 I2 G2 q3 kv rk => ?_)
      have q4 : Pst mg W B S2 H2 σ (rdM k δ2) (fun kd δ1 S1 H1 => PstS mg W B S1 H1 (match kd, curL δ1 i with
        | .int j, some ds => match ixN ds.length j with
          | some j => .ok .nx (setC δ1 i (ds.set j d))
          | none => .bad
        | _, _ => .bad) Ds) := PstS.split q3
      unfold rdM at q4
      cases ek : rd δ2 k with
      | none => rw [ek] at q4; exact q4.elim
      | some kd =>
        rw [ek] at q4
        have q5 := q4 S2 H2 I2 (Gx.refl S2 H2)
        dsimp only at q5
        have rk1 := rk.rd I2 ek
        cases kd with
        | int j =>
          have ej := rk1.int
          subst ej
          cases e1 : curL δ2 i with
          | none => rw [e1] at q5; exact q5.elim
          | some ds =>
            rw [e1] at q5
            simp only at q5
            obtain ⟨a', ws, hσ', hi', h2, r2⟩ := curL_at I2 e1
            rw [hσ] at hσ'
            cases hσ'
            cases ex : ixN ds.length j with
            | none => rw [ex] at q5; exact q5.elim
            | some m =>
              rw [ex] at q5
              have rd' : Rep S2 H2 v d := Rep.gx G2 ro
              obtain ⟨I3, G3⟩ := I2.mut hi' hσ (r2.set m rd')
              exact ⟨a, ws, j, m, rfl, rfl, h2, by rw [r2.len]; exact ex, q5 S2 _ σ I3 G3⟩
        | _ => exact q5.elim
  | _ => exact q1.elim
end
end DW

set_option Elab.async false
set_option linter.all false
set_option maxRecDepth 100000
set_option maxHeartbeats 2000000
/-! DW: list comprehensions. -/
namespace DW
open PySem PySem.Spec PyProof.Rows L2

/-- nothing is raised -/
abbrev W0 : WX := fun _ _ _ _ => False
/-- a target that touches the slots vs alone -/
def DGi (vs : List Nat) (g : TG) (f : D → Env → Option Env) : Prop := ∀ (B : Ba) (S : Addr → Prop) (H : Hp) (σ : L2.St) (δ : Env) (x : V) (d : D) (Q : L2.St → Hp → Prop), J B S H σ δ → Rep S H x d →
  (match f d δ with
    | some δ' => ∀ σ', J B S H σ' δ' → σ'.length = σ.length → (∀ i, i ∉ vs → σ'[i]? = σ[i]?) → Q σ' H
    | none => False) → g x σ H Q
def DGsi (vs : List Nat) (g : TGs) (f : List D → Env → Option Env) : Prop := ∀ (B : Ba) (S : Addr → Prop) (H : Hp) (σ : L2.St) (δ : Env) (xs : List V) (ds : List D) (Q : L2.St → Hp → Prop), J B S H σ δ → Reps S H xs ds →
  (match f ds δ with
    | some δ' => ∀ σ', J B S H σ' δ' → σ'.length = σ.length → (∀ i, i ∉ vs → σ'[i]? = σ[i]?) → Q σ' H
    | none => False) → g xs σ H Q
section
variable {gt : TG} {gs : TGs} {tgt : D → Env → Option Env} {tgts : List D → Env → Option Env} {vs : List Nat}
theorem dgi_name {i : Nat} (h : i ∈ vs := by decide) : DGi vs (gName i) (gN i) := fun B S H σ δ x d Q I r q =>
  q _ (I.set ⟨x, rfl, r⟩ (fun _ z => by cases z) (fun z => by cases z)) (by simp) fun j hj => by
    rw [List.getElem?_set_ne]
    intro z
    rw [z] at h
    exact hj h
theorem dgsi_nil : DGsi vs gNil gsNil := fun B S H σ δ xs ds Q I r q => by
  cases r with
  | nil => exact ⟨rfl, q σ I rfl fun _ _ => rfl⟩
  | cons _ _ => exact q.elim
theorem dgsi_cons (h1 : DGi vs gt tgt) (h2 : DGsi vs gs tgts) : DGsi vs (gCons gt gs) (gsCons tgt tgts) := fun B S H σ δ xs ds Q I r q => by
  cases r with
  | nil => exact q.elim
  | cons h tl =>
    refine ⟨_, _, rfl, h1 B S H σ δ _ _ _ I h ?_⟩
    simp only [gsCons] at q
    cases e : tgt _ δ with
    | some δ1 =>
      simp only [e, Option.bind_some] at q
      intro σ1 I1 l1 k1
      refine h2 B S H σ1 δ1 _ _ _ I1 tl ?_
      cases e2 : tgts _ δ1 with
      | some δ2 => simp only [e2] at q ⊢; exact fun σ2 I2 l2 k2 => q σ2 I2 (l2.trans l1) fun i hi => (k2 i hi).trans (k1 i hi)
      | none => simp only [e2] at q
    | none => simp only [e, Option.bind_none] at q
theorem dgi_tup {K : PySem.W.Frag} {n : Nat} (h : DGsi vs gs tgts) : DGi vs (gTup K n gs) (gT n tgts) := fun B S H σ δ x d Q I r q => by
  cases d with
  | tuple ds =>
    cases r with
    | tup h0 h1 h2 =>
      cases en : ds.length == n with
      | false => simp only [gT, en] at q; exact q.elim
      | true =>
        simp only [gT, en] at q
        exact ⟨_, _, rfl, SqT.of h1, by rw [h2.len]; exact beq_iff_eq.mp en, h B S H σ δ _ _ _ I h2 q⟩
    | dic _ _ _ e => cases e
  | _ => exact q.elim
end

/-- the block's own slots forgotten, brought back -/
def wipeE : List Nat → Env → Env
  | [], δ => δ
  | i :: vs, δ => (wipeE vs δ).set i .un
def backE (δ0 : Env) : List Nat → Env → Env
  | [], δ => δ
  | i :: vs, δ => match δ0[i]? with
    | some s => (backE δ0 vs δ).set i s
    | none => backE δ0 vs δ
def freeOf (vs : List Nat) (δ : Env) : Bool := vs.all fun i => match δ[i]? with
  | some s => !s.isOwn
  | none => false
section
variable {B : Ba} {S S' S1 : Addr → Prop} {H H' H1 : Hp} {σ : L2.St} {δ δ1 : Env}
theorem J.unset (I : J B S H σ δ) (i : Nat) : J B S H (σ.set i none) (δ.set i .un) where
  len := by simp [I.len]
  slot := fun j ov t h1 h2 => by
    rcases get_set h2 with ⟨_, q2⟩ | ⟨e2, q2⟩
    · subst q2; trivial
    · rcases get_set h1 with ⟨e1, _⟩ | ⟨_, q1⟩
      · exact absurd e1 e2
      · exact I.slot j ov t q1 q2
  dis := fun j k b t u ne h1 h2 h3 h4 o1 o2 => by
    rcases get_set h3 with ⟨_, q3⟩ | ⟨e3, q3⟩
    · subst q3; cases o1
    · rcases get_set h4 with ⟨_, q4⟩ | ⟨e4, q4⟩
      · subst q4; cases o2
      · rcases get_set h1 with ⟨e1, _⟩ | ⟨_, q1⟩
        · exact e3 e1
        · rcases get_set h2 with ⟨e2, _⟩ | ⟨_, q2⟩
          · exact e4 e2
          · exact I.dis j k b t u ne q1 q2 q3 q4 o1 o2
  ownN := fun j b t h1 h2 o => by
    rcases get_set h2 with ⟨_, q2⟩ | ⟨e2, q2⟩
    · subst q2; cases o
    · rcases get_set h1 with ⟨e1, _⟩ | ⟨_, q1⟩
      · exact absurd e1 e2
      · exact I.ownN j b t q1 q2 o
  old := I.old
  sub := I.sub
  new := I.new
  ion := I.ion
  iod := I.iod
  dom := I.dom
  parH := I.parH
theorem J.wipe (I : J B S H σ δ) : ∀ vs : List Nat, J B S H (L2.wipe σ vs) (wipeE vs δ)
  | [] => I
  | i :: vs => (J.wipe I vs).unset i
theorem wipe_out2 {σ : L2.St} {i : Nat} : ∀ {vs : List Nat}, i ∉ vs → (L2.wipe σ vs)[i]? = σ[i]?
  | [], _ => rfl
  | v :: vs, h => by
    unfold L2.wipe
    rw [List.getElem?_set_ne (fun e => h (by simp [e])), wipe_out2 fun z => h (by simp [z])]
theorem wipe_in {σ : L2.St} {i : Nat} (hl : i < σ.length) : ∀ {vs : List Nat}, i ∈ vs → (L2.wipe σ vs)[i]? = some none
  | v :: vs, h => by
    unfold L2.wipe
    by_cases e : v = i
    · subst e; rw [List.getElem?_set_self (by rw [wipe_length]; exact hl)]
    · rw [List.getElem?_set_ne e]
      exact wipe_in hl (by simpa [Ne.symm e] using h)
theorem wipe_same {σ σ2 : L2.St} {vs : List Nat} (hl : σ2.length = σ.length) (h : ∀ i, i ∉ vs → σ2[i]? = σ[i]?) : L2.wipe σ2 vs = L2.wipe σ vs := by
  refine List.ext_getElem? fun i => ?_
  by_cases hi : i ∈ vs
  · by_cases hlt : i < σ.length
    · rw [wipe_in hlt hi, wipe_in (by rw [hl]; exact hlt) hi]
    · rw [List.getElem?_eq_none (by rw [wipe_length]; omega), List.getElem?_eq_none (by rw [wipe_length]; omega)]
  · rw [wipe_out2 hi, wipe_out2 hi, h i hi]
/-- behind the block -/
theorem J.unwipe (I1 : J B S1 H1 σ δ1) (G : Gx S1 H1 S H) : ∀ {vs : List Nat} {δ : Env}, freeOf vs δ1 = true → J B S H (L2.wipe σ vs) δ → J B S H σ (backE δ1 vs δ)
  | [], _, _, I => I
  | v :: vs, δ, f, I => by
    have hf := (Bool.and_eq_true _ _ ▸ (show (_ && freeOf vs δ1) = true from f) : _ ∧ _)
    unfold backE
    -- first v comes back
    have hl : σ.length = δ1.length := I1.len
    by_cases hlt : v < σ.length
    · have hv1 : v < δ1.length := by rw [← hl]; exact hlt
      have es : δ1[v]? = some δ1[v] := List.getElem?_eq_getElem hv1
      have eσ : σ[v]? = some σ[v] := List.getElem?_eq_getElem hlt
      simp only [es]
      have no : (δ1[v]).isOwn = false := by
        have z := hf.1
        simp only [es] at z
        simpa using z
      have ok1 := I1.slot v _ _ eσ es
      have ok : SlotOk S H σ[v] δ1[v] := by
        generalize δ1[v] = s at ok1 no
        cases s with
        | un => trivial
        | val d => obtain ⟨x, e, r⟩ := ok1; exact ⟨x, e, r.gx G⟩
        | bor j => exact ok1
        | _ => cases no
      -- the slots as they are with v back
      have I2 : J B S H ((L2.wipe σ vs).set v σ[v]) (δ.set v δ1[v]) := {
        len := by
          have := I.len
          simp only [wipe_length, List.length_set] at this ⊢
          exact this
        slot := fun j ov t h1 h2 => by
          rcases get_set h2 with ⟨e2, q2⟩ | ⟨e2, q2⟩
          · rcases get_set h1 with ⟨_, q1⟩ | ⟨e1, _⟩
            · subst q2; subst q1; exact ok
            · exact absurd e2 e1
          · rcases get_set h1 with ⟨e1, _⟩ | ⟨_, q1⟩
            · exact absurd e1 e2
            · refine I.slot j ov t ?_ q2
              unfold L2.wipe
              rw [List.getElem?_set_ne (Ne.symm e2)]
              exact q1
        dis := fun j k b t u ne h1 h2 h3 h4 o1 o2 => by
          rcases get_set h3 with ⟨_, q3⟩ | ⟨e3, q3⟩
          · subst q3; rw [no] at o1; cases o1
          · rcases get_set h4 with ⟨_, q4⟩ | ⟨e4, q4⟩
            · subst q4; rw [no] at o2; cases o2
            · rcases get_set h1 with ⟨e1, _⟩ | ⟨_, q1⟩
              · exact e3 e1
              · rcases get_set h2 with ⟨e2, _⟩ | ⟨_, q2⟩
                · exact e4 e2
                · refine I.dis j k b t u ne ?_ ?_ q3 q4 o1 o2
                  · unfold L2.wipe; rw [List.getElem?_set_ne (Ne.symm e3)]; exact q1
                  · unfold L2.wipe; rw [List.getElem?_set_ne (Ne.symm e4)]; exact q2
        ownN := fun j b t h1 h2 o => by
          rcases get_set h2 with ⟨_, q2⟩ | ⟨e2, q2⟩
          · subst q2; rw [no] at o; cases o
          · rcases get_set h1 with ⟨e1, _⟩ | ⟨_, q1⟩
            · exact absurd e1 e2
            · refine I.ownN j b t ?_ q2 o
              unfold L2.wipe
              rw [List.getElem?_set_ne (Ne.symm e2)]
              exact q1
        old := I.old, sub := I.sub, new := I.new, ion := I.ion, iod := I.iod, dom := I.dom, parH := I.parH }
      by_cases hvs : v ∈ vs
      · -- v is forgotten twice: the inner one brings it back
        have e : L2.wipe σ (v :: vs) = L2.wipe σ vs := by
          refine List.ext_getElem? fun i => ?_
          by_cases hi : i ∈ vs
          · by_cases hh : i < σ.length
            · rw [wipe_in hh (List.mem_cons_of_mem _ hi), wipe_in hh hi]
            · rw [List.getElem?_eq_none (by rw [wipe_length]; omega), List.getElem?_eq_none (by rw [wipe_length]; omega)]
          · have hi2 : i ∉ v :: vs := fun z => (List.mem_cons.mp z).elim (fun e => hi (e ▸ hvs)) hi
            rw [wipe_out2 hi, wipe_out2 hi2]
        rw [e] at I
        have I3 := J.unwipe I1 G hf.2 I
        have e2 : (backE δ1 vs δ).set v δ1[v] = backE δ1 vs δ := backE_in hvs es I3.len hlt
        rw [e2]
        exact I3
      · have e : (L2.wipe σ vs).set v σ[v] = L2.wipe σ vs := by
          have := wipe_out2 (σ := σ) hvs
          rw [eσ] at this
          obtain ⟨h1, h2⟩ := List.getElem?_eq_some_iff.mp this
          rw [← h2]
          exact List.set_getElem_self h1
        rw [e] at I2
        have I3 := J.unwipe I1 G hf.2 I2
        rw [backE_set hvs] at I3
        exact I3
    · have en : δ1[v]? = none := List.getElem?_eq_none (by omega)
      have z := hf.1
      simp only [en] at z
      cases z
where
  backE_set {δ1 δ : Env} {v : Nat} {s : Sl} : ∀ {vs : List Nat}, v ∉ vs → backE δ1 vs (δ.set v s) = (backE δ1 vs δ).set v s
    | [], _ => rfl
    | i :: vs, h => by
      have h1 : v ∉ vs := fun z => h (by simp [z])
      have h2 : i ≠ v := fun z => h (by simp [z])
      unfold backE
      rw [backE_set h1]
      cases δ1[i]? with
      | none => rfl
      | some t => exact List.set_comm _ _ (Ne.symm h2)
  backE_in {δ1 δ : Env} {σ : L2.St} {v : Nat} {s : Sl} : ∀ {vs : List Nat}, v ∈ vs → δ1[v]? = some s → σ.length = (backE δ1 vs δ).length → v < σ.length → (backE δ1 vs δ).set v s = backE δ1 vs δ
    | i :: vs, h, e, hl, hv => by
      by_cases ei : i = v
      · subst ei
        unfold backE
        simp only [e, List.set_set]
      · have h1 : v ∈ vs := by simpa [Ne.symm ei] using h
        unfold backE
        cases ed : δ1[i]? with
        | none =>
          simp only []
          refine backE_in h1 e ?_ hv
          unfold backE at hl
          rw [ed] at hl
          exact hl
        | some t =>
          simp only []
          rw [List.set_comm _ _ ei, backE_in h1 e ?_ hv]
          unfold backE at hl
          rw [ed] at hl
          simpa using hl
end

/-! ### the comprehension -/
def Ba.pin (B : Ba) (a : Addr) (o : HO) : Ba := ⟨upd B.H0 a o, B.S0, B.par⟩
def lcL (tgt : D → Env → Option Env) (cond : M Bool) (elt : M Sl) (vs : List Nat) : List D → List D → Env → Option (List D × Env)
  | [], acc, δ => some (acc, δ)
  | d :: ds, acc, δ => match tgt d δ with
    | none => none
    | some δ1 => match cond δ1 with
      | .ok false δ2 => lcL tgt cond elt vs ds acc (wipeE vs δ2)
      | .ok true δ2 => match opnd elt δ2 with
        | .ok (.val y) δ3 => bif decide (acc.length < 16777216) then lcL tgt cond elt vs ds (acc ++ [y]) (wipeE vs δ3) else none
        | _ => none
      | _ => none
def lcM (tgt : D → Env → Option Env) (cond : M Bool) (elt : M Sl) (vs : List Nat) (ds : List D) : M Sl := fun δ => bif freeOf vs δ then (match lcL tgt cond elt vs ds [] (wipeE vs δ) with
  | some (acc, δ') => .ok (.own acc) (backE δ vs δ')
  | none => .bad) else .bad
def eLc (src : M (List D)) (tgt : D → Env → Option Env) (cond : M Bool) (elt : M Sl) (vs : List Nat) : M Sl := M.bind src (lcM tgt cond elt vs)
def tYes' : M Bool := M.ret true
section
variable {mg : Str → Option Value} {W : WX} {B : Ba} {S S' S1 : Addr → Prop} {H H' H1 : Hp} {σ : L2.St} {δ δ1 : Env} {wi : TI} {gt : TG} {tt : TT} {te : TE} {src : M (List D)} {tgt : D → Env → Option Env} {cond : M Bool} {elt : M Sl} {vs : List Nat}
theorem dt_yes : DT mg W tYes tYes' := fun B S H σ δ Q I p => p S H I (Gx.refl S H)
theorem J.pin (I : J B S H σ δ) {a : Addr} {o : HO} (f : Fr B σ δ a) (nS : ¬ S a) (h : H a = some o) : J (B.pin a o) S H σ δ where
  len := I.len
  slot := I.slot
  dis := I.dis
  ownN := fun i b s h1 h2 os => by
    rcases I.ownN i b s h1 h2 os with ⟨q1, q2⟩ | q
    · refine .inl ⟨?_, q2⟩
      have : b ≠ a := fun z => by subst z; rw [f.2.2 i s h1 h2] at os; cases os
      show upd B.H0 a o b = none
      rw [upd_ne this]
      exact q1
    · exact .inr q
  old := fun b u e n => by
    have e : upd B.H0 a o b = some u := e
    by_cases z : b = a
    · subst z; rw [upd_same] at e; cases e; exact h
    · rw [upd_ne z] at e; exact I.old b u e n
  sub := I.sub
  new := fun b hb => by
    rcases I.new b hb with q | q
    · exact .inl q
    · refine .inr ?_
      show upd B.H0 a o b = none
      rw [upd_ne (show b ≠ a from fun z => nS (by rw [← z]; exact hb))]
      exact q
  ion := I.ion
  iod := I.iod
  dom := I.dom
  parH := fun j b h1 z => by
    have z : upd B.H0 a o b = none := z
    by_cases e : b = a
    · subst e; rw [upd_same] at z; cases z
    · rw [upd_ne e] at z; exact I.parH j b h1 z
theorem J.unpin {a : Addr} {o : HO} (I : J (B.pin a o) S H σ δ) (h0 : B.H0 a = none) (nio : ¬ B.io a) : J B S H σ δ ∧ Fr B σ δ a ∧ H a = some o := by
  have pin_ne : ∀ b, b ≠ a → (B.pin a o).H0 b = B.H0 b := fun b z => upd_ne z
  have pin_none : ∀ b, (B.pin a o).H0 b = none → B.H0 b = none := fun b z => by
    by_cases e : b = a
    · subst e; exact h0
    · rw [pin_ne b e] at z; exact z
  refine ⟨⟨I.len, I.slot, I.dis, fun i b s h1 h2 os => ?_, fun b u e n => ?_, I.sub, fun b hb => ?_, I.ion, I.iod, I.dom, fun j b h1 z => ?_⟩, ⟨h0, nio, fun i s h1 h2 => ?_⟩, I.old a o upd_same nio⟩
  · rcases I.ownN i b s h1 h2 os with ⟨q1, q2⟩ | q
    · exact .inl ⟨pin_none b q1, q2⟩
    · exact .inr q
  · refine I.old b u ?_ n
    rw [pin_ne b (fun z => by rw [z, h0] at e; cases e)]
    exact e
  · rcases I.new b hb with q | q
    · exact .inl q
    · exact .inr (pin_none b q)
  · refine I.parH j b h1 ?_
    rw [pin_ne b (fun e => nio ⟨j, by rw [← e]; exact h1⟩)]
    exact z
  · cases os : s.isOwn with
    | false => rfl
    | true =>
      rcases I.ownN i a s h1 h2 os with ⟨q1, _⟩ | ⟨q, _⟩
      · have q1 : upd B.H0 a o a = none := q1
        rw [upd_same] at q1; cases q1
      · exact absurd ⟨i, q⟩ nio
/-- an object that no one holds is changed -/
theorem J.updFree (I : J B S H σ δ) {a : Addr} {o : HO} (f : Fr B σ δ a) (nS : ¬ S a) : J B S (upd H a o) σ δ ∧ Gx S H S (upd H a o) := by
  have g : Gx S H S (upd H a o) := ⟨fun _ h => h, fun b u hb e => by rw [upd_ne (show b ≠ a from fun z => nS (by rw [← z]; exact hb))]; exact e⟩
  have nn : ∀ b, H b ≠ none → upd H a o b ≠ none := fun b h z => by
    by_cases e : b = a
    · subst e; rw [upd_same] at z; cases z
    · rw [upd_ne e] at z; exact h z
  refine ⟨⟨I.len, fun i ov s h1 h2 => ?_, I.dis, I.ownN, fun b u e n => ?_, I.sub, I.new, I.ion, fun b h => nn b (I.iod b h), fun b h => nn b (I.dom b h), I.parH⟩, g⟩
  · have old := I.slot i ov s h1 h2
    have ap : ∀ b, ov = some (.ref b) → s.isOwn = true → b ≠ a := fun b e os z => by
      subst z; subst e
      rw [f.2.2 i s h1 h2] at os; cases os
    cases s with
    | un => trivial
    | val d => obtain ⟨x, e, r⟩ := old; exact ⟨x, e, r.gx g⟩
    | own ds => obtain ⟨b, vs, e, n, h, r⟩ := old; exact ⟨b, vs, e, n, by rw [upd_ne (ap b e rfl)]; exact h, r.gx g⟩
    | prm ds => obtain ⟨b, vs, e, n, h, r⟩ := old; exact ⟨b, vs, e, n, by rw [upd_ne (ap b e rfl)]; exact h, r.gx g⟩
    | ownD ds => obtain ⟨b, vs, e, n, h, r⟩ := old; exact ⟨b, vs, e, n, by rw [upd_ne (ap b e rfl)]; exact h, r.gx g⟩
    | bor j => exact old
  · rw [upd_ne (fun z => by rw [z, f.1] at e; cases e)]
    exact I.old b u e n
theorem notIn_pin {a : Addr} {o : HO} (I : J (B.pin a o) S H σ δ) (h : ¬ B.S0 a) : ¬ S a := fun z => by
  rcases I.new a z with q | q
  · exact h q
  · have q : upd B.H0 a o a = none := q
    rw [upd_same] at q; cases q
theorem de_lcs (hi : DIs mg W B S H σ δ wi src) (hg : DGi vs gt tgt) (ht : DT mg W0 tt cond) (he : DE mg W0 te elt) : DEs mg W B S H σ δ (tLc wi gt tt te vs) (eLc src tgt cond elt vs) := by
  intro Q I p
  refine hi _ I (Pst.mono (Pst.split p) fun ds δ1 S1 H1 I1 G1 p1 It ok => ?_)
  intro D hD
  unfold lcM at p1
  cases ef : freeOf vs δ1 with
  | false => rw [ef] at p1; exact p1.elim
  | true =>
    rw [ef] at p1
    cases er : lcL tgt cond elt vs ds [] (wipeE vs δ1) with
    | none => rw [er] at p1; exact p1.elim
    | some res =>
      obtain ⟨out, δo⟩ := res
      rw [er] at p1
      have p1 : ∀ S' H', J B S' H' σ (backE δ1 vs δo) → Gx S1 H1 S' H' → ∀ v, RepR B S' H' σ (backE δ1 vs δo) v (.own out) → Q v H' := p1
      have nS0 : ¬ B.S0 D := fun z => I1.dom D (I1.sub D z) hD
      have h0D : B.H0 D = none := I1.h0 hD
      have nio : ¬ B.io D := fun z => I1.iod D z hD
      have gr0 := Gr.new1 (p := D) (o := .lst []) I1.dom hD
      have Iw := (I1.gr gr0).wipe vs
      have f0 : Fr B (L2.wipe σ vs) (wipeE vs δ1) D := (I1.wipe vs).frN hD
      refine ⟨fun i m H' => ∃ S' acc va δ', m = ds.length - i ∧ i ≤ ds.length ∧ ¬ S' D ∧ H' D = some (.lst va) ∧ Reps S' H' va acc ∧ Fr B (L2.wipe σ vs) δ' D ∧ J B S' H' (L2.wipe σ vs) δ' ∧ Gx S1 H1 S' H' ∧ lcL tgt cond elt vs (ds.drop i) acc δ' = some (out, δo),
        ⟨_, S1, [], [], _, rfl, Nat.zero_le _, fun z => I1.dom D z hD, upd_same, .nil, f0, Iw, gr0.gx, er⟩, ?_⟩
      rintro i m H' ⟨S', acc, va, δ', rfl, hi', nS, hDl, ra, fr, I', G', eq⟩
      obtain ⟨hstop, hgo⟩ := ok i S' H' G' I'.dom
      by_cases hlt : i < ds.length
      · have ed : ds[i]? = some ds[i] := List.getElem?_eq_getElem hlt
        obtain ⟨go, yl⟩ := hgo _ ed
        rw [List.drop_eq_getElem_cons hlt] at eq
        unfold lcL at eq
        refine .inr ⟨go, fun H2 => ∃ S' acc va δ', i + 1 ≤ ds.length ∧ ¬ S' D ∧ H2 D = some (.lst va) ∧ Reps S' H2 va acc ∧ Fr B (L2.wipe σ vs) δ' D ∧ J B S' H2 (L2.wipe σ vs) δ' ∧ Gx S1 H1 S' H2 ∧ lcL tgt cond elt vs (ds.drop (i + 1)) acc δ' = some (out, δo),
          fun H2 ⟨a1, a2, a3, a4, h⟩ => ⟨ds.length - (i + 1), by omega, a1, a2, a3, a4, rfl, h⟩, fun x H2 y => ?_⟩
        obtain ⟨S2, g2, r2⟩ := yl x H2 y
        have I2 := I'.gr g2
        have nS2 : ¬ S2 D := fun z => (g2.new D z).elim nS fun q => by rw [hDl] at q; cases q
        have hD2 := g2.keep D _ hDl
        have Ip := I2.pin fr nS2 hD2
        refine hg _ S2 H2 _ δ' x _ _ Ip r2 ?_
        cases et : tgt ds[i] δ' with
        | none => rw [et] at eq; cases eq
        | some δ2 =>
          rw [et] at eq
          simp only at eq ⊢
          intro σ2 I3 l2 k2
          have ew : L2.wipe σ2 vs = L2.wipe σ vs := by
            rw [wipe_same l2 k2]
            exact wipe_same (wipe_length _ _) fun j hj => wipe_out2 hj
          refine ⟨ew, ?_⟩
          -- behind a turn's part: back to the ground
          have back : ∀ {S4 : Addr → Prop} {H4 : Hp} {δ4 : Env}, J (B.pin D (.lst va)) S4 H4 σ2 δ4 → Gx S2 H2 S4 H4 → ¬ S4 D ∧ H4 D = some (.lst va) ∧ Reps S4 H4 va acc ∧ Fr B (L2.wipe σ vs) (wipeE vs δ4) D ∧ J B S4 H4 (L2.wipe σ vs) (wipeE vs δ4) ∧ Gx S1 H1 S4 H4 := fun {S4 H4 δ4} J4 g4 => by
            have Jw := J4.wipe vs
            rw [ew] at Jw
            obtain ⟨a1, a2, a3⟩ := Jw.unpin h0D nio
            exact ⟨notIn_pin J4 nS0, a3, (ra.gx g2.gx).gx g4, a2, a1, (G'.trans g2.gx).trans g4⟩
          refine ht _ S2 H2 σ2 δ2 _ I3 ?_
          cases ec : cond δ2 with
          | bad => rw [ec] at eq; cases eq
          | ex e0 δ3 => rw [ec] at eq; cases eq
          | ok b δ3 =>
            rw [ec] at eq
            intro S3 H3 J3 g3
            cases b with
            | false =>
              rw [if_neg Bool.false_ne_true]
              obtain ⟨b1, b2, b3, b4, b5, b6⟩ := back J3 g3
              exact ⟨S3, acc, va, _, hlt, b1, b2, b3, b4, b5, b6, eq⟩
            | true =>
              rw [if_pos rfl]
              simp only at eq
              refine he.o _ S3 H3 σ2 δ3 _ J3 ?_
              cases ee : opnd elt δ3 with
              | bad => rw [ee] at eq; cases eq
              | ex e0 δ4 => rw [ee] at eq; cases eq
              | ok r δ4 =>
                rw [ee] at eq
                cases r with
                | val yd =>
                  simp only at eq
                  intro S4 H4 J4 g4 yv ry
                  cases ez : decide (acc.length < 16777216) with
                  | false => rw [ez] at eq; cases eq
                  | true =>
                    rw [ez] at eq
                    obtain ⟨b1, b2, b3, b4, b5, b6⟩ := back J4 (g3.trans g4)
                    obtain ⟨J5, g5⟩ := b5.updFree (o := .lst (va ++ [yv])) b4 b1
                    have ry : Rep S4 H4 yv yd := ry
                    exact ⟨va, b2, by rw [b3.len]; exact size_lt ez, S4, acc ++ [yd], va ++ [yv], _, hlt, b1, upd_same, (b3.append (.cons ry .nil)).gx g5, b4, J5, b6.trans g5, eq⟩
                | _ => cases eq
      · have e : i = ds.length := by omega
        subst e
        rw [List.drop_length] at eq
        cases eq
        have I5 := J.unwipe I1 G' ef I'
        refine .inl ⟨hstop (Nat.le_refl _), p1 S' H' I5 G' _ ⟨D, va, rfl, ⟨h0D, nio, fun j s h1 h2 => ?_⟩, nS, hDl, ra⟩⟩
        -- D is no slot's: it is new at the entry of the comprehension
        have sl := I1
        cases os : s.isOwn with
        | false => rfl
        | true =>
          exfalso
          obtain ⟨t, et, ot⟩ := backE_own (δ1 := δ1) (δ := δo) (vs := vs) ef h2 os
          have hj : j < σ.length := (List.getElem?_eq_some_iff.mp h1).1
          have hjv := backE_own_out (δ1 := δ1) (δ := δo) (vs := vs) ef h2 os
          have := fr.2.2 j t (by rw [wipe_out2 hjv]; exact h1) et
          rw [this] at ot
          cases ot
where
  backE_own {δ1 δ : Env} : ∀ {vs : List Nat} {j : Nat} {s : Sl}, freeOf vs δ1 = true → (backE δ1 vs δ)[j]? = some s → s.isOwn = true → ∃ t, δ[j]? = some t ∧ t.isOwn = true
    | [], j, s, _, h, o => ⟨s, h, o⟩
    | v :: vs, j, s, f, h, o => by
      have hf := (Bool.and_eq_true _ _ ▸ (show (_ && freeOf vs δ1) = true from f) : _ ∧ _)
      unfold backE at h
      cases ev : δ1[v]? with
      | none => simp only [ev] at h; exact backE_own hf.2 h o
      | some t =>
        simp only [ev] at h
        rcases get_set h with ⟨_, q⟩ | ⟨_, q⟩
        · subst q
          have z := hf.1
          simp only [ev] at z
          rw [o] at z; cases z
        · exact backE_own hf.2 q o
  backE_own_out {δ1 δ : Env} : ∀ {vs : List Nat} {j : Nat} {s : Sl}, freeOf vs δ1 = true → (backE δ1 vs δ)[j]? = some s → s.isOwn = true → j ∉ vs
    | [], j, s, _, h, o => by simp
    | v :: vs, j, s, f, h, o => by
      have hf := (Bool.and_eq_true _ _ ▸ (show (_ && freeOf vs δ1) = true from f) : _ ∧ _)
      unfold backE at h
      intro z
      cases ev : δ1[v]? with
      | none =>
        have q := hf.1
        simp only [ev] at q
        cases q
      | some t =>
        simp only [ev] at h
        rcases get_set h with ⟨_, q⟩ | ⟨ne, q⟩
        · subst q
          have z := hf.1
          simp only [ev] at z
          rw [o] at z; cases z
        · rcases List.mem_cons.mp z with z | z
          · exact ne z
          · exact backE_own_out hf.2 q o z
theorem de_lc (hi : DI mg W wi src) (hg : DGi vs gt tgt) (ht : DT mg W0 tt cond) (he : DE mg W0 te elt) : DE mg W (tLc wi gt tt te vs) (eLc src tgt cond elt vs) := fun B S H σ δ Q I p => de_lcs (fun R I p => hi B S H σ δ R I p) hg ht he Q I p
end
end DW

set_option Elab.async false
set_option linter.all false
set_option maxRecDepth 100000
set_option maxHeartbeats 2000000
/-! DW: built-ins, isinstance, chains, errors. -/
namespace DW
open PySem PySem.Spec PyProof.Rows L2

/-! ### built-ins by values -/
def b1 (g : D → Option Sl) : List D → Option Sl
  | [d] => g d
  | _ => none
def b2 (g : D → D → Option Sl) : List D → Option Sl
  | [d, e] => g d e
  | _ => none
theorem ob1 {r : List V → Hp → VK → Prop} {g : D → Option Sl} (h : ∀ (S : Addr → Prop) (H : Hp) (v : V) (d : D) (Q : VK), (∀ b, S b → H b ≠ none) → Rep1 S H v d → OPost S H Q (g d) → r [v] H Q) : OB r (b1 g) := by
  intro S H vs ds Q dm rv q
  match ds, rv, q with
  | [d], rv, q => obtain ⟨v, rfl, r1⟩ := rv.one; exact h S H v d Q dm r1 q
  | [], rv, q => exact q.elim
  | _ :: _ :: _, rv, q => exact q.elim
theorem ob2 {r : List V → Hp → VK → Prop} {g : D → D → Option Sl} (h : ∀ (S : Addr → Prop) (H : Hp) (v w : V) (d e : D) (Q : VK), (∀ b, S b → H b ≠ none) → Rep1 S H v d → Rep1 S H w e → OPost S H Q (g d e) → r [v, w] H Q) : OB r (b2 g) := by
  intro S H vs ds Q dm rv q
  match ds, rv, q with
  | [d, e], rv, q => obtain ⟨v, w, rfl, r1, r2⟩ := rv.two; exact h S H v w d e Q dm r1 r2 q
  | [], rv, q => exact q.elim
  | [_], rv, q => exact q.elim
  | _ :: _ :: _ :: _, rv, q => exact q.elim
def nLen : D → Option Sl
  | .str x => bif decide (x.length ≤ 16777216) then some (.val (.int x.length)) else none
  | .list ds => some (.val (.int ds.length))
  | .tuple ds => some (.val (.int ds.length))
  | _ => none
def rLenV (K : PySem.W.Frag) : List V → Hp → VK → Prop := fun xs H Q => ∃ x n, xs = [x] ∧ LenV K x H n ∧ Q (.int n) H
theorem ob_len {K : PySem.W.Frag} : OB (rLenV K) (b1 nLen) := ob1 fun S H v d Q dm r q => by
  cases d with
  | str x => have e := r.str; subst e; exact ⟨_, x.length, rfl, ⟨size_of q.bif.1, rfl⟩, q.bif.2.val dm (.int _)⟩
  | list ds => obtain ⟨a, vs, rfl, h, rr⟩ := r.list; exact ⟨_, ds.length, rfl, .inl ⟨vs, SqL.of h, rr.len.symm⟩, q.val dm (.int _)⟩
  | tuple ds => obtain ⟨a, vs, rfl, _, h, rr⟩ := r.tup; exact ⟨_, ds.length, rfl, .inr ⟨vs, SqT.of h, rr.len.symm⟩, q.val dm (.int _)⟩
  | _ => exact q.elim
def nInt : D → Option Sl
  | .int i => some (.val (.int i))
  | .bool b => some (.val (.int (if b then 1 else 0)))
  | _ => none
def rInt1 : List V → Hp → VK → Prop := fun xs H Q => (∃ i, xs = [.int i] ∧ Q (.int i) H) ∨ ∃ k, xs = [.bl k] ∧ Q (.int (if k then 1 else 0)) H
theorem ob_int : OB rInt1 (b1 nInt) := ob1 fun S H v d Q dm r q => by
  cases d with
  | int i => have e := r.int; subst e; exact .inl ⟨i, rfl, q.val dm (.int _)⟩
  | bool i => have e := r.bl; subst e; exact .inr ⟨i, rfl, q.val dm (.int _)⟩
  | _ => exact q.elim
def nAbs : D → Option Sl
  | .int i => some (.val (.int (if i < 0 then -i else i)))
  | _ => none
def rAbs1 : List V → Hp → VK → Prop := fun xs H Q => ∃ i, xs = [.int i] ∧ Q (.int (if i < 0 then -i else i)) H
theorem ob_abs : OB rAbs1 (b1 nAbs) := ob1 fun S H v d Q dm r q => by
  cases d with
  | int i => have e := r.int; subst e; exact ⟨i, rfl, q.val dm (.int _)⟩
  | _ => exact q.elim
def nMax2 : D → D → Option Sl
  | .int i, .int j => some (.val (.int (if j > i then j else i)))
  | _, _ => none
def nMin2 : D → D → Option Sl
  | .int i, .int j => some (.val (.int (if j < i then j else i)))
  | _, _ => none
def rMaxB : List V → Hp → VK → Prop := fun xs H Q => ∃ i j, xs = [.int i, .int j] ∧ Q (.int (if j > i then j else i)) H
def rMinB : List V → Hp → VK → Prop := fun xs H Q => ∃ i j, xs = [.int i, .int j] ∧ Q (.int (if j < i then j else i)) H
theorem ob_max2 : OB rMaxB (b2 nMax2) := ob2 fun S H v w d e Q dm r r' q => by
  cases d with
  | int i => cases e with
    | int j => have e := r.int; have e' := r'.int; subst e; subst e'; exact ⟨i, j, rfl, q.val dm (.int _)⟩
    | _ => exact q.elim
  | _ => cases e <;> exact q.elim
theorem ob_min2 : OB rMinB (b2 nMin2) := ob2 fun S H v w d e Q dm r r' q => by
  cases d with
  | int i => cases e with
    | int j => have e := r.int; have e' := r'.int; subst e; subst e'; exact ⟨i, j, rfl, q.val dm (.int _)⟩
    | _ => exact q.elim
  | _ => cases e <;> exact q.elim
def nList : D → Option Sl
  | .list ds => some (.own ds)
  | .tuple ds => some (.own ds)
  | _ => none
def rListB (K : PySem.W.Frag) : List V → Hp → VK → Prop := fun xs H Q => ∃ p ys, xs = [.ref p] ∧ (SqL K H p ys ∨ SqT K H p ys) ∧ ∀ l, H l = none → Q (.ref l) (upd H l (.lst ys))
theorem ob_list {K : PySem.W.Frag} : OB (rListB K) (b1 nList) := ob1 fun S H v d Q dm r q => by
  cases d with
  | list ds => obtain ⟨a, vs, rfl, h, rr⟩ := r.list; exact ⟨a, vs, rfl, .inl (SqL.of h), fun l hl => OPost.own dm q rr hl⟩
  | tuple ds => obtain ⟨a, vs, rfl, _, h, rr⟩ := r.tup; exact ⟨a, vs, rfl, .inr (SqT.of h), fun l hl => OPost.own dm q rr hl⟩
  | _ => exact q.elim
def nTuple : D → Option Sl
  | .list ds => some (.val (.tuple ds))
  | .tuple ds => some (.val (.tuple ds))
  | _ => none
def rTupB (K : PySem.W.Frag) : List V → Hp → VK → Prop := fun xs H Q => ∃ p ys, xs = [.ref p] ∧ ((SqL K H p ys ∧ ∀ l, H l = none → Q (.ref l) (upd H l (.tup ys))) ∨ (SqT K H p ys ∧ Q (.ref p) H))
theorem ob_tuple {K : PySem.W.Frag} : OB (rTupB K) (b1 nTuple) := ob1 fun S H v d Q dm r q => by
  cases d with
  | list ds => obtain ⟨a, vs, rfl, h, rr⟩ := r.list; exact ⟨a, vs, rfl, .inl ⟨SqL.of h, fun l hl => OPost.tup dm q rr hl⟩⟩
  | tuple ds => obtain ⟨a, vs, rfl, s1, h, rr⟩ := r.tup; exact ⟨a, vs, rfl, .inr ⟨SqT.of h, q.val dm (.tup s1 h rr)⟩⟩
  | _ => exact q.elim
def intsD : List D → Option (List Int)
  | [] => some []
  | .int i :: r => (intsD r).map (i :: ·)
  | _ :: _ => none
def boolsD : List D → Option (List Bool)
  | [] => some []
  | .bool i :: r => (boolsD r).map (i :: ·)
  | _ :: _ => none
theorem intsD_map (ns : List Int) : intsD (ns.map PyData.int) = some ns := by
  induction ns with
  | nil => rfl
  | cons n r ih => show (intsD (r.map PyData.int)).map (n :: ·) = _; rw [ih]; rfl
theorem boolsD_map (ns : List Bool) : boolsD (ns.map PyData.bool) = some ns := by
  induction ns with
  | nil => rfl
  | cons n r ih => show (boolsD (r.map PyData.bool)).map (n :: ·) = _; rw [ih]; rfl
theorem reps_ints {S : Addr → Prop} {H : Hp} : ∀ {vs : List V} {ds : List D} {ns : List Int}, Reps S H vs ds → intsD ds = some ns → vs = ns.map V.int
  | _, _, ns, .nil, e => by cases e; rfl
  | _, _, ns, .cons (d := d) (ds := ds) h t, e => by
    cases d with
    | int i =>
      have e' : (intsD ds).map (i :: ·) = some ns := e
      cases q : intsD ds with
      | none => rw [q] at e'; cases e'
      | some r =>
        rw [q] at e'
        cases e'
        have hv := Rep1.int (.inl h)
        rw [hv, reps_ints t q]
        rfl
    | _ => cases e
theorem reps_bools {S : Addr → Prop} {H : Hp} : ∀ {vs : List V} {ds : List D} {ns : List Bool}, Reps S H vs ds → boolsD ds = some ns → vs = ns.map V.bl
  | _, _, ns, .nil, e => by cases e; rfl
  | _, _, ns, .cons (d := d) (ds := ds) h t, e => by
    cases d with
    | bool i =>
      have e' : (boolsD ds).map (i :: ·) = some ns := e
      cases q : boolsD ds with
      | none => rw [q] at e'; cases e'
      | some r =>
        rw [q] at e'
        cases e'
        have hv := Rep1.bl (.inl h)
        rw [hv, reps_bools t q]
        rfl
    | _ => cases e
def overI (g : List Int → Option Sl) : D → Option Sl
  | .list ds => (intsD ds).bind g
  | _ => none
def overB (g : List Bool → Option Sl) : D → Option Sl
  | .list ds => (boolsD ds).bind g
  | _ => none
def nSum : D → Option Sl := overI fun ns => some (.val (.int ns.sum))
def nAny : D → Option Sl := overB fun bs => some (.val (.bool (bs.any id)))
def nAll : D → Option Sl := overB fun bs => some (.val (.bool (bs.all id)))
def maxL : List Int → Int
  | [] => 0
  | [n] => n
  | n :: r => if n ≤ maxL r then maxL r else n
def minL : List Int → Int
  | [] => 0
  | [n] => n
  | n :: r => if minL r ≤ n then minL r else n
theorem maxL_mem : ∀ {ns : List Int}, ns ≠ [] → maxL ns ∈ ns ∧ ∀ y ∈ ns, y ≤ maxL ns
  | [], h => absurd rfl h
  | [n], _ => by simp [maxL]
  | n :: m :: r, _ => by
    obtain ⟨h1, h2⟩ := maxL_mem (ns := m :: r) (by simp)
    have e : maxL (n :: m :: r) = if n ≤ maxL (m :: r) then maxL (m :: r) else n := rfl
    rw [e]
    split
    · rename_i hn
      refine ⟨List.mem_cons_of_mem _ h1, fun y hy => ?_⟩
      rcases List.mem_cons.mp hy with rfl | hy
      · exact hn
      · exact h2 y hy
    · rename_i hn
      refine ⟨List.mem_cons_self, fun y hy => ?_⟩
      rcases List.mem_cons.mp hy with rfl | hy
      · exact Int.le_refl _
      · exact Int.le_trans (h2 y hy) (by omega)
theorem minL_mem : ∀ {ns : List Int}, ns ≠ [] → minL ns ∈ ns ∧ ∀ y ∈ ns, minL ns ≤ y
  | [], h => absurd rfl h
  | [n], _ => by simp [minL]
  | n :: m :: r, _ => by
    obtain ⟨h1, h2⟩ := minL_mem (ns := m :: r) (by simp)
    have e : minL (n :: m :: r) = if minL (m :: r) ≤ n then minL (m :: r) else n := rfl
    rw [e]
    split
    · rename_i hn
      refine ⟨List.mem_cons_of_mem _ h1, fun y hy => ?_⟩
      rcases List.mem_cons.mp hy with rfl | hy
      · exact hn
      · exact h2 y hy
    · rename_i hn
      refine ⟨List.mem_cons_self, fun y hy => ?_⟩
      rcases List.mem_cons.mp hy with rfl | hy
      · exact Int.le_refl _
      · exact Int.le_trans (by omega) (h2 y hy)
def nMaxL : D → Option Sl := overI fun ns => bif ns.isEmpty then none else some (.val (.int (maxL ns)))
def nMinL : D → Option Sl := overI fun ns => bif ns.isEmpty then none else some (.val (.int (minL ns)))
theorem over_i {S : Addr → Prop} {H : Hp} {v : V} {d : D} {Q : VK} {g : List Int → Option Sl} (r : Rep1 S H v d) (q : OPost S H Q (overI g d)) : ∃ a ns, v = .ref a ∧ H a = some (.lst (ns.map V.int)) ∧ OPost S H Q (g ns) := by
  cases d with
  | list ds =>
    obtain ⟨a, vs, rfl, h, rr⟩ := r.list
    have q : OPost S H Q ((intsD ds).bind g) := q
    cases e : intsD ds with
    | none => rw [e] at q; exact q.elim
    | some ns => rw [e] at q; exact ⟨a, ns, rfl, by rw [h, reps_ints rr e], q⟩
  | _ => exact q.elim
theorem over_b {S : Addr → Prop} {H : Hp} {v : V} {d : D} {Q : VK} {g : List Bool → Option Sl} (r : Rep1 S H v d) (q : OPost S H Q (overB g d)) : ∃ a ns, v = .ref a ∧ H a = some (.lst (ns.map V.bl)) ∧ OPost S H Q (g ns) := by
  cases d with
  | list ds =>
    obtain ⟨a, vs, rfl, h, rr⟩ := r.list
    have q : OPost S H Q ((boolsD ds).bind g) := q
    cases e : boolsD ds with
    | none => rw [e] at q; exact q.elim
    | some ns => rw [e] at q; exact ⟨a, ns, rfl, by rw [h, reps_bools rr e], q⟩
  | _ => exact q.elim
theorem ob_sum {K : PySem.W.Frag} : OB (rSum K) (b1 nSum) := ob1 fun S H v d Q dm r q => by
  obtain ⟨a, ns, rfl, h, q⟩ := over_i r q
  exact ⟨a, ns, rfl, SqL.of h, OPost.val dm q (.int _)⟩
theorem ob_any {K : PySem.W.Frag} : OB (rAny K) (b1 nAny) := ob1 fun S H v d Q dm r q => by
  obtain ⟨a, ns, rfl, h, q⟩ := over_b r q
  exact ⟨a, ns, rfl, SqL.of h, OPost.val dm q (.bl _)⟩
theorem ob_all {K : PySem.W.Frag} : OB (rAll K) (b1 nAll) := ob1 fun S H v d Q dm r q => by
  obtain ⟨a, ns, rfl, h, q⟩ := over_b r q
  exact ⟨a, ns, rfl, SqL.of h, OPost.val dm q (.bl _)⟩
theorem ob_maxL {K : PySem.W.Frag} : OB (rMax K) (b1 nMaxL) := ob1 fun S H v d Q dm r q => by
  obtain ⟨a, ns, rfl, h, q⟩ := over_i r q
  cases ns with
  | nil => exact q.elim
  | cons n t =>
    refine ⟨a, n :: t, rfl, SqL.of h, by simp, fun m hm hle => ?_⟩
    obtain ⟨h1, h2⟩ := maxL_mem (ns := n :: t) (by simp)
    have e : m = maxL (n :: t) := Int.le_antisymm (h2 m hm) (hle _ h1)
    rw [e]
    exact OPost.val dm q (.int _)
theorem ob_minL {K : PySem.W.Frag} : OB (rMin K) (b1 nMinL) := ob1 fun S H v d Q dm r q => by
  obtain ⟨a, ns, rfl, h, q⟩ := over_i r q
  cases ns with
  | nil => exact q.elim
  | cons n t =>
    refine ⟨a, n :: t, rfl, SqL.of h, by simp, fun m hm hle => ?_⟩
    obtain ⟨h1, h2⟩ := minL_mem (ns := n :: t) (by simp)
    have e : m = minL (n :: t) := Int.le_antisymm (hle _ h1) (h2 m hm)
    rw [e]
    exact OPost.val dm q (.int _)

/-! ### isinstance of built-in types -/
def tyD : D → String
  | .none => "NoneType"
  | .bool _ => "bool"
  | .int _ => "int"
  | .str _ => "str"
  | .list _ => "list"
  | .tuple _ => "tuple"
  | .dict _ => "dict"
def isTy (T : String) : D → Bool
  | .none => T == "NoneType"
  | .bool _ => T == "bool" || T == "int"
  | .int _ => T == "int"
  | .str _ => T == "str"
  | .list _ => T == "list"
  | .tuple _ => T == "tuple"
  | .dict _ => T == "dict"
/-- the types asked of -/
def TyOk (T : String) : Prop := ∀ d : D, kitB (tyD d) T = some (isTy T d)
theorem tyOk_of {T : String} (h : (["NoneType", "bool", "int", "str", "list", "tuple", "dict"].all fun a => decide (kitB a T = some (a == T || (a == "bool" && T == "int")))) = true) : TyOk T := fun d => by
  have z := fun a ha => of_decide_eq_true (List.all_eq_true.mp h a ha)
  cases d with
  | none => have := z "NoneType" (by decide); simpa [tyD, isTy, eq_comm, beq_iff_eq, Bool.beq_comm] using this
  | bool b => have := z "bool" (by decide); simpa [tyD, isTy, eq_comm, beq_iff_eq, Bool.beq_comm] using this
  | int b => have := z "int" (by decide); simpa [tyD, isTy, eq_comm, beq_iff_eq, Bool.beq_comm] using this
  | str b => have := z "str" (by decide); simpa [tyD, isTy, eq_comm, beq_iff_eq, Bool.beq_comm] using this
  | list b => have := z "list" (by decide); simpa [tyD, isTy, eq_comm, beq_iff_eq, Bool.beq_comm] using this
  | tuple b => have := z "tuple" (by decide); simpa [tyD, isTy, eq_comm, beq_iff_eq, Bool.beq_comm] using this
  | dict b => have := z "dict" (by decide); simpa [tyD, isTy, eq_comm, beq_iff_eq, Bool.beq_comm] using this
theorem ty_int : TyOk "int" := tyOk_of (by decide +kernel)
theorem ty_bool : TyOk "bool" := tyOk_of (by decide +kernel)
theorem ty_str : TyOk "str" := tyOk_of (by decide +kernel)
theorem ty_list : TyOk "list" := tyOk_of (by decide +kernel)
theorem ty_tuple : TyOk "tuple" := tyOk_of (by decide +kernel)
theorem ty_dict : TyOk "dict" := tyOk_of (by decide +kernel)
end DW

set_option Elab.async false
set_option linter.all false
set_option maxRecDepth 100000
set_option maxHeartbeats 2000000
/-! DW: the rules of the text with what they give. -/
namespace DW
open PySem PySem.Spec PyProof.Rows L2
section
variable {mg : Str → Option Value} {W : WX} {te ta tb tc : TE} {f g h e : M Sl} {K : PySem.W.Frag}
variable {B : Ba} {S S' S1 : Addr → Prop} {H H' H1 : Hp} {σ : L2.St} {δ : Env}
/-! ### isinstance(x, T), isinstance(x, (T1, T2)) -/
theorem Rep1.tyX {v : V} {d : D} (r : Rep1 S H v d) : TyX K H v (.type (tyD d)) := by
  cases d with
  | none => have e := r.non; subst e; exact .base .non
  | bool b => have e := r.bl; subst e; exact .base (.bl _)
  | int b => have e := r.int; subst e; exact .base (.int _)
  | str b => have e := r.str; subst e; exact .base (.str _)
  | list b => obtain ⟨a, vs, rfl, h, _⟩ := r.list; exact .base (.lst h)
  | tuple b => obtain ⟨a, vs, rfl, _, h, _⟩ := r.tup; exact .base (.tup h)
  | dict b =>
    obtain ⟨a, vs, ks, rfl, h, _⟩ := r.dic
    rcases h with h | ⟨o, h⟩
    · exact .base (.dK h)
    · exact .fDict h
def eIsi (Ts : List String) (f : M Sl) : M Sl := M.bind (opnd f) fun r => M.bind (rdM r) fun d => M.ret (.val (.bool (Ts.any fun T => isTy T d)))
def tTys : List String → TA
  | [] => tNil
  | T :: r => tCons (tC (.ty T)) (tTys r)
theorem de_isi1 {T : String} (hT : TyOk T) (ha : DE mg W ta f) : DE mg W (tCB (rIsi K) (tCons ta (tCons (tC (.ty T)) tNil))) (eIsi [T] f) := by
  intro B S H σ δ Q I p
  refine ha.o B S H σ δ _ I (Pst.mono (Pst.split p) fun r1 δ1 S1 H1 I1 G1 p1 x rx => ?_)
  obtain ⟨d, ra, p2⟩ := Pst.rdM I1 rx p1
  refine ⟨x, .ty T, .type (tyD d), .type T, isTy T d, rfl, .ty T, ra.tyX, kit_ty (hT d), ?_⟩
  have z := p2 S1 H1 I1 (Gx.refl S1 H1) (.bl (isTy T d))
  refine z ?_
  show Rep S1 H1 (.bl (isTy T d)) (.bool ([T].any fun T => isTy T d))
  rw [show ([T].any fun T => isTy T d) = isTy T d by simp]
  exact .bl _
theorem kit_tys {d : D} : ∀ {Ts : List String}, (∀ T ∈ Ts, TyOk T) → PySem.W.kitAny K (.type (tyD d)) (Ts.map Value.type) = some (Ts.any fun T => isTy T d)
  | [], _ => kitAny_nil
  | T :: r, h => by
    rw [List.map_cons, List.any_cons]
    refine kitAny_cons (kit_ty (h T (by simp) d)) (fun e => ?_) (fun e => ?_)
    · rw [e, Bool.false_or]; exact kit_tys fun U hU => h U (by simp [hU])
    · rw [e, Bool.true_or]
theorem tTys_vals {Q : List V → Hp → Prop} : ∀ {Ts : List String}, Q (Ts.map V.ty) H → tTys Ts σ H Q
  | [], h => h
  | T :: r, h => by
    show tTys r σ H fun vs H2 => Q (.ty T :: vs) H2
    exact tTys_vals (Q := fun vs H2 => Q (.ty T :: vs) H2) h
theorem clsAll : ∀ Ts : List String, Paired ClsV (Ts.map V.ty) (Ts.map Value.type)
  | [] => .nil
  | T :: r => .cons (.ty T) (clsAll r)
theorem de_isiT {Ts : List String} (hT : ∀ T ∈ Ts, TyOk T) (hl : Ts.length ≤ 100) (ha : DE mg W ta f) : DE mg W (tCB (rIsiT K) (tCons ta (tCons (tTup (tTys Ts)) tNil))) (eIsi Ts f) := by
  intro B S H σ δ Q I p
  refine ha.o B S H σ δ _ I (Pst.mono (Pst.split p) fun r1 δ1 S1 H1 I1 G1 p1 x rx => ?_)
  show tTys Ts σ H1 _
  refine tTys_vals ⟨by rw [List.length_map, sizeLine_eq]; omega, fun t ht => ?_⟩
  obtain ⟨d, ra, p2⟩ := Pst.rdM I1 rx p1
  have g := Gr.newS (p := t) (o := .tup (Ts.map V.ty)) I1.dom ht
  have g1 := Gr.new1 (p := t) (o := .tup (Ts.map V.ty)) I1.dom ht
  have ra2 : Rep1 S1 (upd H1 t (.tup (Ts.map V.ty))) x d := by
    rcases ra with r | ⟨a, vs, ds, e1, e2, e3, e4⟩ | ⟨a, vs, ds, e1, e2, e3, e4⟩
    · exact .inl (r.gx g1.gx)
    · exact .inr (.inl ⟨a, vs, ds, e1, e2, g1.keep _ _ e3, e4.gx g1.gx⟩)
    · exact .inr (.inr ⟨a, vs, ds, e1, e2, e3.elim (fun z => .inl (g1.keep _ _ z)) (fun ⟨o, z⟩ => .inr ⟨o, g1.keep _ _ z⟩), e4.gx g1.gx⟩)
  exact ⟨x, t, Ts.map V.ty, .type (tyD d), Ts.map Value.type, _, rfl, upd_same, clsAll Ts, ra2.tyX, kit_tys hT, p2 S1 _ (I1.gr g1) g1.gx _ (.bl _)⟩

/-! ### a < b < c -/
def eChain (op op' : D → D → Option Sl) (f g h : M Sl) : M Sl := M.bind (opnd f) fun r1 => M.bind (opnd g) fun r2 => M.bind (rdM r1) fun a => M.bind (rdM r2) fun b => match op a b with
  | some (.val (.bool true)) => M.bind (opnd h) fun r3 => M.bind (rdM r2) fun b => M.bind (rdM r3) fun c => liftO (op' b c)
  | some (.val (.bool false)) => M.ret (.val (.bool false))
  | _ => fun _ => .bad
theorem de_chain {r r' : R2} {op op' : D → D → Option Sl} (ho : OD r op) (ho' : OD r' op') (ha : DE mg W ta f) (hb : DE mg W tb g) (hc : DE mg W tc h) : DE mg W (tChain r r' ta tb tc) (eChain op op' f g h) := by
  intro B S H σ δ Q I p
  refine ha.o B S H σ δ _ I (Pst.mono (Pst.split p) fun r1 δ1 S1 H1 I1 G1 p1 x rx => ?_)
  refine hb.o B S1 H1 σ δ1 _ I1 (Pst.mono (Pst.split p1) fun r2 δ2 S2 H2 I2 G2 p2 y ry => ?_)
  obtain ⟨a, ra, p3⟩ := Pst.rdM I2 (rx.gx G2) p2
  obtain ⟨b, rb, p4⟩ := Pst.rdM I2 ry p3
  cases eo : op a b with
  | none => rw [eo] at p4; exact p4.elim
  | some s =>
    cases s with
    | val d =>
      cases d with
      | bool k =>
        refine ho S2 H2 x y a b _ I2.dom ra rb ?_
        rw [eo]
        intro S3 H3 v g3 rv
        have ev := Rep1.bl (.inl (show Rep S3 H3 v (.bool k) from rv))
        refine ⟨k, ev, ?_⟩
        have I3 := I2.gr g3
        rw [eo] at p4
        cases k with
        | false =>
          rw [if_neg Bool.false_ne_true]
          exact p4 S3 H3 I3 g3.gx _ (.bl _)
        | true =>
          rw [if_pos rfl]
          refine hc.o B S3 H3 σ δ2 _ I3 (Pst.mono (Pst.split (Pst.gx p4 g3.gx)) fun r3 δ3 S4 H4 I4 G4 p5 z rz => ?_)
          obtain ⟨b', rb', p6⟩ := Pst.rdM I4 (ry.gx (g3.gx.trans G4)) p5
          obtain ⟨c, rc, p7⟩ := Pst.rdM I4 rz p6
          exact ho' S4 H4 y z b' c Q I4.dom rb' rc (Pst.lift I4 p7)
      | _ => rw [eo] at p4; exact p4.elim
    | _ => rw [eo] at p4; exact p4.elim

/-! ### x += e -/
def sAug (i : Nat) (op : D → D → Option Sl) (e : M Sl) : SM := fun δ => match δ[i]? with
  | some (.val a) => M.bind (opnd e) (fun r => M.bind (rdM r) fun b => M.bind (liftO (op a b)) fun s => M.bind (storeM i s) fun _ => M.ret .nx) δ
  | _ => .bad
theorem ds_aug {i : Nat} {r : R2} {op : D → D → Option Sl} (ho : OD r op) (hb : DE mg W te e) : DS mg W (tAug i te r) (sAug i op e) := by
  intro B S H σ δ Ds I q
  unfold sAug at q
  cases es : δ[i]? with
  | none => simp only [es] at q; exact q.elim
  | some s =>
    cases s with
    | val a =>
      simp only [es] at q
      have hl : i < σ.length := by rw [I.len]; exact (List.getElem?_eq_some_iff.mp es).1
      have eσ : σ[i]? = some σ[i] := List.getElem?_eq_getElem hl
      obtain ⟨x, ex, rx⟩ := I.slot i _ _ eσ es
      refine ⟨x, by rw [eσ, ex], ?_⟩
      refine hb.o B S H σ δ _ I (Pst.mono (PstS.split q) fun r1 δ1 S1 H1 I1 G1 q1 y ry => ?_)
      have q2 : Pst mg W B S1 H1 σ (rdM r1 δ1) (fun b δ1 S1 H1 => PstS mg W B S1 H1 (M.bind (liftO (op a b)) (fun s => M.bind (storeM i s) fun _ => M.ret .nx) δ1) Ds) := PstS.split q1
      unfold rdM at q2
      cases er : rd δ1 r1 with
      | none => rw [er] at q2; exact q2.elim
      | some b =>
        rw [er] at q2
        have q3 := q2 S1 H1 I1 (Gx.refl S1 H1)
        dsimp only at q3
        have q4 : Pst mg W B S1 H1 σ (liftO (op a b) δ1) (fun s δ1 S1 H1 => PstS mg W B S1 H1 (M.bind (storeM i s) (fun _ => M.ret .nx) δ1) Ds) := PstS.split q3
        refine ho S1 H1 x y a b _ I1.dom (.inl (rx.gx G1)) (ry.rd I1 er) ?_
        cases eo : op a b with
        | none => rw [eo] at q4; exact q4.elim
        | some s =>
          rw [eo] at q4
          intro S2 H2 v g2 rv
          have I2 := I1.gr g2
          have q5 := q4 S2 H2 I2 g2.gx
          dsimp only at q5
          cases s with
          | val d => exact q5 S2 H2 _ (I2.set ⟨v, rfl, rv⟩ (fun _ z => by cases z) (fun z => by cases z)) (Gx.refl S2 H2)
          | own ds =>
            obtain ⟨a', vs, e', hn, n, h', r'⟩ := rv
            exact q5 S2 H2 _ (I2.set ⟨a', vs, by rw [e'], n, h', r'⟩ (fun _ z => by cases z) (fun _ => ⟨a', e', I1.frN hn⟩)) (Gx.refl S2 H2)
          | ownD ds =>
            obtain ⟨a', vs, e', hn, n, h', r'⟩ := rv
            exact q5 S2 H2 _ (I2.set ⟨a', vs, by rw [e'], n, h', r'⟩ (fun _ z => by cases z) (fun _ => ⟨a', e', I1.frN hn⟩)) (Gx.refl S2 H2)
          | _ => exact q5.elim
    | _ => simp only [es] at q; exact q.elim
/-! ### raise X() -/
def sRaise (x : Str) : SM := fun δ => .ex ⟨x, none⟩ δ
def tRaiseC (W : WX) (C : Addr) : TS := fun _ σ H => W (.ref C) none σ H
theorem ds_raise {x : Str} {C : Addr} (hm : mg x = some (.ref C)) : DS mg W (tRaiseC W C) (sRaise x) := fun B S H σ δ Ds I q => q S H σ _ _ I (Gx.refl S H) ⟨C, hm, rfl, rfl⟩
end
/-- an own exception class without own __init__ -/
structure Er (K : PySem.W.Frag) (mg : Str → Option Value) (x : Str) (C : Addr) : Prop where
  gC : mg x = some (.ref C)
  qC : PySem.W.excIn K C [.type "ValueError", .type "Exception", .type "BaseException", .type "object"] "ValueError.__new__" = true
  kC : PySem.W.keepIn K (.ref C) = true
  sC : PySem.W.subIn K (.ref C) (.type "BaseException") = some true
  tC : PySem.W.typeIn K (.ref C) = some (.type "type")
section
variable {X : Cx} {W : WX}
theorem pmk_own0 {C : Addr} {x : Str} {p pos : Pos} (h : Er X.K X.mg x C) (hg : Gl X x) (hdb : (x == ("__debug__" : Str)) = false := by decide) : PMk X (.Call (.Name x p) [] [] pos) (fun _ H Q => Q (.ref C) none H) := by
  intro pins s σ H Q I q
  refine wpAny_Call_Name_kw (ld_glob I hg h.gC ?_ hdb)
  refine PySem.W.callWith_K0 I.kIn h.kC ?_
  show wpAny _ _ (call (.ref C) []) _ _ _
  obtain ⟨bm, N, nm, qn, bs, hdct, sn, sub, ab, col, dd, k0, k1, k2, k3, k5, mN, hC, hN, hni, T⟩ := exc_obj I.kIn h.qC
  refine wpAny_call_exc_subT PySem.F.excBase_ValueError T hC hN hni (fun h' e hm => ?_) (by show 0 ≤ sizeLine; exact Nat.zero_le _)
  exact mk_of I hm (raises_own h.sC h.tC) q (I.hok.gone hm.new)
end
end DW

set_option Elab.async false
set_option linter.all false
set_option maxRecDepth 100000
set_option maxHeartbeats 2000000
/-! DW: one word a construct: the rule of the text with what it gives. -/
namespace DW
open PySem PySem.Spec PyProof.Rows L2

structure PDS (X : Cx) (W : WX) (st : Stmt) (ts : TS) (f : SM) : Prop where
  ps : PS X st ts
  ds : DS X.mg W ts f
structure PDB (X : Cx) (W : WX) (sts : List Stmt) (ts : TS) (f : SM) : Prop where
  ps : PSs X sts ts
  ds : DS X.mg W ts f
structure PTg (X : Cx) (e : Expr) (g : TG) (f : D → DW.Env → Option DW.Env) : Prop where
  pg : PG X e g
  dg : DG g f
structure PTgs (X : Cx) (es : List Expr) (g : TGs) (f : List D → DW.Env → Option DW.Env) : Prop where
  pg : PGs X es g
  dg : DGs g f
structure PIt (X : Cx) (W : WX) (tg iter : Expr) (wi : TI) (f : M (List D)) : Prop where
  pi : PI X tg iter wi
  di : DI X.mg W wi f
structure PDO (X : Cx) (W : WX) (e : Option Expr) (t : TO) (f : M (Option Int)) : Prop where
  po : PO X e t
  d : DOp X.mg W t f
section
variable {X : Cx} {W : WX} {a b c e : Expr} {es rest : List Expr} {ta tb tc te : TE} {t : TA} {f g h : M Sl} {fs : M (List Sl)} {pos apos cpos p : Pos} {x : Str} {tt tu : TT} {bp bq : M Bool} {j : Nat}
/-! ### names and constants -/
theorem pd_v (i : Nat) (hN : X.N[i]? = some x := by rfl) (hv : Vis X.env.scope x := by first | exact Or.inl rfl | exact Or.inr (Or.inl rfl) | exact Or.inr (Or.inr rfl)) (hd : (x == ("__debug__" : Str)) = false := by decide)
    (hcd : (x == ("__classdict__" : Str)) = false := by decide) : PD X W (.Name x pos) (tVar i) (eVar i) := ⟨pe_var hN hv hd hcd, de_var⟩
theorem pd_int {i : Int} : PD X W (.Constant (.int i) j pos) (tC (.int i)) (eC (.int i)) := ⟨pe_int, de_int⟩
theorem pd_bl {k : Bool} : PD X W (.Constant (.bool k) j pos) (tC (.bl k)) (eC (.bool k)) := ⟨pe_bl, de_bl⟩
theorem pd_non : PD X W (.Constant .none j pos) (tC .non) (eC .none) := ⟨pe_non, de_non⟩
theorem pd_str {y : Str} : PD X W (.Constant (.str y) j pos) (tC (.str y)) (eC (.str y)) := ⟨pe_str, de_str⟩
theorem pd_gint {n : Int} {tk : Tok} (hm : X.mg x = some (.int n tk)) (hg : Gl X x := by rfl) (hd : (x == ("__debug__" : Str)) = false := by decide) : PD X W (.Name x pos) (tC (.int n)) (eC (.int n)) := ⟨pe_glob hg hm ⟨_, rfl⟩ hd, de_int⟩
theorem pd_gstr {n : Str} {tk : Tok} (hm : X.mg x = some (.str n tk)) (hg : Gl X x := by rfl) (hd : (x == ("__debug__" : Str)) = false := by decide) : PD X W (.Name x pos) (tC (.str n)) (eC (.str n)) := ⟨pe_glob hg hm ⟨_, rfl⟩ hd, de_str⟩
/-! ### operators -/
theorem op_addAll : OpR X (binaryOp .Add) (rAddD X.K) := op_add.or (op_add_str.or (op_cat.or op_catT))
theorem op_mulAll : OpR X (binaryOp .Mult) rMulD := op_mulW.or op_rep
theorem pd_add (ha : PD X W a ta f) (hb : PD X W b tb g) : PD X W (.BinOp a .Add b pos) (tOp (rAddD X.K) ta tb) (eOp dAdd f g) := ⟨pe_op op_addAll ha.pe hb.pe, de_op od_add ha.de hb.de⟩
theorem pd_sub (ha : PD X W a ta f) (hb : PD X W b tb g) : PD X W (.BinOp a .Sub b pos) (tOp (rI0 fun i j => .int (i - j)) ta tb) (eOp dSub f g) := ⟨pe_op op_sub ha.pe hb.pe, de_op od_sub ha.de hb.de⟩
theorem pd_mul (ha : PD X W a ta f) (hb : PD X W b tb g) : PD X W (.BinOp a .Mult b pos) (tOp rMulD ta tb) (eOp dMul f g) := ⟨pe_op op_mulAll ha.pe hb.pe, de_op od_mul ha.de hb.de⟩
theorem pd_div (ha : PD X W a ta f) (hb : PD X W b tb g) : PD X W (.BinOp a .FloorDiv b pos) (tOp (rI CDivW fun i j => .int (i / j)) ta tb) (eOp dDiv f g) := ⟨pe_op op_fdivW ha.pe hb.pe, de_op od_div ha.de hb.de⟩
theorem pd_mod (ha : PD X W a ta f) (hb : PD X W b tb g) : PD X W (.BinOp a .Mod b pos) (tOp (rI (fun _ j => 0 < j) fun i j => .int (i % j)) ta tb) (eOp dMod f g) := ⟨pe_op op_mod ha.pe hb.pe, de_op od_mod ha.de hb.de⟩
theorem pd_pow (ha : PD X W a ta f) (hb : PD X W b tb g) : PD X W (.BinOp a .Pow b pos) (tOp (rI (fun i j => 0 ≤ j ∧ (Builtin.Int.intBits i : Int) * j ≤ 2 ^ 27) fun i j => .int (i ^ j.toNat)) ta tb) (eOp dPow f g) := ⟨pe_op op_powB ha.pe hb.pe, de_op od_pow ha.de hb.de⟩
theorem pd_neg (ha : PD X W a ta f) : PD X W (.UnaryOp .USub a pos) (tUn (rU fun i => .int (-i)) ta) (eUn dNeg f) := ⟨pe_un un_neg ha.pe, de_un ou_neg ha.de⟩
/-! ### comparisons: as a value, as a test -/
theorem pd_eq {k : Nat} (hr : Room k X.A) (ha : PD X W a ta f) (hb : PD X W b tb g) : PD X W (.Compare a [.Eq] [b] pos) (tOp (rEqD X.K) ta tb) (eOp dEq f g) := ⟨pe_cmpR (op_eqD hr.units) ha.pe hb.pe (nomark _), de_op od_eq ha.de hb.de⟩
theorem pd_ne {k : Nat} (hr : Room k X.A) (ha : PD X W a ta f) (hb : PD X W b tb g) : PD X W (.Compare a [.NotEq] [b] pos) (tOp (rNeD X.K) ta tb) (eOp dNe f g) := ⟨pe_cmpR (op_neD hr.units) ha.pe hb.pe (nomark _), de_op od_ne ha.de hb.de⟩
theorem pd_lt (ha : PD X W a ta f) (hb : PD X W b tb g) : PD X W (.Compare a [.Lt] [b] pos) (tOp (rI0 fun i j => .bl (decide (i < j))) ta tb) (eOp dLt f g) := ⟨pe_cmpR op_lt ha.pe hb.pe (nomark _), de_op od_lt ha.de hb.de⟩
theorem pd_le (ha : PD X W a ta f) (hb : PD X W b tb g) : PD X W (.Compare a [.LtE] [b] pos) (tOp (rI0 fun i j => .bl (decide (i ≤ j))) ta tb) (eOp dLe f g) := ⟨pe_cmpR op_le ha.pe hb.pe (nomark _), de_op od_le ha.de hb.de⟩
theorem pd_gt (ha : PD X W a ta f) (hb : PD X W b tb g) : PD X W (.Compare a [.Gt] [b] pos) (tOp (rI0 fun i j => .bl (decide (j < i))) ta tb) (eOp dGt f g) := ⟨pe_cmpR op_gt ha.pe hb.pe (nomark _), de_op od_gt ha.de hb.de⟩
theorem pd_ge (ha : PD X W a ta f) (hb : PD X W b tb g) : PD X W (.Compare a [.GtE] [b] pos) (tOp (rI0 fun i j => .bl (decide (j ≤ i))) ta tb) (eOp dGe f g) := ⟨pe_cmpR op_ge ha.pe hb.pe (nomark _), de_op od_ge ha.de hb.de⟩
theorem pd_isN (ha : PD X W a ta f) (hb : PD X W b tb g) : PD X W (.Compare a [.Is] [b] pos) (tOp rIsNn ta tb) (eOp dIsN f g) := ⟨pe_cmpR op_isN ha.pe hb.pe (nomark _), de_op od_isN ha.de hb.de⟩
theorem pd_notN (ha : PD X W a ta f) (hb : PD X W b tb g) : PD X W (.Compare a [.IsNot] [b] pos) (tOp rNotNn ta tb) (eOp dNotN f g) := ⟨pe_cmpR op_notN ha.pe hb.pe (nomark _), de_op od_notN ha.de hb.de⟩
theorem pd_in (ha : PD X W a ta f) (hb : PD X W b tb g) (hm : behindInMarks .In b = false := by rfl) : PD X W (.Compare a [.In] [b] pos) (tOp (rIn X.K false) ta tb) (eOp (dIn false) f g) := ⟨pe_cmpR op_in_seq ha.pe hb.pe hm, de_op od_in ha.de hb.de⟩
theorem pd_nin (ha : PD X W a ta f) (hb : PD X W b tb g) (hm : behindInMarks .NotIn b = false := by rfl) : PD X W (.Compare a [.NotIn] [b] pos) (tOp (rIn X.K true) ta tb) (eOp (dIn true) f g) := ⟨pe_cmpR op_notIn_seq ha.pe hb.pe hm, de_op od_in ha.de hb.de⟩
theorem pt_eq {k : Nat} (hr : Room k X.A) (ha : PD X W a ta f) (hb : PD X W b tb g) : PDT X W (.Compare a [.Eq] [b] pos) (tTest (tOp (rEqD X.K) ta tb)) (tB' (eOp dEq f g)) := ⟨pt_cmpR (op_eqD hr.units) ha.pe hb.pe (nomark _), dt_b (de_op od_eq ha.de hb.de)⟩
theorem pt_ne {k : Nat} (hr : Room k X.A) (ha : PD X W a ta f) (hb : PD X W b tb g) : PDT X W (.Compare a [.NotEq] [b] pos) (tTest (tOp (rNeD X.K) ta tb)) (tB' (eOp dNe f g)) := ⟨pt_cmpR (op_neD hr.units) ha.pe hb.pe (nomark _), dt_b (de_op od_ne ha.de hb.de)⟩
theorem pt_lt (ha : PD X W a ta f) (hb : PD X W b tb g) : PDT X W (.Compare a [.Lt] [b] pos) (tTest (tOp (rI0 fun i j => .bl (decide (i < j))) ta tb)) (tB' (eOp dLt f g)) := ⟨pt_cmpR op_lt ha.pe hb.pe (nomark _), dt_b (de_op od_lt ha.de hb.de)⟩
theorem pt_le (ha : PD X W a ta f) (hb : PD X W b tb g) : PDT X W (.Compare a [.LtE] [b] pos) (tTest (tOp (rI0 fun i j => .bl (decide (i ≤ j))) ta tb)) (tB' (eOp dLe f g)) := ⟨pt_cmpR op_le ha.pe hb.pe (nomark _), dt_b (de_op od_le ha.de hb.de)⟩
theorem pt_gt (ha : PD X W a ta f) (hb : PD X W b tb g) : PDT X W (.Compare a [.Gt] [b] pos) (tTest (tOp (rI0 fun i j => .bl (decide (j < i))) ta tb)) (tB' (eOp dGt f g)) := ⟨pt_cmpR op_gt ha.pe hb.pe (nomark _), dt_b (de_op od_gt ha.de hb.de)⟩
theorem pt_ge (ha : PD X W a ta f) (hb : PD X W b tb g) : PDT X W (.Compare a [.GtE] [b] pos) (tTest (tOp (rI0 fun i j => .bl (decide (j ≤ i))) ta tb)) (tB' (eOp dGe f g)) := ⟨pt_cmpR op_ge ha.pe hb.pe (nomark _), dt_b (de_op od_ge ha.de hb.de)⟩
theorem pt_isN (ha : PD X W a ta f) (hb : PD X W b tb g) : PDT X W (.Compare a [.Is] [b] pos) (tTest (tOp rIsNn ta tb)) (tB' (eOp dIsN f g)) := ⟨pt_cmpR op_isN ha.pe hb.pe (nomark _), dt_b (de_op od_isN ha.de hb.de)⟩
theorem pt_notN (ha : PD X W a ta f) (hb : PD X W b tb g) : PDT X W (.Compare a [.IsNot] [b] pos) (tTest (tOp rNotNn ta tb)) (tB' (eOp dNotN f g)) := ⟨pt_cmpR op_notN ha.pe hb.pe (nomark _), dt_b (de_op od_notN ha.de hb.de)⟩
theorem pt_in (ha : PD X W a ta f) (hb : PD X W b tb g) (hm : behindInMarks .In b = false := by rfl) : PDT X W (.Compare a [.In] [b] pos) (tTest (tOp (rIn X.K false) ta tb)) (tB' (eOp (dIn false) f g)) := ⟨pt_cmpR op_in_seq ha.pe hb.pe hm, dt_b (de_op od_in ha.de hb.de)⟩
theorem pt_nin (ha : PD X W a ta f) (hb : PD X W b tb g) (hm : behindInMarks .NotIn b = false := by rfl) : PDT X W (.Compare a [.NotIn] [b] pos) (tTest (tOp (rIn X.K true) ta tb)) (tB' (eOp (dIn true) f g)) := ⟨pt_cmpR op_notIn_seq ha.pe hb.pe hm, dt_b (de_op od_in ha.de hb.de)⟩
/-- the rules of < <= > >= in a chain -/
structure COp (X : Cx) (op : CmpOp) (r : R2) (o : D → D → Option Sl) : Prop where
  ro : OpR X (compareOp op) r
  od : OD r o
theorem c_lt : COp X .Lt (rI0 fun i j => .bl (decide (i < j))) dLt := ⟨op_lt, od_lt⟩
theorem c_le : COp X .LtE (rI0 fun i j => .bl (decide (i ≤ j))) dLe := ⟨op_le, od_le⟩
theorem c_gt : COp X .Gt (rI0 fun i j => .bl (decide (j < i))) dGt := ⟨op_gt, od_gt⟩
theorem c_ge : COp X .GtE (rI0 fun i j => .bl (decide (j ≤ i))) dGe := ⟨op_ge, od_ge⟩
theorem c_eq {k : Nat} (hr : Room k X.A) : COp X .Eq (rEqD X.K) dEq := ⟨op_eqD hr.units, od_eq⟩
theorem c_ne {k : Nat} (hr : Room k X.A) : COp X .NotEq (rNeD X.K) dNe := ⟨op_neD hr.units, od_ne⟩
theorem pd_chain {op op' : CmpOp} {r r' : R2} {o o' : D → D → Option Sl} (h1 : COp X op r o) (h2 : COp X op' r' o') (ha : PD X W a ta f) (hb : PD X W b tb g) (hc : PD X W c tc h)
    (hm : lastMarks [op, op'] [b, c] = false := by with_unfolding_all rfl) : PD X W (.Compare a [op, op'] [b, c] pos) (tChain r r' ta tb tc) (eChain o o' f g h) := ⟨pe_chain h1.ro h2.ro ha.pe hb.pe hc.pe hm, de_chain h1.od h2.od ha.de hb.de hc.de⟩
theorem pt_chain {op op' : CmpOp} {r r' : R2} {o o' : D → D → Option Sl} (h1 : COp X op r o) (h2 : COp X op' r' o') (ha : PD X W a ta f) (hb : PD X W b tb g) (hc : PD X W c tc h)
    (hm : lastMarks [op, op'] [b, c] = false := by with_unfolding_all rfl) : PDT X W (.Compare a [op, op'] [b, c] pos) (tTest (tChain r r' ta tb tc)) (tB' (eChain o o' f g h)) := ⟨L2.pt_chain h1.ro h2.ro ha.pe hb.pe hc.pe hm, dt_b (de_chain h1.od h2.od ha.de hb.de hc.de)⟩
/-! ### and, or, not, if -/
theorem pd_one {op : BoolOp} (ha : PD X W a ta f) : PD X W (.BoolOp op [a] pos) ta f := ⟨pe_one ha.pe, ha.de⟩
theorem pd_and (ha : PD X W a ta f) (hb : PD X W (.BoolOp .And (b :: rest) pos) tb g) : PD X W (.BoolOp .And (a :: b :: rest) pos) (tAndT X.K ta tb) (eAnd f g) := ⟨pe_andT ha.pe hb.pe, de_and ha.de hb.de⟩
theorem pd_or (ha : PD X W a ta f) (hb : PD X W (.BoolOp .Or (b :: rest) pos) tb g) : PD X W (.BoolOp .Or (a :: b :: rest) pos) (tOrT X.K ta tb) (eOr f g) := ⟨pe_orT ha.pe hb.pe, de_or ha.de hb.de⟩
theorem pd_not (ha : PD X W a ta f) : PD X W (.UnaryOp .Not a pos) (tNotT X.K ta) (eNot f) := ⟨pe_notT ha.pe, de_not ha.de⟩
theorem pd_if (hc : PDT X W c tt bp) (ha : PD X W a ta f) (hb : PD X W b tb g) : PD X W (.IfExp c a b pos) (tIf tt ta tb) (eIf bp f g) := ⟨pe_ifExp hc.pt ha.pe hb.pe, de_if hc.dt ha.de hb.de⟩
theorem pt_tru (ha : PD X W a ta f) (he : ∀ whole, isTrue a X.env whole = (do let v ← whole; standAt a.pos; holding [v] (truthy v)) := by intro _; rfl) : PDT X W a (fun σ H Q => ta σ H fun x H' => ∃ k, TruV X.K x H' k ∧ Q k H') (truM f) := ⟨pt_truth ha.pe he, dt_tru ha.de⟩
theorem pw_and1 (ha : PDT X W a tt bp) : PDW X W (.BoolOp .And [a] pos) tt bp := ⟨L2.pw_and1 ha.pt, ha.dt⟩
theorem pw_or1 (ha : PDT X W a tt bp) : PDW X W (.BoolOp .Or [a] pos) tt bp := ⟨L2.pw_or1 ha.pt, ha.dt⟩
theorem pw_and (ha : PDT X W a tt bp) (hb : PDW X W (.BoolOp .And (b :: rest) pos) tu bq) : PDW X W (.BoolOp .And (a :: b :: rest) pos) (tAnd tt tu) (andM bp bq) := ⟨L2.pw_and ha.pt hb.pw, dt_and ha.dt hb.dt⟩
theorem pw_or (ha : PDT X W a tt bp) (hb : PDW X W (.BoolOp .Or (b :: rest) pos) tu bq) : PDW X W (.BoolOp .Or (a :: b :: rest) pos) (tOr tt tu) (orM bp bq) := ⟨L2.pw_or ha.pt hb.pw, dt_or ha.dt hb.dt⟩
theorem pt_not (ha : PDT X W a tt bp) : PDT X W (.UnaryOp .Not a pos) (tNot tt) (notM bp) := ⟨L2.pt_not ha.pt, dt_not ha.dt⟩
/-! ### arguments, displays, places -/
theorem pda_nil : PDA X W [] tNil aNil := ⟨pa_nil, da_nil⟩
theorem pda_cons (ha : PD X W e te f) (hb : PDA X W es t fs) (hs : starEach (e :: es) X.env = (false, eval e X.env) :: starEach es X.env := by rfl) : PDA X W (e :: es) (tCons te t) (aCons f fs) := ⟨pa_cons ha.pe hb.pa hs, da_cons ha.de hb.da⟩
theorem pd_tup {k : Nat} (ha : PDA X W es t fs) : PD X W (.Tuple es k pos) (tTup t) (eTup fs) := ⟨pe_tup ha.pa, de_tup ha.da⟩
theorem pd_lst (ha : PDA X W es t fs) : PD X W (.List es pos) (tLst t) (eLst fs) := ⟨pe_lst ha.pa, de_lst ha.da⟩
theorem pd_ix (ha : PD X W a ta f) (hb : PD X W b tb g) (hs : PlainIx b := by exact fun _ _ => rfl) : PD X W (.Subscript a b pos) (tOp (rIx X.K) ta tb) (eOp dIx f g) := ⟨pe_ix ix_seq ha.pe hb.pe hs, de_op od_ix ha.de hb.de⟩
theorem po_n : PDO X W none tNoPart oNone := ⟨po_none, do_none⟩
theorem po_s (ha : PD X W a ta f) : PDO X W (some a) (tPart ta) (oSome f) := ⟨po_some ha.pe, do_some ha.de⟩
theorem pd_sl {lo hi : Option Expr} {tl th : TO} {fl fh : M (Option Int)} {p2 : Pos} (ha : PD X W e te f) (hl : PDO X W lo tl fl) (hh : PDO X W hi th fh) : PD X W (.Subscript e (.Slice lo hi none p2) pos) (tSl (rSlD X.K) te tl th) (eSl f fl fh) := ⟨pe_slice sl_all ha.pe hl.po hh.po, de_sl ha.de hl.d hh.d⟩
/-! ### built-ins by their names -/
theorem pd_bi {id : String} {r : List V → Hp → VK → Prop} {op : List D → Option Sl} (hc : CallR X (.builtin id) r) (ho : OB r op) (hm : X.mg x = none) (ha : PDA X W (e :: es) t fs) (hv : bootBuiltins x = some (.builtin id)) (hg : Gl X x := by rfl)
    (hn : x ≠ "__name__" := by decide) (hdb : (x == ("__debug__" : Str)) = false := by decide) (he : starEach (e :: es) X.env = (false, eval e X.env) :: starEach es X.env := by rfl) (hpl : (backTo pos (starEach es X.env)).any (·.1) = false := by rfl) :
    PD X W (.Call (.Name x p) (e :: es) [] pos) (tCB r t) (eB op fs) := ⟨pe_callB hc hg hm hv ha.pa hn hdb he hpl, de_b ho ha.da⟩
theorem pd_ty {T : String} {r : List V → Hp → VK → Prop} {op : List D → Option Sl} (hc : CallR X (.type T) r) (ho : OB r op) (hm : X.mg x = none) (ha : PDA X W (e :: es) t fs) (hv : bootBuiltins x = some (.type T)) (hg : Gl X x := by rfl)
    (hn : x ≠ "__name__" := by decide) (hdb : (x == ("__debug__" : Str)) = false := by decide) (he : starEach (e :: es) X.env = (false, eval e X.env) :: starEach es X.env := by rfl) (hpl : (backTo pos (starEach es X.env)).any (·.1) = false := by rfl) :
    PD X W (.Call (.Name x p) (e :: es) [] pos) (tCB r t) (eB op fs) := ⟨pe_callTy hc hg hm hv ha.pa hn hdb he hpl, de_b ho ha.da⟩
theorem boot_tuple' : bootBuiltins ("tuple" : Str) = some (.type "tuple") := by decide +kernel
theorem boot_list' : bootBuiltins ("list" : Str) = some (.type "list") := by decide +kernel
theorem boot_int' : bootBuiltins ("int" : Str) = some (.type "int") := by decide +kernel
theorem boot_bool' : bootBuiltins ("bool" : Str) = some (.type "bool") := by decide +kernel
theorem boot_str' : bootBuiltins ("str" : Str) = some (.type "str") := by decide +kernel
theorem boot_dict' : bootBuiltins ("dict" : Str) = some (.type "dict") := by decide +kernel
theorem boot_len' : bootBuiltins ("len" : Str) = some (.builtin "len") := by decide +kernel
theorem boot_abs' : bootBuiltins ("abs" : Str) = some (.builtin "abs") := by decide +kernel
theorem boot_max' : bootBuiltins ("max" : Str) = some (.builtin "max") := by decide +kernel
theorem boot_min' : bootBuiltins ("min" : Str) = some (.builtin "min") := by decide +kernel
theorem boot_sum' : bootBuiltins ("sum" : Str) = some (.builtin "sum") := by decide +kernel
theorem boot_any' : bootBuiltins ("any" : Str) = some (.builtin "any") := by decide +kernel
theorem boot_all' : bootBuiltins ("all" : Str) = some (.builtin "all") := by decide +kernel
theorem boot_isi' : bootBuiltins ("isinstance" : Str) = some (.builtin "isinstance") := by decide +kernel
theorem boot_sorted' : bootBuiltins ("sorted" : Str) = some (.builtin "sorted") := by decide +kernel
section
variable (ha : PDA X W (e :: es) t fs) (hs : starEach (e :: es) X.env = (false, eval e X.env) :: starEach es X.env) (hp : (backTo pos (starEach es X.env)).any (·.1) = false)
theorem pd_len (hm : X.mg "len" = none) (ha : PDA X W (e :: es) t fs) (hg : Gl X "len" := by rfl) (he : starEach (e :: es) X.env = (false, eval e X.env) :: starEach es X.env := by rfl) (hpl : (backTo pos (starEach es X.env)).any (·.1) = false := by rfl) : PD X W (.Call (.Name "len" p) (e :: es) [] pos) (tCB (rLenV X.K) t) (eB (b1 nLen) fs) := pd_bi call_len ob_len hm ha boot_len' hg (by decide) (by decide) he hpl
theorem pd_int_ (hm : X.mg "int" = none) (ha : PDA X W (e :: es) t fs) (hg : Gl X "int" := by rfl) (he : starEach (e :: es) X.env = (false, eval e X.env) :: starEach es X.env := by rfl) (hpl : (backTo pos (starEach es X.env)).any (·.1) = false := by rfl) : PD X W (.Call (.Name "int" p) (e :: es) [] pos) (tCB rInt1 t) (eB (b1 nInt) fs) := pd_ty call_int1 ob_int hm ha boot_int' hg (by decide) (by decide) he hpl
theorem pd_abs (hm : X.mg "abs" = none) (ha : PDA X W (e :: es) t fs) (hg : Gl X "abs" := by rfl) (he : starEach (e :: es) X.env = (false, eval e X.env) :: starEach es X.env := by rfl) (hpl : (backTo pos (starEach es X.env)).any (·.1) = false := by rfl) : PD X W (.Call (.Name "abs" p) (e :: es) [] pos) (tCB rAbs1 t) (eB (b1 nAbs) fs) := pd_bi call_abs ob_abs hm ha boot_abs' hg (by decide) (by decide) he hpl
theorem pd_max2 (hm : X.mg "max" = none) (ha : PDA X W (e :: es) t fs) (hc : X.calm = true := by rfl) (hg : Gl X "max" := by rfl) (he : starEach (e :: es) X.env = (false, eval e X.env) :: starEach es X.env := by rfl) (hpl : (backTo pos (starEach es X.env)).any (·.1) = false := by rfl) : PD X W (.Call (.Name "max" p) (e :: es) [] pos) (tCB rMaxB t) (eB (b2 nMax2) fs) := pd_bi (call_max2 hc) ob_max2 hm ha boot_max' hg (by decide) (by decide) he hpl
theorem pd_min2 (hm : X.mg "min" = none) (ha : PDA X W (e :: es) t fs) (hc : X.calm = true := by rfl) (hg : Gl X "min" := by rfl) (he : starEach (e :: es) X.env = (false, eval e X.env) :: starEach es X.env := by rfl) (hpl : (backTo pos (starEach es X.env)).any (·.1) = false := by rfl) : PD X W (.Call (.Name "min" p) (e :: es) [] pos) (tCB rMinB t) (eB (b2 nMin2) fs) := pd_bi (call_min2 hc) ob_min2 hm ha boot_min' hg (by decide) (by decide) he hpl
theorem pd_maxL (hm : X.mg "max" = none) (ha : PDA X W (e :: es) t fs) (hc : X.calm = true := by rfl) (hg : Gl X "max" := by rfl) (he : starEach (e :: es) X.env = (false, eval e X.env) :: starEach es X.env := by rfl) (hpl : (backTo pos (starEach es X.env)).any (·.1) = false := by rfl) : PD X W (.Call (.Name "max" p) (e :: es) [] pos) (tCB (rMax X.K) t) (eB (b1 nMaxL) fs) := pd_bi (cr_max hc) ob_maxL hm ha boot_max' hg (by decide) (by decide) he hpl
theorem pd_minL (hm : X.mg "min" = none) (ha : PDA X W (e :: es) t fs) (hc : X.calm = true := by rfl) (hg : Gl X "min" := by rfl) (he : starEach (e :: es) X.env = (false, eval e X.env) :: starEach es X.env := by rfl) (hpl : (backTo pos (starEach es X.env)).any (·.1) = false := by rfl) : PD X W (.Call (.Name "min" p) (e :: es) [] pos) (tCB (rMin X.K) t) (eB (b1 nMinL) fs) := pd_bi (cr_min hc) ob_minL hm ha boot_min' hg (by decide) (by decide) he hpl
theorem pd_sum (hm : X.mg "sum" = none) (ha : PDA X W (e :: es) t fs) (hc : X.calm = true := by rfl) (hg : Gl X "sum" := by rfl) (he : starEach (e :: es) X.env = (false, eval e X.env) :: starEach es X.env := by rfl) (hpl : (backTo pos (starEach es X.env)).any (·.1) = false := by rfl) : PD X W (.Call (.Name "sum" p) (e :: es) [] pos) (tCB (rSum X.K) t) (eB (b1 nSum) fs) := pd_bi (cr_sum hc) ob_sum hm ha boot_sum' hg (by decide) (by decide) he hpl
theorem pd_any (hm : X.mg "any" = none) (ha : PDA X W (e :: es) t fs) (hc : X.calm = true := by rfl) (hg : Gl X "any" := by rfl) (he : starEach (e :: es) X.env = (false, eval e X.env) :: starEach es X.env := by rfl) (hpl : (backTo pos (starEach es X.env)).any (·.1) = false := by rfl) : PD X W (.Call (.Name "any" p) (e :: es) [] pos) (tCB (rAny X.K) t) (eB (b1 nAny) fs) := pd_bi (cr_any hc) ob_any hm ha boot_any' hg (by decide) (by decide) he hpl
theorem pd_all (hm : X.mg "all" = none) (ha : PDA X W (e :: es) t fs) (hc : X.calm = true := by rfl) (hg : Gl X "all" := by rfl) (he : starEach (e :: es) X.env = (false, eval e X.env) :: starEach es X.env := by rfl) (hpl : (backTo pos (starEach es X.env)).any (·.1) = false := by rfl) : PD X W (.Call (.Name "all" p) (e :: es) [] pos) (tCB (rAll X.K) t) (eB (b1 nAll) fs) := pd_bi (cr_all hc) ob_all hm ha boot_all' hg (by decide) (by decide) he hpl
theorem pd_list_ (hm : X.mg "list" = none) (ha : PDA X W (e :: es) t fs) (hg : Gl X "list" := by rfl) (he : starEach (e :: es) X.env = (false, eval e X.env) :: starEach es X.env := by rfl) (hpl : (backTo pos (starEach es X.env)).any (·.1) = false := by rfl) : PD X W (.Call (.Name "list" p) (e :: es) [] pos) (tCB (rListB X.K) t) (eB (b1 nList) fs) := pd_ty call_list_of ob_list hm ha boot_list' hg (by decide) (by decide) he hpl
theorem pd_tuple_ (hm : X.mg "tuple" = none) (ha : PDA X W (e :: es) t fs) (hg : Gl X "tuple" := by rfl) (he : starEach (e :: es) X.env = (false, eval e X.env) :: starEach es X.env := by rfl) (hpl : (backTo pos (starEach es X.env)).any (·.1) = false := by rfl) : PD X W (.Call (.Name "tuple" p) (e :: es) [] pos) (tCB (rTupB X.K) t) (eB (b1 nTuple) fs) := pd_ty call_tuple_of ob_tuple hm ha boot_tuple' hg (by decide) (by decide) he hpl
end
/-! ### isinstance(x, T), isinstance(x, (T1, ..)) of built-in types -/
theorem pe_tyN {T : Str} {n : String} (hm : X.mg T = none) (hv : bootBuiltins T = some (.type n)) (hg : Gl X T := by rfl) (hn : T ≠ "__name__" := by decide) (hd : (T == ("__debug__" : Str)) = false := by decide) : PE X (.Name T p) (tC (.ty n)) := pe_bltn hg hm hv rfl hn hd
theorem pd_isi1 {c : Expr} {T : String} (hm : X.mg "isinstance" = none) (hT : TyOk T) (ha : PD X W e te f) (hc : PE X c (tC (.ty T))) (hg : Gl X "isinstance" := by rfl)
    (h1 : starEach [e, c] X.env = (false, eval e X.env) :: starEach [c] X.env := by rfl) (h2 : starEach [c] X.env = (false, eval c X.env) :: starEach [] X.env := by rfl) (hpl : (backTo pos (starEach [c] X.env)).any (·.1) = false := by rfl) :
    PD X W (.Call (.Name "isinstance" p) [e, c] [] pos) (tCB (rIsi X.K) (tCons te (tCons (tC (.ty T)) tNil))) (eIsi [T] f) := ⟨pe_callB call_isi hg hm boot_isi' (pa_cons ha.pe (pa_cons hc pa_nil h2) h1) (by decide) (by decide) h1 hpl, de_isi1 hT ha.de⟩
structure PTys (X : Cx) (es : List Expr) (Ts : List String) : Prop where
  pa : PA X es (tTys Ts)
  ok : ∀ T ∈ Ts, TyOk T
theorem tys_nil : PTys X [] [] := ⟨pa_nil, fun _ h => by cases h⟩
theorem tys_cons {T : String} {Ts : List String} (hT : TyOk T) (hc : PE X e (tC (.ty T))) (hr : PTys X es Ts) (hs : starEach (e :: es) X.env = (false, eval e X.env) :: starEach es X.env := by rfl) : PTys X (e :: es) (T :: Ts) :=
  ⟨pa_cons hc hr.pa hs, fun U hU => (List.mem_cons.mp hU).elim (fun z => z ▸ hT) (hr.ok U)⟩
theorem pd_isiT {k : Nat} {Ts : List String} {tp : Pos} (hm : X.mg "isinstance" = none) (ha : PD X W e te f) (hc : PTys X es Ts) (hl : Ts.length ≤ 100 := by decide) (hg : Gl X "isinstance" := by rfl)
    (h1 : starEach [e, .Tuple es k tp] X.env = (false, eval e X.env) :: starEach [.Tuple es k tp] X.env := by rfl) (h2 : starEach [.Tuple es k tp] X.env = (false, eval (.Tuple es k tp) X.env) :: starEach [] X.env := by rfl) (hpl : (backTo pos (starEach [.Tuple es k tp] X.env)).any (·.1) = false := by rfl) :
    PD X W (.Call (.Name "isinstance" p) [e, .Tuple es k tp] [] pos) (tCB (rIsiT X.K) (tCons te (tCons (tTup (tTys Ts)) tNil))) (eIsi Ts f) := ⟨pe_callB call_isiT hg hm boot_isi' (pa_cons ha.pe (pa_cons (pe_tup hc.pa) pa_nil h2) h1) (by decide) (by decide) h1 hpl, de_isiT hc.ok hl ha.de⟩
/-! ### calls of defs -/
theorem pd_call {k n : Nat} {F : Fn} (G : Df X.prog X.w X.K X.mg X.base x k n F) {kk : Nat} (hr : Room kk X.A) (tk : Takes X W) (ha : PDA X W (e :: es) t fs) (hk : k ≤ kk := by decide) (hg : Gl X x := by rfl) (hdb : (x == ("__debug__" : Str)) = false := by decide)
    (he : starEach (e :: es) X.env = (false, eval e X.env) :: starEach es X.env := by rfl) (hpl : (backTo pos (starEach es X.env)).any (·.1) = false := by rfl) :
    PD X W (.Call (.Name x p) (e :: es) [] pos) (tCallSD (spD X.mg n F) [] (WE W) t) (eCallN n F fs) := by
  obtain ⟨f, fd, ps, hf, hm, kp, hb⟩ := G.ex
  exact ⟨pe_callSD hf (hr.mono hk) hg hm kp hb .nil (fun σ => passAt tk σ) ha.pa hdb he hpl, de_call ha.da⟩
/-- a def with defaults, called without the last ones -/
structure DfD (P : Program) (w : World) (K : PySem.W.Frag) (mg : Str → Option Value) (base : Heap) (x : Str) (k n : Nat) (F : Fn) (dds : List D) : Prop where
  ex : ∃ (f : Addr) (fd : FuncData) (ps : List Str) (ds : List Value), FnOk P w K mg base (L2.CX P w) k f fd ps (spD mg n F) ∧ mg x = some (.ref f) ∧ PySem.W.keepIn K (.ref f) = true ∧ Binds K fd ps ds ∧ Vals (dds.map vD) ds
  fl : dds.all flatD = true
theorem pd_callD {k n : Nat} {F : Fn} {dds : List D} (G : DfD X.prog X.w X.K X.mg X.base x k n F dds) {kk : Nat} (hr : Room kk X.A) (tk : Takes X W) (ha : PDA X W (e :: es) t fs) (hk : k ≤ kk := by decide) (hg : Gl X x := by rfl) (hdb : (x == ("__debug__" : Str)) = false := by decide)
    (he : starEach (e :: es) X.env = (false, eval e X.env) :: starEach es X.env := by rfl) (hpl : (backTo pos (starEach es X.env)).any (·.1) = false := by rfl) :
    PD X W (.Call (.Name x p) (e :: es) [] pos) (tCallSD (spD X.mg n F) (dds.map vD) (WE W) t) (eCallD n F dds fs) := by
  obtain ⟨f, fd, ps, ds, hf, hm, kp, hb, hv⟩ := G.ex
  exact ⟨pe_callSD hf (hr.mono hk) hg hm kp hb hv (fun σ => passAt tk σ) ha.pa hdb he hpl, de_callD G.fl ha.da⟩
theorem pd_call0 {k n : Nat} {F : Fn} (G : Df X.prog X.w X.K X.mg X.base x k n F) {kk : Nat} (hr : Room kk X.A) (hk : k ≤ kk := by decide) (hg : Gl X x := by rfl) (hdb : (x == ("__debug__" : Str)) = false := by decide) :
    PD X W (.Call (.Name x p) [] [] pos) (tCall (spD X.mg n F) [] E0 tNil) (eCall0 n F) := by
  obtain ⟨f, fd, ps, hf, hm, kp, hb⟩ := G.ex
  exact ⟨pe_call0 hf (hr.mono hk) hg hm kp hb .nil passL hdb, de_call0⟩
end
end DW

set_option Elab.async false
set_option linter.all false
set_option maxRecDepth 100000
set_option maxHeartbeats 2000000
/-! DW: one word a statement. -/
namespace DW
open PySem PySem.Spec PyProof.Rows L2
section
variable {X : Cx} {W : WX} {a b c e o idx elt tg iter : Expr} {es rest ifs : List Expr} {st : Stmt} {sts body els : List Stmt} {ta tb tc te to ti : TE} {t : TA} {f g h e' i' : M Sl} {fs : M (List Sl)} {pos apos cpos p pos' : Pos} {x y : Str} {tt tu : TT} {bp bq : M Bool} {j : Nat}
variable {ts us : TS} {sf sg : SM} {wi : TI} {gt : TG} {gs : TGs} {tgt : D → DW.Env → Option DW.Env} {tgts : List D → DW.Env → Option DW.Env} {src : M (List D)}
/-! ### blocks -/
theorem bl_nil : PDB X W [] tNext sNil := ⟨pss_nil, ds_nil⟩
theorem bl_cons (h1 : PDS X W st ts sf) (h2 : PDB X W sts us sg) : PDB X W (st :: sts) (tSeq ts us) (sSeq sf sg) := ⟨pss_cons h1.ps h2.ps, ds_seq h1.ds h2.ds⟩
theorem bl_one (h1 : PDS X W st ts sf) : PDB X W [st] ts sf := ⟨pss_one h1.ps, h1.ds⟩
/-- slot i is given up ahead -/
theorem bl_frz (i : Nat) (h : PDB X W sts ts sf) : PDB X W sts ts (sFrz i sf) := ⟨h.ps, ds_frz h.ds⟩
theorem st_frz (i : Nat) (h : PDS X W st ts sf) : PDS X W st ts (sFrz i sf) := ⟨h.ps, ds_frz h.ds⟩
/-! ### small statements -/
theorem st_ret (ha : PD X W e te f) : PDS X W (.Return (some e) pos) (tRet te) (sRet f) := ⟨ps_ret ha.pe, ds_ret ha.de⟩
theorem st_retN : PDS X W (.Return none pos) tRetN sRetN := ⟨ps_retN, ds_retN⟩
theorem st_pass : PDS X W (.Pass pos) tNext sNil := ⟨ps_pass, ds_nil⟩
theorem st_brk : PDS X W (.Break pos) tBreak sBrk := ⟨ps_break, ds_brk⟩
theorem st_cont : PDS X W (.Continue pos) tCont sCont := ⟨ps_continue, ds_cont⟩
theorem st_expr (ha : PD X W e te f) (hs : swapsWith e none pos.line X.env = pure false := by rfl) : PDS X W (.Expr e pos) (tDrop te) (sExpr f) := ⟨ps_expr ha.pe hs, ds_expr ha.de⟩
theorem st_if {p q : List Stmt} (hc : PDT X W c tt bp) (ha : PDB X W p ts sf) (hb : PDB X W q us sg) : PDS X W (.If c p q pos) (tIfS tt ts us) (sIf bp sf sg) := ⟨ps_if hc.pt ha.ps hb.ps, ds_if hc.dt ha.ds hb.ds⟩
theorem st_set (i : Nat) (hN : X.N.Nodup) (ha : PD X W e te f) (hi : X.N[i]? = some x := by rfl) (hx : Loc X.env.scope x := by first | exact Or.inl rfl | exact Or.inr rfl) (hs : swapsWith e (some (.Name x pos')) pos.line X.env = pure false := by rfl)
    (hf : X.fn x = true ∨ X.env.scope.names.lookup x = some .local := by first | exact .inl rfl | exact .inr rfl) : PDS X W (.Assign [.Name x pos'] e pos) (tAsg te (gName i)) (sAsg i f) := ⟨ps_set hN hi hx ha.pe hs hf, ds_asg ha.de⟩
theorem st_setV (i : Nat) (hN : X.N.Nodup) (ha : PD X W e te f) (hi : X.N[i]? = some x := by rfl) (hx : Loc X.env.scope x := by first | exact Or.inl rfl | exact Or.inr rfl) (hs : swapsWith e (some (.Name x pos')) pos.line X.env = pure false := by rfl)
    (hf : X.fn x = true ∨ X.env.scope.names.lookup x = some .local := by first | exact .inl rfl | exact .inr rfl) : PDS X W (.Assign [.Name x pos'] e pos) (tAsg te (gName i)) (sAsgV i f) := ⟨ps_set hN hi hx ha.pe hs hf, ds_asgV ha.de⟩
/-! ### targets -/
theorem tg_n (i : Nat) (hN : X.N.Nodup) (hi : X.N[i]? = some x := by rfl) (hx : Loc X.env.scope x := by first | exact Or.inl rfl | exact Or.inr rfl) (hf : X.fn x = true ∨ X.env.scope.names.lookup x = some .local := by first | exact .inl rfl | exact .inr rfl) : PTg X (.Name x pos) (gName i) (gN i) := ⟨pg_name hN hi hx hf, dg_name⟩
theorem tgs_nil : PTgs X [] gNil gsNil := ⟨pgs_nil, dgs_nil⟩
theorem tgs_cons (h1 : PTg X e gt tgt) (h2 : PTgs X es gs tgts) (hs : (assignEach (e :: es) X.env).map (·.2) = assign e X.env :: (assignEach es X.env).map (·.2) := by rfl) : PTgs X (e :: es) (gCons gt gs) (gsCons tgt tgts) := ⟨pgs_cons h1.pg h2.pg hs, dgs_cons h1.dg h2.dg⟩
theorem tg_tup {k n : Nat} (h : PTgs X es gs tgts) (hc : X.calm = true := by rfl) (hn : (assignEach es X.env).length = n := by rfl) (hst : (assignEach es X.env).findIdx? (·.1) = none := by rfl) : PTg X (.Tuple es k pos) (gTup X.K n gs) (gT n tgts) := ⟨pg_tup hc h.pg hn hst, dg_tup h.dg⟩
/-- a, b = e -/
theorem st_unp {k n : Nat} (ha : PD X W e te f) (h : PTgs X es gs tgts) (hc : X.calm = true := by rfl) (hn : (assignEach es X.env).length = n := by rfl) (hst : (assignEach es X.env).findIdx? (·.1) = none := by rfl)
    (hs : swapsWithSole [.Tuple es k pos'] e pos.line X.env = pure false := by rfl) (hw : swappedStores [.Tuple es k pos'] e X.env = pure none := by rfl) (h1 : (assignEach [.Tuple es k pos'] X.env).map (·.2) = [assign (.Tuple es k pos') X.env] := by rfl) :
    PDS X W (.Assign [.Tuple es k pos'] e pos) (tAsg te (gTup X.K n gs)) (sAsgT f (gT n tgts)) := ⟨ps_asg ha.pe (pg_tup hc h.pg hn hst) hs hw h1, ds_asgT ha.de h.dg⟩
/-- xs[k] = e -/
theorem st_store (i : Nat) (he : PD X W e te e') (hk : PD X W idx ti i') (hN : X.N[i]? = some x := by rfl) (hv : Vis X.env.scope x := by first | exact Or.inl rfl | exact Or.inr (Or.inl rfl) | exact Or.inr (Or.inr rfl)) (hd : (x == ("__debug__" : Str)) = false := by decide)
    (hcd : (x == ("__classdict__" : Str)) = false := by decide) {p2 : Pos}
    (hs : swapsWithSole [.Subscript (.Name x p) idx p2] e pos.line X.env = pure false := by rfl) (hw : swappedStores [.Subscript (.Name x p) idx p2] e X.env = pure none := by rfl) (h1 : (assignEach [.Subscript (.Name x p) idx p2] X.env).map (·.2) = [assign (.Subscript (.Name x p) idx p2) X.env] := by rfl)
    (ha : ∀ v, assign (.Subscript (.Name x p) idx p2) X.env v = (do
      let ov ← holding [v] (eval (.Name x p) X.env)
      let iv ← holding [v, ov] (eval idx X.env)
      standAt p2
      holding [v, ov, iv] (setItem ov iv v)
      release [v, ov, iv] []) := by intro _; rfl) :
    PDS X W (.Assign [.Subscript (.Name x p) idx p2] e pos) (tAsg te (gSub (tVar i) ti rSetL)) (sStore i e' i') := ⟨ps_asg he.pe (pg_sub (pe_var hN hv hd hcd) hk.pe set_list ha) hs hw h1, ds_store he.de hk.de⟩
theorem st_augI (i : Nat) {op : Operator} {r : R2} {dop : D → D → Option Sl} (hN : X.N.Nodup) (ho : OpR X (inplaceOp op) r) (hd : OD r dop) (ha : PD X W e te f) (hi : X.N[i]? = some x := by rfl) (hx : Loc X.env.scope x := by first | exact Or.inl rfl | exact Or.inr rfl)
    (hf : X.fn x = true ∨ X.env.scope.names.lookup x = some .local := by first | exact .inl rfl | exact .inr rfl) : PDS X W (.AugAssign (.Name x pos') op e pos) (tAug i te r) (sAug i dop f) := ⟨ps_aug hN hi hx ha.pe ho hf, ds_aug hd ha.de⟩
def dAddI : D → D → Option Sl := iOp (fun i j => .int (i + j)) fun _ _ => true
theorem st_addI (i : Nat) (hN : X.N.Nodup) (ha : PD X W e te f) (hi : X.N[i]? = some x := by rfl) (hx : Loc X.env.scope x := by first | exact Or.inl rfl | exact Or.inr rfl)
    (hf : X.fn x = true ∨ X.env.scope.names.lookup x = some .local := by first | exact .inl rfl | exact .inr rfl) : PDS X W (.AugAssign (.Name x pos') .Add e pos) (tAug i te (rI0 fun i j => .int (i + j))) (sAug i dAddI f) := st_augI i hN iop_add (OD.i0 fun _ _ _ _ => .int _) ha hi hx hf
theorem st_raise {C : Addr} (tk : Takes X W) (hC : Er X.K X.mg x C) (hc : X.calm = true := by rfl) (hg : Gl X x := by rfl) (hdb : (x == ("__debug__" : Str)) = false := by decide) : PDS X W (.Raise (some (.Call (.Name x p) [] [] apos)) none pos) (tRaiseC W C) (sRaise x) := ⟨ps_raise hc tk (pmk_own0 hC hg hdb), ds_raise hC.gC⟩
/-! ### loops -/
theorem it_list (ha : PD X W iter te f) : PIt X W tg iter (iList X.K te) (iLst f) := ⟨pi_list ha.pe, di_list ha.de⟩
theorem it_tup (ha : PD X W iter te f) : PIt X W tg iter (iTup X.K te) (iTpl f) := ⟨pi_tup ha.pe, di_tup ha.de⟩
theorem it_rg1 (hm : X.mg "range" = none) (ha : PDA X W [a] t fs) (hg : Gl X "range" := by rfl) (hs : starEach [a] X.env = [(false, eval a X.env)] := by rfl) : PIt X W tg (.Call (.Name "range" p) [a] [] pos) (iRng1 t) (iRg fs) := ⟨pi_range1 hg hm ha.pa hs, di_range1 ha.da⟩
theorem it_rg2 (hm : X.mg "range" = none) (ha : PDA X W [a, b] t fs) (hg : Gl X "range" := by rfl) (hs : starEach [a, b] X.env = [(false, eval a X.env), (false, eval b X.env)] := by rfl) (hs2 : starEach [b] X.env = [(false, eval b X.env)] := by rfl) : PIt X W tg (.Call (.Name "range" p) [a, b] [] pos) (iRng2 t) (iRg2 fs) := ⟨pi_range2 hg hm ha.pa hs hs2, di_range2 ha.da⟩
theorem st_for (tk : PassesOwn (model X.prog X.w) X.A X.env X.xe) (hi : PIt X W tg iter wi src) (hg : PTg X tg gt tgt) (hb : PDB X W body ts sf) (hc : X.calm = true := by rfl) (hs : ∀ x, foldedSetIterable iter X.env x = pure x := by intro _; rfl) :
    PDS X W (.For tg iter body [] pos) (tFor wi gt ts) (sFor src tgt sf) := ⟨ps_for tk hc hi.pi hg.pg hb.ps hs, ds_for hi.di hg.dg hb.ds⟩
theorem st_while (tk : PassesOwn (model X.prog X.w) X.A X.env X.xe) (hc : PDT X W c tt bp) (hb : PDB X W body ts sf) : PDS X W (.While c body [] pos) (tWhile tt ts) (sWhile bp sf) := ⟨ps_while tk hc.pt hb.ps, ds_while hc.dt hb.ds⟩
/-! ### lists changed in place -/
theorem pd_m1 {name : Str} {id : String} {r : V → List V → Hp → VK → Prop} {op : List D → List D → Option (Option D × List D)} (i : Nat) (slot : Slot "list" name id) (hty : typeOf (.builtin id) = pure (.type "method_descriptor")) (hm : MtR X id r) (mo : MutOk X.K r op)
    (ho : PE X o (tVar i)) (ha : PDA X W (e :: es) t fs)
    (hbase : attributeBase o name X.env (eval o X.env) = eval o X.env := by rfl)
    (hfew : ((backTo cpos (starEach (e :: es) X.env)).all (fun x => !x.1) && (backToKw cpos (keywordEach [] X.env)).all (fun x => x.1.isSome)
      && decide ((e :: es).length + ([] : List Keyword).length + (if ([] : List Keyword).isEmpty then 0 else 1) < 30)) = true := by rfl)
    (hline : (apos.endLine == cpos.line) = true := by rfl) (hs : starEach (e :: es) X.env = (false, eval e X.env) :: starEach es X.env := by rfl) (hplain : (backTo cpos (starEach es X.env)).any (·.1) = false := by rfl) :
    PD X W (.Call (.Attribute o name apos) (e :: es) [] cpos) (tBM X.K "list" r (tVar i) t) (mMut i op fs) := ⟨pe_bm PySem.F.plainAttrs_list slot hty hm ho ha.pa hbase hfew hline hs hplain, de_mut mo ha.da⟩
theorem pd_append (i : Nat) (ho : PE X o (tVar i)) (ha : PDA X W (e :: es) t fs)
    (hbase : attributeBase o "append" X.env (eval o X.env) = eval o X.env := by rfl)
    (hfew : ((backTo cpos (starEach (e :: es) X.env)).all (fun x => !x.1) && (backToKw cpos (keywordEach [] X.env)).all (fun x => x.1.isSome)
      && decide ((e :: es).length + ([] : List Keyword).length + (if ([] : List Keyword).isEmpty then 0 else 1) < 30)) = true := by rfl)
    (hline : (apos.endLine == cpos.line) = true := by rfl) (hs : starEach (e :: es) X.env = (false, eval e X.env) :: starEach es X.env := by rfl) (hplain : (backTo cpos (starEach es X.env)).any (·.1) = false := by rfl) :
    PD X W (.Call (.Attribute o "append" apos) (e :: es) [] cpos) (tBM X.K "list" rAppend (tVar i) t) (mMut i pAppend fs) := pd_m1 i PySem.F.slot_list_append PySem.F.type_list_append mt_append mo_append ho ha hbase hfew hline hs hplain
theorem pd_extend (i : Nat) (ho : PE X o (tVar i)) (ha : PDA X W (e :: es) t fs)
    (hbase : attributeBase o "extend" X.env (eval o X.env) = eval o X.env := by rfl)
    (hfew : ((backTo cpos (starEach (e :: es) X.env)).all (fun x => !x.1) && (backToKw cpos (keywordEach [] X.env)).all (fun x => x.1.isSome)
      && decide ((e :: es).length + ([] : List Keyword).length + (if ([] : List Keyword).isEmpty then 0 else 1) < 30)) = true := by rfl)
    (hline : (apos.endLine == cpos.line) = true := by rfl) (hs : starEach (e :: es) X.env = (false, eval e X.env) :: starEach es X.env := by rfl) (hplain : (backTo cpos (starEach es X.env)).any (·.1) = false := by rfl) :
    PD X W (.Call (.Attribute o "extend" apos) (e :: es) [] cpos) (tBM X.K "list" rExtend (tVar i) t) (mMut i pExtend fs) := pd_m1 i PySem.F.slot_list_extend PySem.F.type_list_extend mt_extend mo_extend ho ha hbase hfew hline hs hplain
theorem pd_pop (i : Nat) (ho : PE X o (tVar i)) (hbase : attributeBase o "pop" X.env (eval o X.env) = eval o X.env := by rfl) (hline : (apos.endLine == cpos.line) = true := by rfl) :
    PD X W (.Call (.Attribute o "pop" apos) [] [] cpos) (tBM0 X.K "list" rPop (tVar i)) (mMut i pPop aNil) := ⟨pe_bm0 PySem.F.plainAttrs_list PySem.F.slot_list_pop PySem.F.type_list_pop mt_pop ho hbase hline, de_mut0 mo_pop⟩
/-! ### list comprehensions -/
structure PTgi (X : Cx) (vs : List Nat) (e : Expr) (g : TG) (f : D → DW.Env → Option DW.Env) : Prop where
  pg : PG X e g
  dg : DGi vs g f
structure PTgsi (X : Cx) (vs : List Nat) (es : List Expr) (g : TGs) (f : List D → DW.Env → Option DW.Env) : Prop where
  pg : PGs X es g
  dg : DGsi vs g f
theorem ti_n {vs : List Nat} (i : Nat) (hN : X.N.Nodup) (hi : X.N[i]? = some x := by rfl) (hx : Loc X.env.scope x := by first | exact Or.inl rfl | exact Or.inr rfl) (hf : X.fn x = true ∨ X.env.scope.names.lookup x = some .local := by first | exact .inl rfl | exact .inr rfl) (hv : i ∈ vs := by decide) : PTgi X vs (.Name x pos) (gName i) (gN i) := ⟨pg_name hN hi hx hf, dgi_name hv⟩
theorem tis_nil {vs : List Nat} : PTgsi X vs [] gNil gsNil := ⟨pgs_nil, dgsi_nil⟩
theorem tis_cons {vs : List Nat} (h1 : PTgi X vs e gt tgt) (h2 : PTgsi X vs es gs tgts) (hs : (assignEach (e :: es) X.env).map (·.2) = assign e X.env :: (assignEach es X.env).map (·.2) := by rfl) : PTgsi X vs (e :: es) (gCons gt gs) (gsCons tgt tgts) := ⟨pgs_cons h1.pg h2.pg hs, dgsi_cons h1.dg h2.dg⟩
theorem ti_tup {vs : List Nat} {k n : Nat} (h : PTgsi X vs es gs tgts) (hc : X.calm = true := by rfl) (hn : (assignEach es X.env).length = n := by rfl) (hst : (assignEach es X.env).findIdx? (·.1) = none := by rfl) : PTgi X vs (.Tuple es k pos) (gTup X.K n gs) (gT n tgts) := ⟨pg_tup hc h.pg hn hst, dgi_tup h.dg⟩
structure PTe (X : Cx) (ifs : List Expr) (t : TT) (f : M Bool) : Prop where
  pt : PTs X ifs t
  dt : DT X.mg W0 t f
theorem te_nil : PTe X [] tYes tYes' := ⟨pts_nil, dt_yes⟩
theorem te_one (h : PDT X W0 c tt bp) : PTe X [c] tt bp := ⟨pts_one h.pt, h.dt⟩
/-- the readings that mirrors ask for -/
def teOf (mg : Str → Option Value) (W : WX) (f : M Sl) : TE := fun σ H Q => ∃ B S δ, J B S H σ δ ∧ Pst mg W B S H σ (f δ) (fun r δ' S' H' => ∀ v, RepR B S' H' σ δ' v r → Q v H')
def ttOf (mg : Str → Option Value) (W : WX) (f : M Bool) : TT := fun σ H Q => ∃ B S δ, J B S H σ δ ∧ Pst mg W B S H σ (f δ) (fun b δ' S' H' => Q b H')
def tgOf (vs : List Nat) (f : D → DW.Env → Option DW.Env) : TG := fun x σ H Q => ∃ B S δ d, J B S H σ δ ∧ Rep S H x d ∧ (match f d δ with
    | some δ' => ∀ σ', J B S H σ' δ' → σ'.length = σ.length → (∀ i, i ∉ vs → σ'[i]? = σ[i]?) → Q σ' H
    | none => False)
theorem pe_of (h : ∃ te, PD X W e te f) : PE X e (teOf X.mg W f) := by
  obtain ⟨te, h⟩ := h
  exact ⟨fun pins s σ H Q I ⟨B, S, δ, Ij, p⟩ => h.pe.run pins s σ H Q I (h.de B S H σ δ Q Ij p)⟩
theorem pts_of (h : ∃ t, PTe X ifs t bp) : PTs X ifs (ttOf X.mg W0 bp) := by
  obtain ⟨te, h⟩ := h
  exact ⟨fun pins s σ H Q I ⟨B, S, δ, Ij, p⟩ => h.pt.run pins s σ H Q I (h.dt B S H σ δ Q Ij p)⟩
theorem pg_of {vs : List Nat} (h : ∃ g, PTgi X vs e g tgt) : PG X e (tgOf vs tgt) := by
  obtain ⟨te, h⟩ := h
  exact ⟨fun pins s σ H x u Q I r ⟨B, S, δ, d, Ij, rd, p⟩ => h.pg.run pins s σ H x u Q I r (h.dg B S H σ δ x d Q Ij rd p)⟩
theorem de_of {mg : Str → Option Value} : DE mg W (teOf mg W f) f := fun B S H σ δ Q I p => ⟨B, S, δ, I, p⟩
theorem dt_of {mg : Str → Option Value} : DT mg W (ttOf mg W bp) bp := fun B S H σ δ Q I p => ⟨B, S, δ, I, p⟩
theorem dgi_of {vs : List Nat} : DGi vs (tgOf vs tgt) tgt := fun B S H σ δ x d Q I r p => ⟨B, S, δ, d, I, r, p⟩
theorem pd_lc {scope : Scope} (own : List (Str × Nat)) (hN : X.N.Nodup) (hi : PIt X W tg iter wi src) (ok : blkC X.N X.env.scope scope own = true)
    (hg : ∀ (s : Shared) (H : Hp) (C : Addr) (cl : List (Str × Addr)) (fp : List Addr), ∃ gt, PTgi (X.blk s H scope (compEnvC scope cl C X.env) fp) (own.map (·.2)) tg gt tgt)
    (ht : ∀ (s : Shared) (H : Hp) (C : Addr) (cl : List (Str × Addr)) (fp : List Addr), ∃ tt, PTe (X.blk s H scope (compEnvC scope cl C X.env) fp) ifs tt bp)
    (he : ∀ (s : Shared) (H : Hp) (C : Addr) (cl : List (Str × Addr)) (fp : List Addr), ∃ te, PD (X.blk s H scope (compEnvC scope cl C X.env) fp) W0 elt te f) (hc : X.calm = true := by rfl) (hs : ∀ x, foldedSetIterable iter X.env x = pure x := by intro _; rfl) :
    PD X W (.ListComp elt [⟨tg, iter, ifs, 0⟩] scope pos) (tLc wi (tgOf (own.map (·.2)) tgt) (ttOf X.mg W0 bp) (teOf X.mg W0 f) (own.map (·.2))) (eLc src tgt bp f (own.map (·.2))) :=
  ⟨pe_lc hc hN hi.pi (blkOk_by ok) (fun s H C cl fp => pg_of (hg s H C cl fp)) (fun s H C cl fp => pts_of (ht s H C cl fp)) (fun s H C cl fp => pe_of (he s H C cl fp)) hs, de_lc hi.di dgi_of dt_of de_of⟩
/-- x = [..] on one line, x a plain local -/
theorem st_setLc (i : Nat) {py spos : Pos} {scope : Scope} (own : List (Str × Nat)) (hN : X.N.Nodup) (hi : PIt X W tg iter wi src) (ok : blkC X.N X.env.scope scope own = true)
    (hg : ∀ (s : Shared) (H : Hp) (C : Addr) (cl : List (Str × Addr)) (fp : List Addr), ∃ gt, PTgi (X.blk s H scope (compEnvC scope cl C X.env) fp) (own.map (·.2)) tg gt tgt)
    (ht : ∀ (s : Shared) (H : Hp) (C : Addr) (cl : List (Str × Addr)) (fp : List Addr), ∃ tt, PTe (X.blk s H scope (compEnvC scope cl C X.env) fp) ifs tt bp)
    (he : ∀ (s : Shared) (H : Hp) (C : Addr) (cl : List (Str × Addr)) (fp : List Addr), ∃ te, PD (X.blk s H scope (compEnvC scope cl C X.env) fp) W0 elt te f)
    (hyl : X.env.scope.names.lookup y = some .local := by rfl) (hy : X.N[i]? = some y := by rfl) (hsw : swapsWith (.ListComp elt [⟨tg, iter, ifs, 0⟩] scope pos) (some (.Name y py)) spos.line X.env = pure true := by exact sw_true rfl rfl rfl (by decide +kernel))
    (hc : X.calm = true := by rfl) (hs : ∀ x, foldedSetIterable iter X.env x = pure x := by intro _; rfl) :
    PDS X W (.Assign [.Name y py] (.ListComp elt [⟨tg, iter, ifs, 0⟩] scope pos) spos) (tAsg (tLc wi (tgOf (own.map (·.2)) tgt) (ttOf X.mg W0 bp) (teOf X.mg W0 f) (own.map (·.2))) (gName i)) (sAsg i (eLc src tgt bp f (own.map (·.2)))) :=
  ⟨ps_setLc hc hN hy hyl hsw hi.pi (blkOk_by ok) (fun s H C cl fp => pg_of (hg s H C cl fp)) (fun s H C cl fp => pts_of (ht s H C cl fp)) (fun s H C cl fp => pe_of (he s H C cl fp)) hs, ds_asg (de_lc hi.di dgi_of dt_of de_of)⟩
theorem st_setLcV (i : Nat) {py spos : Pos} {scope : Scope} (own : List (Str × Nat)) (hN : X.N.Nodup) (hi : PIt X W tg iter wi src) (ok : blkC X.N X.env.scope scope own = true)
    (hg : ∀ (s : Shared) (H : Hp) (C : Addr) (cl : List (Str × Addr)) (fp : List Addr), ∃ gt, PTgi (X.blk s H scope (compEnvC scope cl C X.env) fp) (own.map (·.2)) tg gt tgt)
    (ht : ∀ (s : Shared) (H : Hp) (C : Addr) (cl : List (Str × Addr)) (fp : List Addr), ∃ tt, PTe (X.blk s H scope (compEnvC scope cl C X.env) fp) ifs tt bp)
    (he : ∀ (s : Shared) (H : Hp) (C : Addr) (cl : List (Str × Addr)) (fp : List Addr), ∃ te, PD (X.blk s H scope (compEnvC scope cl C X.env) fp) W0 elt te f)
    (hyl : X.env.scope.names.lookup y = some .local := by rfl) (hy : X.N[i]? = some y := by rfl) (hsw : swapsWith (.ListComp elt [⟨tg, iter, ifs, 0⟩] scope pos) (some (.Name y py)) spos.line X.env = pure true := by exact sw_true rfl rfl rfl (by decide +kernel))
    (hc : X.calm = true := by rfl) (hs : ∀ x, foldedSetIterable iter X.env x = pure x := by intro _; rfl) :
    PDS X W (.Assign [.Name y py] (.ListComp elt [⟨tg, iter, ifs, 0⟩] scope pos) spos) (tAsg (tLc wi (tgOf (own.map (·.2)) tgt) (ttOf X.mg W0 bp) (teOf X.mg W0 f) (own.map (·.2))) (gName i)) (sAsgV i (eLc src tgt bp f (own.map (·.2)))) :=
  ⟨(st_setLc i own hN hi ok hg ht he hyl hy hsw hc hs).ps, ds_asgV (de_lc hi.di dgi_of dt_of de_of)⟩
end
end DW

set_option Elab.async false
set_option linter.all false
set_option maxRecDepth 100000
set_option maxHeartbeats 2000000
/-! DW: walks over lists and tuples alike; defs as they stand behind the top. -/
namespace DW
open PySem PySem.Spec PyProof.Rows L2
section
variable {X : Cx} {W : WX} {tg iter : Expr} {te : TE} {f : M Sl} {mg : Str → Option Value}
def iSeqR (K : PySem.W.Frag) (tl : TE) : TI := fun σ H R => tl σ H fun x H1 => ∃ a, x = .ref a ∧ (((∃ xs, SqL K H1 a xs) ∧ R (Itl K a) H1) ∨ ((∃ xs, SqT K H1 a xs) ∧ R (Itt K a) H1))
theorem pi_seqR {l : Expr} (hl : PE X l te) : PI X tg l (iSeqR X.K te) := by
  constructor
  intro pn s0 σ0 H0 R0 I0 hh
  refine thn (hl.run pn s0 σ0 H0 _ I0 hh) ?_
  rintro u0 s2 ⟨x0, H2, I2, rx0, b, rfl, hcase⟩
  cases rx0
  have kept2 : ∀ (o : Obj), Inv X pn σ0 H2 { s2 with heap := s2.heap.push o } := fun o => I2.kept (t' := s2.toks) fun _ _ q => Heap.get?_push_of_some _ q
  have fp2 : ∀ c ∈ [s2.heap.objs.size], FpOk X pn H2 c := fun c hc => by
    rw [List.mem_singleton.mp hc]
    exact I2.fpOk (Nat.le_refl _) (I2.hok.fresh (Nat.le_refl _))
  rcases hcase with ⟨⟨xs, hq⟩, hR⟩ | ⟨⟨xs, hq⟩, hR⟩
  · obtain ⟨its, _, pl, _⟩ := I2.list hq
    refine wpAny_pyIter_list pl.isList ?_
    exact ⟨_, _, _, _, H2, rfl, kept2 _, turn_list b _, ⟨_, Heap.get?_push_size _ rfl, rfl, rfl⟩, fp2, hR⟩
  · obtain ⟨its, _, pl, _⟩ := I2.tuple hq
    refine wpAny_pyIter_tuple (show s2.heap.IsTuple b its.toArray from pl) ?_
    exact ⟨_, _, _, _, H2, rfl, kept2 _, turn_tuple b _, ⟨_, Heap.get?_push_size _ rfl, rfl, rfl⟩, fp2, hR⟩
def iSq (e : M Sl) : M (List D) := M.bind (opnd e) fun r => match r with
  | .val (.list ds) => M.ret ds
  | .val (.tuple ds) => M.ret ds
  | _ => fun _ => .bad
theorem di_seq {K : PySem.W.Frag} (he : DE mg W te f) : DI mg W (iSeqR K te) (iSq f) := by
  intro B S H σ δ R I q
  refine he.o B S H σ δ _ I (Pst.mono (Pst.split q) fun r δ1 S1 H1 I1 G1 q v ro => ?_)
  cases r with
  | val d =>
    cases d with
    | list ds =>
      obtain ⟨a, vs, rfl, h0, h1, h2⟩ := Rep.list (show Rep S1 H1 v (.list ds) from ro)
      refine ⟨a, rfl, .inl ⟨⟨vs, SqL.of h1⟩, q S1 H1 I1 (Gx.refl S1 H1) _ fun i S2 H2 g dm => ⟨fun hl => ⟨vs, SqL.of (g.keep _ _ h0 h1), by rw [h2.len]; exact hl⟩, fun d ed => ?_⟩⟩⟩
      obtain ⟨w, ew, rw'⟩ := h2.get ed
      refine ⟨⟨vs, w, SqL.of (g.keep _ _ h0 h1), ew⟩, fun x H' y => ?_⟩
      obtain ⟨e1, e2⟩ := y
      subst e1
      have e3 := e2 vs (SqL.of (g.keep _ _ h0 h1))
      rw [ew] at e3
      cases e3
      exact ⟨S2, Gr.refl dm, rw'.gx g⟩
    | tuple ds =>
      obtain ⟨a, vs, rfl, h0, h1, h2⟩ := Rep.tup' (show Rep S1 H1 v (.tuple ds) from ro)
      refine ⟨a, rfl, .inr ⟨⟨vs, SqT.of h1⟩, q S1 H1 I1 (Gx.refl S1 H1) _ fun i S2 H2 g dm => ⟨fun hl => ⟨vs, SqT.of (g.keep _ _ h0 h1), by rw [h2.len]; exact hl⟩, fun d ed => ?_⟩⟩⟩
      obtain ⟨w, ew, rw'⟩ := h2.get ed
      refine ⟨⟨vs, w, SqT.of (g.keep _ _ h0 h1), ew⟩, fun x H' y => ?_⟩
      obtain ⟨e1, e2⟩ := y
      subst e1
      have e3 := e2 vs (SqT.of (g.keep _ _ h0 h1))
      rw [ew] at e3
      cases e3
      exact ⟨S2, Gr.refl dm, rw'.gx g⟩
    | _ => exact q.elim
  | _ => exact q.elim
theorem it_seq (ha : PD X W iter te f) : PIt X W tg iter (iSeqR X.K te) (iSq f) := ⟨pi_seqR ha.pe, di_seq ha.de⟩
end
end DW

set_option Elab.async false
set_option linter.all false
set_option maxRecDepth 100000
set_option maxHeartbeats 2000000
/-! DW: defs as they stand behind the top. -/
namespace DW
open PySem PySem.Spec PyProof.Rows L2
section
variable {P : Program} {w : World} {K : PySem.W.Frag} {mg : Str → Option Value} {base : Heap}
/-- a def of the text -/
abbrev FnP (K : PySem.W.Frag) (x : Str) (st : Stmt) (dvs : List V) (f : Addr) (fd : FuncData) : Prop := FunD K x x (defArgs st) (defBody st) (defScope st) dvs [] f fd
theorem fn_okB {x : Str} {st : Stmt} {dvs : List V} {f : Addr} {fd : FuncData} {N ps : List Str} {k : Nat} {body : SM} (F : FnP K x st dvs f fd) (S : FnScope N ps (defScope st))
    (hb : ∀ (cdv : Value) (A : Around) (outer : List PySem.Env) (s : Shared) (H : Hp) (E : XK), Room k (A.deeper (envOfC x (defScope st) s.heap.objs.size f cdv)) →
      Takes (cxOf (L2.CX P w) P w K mg base N x (defScope st) f cdv A outer s H E) (fun c d _ H => E c d H) →
      PassesOwn (model P w) (A.deeper (envOfC x (defScope st) s.heap.objs.size f cdv)) (envOfC x (defScope st) s.heap.objs.size f cdv) (cxOf (L2.CX P w) P w K mg base N x (defScope st) f cdv A outer s H E).xe →
      ∃ ts, PDB (cxOf (L2.CX P w) P w K mg base N x (defScope st) f cdv A outer s H E) (fun c d _ H => E c d H) (defBody st) ts body) :
    FnOk P w K mg base (L2.CX P w) (k + 1) f fd ps (spD mg ps.length (fnOf N.length body)) := by
  refine F.ok S (fun vs H Q E h => h.elim fun _ h => h.elim fun _ h => h.elim fun _ h => h.elim fun _ h => h.1) (fun cdv A outer s H vs Q E hr h => ?_)
  obtain ⟨Sh, a, sd, ds, hn, dm, ar, post⟩ := h
  obtain ⟨ts, hd⟩ := hb cdv A outer s H E hr (takes_of rfl rfl rfl rfl) (passes_of rfl)
  refine ⟨ts, hd.ps, ?_⟩
  have hpl : ps.length ≤ N.length := by have := congrArg List.length S.pre; rw [List.length_take] at this; omega
  have I := J.start (N := N) (by rw [hn]; exact hpl) dm ar
  have hs : sd.isSome = a.isSome := by cases ar <;> rfl
  refine hd.ds (baOf Sh H a) Sh H _ _ _ I ?_
  unfold fnOf at post
  cases eb : body (env0 N.length sd ds) with
  | bad => rw [eb] at post; exact post.elim
  | ex e δ' =>
    rw [eb] at post
    simp only at post
    cases eo : outS sd δ' with
    | none => rw [eo] at post; exact post.elim
    | some o => rw [eo] at post; exact fun S' H' σ' c d I' g x => post S' H' c d (I'.after hs eo) x
  | ok o δ' =>
    rw [eb] at post
    have fin : ∀ r, FPost mg Sh H a Q E (finF sd δ' r) → ∀ S' H' σ' v, J (baOf Sh H a) S' H' σ' δ' → RepR (baOf Sh H a) S' H' σ' δ' v r → Q v H' := fun r post S' H' σ' v I' rv => by
      unfold finF at post
      cases eo : outS sd δ' with
      | none => rw [eo] at post; exact post.elim
      | some o =>
        cases er : retV δ' r with
        | none => rw [eo, er] at post; exact post.elim
        | some r' => rw [eo, er] at post; exact post S' H' v (I'.after hs eo) (I'.ret rv er)
    cases o with
    | nx => exact fun S' H' σ' I' g => fin _ post S' H' σ' _ I' .non
    | rt r => exact fun S' H' σ' v I' g rv => fin _ post S' H' σ' v I' rv
    | bk => exact post.elim
    | ct => exact post.elim
theorem df_of {x : Str} {st : Stmt} {f : Addr} {fd : FuncData} {ps : List Str} {k n : Nat} {F : Fn} (hF : FnP K x st [] f fd) (ok : FnOk P w K mg base (L2.CX P w) k f fd ps (spD mg n F)) (hm : mg x = some (.ref f))
    (h : ∀ (kV doc pm : Value) (an : Option Addr) (cdv ct : Value) (us : List Value), us.length = ps.length → bindArgs (PySem.W.fnOf x x (defArgs st) (defBody st) (defScope st) .none kV doc pm an cdv ct) ⟨us, []⟩ = pure (ps.zip us)) : Df P w K mg base x k n F :=
  ⟨f, fd, ps, ok, hm, hF.kp, hF.bindsN h⟩
end
end DW

set_option Elab.async false
set_option linter.all false
set_option maxRecDepth 100000
set_option maxHeartbeats 2000000
/-! DW: dicts. -/
namespace DW
open PySem PySem.Spec PyProof.Rows L2

/-! ### tables of data -/
def keyOf : D → Option Key
  | .int i => some (.inl i)
  | .str x => some (.inr x)
  | _ => none
def undictL : List (D × D) → Option (List (Key × D))
  | [] => some []
  | (k, d) :: r => match keyOf k, undictL r with
    | some k', some r' => some ((k', d) :: r')
    | _, _ => none
def undict : D → Option (List (Key × D))
  | .dict l => undictL l
  | _ => none
theorem keyOf_keyD (k : Key) : keyOf (keyD k) = some k := by cases k <;> rfl
theorem undictL_map : ∀ kvs : List (Key × D), undictL (kvs.map fun p => (keyD p.1, p.2)) = some kvs
  | [] => rfl
  | (k, d) :: r => by
    rw [List.map_cons]
    unfold undictL
    rw [keyOf_keyD, undictL_map r]
theorem undict_dictD (kvs : List (Key × D)) : undict (dictD kvs) = some kvs := undictL_map kvs
def lookD (kvs : List (Key × D)) (k : Key) : Option D := (kvs.find? fun p => decide (p.1 = k)).map (·.2)
def putD (kvs : List (Key × D)) (k : Key) (d : D) : List (Key × D) :=
  if (kvs.any fun p => decide (p.1 = k)) = true then kvs.map (fun p => if p.1 = k then (p.1, d) else p) else kvs ++ [(k, d)]
section
variable {S : Addr → Prop} {H : Hp}
theorem RepK.look (k : Key) : ∀ {ws : List (Key × V)} {kvs : List (Key × D)}, RepK S H ws kvs → (match lookD kvs k with | some d => ∃ v, valV ws k = some v ∧ Rep S H v d | none => valV ws k = none)
  | _, _, .nil => rfl
  | _, _, .cons (k := k') (v := v) (d := d) (ws := ws) (kvs := kvs) h t => by
    have ih := RepK.look k t
    by_cases e : k' = k
    · have e1 : lookD ((k', d) :: kvs) k = some d := by simp [lookD, List.find?_cons, e]
      rw [e1]
      exact ⟨v, valV_pos (p := (k', v)) e, h⟩
    · have e1 : lookD ((k', d) :: kvs) k = lookD kvs k := by simp [lookD, List.find?_cons, e]
      rw [e1, valV_neg (p := (k', v)) e]
      exact ih
theorem RepK.any (k : Key) : ∀ {ws : List (Key × V)} {kvs : List (Key × D)}, RepK S H ws kvs → (ws.any fun p => decide (p.1 = k)) = kvs.any fun p => decide (p.1 = k)
  | _, _, .nil => rfl
  | _, _, .cons h t => by rw [List.any_cons, List.any_cons, RepK.any k t]
theorem RepK.repl (k : Key) {v : V} {d : D} (r : Rep S H v d) : ∀ {ws : List (Key × V)} {kvs : List (Key × D)}, RepK S H ws kvs → RepK S H (ws.map fun p => if p.1 = k then (p.1, v) else p) (kvs.map fun p => if p.1 = k then (p.1, d) else p)
  | _, _, .nil => .nil
  | _, _, .cons (k := k') (v := w) (d := e) h t => by
    rw [List.map_cons, List.map_cons]
    by_cases z : k' = k
    · rw [if_pos z, if_pos z]; exact .cons r (RepK.repl k r t)
    · rw [if_neg z, if_neg z]; exact .cons h (RepK.repl k r t)
theorem RepK.snoc (k : Key) {v : V} {d : D} (r : Rep S H v d) : ∀ {ws : List (Key × V)} {kvs : List (Key × D)}, RepK S H ws kvs → RepK S H (ws ++ [(k, v)]) (kvs ++ [(k, d)])
  | _, _, .nil => .cons r .nil
  | _, _, .cons h t => .cons h (RepK.snoc k r t)
theorem RepK.put (k : Key) {v : V} {d : D} (r : Rep S H v d) {ws : List (Key × V)} {kvs : List (Key × D)} (h : RepK S H ws kvs) : RepK S H (putK ws k v) (putD kvs k d) := by
  unfold putK putD
  rw [h.any k]
  by_cases e : (kvs.any fun p => decide (p.1 = k)) = true
  · rw [if_pos e, if_pos e]; exact h.repl k r
  · rw [if_neg e, if_neg e]; exact h.snoc k r
theorem RepK.get : ∀ {ws : List (Key × V)} {kvs : List (Key × D)} {i : Nat} {k : Key} {d : D}, RepK S H ws kvs → kvs[i]? = some (k, d) → ∃ v, ws[i]? = some (k, v) ∧ Rep S H v d
  | _, _, _, _, _, .nil, e => by simp at e
  | _, _, 0, _, _, .cons h _, e => by simp at e; obtain ⟨e1, e2⟩ := e; subst e1; subst e2; exact ⟨_, rfl, h⟩
  | _, _, i + 1, k, d, .cons _ t, e => by
    obtain ⟨v, h1, h2⟩ := RepK.get (i := i) (k := k) (d := d) t (by simpa using e)
    exact ⟨v, by simpa using h1, h2⟩
theorem Rep1.und {x : V} {e : D} {kvs : List (Key × D)} (h : Rep1 S H x e) (u : undict e = some kvs) : ∃ a ws, x = .ref a ∧ Rd H a (.dK ws) ∧ RepK S H ws kvs := by
  cases e with
  | dict l =>
    obtain ⟨a, ws, ks, ex, hd, r, el⟩ := h.dic
    subst el
    have z : undict (dictD ks) = some kvs := u
    rw [undict_dictD] at z
    cases z
    exact ⟨a, ws, ex, hd, r⟩
  | _ => cases u
theorem Rep1.key {x : V} {e : D} {k : Key} (h : Rep1 S H x e) (u : keyOf e = some k) : x = kV k := by
  cases e with
  | int i => cases u; exact h.int
  | str y => cases u; exact h.str
  | _ => cases u
end
section
variable {mg : Str → Option Value} {W : WX} {te td ty tx ti : TE} {t : TA} {e f g h idx : M Sl} {fs : M (List Sl)}
variable {B : Ba} {S S' S1 : Addr → Prop} {H H' H1 : Hp} {σ : L2.St} {δ : Env}
/-! ### d.get(k, x), d[k] -/
def rdDict (r : Sl) : M (List (Key × D)) := M.bind (rdM r) fun d => optM (undict d)
theorem Pst.optM' {α β : Type} {o : Option α} {k : α → M β} {kk : β → Env → (Addr → Prop) → Hp → Prop} (p : Pst mg W B S H σ (M.bind (DW.optM o) k δ) kk) : ∃ a, o = some a ∧ Pst mg W B S H σ (k a δ) kk := by
  cases o with
  | none => exact p.elim
  | some a => exact ⟨a, rfl, p⟩
theorem Pst.rdDict {β : Type} {r : Sl} {k : List (Key × D) → M β} {kk : β → Env → (Addr → Prop) → Hp → Prop} {v : V} (I : J B S H σ δ) (ro : RepO S H σ v r) (p : Pst mg W B S H σ (M.bind (DW.rdDict r) k δ) kk) :
    ∃ kvs a ws, v = .ref a ∧ Rd H a (.dK ws) ∧ RepK S H ws kvs ∧ Pst mg W B S H σ (k kvs δ) kk := by
  unfold DW.rdDict at p
  have p' : Pst mg W B S H σ (M.bind (DW.rdM r) (fun d => M.bind (DW.optM (undict d)) k) δ) kk := by
    unfold M.bind DW.rdM at p ⊢
    cases e : rd δ r with
    | none => rw [e] at p; exact p
    | some d => rw [e] at p; exact p
  obtain ⟨d, r1, p2⟩ := Pst.rdM I ro p'
  obtain ⟨kvs, eu, p3⟩ := Pst.optM' p2
  obtain ⟨a, ws, ex, hd, rk⟩ := r1.und eu
  exact ⟨kvs, a, ws, ex, hd, rk, p3⟩
def eGet2 (f g h : M Sl) : M Sl := M.bind (opnd f) fun r1 => M.bind (rdDict r1) fun _ => M.bind (opnd g) fun r2 => M.bind (opnd h) fun r3 => M.bind (rdDict r1) fun kvs => M.bind (rdM r2) fun y => M.bind (optM (keyOf y)) fun k =>
  M.ret (match lookD kvs k with
    | some d => .val d
    | none => r3)
theorem de_get2 (hf : DE mg W td f) (hg : DE mg W ty g) (hh : DE mg W tx h) : DE mg W (tDGet2 td ty tx) (eGet2 f g h) := by
  intro B S H σ δ Q I p
  refine hf.o B S H σ δ _ I (Pst.mono (Pst.split p) fun r1 δ1 S1 H1 I1 G1 p1 x rx => ?_)
  obtain ⟨_, a, ws0, ex, hd0, _, p2⟩ := Pst.rdDict I1 rx p1
  refine ⟨a, ex, .inl ⟨ws0, hd0⟩, ?_⟩
  refine hg.o B S1 H1 σ δ1 _ I1 (Pst.mono (Pst.split p2) fun r2 δ2 S2 H2 I2 G2 p3 y ry => ?_)
  refine hh.o B S2 H2 σ δ2 _ I2 (Pst.mono (Pst.split p3) fun r3 δ3 S3 H3 I3 G3 p4 z rz => ?_)
  obtain ⟨kvs, a', ws, ex', hd, rk, p5⟩ := Pst.rdDict I3 ((rx.gx G2).gx G3) p4
  rw [ex] at ex'
  cases ex'
  obtain ⟨yd, ryd, p6⟩ := Pst.rdM I3 (ry.gx G3) p5
  obtain ⟨k, ek, p7⟩ := Pst.optM' p6
  refine ⟨valV ws k, .inl ⟨ws, k, hd, ryd.key ek, rfl⟩, ?_⟩
  have q := p7 S3 H3 I3 (Gx.refl S3 H3)
  have lk := rk.look k
  cases el : lookD kvs k with
  | some d =>
    rw [el] at q lk
    obtain ⟨v, ev, rv⟩ := lk
    rw [ev]
    exact q v rv
  | none =>
    rw [el] at q lk
    have lk : valV ws k = none := lk
    rw [lk]
    exact q z rz.r
def eDix (f g : M Sl) : M Sl := M.bind (opnd f) fun r1 => M.bind (opnd g) fun r2 => M.bind (rdDict r1) fun kvs => M.bind (rdM r2) fun y => M.bind (optM ((keyOf y).bind (lookD kvs))) fun d => M.ret (.val d)
theorem de_dix (hf : DE mg W td f) (hg : DE mg W ty g) : DE mg W (tDGet td ty) (eDix f g) := by
  intro B S H σ δ Q I p
  refine hf.o B S H σ δ _ I (Pst.mono (Pst.split p) fun r1 δ1 S1 H1 I1 G1 p1 x rx => ?_)
  refine hg.o B S1 H1 σ δ1 _ I1 (Pst.mono (Pst.split p1) fun r2 δ2 S2 H2 I2 G2 p2 y ry => ?_)
  obtain ⟨kvs, a, ws, ex, hd, rk, p5⟩ := Pst.rdDict I2 (rx.gx G2) p2
  obtain ⟨yd, ryd, p6⟩ := Pst.rdM I2 ry p5
  obtain ⟨d, ed, p7⟩ := Pst.optM' p6
  cases ek : keyOf yd with
  | none => rw [ek] at ed; cases ed
  | some k =>
    rw [ek] at ed
    have ed : lookD kvs k = some d := ed
    have lk := rk.look k
    rw [ed] at lk
    obtain ⟨v, ev, rv⟩ := lk
    refine ⟨a, v, ex, ?_, p7 S2 H2 I2 (Gx.refl S2 H2) v rv⟩
    exact .inl ⟨ws, k, hd, ryd.key ek, ev.symm⟩
/-! ### {} -/
def eDnew : M Sl := M.ret (.ownD [])
theorem de_dnew : DE mg W tDNewK eDnew := by
  intro B S H σ δ Q I p a ha
  have g := Gr.new1 (p := a) (o := .dK []) I.dom ha
  exact p S _ (I.gr g) g.gx _ ⟨a, [], rfl, I.frN ha, fun z => I.dom a z ha, upd_same, .nil⟩
/-! ### d[k] = v -/
theorem J.mutD (I : J B S H σ δ) {i : Nat} {a : Addr} {kvs kvs' : List (Key × D)} {ws : List (Key × V)} (hi : δ[i]? = some (.ownD kvs)) (hσ : σ[i]? = some (some (.ref a))) (r : RepK S H ws kvs') :
    J B S (upd H a (.dK ws)) σ (δ.set i (.ownD kvs')) ∧ Gx S H S (upd H a (.dK ws)) := by
  obtain ⟨a', ws0, ea, nS, hH, _⟩ := (show SlotOk S H (some (.ref a)) (.ownD kvs) from I.slot i _ _ hσ hi)
  cases ea
  have hlt : i < δ.length := (List.getElem?_eq_some_iff.mp hi).1
  have g : Gx S H S (upd H a (.dK ws)) := ⟨fun _ h => h, fun b o hb e => by rw [upd_ne (show b ≠ a from fun z => nS (by rw [← z]; exact hb))]; exact e⟩
  have nn : ∀ b, H b ≠ none → upd H a (.dK ws) b ≠ none := fun b h z => by
    by_cases e : b = a
    · subst e; rw [upd_same] at z; cases z
    · rw [upd_ne e] at z; exact h z
  have h0 : B.H0 a = none := by
    rcases I.ownN i a _ hσ hi rfl with ⟨z, _⟩ | ⟨_, x, z⟩
    · exact z
    · cases z
  refine ⟨⟨by rw [List.length_set]; exact I.len, fun j ov s h1 h2 => ?_, fun j l b s t ne h1 h2 h3 h4 o1 o2 => ?_, fun j b s h1 h2 o => ?_, fun b o e n => ?_, I.sub, I.new, I.ion, fun b h => nn b (I.iod b h), fun b h => nn b (I.dom b h), I.parH⟩, g⟩
  · by_cases e : j = i
    · subst e
      rw [List.getElem?_set_self hlt] at h2
      cases h2
      rw [hσ] at h1
      cases h1
      exact ⟨a, ws, rfl, nS, upd_same, r.gx g⟩
    · rw [List.getElem?_set_ne (Ne.symm e)] at h2
      have old := I.slot j ov s h1 h2
      have ap : ∀ b, ov = some (.ref b) → s.isOwn = true → b ≠ a := fun b eb os z => by
        subst z; subst eb
        exact I.dis j i b s _ e h1 hσ h2 hi os rfl
      cases s with
      | un => trivial
      | val d => obtain ⟨x, e, r⟩ := old; exact ⟨x, e, r.gx g⟩
      | own ds => obtain ⟨b, vs, e, n, h, r⟩ := old; exact ⟨b, vs, e, n, by rw [upd_ne (ap b e rfl)]; exact h, r.gx g⟩
      | prm ds => obtain ⟨b, vs, e, n, h, r⟩ := old; exact ⟨b, vs, e, n, by rw [upd_ne (ap b e rfl)]; exact h, r.gx g⟩
      | ownD ds => obtain ⟨b, vs, e, n, h, r⟩ := old; exact ⟨b, vs, e, n, by rw [upd_ne (ap b e rfl)]; exact h, r.gx g⟩
      | bor j => exact old
  · have back : ∀ {j : Nat} {s : Sl}, (δ.set i (.ownD kvs'))[j]? = some s → s.isOwn = true → ∃ s0, δ[j]? = some s0 ∧ s0.isOwn = true := fun {j s} h o => by
      by_cases e : j = i
      · subst e; exact ⟨_, hi, rfl⟩
      · rw [List.getElem?_set_ne (Ne.symm e)] at h; exact ⟨s, h, o⟩
    obtain ⟨s0, e0, o0⟩ := back h3 o1
    obtain ⟨t0, f0, p0⟩ := back h4 o2
    exact I.dis j l b s0 t0 ne h1 h2 e0 f0 o0 p0
  · by_cases e : j = i
    · subst e
      rw [List.getElem?_set_self hlt] at h2
      cases h2
      rw [hσ] at h1
      cases h1
      exact .inl ⟨h0, fun ds z => by cases z⟩
    · rw [List.getElem?_set_ne (Ne.symm e)] at h2
      exact I.ownN j b s h1 h2 o
  · rw [upd_ne (fun z => by rw [z, h0] at e; cases e)]
    exact I.old b o e n
def curD (δ : Env) (i : Nat) : Option (List (Key × D)) := match δ[i]? with
  | some (.ownD kvs) => some kvs
  | _ => none
theorem curD_at (I : J B S H σ δ) {i : Nat} {kvs : List (Key × D)} (h : curD δ i = some kvs) : ∃ a ws, σ[i]? = some (some (.ref a)) ∧ δ[i]? = some (.ownD kvs) ∧ H a = some (.dK ws) ∧ RepK S H ws kvs := by
  unfold curD at h
  cases es : δ[i]? with
  | none => simp [es] at h
  | some s =>
    have hl : i < σ.length := by rw [I.len]; exact (List.getElem?_eq_some_iff.mp es).1
    have eσ : σ[i]? = some σ[i] := List.getElem?_eq_getElem hl
    have sl := I.slot i _ s eσ es
    simp only [es] at h
    cases s with
    | ownD x => cases h; obtain ⟨a, vs, e, n, h1, r⟩ := sl; exact ⟨a, vs, by rw [eσ, e], rfl, h1, r⟩
    | _ => cases h
def valOf : Sl → Option D
  | .val d => some d
  | _ => none
def sDput (i : Nat) (e idx : M Sl) : SM := M.bind (opnd e) fun r => M.bind (optM (valOf r)) fun d => M.bind (fun δ => (optM (curD δ i)) δ) fun _ => M.bind (opnd idx) fun k => M.bind (rdM k) fun kd => M.bind (optM (keyOf kd)) fun k => fun δ => match curD δ i with
    | some kvs => bif decide (kvs.length < 16777216) then .ok .nx (δ.set i (.ownD (putD kvs k d))) else .bad
    | none => .bad
theorem PstS.optM {α : Type} {o : Option α} {k : α → SM} {D : Ends} (p : PstS mg W B S H (M.bind (DW.optM o) k δ) D) : ∃ a, o = some a ∧ PstS mg W B S H (k a δ) D := by
  cases o with
  | none => exact p.elim
  | some a => exact ⟨a, rfl, p⟩
theorem PstS.rdM {r : Sl} {k : D → SM} {Ds : Ends} {v : V} (I : J B S H σ δ) (ro : RepO S H σ v r) (p : PstS mg W B S H (M.bind (DW.rdM r) k δ) Ds) :
    ∃ d, Rep1 S H v d ∧ PstS mg W B S H (k d δ) Ds := by
  unfold M.bind DW.rdM at p
  cases e : rd δ r with
  | none => rw [e] at p; exact p.elim
  | some d => rw [e] at p; exact ⟨d, ro.rd I e, p⟩
theorem ds_dput {i : Nat} (he : DE mg W te e) (hi : DE mg W ti idx) : DS mg W (sDPut (tVar i) ti te) (sDput i e idx) := by
  intro B S H σ δ Ds I q
  refine he.o B S H σ δ _ I (Pst.mono (PstS.split q) fun r δ1 S1 H1 I1 G1 q v ro => ?_)
  obtain ⟨d, er, q⟩ := PstS.optM q
  have er : r = .val d := by cases r <;> cases er; rfl
  subst er
  have q : PstS mg W B S1 H1 (M.bind (DW.optM (curD δ1 i)) (fun _ => M.bind (opnd idx) fun k => M.bind (rdM k) fun kd => M.bind (DW.optM (keyOf kd)) fun k => fun δ => match curD δ i with
    | some kvs => bif decide (kvs.length < 16777216) then .ok .nx (δ.set i (.ownD (putD kvs k d))) else .bad
    | none => .bad) δ1) Ds := q
  obtain ⟨kvs0, e0, q⟩ := PstS.optM q
  obtain ⟨a, ws0, hσ, _, _, _⟩ := curD_at I1 e0
  refine ⟨.ref a, hσ, ?_⟩
  refine hi.o B S1 H1 σ δ1 _ I1 (Pst.mono (PstS.split q) fun k δ2 S2 H2 I2 G2 q kv rk => ?_)
  obtain ⟨kd, rkd, q⟩ := PstS.rdM I2 rk q
  obtain ⟨k, ek, q⟩ := PstS.optM q
  cases ec : curD δ2 i with
  | none => simp only [ec] at q; exact q.elim
  | some kvs =>
    simp only [ec] at q
    obtain ⟨a', ws, hσ', hi', hH, rr⟩ := curD_at I2 ec
    rw [hσ] at hσ'
    cases hσ'
    cases hz : decide (kvs.length < 16777216) with
    | false => rw [hz] at q; exact q.elim
    | true =>
      rw [hz] at q
      obtain ⟨I3, G3⟩ := I2.mutD hi' hσ (rr.put k (Rep.gx (d := d) G2 ro))
      refine ⟨a, _, rfl, .inl ⟨ws, k, hH, rkd.key ek, ?_, rfl⟩, q S2 _ σ I3 G3⟩
      have hl : ws.length < sizeLine := by rw [rr.len]; exact size_lt hz
      exact hl
end
end DW

set_option Elab.async false
set_option linter.all false
set_option maxRecDepth 100000
set_option maxHeartbeats 2000000
/-! DW: len, dict, sorted, insert, a, b = x, y; words for dicts. -/
namespace DW
open PySem PySem.Spec PyProof.Rows L2

theorem CallR.or {X : Cx} {c : Value} {r r' : List V → Hp → VK → Prop} (h : CallR X c r) (h' : CallR X c r') : CallR X c fun vs H Q => r vs H Q ∨ r' vs H Q := by
  intro pins s σ H vs us Q I rv q
  rcases q with q | q
  · exact h pins s σ H vs us Q I rv q
  · exact h' pins s σ H vs us Q I rv q
section
variable {S : Addr → Prop} {H : Hp} {X : Cx} {K : PySem.W.Frag}
/-! ### len -/
def rLenDR : List V → Hp → VK → Prop := fun xs H Q => ∃ a kvs, xs = [V.ref a] ∧ Rd H a (.dK kvs) ∧ Q (.int (kvs.length : Nat)) H
theorem call_lenDR : CallR X (.builtin "len") rLenDR := by
  intro pins s σ H xs us Q I r h
  obtain ⟨a, kvs, rfl, ha, q⟩ := h
  obtain ⟨u, rfl, ru⟩ := vals1 r
  cases ru
  exact d_len I ha fun t s' I' => ⟨.int kvs.length, H, I', ⟨t, rfl⟩, q⟩
def nLenX : D → Option Sl
  | .dict l => (undictL l).map fun kvs => .val (.int kvs.length)
  | d => nLen d
theorem ob_lenX : OB (fun vs H Q => rLenV K vs H Q ∨ rLenDR vs H Q) (b1 nLenX) := by
  intro S H vs ds Q dm r q
  match ds, r, q with
  | [.dict l], r, q =>
    obtain ⟨v, rfl, r1⟩ := r.one
    have q : OPost S H Q ((undictL l).map fun kvs => .val (.int kvs.length)) := q
    cases e : undictL l with
    | none => rw [e] at q; exact q.elim
    | some kvs =>
      rw [e] at q
      obtain ⟨a, ws, rfl, hd, rk⟩ := r1.und (show undict (.dict l) = some kvs from e)
      exact .inr ⟨a, ws, rfl, hd, by rw [rk.len]; exact OPost.val dm q (.int _)⟩
  | [], r, q => exact q.elim
  | [.none], r, q => exact q.elim
  | [.bool _], r, q => exact q.elim
  | [.int _], r, q => exact q.elim
  | [.str x], r, q => exact .inl (ob_len S H vs [.str x] Q dm r q)
  | [.list x], r, q => exact .inl (ob_len S H vs [.list x] Q dm r q)
  | [.tuple x], r, q => exact .inl (ob_len S H vs [.tuple x] Q dm r q)
  | .none :: _ :: _, r, q => exact q.elim
  | .bool _ :: _ :: _, r, q => exact q.elim
  | .int _ :: _ :: _, r, q => exact q.elim
  | .str _ :: _ :: _, r, q => exact q.elim
  | .list _ :: _ :: _, r, q => exact q.elim
  | .tuple _ :: _ :: _, r, q => exact q.elim
  | .dict _ :: _ :: _, r, q => exact q.elim
/-! ### dict(d) -/
def rDictD : List V → Hp → VK → Prop := fun xs H Q => ∃ (a : Addr) (kvs : List (Key × V)), xs = [.ref a] ∧ Rd H a (.dK kvs) ∧ ∀ p, H p = none → Q (.ref p) (upd H p (.dK kvs))
def nDict (d : D) : Option Sl := (undict d).map .ownD
theorem OPost.ownD {Q : VK} {kvs : List (Key × D)} {ws : List (Key × V)} {p : Addr} (dm : ∀ b, S b → H b ≠ none) (q : OPost S H Q (some (.ownD kvs))) (r : RepK S H ws kvs) (hp : H p = none) : Q (.ref p) (upd H p (.dK ws)) :=
  q S _ _ (Gr.new1 dm hp) ⟨p, ws, rfl, hp, fun z => dm p z hp, upd_same, r.gx (Gr.new1 dm hp).gx⟩
theorem ob_dict : OB rDictD (b1 nDict) := by
  intro S H vs ds Q dm r q
  match ds, r, q with
  | [d], r, q =>
    obtain ⟨v, rfl, r1⟩ := r.one
    have q : OPost S H Q ((undict d).map .ownD) := q
    cases e : undict d with
    | none => rw [e] at q; exact q.elim
    | some kvs =>
      rw [e] at q
      obtain ⟨a, ws, rfl, hd, rk⟩ := r1.und e
      exact ⟨a, ws, rfl, hd, fun p hp => OPost.ownD dm q rk hp⟩
  | [], r, q => exact q.elim
  | _ :: _ :: _, r, q => exact q.elim
/-! ### sorted -/
def insI (i : Int) : List Int → List Int
  | [] => [i]
  | j :: r => if i ≤ j then i :: j :: r else j :: insI i r
def sortI : List Int → List Int
  | [] => []
  | i :: r => insI i (sortI r)
theorem insI_perm (i : Int) : ∀ l, (insI i l).Perm (i :: l)
  | [] => .refl _
  | j :: r => by
    unfold insI
    by_cases h : i ≤ j
    · rw [if_pos h]
    · rw [if_neg h]; exact (List.Perm.cons j (insI_perm i r)).trans (.swap i j r)
theorem sortI_perm : ∀ l, (sortI l).Perm l
  | [] => .refl _
  | i :: r => (insI_perm i (sortI r)).trans (List.Perm.cons i (sortI_perm r))
theorem insI_srt (i : Int) : ∀ {l : List Int}, l.Pairwise (· ≤ ·) → (insI i l).Pairwise (· ≤ ·)
  | [], _ => List.pairwise_singleton _ _
  | j :: r, h => by
    unfold insI
    obtain ⟨h1, h2⟩ := List.pairwise_cons.mp h
    by_cases e : i ≤ j
    · rw [if_pos e]
      refine List.pairwise_cons.mpr ⟨fun x hx => ?_, h⟩
      rcases List.mem_cons.mp hx with z | z
      · rw [z]; exact e
      · exact Int.le_trans e (h1 x z)
    · rw [if_neg e]
      refine List.pairwise_cons.mpr ⟨fun x hx => ?_, insI_srt i h2⟩
      rcases List.mem_cons.mp ((insI_perm i r).mem_iff.mp hx) with z | z
      · rw [z]; omega
      · exact h1 x z
theorem sortI_srt : ∀ l : List Int, (sortI l).Pairwise (· ≤ ·)
  | [] => .nil
  | i :: r => insI_srt i (sortI_srt r)
theorem uniqI : ∀ {l m : List Int}, l.Perm m → l.Pairwise (· ≤ ·) → m.Pairwise (· ≤ ·) → l = m
  | [], m, p, _, _ => (List.Perm.eq_nil p.symm).symm
  | x :: l, [], p, _, _ => absurd p.length_eq (by simp)
  | x :: l, y :: m, p, hl, hm => by
    obtain ⟨l1, l2⟩ := List.pairwise_cons.mp hl
    obtain ⟨m1, m2⟩ := List.pairwise_cons.mp hm
    have e1 : x ≤ y := by
      rcases List.mem_cons.mp (p.mem_iff.mpr (List.mem_cons_self (a := y) (l := m))) with e | h
      · omega
      · exact l1 y h
    have e2 : y ≤ x := by
      rcases List.mem_cons.mp (p.mem_iff.mp (List.mem_cons_self (a := x) (l := l))) with e | h
      · omega
      · exact m1 x h
    have e : x = y := by omega
    subst e
    rw [uniqI p.cons_inv l2 m2]
theorem sortI_of {l m : List Int} (p : l.Perm m) (h : l.Pairwise (· ≤ ·)) : l = sortI m := uniqI (p.trans (sortI_perm m).symm) h (sortI_srt m)

/-- pairs of ints, by the first, then by the second -/
def leP (p q : Int × Int) : Bool := !SrtO.lexB q p
theorem leP_iff {p q : Int × Int} : leP p q = true ↔ ¬ (q.1 < p.1 ∨ (q.1 = p.1 ∧ q.2 < p.2)) := by
  unfold leP
  rw [← SrtO.lexB_iff]
  cases SrtO.lexB q p <;> simp
def insP (i : Int × Int) : List (Int × Int) → List (Int × Int)
  | [] => [i]
  | j :: r => if leP i j = true then i :: j :: r else j :: insP i r
def sortP : List (Int × Int) → List (Int × Int)
  | [] => []
  | i :: r => insP i (sortP r)
abbrev SrtP (l : List (Int × Int)) : Prop := l.Pairwise fun p q => leP p q = true
theorem leP_tr {p q r : Int × Int} (h1 : leP p q = true) (h2 : leP q r = true) : leP p r = true := by
  rw [leP_iff] at h1 h2 ⊢
  omega
theorem leP_tot {p q : Int × Int} (h : ¬ leP p q = true) : leP q p = true := by
  rw [leP_iff] at h ⊢
  omega
theorem leP_anti {p q : Int × Int} (h1 : leP p q = true) (h2 : leP q p = true) : p = q := by
  rw [leP_iff] at h1 h2
  have a : p.1 = q.1 := by omega
  have b : p.2 = q.2 := by omega
  exact Prod.ext a b
theorem leP_refl (p : Int × Int) : leP p p = true := by rw [leP_iff]; omega
theorem insP_perm (i : Int × Int) : ∀ l, (insP i l).Perm (i :: l)
  | [] => .refl _
  | j :: r => by
    unfold insP
    by_cases h : leP i j = true
    · rw [if_pos h]
    · rw [if_neg h]; exact (List.Perm.cons j (insP_perm i r)).trans (.swap i j r)
theorem sortP_perm : ∀ l, (sortP l).Perm l
  | [] => .refl _
  | i :: r => (insP_perm i (sortP r)).trans (List.Perm.cons i (sortP_perm r))
theorem insP_srt (i : Int × Int) : ∀ {l : List (Int × Int)}, SrtP l → SrtP (insP i l)
  | [], _ => List.pairwise_singleton _ _
  | j :: r, h => by
    unfold insP
    obtain ⟨h1, h2⟩ := List.pairwise_cons.mp h
    by_cases e : leP i j = true
    · rw [if_pos e]
      refine List.pairwise_cons.mpr ⟨fun x hx => ?_, h⟩
      rcases List.mem_cons.mp hx with z | z
      · rw [z]; exact e
      · exact leP_tr e (h1 x z)
    · rw [if_neg e]
      refine List.pairwise_cons.mpr ⟨fun x hx => ?_, insP_srt i h2⟩
      rcases List.mem_cons.mp ((insP_perm i r).mem_iff.mp hx) with z | z
      · rw [z]; exact leP_tot e
      · exact h1 x z
theorem sortP_srt : ∀ l, SrtP (sortP l)
  | [] => .nil
  | i :: r => insP_srt i (sortP_srt r)
theorem uniqP : ∀ {l m : List (Int × Int)}, l.Perm m → SrtP l → SrtP m → l = m
  | [], m, p, _, _ => (List.Perm.eq_nil p.symm).symm
  | x :: l, [], p, _, _ => absurd p.length_eq (by simp)
  | x :: l, y :: m, p, hl, hm => by
    obtain ⟨l1, l2⟩ := List.pairwise_cons.mp hl
    obtain ⟨m1, m2⟩ := List.pairwise_cons.mp hm
    have e1 : leP x y = true := by
      rcases List.mem_cons.mp (p.mem_iff.mpr (List.mem_cons_self (a := y) (l := m))) with e | h
      · rw [e]; exact leP_refl _
      · exact l1 y h
    have e2 : leP y x = true := by
      rcases List.mem_cons.mp (p.mem_iff.mp (List.mem_cons_self (a := x) (l := l))) with e | h
      · rw [e]; exact leP_refl _
      · exact m1 x h
    have e : x = y := leP_anti e1 e2
    subst e
    rw [uniqP p.cons_inv l2 m2]
theorem sortP_of {l m : List (Int × Int)} (p : l.Perm m) (h : SrtP l) : l = sortP m := uniqP (p.trans (sortP_perm m).symm) h (sortP_srt m)
def pairOf : D → Option (Int × Int)
  | .tuple [.int i, .int j] => some (i, j)
  | _ => none
def pairsD : List D → Option (List (Int × Int))
  | [] => some []
  | d :: r => match pairOf d, pairsD r with
    | some p, some l => some (p :: l)
    | _, _ => none
def pairD (p : Int × Int) : D := .tuple [.int p.1, .int p.2]
def keysI : List (Key × D) → Option (List Int)
  | [] => some []
  | (.inl i, _) :: r => (keysI r).map (i :: ·)
  | _ => none
def nSorted : D → Option Sl
  | .list ds => match intsD ds with
    | some ns => some (.own ((sortI ns).map .int))
    | none => match pairsD ds with
      | some ps => some (.own ((sortP ps).map pairD))
      | none => none
  | _ => none
theorem pairsD_eq : ∀ {ds : List D} {ps : List (Int × Int)}, pairsD ds = some ps → ds = ps.map pairD
  | [], _, e => by cases e; rfl
  | d :: r, ps, e => by
    unfold pairsD at e
    cases e1 : pairOf d with
    | none => rw [e1] at e; cases e
    | some p =>
      cases e2 : pairsD r with
      | none => rw [e1, e2] at e; cases e
      | some l =>
        rw [e1, e2] at e
        cases e
        rw [List.map_cons, ← pairsD_eq e2]
        congr 1
        unfold pairOf at e1
        split at e1
        · cases e1; rfl
        · cases e1
def keyV (H : Hp) : V → Int × Int
  | .ref t => match H t with
    | some (.tup [.int i, .int j]) => (i, j)
    | _ => (0, 0)
  | _ => (0, 0)
theorem reps_pairs : ∀ {ps : List (Int × Int)} {vs : List V}, Reps S H vs (ps.map pairD) → vs.map (keyV H) = ps ∧ ∀ x ∈ vs, ∃ t, x = V.ref t ∧ S t ∧ H t = some (.tup [.int (keyV H x).1, .int (keyV H x).2])
  | [], _, .nil => ⟨rfl, fun x h => by simp at h⟩
  | p :: ps, _, .cons (v := v) h t => by
    obtain ⟨i1, i2⟩ := reps_pairs t
    obtain ⟨a, us, ea, hS, ha, ru⟩ := Rep.tup' (show Rep S H v (.tuple [.int p.1, .int p.2]) from h)
    cases ru with
    | cons r1 t1 =>
      cases t1 with
      | cons r2 t2 =>
        cases t2
        have e1 := Rep1.int (.inl r1)
        have e2 := Rep1.int (.inl r2)
        subst e1; subst e2; subst ea
        have ek : keyV H (.ref a) = p := by
          show (match H a with | some (.tup [.int i, .int j]) => (i, j) | _ => (0, 0)) = p
          rw [ha]
        refine ⟨by rw [List.map_cons, i1, ek], fun x hx => ?_⟩
        rcases List.mem_cons.mp hx with e | e
        · subst e; exact ⟨a, rfl, hS, by rw [ek]; exact ha⟩
        · exact i2 x e
theorem pairs_reps : ∀ {vs : List V}, (∀ x ∈ vs, ∃ t, x = V.ref t ∧ S t ∧ H t = some (.tup [.int (keyV H x).1, .int (keyV H x).2])) → Reps S H vs ((vs.map (keyV H)).map pairD)
  | [], _ => .nil
  | x :: vs, h => by
    obtain ⟨t, e, hS, ht⟩ := h x List.mem_cons_self
    subst e
    exact .cons (.tup hS ht (.cons (.int _) (.cons (.int _) .nil))) (pairs_reps fun y hy => h y (List.mem_cons_of_mem _ hy))
theorem ints_reps : ∀ ns : List Int, Reps S H (ns.map V.int) (ns.map .int)
  | [] => .nil
  | n :: ns => .cons (.int n) (ints_reps ns)
theorem intsD_eq : ∀ {ds : List D} {ns : List Int}, intsD ds = some ns → ds = ns.map .int
  | [], _, e => by cases e; rfl
  | d :: r, ns, e => by
    cases d with
    | int i =>
      unfold intsD at e
      cases e2 : intsD r with
      | none => rw [e2] at e; cases e
      | some l => rw [e2] at e; cases e; rw [List.map_cons, ← intsD_eq e2]
    | _ => cases e
theorem ob_sorted : OB (fun vs H Q => rSortedI K vs H Q ∨ rSortedPO K vs H Q) (b1 nSorted) := by
  intro S H vs ds Q dm r q
  match ds, r, q with
  | [d], r, q =>
    obtain ⟨v, rfl, r1⟩ := r.one
    have q : OPost S H Q (nSorted d) := q
    cases d with
    | list ds =>
      obtain ⟨a, xs, rfl, ha, rx⟩ := r1.list
      have q : OPost S H Q (match intsD ds with
        | some ns => some (.own ((sortI ns).map .int))
        | none => match pairsD ds with
          | some ps => some (.own ((sortP ps).map pairD))
          | none => none) := q
      cases e1 : intsD ds with
      | some ns =>
        rw [e1] at q
        have ex := reps_ints rx e1
        subst ex
        refine .inl ⟨a, ns, rfl, SqL.of ha, fun ns' p hp hs h0 => ?_⟩
        rw [sortI_of hp hs]
        exact q.own dm (ints_reps _) h0
      | none =>
        rw [e1] at q
        cases e2 : pairsD ds with
        | none => rw [e2] at q; exact q.elim
        | some ps =>
          rw [e2] at q
          rw [pairsD_eq e2] at rx
          obtain ⟨k1, k2⟩ := reps_pairs rx
          refine .inr ⟨a, xs, keyV H, rfl, SqL.of ha, fun x hx => ?_, fun ys p hs hb h0 => ?_⟩
          · obtain ⟨t, e, _, ht⟩ := k2 x hx
            exact ⟨t, e, ht⟩
          · have ep : (ys.map (keyV H)).Perm ps := by rw [← k1]; exact hb.perm.map _
            have es : SrtP (ys.map (keyV H)) := List.pairwise_map.mpr (hs.imp fun {x y} h => by
              show (!SrtO.lexB (keyV H y) (keyV H x)) = true
              have h : SrtO.lexB (keyV H y) (keyV H x) = false := h
              rw [h]; rfl)
            have e := sortP_of ep es
            have q : OPost S H Q (some (.own ((sortP ps).map pairD))) := q
            rw [← e] at q
            exact q.own dm (pairs_reps fun y hy => k2 y (hb.perm.mem_iff.mp hy)) h0
    | _ => exact q.elim
  | [], r, q => exact q.elim
  | _ :: _ :: _, r, q => exact q.elim
/-! ### xs.insert(i, y) -/
def rInsert : V → List V → Hp → VK → Prop := fun x vs H Q => ∃ (l : Addr) (xs : List V) (i : Int) (y : V), x = .ref l ∧ vs = [.int i, y] ∧ H l = some (.lst xs) ∧ xs.length < sizeLine ∧ 0 ≤ i ∧ i < 2 ^ 63 ∧
    Q .non (upd H l (.lst (xs.take i.toNat ++ [y] ++ xs.drop i.toNat)))
def pInsert : List D → List D → Option (Option D × List D)
  | [.int i, d], ds => bif decide (ds.length < 16777216) && (decide (0 ≤ i) && decide (i < 9223372036854775808)) then some (none, ds.take i.toNat ++ [d] ++ ds.drop i.toNat) else none
  | _, _ => none
theorem mo_insert : MutOk K rInsert pInsert := by
  intro S H a vs us ds as Q o ds' dm ha rv ru e q
  have go : ∀ {i : Int} {d : D}, as = [.int i, d] → rInsert (.ref a) us H Q := fun {i d} eas => by
    subst eas
    obtain ⟨hz, e2⟩ := bif_eq (show (bif decide (ds.length < 16777216) && (decide (0 ≤ i) && decide (i < 9223372036854775808)) then some (none, ds.take i.toNat ++ [d] ++ ds.drop i.toNat) else none) = some (o, ds') from e)
    cases e2
    obtain ⟨h1, h2⟩ := (Bool.and_eq_true _ _ ▸ hz : _ ∧ _)
    obtain ⟨h2, h3⟩ := (Bool.and_eq_true _ _ ▸ h2 : _ ∧ _)
    cases ru with
    | cons r1 t1 =>
      cases t1 with
      | cons r2 t2 =>
        cases t2
        have e1 := Rep1.int (.inl r1)
        subst e1
        refine ⟨a, vs, i, _, rfl, rfl, ha, by rw [rv.len]; exact size_lt h1, of_decide_eq_true h2, ?_, q _ _ (((rv.take i.toNat).append (.cons r2 .nil)).append (rv.drop i.toNat)) .non⟩
        have := of_decide_eq_true h3
        omega
  unfold pInsert at e
  split at e
  · exact go rfl
  · cases e
end
/-! ### a, b = x, y -/
section
variable {mg : Str → Option Value} {W : WX} {t : TA} {fs : M (List Sl)}
def sPar (i j : Nat) (fs : M (List Sl)) : SM := M.bind fs fun rs => M.bind (optM (valsD rs)) fun ds => fun δ => match ds with
  | [x, y] => .ok .nx ((δ.set i (.val x)).set j (.val y))
  | _ => .bad
theorem ds_par {i j : Nat} (ha : DA mg W t fs) : DS mg W (tPar i j t) (sPar i j fs) := by
  intro B S H σ δ Ds I q
  refine ha B S H σ δ _ I (Pst.mono (PstS.split q) fun rs δ1 S1 H1 I1 G1 q vs rv => ?_)
  obtain ⟨ds, er, q⟩ := PstS.optM q
  have rr := valsD_rep rv er
  match ds, rr, q with
  | [x, y], rr, q =>
    cases rr with
    | cons r1 t1 =>
      cases t1 with
      | cons r2 t2 =>
        cases t2
        refine ⟨_, _, rfl, ?_⟩
        have J1 := I1.set (i := i) (x := _) (s := .val x) ⟨_, rfl, r1⟩ (fun _ z => by cases z) (fun z => by cases z)
        have J2 := J1.set (i := j) (x := _) (s := .val y) ⟨_, rfl, r2⟩ (fun _ z => by cases z) (fun z => by cases z)
        exact q S1 H1 _ J2 (Gx.refl S1 H1)
  | [], rr, q => exact q.elim
  | [_], rr, q => exact q.elim
  | _ :: _ :: _ :: _, rr, q => exact q.elim
end
/-! ### words -/
section
variable {X : Cx} {W : WX} {a b c e o idx elt tg iter : Expr} {es rest ifs : List Expr} {st : Stmt} {ta tb tc te to ti : TE} {t : TA} {f g h e' i' : M Sl} {fs : M (List Sl)} {pos apos cpos p pos' p2 : Pos} {x y : Str}
theorem pd_lenX (hm : X.mg "len" = none) (ha : PDA X W (e :: es) t fs) (hg : Gl X "len" := by rfl) (he : starEach (e :: es) X.env = (false, eval e X.env) :: starEach es X.env := by rfl) (hpl : (backTo pos (starEach es X.env)).any (·.1) = false := by rfl) : PD X W (.Call (.Name "len" p) (e :: es) [] pos) (tCB (fun vs H Q => rLenV X.K vs H Q ∨ rLenDR vs H Q) t) (eB (b1 nLenX) fs) := pd_bi (CallR.or call_len call_lenDR) ob_lenX hm ha boot_len' hg (by decide) (by decide) he hpl
theorem pd_dict (hm : X.mg "dict" = none) (ha : PDA X W (e :: es) t fs) (hg : Gl X "dict" := by rfl) (he : starEach (e :: es) X.env = (false, eval e X.env) :: starEach es X.env := by rfl) (hpl : (backTo pos (starEach es X.env)).any (·.1) = false := by rfl) : PD X W (.Call (.Name "dict" p) (e :: es) [] pos) (tCB rDictD t) (eB (b1 nDict) fs) := pd_ty call_dictD ob_dict hm ha boot_dict' hg (by decide) (by decide) he hpl
theorem pd_sorted (hm : X.mg "sorted" = none) (ha : PDA X W (e :: es) t fs) (hg : Gl X "sorted" := by rfl) (he : starEach (e :: es) X.env = (false, eval e X.env) :: starEach es X.env := by rfl) (hpl : (backTo pos (starEach es X.env)).any (·.1) = false := by rfl) : PD X W (.Call (.Name "sorted" p) (e :: es) [] pos) (tCB (fun vs H Q => rSortedI X.K vs H Q ∨ rSortedPO X.K vs H Q) t) (eB (b1 nSorted) fs) := pd_bi (CallR.or cr_sortedI cr_sortedPO) ob_sorted hm ha boot_sorted' hg (by decide) (by decide) he hpl
theorem pd_insert (i : Nat) (ho : PE X o (tVar i)) (ha : PDA X W (e :: es) t fs)
    (hbase : attributeBase o "insert" X.env (eval o X.env) = eval o X.env := by rfl)
    (hfew : ((backTo cpos (starEach (e :: es) X.env)).all (fun x => !x.1) && (backToKw cpos (keywordEach [] X.env)).all (fun x => x.1.isSome)
      && decide ((e :: es).length + ([] : List Keyword).length + (if ([] : List Keyword).isEmpty then 0 else 1) < 30)) = true := by rfl)
    (hline : (apos.endLine == cpos.line) = true := by rfl) (hs : starEach (e :: es) X.env = (false, eval e X.env) :: starEach es X.env := by rfl) (hplain : (backTo cpos (starEach es X.env)).any (·.1) = false := by rfl) :
    PD X W (.Call (.Attribute o "insert" apos) (e :: es) [] cpos) (tBM X.K "list" rInsert (tVar i) t) (mMut i pInsert fs) := pd_m1 i PySem.F.slot_list_insert PySem.F.type_list_insert mt_insert mo_insert ho ha hbase hfew hline hs hplain
theorem pd_dnew : PD X W (.Dict [] [] pos) tDNewK eDnew := ⟨pe_dnewK, de_dnew⟩
theorem pd_dix {k : Nat} (hr : Room k X.A) (ha : PD X W a ta f) (hb : PD X W b tb g) (hs : NoSl b := by exact fun _ _ => rfl) : PD X W (.Subscript a b pos) (tDGet ta tb) (eDix f g) := ⟨pe_dget (by have := hr.units; omega) ha.pe hb.pe hs, de_dix ha.de hb.de⟩
theorem pd_dget2 {k : Nat} (hr : Room k X.A) (ha : PD X W o ta f) (hb : PD X W a tb g) (hc : PD X W b tc h) (m : M2 X o "get" apos a b cpos := by exact ⟨rfl, rfl, rfl, rfl⟩) : PD X W (.Call (.Attribute o "get" apos) [a, b] [] cpos) (tDGet2 ta tb tc) (eGet2 f g h) := ⟨pe_dget2 (by have := hr.units; omega) ha.pe hb.pe hc.pe m, de_get2 ha.de hb.de hc.de⟩
/-- d[k] = e -/
theorem st_dput {k : Nat} (hr : Room k X.A) (i : Nat) (he : PD X W e te e') (hk : PD X W idx ti i') (hN : X.N[i]? = some x := by rfl) (hv : Vis X.env.scope x := by first | exact Or.inl rfl | exact Or.inr (Or.inl rfl) | exact Or.inr (Or.inr rfl)) (hd : (x == ("__debug__" : Str)) = false := by decide)
    (hcd : (x == ("__classdict__" : Str)) = false := by decide) (hs : swapsWith e (some (.Subscript (.Name x p) idx p2)) pos.line X.env = pure false := by rfl) :
    PDS X W (.Assign [.Subscript (.Name x p) idx p2] e pos) (sDPut (tVar i) ti te) (sDput i e' i') := ⟨ps_dput (by have := hr.units; omega) (pe_var hN hv hd hcd) hk.pe he.pe hs, ds_dput he.de hk.de⟩
/-- a, b = x, y -/
theorem st_par {kt k2 : Nat} {px py pt pt2 : Pos} (i j : Nat) (hN : X.N.Nodup) (ha : PDA X W [a, b] t fs) (hc : X.calm = true := by rfl) (hi : X.N[i]? = some x := by rfl) (hj : X.N[j]? = some y := by rfl) (hij : i ≠ j := by decide)
    (hx : X.env.scope.names.lookup x = some .local := by rfl) (hy : X.env.scope.names.lookup y = some .local := by rfl)
    (hw : swappedStores [.Tuple [.Name x px, .Name y py] kt pt] (.Tuple [a, b] k2 pt2) X.env = pure (some [x, y]) := by rfl)
    (hs : swapsWithSole [.Tuple [.Name x px, .Name y py] kt pt] (.Tuple [a, b] k2 pt2) pos.line X.env = pure false := by rfl) :
    PDS X W (.Assign [.Tuple [.Name x px, .Name y py] kt pt] (.Tuple [a, b] k2 pt2) pos) (tPar i j t) (sPar i j fs) := ⟨ps_par hc hN hi hj hij hx hy ha.pa hw hs, ds_par ha.da⟩
end
end DW

set_option Elab.async false
set_option linter.all false
set_option maxRecDepth 100000
set_option maxHeartbeats 2000000
/-! DW: walks over dicts. -/
namespace DW
open PySem PySem.Spec PyProof.Rows L2

/-! ### a dict is locked while it is walked -/
structure Lk1 (a : Addr) (ws : List (Key × V)) (H H' : Hp) : Prop where
  same : ∀ b, b ≠ a → H' b = H b
  r : Rd H a (.dK ws)
  r' : Rd H' a (.dK ws)
theorem rd_inj {H : Hp} {a : Addr} {ws vs : List (Key × V)} (h : Rd H a (.dK ws)) (h' : Rd H a (.dK vs)) : ws = vs := by
  rcases h with h | ⟨o, h⟩
  · rcases h' with k | ⟨q, k⟩
    · rw [h] at k; cases k; rfl
    · rw [h] at k; cases k
  · rcases h' with k | ⟨q, k⟩
    · rw [h] at k; cases k
    · rw [h] at k; cases k; rfl
theorem rd_nl {H : Hp} {a : Addr} {ws : List (Key × V)} {xs : List V} (h : Rd H a (.dK ws)) : H a ≠ some (.lst xs) ∧ H a ≠ some (.tup xs) := by
  rcases h with h | ⟨o, h⟩ <;> rw [h] <;> exact ⟨fun z => (by cases z), fun z => (by cases z)⟩
section
variable {S : Addr → Prop} {H H' : Hp} {a : Addr} {ws : List (Key × V)}
mutual
theorem Rep.lk (L : Lk1 a ws H H') : ∀ {v : V} {d : D}, Rep S H v d → Rep S H' v d
  | _, _, .non => .non
  | _, _, .bl b => .bl b
  | _, _, .int i => .int i
  | _, _, .str x => .str x
  | _, _, .lst (a := b) h e r => .lst h (by rw [L.same b (fun z => by subst z; exact (rd_nl L.r).1 e)]; exact e) (Reps.lk L r)
  | _, _, .tup (a := b) h e r => .tup h (by rw [L.same b (fun z => by subst z; exact (rd_nl L.r).2 e)]; exact e) (Reps.lk L r)
  | _, _, .dic (a := b) h e r q => .dic h (by
      by_cases z : b = a
      · subst z
        rw [rd_inj e L.r]
        exact L.r'
      · unfold Rd
        rw [L.same b z]
        exact e) (RepK.lk L r) q
theorem Reps.lk (L : Lk1 a ws H H') : ∀ {vs : List V} {ds : List D}, Reps S H vs ds → Reps S H' vs ds
  | _, _, .nil => .nil
  | _, _, .cons h t => .cons (Rep.lk L h) (Reps.lk L t)
theorem RepK.lk (L : Lk1 a ws H H') : ∀ {vs : List (Key × V)} {ds : List (Key × D)}, RepK S H vs ds → RepK S H' vs ds
  | _, _, .nil => .nil
  | _, _, .cons h t => .cons (Rep.lk L h) (RepK.lk L t)
end
end
def Ba.lkd (B : Ba) (a : Addr) (o : HO) : Ba := ⟨upd B.H0 a o, addS B.S0 a, B.par⟩
section
variable {mg : Str → Option Value} {W : WX} {B : Ba} {S S' S1 S2 : Addr → Prop} {H H' H1 H2 : Hp} {σ σ2 : L2.St} {δ δ1 δ2 : Env} {a : Addr} {ws : List (Key × V)} {od : Obj}
theorem SlotOk.lk (L : Lk1 a ws H H') (hS : S a) {v : Option V} : ∀ {s : Sl}, SlotOk S H v s → SlotOk S H' v s
  | .un, _ => trivial
  | .val d, ⟨x, e, r⟩ => ⟨x, e, r.lk L⟩
  | .own ds, ⟨b, vs, e, n, h, r⟩ => ⟨b, vs, e, n, by rw [L.same b (fun z => n (by rw [z]; exact hS))]; exact h, r.lk L⟩
  | .prm ds, ⟨b, vs, e, n, h, r⟩ => ⟨b, vs, e, n, by rw [L.same b (fun z => n (by rw [z]; exact hS))]; exact h, r.lk L⟩
  | .ownD ds, ⟨b, vs, e, n, h, r⟩ => ⟨b, vs, e, n, by rw [L.same b (fun z => n (by rw [z]; exact hS))]; exact h, r.lk L⟩
theorem J.lock (I : J B S H σ δ) (hS : S a) (ha : H a = some (.dK ws)) : J (B.lkd a (.frz od (.dK ws))) S (upd H a (.frz od (.dK ws))) σ δ := by
  have L : Lk1 a ws H (upd H a (.frz od (.dK ws))) := ⟨fun b n => upd_ne n, .inl ha, .inr ⟨od, upd_same⟩⟩
  have nn : ∀ b, H b ≠ none → upd H a (.frz od (.dK ws)) b ≠ none := fun b h z => by
    by_cases e : b = a
    · subst e; rw [upd_same] at z; cases z
    · rw [upd_ne e] at z; exact h z
  have oa : ∀ {i : Nat} {b : Addr} {s : Sl}, σ[i]? = some (some (.ref b)) → δ[i]? = some s → s.isOwn = true → b ≠ a := fun {i b s} h1 h2 o z => by
    subst z
    have sl := I.slot i _ s h1 h2
    cases s with
    | own ds => obtain ⟨c, _, e, n, _⟩ := sl; cases e; exact n hS
    | prm ds => obtain ⟨c, _, e, n, _⟩ := sl; cases e; exact n hS
    | ownD ds => obtain ⟨c, _, e, n, _⟩ := sl; cases e; exact n hS
    | _ => cases o
  refine ⟨I.len, fun i ov s h1 h2 => (I.slot i ov s h1 h2).lk L hS, I.dis, fun i b s h1 h2 o => ?_, fun b u e n => ?_, fun b h => h.elim (I.sub b) fun z => by rw [z]; exact hS, fun b hb => ?_, I.ion, fun b h => nn b (I.iod b h), fun b h => nn b (I.dom b h), fun j b h1 z => ?_⟩
  · rcases I.ownN i b s h1 h2 o with ⟨q1, q2⟩ | q
    · refine .inl ⟨?_, q2⟩
      show upd B.H0 a _ b = none
      rw [upd_ne (oa h1 h2 o)]; exact q1
    · exact .inr q
  · have e : upd B.H0 a (.frz od (.dK ws)) b = some u := e
    by_cases z : b = a
    · subst z; rw [upd_same] at e ⊢; exact e
    · rw [upd_ne z] at e ⊢; exact I.old b u e n
  · by_cases z : b = a
    · exact .inl (.inr z)
    · rcases I.new b hb with q | q
      · exact .inl (.inl q)
      · refine .inr ?_
        show upd B.H0 a _ b = none
        rw [upd_ne z]; exact q
  · have z : upd B.H0 a (.frz od (.dK ws)) b = none := z
    by_cases e : b = a
    · subst e; rw [upd_same] at z; cases z
    · rw [upd_ne e] at z; exact I.parH j b h1 z
/-- .. and opened again -/
theorem J.unlock (I : J B S H σ δ) (hS : S a) (ha : H a = some (.dK ws)) (I2 : J (B.lkd a (.frz od (.dK ws))) S2 H2 σ2 δ2) (G : Gx S (upd H a (.frz od (.dK ws))) S2 H2) :
    H2 a = some (.frz od (.dK ws)) ∧ J B S2 (upd H2 a (.dK ws)) σ2 δ2 ∧ Gx S H S2 (upd H2 a (.dK ws)) ∧ Lk1 a ws H2 (upd H2 a (.dK ws)) := by
  have hS2 : S2 a := G.sub a hS
  have h2 : H2 a = some (.frz od (.dK ws)) := G.keep a _ hS upd_same
  have L : Lk1 a ws H2 (upd H2 a (.dK ws)) := ⟨fun b n => upd_ne n, .inr ⟨od, h2⟩, .inl upd_same⟩
  have nn : ∀ b, H2 b ≠ none → upd H2 a (.dK ws) b ≠ none := fun b h z => by
    by_cases e : b = a
    · subst e; rw [upd_same] at z; cases z
    · rw [upd_ne e] at z; exact h z
  have back : ∀ b, (B.lkd a (.frz od (.dK ws))).H0 b = none → B.H0 b = none := fun b z => by
    have z : upd B.H0 a (.frz od (.dK ws)) b = none := z
    by_cases e : b = a
    · subst e; rw [upd_same] at z; cases z
    · rw [upd_ne e] at z; exact z
  refine ⟨h2, ⟨I2.len, fun i ov s h1 h3 => (I2.slot i ov s h1 h3).lk L hS2, I2.dis, fun i b s h1 h3 o => ?_, fun b u e n => ?_, fun b h => I2.sub b (.inl h), fun b hb => ?_, I2.ion, fun b h => nn b (I2.iod b h), fun b h => nn b (I2.dom b h), I.parH⟩, ⟨G.sub, fun b o hb e => ?_⟩, L⟩
  · rcases I2.ownN i b s h1 h3 o with ⟨q1, q2⟩ | q
    · exact .inl ⟨back b q1, q2⟩
    · exact .inr q
  · by_cases z : b = a
    · subst z
      have := I.old b u e n
      rw [ha] at this
      rw [upd_same]; exact this
    · rw [upd_ne z]
      refine I2.old b u ?_ n
      show upd B.H0 a _ b = some u
      rw [upd_ne z]; exact e
  · rcases I2.new b hb with q | q
    · rcases q with q | q
      · exact .inl q
      · subst q; exact I.new b hS
    · exact .inr (back b q)
  · by_cases z : b = a
    · subst z; rw [ha] at e; rw [upd_same]; exact e
    · rw [upd_ne z]
      exact G.keep b o hb (by rw [upd_ne z]; exact e)
theorem RepR.unlk {o : HO} (hS : S2 a) (L : Lk1 a ws H2 H') {v : V} (pn : ∀ b, (B.lkd a o).H0 b = none → B.H0 b = none) : ∀ {r : Sl}, RepR (B.lkd a o) S2 H2 σ δ v r → RepR B S2 H' σ δ v r
  | .val d, h => Rep.lk L h
  | .bor i, h => h
  | .own ds, ⟨b, vs, e, f, n, h, r⟩ => ⟨b, vs, e, ⟨pn b f.1, f.2⟩, n, by rw [L.same b (fun z => n (by rw [z]; exact hS))]; exact h, r.lk L⟩
  | .ownD ds, ⟨b, vs, e, f, n, h, r⟩ => ⟨b, vs, e, ⟨pn b f.1, f.2⟩, n, by rw [L.same b (fun z => n (by rw [z]; exact hS))]; exact h, r.lk L⟩
  | .un, h => h.elim
  | .prm _, h => h.elim
theorem lkd_back {o : HO} (b : Addr) (z : (B.lkd a o).H0 b = none) : B.H0 b = none := by
  have z : upd B.H0 a o b = none := z
  by_cases e : b = a
  · subst e; rw [upd_same] at z; cases z
  · rw [upd_ne e] at z; exact z
/-- slot i holds a locked dict -/
def Lkd (σ : L2.St) (H : Hp) (i : Nat) : Prop := ∃ a o ws, σ[i]? = some (some (.ref a)) ∧ H a = some (.frz o (.dK ws))
def dictAt (δ : Env) (i : Nat) : Option (List (Key × D)) := match δ[i]? with
  | some (.val e) => undict e
  | _ => none
theorem Rep.und {x : V} {e : D} {kvs : List (Key × D)} (h : Rep S H x e) (u : undict e = some kvs) : ∃ a ws, x = .ref a ∧ S a ∧ Rd H a (.dK ws) ∧ RepK S H ws kvs := by
  cases h with
  | dic h0 h1 h2 q =>
    subst q
    rw [undict_dictD] at u
    cases u
    exact ⟨_, _, rfl, h0, h1, h2⟩
  | _ => cases u
theorem dictAt_at (I : J B S H σ δ) {i : Nat} {kvs : List (Key × D)} (h : dictAt δ i = some kvs) : ∃ a ws, σ[i]? = some (some (.ref a)) ∧ S a ∧ Rd H a (.dK ws) ∧ RepK S H ws kvs := by
  unfold dictAt at h
  cases es : δ[i]? with
  | none => simp [es] at h
  | some s =>
    have hl : i < σ.length := by rw [I.len]; exact (List.getElem?_eq_some_iff.mp es).1
    have eσ : σ[i]? = some σ[i] := List.getElem?_eq_getElem hl
    have sl := I.slot i _ s eσ es
    simp only [es] at h
    cases s with
    | val e =>
      obtain ⟨x, ex, r⟩ := sl
      obtain ⟨a, ws, ea, h1, h2, h3⟩ := r.und h
      exact ⟨a, ws, by rw [eσ, ex, ea], h1, h2, h3⟩
    | _ => cases h
def eLock (i : Nat) (f : M Sl) : M Sl := fun δ => match dictAt δ i with
  | some _ => match f δ with
    | .ok r δ' => .ok r δ'
    | _ => .bad
  | none => .bad
def sLock (i : Nat) (f : SM) : SM := fun δ => match dictAt δ i with
  | some _ => match f δ with
    | .ok r δ' => .ok r δ'
    | _ => .bad
  | none => .bad
def tLkE (te : TE) : TE := fun σ H Q => te σ H Q ∨ tLockE te σ H Q
def tLkS (ts : TS) : TS := fun D σ H => ts D σ H ∨ tLock ts D σ H
theorem de_lock {i : Nat} {te : TE} {f : M Sl} (h : ∀ B S H σ δ, Lkd σ H i → DEs mg W B S H σ δ te f) : DE mg W (tLkE te) (eLock i f) := by
  intro B S H σ δ Q I p
  unfold eLock at p
  cases e0 : dictAt δ i with
  | none => rw [e0] at p; exact p.elim
  | some kvs =>
    rw [e0] at p
    obtain ⟨a, ws, hσ, hS, hd, rk⟩ := dictAt_at I e0
    cases ef : f δ with
    | bad => rw [ef] at p; exact p.elim
    | ex e δ' => rw [ef] at p; exact p.elim
    | ok r δ' =>
      rw [ef] at p
      rcases hd with hd | ⟨o, hd⟩
      · refine .inr ⟨a, .dK ws, hd, by exact True.intro, fun od => ?_⟩
        refine h _ S _ σ δ ⟨a, od, ws, hσ, upd_same⟩ _ (I.lock (od := od) hS hd) ?_
        rw [ef]
        intro S2 H2 I2 G2 v rv
        obtain ⟨h2, I3, G3, L⟩ := I.unlock hS hd I2 G2
        exact ⟨h2, p S2 _ I3 G3 v (rv.unlk (G2.sub a hS) L lkd_back)⟩
      · refine .inl (h B S H σ δ ⟨a, o, ws, hσ, hd⟩ Q I ?_)
        rw [ef]
        exact p
theorem ds_lock {i : Nat} {ts : TS} {f : SM} (h : ∀ B S H σ δ, Lkd σ H i → DSs mg W B S H σ δ ts f) : DS mg W (tLkS ts) (sLock i f) := by
  intro B S H σ δ Ds I p
  unfold sLock at p
  cases e0 : dictAt δ i with
  | none => rw [e0] at p; exact p.elim
  | some kvs =>
    rw [e0] at p
    obtain ⟨a, ws, hσ, hS, hd, rk⟩ := dictAt_at I e0
    cases ef : f δ with
    | bad => rw [ef] at p; exact p.elim
    | ex e δ' => rw [ef] at p; exact p.elim
    | ok r δ' =>
      rw [ef] at p
      rcases hd with hd | ⟨o, hd⟩
      · refine .inr ⟨a, .dK ws, hd, by exact True.intro, fun od => ?_⟩
        refine h _ S _ σ δ ⟨a, od, ws, hσ, upd_same⟩ _ (I.lock (od := od) hS hd) ?_
        rw [ef]
        cases r with
        | nx =>
          intro S2 H2 σ2 I2 G2
          obtain ⟨h2, I3, G3, L⟩ := I.unlock hS hd I2 G2
          exact ⟨h2, p S2 _ σ2 I3 G3⟩
        | bk =>
          intro S2 H2 σ2 I2 G2
          obtain ⟨h2, I3, G3, L⟩ := I.unlock hS hd I2 G2
          exact ⟨h2, p S2 _ σ2 I3 G3⟩
        | ct =>
          intro S2 H2 σ2 I2 G2
          obtain ⟨h2, I3, G3, L⟩ := I.unlock hS hd I2 G2
          exact ⟨h2, p S2 _ σ2 I3 G3⟩
        | rt r =>
          intro S2 H2 σ2 v I2 G2 rv
          obtain ⟨h2, I3, G3, L⟩ := I.unlock hS hd I2 G2
          exact ⟨h2, p S2 _ σ2 v I3 G3 (rv.unlk (G2.sub a hS) L lkd_back)⟩
      · refine .inl (h B S H σ δ ⟨a, o, ws, hσ, hd⟩ Ds I ?_)
        rw [ef]
        exact p
/-! ### its keys, its pairs -/
def iDk (i : Nat) : M (List D) := fun δ => match dictAt δ i with
  | some kvs => .ok (kvs.map fun p => keyD p.1) δ
  | none => .bad
def iDi (i : Nat) : M (List D) := fun δ => match dictAt δ i with
  | some kvs => .ok (kvs.map fun p => .tuple [keyD p.1, p.2]) δ
  | none => .bad
theorem rep_key (k : Key) : Rep S H (kV k) (keyD k) := by
  cases k with
  | inl i => exact .int i
  | inr x => exact .str x
theorem lkd_dict (I : J B S H σ δ) {i : Nat} (L : Lkd σ H i) {kvs : List (Key × D)} (h : dictAt δ i = some kvs) : ∃ a o ws, σ[i]? = some (some (.ref a)) ∧ S a ∧ H a = some (.frz o (.dK ws)) ∧ RepK S H ws kvs := by
  obtain ⟨a, ws, hσ, hS, hd, rk⟩ := dictAt_at I h
  obtain ⟨a', o, ws', hσ', hd'⟩ := L
  rw [hσ] at hσ'
  cases hσ'
  have e := rd_inj hd (.inr ⟨o, hd'⟩)
  subst e
  exact ⟨a, o, ws, hσ, hS, hd', rk⟩
theorem dis_keys {i : Nat} (L : Lkd σ H i) : DIs mg W B S H σ δ (iKeys (tVar i)) (iDk i) := by
  intro R I p
  unfold iDk at p
  cases e0 : dictAt δ i with
  | none => rw [e0] at p; exact p.elim
  | some kvs =>
    rw [e0] at p
    obtain ⟨a, o, ws, hσ, hS, hd, rk⟩ := lkd_dict I L e0
    refine ⟨.ref a, hσ, a, o, rfl, .inl ⟨ws, hd, p S H I (Gx.refl S H) _ fun j S2 H2 g dm => ?_⟩⟩
    have hd2 := g.keep a _ hS hd
    refine ⟨fun hl => ⟨hd2, by rw [rk.len]; simpa using hl⟩, fun d ed => ?_⟩
    rw [List.getElem?_map] at ed
    cases ek : kvs[j]? with
    | none => rw [ek] at ed; cases ed
    | some p =>
      obtain ⟨k, dv⟩ := p
      rw [ek] at ed
      cases ed
      obtain ⟨v, ev, rv⟩ := rk.get ek
      refine ⟨⟨hd2, (List.getElem?_eq_some_iff.mp ev).1⟩, fun x H' y => ?_⟩
      obtain ⟨e1, k', v', e2, e3⟩ := y
      subst e1
      rw [ev] at e2
      cases e2
      subst e3
      exact ⟨S2, Gr.refl dm, rep_key k⟩
theorem dis_items {i : Nat} (L : Lkd σ H i) : DIs mg W B S H σ δ (iItems (tVar i)) (iDi i) := by
  intro R I p
  unfold iDi at p
  cases e0 : dictAt δ i with
  | none => rw [e0] at p; exact p.elim
  | some kvs =>
    rw [e0] at p
    obtain ⟨a, o, ws, hσ, hS, hd, rk⟩ := lkd_dict I L e0
    refine ⟨.ref a, hσ, a, o, ws, rfl, hd, p S H I (Gx.refl S H) _ fun j S2 H2 g dm => ?_⟩
    have hd2 := g.keep a _ hS hd
    refine ⟨fun hl => ⟨hd2, by rw [rk.len]; simpa using hl⟩, fun d ed => ?_⟩
    rw [List.getElem?_map] at ed
    cases ek : kvs[j]? with
    | none => rw [ek] at ed; cases ed
    | some p =>
      obtain ⟨k, dv⟩ := p
      rw [ek] at ed
      cases ed
      obtain ⟨v, ev, rv⟩ := rk.get ek
      refine ⟨⟨hd2, (List.getElem?_eq_some_iff.mp ev).1⟩, fun x H' y => ?_⟩
      obtain ⟨T, k', v', e2, e3, e4, e5⟩ := y
      subst e5
      rw [ev] at e2
      cases e2
      subst e3
      have gr := Gr.newS (p := T) (o := .tup [kV k, v]) dm e4
      exact ⟨addS S2 T, gr, .tup (.inr rfl) upd_same (.cons (rep_key k) (.cons ((rv.gx g).gx gr.gx) .nil))⟩
end
end DW

set_option Elab.async false
set_option linter.all false
set_option maxRecDepth 100000
set_option maxHeartbeats 2000000
/-! DW: dict comprehensions, sorted of a dict, the words for walks over dicts. -/
namespace DW
open PySem PySem.Spec PyProof.Rows L2

def dcL (tgt : D → Env → Option Env) (cond : M Bool) (kx vx : M Sl) (vs : List Nat) : List D → List (Key × D) → Env → Option (List (Key × D) × Env)
  | [], acc, δ => some (acc, δ)
  | d :: ds, acc, δ => match tgt d δ with
    | none => none
    | some δ1 => match cond δ1 with
      | .ok false δ2 => dcL tgt cond kx vx vs ds acc (wipeE vs δ2)
      | .ok true δ2 => match opnd kx δ2 with
        | .ok (.val y) δ3 => match keyOf y, opnd vx δ3 with
          | some k, .ok (.val z) δ4 => bif decide (acc.length < 16777216) then dcL tgt cond kx vx vs ds (putD acc k z) (wipeE vs δ4) else none
          | _, _ => none
        | _ => none
      | _ => none
def dcM (tgt : D → Env → Option Env) (cond : M Bool) (kx vx : M Sl) (vs : List Nat) (ds : List D) : M Sl := fun δ => bif freeOf vs δ then (match dcL tgt cond kx vx vs ds [] (wipeE vs δ) with
  | some (acc, δ') => .ok (.ownD acc) (backE δ vs δ')
  | none => .bad) else .bad
def eDc (src : M (List D)) (tgt : D → Env → Option Env) (cond : M Bool) (kx vx : M Sl) (vs : List Nat) : M Sl := M.bind src (dcM tgt cond kx vx vs)
section
variable {mg : Str → Option Value} {W : WX} {B : Ba} {S S' S1 : Addr → Prop} {H H' H1 : Hp} {σ : L2.St} {δ δ1 : Env} {wi : TI} {gt : TG} {tt : TT} {tk te : TE} {src : M (List D)} {tgt : D → Env → Option Env} {cond : M Bool} {kx elt : M Sl} {vs : List Nat}
theorem backD_own {δ1 δ : Env} : ∀ {vs : List Nat} {j : Nat} {s : Sl}, freeOf vs δ1 = true → (backE δ1 vs δ)[j]? = some s → s.isOwn = true → j ∉ vs ∧ ∃ t, δ[j]? = some t ∧ t.isOwn = true
  | [], j, s, _, h, o => ⟨by simp, s, h, o⟩
  | v :: vs, j, s, f, h, o => by
    have hf := (Bool.and_eq_true _ _ ▸ (show (_ && freeOf vs δ1) = true from f) : _ ∧ _)
    unfold backE at h
    cases ev : δ1[v]? with
    | none =>
      have q := hf.1
      simp only [ev] at q
      cases q
    | some t =>
      simp only [ev] at h
      rcases get_set h with ⟨_, q⟩ | ⟨ne, q⟩
      · subst q
        have z := hf.1
        simp only [ev] at z
        rw [o] at z; cases z
      · obtain ⟨a1, a2⟩ := backD_own hf.2 q o
        exact ⟨fun z => (List.mem_cons.mp z).elim ne a1, a2⟩
theorem de_dcs (hi : DIs mg W B S H σ δ wi src) (hg : DGi vs gt tgt) (ht : DT mg W0 tt cond) (hk : DE mg W0 tk kx) (he : DE mg W0 te elt) : DEs mg W B S H σ δ (tDc wi gt tt tk te vs) (eDc src tgt cond kx elt vs) := by
  intro Q I p
  refine hi _ I (Pst.mono (Pst.split p) fun ds δ1 S1 H1 I1 G1 p1 It ok => ?_)
  intro D hD
  unfold dcM at p1
  cases ef : freeOf vs δ1 with
  | false => rw [ef] at p1; exact p1.elim
  | true =>
    rw [ef] at p1
    cases er : dcL tgt cond kx elt vs ds [] (wipeE vs δ1) with
    | none => rw [er] at p1; exact p1.elim
    | some res =>
      obtain ⟨out, δo⟩ := res
      rw [er] at p1
      have p1 : ∀ S' H', J B S' H' σ (backE δ1 vs δo) → Gx S1 H1 S' H' → ∀ v, RepR B S' H' σ (backE δ1 vs δo) v (.ownD out) → Q v H' := p1
      have nS0 : ¬ B.S0 D := fun z => I1.dom D (I1.sub D z) hD
      have h0D : B.H0 D = none := I1.h0 hD
      have nio : ¬ B.io D := fun z => I1.iod D z hD
      have gr0 := Gr.new1 (p := D) (o := .dK []) I1.dom hD
      have Iw := (I1.gr gr0).wipe vs
      have f0 : Fr B (L2.wipe σ vs) (wipeE vs δ1) D := (I1.wipe vs).frN hD
      refine ⟨fun i m H' => ∃ S' acc va δ', m = ds.length - i ∧ i ≤ ds.length ∧ ¬ S' D ∧ H' D = some (.dK va) ∧ RepK S' H' va acc ∧ Fr B (L2.wipe σ vs) δ' D ∧ J B S' H' (L2.wipe σ vs) δ' ∧ Gx S1 H1 S' H' ∧ dcL tgt cond kx elt vs (ds.drop i) acc δ' = some (out, δo),
        ⟨_, S1, [], [], _, rfl, Nat.zero_le _, fun z => I1.dom D z hD, upd_same, .nil, f0, Iw, gr0.gx, er⟩, ?_⟩
      rintro i m H' ⟨S', acc, va, δ', rfl, hi', nS, hDl, ra, fr, I', G', eq⟩
      obtain ⟨hstop, hgo⟩ := ok i S' H' G' I'.dom
      by_cases hlt : i < ds.length
      · have ed : ds[i]? = some ds[i] := List.getElem?_eq_getElem hlt
        obtain ⟨go, yl⟩ := hgo _ ed
        rw [List.drop_eq_getElem_cons hlt] at eq
        unfold dcL at eq
        refine .inr ⟨go, fun H2 => ∃ S' acc va δ', i + 1 ≤ ds.length ∧ ¬ S' D ∧ H2 D = some (.dK va) ∧ RepK S' H2 va acc ∧ Fr B (L2.wipe σ vs) δ' D ∧ J B S' H2 (L2.wipe σ vs) δ' ∧ Gx S1 H1 S' H2 ∧ dcL tgt cond kx elt vs (ds.drop (i + 1)) acc δ' = some (out, δo),
          fun H2 ⟨a1, a2, a3, a4, h⟩ => ⟨ds.length - (i + 1), by omega, a1, a2, a3, a4, rfl, h⟩, fun x H2 y => ?_⟩
        obtain ⟨S2, g2, r2⟩ := yl x H2 y
        have I2 := I'.gr g2
        have nS2 : ¬ S2 D := fun z => (g2.new D z).elim nS fun q => by rw [hDl] at q; cases q
        have hD2 := g2.keep D _ hDl
        have Ip := I2.pin fr nS2 hD2
        refine hg _ S2 H2 _ δ' x _ _ Ip r2 ?_
        cases et : tgt ds[i] δ' with
        | none => rw [et] at eq; cases eq
        | some δ2 =>
          rw [et] at eq
          simp only at eq ⊢
          intro σ2 I3 l2 k2
          have ew : L2.wipe σ2 vs = L2.wipe σ vs := by
            rw [wipe_same l2 k2]
            exact wipe_same (wipe_length _ _) fun j hj => wipe_out2 hj
          refine ⟨ew, ?_⟩
          have back : ∀ {S4 : Addr → Prop} {H4 : Hp} {δ4 : Env}, J (B.pin D (.dK va)) S4 H4 σ2 δ4 → Gx S2 H2 S4 H4 → ¬ S4 D ∧ H4 D = some (.dK va) ∧ RepK S4 H4 va acc ∧ Fr B (L2.wipe σ vs) (wipeE vs δ4) D ∧ J B S4 H4 (L2.wipe σ vs) (wipeE vs δ4) ∧ Gx S1 H1 S4 H4 := fun {S4 H4 δ4} J4 g4 => by
            have Jw := J4.wipe vs
            rw [ew] at Jw
            obtain ⟨a1, a2, a3⟩ := Jw.unpin h0D nio
            exact ⟨notIn_pin J4 nS0, a3, (ra.gx g2.gx).gx g4, a2, a1, (G'.trans g2.gx).trans g4⟩
          refine ht _ S2 H2 σ2 δ2 _ I3 ?_
          cases ec : cond δ2 with
          | bad => rw [ec] at eq; cases eq
          | ex e0 δ3 => rw [ec] at eq; cases eq
          | ok b δ3 =>
            rw [ec] at eq
            intro S3 H3 J3 g3
            cases b with
            | false =>
              rw [if_neg Bool.false_ne_true]
              obtain ⟨b1, b2, b3, b4, b5, b6⟩ := back J3 g3
              exact ⟨S3, acc, va, _, hlt, b1, b2, b3, b4, b5, b6, eq⟩
            | true =>
              rw [if_pos rfl]
              simp only at eq
              refine hk.o _ S3 H3 σ2 δ3 _ J3 ?_
              cases ek : opnd kx δ3 with
              | bad => rw [ek] at eq; cases eq
              | ex e0 δ4 => rw [ek] at eq; cases eq
              | ok r δ4 =>
                rw [ek] at eq
                cases r with
                | val yd =>
                  simp only at eq
                  intro S4 H4 J4 g4 yv ry
                  cases ekk : keyOf yd with
                  | none => rw [ekk] at eq; cases eq
                  | some k =>
                    rw [ekk] at eq
                    refine he.o _ S4 H4 σ2 δ4 _ J4 ?_
                    cases ee : opnd elt δ4 with
                    | bad => rw [ee] at eq; cases eq
                    | ex e0 δ5 => rw [ee] at eq; cases eq
                    | ok r2 δ5 =>
                      rw [ee] at eq
                      cases r2 with
                      | val zd =>
                        simp only at eq
                        intro S5 H5 J5 g5 zv rz
                        cases ez : decide (acc.length < 16777216) with
                        | false => rw [ez] at eq; cases eq
                        | true =>
                          rw [ez] at eq
                          obtain ⟨b1, b2, b3, b4, b5, b6⟩ := back J5 ((g3.trans g4).trans g5)
                          obtain ⟨J6, g6⟩ := b5.updFree (o := .dK (putK va k zv)) b4 b1
                          have ry : Rep S4 H4 yv yd := ry
                          have rz : Rep S5 H5 zv zd := rz
                          have hz : va.length < sizeLine := by rw [b3.len]; exact size_lt ez
                          exact ⟨va, k, Rep1.key (.inl ry) ekk, b2, hz, S5, putD acc k zd, putK va k zv, _, hlt, b1, upd_same, (b3.put k rz).gx g6, b4, J6, b6.trans g6, eq⟩
                      | _ => cases eq
                | _ => cases eq
      · have e : i = ds.length := by omega
        subst e
        rw [List.drop_length] at eq
        cases eq
        have I5 := J.unwipe I1 G' ef I'
        refine .inl ⟨hstop (Nat.le_refl _), p1 S' H' I5 G' _ ⟨D, va, rfl, ⟨h0D, nio, fun j s h1 h2 => ?_⟩, nS, hDl, ra⟩⟩
        cases os : s.isOwn with
        | false => rfl
        | true =>
          exfalso
          obtain ⟨hjv, t, et, ot⟩ := backD_own (δ1 := δ1) (δ := δo) (vs := vs) ef h2 os
          have hj : j < σ.length := (List.getElem?_eq_some_iff.mp h1).1
          have := fr.2.2 j t (by rw [wipe_out2 hjv]; exact h1) et
          rw [this] at ot
          cases ot
theorem de_dc (hi : DI mg W wi src) (hg : DGi vs gt tgt) (ht : DT mg W0 tt cond) (hk : DE mg W0 tk kx) (he : DE mg W0 te elt) : DE mg W (tDc wi gt tt tk te vs) (eDc src tgt cond kx elt vs) := fun B S H σ δ Q I p => de_dcs (fun R I p => hi B S H σ δ R I p) hg ht hk he Q I p
end

/-! ### sorted(d), all keys ints -/
theorem dcalm {X : Cx} {pins : List (Addr × Obj)} {σ : L2.St} {H : Hp} {s : Shared} (I : Inv X pins σ H s) (c : X.calm = true) : X.A.handled = none := I.ok.hd c
def rSortedDX : List V → Hp → VK → Prop := fun xs H Q => ∃ (a : Addr) (kvs : List (Key × V)) (ks : List Int), xs = [.ref a] ∧ Rd H a (.dK kvs) ∧ kvs.map (·.1) = ks.map Sum.inl ∧
    ∀ (ys : List Int) (p : Addr), ys.Perm ks → ys.Pairwise (· ≤ ·) → H p = none → Q (.ref p) (upd H p (.lst (ys.map V.int)))
theorem call_sortedDX {X : Cx} (hcalm : X.calm = true) : CallR X (.builtin "sorted") rSortedDX := by
  intro pins s σ H xs us Q I r q0
  obtain ⟨d, tb, js, exs, hrd, hkeys0, fin⟩ := q0
  subst exs
  obtain ⟨uu, euu, ruu⟩ := vals1 r
  subst euu; cases ruu
  obtain ⟨zz, lo, raws, rel, dd⟩ := dk_rd I.hok hrd
  obtain ⟨ep, hat⟩ := dd.dictAt
  have hk1 : raws.map (·.1) = js.map Sum.inl := rel.keys.symm.trans hkeys0
  have hln : raws.length = js.length := by
    have := congrArg List.length hk1
    simpa using this
  have hfit : raws.length ≤ sizeLine := by have := rel.length; omega
  refine Calls.call_function_entry PyProof.Rows.kind_sorted PyProof.Rows.plain_sorted PyProof.Rows.entry_sorted
    (PyProof.Rows.args_sorted1 _) ?_
  unfold Builtin.«sorted»; refine wpAny_bind (m := checkCount "sorted" 1 1 _) (wpAny_pure ?_)
  refine wpAny_bind (PySem.W.kdu_collect (A := X.A.in1) (PySem.W.kdl_dict (knd := mixKind X.prog X.w)
    (kvs := raws) (ep := ep) lo) (dcalm I hcalm) hat hfit fun h1 tk1 got keep1 items1 => ?_)
  have hgl : got.toList.length = js.length := by rw [Array.length_toList, items1.1, hln]
  have hI : IntsAre got.toList js := ints_each hgl fun j v ev => by
    obtain ⟨k0, x0, f1, f2⟩ := items1.2 j v (by rw [← Array.getElem?_toList]; exact ev)
    have f3 : (raws.map (·.1))[j]? = some k0 := by rw [List.getElem?_map, f1]; rfl
    rw [hk1, List.getElem?_map] at f3
    cases f4 : js[j]? with
    | none => rw [f4] at f3; cases f3
    | some y0 =>
      rw [f4] at f3
      cases f3
      rcases keyIs_shape (show keyIs (Sum.inl y0) v = true from f2) with ⟨i0, t0, g1, g2⟩ | ⟨z0, t0, g1, g2⟩ <;> cases g1
      exact ⟨y0, t0, rfl, g2⟩
  have I1 : Inv X pins σ H { s with heap := h1, toks := tk1 } := I.kept keep1
  refine wpAny_bind (wpAny_newList ?_ (by rw [hgl, ← hln]; exact hfit))
  have hnew : (h1.push (seqObj "list" got.toList.toArray 0)).get? h1.objs.size = some (seqObj "list" got.toList.toArray 0) :=
    Heap.get?_push_size _ rfl
  show wpAny _ _ _ _ _ { s with heap := h1.push (seqObj "list" got.toList.toArray 0), toks := tk1 }
  refine wpAny_bind (wpAny_holding (wpAny_call_entry PyProof.Rows.slot_list_sort ⟨_, hnew, rfl⟩ PyProof.Rows.entry_list_sort
    (SrtO.list_sort_ord (s := { s with heap := h1.push (seqObj "list" got.toList.toArray 0), toks := tk1 }) SrtO.swo_int hnew (by rw [hgl, ← hln]; exact hfit) (fun l2 => SrtO.ints_sortable hI l2)
      fun out o1 o2 => ⟨_, rfl, ?_⟩) (PyProof.Rows.args_list_sort _)))
  obtain ⟨k1, k2, k3⟩ := SrtO.ints_out hI o1 o2
  obtain ⟨e1, he1⟩ := PyProof.Rows.sortedHeap_at (vs := got.toList) (out := out.toArray) hnew
  have hlen2 : ((out.map SrtO.iv).map V.int).length ≤ sizeLine := by
    rw [List.length_map, k2.length_eq, ← hln]; exact hfit
  refine wpAny_pure ⟨_, rfl, .ref h1.objs.size, upd H h1.objs.size (.lst ((out.map SrtO.iv).map V.int)), I1.laid (t' := tk1) (fun b u eb => ?_) (Nat.le_refl _)
    (show ObjOk X.prog X.w _ _ _ (.lst ((out.map SrtO.iv).map V.int)) from ⟨hlen2, out, e1, vals_of_ints k1, he1⟩), rfl, fin _ _ k2 k3 (I1.hok.fresh (Nat.le_refl _))⟩
  have hb : b < h1.objs.size := Heap.lt_size eb
  rw [PyProof.Rows.sortedHeap_old (Nat.ne_of_lt hb) (by rw [size_push']; exact Nat.lt_succ_of_lt hb)]
  exact Heap.get?_push_of_some _ eb
def nSortedX : D → Option Sl
  | .dict l => ((undictL l).bind keysI).map fun ks => .own ((sortI ks).map .int)
  | d => nSorted d
section
variable {S : Addr → Prop} {H : Hp} {X : Cx} {K : PySem.W.Frag}
theorem keysI_eq : ∀ {ws : List (Key × V)} {kvs : List (Key × D)} {ks : List Int}, RepK S H ws kvs → keysI kvs = some ks → ws.map (·.1) = ks.map Sum.inl
  | _, _, _, .nil, e => by cases e; rfl
  | _, _, ks, .cons (k := k) (v := v) (d := d) (ws := ws) (kvs := kvs) h t, e => by
    cases k with
    | inl i =>
      have e : (keysI kvs).map (i :: ·) = some ks := e
      cases e2 : keysI kvs with
      | none => rw [e2] at e; cases e
      | some l =>
        rw [e2] at e
        cases e
        rw [List.map_cons, List.map_cons, keysI_eq t e2]
    | inr x => cases e
theorem ob_sortedX : OB (fun vs H Q => rSortedDX vs H Q ∨ (rSortedI K vs H Q ∨ rSortedPO K vs H Q)) (b1 nSortedX) := by
  intro S H vs ds Q dm r q
  match ds, r, q with
  | [.dict l], r, q =>
    obtain ⟨v, rfl, r1⟩ := r.one
    have q : OPost S H Q (((undictL l).bind keysI).map fun ks => .own ((sortI ks).map .int)) := q
    cases e : undictL l with
    | none => rw [e] at q; exact q.elim
    | some kvs =>
      rw [e] at q
      cases e2 : keysI kvs with
      | none => rw [show (some kvs).bind keysI = keysI kvs from rfl, e2] at q; exact q.elim
      | some ks =>
        rw [show (some kvs).bind keysI = keysI kvs from rfl, e2] at q
        obtain ⟨a, ws, rfl, hd, rk⟩ := r1.und (show undict (.dict l) = some kvs from e)
        refine .inl ⟨a, ws, ks, rfl, hd, keysI_eq rk e2, fun ys p hp hs h0 => ?_⟩
        rw [sortI_of hp hs]
        exact OPost.own dm q (ints_reps _) h0
  | [], r, q => exact q.elim
  | [.none], r, q => exact q.elim
  | [.bool _], r, q => exact q.elim
  | [.int _], r, q => exact q.elim
  | [.str x], r, q => exact q.elim
  | [.list x], r, q => exact .inr (ob_sorted S H vs [.list x] Q dm r q)
  | [.tuple x], r, q => exact q.elim
  | .none :: _ :: _, r, q => exact q.elim
  | .bool _ :: _ :: _, r, q => exact q.elim
  | .int _ :: _ :: _, r, q => exact q.elim
  | .str _ :: _ :: _, r, q => exact q.elim
  | .list _ :: _ :: _, r, q => exact q.elim
  | .tuple _ :: _ :: _, r, q => exact q.elim
  | .dict _ :: _ :: _, r, q => exact q.elim
end
/-! ### words -/
section
variable {X : Cx} {W : WX} {a b c e o kx elt tg iter : Expr} {es rest ifs : List Expr} {st : Stmt} {body : List Stmt} {ts : TS} {sf : SM} {ta tb tc te tk to ti : TE} {t : TA} {f g h e' i' kf : M Sl} {fs : M (List Sl)} {pos apos cpos p pos' p2 tpos : Pos} {x y : Str} {tt : TT} {bp : M Bool} {wi : TI} {gt : TG} {tgt : D → DW.Env → Option DW.Env} {src : M (List D)} {scope : Scope}
theorem pe_lkE (h : PE X e te) : PE X e (tLkE te) := ⟨fun pins s σ H Q I q => q.elim (h.run pins s σ H Q I) ((pe_lock h).run pins s σ H Q I)⟩
theorem ps_lkS (h : PS X st ts) : PS X st (tLkS ts) := ⟨fun pins s σ H Q I q => q.elim (h.run pins s σ H Q I) ((ps_lock h).run pins s σ H Q I)⟩
theorem pd_sortedX (hm : X.mg "sorted" = none) (ha : PDA X W (e :: es) t fs) (hc : X.calm = true := by rfl) (hg : Gl X "sorted" := by rfl) (he : starEach (e :: es) X.env = (false, eval e X.env) :: starEach es X.env := by rfl) (hpl : (backTo pos (starEach es X.env)).any (·.1) = false := by rfl) : PD X W (.Call (.Name "sorted" p) (e :: es) [] pos) (tCB (fun vs H Q => rSortedDX vs H Q ∨ (rSortedI X.K vs H Q ∨ rSortedPO X.K vs H Q)) t) (eB (b1 nSortedX) fs) := pd_bi (CallR.or (call_sortedDX hc) (CallR.or cr_sortedI cr_sortedPO)) ob_sortedX hm ha boot_sorted' hg (by decide) (by decide) he hpl
section
variable (own : List (Str × Nat)) (hN : X.N.Nodup) (ok : blkC X.N X.env.scope scope own = true)
variable (hg : ∀ (s : Shared) (H : Hp) (C : Addr) (cl : List (Str × Addr)) (fp : List Addr), ∃ gt, PTgi (X.blk s H scope (compEnvC scope cl C X.env) fp) (own.map (·.2)) tg gt tgt)
variable (ht : ∀ (s : Shared) (H : Hp) (C : Addr) (cl : List (Str × Addr)) (fp : List Addr), ∃ tt, PTe (X.blk s H scope (compEnvC scope cl C X.env) fp) ifs tt bp)
/-- [.. for k in d] -/
theorem pd_lcK (i : Nat) (own : List (Str × Nat)) (hN : X.N.Nodup) (hv : PD X W iter (tVar i) (eVar i)) (ok : blkC X.N X.env.scope scope own = true)
    (hg : ∀ (s : Shared) (H : Hp) (C : Addr) (cl : List (Str × Addr)) (fp : List Addr), ∃ gt, PTgi (X.blk s H scope (compEnvC scope cl C X.env) fp) (own.map (·.2)) tg gt tgt)
    (ht : ∀ (s : Shared) (H : Hp) (C : Addr) (cl : List (Str × Addr)) (fp : List Addr), ∃ tt, PTe (X.blk s H scope (compEnvC scope cl C X.env) fp) ifs tt bp)
    (he : ∀ (s : Shared) (H : Hp) (C : Addr) (cl : List (Str × Addr)) (fp : List Addr), ∃ te, PD (X.blk s H scope (compEnvC scope cl C X.env) fp) W0 elt te f) (hc : X.calm = true := by rfl) (hs : ∀ x, foldedSetIterable iter X.env x = pure x := by intro _; rfl) :
    PD X W (.ListComp elt [⟨tg, iter, ifs, 0⟩] scope pos) (tLkE (tLc (iKeys (tVar i)) (tgOf (own.map (·.2)) tgt) (ttOf X.mg W0 bp) (teOf X.mg W0 f) (own.map (·.2)))) (eLock i (eLc (iDk i) tgt bp f (own.map (·.2)))) :=
  ⟨pe_lkE (pe_lc hc hN (pi_keys hv.pe) (blkOk_by ok) (fun s H C cl fp => pg_of (hg s H C cl fp)) (fun s H C cl fp => pts_of (ht s H C cl fp)) (fun s H C cl fp => pe_of (he s H C cl fp)) hs),
    de_lock fun B S H σ δ L => de_lcs (dis_keys L) dgi_of dt_of de_of⟩
/-- {k: v for a, b in d.items()} -/
theorem pd_dcI (i : Nat) {elts : List Expr} {kk : Nat} (own : List (Str × Nat)) (hN : X.N.Nodup) (hv : PD X W o (tVar i) (eVar i)) (ok : blkC X.N X.env.scope scope own = true)
    (hg : ∀ (s : Shared) (H : Hp) (C : Addr) (cl : List (Str × Addr)) (fp : List Addr), ∃ gt, PTgi (X.blk s H scope (compEnvC scope cl C X.env) fp) (own.map (·.2)) (.Tuple elts kk tpos) gt tgt)
    (ht : ∀ (s : Shared) (H : Hp) (C : Addr) (cl : List (Str × Addr)) (fp : List Addr), ∃ tt, PTe (X.blk s H scope (compEnvC scope cl C X.env) fp) ifs tt bp)
    (hk : ∀ (s : Shared) (H : Hp) (C : Addr) (cl : List (Str × Addr)) (fp : List Addr), ∃ tk, PD (X.blk s H scope (compEnvC scope cl C X.env) fp) W0 kx tk kf)
    (he : ∀ (s : Shared) (H : Hp) (C : Addr) (cl : List (Str × Addr)) (fp : List Addr), ∃ te, PD (X.blk s H scope (compEnvC scope cl C X.env) fp) W0 elt te f) (hc : X.calm = true := by rfl)
    (hbase : attributeBase o "items" X.env (eval o X.env) = eval o X.env := by rfl) (hline : (apos.endLine == cpos.line) = true := by rfl) (hs : ∀ x, foldedSetIterable (.Call (.Attribute o "items" apos) [] [] cpos) X.env x = pure x := by intro _; rfl) :
    PD X W (.DictComp kx elt [⟨.Tuple elts kk tpos, .Call (.Attribute o "items" apos) [] [] cpos, ifs, 0⟩] scope pos) (tLkE (tDc (iItems (tVar i)) (tgOf (own.map (·.2)) tgt) (ttOf X.mg W0 bp) (teOf X.mg W0 kf) (teOf X.mg W0 f) (own.map (·.2)))) (eLock i (eDc (iDi i) tgt bp kf f (own.map (·.2)))) :=
  ⟨pe_lkE (pe_dc hc hN (pi_items hv.pe hbase hline) (blkOk_by ok) (fun s H C cl fp => pg_of (hg s H C cl fp)) (fun s H C cl fp => pts_of (ht s H C cl fp)) (fun s H C cl fp => pe_of (hk s H C cl fp)) (fun s H C cl fp => pe_of (he s H C cl fp)) hs),
    de_lock fun B S H σ δ L => de_dcs (dis_items L) dgi_of dt_of de_of de_of⟩
/-- {k: v for a in list, tuple, range} -/
theorem pd_dc (own : List (Str × Nat)) (hN : X.N.Nodup) (hi : PIt X W tg iter wi src) (ok : blkC X.N X.env.scope scope own = true)
    (hg : ∀ (s : Shared) (H : Hp) (C : Addr) (cl : List (Str × Addr)) (fp : List Addr), ∃ gt, PTgi (X.blk s H scope (compEnvC scope cl C X.env) fp) (own.map (·.2)) tg gt tgt)
    (ht : ∀ (s : Shared) (H : Hp) (C : Addr) (cl : List (Str × Addr)) (fp : List Addr), ∃ tt, PTe (X.blk s H scope (compEnvC scope cl C X.env) fp) ifs tt bp)
    (hk : ∀ (s : Shared) (H : Hp) (C : Addr) (cl : List (Str × Addr)) (fp : List Addr), ∃ tk, PD (X.blk s H scope (compEnvC scope cl C X.env) fp) W0 kx tk kf)
    (he : ∀ (s : Shared) (H : Hp) (C : Addr) (cl : List (Str × Addr)) (fp : List Addr), ∃ te, PD (X.blk s H scope (compEnvC scope cl C X.env) fp) W0 elt te f) (hc : X.calm = true := by rfl) (hs : ∀ x, foldedSetIterable iter X.env x = pure x := by intro _; rfl) :
    PD X W (.DictComp kx elt [⟨tg, iter, ifs, 0⟩] scope pos) (tDc wi (tgOf (own.map (·.2)) tgt) (ttOf X.mg W0 bp) (teOf X.mg W0 kf) (teOf X.mg W0 f) (own.map (·.2))) (eDc src tgt bp kf f (own.map (·.2))) :=
  ⟨pe_dc hc hN hi.pi (blkOk_by ok) (fun s H C cl fp => pg_of (hg s H C cl fp)) (fun s H C cl fp => pts_of (ht s H C cl fp)) (fun s H C cl fp => pe_of (hk s H C cl fp)) (fun s H C cl fp => pe_of (he s H C cl fp)) hs,
    de_dc hi.di dgi_of dt_of de_of de_of⟩
end
/-- for a, b in d.items() -/
theorem st_forI (tk : PassesOwn (model X.prog X.w) X.A X.env X.xe) (i : Nat) {elts : List Expr} {kk : Nat} (hv : PD X W o (tVar i) (eVar i)) (hg : PTg X (.Tuple elts kk tpos) gt tgt) (hb : PDB X W body ts sf) (hc : X.calm = true := by rfl)
    (hbase : attributeBase o "items" X.env (eval o X.env) = eval o X.env := by rfl) (hline : (apos.endLine == cpos.line) = true := by rfl) (hs : ∀ x, foldedSetIterable (.Call (.Attribute o "items" apos) [] [] cpos) X.env x = pure x := by intro _; rfl) :
    PDS X W (.For (.Tuple elts kk tpos) (.Call (.Attribute o "items" apos) [] [] cpos) body [] pos) (tLkS (tFor (iItems (tVar i)) gt ts)) (sLock i (sFor (iDi i) tgt sf)) :=
  ⟨ps_lkS (ps_for tk hc (pi_items hv.pe hbase hline) hg.pg hb.ps hs), ds_lock fun B S H σ δ L => ds_fors (dis_items L) hg.dg hb.ds⟩
/-- for k in d -/
theorem st_forK (tk : PassesOwn (model X.prog X.w) X.A X.env X.xe) (i : Nat) (hv : PD X W iter (tVar i) (eVar i)) (hg : PTg X tg gt tgt) (hb : PDB X W body ts sf) (hc : X.calm = true := by rfl)
    (hs : ∀ x, foldedSetIterable iter X.env x = pure x := by intro _; rfl) :
    PDS X W (.For tg iter body [] pos) (tLkS (tFor (iKeys (tVar i)) gt ts)) (sLock i (sFor (iDk i) tgt sf)) :=
  ⟨ps_lkS (ps_for tk hc (pi_keys hv.pe) hg.pg hb.ps hs), ds_lock fun B S H σ δ L => ds_fors (dis_keys L) hg.dg hb.ds⟩
end
end DW

set_option Elab.async false
set_option linter.all false
set_option maxRecDepth 100000
set_option maxHeartbeats 2000000
/-! DW: try with several clauses, with and without a name. -/
namespace DW
open PySem PySem.Spec PyProof.Rows L2

abbrev Sui : Type := Addr → Value → Option Addr → TS
/-- the wishes behind a clause's suite: its name goes -/
def goneD (Dz : Ends) (i : Nat) : Ends := ⟨fun τ G => Dz.nx (τ.set i none) G, Dz.rt, fun τ G => Dz.bk (τ.set i none) G, fun τ G => Dz.ct (τ.set i none) G⟩
def onHd (oi : Option Nat) (u : TS) (adr : Addr) : TS := fun Dz τ G => match oi with
  | none => u Dz τ G
  | some i => u (goneD Dz i) (τ.set i (some (.ref adr))) G
def wGen (KK : PySem.W.Frag) (Wo : WX) (Dz : Ends) : List (Value × Option Nat × Sui) → WX
  | [] => Wo
  | (cv, oi, u) :: rest => fun kl od τ G => ∃ b, PySem.W.exmOne KK kl cv = some b ∧ (b = true → ∀ adr, G adr = none → onHd oi (u adr kl od) adr Dz τ G) ∧ (b = false → wGen KK Wo Dz rest kl od τ G)
abbrev SuiOk (X : Cx) (blk : List Stmt) (u : Sui) : Prop := ∀ (adr : Addr) (ob : Obj) (kl : Value) (od : Option Addr) (pz : List (Addr × Obj)), Zc kl od ob → (∃ fs, ob.data = .fields fs) → PSs (X.suite adr ((adr, ob) :: pz)) blk (u adr kl od)
inductive HdsG (X : Cx) : List ExceptHandler → List (Value × Option Nat × Sui) → Prop
  | nil : HdsG X [] []
  | plain {x : Str} {cv : Value} {u : Sui} {st0 : Stmt} {sts : List Stmt} {pa pb : Pos} {hds : List ExceptHandler} {rest : List (Value × Option Nat × Sui)} (nm : Names X x cv) (su : SuiOk X (st0 :: sts) u) (r : HdsG X hds rest) :
      HdsG X (.ExceptHandler (some (.Name x pa)) none (st0 :: sts) pb :: hds) ((cv, none, u) :: rest)
  | named {x n : Str} {i : Nat} {cv : Value} {u : Sui} {st0 : Stmt} {sts : List Stmt} {pa pb : Pos} {hds : List ExceptHandler} {rest : List (Value × Option Nat × Sui)} (nm : Names X x cv) (nd : X.N.Nodup) (hi : X.N[i]? = some n) (loc : X.env.kindOf n = some .local)
      (su : SuiOk X (st0 :: sts) u) (r : HdsG X hds rest) : HdsG X (.ExceptHandler (some (.Name x pa)) (some n) (st0 :: sts) pb :: hds) ((cv, some i, u) :: rest)
section
variable {X : Cx} {blk : List Stmt} {hd0 : ExceptHandler} {hds : List ExceptHandler} {tab : List (Value × Option Nat × Sui)} {ps : Pos} {tb : WX → TS} {Wo : WX}
theorem ps_try_gen (hst : X.stack = X.env :: X.outer) (hfr0 : X.env.frame = some X.env.locals) (tko : Takes X Wo)
    (hbd : ∀ (Wi : WX) (pz : List (Addr × Obj)) (xz : Value → Shared → Prop), Takes (X.tr pz xz) Wi → PassesOwn (model X.prog X.w) X.A X.env xz → PSs (X.tr pz xz) blk (tb Wi))
    (hh : HdsG X (hd0 :: hds) tab) : PS X (.Try blk (hd0 :: hds) [] [] ps) (fun Dz τ G => tb (wGen X.K Wo Dz tab) Dz τ G) := by
  refine ⟨fun pins s τ G Dz I hyp => ?_⟩
  have okX := I.ok
  have fr1 : X.A.frames = some (X.env :: X.outer) := by rw [okX.frames, hst]
  refine wpAny_Try_except ?_
  refine wpAny_mono ((hbd (wGen X.K Wo Dz tab) (X.pn ++ pins)
    (fun ev t₁ => wpAny (model X.prog X.w) X.A (noteFrame ev X.env) (fun _ t₂ => wpAny (model X.prog X.w) X.A (setFlight ev none) (fun _ t₃ => wpAny (model X.prog X.w) X.A (handleBy ev X.env (hd0 :: hds)) (SP X pins Dz) X.xe t₃) X.xe t₂) X.xe t₁)
    (fun uu t1 raised => ?_) PassesOwn.looking).run [] s τ G Dz (I.toTry _) hyp) (fun fl t1 done => ?_) (fun ev t1 z => z)
  · obtain ⟨ea, Bz, sI, pi2, τ1, G1, kl, od, rfl, Jt, nbz, upz, skz, naz, osz, agz, wz⟩ := raised
    have Jo : Inv X pins τ1 G1 sI := Jt.ofTry okX
    have sk1 : Sky Bz (X.env :: X.outer) ea (Zc kl od) X.env.locals t1.heap := by rw [← hst]; exact skz
    show wpAny (model X.prog X.w) X.A (noteFrame (.ref ea) X.env) _ _ _
    refine Sky.land Zc.steady fr1 hfr0 sk1 fun g3 ld3 lup3 => ?_
    have J3 : Inv X pins τ1 G1 { t1 with heap := g3 } := Jo.landed nbz ld3.1 (upz.trans lup3) osz agz
    obtain ⟨ob3, fs3, at3, zc3, dat3⟩ := ld3.there
    have noFrame : ea ∉ frs (X.env :: X.outer) := fun mem => by
      obtain ⟨_, ob', at', nof⟩ := ld3.2.2.1.mem mem
      rw [at3] at at'; cases at'
      exact nof _ dat3
    have neL : ea ≠ X.env.locals := fun z => noFrame (List.mem_filterMap.mpr ⟨X.env, List.mem_cons_self, by rw [hfr0, z]⟩)
    have niF : ea ∉ X.fs := fun mem => by
      obtain ⟨e1, me1, q1⟩ := List.mem_filterMap.mp mem
      exact noFrame (List.mem_filterMap.mpr ⟨e1, List.mem_cons_of_mem _ me1, q1⟩)
    have S3 := J3.suite at3 dat3 naz neL niF
    have looks : PySem.W.Looks (model X.prog X.w) g3 (typeOf (.ref ea)) kl := fun A Q E s k q => wpAny_typeOf_ref (k _ _ at3) (by rw [zc3.1]; exact q)
    have named : ∀ {x : Str} {cv : Value} {np : Pos} {Q : Value → Shared → Prop} {E : Value → Shared → Prop}, Names X x cv → Q cv { t1 with heap := g3 } → wpAny (model X.prog X.w) (X.A.mark (some (.ref ea))) (eval (.Name x np) X.env) Q E { t1 with heap := g3 } := fun {x cv np Q E} nm q => by
      obtain ⟨gl, nodbg, own | ⟨own, boot, nn⟩⟩ := nm
      · exact ld_glob (X := X.suite ea ((ea, ob3) :: (X.pn ++ pins))) S3 gl own q nodbg
      · exact ld_blt (X := X.suite ea ((ea, ob3) :: (X.pn ++ pins))) S3 gl own boot q nn nodbg
    have walk : ∀ {hs1 : List ExceptHandler} {tb1 : List (Value × Option Nat × Sui)}, HdsG X hs1 tb1 → wGen X.K Wo Dz tb1 kl od τ1 G1 →
        wpAny (model X.prog X.w) X.A (handleBy (.ref ea) X.env hs1) (SP X pins Dz) X.xe { t1 with heap := g3 } := by
      intro hs1 tb1 hk
      induction hk with
      | nil =>
        intro w0
        refine wpAny_handleBy_nil ?_
        obtain ⟨_, _, _, ob4, fs4, T4, o4, ts4, at4, _, dat4, tr4, _⟩ := id ld3
        unfold PySem.passOn
        refine wpAny_bind (wpAny_field at4 dat4 tr4 ?_)
        rw [if_neg (by simp)]
        have up : wpAny (model X.prog X.w) X.A (setFlight (.ref ea) X.env.frame) (fun _ t4 => wpAny (model X.prog X.w) X.A (throw (.ref ea) : Sem Flow) (SP X pins Dz) X.xe t4) X.xe { t1 with heap := g3 } := by
          rw [hfr0]
          exact HandSPX.setFlight_upZ ld3 fun h4 sk4 up4 => wpAny_throw (tko _ _ ⟨ea, Bz, sI, pins, τ1, G1, kl, od, rfl, Jo, nbz, (upz.trans lup3).trans up4, .inr (.inr (by rw [hst]; exact sk4)), naz, osz, agz, w0⟩)
        first
          | exact wpAny_bind (wpAny_pure (wpAny_bind up))
          | exact wpAny_bind up
      | @plain x cv u st0 sts pa pb hds2 rest nm su r ih =>
        intro w0
        obtain ⟨b, one, yes, no⟩ := w0
        refine wpAny_handleBy_cons (codeAny_handlers_test ?_) (by intro q; cases q)
        refine named nm ((PySem.W.exm_one (M := model X.prog X.w) J3.kIn looks one).here ?_)
        cases b with
        | true =>
          refine codeAny_handlers_suite ?_
          refine HandSPX.lands_againZ ld3 fun g4 ld4 lup4 => ?_
          have J4 : Inv X pins τ1 G1 { t1 with heap := g4 } := Jo.landed nbz ld4.1 ((upz.trans lup3).trans lup4) osz agz
          obtain ⟨ob4, fs4, at4, zc4, dat4⟩ := ld4.there
          have S4 := J4.suite at4 dat4 naz neL niF
          refine wpAny_mono ((su ea ob4 kl od (X.pn ++ pins) zc4 ⟨_, dat4⟩).run [] _ _ G1 _ S4 (yes rfl ea naz)) (fun fl t6 q => ?_) (fun _ _ z => False.elim z)
          cases fl with
          | ret u1 => obtain ⟨v6, τ6, G6, S6, r6, q6⟩ := q; exact ⟨_, _, _, S6.unsuite okX, r6, q6⟩
          | next => obtain ⟨τ6, G6, S6, q6⟩ := q; exact ⟨_, _, S6.unsuite okX, q6⟩
          | brk => obtain ⟨τ6, G6, S6, q6⟩ := q; exact ⟨_, _, S6.unsuite okX, q6⟩
          | cont => obtain ⟨τ6, G6, S6, q6⟩ := q; exact ⟨_, _, S6.unsuite okX, q6⟩
        | false => exact ih (no rfl)
      | @named x n i cv u st0 sts pa pb hds2 rest nm nd hi loc su r ih =>
        intro w0
        obtain ⟨b, one, yes, no⟩ := w0
        refine wpAny_handleBy_cons (codeAny_handlers_test ?_) (by intro q; cases q)
        refine named nm ((PySem.W.exm_one (M := model X.prog X.w) J3.kIn looks one).here ?_)
        cases b with
        | true =>
          refine codeAny_handlers_suite_as ?_
          refine HandSPX.lands_againZ ld3 fun g4 ld4 lup4 => ?_
          have J4 : Inv X pins τ1 G1 { t1 with heap := g4 } := Jo.landed nbz ld4.1 ((upz.trans lup3).trans lup4) osz agz
          obtain ⟨ob4, fs4, at4, zc4, dat4⟩ := ld4.there
          have S4 := J4.suite at4 dat4 naz neL niF
          refine store_ok (X := X.suite ea ((ea, ob4) :: (X.pn ++ pins))) (v := .ref ea) S4 nd hi (.inl loc) rfl (fun t5 S5 => ?_) (.inr loc)
          refine wpAny_mono ((su ea ob4 kl od (X.pn ++ pins) zc4 ⟨_, dat4⟩).run [] t5 _ G1 _ S5 (yes rfl ea naz)) (fun fl t6 q => ?_) (fun _ _ z => False.elim z)
          have off : ∀ {τ6 : L2.St} {G6 : Hp} {Q : Shared → Prop}, Inv (X.suite ea ((ea, ob4) :: (X.pn ++ pins))) [] τ6 G6 t6 → (∀ t7, Inv X pins (τ6.set i none) G6 t7 → Q t7) →
              wpAny (model X.prog X.w) X.A (do bindName X.env n .none; unbindBehindTheSuite X.env n pb) (fun _ t7 => Q t7) X.xe t6 := fun {τ6 G6 Q} S6 hq => gone_ok (S6.unsuite okX) nd hi loc hq
          cases fl with
          | ret u1 => obtain ⟨v6, τ6, G6, S6, r6, q6⟩ := q; exact off S6 fun t7 J7 => ⟨_, _, _, J7, r6, q6⟩
          | next => obtain ⟨τ6, G6, S6, q6⟩ := q; exact off S6 fun t7 J7 => ⟨_, _, J7, q6⟩
          | brk => obtain ⟨τ6, G6, S6, q6⟩ := q; exact off S6 fun t7 J7 => ⟨_, _, J7, q6⟩
          | cont => obtain ⟨τ6, G6, S6, q6⟩ := q; exact off S6 fun t7 J7 => ⟨_, _, J7, q6⟩
        | false => exact ih (no rfl)
    exact walk hh wz
  · cases fl with
    | ret u1 => obtain ⟨v1, τ1, G1, J1, r1, q1⟩ := done; exact ⟨v1, τ1, G1, J1.ofTry okX, r1, q1⟩
    | next => obtain ⟨τ1, G1, J1, q1⟩ := done; exact wpAny_execs_nil ⟨τ1, G1, J1.ofTry okX, q1⟩
    | brk => obtain ⟨τ1, G1, J1, q1⟩ := done; exact ⟨τ1, G1, J1.ofTry okX, q1⟩
    | cont => obtain ⟨τ1, G1, J1, q1⟩ := done; exact ⟨τ1, G1, J1.ofTry okX, q1⟩
end
end DW

set_option Elab.async false
set_option linter.all false
set_option maxRecDepth 100000
set_option maxHeartbeats 2000000
/-! DW: try as a mirror; isinstance of a caught error. -/
namespace DW
open PySem PySem.Spec PyProof.Rows L2

/-- the reading that a mirror asks for -/
def tOf (mg : Str → Option Value) (W : WX) (f : SM) : TS := fun Ds σ H => ∃ B S δ, J B S H σ δ ∧ PstS mg W B S H (f δ) Ds
theorem pss_of {X : Cx} {W : WX} {sts : List Stmt} {f : SM} (h : ∃ ts, PDB X W sts ts f) : PSs X sts (tOf X.mg W f) := by
  obtain ⟨ts, h⟩ := h
  exact ⟨fun pins s σ H Ds I ⟨B, S, δ, Ij, p⟩ => h.ps.run pins s σ H Ds I (h.ds B S H σ δ Ds Ij p)⟩
/-- a clause -/
structure Hdl where
  oi : Option Nat
  isA : Str → Option Bool
  suite : Exn → SM
def endH (i : Nat) : R Out → R Out
  | .ok (.rt (.val d)) δ => .ok (.rt (.val d)) (δ.set i .un)
  | .ok .nx δ => .ok .nx (δ.set i .un)
  | .ok .bk δ => .ok .bk (δ.set i .un)
  | .ok .ct δ => .ok .ct (δ.set i .un)
  | _ => .bad
def noEx : R Out → R Out
  | .ok o δ => .ok o δ
  | _ => .bad
def hdM : List Hdl → Exn → SM
  | [], e => fun δ => .ex e δ
  | h :: r, e => fun δ => match h.isA e.name with
    | some true => match h.oi with
      | none => noEx (h.suite e δ)
      | some i => bif decide (i < δ.length) then endH i (h.suite e (δ.set i .un)) else .bad
    | some false => hdM r e δ
    | none => .bad
def sTry (body : SM) (hs : List Hdl) : SM := fun δ => match body δ with
  | .ok o δ' => .ok o δ'
  | .ex e δ' => hdM hs e δ'
  | .bad => .bad
/-- the class y, and which of the known classes are of it -/
structure Clz (K : PySem.W.Frag) (mg : Str → Option Value) (y : Str) (isA : Str → Option Bool) : Prop where
  ex : ∃ Cy, mg y = some (.ref Cy) ∧ ∀ x b, isA x = some b → ∃ Cx, mg x = some (.ref Cx) ∧ PySem.W.exmOne K (.ref Cx) (.ref Cy) = some b
structure SuD (X : Cx) (oi : Option Nat) (blk : List Stmt) (f : Exn → SM) : Prop where
  ex : ∃ u : Sui, SuiOk X blk u ∧ ∀ adr kl od e B S H σ δ, ExOk X.mg S H kl od e → (∀ i, oi = some i → σ[i]? = some (some (.ref adr))) → DSs X.mg W0 B S H σ δ (u adr kl od) (f e)
structure HdsD (X : Cx) (W : WX) (hds : List ExceptHandler) (hm : List Hdl) : Prop where
  ex : ∃ tab, HdsG X hds tab ∧ ∀ B S H σ δ e Ds c d, J B S H σ δ → ExOk X.mg S H c d e → PstS X.mg W B S H (hdM hm e δ) Ds → wGen X.K W Ds tab c d σ H
section
variable {X : Cx} {W : WX} {blk sts : List Stmt} {st0 : Stmt} {y n : Str} {f : SM} {g : Exn → SM} {hds : List ExceptHandler} {h0 : ExceptHandler} {hm : List Hdl} {pa pb pos : Pos} {isA : Str → Option Bool}
theorem su_any {oi : Option Nat} (h : ∀ (adr : Addr) (ob : Obj) (pz : List (Addr × Obj)), ∃ ts, PDB (X.suite adr ((adr, ob) :: pz)) W0 blk ts f) : SuD X oi blk (fun _ => f) :=
  ⟨fun _ _ _ => tOf X.mg W0 f, fun adr ob kl od pz _ _ => pss_of (h adr ob pz), fun adr kl od e B S H σ δ _ _ Ds I p => ⟨B, S, δ, I, p⟩⟩
theorem hd_nil : HdsD X W [] [] := ⟨[], .nil, fun B S H σ δ e Ds c d I eo p => p S H σ c d I (Gx.refl S H) eo⟩
theorem Clz.at (z : Clz X.K X.mg y isA) (gl : Gl X y) (nd : (y == ("__debug__" : Str)) = false) : ∃ Cy, Names X y (.ref Cy) ∧ ∀ S H c d e b, isA e.name = some b → ExOk X.mg S H c d e → PySem.W.exmOne X.K c (.ref Cy) = some b := by
  obtain ⟨Cy, m, q⟩ := z.ex
  refine ⟨Cy, ⟨gl, nd, .inl m⟩, fun S H c d e b hb eo => ?_⟩
  obtain ⟨Cx, m2, ex⟩ := q _ _ hb
  obtain ⟨C, mC, ec, _⟩ := eo
  rw [m2] at mC
  cases mC
  rw [ec]
  exact ex
theorem hd_plain (z : Clz X.K X.mg y isA) (su : SuD X none (st0 :: sts) g) (r : HdsD X W hds hm) (gl : Gl X y := by rfl) (nd : (y == ("__debug__" : Str)) = false := by decide) : HdsD X W (.ExceptHandler (some (.Name y pa)) none (st0 :: sts) pb :: hds) (⟨none, isA, g⟩ :: hm) := by
  obtain ⟨Cy, nm, cl⟩ := z.at gl nd
  obtain ⟨u, so, du⟩ := su.ex
  obtain ⟨tab, hg, hw⟩ := r.ex
  refine ⟨_, .plain nm so hg, fun B S H σ δ e Ds c d I eo p => ?_⟩
  have p : PstS X.mg W B S H (match isA e.name with
    | some true => noEx (g e δ)
    | some false => hdM hm e δ
    | none => .bad) Ds := p
  cases ea : isA e.name with
  | none => rw [ea] at p; exact p.elim
  | some b =>
    rw [ea] at p
    refine ⟨b, cl S H c d e b ea eo, fun hb adr na => ?_, fun hb => ?_⟩
    · subst hb
      have p : PstS X.mg W B S H (noEx (g e δ)) Ds := p
      refine du adr c d e B S H σ δ eo (fun i z => by cases z) Ds I ?_
      cases eg : g e δ with
      | ok o δ' =>
        rw [eg] at p
        cases o <;> exact p
      | ex e' δ' => rw [eg] at p; exact p.elim
      | bad => rw [eg] at p; exact p.elim
    · subst hb
      exact hw B S H σ δ e Ds c d I eo p
theorem hd_named (i : Nat) (z : Clz X.K X.mg y isA) (su : SuD X (some i) (st0 :: sts) g) (r : HdsD X W hds hm) (nn : X.N.Nodup) (hi : X.N[i]? = some n := by rfl) (loc : X.env.kindOf n = some .local := by rfl) (gl : Gl X y := by rfl) (nd : (y == ("__debug__" : Str)) = false := by decide) :
    HdsD X W (.ExceptHandler (some (.Name y pa)) (some n) (st0 :: sts) pb :: hds) (⟨some i, isA, g⟩ :: hm) := by
  obtain ⟨Cy, nm, cl⟩ := z.at gl nd
  obtain ⟨u, so, du⟩ := su.ex
  obtain ⟨tab, hg, hw⟩ := r.ex
  refine ⟨_, .named nm nn hi loc so hg, fun B S H σ δ e Ds c d I eo p => ?_⟩
  have p : PstS X.mg W B S H (match isA e.name with
    | some true => bif decide (i < δ.length) then endH i (g e (δ.set i .un)) else .bad
    | some false => hdM hm e δ
    | none => .bad) Ds := p
  cases ea : isA e.name with
  | none => rw [ea] at p; exact p.elim
  | some b =>
    rw [ea] at p
    refine ⟨b, cl S H c d e b ea eo, fun hb adr na => ?_, fun hb => ?_⟩
    · subst hb
      have p : PstS X.mg W B S H (bif decide (i < δ.length) then endH i (g e (δ.set i .un)) else .bad) Ds := p
      cases hl : decide (i < δ.length) with
      | false => rw [hl] at p; exact p.elim
      | true =>
        rw [hl] at p
        have p : PstS X.mg W B S H (endH i (g e (δ.set i .un))) Ds := p
        have hlt : i < σ.length := by rw [I.len]; exact of_decide_eq_true hl
        have I1 : J B S H (σ.set i (some (.ref adr))) (δ.set i .un) := I.set (s := .un) True.intro (fun _ z => by cases z) (fun z => by cases z)
        refine du adr c d e B S H _ _ eo (fun j z => by cases z; exact List.getElem?_set_self hlt) _ I1 ?_
        cases eg : g e (δ.set i .un) with
        | bad => rw [eg] at p; exact p.elim
        | ex e' δ' => rw [eg] at p; exact p.elim
        | ok o δ' =>
          rw [eg] at p
          cases o with
          | nx => exact fun S' H' σ' I' x => p S' H' _ (I'.unset i) x
          | bk => exact fun S' H' σ' I' x => p S' H' _ (I'.unset i) x
          | ct => exact fun S' H' σ' I' x => p S' H' _ (I'.unset i) x
          | rt r =>
            cases r with
            | val dv => exact fun S' H' σ' v I' x rv => p S' H' _ v (I'.unset i) x rv
            | _ => exact p.elim
    · subst hb
      exact hw B S H σ δ e Ds c d I eo p
theorem st_try (tk : Takes X W) (hb : ∀ (Wi : WX) (pz : List (Addr × Obj)) (xz : Value → Shared → Prop), Takes (X.tr pz xz) Wi → PassesOwn (model X.prog X.w) X.A X.env xz → ∃ ts, PDB (X.tr pz xz) Wi blk ts f)
    (hh : HdsD X W (h0 :: hds) hm) (hst : X.stack = X.env :: X.outer := by rfl) (hfr : X.env.frame = some X.env.locals := by rfl) : ∃ ts, PDS X W (.Try blk (h0 :: hds) [] [] pos) ts (sTry f hm) := by
  obtain ⟨tab, hg, hw⟩ := hh.ex
  refine ⟨_, ps_try_gen (tb := fun Wi => tOf X.mg Wi f) hst hfr tk (fun Wi pz xz tk' po => pss_of (hb Wi pz xz tk' po)) hg, fun B S H σ δ Ds I q => ⟨B, S, δ, I, ?_⟩⟩
  unfold sTry at q
  cases ef : f δ with
  | ok o δ' =>
    rw [ef] at q
    cases o <;> exact q
  | bad => rw [ef] at q; exact q.elim
  | ex e δ' =>
    rw [ef] at q
    exact fun S' H' σ' c d I' x eo => hw B S' H' σ' δ' e Ds c d I' eo (PstS.gx q x)
end
/-! ### isinstance(e, (A, B, ..)) of the error that the suite holds -/
def rIsET (K : PySem.W.Frag) (D a : Addr) : List V → Hp → VK → Prop := fun xs H Q => ∃ (tp : Addr) (cs : List Addr) (b : Bool), xs = [.ref a, .ref tp] ∧ H tp = some (.tup (cs.map V.ref)) ∧ PySem.W.kitAny K (.ref D) (cs.map Value.ref) = some b ∧ Q (.bl b) H
theorem refs_vals : ∀ {cs : List Addr} {us : List Value}, Vals (cs.map V.ref) us → us = cs.map Value.ref
  | [], _, r => by cases r; rfl
  | c :: cs, _, r => by
    rw [List.map_cons] at r
    cases r with
    | cons h t =>
      cases (show _ = Value.ref c from h)
      rw [refs_vals t]; rfl
theorem call_isET {X : Cx} {a D : Addr} {oe : Obj} {pn : List (Addr × Obj)} (C : ExcC X.K D) (hz : Zc (.ref D) none oe) (hf : ∃ vs, oe.data = .fields vs) : CallR (X.suite a ((a, oe) :: pn)) (.builtin "isinstance") (rIsET X.K D a) := by
  intro pins s σ H xs us Q I r h
  obtain ⟨tp, cs, b, rfl, hT, kk, q⟩ := h
  obtain ⟨u1, u2, rfl, r1, r2⟩ := vals2 r
  cases (show u1 = Value.ref a from r1)
  cases (show u2 = Value.ref tp from r2)
  obtain ⟨there, _⟩ := I.pin (a, oe) (List.mem_append.mpr (.inl List.mem_cons_self))
  obtain ⟨fs, hv⟩ := hf
  have inst : PySem.W.InstAt s.heap a oe D none := by
    obtain ⟨c0, d0, da0, sl0⟩ := oe
    obtain ⟨z1, z2⟩ := hz
    dsimp only at z1 z2 hv
    subst z1 z2 hv
    exact ⟨there, rfl, rfl, trivial⟩
  obtain ⟨_, its, rv, o, h1, h2, n, h3⟩ := (show ObjOk X.prog X.w H s.heap tp (.tup (cs.map V.ref)) from I.hok tp _ hT)
  have e3 := refs_vals rv
  subst e3
  obtain ⟨oc, od, dt, sl⟩ := o
  dsimp only at h2 h3
  subst h2 h3
  exact PySem.W.kia_tup (PySem.W.handS_kitx_exc C.hg C.hk C.hs C.hd C.ha C.hn C.ht C.hm) I.kIn inst h1 kk (fun z => nomatch z) fun tk => ⟨.bl b, H, I.kept (t' := tk) fun _ _ z => z, rfl, q⟩
/-- class names that stand for own classes -/
structure PCls (X : Cx) (es : List Expr) (cs : List Addr) : Prop where
  ok : ∀ (σ : L2.St) (H : Hp) (Q : List V → Hp → Prop), Q (cs.map V.ref) H → ∃ t, PA X es t ∧ t σ H Q
/-- what the names in a tuple say of the classes that may be raised: isA i x -/
structure ClzN (K : PySem.W.Frag) (mg : Str → Option Value) (y : Str) (isA : Str → Option Bool) : Prop where
  ex : ∃ Cy, mg y = some (.ref Cy) ∧ ∀ x b, isA x = some b → ∃ Cx, mg x = some (.ref Cx) ∧ ExcC K Cx ∧ PySem.W.kitOne K (.ref Cx) (.ref Cy) = some b
def anyA : List (Str → Option Bool) → Str → Option Bool
  | [], _ => some false
  | f :: r, x => match f x with
    | some true => some true
    | some false => anyA r x
    | none => none
def tRefs : List Addr → TA
  | [] => tNil
  | c :: r => tCons (tC (.ref c)) (tRefs r)
theorem tRefs_vals {σ : L2.St} {H : Hp} : ∀ {cs : List Addr} {Q : List V → Hp → Prop}, Q (cs.map V.ref) H → tRefs cs σ H Q
  | [], Q, h => h
  | c :: r, Q, h => by
    show tRefs r σ H fun vs H2 => Q (.ref c :: vs) H2
    exact tRefs_vals (Q := fun vs H2 => Q (.ref c :: vs) H2) h
structure Nms (X : Cx) (es : List Expr) (ys : List Str) : Prop where
  pa : ∀ cs : List Addr, ys.map X.mg = cs.map (fun c => some (Value.ref c)) → PA X es (tRefs cs)
theorem nms_nil {X : Cx} : Nms X [] [] := ⟨fun cs h => by cases cs with | nil => exact pa_nil | cons c r => simp at h⟩
theorem nms_cons {X : Cx} {y : Str} {ys : List Str} {es : List Expr} {p : Pos} (r : Nms X es ys) (hg : Gl X y := by rfl) (hd : (y == ("__debug__" : Str)) = false := by decide) (hs : starEach (.Name y p :: es) X.env = (false, eval (.Name y p) X.env) :: starEach es X.env := by rfl) : Nms X (.Name y p :: es) (y :: ys) :=
  ⟨fun cs h => by
    cases cs with
    | nil => simp at h
    | cons c cs =>
      rw [List.map_cons, List.map_cons] at h
      injection h with h1 h2
      exact pa_cons (pe_glob hg h1 rfl hd) (r.pa cs h2) hs⟩
/-- return [not] isinstance(e, (A, ..)) -/
inductive ClzNs (K : PySem.W.Frag) (mg : Str → Option Value) : List Str → List (Str → Option Bool) → Prop
  | nil : ClzNs K mg [] []
  | cons {y : Str} {ys : List Str} {f : Str → Option Bool} {fs : List (Str → Option Bool)} (h : ClzN K mg y f) (r : ClzNs K mg ys fs) : ClzNs K mg (y :: ys) (f :: fs)
theorem ClzNs.ad {K : PySem.W.Frag} {mg : Str → Option Value} : ∀ {ys : List Str} {fs : List (Str → Option Bool)}, ClzNs K mg ys fs → ∃ cs : List Addr, ys.map mg = cs.map (fun c => some (Value.ref c)) ∧
    ∀ x b Cx, mg x = some (.ref Cx) → anyA fs x = some b → PySem.W.kitAny K (.ref Cx) (cs.map Value.ref) = some b
  | _, _, .nil => ⟨[], rfl, fun x b Cx _ h => by cases h; rfl⟩
  | _, _, .cons (f := f) (fs := fs) h r => by
    obtain ⟨cs, e1, q⟩ := r.ad
    obtain ⟨Cy, m, z⟩ := h.ex
    refine ⟨Cy :: cs, by rw [List.map_cons, List.map_cons, m, e1], fun x b Cx mx hb => ?_⟩
    unfold anyA at hb
    rw [List.map_cons]
    unfold PySem.W.kitAny
    cases ef : f x with
    | none => rw [ef] at hb; cases hb
    | some k =>
      obtain ⟨C2, m2, _, one⟩ := z x k ef
      rw [mx] at m2
      cases m2
      rw [one]
      rw [ef] at hb
      cases k with
      | true => exact hb
      | false => exact q x b Cx mx hb
theorem ClzN.exc {K : PySem.W.Frag} {mg : Str → Option Value} {y : Str} {f : Str → Option Bool} (h : ClzN K mg y f) {x : Str} {b : Bool} {Cx : Addr} (e : f x = some b) (m : mg x = some (.ref Cx)) : ExcC K Cx := by
  obtain ⟨_, _, z⟩ := h.ex
  obtain ⟨C2, m2, c, _⟩ := z x b e
  rw [m] at m2
  cases m2
  exact c
def isEM (fs : List (Str → Option Bool)) (neg : Bool) (e : Exn) : SM := match e.arg, fs.head? with
  | none, some f => match f e.name, anyA fs e.name with
    | some _, some b => sRet (eC (.bool (neg ^^ b)))
    | _, _ => fun _ => .bad
  | _, _ => fun _ => .bad
section
variable {X : Cx} {es : List Expr} {y n : Str} {ys : List Str} {fs : List (Str → Option Bool)} {k : Nat} {i : Nat} {p1 p2 p3 p4 p5 p6 : Pos}
def uIsE (K : PySem.W.Frag) (i : Nat) (neg : Bool) (cs : List Addr) : Sui := fun adr kl od => fun Dz σ H => σ[i]? = some (some (.ref adr)) ∧ cs.length ≤ sizeLine ∧ ∃ D b, kl = .ref D ∧ od = none ∧ ExcC K D ∧ PySem.W.kitAny K (.ref D) (cs.map Value.ref) = some b ∧ ∀ p, H p = none → Dz.rt (.bl (neg ^^ b)) (upd H p (.tup (cs.map V.ref)))
theorem su_isE (i : Nat) (hm : X.mg "isinstance" = none) (C : ClzNs X.K X.mg (y :: ys) fs) (hn : ∀ (adr : Addr) (ob : Obj) (pz : List (Addr × Obj)), Nms (X.suite adr ((adr, ob) :: pz)) es (y :: ys)) (hl : (y :: ys).length ≤ 100 := by decide)
    (hN : X.N[i]? = some n := by rfl) (hv : Vis X.env.scope n := by first | exact Or.inl rfl | exact Or.inr (Or.inl rfl) | exact Or.inr (Or.inr rfl)) (hd : (n == ("__debug__" : Str)) = false := by decide) (hcd : (n == ("__classdict__" : Str)) = false := by decide) (hg : Gl X "isinstance" := by rfl)
    (h1 : starEach [.Name n p1, .Tuple es k p2] X.env = (false, eval (.Name n p1) X.env) :: starEach [.Tuple es k p2] X.env := by rfl) (h2 : starEach [.Tuple es k p2] X.env = (false, eval (.Tuple es k p2) X.env) :: starEach [] X.env := by rfl) (hpl : (backTo p3 (starEach [.Tuple es k p2] X.env)).any (·.1) = false := by rfl) :
    SuD X (some i) [.Return (some (.UnaryOp .Not (.Call (.Name "isinstance" p4) [.Name n p1, .Tuple es k p2] [] p3) p5)) p6] (isEM fs true) := by
  obtain ⟨cs, ec, ka⟩ := C.ad
  have hlc : cs.length ≤ sizeLine := by
    have := congrArg List.length ec
    rw [List.length_map, List.length_map] at this
    rw [sizeLine_eq]; omega
  refine ⟨uIsE X.K i true cs, fun adr ob kl od pz hz hf => ⟨fun pins s σ H Ds I ⟨hσ, _, D, b, hk, ho, xc, kk, q⟩ => ?_⟩, fun adr kl od e B S H σ δ eo hi Ds I q => ?_⟩
  · subst hk; subst ho
    have pe := pe_notT (pos := p5) (pe_callB (p := p4) (pos := p3) (call_isET (X := X) (pn := pz) xc hz hf) (show Gl (X.suite adr ((adr, ob) :: pz)) "isinstance" from hg) hm boot_isi' (pa_cons (pe_var (X := X.suite adr ((adr, ob) :: pz)) (i := i) (pos := p1) hN hv hd hcd) (pa_cons (pe_tup (x1 := k) (pos := p2) ((hn adr ob pz).pa cs ec)) pa_nil h2) h1) (by decide) (by decide) h1 hpl)
    refine (pss_one (ps_ret (pos := p6) pe)).run pins s σ H Ds I ?_
    refine ⟨.ref adr, hσ, ?_⟩
    show tRefs cs σ H _
    refine tRefs_vals ⟨by rw [List.length_map]; exact hlc, fun p hp => ?_⟩
    refine ⟨p, cs, b, rfl, upd_same, kk, b, rfl, ?_⟩
    have := q p hp
    rwa [show (true ^^ b) = !b by cases b <;> rfl] at this
  · obtain ⟨Cx, mx, ec2, hd2⟩ := eo
    unfold isEM at q
    cases ea : e.arg with
    | some a => rw [ea] at q; exact q.elim
    | none =>
      rw [ea] at q hd2
      cases C with
      | @cons _ _ f fs' h r =>
        have q : PstS X.mg W0 B S H ((match f e.name, anyA (f :: fs') e.name with
          | some _, some b => sRet (eC (.bool (true ^^ b)))
          | _, _ => fun _ => .bad) δ) Ds := q
        cases ef : f e.name with
        | none => rw [ef] at q; exact q.elim
        | some b0 =>
          cases eb : anyA (f :: fs') e.name with
          | none => rw [ef, eb] at q; exact q.elim
          | some b =>
            rw [ef, eb] at q
            refine ⟨hi i rfl, hlc, Cx, b, ec2, hd2, h.exc ef mx, ka e.name b Cx mx eb, fun p hp => ?_⟩
            have g := Gr.new1 (p := p) (o := .tup (cs.map V.ref)) I.dom hp
            exact q S _ σ _ (I.gr g) g.gx (.bl _)
end
/-! ### words that gen.py prints -/
theorem st_ex {X : Cx} {W : WX} {st : Stmt} {f : SM} (h : ∃ ts, PDS X W st ts f) : PDS X W st h.choose f := h.choose_spec
/-- a def of which nothing is promised -/
theorem bl_bad {X : Cx} {W : WX} {sts : List Stmt} : PDB X W sts (tOf X.mg W fun _ => .bad) (fun _ => .bad) :=
  ⟨⟨fun _ _ _ _ _ _ ⟨_, _, _, _, p⟩ => p.elim⟩, fun _ _ _ _ _ _ _ p => p.elim⟩
end DW

set_option Elab.async false
set_option linter.all false
set_option maxRecDepth 100000
set_option maxHeartbeats 2000000
/-! DW: mirrors run, one step at a time (rules for simp: a combinator is opened only where it is applied). -/
namespace DW
open PySem PySem.Spec PyProof.Rows L2
section
variable {α β : Type}
def bindR (r : R α) (g : α → M β) : R β := match r with
  | .ok a δ => g a δ
  | .ex e δ => .ex e δ
  | .bad => .bad
theorem r_bind (f : M α) (g : α → M β) (δ : Env) : M.bind f g δ = bindR (f δ) g := by unfold M.bind bindR; cases f δ <;> rfl
theorem r_b1 (a : α) (δ : Env) (g : α → M β) : bindR (.ok a δ) g = g a δ := rfl
theorem r_b2 (e : Exn) (δ : Env) (g : α → M β) : bindR (.ex e δ) g = .ex e δ := rfl
theorem r_b3 (g : α → M β) : bindR .bad g = .bad := rfl
theorem r_ret (a : α) (δ : Env) : (M.ret a : M α) δ = .ok a δ := rfl
end
section
variable (f g h : M Sl) (p q : M Bool) (δ : Env) (d : D) (i j n : Nat) (fs : M (List Sl)) (s t : SM)
-- frz, rd
theorem r_frz1 : frz (.val d) = .val d := rfl
theorem r_frz2 : frz (.bor i) = .bor i := rfl
theorem r_frz3 (ds : List D) : frz (.own ds) = .val (.list ds) := rfl
theorem r_frz4 (kvs : List (Key × D)) : frz (.ownD kvs) = .val (dictD kvs) := rfl
theorem r_rd1 : rd δ (.val d) = some d := rfl
def rdS : Option Sl → Option D
  | some (.own ds) => some (.list ds)
  | some (.prm ds) => some (.list ds)
  | some (.ownD kvs) => some (dictD kvs)
  | _ => none
theorem r_rd2 : rd δ (.bor i) = rdS δ[i]? := by
  unfold rd rdS
  try dsimp only
  all_goals (cases δ[i]? with | none => rfl | some s => cases s <;> rfl)
theorem r_rs1 (ds : List D) : rdS (some (.own ds)) = some (.list ds) := rfl
theorem r_rs2 (ds : List D) : rdS (some (.prm ds)) = some (.list ds) := rfl
theorem r_rs3 (kvs : List (Key × D)) : rdS (some (.ownD kvs)) = some (dictD kvs) := rfl
-- names
def varR (i : Nat) (δ : Env) : Option Sl → R Sl
  | some (.val d) => .ok (.val d) δ
  | some (.own _) => .ok (.bor i) δ
  | some (.prm _) => .ok (.bor i) δ
  | some (.ownD _) => .ok (.bor i) δ
  | _ => .bad
theorem r_var : eVar i δ = varR i δ δ[i]? := by unfold eVar varR; cases δ[i]? with | none => rfl | some s => cases s <;> rfl
theorem r_v1 : varR i δ (some (.val d)) = .ok (.val d) δ := rfl
theorem r_v2 (ds : List D) : varR i δ (some (.own ds)) = .ok (.bor i) δ := rfl
theorem r_v3 (ds : List D) : varR i δ (some (.prm ds)) = .ok (.bor i) δ := rfl
theorem r_v4 (kvs : List (Key × D)) : varR i δ (some (.ownD kvs)) = .ok (.bor i) δ := rfl
theorem r_c : eC d δ = .ok (.val d) δ := rfl
-- operands
def opR (r : R Sl) : R Sl := match r with
  | .ok a δ => .ok (frz a) δ
  | .ex e δ => .ex e δ
  | .bad => .bad
theorem r_opnd : opnd f δ = opR (f δ) := by unfold opnd opR M.bind; cases f δ <;> rfl
theorem r_o1 (r : Sl) : opR (.ok r δ) = .ok (frz r) δ := rfl
theorem r_o2 (e : Exn) : opR (.ex e δ) = .ex e δ := rfl
theorem r_rdM (r : Sl) : rdM r δ = optM (rd δ r) δ := by unfold rdM optM; cases rd δ r <;> rfl
theorem r_opt1 {α : Type} (a : α) : optM (some a) δ = .ok a δ := rfl
theorem r_lift1 (s : Sl) : liftO (some s) δ = .ok s δ := rfl
theorem r_eOp (op : D → D → Option Sl) : eOp op f g δ = bindR (opnd f δ) fun r1 => M.bind (opnd g) fun r2 => M.bind (rdM r1) fun a => M.bind (rdM r2) fun b => liftO (op a b) := by unfold eOp; rw [r_bind]
theorem r_eUn (op : D → Option Sl) : eUn op f δ = bindR (opnd f δ) fun r1 => M.bind (rdM r1) fun a => liftO (op a) := by unfold eUn; rw [r_bind]
-- tests
def boolM : D → M Bool
  | .bool b => M.ret b
  | _ => fun _ => .bad
theorem r_boolM (b : Bool) : boolM (.bool b) δ = .ok b δ := rfl
theorem r_tB : tB' f δ = bindR (opnd f δ) fun r => M.bind (rdM r) boolM := by
  unfold tB'; rw [r_bind]; rfl
theorem r_optB (b : Bool) : optB (some b) δ = .ok b δ := rfl
theorem r_tru : truM f δ = bindR (opnd f δ) fun r => M.bind (rdM r) fun d => optB (dTru d) := by unfold truM; rw [r_bind]
theorem r_and : DW.andM p q δ = bindR (p δ) fun b => bif b then q else M.ret false := by unfold andM; rw [r_bind]
theorem r_or : DW.orM p q δ = bindR (p δ) fun b => bif b then M.ret true else q := by unfold orM; rw [r_bind]
theorem r_not : DW.notM p δ = bindR (p δ) fun b => M.ret (!b) := by unfold notM; rw [r_bind]
theorem r_bE : bE p δ = bindR (p δ) fun b => M.ret (.val (.bool b)) := by unfold bE; rw [r_bind]
theorem r_eAnd : eAnd f g δ = bindR (opnd f δ) fun r => M.bind (rdM r) fun d => M.bind (optB (dTru d)) fun b => bif b then g else M.ret r := by unfold eAnd; rw [r_bind]
theorem r_eOr : eOr f g δ = bindR (opnd f δ) fun r => M.bind (rdM r) fun d => M.bind (optB (dTru d)) fun b => bif b then M.ret r else g := by unfold eOr; rw [r_bind]
theorem r_eNot : eNot f δ = bindR (truM f δ) fun b => M.ret (.val (.bool (!b))) := by unfold eNot bE notM; rw [r_bind, r_bind]; cases truM f δ <;> rfl
theorem r_eIf : eIf p f g δ = bindR (p δ) fun b => bif b then f else g := by unfold eIf; rw [r_bind]
theorem r_condT {α : Type} (x y : M α) : (bif true then x else y) δ = x δ := rfl
theorem r_condF {α : Type} (x y : M α) : (bif false then x else y) δ = y δ := rfl
-- arguments
theorem r_aNil : aNil δ = .ok [] δ := rfl
theorem r_aCons : aCons f fs δ = bindR (opnd f δ) fun r => M.bind fs fun rs => M.ret (r :: rs) := by unfold aCons; rw [r_bind]
theorem r_rdsM (rs : List Sl) : rdsM rs δ = optM (rds δ rs) δ := by unfold rdsM optM; cases rds δ rs <;> rfl
theorem r_rdsN : rds δ [] = some [] := rfl
theorem r_rdsC (r : Sl) (rs : List Sl) : rds δ (r :: rs) = (rd δ r).bind fun d => (rds δ rs).map (d :: ·) := by
  show (match rd δ r, rds δ rs with
    | some d, some ds => some (d :: ds)
    | _, _ => none) = _
  cases rd δ r <;> cases rds δ rs <;> rfl
theorem r_eB (op : List D → Option Sl) : eB op fs δ = bindR (fs δ) fun rs => M.bind (rdsM rs) fun ds => liftO (op ds) := by unfold eB; rw [r_bind]
theorem r_nb1 (op : D → Option Sl) : DW.b1 op [d] = op d := rfl
theorem r_nb2 (op : D → D → Option Sl) (e : D) : DW.b2 op [d, e] = op d e := rfl
theorem r_vN : valsD [] = some [] := rfl
theorem r_vC (ss : List Sl) : valsD (.val d :: ss) = (valsD ss).map (d :: ·) := rfl
theorem r_tup : eTup fs δ = bindR (fs δ) fun rs => M.bind (optM ((valsD rs).bind fitsD)) fun ds => M.ret (.val (.tuple ds)) := by unfold eTup; rw [r_bind]
theorem r_lst : eLst fs δ = bindR (fs δ) fun rs => M.bind (optM ((valsD rs).bind fitsD)) fun ds => M.ret (.own ds) := by unfold eLst; rw [r_bind]
theorem r_fits {ds : List D} (h : ds.length ≤ 16777216) : fitsD ds = some ds := by unfold fitsD; rw [decide_eq_true h]; rfl
theorem r_fits0 : fitsD [] = some [] := rfl
theorem r_fits1 (a : D) : fitsD [a] = some [a] := rfl
theorem r_fits2 (a b : D) : fitsD [a, b] = some [a, b] := rfl
theorem r_fits3 (a b c : D) : fitsD [a, b, c] = some [a, b, c] := rfl
theorem r_fits4 (a b c e : D) : fitsD [a, b, c, e] = some [a, b, c, e] := rfl
-- calls
theorem r_callN (F : Fn) : eCallN n F fs δ = bindR (fs δ) fun rs => bif rs.length == n then callM F rs else fun _ => .bad := by unfold eCallN; rw [r_bind]
theorem r_callD (F : Fn) (dds : List D) : eCallD n F dds fs δ = bindR (fs δ) fun rs => bif (rs ++ dds.map Sl.val).length == n then callM F (rs ++ dds.map Sl.val) else fun _ => .bad := by unfold eCallD; rw [r_bind]
def backR (i : Option Nat) (δ : Env) : FR → R Sl
  | .ok r o => match backC δ i o with
    | some δ' => .ok r δ'
    | none => .bad
  | .ex e o => match backC δ i o with
    | some δ' => .ex e δ'
    | none => .bad
  | .bad => .bad
def call1 (F : Fn) (δ : Env) : Option (Option Nat × Option (List D) × List D) → R Sl
  | none => .bad
  | some (i, sd, ds) => backR i δ (F sd ds)
theorem r_callM (F : Fn) (rs : List Sl) : callM F rs δ = call1 F δ (argsOf δ rs) := by
  unfold callM call1
  cases argsOf δ rs with
  | none => rfl
  | some x =>
    obtain ⟨i, sd, ds⟩ := x
    dsimp only
    cases F sd ds <;> rfl
theorem r_call1 (F : Fn) (i : Option Nat) (sd : Option (List D)) (ds : List D) : call1 F δ (some (i, sd, ds)) = backR i δ (F sd ds) := rfl
def argB (i : Nat) (ds : Option (List D)) : Option Sl → Option (Option Nat × Option (List D) × List D)
  | some (.own sd) => ds.map fun ds => (some i, some sd, ds)
  | some (.prm sd) => ds.map fun ds => (some i, some sd, ds)
  | _ => none
theorem r_argB (rs : List Sl) : argsOf δ (.bor i :: rs) = argB i (valsD rs) δ[i]? := by
  show (match δ[i]?, valsD rs with
    | some (.own sd), some ds => some (some i, some sd, ds)
    | some (.prm sd), some ds => some (some i, some sd, ds)
    | _, _ => none) = _
  unfold argB
  cases δ[i]? with
  | none => rfl
  | some s => cases s <;> cases valsD rs <;> rfl
theorem r_argB1 (sd : List D) (ds : Option (List D)) : argB i ds (some (.own sd)) = ds.map fun ds => (some i, some sd, ds) := rfl
theorem r_argB2 (sd : List D) (ds : Option (List D)) : argB i ds (some (.prm sd)) = ds.map fun ds => (some i, some sd, ds) := rfl
theorem r_argV (rs : List Sl) : argsOf δ (.val d :: rs) = (valsD (.val d :: rs)).map fun ds => (none, none, ds) := rfl
theorem r_argN : argsOf δ [] = some (none, none, []) := rfl
theorem r_back0 (r : Sl) : backR none δ (.ok r none) = .ok r δ := rfl
theorem r_back0x (e : Exn) : backR none δ (.ex e none) = .ex e δ := rfl
theorem r_back1 (r : Sl) (ds : List D) : backR (some i) δ (.ok r (some ds)) = .ok r (setC δ i ds) := rfl
theorem r_back1x (e : Exn) (ds : List D) : backR (some i) δ (.ex e (some ds)) = .ex e (setC δ i ds) := rfl
def setS (δ : Env) (i : Nat) (ds : List D) : Option Sl → Env
  | some (.own _) => δ.set i (.own ds)
  | some (.prm _) => δ.set i (.prm ds)
  | _ => δ
theorem r_setC (ds : List D) : setC δ i ds = setS δ i ds δ[i]? := by unfold setC setS; cases δ[i]? with | none => rfl | some s => cases s <;> rfl
theorem r_set1 (ds es : List D) : setS δ i ds (some (.own es)) = δ.set i (.own ds) := rfl
theorem r_set2 (ds es : List D) : setS δ i ds (some (.prm es)) = δ.set i (.prm ds) := rfl
-- statements
def seqR (r : R Out) (g : SM) : R Out := match r with
  | .ok .nx δ => g δ
  | .ok o δ => .ok o δ
  | .ex e δ => .ex e δ
  | .bad => .bad
theorem r_seq : sSeq s t δ = seqR (s δ) t := by
  unfold sSeq M.bind seqR
  cases s δ with
  | ok o δ' => cases o <;> rfl
  | ex e δ' => rfl
  | bad => rfl
theorem r_s1 : seqR (.ok .nx δ) t = t δ := rfl
theorem r_s2 (r : Sl) : seqR (.ok (.rt r) δ) t = .ok (.rt r) δ := rfl
theorem r_s3 : seqR (.ok .bk δ) t = .ok .bk δ := rfl
theorem r_s4 : seqR (.ok .ct δ) t = .ok .ct δ := rfl
theorem r_s5 (e : Exn) : seqR (.ex e δ) t = .ex e δ := rfl
theorem r_sNil : sNil δ = .ok .nx δ := rfl
theorem r_sRet : sRet f δ = bindR (f δ) fun r => M.ret (.rt r) := by unfold sRet; rw [r_bind]
theorem r_sRetN : sRetN δ = .ok (.rt (.val .none)) δ := rfl
theorem r_sExpr : sExpr f δ = bindR (f δ) fun _ => M.ret .nx := by unfold sExpr; rw [r_bind]
theorem r_sIf : sIf p s t δ = bindR (p δ) fun b => bif b then s else t := by unfold sIf; rw [r_bind]
theorem r_sBrk : sBrk δ = .ok .bk δ := rfl
theorem r_sCont : sCont δ = .ok .ct δ := rfl
def asgR (i : Nat) : R Sl → R Out
  | .ok (.val d) δ => .ok .nx (δ.set i (.val d))
  | .ok (.own ds) δ => .ok .nx (δ.set i (.own ds))
  | .ok (.ownD ds) δ => .ok .nx (δ.set i (.ownD ds))
  | .ok _ _ => .bad
  | .ex e δ => .ex e δ
  | .bad => .bad
theorem r_asg : sAsg i f δ = asgR i (f δ) := by
  unfold sAsg asgR M.bind
  cases f δ with
  | ok r δ' => cases r <;> rfl
  | ex e δ' => rfl
  | bad => rfl
theorem r_asgV : sAsgV i f δ = asgR i (opnd f δ) := by unfold sAsgV; rw [r_asg]
theorem r_a1 : asgR i (.ok (.val d) δ) = .ok .nx (δ.set i (.val d)) := rfl
theorem r_a2 (ds : List D) : asgR i (.ok (.own ds) δ) = .ok .nx (δ.set i (.own ds)) := rfl
theorem r_a3 (ds : List (Key × D)) : asgR i (.ok (.ownD ds) δ) = .ok .nx (δ.set i (.ownD ds)) := rfl
theorem r_a4 (e : Exn) : asgR i (.ex e δ) = .ex e δ := rfl
def frzO (δ : Env) (i : Nat) : Option Sl → Env
  | some (.own ds) => δ.set i (.val (.list ds))
  | some (.ownD kvs) => δ.set i (.val (dictD kvs))
  | _ => δ
theorem r_sFrz : sFrz i s δ = s (frzO δ i δ[i]?) := by
  unfold sFrz frzS frzO
  cases δ[i]? with
  | none => rfl
  | some x => cases x <;> rfl
theorem r_fz1 (ds : List D) : frzO δ i (some (.own ds)) = δ.set i (.val (.list ds)) := rfl
theorem r_fz2 (ds : List (Key × D)) : frzO δ i (some (.ownD ds)) = δ.set i (.val (dictD ds)) := rfl
theorem r_fz3 : frzO δ i (some (.val d)) = δ := rfl
theorem r_raise (x : Str) : sRaise x δ = .ex ⟨x, none⟩ δ := rfl
def curS : Option Sl → Option (List D)
  | some (.own ds) => some ds
  | some (.prm ds) => some ds
  | _ => none
theorem r_curL : curL δ i = curS δ[i]? := by unfold curL curS; cases δ[i]? with | none => rfl | some s => cases s <;> rfl
theorem r_cs1 (ds : List D) : curS (some (.own ds)) = some ds := rfl
theorem r_cs2 (ds : List D) : curS (some (.prm ds)) = some ds := rfl
def sto1 (i : Nat) (d : D) (δ : Env) : Option Nat → Option (List D) → R Out
  | some j, some ds => .ok .nx (setC δ i (ds.set j d))
  | _, _ => .bad
theorem r_st1 (ds : List D) : sto1 i d δ (some j) (some ds) = .ok .nx (setC δ i (ds.set j d)) := rfl
def stoR (i : Nat) (k : Int) : R Sl → R Out
  | .ok (.val d) δ => match curL δ i with
    | some ds => sto1 i d δ (ixN ds.length k) (some ds)
    | none => .bad
  | .ok _ _ => .bad
  | .ex e δ => .ex e δ
  | .bad => .bad
theorem r_storeR (e : M Sl) (k : Int) : sStore i e (eC (.int k)) δ = stoR i k (opnd e δ) := by
  unfold sStore
  rw [r_bind]
  cases eo : opnd e δ with
  | ex e' δ' => rfl
  | bad => rfl
  | ok r δ' =>
    cases r with
    | val d =>
      simp only [bindR, r_bind, optM, stoR]
      cases h : curL δ' i with
      | none => rfl
      | some ds =>
        simp only [r_opnd, r_c, r_o1, frz, bindR, rdM, rd, h, sto1]
        cases ixN ds.length k <;> rfl
    | _ => rfl
def stoS (i : Nat) (k : Int) (d : D) (δ : Env) : Option (List D) → R Out
  | some ds => sto1 i d δ (ixN ds.length k) (some ds)
  | none => .bad
theorem r_stoR (k : Int) : stoR i k (.ok (.val d) δ) = stoS i k d δ (curL δ i) := by show (match curL δ i with | some ds => _ | none => _) = _; unfold stoS; cases curL δ i <;> rfl
theorem r_stoS (k : Int) (ds : List D) : stoS i k d δ (some ds) = sto1 i d δ (ixN ds.length k) (some ds) := rfl
-- list methods
def mutR (i : Nat) (op : List D → List D → Option (Option D × List D)) : R (List Sl) → R Sl
  | .ok rs δ => match valsD rs, curL δ i with
    | some as, some ds => match op as ds with
      | some (r, ds') => .ok (.val (r.getD .none)) (setC δ i ds')
      | none => .bad
    | _, _ => .bad
  | .ex e δ => .ex e δ
  | .bad => .bad
theorem r_mut (op : List D → List D → Option (Option D × List D)) (h : (curL δ i).isSome = true) : mMut i op fs δ = mutR i op (fs δ) := by
  unfold mMut
  cases e0 : curL δ i with
  | none => rw [e0] at h; cases h
  | some d0 =>
    simp only [r_bind]
    cases fs δ with
    | ex e δ' => rfl
    | bad => rfl
    | ok rs δ' =>
      simp only [bindR, mutR]
      cases valsD rs with
      | none => simp [optM, r_bind, bindR]
      | some as =>
        simp only [optM, r_bind, bindR]
        cases h2 : curL δ' i with
        | none => simp [h2]
        | some ds =>
          simp only [h2]
          all_goals (cases op as ds <;> rfl)
def mutS (i : Nat) (δ : Env) : Option (Option D × List D) → R Sl
  | some (r, ds') => .ok (.val (r.getD .none)) (setC δ i ds')
  | none => .bad
def mutL (i : Nat) (op : List D → List D → Option (Option D × List D)) (δ : Env) : Option (List D) → Option (List D) → R Sl
  | some as, some ds => mutS i δ (op as ds)
  | _, _ => .bad
theorem r_mutR (op : List D → List D → Option (Option D × List D)) (rs : List Sl) : mutR i op (.ok rs δ) = mutL i op δ (valsD rs) (curL δ i) := by
  simp only [mutR, mutL, mutS]
theorem r_mutL (op : List D → List D → Option (Option D × List D)) (as ds : List D) : mutL i op δ (some as) (some ds) = mutS i δ (op as ds) := rfl
theorem r_mutS (r : Option D) (ds' : List D) : mutS i δ (some (r, ds')) = .ok (.val (r.getD .none)) (setC δ i ds') := rfl
theorem r_pApp {ds : List D} (h : ds.length < 16777216) : pAppend [d] ds = some (none, ds ++ [d]) := by show (bif decide (ds.length < 16777216) then some (none, ds ++ [d]) else none) = _; rw [decide_eq_true h]; rfl
-- loops
theorem r_sFor (src : M (List D)) (tgt : D → Env → Option Env) : sFor src tgt s δ = bindR (src δ) fun ds => forL tgt s ds := by unfold sFor; rw [r_bind]
theorem r_forN (tgt : D → Env → Option Env) : forL tgt s [] δ = .ok .nx δ := rfl
def loopR (again : SM) : R Out → R Out
  | .ok .nx δ => again δ
  | .ok .ct δ => again δ
  | .ok .bk δ => .ok .nx δ
  | .ok (.rt r) δ => .ok (.rt r) δ
  | .ex e δ => .ex e δ
  | .bad => .bad
def forR (s : SM) (again : SM) : Option Env → R Out
  | some δ1 => loopR again (s δ1)
  | none => .bad
theorem r_loop (again : SM) : M.bind s (kLoop again) δ = loopR again (s δ) := by
  unfold M.bind loopR
  cases s δ with
  | ok o δ' => cases o <;> rfl
  | ex e δ' => rfl
  | bad => rfl
theorem r_forC (tgt : D → Env → Option Env) (ds : List D) : forL tgt s (d :: ds) δ = forR s (forL tgt s ds) (tgt d δ) := by
  show (match tgt d δ with
    | some δ1 => M.bind s (kLoop (forL tgt s ds)) δ1
    | none => .bad) = _
  unfold forR
  cases tgt d δ with
  | none => rfl
  | some δ1 => exact r_loop δ1 s _
theorem r_forR (again : SM) : forR s again (some δ) = loopR again (s δ) := rfl
theorem r_l1 : loopR t (.ok .nx δ) = t δ := rfl
theorem r_l2 : loopR t (.ok .ct δ) = t δ := rfl
theorem r_l3 : loopR t (.ok .bk δ) = .ok .nx δ := rfl
theorem r_l4 (r : Sl) : loopR t (.ok (.rt r) δ) = .ok (.rt r) δ := rfl
theorem r_l5 (e : Exn) : loopR t (.ex e δ) = .ex e δ := rfl
def rgM : List D → M (List D)
  | [.int j] => bif small62 j then M.ret (rangeD 0 j) else fun _ => .bad
  | _ => fun _ => .bad
theorem r_iRg : iRg fs δ = bindR (fs δ) fun rs => M.bind (rdsM rs) rgM := by
  unfold iRg
  rw [r_bind]
  rfl
theorem r_rg (k : Int) (h : small62 k = true) : rgM [.int k] δ = .ok (rangeD 0 k) δ := by
  show (bif small62 k then M.ret (rangeD 0 k) else fun _ => .bad) δ = _
  rw [h]; rfl
def rgM2 : List D → M (List D)
  | [.int i, .int j] => bif small62 i && small62 j then M.ret (rangeD i j) else fun _ => .bad
  | _ => fun _ => .bad
theorem r_iRg2 : iRg2 fs δ = bindR (fs δ) fun rs => M.bind (rdsM rs) rgM2 := by
  unfold iRg2
  rw [r_bind]
  rfl
theorem r_rg2 (l k : Int) (h : (small62 l && small62 k) = true) : rgM2 [.int l, .int k] δ = .ok (rangeD l k) δ := by
  show (bif small62 l && small62 k then M.ret (rangeD l k) else fun _ => .bad) δ = _
  rw [h]; rfl
def sqM : Sl → M (List D)
  | .val (.list ds) => M.ret ds
  | .val (.tuple ds) => M.ret ds
  | _ => fun _ => .bad
theorem r_iSq : iSq f δ = bindR (opnd f δ) sqM := by
  unfold iSq
  rw [r_bind]
  rfl
theorem r_sq1 (ds : List D) : sqM (.val (.list ds)) δ = .ok ds δ := rfl
theorem r_sq2 (ds : List D) : sqM (.val (.tuple ds)) δ = .ok ds δ := rfl
theorem r_gN : gN i d δ = some (δ.set i (.val d)) := rfl
-- a def's frame
def fnR (sd : Option (List D)) : R Out → FR
  | .ok .nx δ' => finF sd δ' (.val .none)
  | .ok (.rt r) δ' => finF sd δ' r
  | .ok _ _ => .bad
  | .ex e δ' => match outS sd δ' with
    | some o => .ex e o
    | none => .bad
  | .bad => .bad
theorem r_fn (sd : Option (List D)) (ds : List D) : fnOf n s sd ds = fnR sd (s (env0 n sd ds)) := by
  unfold fnOf fnR
  cases s (env0 n sd ds) with
  | ok o δ' => cases o <;> rfl
  | ex e δ' => rfl
  | bad => rfl
theorem r_f1 (sd : Option (List D)) : fnR sd (.ok .nx δ) = finF sd δ (.val .none) := rfl
theorem r_f2 (sd : Option (List D)) (r : Sl) : fnR sd (.ok (.rt r) δ) = finF sd δ r := rfl
theorem r_f3 (e : Exn) : fnR none (.ex e δ) = .ex e none := rfl
theorem r_f4 (e : Exn) (x sd : List D) (δ : Env) : fnR (some sd) (.ex e (.prm x :: δ)) = .ex e (some x) := rfl
theorem r_fin1 : finF none δ (.val d) = .ok (.val d) none := rfl
theorem r_fin2 (ds : List D) : finF none δ (.own ds) = .ok (.own ds) none := rfl
theorem r_fin3 (ds : List (Key × D)) : finF none δ (.ownD ds) = .ok (.ownD ds) none := rfl
def finB : Option Sl → FR
  | some (.own ds) => .ok (.own ds) none
  | some (.ownD kvs) => .ok (.ownD kvs) none
  | _ => .bad
theorem r_fin4 : finF none δ (.bor i) = finB δ[i]? := by
  unfold finF outS retV finB
  cases h : δ[i]? with
  | none => simp [h]
  | some s => cases s <;> simp [h]
theorem r_fb1 (ds : List D) : finB (some (.own ds)) = .ok (.own ds) none := rfl
theorem r_fb2 (ds : List (Key × D)) : finB (some (.ownD ds)) = .ok (.ownD ds) none := rfl
theorem r_fin5 (sd x : List D) (δ : Env) : finF (some sd) (.prm x :: δ) (.val d) = .ok (.val d) (some x) := rfl
theorem r_fin6 (sd x ds : List D) (δ : Env) : finF (some sd) (.prm x :: δ) (.own ds) = .ok (.own ds) (some x) := rfl
def finC (x : List D) : Option Sl → FR
  | some (.own ds) => .ok (.own ds) (some x)
  | some (.ownD kvs) => .ok (.ownD kvs) (some x)
  | _ => .bad
theorem r_fin7 (sd x : List D) (δ : Env) : finF (some sd) (.prm x :: δ) (.bor i) = finC x (Sl.prm x :: δ)[i]? := by
  unfold finF outS retV finC
  cases h : (Sl.prm x :: δ)[i]? with
  | none => simp [h]
  | some s => cases s <;> simp [h]
theorem r_fc1 (x ds : List D) : finC x (some (.own ds)) = .ok (.own ds) (some x) := rfl
end
end DW

set_option Elab.async false
set_option linter.all false
set_option maxRecDepth 100000
set_option maxHeartbeats 2000000
/-! DW: mirrors run, more: comparisons, isinstance, dicts, comprehensions, loops. -/
namespace DW
open PySem PySem.Spec PyProof.Rows L2
theorem r_dAdd (i j : Int) : dAdd (.int i) (.int j) = some (.val (.int (i + j))) := rfl
theorem r_dAddL {a b : List D} (h : a.length + b.length ≤ 16777216) : dAdd (.list a) (.list b) = some (.own (a ++ b)) := by
  show (bif decide (a.length + b.length ≤ 16777216) then _ else _) = _
  rw [decide_eq_true h]; rfl
theorem r_dSub (i j : Int) : dSub (.int i) (.int j) = some (.val (.int (i - j))) := rfl
theorem r_dMul {i j : Int} (h : mulC i j = true) : dMul (.int i) (.int j) = some (.val (.int (i * j))) := by
  show (bif mulC i j then _ else _) = _
  rw [h]; rfl
theorem r_dMod {i j : Int} (h : 0 < j) : dMod (.int i) (.int j) = some (.val (.int (i % j))) := by
  show (bif modC i j then _ else _) = _
  rw [show modC i j = true from decide_eq_true h]; rfl
theorem r_dDiv {i j : Int} (h : divC i j = true) : dDiv (.int i) (.int j) = some (.val (.int (i / j))) := by
  show (bif divC i j then _ else _) = _
  rw [h]; rfl
theorem r_dPow {i j : Int} (h : powC i j = true) : dPow (.int i) (.int j) = some (.val (.int (i ^ j.toNat))) := by
  show (bif powC i j then _ else _) = _
  rw [h]; rfl
theorem r_dNeg (i : Int) : dNeg (.int i) = some (.val (.int (-i))) := rfl
theorem r_dLt (i j : Int) : dLt (.int i) (.int j) = some (.val (.bool (decide (i < j)))) := rfl
theorem r_dLe (i j : Int) : dLe (.int i) (.int j) = some (.val (.bool (decide (i ≤ j)))) := rfl
theorem r_dGt (i j : Int) : dGt (.int i) (.int j) = some (.val (.bool (decide (j < i)))) := rfl
theorem r_dGe (i j : Int) : dGe (.int i) (.int j) = some (.val (.bool (decide (j ≤ i)))) := rfl
theorem r_nInt (i : Int) : nInt (.int i) = some (.val (.int i)) := rfl
theorem r_nIntB (b : Bool) : nInt (.bool b) = some (.val (.int (if b then 1 else 0))) := rfl
theorem r_nAbs (i : Int) : nAbs (.int i) = some (.val (.int (if i < 0 then -i else i))) := rfl
theorem r_nLenL (ds : List D) : nLenX (.list ds) = some (.val (.int ds.length)) := rfl
theorem r_nLenT (ds : List D) : nLenX (.tuple ds) = some (.val (.int ds.length)) := rfl
theorem r_nLenD (kvs : List (Key × D)) : nLenX (dictD kvs) = some (.val (.int kvs.length)) := by
  show (undictL (kvs.map fun p => (keyD p.1, p.2))).map _ = _
  rw [undictL_map]; rfl
theorem r_nMax2 (i j : Int) : nMax2 (.int i) (.int j) = some (.val (.int (if j > i then j else i))) := rfl
theorem r_nMin2 (i j : Int) : nMin2 (.int i) (.int j) = some (.val (.int (if j < i then j else i))) := rfl
theorem r_ixL (ds : List D) (i : Int) : dIx (.list ds) (.int i) = (L2.atI ds i).map Sl.val := rfl
theorem r_ixT (ds : List D) (i : Int) : dIx (.tuple ds) (.int i) = (L2.atI ds i).map Sl.val := rfl
theorem r_nListL (ds : List D) : nList (.list ds) = some (.own ds) := rfl
theorem r_nListT (ds : List D) : nList (.tuple ds) = some (.own ds) := rfl
theorem r_nTupL (ds : List D) : nTuple (.list ds) = some (.val (.tuple ds)) := rfl
theorem r_nDict (kvs : List (Key × D)) : nDict (dictD kvs) = some (.ownD kvs) := by unfold nDict; rw [undict_dictD]; rfl
theorem r_tru1 (b : Bool) : dTru (.bool b) = some b := rfl
theorem r_tru2 (i : Int) : dTru (.int i) = some (i != 0) := rfl
theorem r_tru3 (ds : List D) : dTru (.list ds) = some (!ds.isEmpty) := rfl
theorem r_tru4 (ds : List D) : dTru (.tuple ds) = some (!ds.isEmpty) := rfl
theorem r_tru5 : dTru .none = some false := rfl
theorem r_pExt {es ds : List D} (h : ds.length + es.length ≤ 16777216) : pExtend [.list es] ds = some (none, ds ++ es) := by
  show (bif decide (ds.length + es.length ≤ 16777216) then some (none, ds ++ es) else none) = _
  rw [decide_eq_true h]; rfl
theorem r_pIns {i : Int} {d : D} {ds : List D} (h : ds.length < 16777216) (h0 : 0 ≤ i) (h1 : i < 9223372036854775808) : pInsert [.int i, d] ds = some (none, ds.take i.toNat ++ [d] ++ ds.drop i.toNat) := by
  show (bif decide (ds.length < 16777216) && (decide (0 ≤ i) && decide (i < 9223372036854775808)) then some (none, ds.take i.toNat ++ [d] ++ ds.drop i.toNat) else none) = _
  rw [decide_eq_true h, decide_eq_true h0, decide_eq_true h1]; rfl
theorem r_eqII (i j : Int) : dEq (.int i) (.int j) = some (.val (.bool (decide (i = j)))) := rfl
theorem r_eqBB (i j : Bool) : dEq (.bool i) (.bool j) = some (.val (.bool (i == j))) := rfl
theorem r_neII (i j : Int) : dNe (.int i) (.int j) = some (.val (.bool (!decide (i = j)))) := rfl
theorem r_isN1 : dIsN .none .none = some (.val (.bool true)) := rfl
theorem r_isN2 (i : Int) : dIsN (.int i) .none = some (.val (.bool false)) := rfl
theorem r_isN3 (i : Bool) : dIsN (.bool i) .none = some (.val (.bool false)) := rfl
theorem r_isN4 (i : Str) : dIsN (.str i) .none = some (.val (.bool false)) := rfl
theorem r_isN5 (i : List D) : dIsN (.list i) .none = some (.val (.bool false)) := rfl
theorem r_isN6 (i : List D) : dIsN (.tuple i) .none = some (.val (.bool false)) := rfl
section
variable (f g h : M Sl) (p q : M Bool) (δ : Env) (d : D) (i j n : Nat) (fs : M (List Sl)) (s t : SM)
theorem r_isi (Ts : List String) : eIsi Ts f δ = bindR (opnd f δ) fun r => M.bind (rdM r) fun d => M.ret (.val (.bool (Ts.any fun T => isTy T d))) := by unfold eIsi; rw [r_bind]
-- chains
def chR (op' : D → D → Option Sl) (r2 : Sl) (h : M Sl) : Option Sl → M Sl
  | some (.val (.bool true)) => M.bind (opnd h) fun r3 => M.bind (rdM r2) fun b => M.bind (rdM r3) fun c => liftO (op' b c)
  | some (.val (.bool false)) => M.ret (.val (.bool false))
  | _ => fun _ => .bad
theorem r_chain (op op' : D → D → Option Sl) : eChain op op' f g h δ = bindR (opnd f δ) fun r1 => M.bind (opnd g) fun r2 => M.bind (rdM r1) fun a => M.bind (rdM r2) fun b => chR op' r2 h (op a b) := by
  unfold eChain; rw [r_bind]; rfl
theorem r_ch1 (op' : D → D → Option Sl) (r2 : Sl) : chR op' r2 h (some (.val (.bool true))) δ = bindR (opnd h δ) fun r3 => M.bind (rdM r2) fun b => M.bind (rdM r3) fun c => liftO (op' b c) := by
  show M.bind _ _ δ = _
  rw [r_bind]
theorem r_ch2 (op' : D → D → Option Sl) (r2 : Sl) : chR op' r2 h (some (.val (.bool false))) δ = .ok (.val (.bool false)) δ := rfl
-- dicts
theorem r_rdDict (r : Sl) : rdDict r δ = bindR (rdM r δ) fun d => optM (undict d) := by unfold rdDict; rw [r_bind]
theorem r_undictD (kvs : List (Key × D)) : undict (dictD kvs) = some kvs := undict_dictD kvs
theorem r_key (k : Int) : keyOf (.int k) = some (.inl k) := rfl
def orG (r3 : Sl) : Option D → M Sl
  | some d => M.ret (.val d)
  | none => M.ret r3
theorem r_get2 : eGet2 f g h δ = bindR (opnd f δ) fun r1 => M.bind (rdDict r1) fun _ => M.bind (opnd g) fun r2 => M.bind (opnd h) fun r3 => M.bind (rdDict r1) fun kvs => M.bind (rdM r2) fun y => M.bind (optM (keyOf y)) fun k => orG r3 (lookD kvs k) := by
  unfold eGet2
  rw [r_bind]
  have e : ∀ (r3 : Sl) (o : Option D), (M.ret (match o with | some d => Sl.val d | none => r3) : M Sl) = orG r3 o := fun r3 o => by
    cases o <;> rfl
  congr 1; funext r1; congr 1; funext x; congr 1; funext r2; congr 1; funext r3; congr 1; funext kvs; congr 1; funext y; congr 1; funext k
  exact e r3 (lookD kvs k)
theorem r_or1 (r3 : Sl) : orG r3 (some d) δ = .ok (.val d) δ := rfl
theorem r_or2 (r3 : Sl) : orG r3 none δ = .ok r3 δ := rfl
theorem r_dix : eDix f g δ = bindR (opnd f δ) fun r1 => M.bind (opnd g) fun r2 => M.bind (rdDict r1) fun kvs => M.bind (rdM r2) fun y => M.bind (optM ((keyOf y).bind (lookD kvs))) fun d => M.ret (.val d) := by unfold eDix; rw [r_bind]
theorem r_dnew : eDnew δ = .ok (.ownD []) δ := rfl
def curE : Option Sl → Option (List (Key × D))
  | some (.ownD kvs) => some kvs
  | _ => none
theorem r_curD : curD δ i = curE δ[i]? := by unfold curD curE; cases δ[i]? with | none => rfl | some s => cases s <;> rfl
theorem r_ce (kvs : List (Key × D)) : curE (some (.ownD kvs)) = some kvs := rfl
theorem r_valOf : valOf (.val d) = some d := rfl
def putR (i : Nat) (k : Key) (d : D) (δ : Env) : Option (List (Key × D)) → R Out
  | some kvs => bif decide (kvs.length < 16777216) then .ok .nx (δ.set i (.ownD (putD kvs k d))) else .bad
  | none => .bad
theorem r_dput (e idx : M Sl) : sDput i e idx δ = bindR (opnd e δ) fun r => M.bind (optM (valOf r)) fun d => M.bind (fun δ => (optM (curD δ i)) δ) fun _ => M.bind (opnd idx) fun k => M.bind (rdM k) fun kd => M.bind (optM (keyOf kd)) fun k => fun δ => putR i k d δ (curD δ i) := by
  unfold sDput
  rw [r_bind]
  rfl
theorem r_put {k : Key} {kvs : List (Key × D)} (h : kvs.length < 16777216) : putR i k d δ (some kvs) = .ok .nx (δ.set i (.ownD (putD kvs k d))) := by
  show (bif decide (kvs.length < 16777216) then _ else _) = _
  rw [decide_eq_true h]; rfl
def dicS : Option Sl → Option (List (Key × D))
  | some (.val e) => undict e
  | _ => none
theorem r_dictAt : dictAt δ i = dicS δ[i]? := by unfold dictAt dicS; cases δ[i]? with | none => rfl | some s => cases s <;> rfl
theorem r_dicS (e : D) : dicS (some (.val e)) = undict e := rfl
def lokR {α : Type} : R α → R α
  | .ok r δ' => .ok r δ'
  | _ => .bad
theorem r_eLock (h : (dictAt δ i).isSome = true) : eLock i f δ = lokR (f δ) := by
  unfold eLock
  cases e : dictAt δ i with
  | none => rw [e] at h; cases h
  | some x => cases f δ <;> rfl
theorem r_sLock (h : (dictAt δ i).isSome = true) : sLock i s δ = lokR (s δ) := by
  unfold sLock
  cases e : dictAt δ i with
  | none => rw [e] at h; cases h
  | some x => cases s δ <;> rfl
theorem r_lok {α : Type} (r : α) : lokR (.ok r δ) = .ok r δ := rfl
def mapR {α : Type} (g : List (Key × D) → α) (δ : Env) : Option (List (Key × D)) → R α
  | some kvs => .ok (g kvs) δ
  | none => .bad
theorem r_iDk : iDk i δ = mapR (fun kvs => kvs.map fun p => keyD p.1) δ (dictAt δ i) := by unfold iDk mapR; cases dictAt δ i <;> rfl
theorem r_iDi : iDi i δ = mapR (fun kvs => kvs.map fun p => .tuple [keyD p.1, p.2]) δ (dictAt δ i) := by unfold iDi mapR; cases dictAt δ i <;> rfl
theorem r_mapR {α : Type} (g : List (Key × D) → α) (kvs : List (Key × D)) : mapR g δ (some kvs) = .ok (g kvs) δ := rfl
-- targets
def tupT (n : Nat) (fs : List D → Env → Option Env) (ds : List D) (δ : Env) : Option Env := bif ds.length == n then fs ds δ else none
theorem r_gT (fs : List D → Env → Option Env) (ds : List D) : gT n fs (.tuple ds) δ = tupT n fs ds δ := rfl
theorem r_tupT (fs : List D → Env → Option Env) (ds : List D) (h : (ds.length == n) = true) : tupT n fs ds δ = fs ds δ := by unfold tupT; rw [h]; rfl
theorem r_gsN : gsNil [] δ = some δ := rfl
def gsR (fs : List D → Env → Option Env) (ds : List D) : Option Env → Option Env
  | some δ => fs ds δ
  | none => none
theorem r_gsC (g : D → Env → Option Env) (fs : List D → Env → Option Env) (ds : List D) : gsCons g fs (d :: ds) δ = gsR fs ds (g d δ) := by
  show (g d δ).bind (fun δ' => fs ds δ') = _
  unfold gsR
  cases g d δ <;> rfl
theorem r_gsR (fs : List D → Env → Option Env) (ds : List D) : gsR fs ds (some δ) = fs ds δ := rfl
def augR (i : Nat) (op : D → D → Option Sl) (e : M Sl) (δ : Env) : Option Sl → R Out
  | some (.val a) => asgR i (bindR (opnd e δ) fun r => M.bind (rdM r) fun b => liftO (op a b))
  | _ => .bad
theorem r_aug (op : D → D → Option Sl) : sAug i op f δ = augR i op f δ δ[i]? := by
  unfold sAug augR
  cases δ[i]? with
  | none => rfl
  | some x =>
    cases x with
    | val a =>
      simp only [r_bind]
      cases opnd f δ with
      | ex e δ' => rfl
      | bad => rfl
      | ok r δ' =>
        simp only [bindR, r_bind]
        cases rdM r δ' with
        | ex e δ' => rfl
        | bad => rfl
        | ok b δ2 =>
          simp only [bindR]
          cases op a b with
          | none => rfl
          | some z => cases z <;> rfl
    | _ => rfl
theorem r_aug1 (op : D → D → Option Sl) (a : D) : augR i op f δ (some (.val a)) = asgR i (bindR (opnd f δ) fun r => M.bind (rdM r) fun b => liftO (op a b)) := rfl
theorem r_addI (a b : Int) : dAddI (.int a) (.int b) = some (.val (.int (a + b))) := rfl
theorem r_while : sWhile p s δ = whileL p s fuel δ := rfl
theorem r_sPar : sPar i j fs δ = bindR (fs δ) fun rs => M.bind (optM (valsD rs)) fun ds => fun δ => match ds with
  | [x, y] => .ok .nx ((δ.set i (.val x)).set j (.val y))
  | _ => .bad := by unfold sPar; rw [r_bind]; try rfl
end
/-! ### slices -/
def partM : D → M (Option Int)
  | .int i => M.ret (some i)
  | _ => fun _ => .bad
theorem r_oN (δ : Env) : oNone δ = .ok none δ := rfl
theorem r_oS (f : M Sl) (δ : Env) : oSome f δ = bindR (opnd f δ) fun r => M.bind (rdM r) partM := by unfold oSome; rw [r_bind]; rfl
theorem r_part (i : Int) (δ : Env) : partM (.int i) δ = .ok (some i) δ := rfl
theorem r_eSl (f : M Sl) (lo hi : M (Option Int)) (δ : Env) : eSl f lo hi δ = bindR (opnd f δ) fun r => M.bind lo fun l => M.bind hi fun h => M.bind (rdM r) fun d => liftO (dSl l h d) := by unfold eSl; rw [r_bind]
theorem r_slTo {ds : List D} {i : Int} (h : 0 ≤ i) : dSl none (some i) (.list ds) = some (.own (ds.take i.toNat)) := by
  show some (Sl.own (cutD ds none (some i))) = _
  unfold cutD HT.sIx
  dsimp only
  rw [if_neg (by omega), List.drop_zero, Nat.sub_zero]
  congr 2
  by_cases z : i.toNat ≤ ds.length
  · rw [Nat.min_eq_left z]
  · rw [Nat.min_eq_right (by omega), List.take_length, List.take_of_length_le (by omega)]
theorem r_slFrom {ds : List D} {i : Int} (h : 0 ≤ i) : dSl (some i) none (.list ds) = some (.own (ds.drop i.toNat)) := by
  show some (Sl.own (cutD ds (some i) none)) = _
  unfold cutD HT.sIx
  dsimp only
  rw [if_neg (by omega)]
  congr 2
  by_cases z : i.toNat ≤ ds.length
  · rw [Nat.min_eq_left z]
    exact List.take_of_length_le (by rw [List.length_drop]; omega)
  · rw [Nat.min_eq_right (by omega), Nat.sub_self, List.drop_of_length_le (by omega : ds.length ≤ i.toNat)]
    rfl
/-! ### loops -/
theorem forL_inv {tgt : D → Env → Option Env} {s : SM} (I : List D → Env → Prop) (step : ∀ d ds δ, I (d :: ds) δ → ∃ δ1 δ2, tgt d δ = some δ1 ∧ (s δ1 = .ok .nx δ2 ∨ s δ1 = .ok .ct δ2) ∧ I ds δ2) :
    ∀ ds δ, I ds δ → ∃ δ', forL tgt s ds δ = .ok .nx δ' ∧ I [] δ'
  | [], δ, h => ⟨δ, rfl, h⟩
  | d :: ds, δ, h => by
    obtain ⟨δ1, δ2, e1, e2, h2⟩ := step d ds δ h
    obtain ⟨δ', e3, h3⟩ := forL_inv I step ds δ2 h2
    refine ⟨δ', ?_, h3⟩
    rw [r_forC, e1, r_forR]
    rcases e2 with e2 | e2 <;> rw [e2]
    · rw [r_l1, e3]
    · rw [r_l2, e3]
theorem whileL_inv {p : M Bool} {s : SM} (I : Nat → Env → Prop) (Post : Env → Prop) (step : ∀ n δ, I n δ → (p δ = .ok false δ ∧ Post δ) ∨ (∃ δ2 m, p δ = .ok true δ ∧ (s δ = .ok .nx δ2 ∨ s δ = .ok .ct δ2) ∧ m < n ∧ I m δ2)) :
    ∀ k n δ, n < k → I n δ → ∃ δ', whileL p s k δ = .ok .nx δ' ∧ Post δ'
  | 0, n, δ, hk, _ => absurd hk (Nat.not_lt_zero n)
  | k + 1, n, δ, hk, h => by
    rcases step n δ h with ⟨e, po⟩ | ⟨δ2, m, e1, e2, hm, h2⟩
    · refine ⟨δ, ?_, po⟩
      show M.bind p _ δ = _
      rw [r_bind, e, r_b1]
      rfl
    · obtain ⟨δ', e3, po⟩ := whileL_inv I Post step k m δ2 (by omega) h2
      refine ⟨δ', ?_, po⟩
      show M.bind p _ δ = _
      rw [r_bind, e1, r_b1]
      show M.bind s (kLoop (whileL p s k)) δ = _
      rw [r_loop]
      rcases e2 with e2 | e2 <;> rw [e2]
      · rw [r_l1, e3]
      · rw [r_l2, e3]
/-- a walk by the place in the list, with break -/
theorem forL_ix {tgt : D → Env → Option Env} {s : SM} (ds : List D) (I : Nat → Env → Prop) (Post : Env → Prop) (fin : ∀ δ, I ds.length δ → Post δ)
    (step : ∀ i d δ, ds[i]? = some d → I i δ → ∃ δ1 δ2, tgt d δ = some δ1 ∧ (((s δ1 = .ok .nx δ2 ∨ s δ1 = .ok .ct δ2) ∧ I (i + 1) δ2) ∨ (s δ1 = .ok .bk δ2 ∧ Post δ2))) :
    ∀ δ, I 0 δ → ∃ δ', forL tgt s ds δ = .ok .nx δ' ∧ Post δ' := by
  have go : ∀ (k i : Nat) (δ : Env), i + k = ds.length → I i δ → ∃ δ', forL tgt s (ds.drop i) δ = .ok .nx δ' ∧ Post δ' := by
    intro k
    induction k with
    | zero =>
      intro i δ hi h
      have e : i = ds.length := by omega
      subst e
      rw [List.drop_length]
      exact ⟨δ, rfl, fin δ h⟩
    | succ k ih =>
      intro i δ hi h
      have hlt : i < ds.length := by omega
      obtain ⟨δ1, δ2, e1, e2⟩ := step i _ δ (List.getElem?_eq_getElem hlt) h
      rw [List.drop_eq_getElem_cons hlt, r_forC, e1, r_forR]
      rcases e2 with ⟨e2, h2⟩ | ⟨e2, h2⟩
      · obtain ⟨δ', e3, h3⟩ := ih (i + 1) δ2 (by omega) h2
        refine ⟨δ', ?_, h3⟩
        rcases e2 with e2 | e2 <;> rw [e2]
        · rw [r_l1, e3]
        · rw [r_l2, e3]
      · exact ⟨δ2, by rw [e2, r_l3], h2⟩
  intro δ h
  exact go ds.length 0 δ (by omega) h
theorem rangeD_at {lo hi : Int} {i : Nat} {d : D} (h : (rangeD lo hi)[i]? = some d) : d = .int (lo + i) ∧ i < (hi - lo).toNat := by
  unfold rangeD at h
  rw [List.getElem?_map] at h
  cases e : (List.range (hi - lo).toNat)[i]? with
  | none => rw [e] at h; cases h
  | some k =>
    rw [e] at h
    obtain ⟨hl, ek⟩ := List.getElem?_eq_some_iff.mp e
    rw [List.getElem_range] at ek
    subst ek
    cases h
    exact ⟨rfl, by simpa using hl⟩
theorem rangeD_len (lo hi : Int) : (rangeD lo hi).length = (hi - lo).toNat := by unfold rangeD; rw [List.length_map, List.length_range]
/-! ### comprehensions of plain elements -/
def LcAt (tgt : D → Env → Option Env) (cond : M Bool) (elt : M Sl) (vs : List Nat) (δ0 : Env) (d : D) (o : Option D) : Prop := ∃ δ1, tgt d δ0 = some δ1 ∧
  ((∃ δ2, cond δ1 = .ok false δ2 ∧ wipeE vs δ2 = δ0 ∧ o = none) ∨ ∃ δ2 δ3 y, cond δ1 = .ok true δ2 ∧ opnd elt δ2 = .ok (.val y) δ3 ∧ wipeE vs δ3 = δ0 ∧ o = some y)
theorem lcL_pure {tgt : D → Env → Option Env} {cond : M Bool} {elt : M Sl} {vs : List Nat} {δ0 : Env} (g : D → Option D) : ∀ (ds acc : List D), (∀ d ∈ ds, LcAt tgt cond elt vs δ0 d (g d)) → acc.length + ds.length ≤ 16777216 →
    lcL tgt cond elt vs ds acc δ0 = some (acc ++ ds.filterMap g, δ0)
  | [], acc, _, _ => by rw [List.filterMap_nil, List.append_nil]; rfl
  | d :: ds, acc, h, hl => by
    have hl : acc.length + (ds.length + 1) ≤ 16777216 := hl
    obtain ⟨δ1, e1, h1⟩ := h d List.mem_cons_self
    have ht := fun e he => h e (List.mem_cons_of_mem d he)
    unfold lcL
    rw [e1]
    rcases h1 with ⟨δ2, e2, e3, e4⟩ | ⟨δ2, δ3, y, e2, e3, e4, e5⟩
    · simp only [e2, e3]
      rw [lcL_pure g ds acc ht (by omega), List.filterMap_cons_none e4]
    · simp only [e2, e3, e4]
      rw [decide_eq_true (by omega : acc.length < 16777216)]
      show lcL tgt cond elt vs ds (acc ++ [y]) δ0 = _
      rw [lcL_pure g ds (acc ++ [y]) ht (by rw [List.length_append, List.length_singleton]; omega), List.filterMap_cons_some e5, List.append_assoc]
      rfl
/-- what a comprehension gives -/
theorem eLc_pure {src : M (List D)} {tgt : D → Env → Option Env} {cond : M Bool} {elt : M Sl} {vs : List Nat} {δ : Env} {ds : List D} (g : D → Option D) (hs : src δ = .ok ds δ) (hf : freeOf vs δ = true) (hb : backE δ vs (wipeE vs δ) = δ)
    (h : ∀ d ∈ ds, LcAt tgt cond elt vs (wipeE vs δ) d (g d)) (hl : ds.length ≤ 16777216) : eLc src tgt cond elt vs δ = .ok (.own (ds.filterMap g)) δ := by
  unfold eLc
  rw [r_bind, hs, r_b1]
  unfold lcM
  rw [hf, lcL_pure g ds [] h (by simpa using hl)]
  show R.ok _ (backE δ vs (wipeE vs δ)) = _
  rw [hb]
  rfl
def DcAt (tgt : D → Env → Option Env) (cond : M Bool) (kx vx : M Sl) (vs : List Nat) (δ0 : Env) (d : D) (o : Option (Key × D)) : Prop := ∃ δ1, tgt d δ0 = some δ1 ∧
  ((∃ δ2, cond δ1 = .ok false δ2 ∧ wipeE vs δ2 = δ0 ∧ o = none) ∨ ∃ δ2 δ3 δ4 yk k y, cond δ1 = .ok true δ2 ∧ opnd kx δ2 = .ok (.val yk) δ3 ∧ keyOf yk = some k ∧ opnd vx δ3 = .ok (.val y) δ4 ∧ wipeE vs δ4 = δ0 ∧ o = some (k, y))
def putAll (acc : List (Key × D)) (l : List (Key × D)) : List (Key × D) := l.foldl (fun a p => putD a p.1 p.2) acc
theorem putD_len (kvs : List (Key × D)) (k : Key) (d : D) : (putD kvs k d).length ≤ kvs.length + 1 := by
  unfold putD
  split
  · rw [List.length_map]; omega
  · rw [List.length_append, List.length_singleton]; omega
theorem dcL_pure {tgt : D → Env → Option Env} {cond : M Bool} {kx vx : M Sl} {vs : List Nat} {δ0 : Env} (g : D → Option (Key × D)) : ∀ (ds : List D) (acc : List (Key × D)), (∀ d ∈ ds, DcAt tgt cond kx vx vs δ0 d (g d)) → acc.length + ds.length ≤ 16777216 →
    dcL tgt cond kx vx vs ds acc δ0 = some (putAll acc (ds.filterMap g), δ0)
  | [], acc, _, _ => rfl
  | d :: ds, acc, h, hl => by
    have hl : acc.length + (ds.length + 1) ≤ 16777216 := hl
    obtain ⟨δ1, e1, h1⟩ := h d List.mem_cons_self
    have ht := fun e he => h e (List.mem_cons_of_mem d he)
    unfold dcL
    rw [e1]
    rcases h1 with ⟨δ2, e2, e3, e4⟩ | ⟨δ2, δ3, δ4, yk, k, y, e2, e3, e4, e5, e6, e7⟩
    · simp only [e2, e3]
      rw [dcL_pure g ds acc ht (by omega), List.filterMap_cons_none e4]
    · simp only [e2, e3, e4, e5, e6]
      rw [decide_eq_true (by omega : acc.length < 16777216)]
      show dcL tgt cond kx vx vs ds (putD acc k y) δ0 = _
      have := putD_len acc k y
      rw [dcL_pure g ds (putD acc k y) ht (by omega), List.filterMap_cons_some e7]
      rfl
theorem eDc_pure {src : M (List D)} {tgt : D → Env → Option Env} {cond : M Bool} {kx vx : M Sl} {vs : List Nat} {δ : Env} {ds : List D} (g : D → Option (Key × D)) (hs : src δ = .ok ds δ) (hf : freeOf vs δ = true) (hb : backE δ vs (wipeE vs δ) = δ)
    (h : ∀ d ∈ ds, DcAt tgt cond kx vx vs (wipeE vs δ) d (g d)) (hl : ds.length ≤ 16777216) : eDc src tgt cond kx vx vs δ = .ok (.ownD (putAll [] (ds.filterMap g))) δ := by
  unfold eDc
  rw [r_bind, hs, r_b1]
  unfold dcM
  rw [hf, dcL_pure g ds [] h (by simpa using hl)]
  show R.ok _ (backE δ vs (wipeE vs δ)) = _
  rw [hb]
end DW

set_option Elab.async false
set_option linter.all false
set_option maxRecDepth 100000
set_option maxHeartbeats 2000000
/-! DW: the law's entry (the script may be a frozen list), the head's facts. -/
namespace DW
open PySem PySem.Spec PyProof.Rows L2
def tInts : List Int → TA
  | [] => tNil
  | i :: r => tCons (tC (.int i)) (tInts r)
theorem tInts_run {σ : L2.St} {H : Hp} : ∀ {is : List Int} {Q : List V → Hp → Prop}, Q (is.map V.int) H → tInts is σ H Q
  | [], Q, h => h
  | i :: r, Q, h => by
    show tInts r σ H fun vs H2 => Q (.int i :: vs) H2
    exact tInts_run (Q := fun vs H2 => Q (.int i :: vs) H2) h
theorem repsI {S : Addr → Prop} {H : Hp} : ∀ is : List Int, Reps S H (is.map V.int) (is.map PyData.int)
  | [] => .nil
  | i :: r => .cons (.int i) (repsI r)
/-- [list(script), ..] -/
abbrev tStart (K : PySem.W.Frag) (tl : List Int) : TE := tLst (tCons (tCB (rListB K) (tCons (tVar 0) tNil)) (tInts tl))
theorem tStart_run {K : PySem.W.Frag} {tl : List Int} {σ : L2.St} {H : Hp} {Q : VK} {a : Addr} {ns : List Int} (h0 : σ[0]? = some (some (.ref a))) (hS : SqL K H a (ns.map V.int)) (hl : tl.length ≤ 1000)
    (q : ∀ l p, H l = none → upd H l (.lst (ns.map V.int)) p = none → Q (.ref p) (upd (upd H l (.lst (ns.map V.int))) p (.lst (.ref l :: tl.map V.int)))) : tStart K tl σ H Q := by
  refine ⟨.ref a, h0, a, ns.map V.int, rfl, .inl hS, fun l hl' => ?_⟩
  refine tInts_run ⟨?_, fun p hp => q l p hl' hp⟩
  rw [List.length_cons, List.length_map]
  exact Nat.le_trans (Nat.succ_le_succ hl) (by decide)
/-- the promise of _law_start -/
def spStart (K : PySem.W.Frag) (tl : List Int) : Sp := fun vs H Q _ => ∃ (a : Addr) (ns : List Int), vs = [.ref a] ∧ SqL K H a (ns.map V.int) ∧ ∀ l p, H l = none → upd H l (.lst (ns.map V.int)) p = none → Q (.ref p) (upd (upd H l (.lst (ns.map V.int))) p (.lst (.ref l :: tl.map V.int)))
/-- the law's promise: R, what the script must fulfil -/
def spLaw (K : PySem.W.Frag) (R : List Int → Prop) : Sp := fun vs H Q _ => ∃ (a : Addr) (ns : List Int), vs = [.ref a] ∧ SqL K H a (ns.map V.int) ∧ R ns ∧ ∀ H', Q (.bl true) H'
/-- what the law's first statement does -/
def tFirst (K : PySem.W.Frag) (tl : List Int) : TS := fun Dz σ H => ∃ (a : Addr) (ns : List Int), σ[0]? = some (some (.ref a)) ∧ SqL K H a (ns.map V.int) ∧ ∀ l p, H l = none → upd H l (.lst (ns.map V.int)) p = none → Dz.nx (σ.set 1 (some (.ref p))) (upd (upd H l (.lst (ns.map V.int))) p (.lst (.ref l :: tl.map V.int)))
section
variable {P : Program} {w : World} {K : PySem.W.Frag} {mg : Str → Option Value} {base : Heap}
theorem ok_start {x : Str} {st : Stmt} {f : Addr} {fd : FuncData} {k : Nat} {tl : List Int} (F : FnP K x st [] f fd) (S : FnScope ["script"] ["script"] (defScope st)) (hl : tl.length ≤ 1000)
    (hb : ∀ (cdv : Value) (A : Around) (outer : List PySem.Env) (s : Shared) (H : Hp) (E : XK), PSs (cxOf (L2.CX P w) P w K mg base ["script"] x (defScope st) f cdv A outer s H E) (defBody st) (tRet (tStart K tl))) :
    FnOk P w K mg base (L2.CX P w) (k + 1) f fd ["script"] (spStart K tl) := by
  refine F.ok S (fun vs H Q E h => ?_) (fun cdv A outer s H vs Q E hr h => ⟨_, hb cdv A outer s H E, ?_⟩)
  · obtain ⟨a, ns, rfl, _⟩ := h; rfl
  · obtain ⟨a, ns, rfl, hS, q⟩ := h
    exact tStart_run rfl hS hl q
/-- the frame behind the first statement -/
def envL (n : Nat) (cs : List Int) (tl : List Int) : Env := .un :: .own (.list (cs.map PyData.int) :: tl.map PyData.int) :: List.replicate (n - 2) .un
theorem J.law {K : PySem.W.Frag} {H : Hp} {a l p : Addr} {n : Nat} {ns tl : List Int} (hl : H l = none) (hp : upd H l (.lst (ns.map V.int)) p = none) (hn : 2 ≤ n) :
    J ⟨H, fun _ => False, fun _ => none⟩ (addS (fun _ => False) l) (upd (upd H l (.lst (ns.map V.int))) p (.lst (.ref l :: tl.map V.int))) ((some (V.ref a) :: List.replicate (n - 1) none).set 1 (some (.ref p))) (envL n ns tl) := by
  have lenE : (envL n ns tl).length = n := by unfold envL; rw [List.length_cons, List.length_cons, List.length_replicate]; omega
  have I0 : J ⟨H, fun _ => False, fun _ => none⟩ (fun _ => False) H (some (V.ref a) :: List.replicate (n - 1) none) (List.replicate n .un) := by
    have un : ∀ {i : Nat} {s : Sl}, (List.replicate n Sl.un)[i]? = some s → s = .un := fun {i s} h => by
      rw [List.getElem?_replicate] at h
      split at h <;> cases h
      rfl
    refine ⟨by rw [List.length_cons, List.length_replicate, List.length_replicate]; omega, fun i ov s h1 h2 => ?_, fun i j b s t ne h1 h2 h3 h4 o1 o2 => ?_, fun i b s h1 h2 o => ?_, fun b o e n => e, fun b h => h.elim, fun b h => h.elim, fun b h z => z.elim, fun b h => ?_, fun b h => h.elim, fun j b h => by cases h⟩
    · rw [un h2]; trivial
    · rw [un h3] at o1; cases o1
    · rw [un h2] at o; cases o
    · obtain ⟨i, hi⟩ := h; cases hi
  have g1 : Gr (fun _ => False) H (addS (fun _ => False) l) (upd H l (.lst (ns.map V.int))) := Gr.newS (fun _ h => h.elim) hl
  have I1 := I0.gr g1
  have g2 : Gr (addS (fun _ => False) l) (upd H l (.lst (ns.map V.int))) (addS (fun _ => False) l) (upd (upd H l (.lst (ns.map V.int))) p (.lst (.ref l :: tl.map V.int))) := Gr.new1 I1.dom hp
  have I2 := I1.gr g2
  have nl : ¬ addS (fun _ => False) l p := fun z => by
    rcases z with z | z
    · exact z
    · rw [z, upd_same] at hp; cases hp
  have I3 := I2.set (i := 1) (x := .ref p) (s := .own (.list (ns.map PyData.int) :: tl.map PyData.int)) ⟨p, _, rfl, nl, upd_same, .cons (.lst (.inr rfl) (g2.keep _ _ upd_same) (repsI ns)) (repsI tl)⟩ (fun _ z => by cases z) (fun _ => ⟨p, rfl, I1.frN hp⟩)
  have e : (List.replicate n Sl.un).set 1 (.own (.list (ns.map PyData.int) :: tl.map PyData.int)) = envL n ns tl := by
    obtain ⟨m, rfl⟩ : ∃ m, n = m + 2 := ⟨n - 2, by omega⟩
    rfl
  rw [e] at I3
  exact I3
def isT : R Out → Bool
  | .ok (.rt (.val (.bool true))) _ => true
  | _ => false
theorem r_isT (δ : Env) : isT (.ok (.rt (.val (.bool true))) δ) = true := rfl
theorem isT_ok {r : R Out} (h : isT r = true) : ∃ δ', r = .ok (.rt (.val (.bool true))) δ' := by
  unfold isT at h
  split at h
  · exact ⟨_, rfl⟩
  · cases h
/-- the law's def: the first statement, then what the mirror says -/
theorem ok_lawB {st : Stmt} {f : Addr} {fd : FuncData} {N : List Str} {k : Nat} {body : SM} {tl : List Int} (F : FnP K "law" st [] f fd) (S : FnScope N ["script"] (defScope st)) (hn : 2 ≤ N.length) (hst : (defBody st).isEmpty = false)
    (h0 : ∀ (cdv : Value) (A : Around) (outer : List PySem.Env) (s : Shared) (H : Hp) (E : XK), Room k (A.deeper (envOfC "law" (defScope st) s.heap.objs.size f cdv)) → PS (cxOf (L2.CX P w) P w K mg base N "law" (defScope st) f cdv A outer s H E) ((defBody st).headD (.Pass ⟨0, 0, 0, 0⟩)) (tFirst K tl))
    (hb : ∀ (cdv : Value) (A : Around) (outer : List PySem.Env) (s : Shared) (H : Hp) (E : XK), Room k (A.deeper (envOfC "law" (defScope st) s.heap.objs.size f cdv)) →
      Takes (cxOf (L2.CX P w) P w K mg base N "law" (defScope st) f cdv A outer s H E) (fun c d _ H => E c d H) →
      PassesOwn (model P w) (A.deeper (envOfC "law" (defScope st) s.heap.objs.size f cdv)) (envOfC "law" (defScope st) s.heap.objs.size f cdv) (cxOf (L2.CX P w) P w K mg base N "law" (defScope st) f cdv A outer s H E).xe →
      ∃ ts, PDB (cxOf (L2.CX P w) P w K mg base N "law" (defScope st) f cdv A outer s H E) (fun c d _ H => E c d H) (defBody st).tail ts body) :
    FnOk P w K mg base (L2.CX P w) (k + 1) f fd ["script"] (spLaw K fun ns => ∃ δ', body (envL N.length ns tl) = .ok (.rt (.val (.bool true))) δ') := by
  refine F.ok S (fun vs H Q E h => ?_) (fun cdv A outer s H vs Q E hr h => ?_)
  · obtain ⟨a, ns, rfl, _⟩ := h; rfl
  · obtain ⟨a, ns, rfl, hS, ⟨δ', eb⟩, q⟩ := h
    obtain ⟨ts, hd⟩ := hb cdv A outer s H E hr (takes_of rfl rfl rfl rfl) (passes_of rfl)
    have hc : defBody st = (defBody st).headD (.Pass ⟨0, 0, 0, 0⟩) :: (defBody st).tail := by
      cases e : defBody st with
      | nil => rw [e] at hst; cases hst
      | cons a r => rfl
    rw [hc]
    refine ⟨_, pss_cons (h0 cdv A outer s H E hr) hd.ps, a, ns, rfl, hS, fun l p hl hp => ?_⟩
    refine hd.ds _ _ _ _ _ _ (J.law (K := K) (a := a) (tl := tl) hl hp hn) ?_
    rw [eb]
    exact fun S' H' σ' v I' g rv => by
      have e : v = .bl true := by
        cases rv with
        | bl => rfl
        | dic _ _ _ z => cases z
      subst e
      exact q H'
/-- store = _law_start(script) -/
theorem ps_startC {X : Cx} {x y : Str} {f : Addr} {fd : FuncData} {k kk : Nat} {tl : List Int} {pos' p apos pos spos : Pos} (G : FnOk X.prog X.w X.K X.mg X.base (L2.CX X.prog X.w) k f fd ["script"] (spStart X.K tl)) (hm : X.mg x = some (.ref f)) (kp : PySem.W.keepIn X.K (.ref f) = true) (hbn : Binds X.K fd ["script"] []) (hr : Room kk X.A) (nd : X.N.Nodup)
    (h0 : PE X (.Name "script" apos) (tVar 0)) (hx : Passes (L2.CX X.prog X.w) X (fun _ _ _ => False)) (hk : k ≤ kk := by decide) (hg : Gl X x := by rfl) (hdb : (x == ("__debug__" : Str)) = false := by decide) (hi : X.N[1]? = some y := by rfl) (hy : Loc X.env.scope y := by first | exact Or.inl rfl | exact Or.inr rfl)
    (he : starEach [.Name "script" apos] X.env = (false, eval (.Name "script" apos) X.env) :: starEach [] X.env := by rfl) (hpl : (backTo pos (starEach ([] : List Expr) X.env)).any (·.1) = false := by rfl)
    (hs : swapsWith (.Call (.Name x p) [.Name "script" apos] [] pos) (some (.Name y pos')) spos.line X.env = pure false := by rfl) (hf : X.fn y = true ∨ X.env.scope.names.lookup y = some .local := by first | exact .inl rfl | exact .inr rfl) :
    PS X (.Assign [.Name y pos'] (.Call (.Name x p) [.Name "script" apos] [] pos) spos) (tFirst X.K tl) := by
  have h := ps_set (X := X) (i := 1) (x := y) (pos := spos) (pos' := pos') nd hi hy (pe_call (E := fun _ _ _ => False) G (hr.mono hk) hg hm kp hbn .nil hx (pa_cons h0 pa_nil he) hdb he hpl) hs hf
  refine ⟨fun pins s σ H Dz I ⟨a, ns, e0, hS, q⟩ => h.run pins s σ H Dz I ?_⟩
  exact ⟨.ref a, e0, a, ns, rfl, hS, fun l p hl hp => q l p hl hp⟩
/-- store = [list(script), ..] -/
theorem ps_startL {X : Cx} {y : Str} {tl : List Int} {e : Expr} {pos' pos : Pos} (nd : X.N.Nodup) (hl : tl.length ≤ 1000) (he : PE X e (tStart X.K tl)) (hi : X.N[1]? = some y := by rfl) (hy : Loc X.env.scope y := by first | exact Or.inl rfl | exact Or.inr rfl)
    (hs : swapsWith e (some (.Name y pos')) pos.line X.env = pure false := by rfl) (hf : X.fn y = true ∨ X.env.scope.names.lookup y = some .local := by first | exact .inl rfl | exact .inr rfl) :
    PS X (.Assign [.Name y pos'] e pos) (tFirst X.K tl) := by
  have h := ps_set (X := X) (i := 1) (x := y) (pos := pos) (pos' := pos') nd hi hy he hs hf
  refine ⟨fun pins s σ H Dz I ⟨a, ns, e0, hS, q⟩ => h.run pins s σ H Dz I ?_⟩
  exact tStart_run (Q := fun x H1 => gName 1 x σ H1 Dz.nx) e0 hS hl fun l p hl hp => q l p hl hp
end
/-! ### the head's facts -/
section
variable {K : PySem.W.Frag} {h : Heap} {mg : Str → Option Value}
open He in
def excCB (K : PySem.W.Frag) (D : Addr) : Bool := eqO (PySem.W.findIn K (.ref D) "__getattribute__") (some (some (.builtin "BaseException.__getattribute__"))) && (eqO (PySem.W.findIn K (.ref D) "__getattr__") (some none) && (decide (PySem.W.subIn K (.ref D) (.type "BaseException") = some true) && (PySem.W.hasDictIn K D && (eqO (PySem.W.findIn K (.ref D) "__class__") (some (some (.builtin "object.__class__"))) &&
  (eqO (PySem.W.specialIn K (.builtin "object.__class__") "__get__") (some (some (.builtin "getset_descriptor.__get__"))) && (decide (PySem.W.takesIn K (.builtin "object.__class__") = some true) && decide (PySem.W.mroIn K D (.type "object") = some true)))))))
theorem excCB_ok {D : Addr} (c : excCB K D = true) : ExcC K D := by
  obtain ⟨c1, c⟩ := He.ba c
  obtain ⟨c2, c⟩ := He.ba c
  obtain ⟨c3, c⟩ := He.ba c
  obtain ⟨c4, c⟩ := He.ba c
  obtain ⟨c5, c⟩ := He.ba c
  obtain ⟨c6, c⟩ := He.ba c
  obtain ⟨c7, c8⟩ := He.ba c
  exact ⟨He.eqO_ok c1, He.eqO_ok c2, of_decide_eq_true c3, c4, He.eqO_ok c5, He.eqO_ok c6, of_decide_eq_true c7, of_decide_eq_true c8⟩
/-- the class y, for each of the raised classes whether it is of y -/
def clzNB (K : PySem.W.Frag) (y : Str) (rs : List (Str × Bool)) : Bool := rs.all fun r => excCB K (He.ga K r.1) && decide (PySem.W.kitOne K (.ref (He.ga K r.1)) (.ref (He.ga K y)) = some r.2)
def clzB (K : PySem.W.Frag) (y : Str) (rs : List (Str × Bool)) : Bool := rs.all fun r => decide (PySem.W.exmOne K (.ref (He.ga K r.1)) (.ref (He.ga K y)) = some r.2)
theorem lookup_memS {β : Type} {x : Str} {b : β} : ∀ {l : List (Str × β)}, l.lookup x = some b → (x, b) ∈ l
  | [], h => by cases h
  | (y, c) :: r, h => by
    rw [List.lookup_cons] at h
    cases q : (x == y) with
    | true =>
      rw [q] at h
      cases h
      rw [beq_iff_eq.mp q]
      exact List.mem_cons_self
    | false =>
      rw [q] at h
      exact List.mem_cons_of_mem _ (lookup_memS h)
theorem clzN_ok {y : Str} {rs : List (Str × Bool)} (c : clzNB K y rs = true) (gy : mg y = some (.ref (He.ga K y))) (g : ∀ r ∈ rs, mg r.1 = some (.ref (He.ga K r.1))) : ClzN K mg y (fun x => rs.lookup x) :=
  ⟨_, gy, fun x b e => by
    have m := lookup_memS e
    obtain ⟨c1, c2⟩ := He.ba (List.all_eq_true.mp c _ m)
    exact ⟨_, g _ m, excCB_ok c1, of_decide_eq_true c2⟩⟩
theorem clz_ok {y : Str} {rs : List (Str × Bool)} (c : clzB K y rs = true) (gy : mg y = some (.ref (He.ga K y))) (g : ∀ r ∈ rs, mg r.1 = some (.ref (He.ga K r.1))) : Clz K mg y (fun x => rs.lookup x) :=
  ⟨_, gy, fun x b e => by
    have m := lookup_memS e
    exact ⟨_, g _ m, of_decide_eq_true (List.all_eq_true.mp c _ m)⟩⟩
theorem er_ok {x : Str} (X : K.In h) (G : h.Ns mainGlobals mg) (c0 : (He.Fa.glo x).ok K = true) (c : (He.Fa.exc x).ok K = true) : Er K mg x (He.ga K x) := by
  obtain ⟨c1, c2, c3, c4⟩ := He.exc_ok c
  exact ⟨He.glo_ok X G c0, c1, c2, c3, c4⟩
variable {P : Program} {w : World} {base : Heap}
/-- a def with defaults, all arguments written -/
theorem df_all {x : Str} {st : Stmt} {dvs : List V} {f : Addr} {fd : FuncData} {ps : List Str} {k n : Nat} {F : Fn} (hF : FnP K x st dvs f fd) (ok : FnOk P w K mg base (L2.CX P w) k f fd ps (spD mg n F)) (hm : mg x = some (.ref f)) (hd : dvs ≠ [])
    (h : ∀ (T : Addr) (kV doc pm : Value) (an : Option Addr) (cdv ct : Value) (us its : List Value), us.length = ps.length → its.length = dvs.length →
      ∃ k, bindArgs (PySem.W.fnOf x x (defArgs st) (defBody st) (defScope st) (.ref T) kV doc pm an cdv ct) ⟨us, []⟩ = seqItems? (.ref T) >>= k ∧ k (some its.toArray) = pure (ps.zip us)) : Df P w K mg base x k n F := by
  obtain ⟨ds, v, b⟩ := hF.binds1 ps.length dvs.length hd (by rw [Nat.sub_self]; rfl) fun T kV doc pm an cdv ct us its h1 h2 => by
    obtain ⟨k, e1, e2⟩ := h T kV doc pm an cdv ct us its h1 h2
    refine ⟨k, e1, ?_⟩
    rw [e2, List.drop_of_length_le (Nat.le_of_eq h2), List.append_nil]
  rw [List.drop_length] at v
  cases v
  exact ⟨f, fd, ps, ok, hm, hF.kp, b⟩
/-- n arguments written, the defaults behind the first j fill up -/
theorem df_dfl {x : Str} {st : Stmt} {dds : List D} {f : Addr} {fd : FuncData} {ps : List Str} {k n : Nat} {F : Fn} (m j : Nat) (hF : FnP K x st (dds.map vD) f fd) (ok : FnOk P w K mg base (L2.CX P w) k f fd ps (spD mg n F)) (hm : mg x = some (.ref f)) (hd : dds.map vD ≠ [])
    (hfl : (dds.drop j).all flatD = true) (hn : m + ((dds.map vD).length - j) = ps.length)
    (h : ∀ (T : Addr) (kV doc pm : Value) (an : Option Addr) (cdv ct : Value) (us its : List Value), us.length = m → its.length = (dds.map vD).length →
      ∃ k, bindArgs (PySem.W.fnOf x x (defArgs st) (defBody st) (defScope st) (.ref T) kV doc pm an cdv ct) ⟨us, []⟩ = seqItems? (.ref T) >>= k ∧ k (some its.toArray) = pure (ps.zip (us ++ its.drop j))) : DfD P w K mg base x k n F (dds.drop j) := by
  obtain ⟨ds, v, b⟩ := hF.binds1 m j hd hn h
  rw [← List.map_drop] at v
  exact ⟨⟨f, fd, ps, ds, ok, hm, hF.kp, b, v⟩, hfl⟩
theorem pass_no {X : Cx} : Passes (L2.CX X.prog X.w) X (fun _ _ _ => False) := fun _ _ _ _ _ _ _ h => by
  obtain ⟨_, _, _, _, _, _, _, _, _, _, _, _, z⟩ := h
  exact z.elim
theorem CX_no {w : World} {P : Program} (H : Hp) (s : Shared) (e : Value) (s' : Shared) (h : L2.CX P w [] H s (fun _ _ _ => False) e s') : False := by
  obtain ⟨_, _, _, _, _, _, _, _, _, _, _, _, z⟩ := h
  exact z
end
/-- the law's end over facts, an error's form hangs on the world -/
theorem walkW {ol : PySem.W.OpenLaw} {most lev : Nat} {vw : Program} {ls : List Str} {XQ : (Str → Option Value) → Heap → Prop} {YQ : World → Heap → Prop} {dr : DefRec} {par : Str}
    (e1 : ol.most = some most) (e2 : most ≤ sizeLine) (e3 : dr.params.defaults = []) (room : Room lev callerA)
    (give : ∀ (w : World) (mg : Str → Option Value) (ad : Addr) (hp : Heap), YQ w hp → hp.Ns mainGlobals mg → mg dr.name = some (.ref ad) → ∃ (K : PySem.W.Frag) (fd : FuncData) (sp : Sp), K.In hp ∧ (∀ (s : Shared) (u : Value), BindsTo s fd ⟨[u], []⟩ [(par, u)]) ∧
      (∀ (H : Hp) (a : Addr) (ns : List Int), ns.length ≤ most → SqL K H a (ns.map V.int) → sp [.ref a] H (fun v _ => v = .bl true) fun _ _ _ => False) ∧ ∀ base : Heap, K.In base → base.Ns mainGlobals mg → FnOk ol.prog w K mg base (L2.CX ol.prog w) lev ad fd [par] sp) :
    PySem.W.WalkO vw ls XQ YQ ol.row.toRowW dr [] (fun f vs => PySem.call f vs) := by
  refine Att.attach_call e1 e3 fun w u0 u1 mg mb ad o pm cd doc a vs ns G Y h1 h2 h3 h4 h5 h6 h7 h8 => ?_
  obtain ⟨K, fd, sp, kin, bd, prom, ok⟩ := give w mg ad _ Y G.T.g h4
  exact law_call kin G.T.g G.T.b G.T.builtins G.T.nolimit h8 h5 h6 (Nat.le_trans h7 e2) room ok bd (fun H _ hS => prom H a ns h7 hS) fun H e s' z => CX_no H u1 e s' z
end DW

set_option Elab.async false
set_option linter.all false
set_option maxRecDepth 100000
set_option maxHeartbeats 2000000
namespace K61
open PySem PySem.Spec PyProof.Rows L2 DW
def top (i : Nat) : Stmt := PySem.Challenge.pw_everyshift_k61_readings_turned_and_joine.main.body.getD i (.Pass ⟨0,0,0,0⟩)
def isA_BadCell : Str → Option Bool := fun x => ([("BadNumber", false)] : List (Str × Bool)).lookup x
def isA_BadNumber : Str → Option Bool := fun x => ([("BadNumber", true)] : List (Str × Bool)).lookup x
def isA_BadRows : Str → Option Bool := fun x => ([("BadNumber", false)] : List (Str × Bool)).lookup x
def isA_ShiftError : Str → Option Bool := fun x => ([("BadNumber", true)] : List (Str × Bool)).lookup x
def isA_TooLong : Str → Option Bool := fun x => ([("BadNumber", false)] : List (Str × Bool)).lookup x
structure Tx (K : PySem.W.Frag) (mg : Str → Option Value) : Type where
  b_abs : mg "abs" = none
  b_all : mg "all" = none
  b_bool : mg "bool" = none
  b_dict : mg "dict" = none
  b_int : mg "int" = none
  b_isinstance : mg "isinstance" = none
  b_len : mg "len" = none
  b_list : mg "list" = none
  b_max : mg "max" = none
  b_min : mg "min" = none
  b_range : mg "range" = none
  b_sorted : mg "sorted" = none
  b_str : mg "str" = none
  b_tuple : mg "tuple" = none
  z_BadNumber : Clz K mg "BadNumber" isA_BadNumber
  z_ShiftError : Clz K mg "ShiftError" isA_ShiftError
  zn_BadCell : ClzN K mg "BadCell" isA_BadCell
  zn_BadRows : ClzN K mg "BadRows" isA_BadRows
  zn_TooLong : ClzN K mg "TooLong" isA_TooLong
  t_CIRCLE : Tok
  c_CIRCLE : mg "CIRCLE" = some (.int 1000000 t_CIRCLE)
  t_LARGEST : Tok
  c_LARGEST : mg "LARGEST" = some (.int 100000000 t_LARGEST)
  t_MANY : Tok
  c_MANY : mg "MANY" = some (.int 400 t_MANY)
  t_MOST : Tok
  c_MOST : mg "MOST" = some (.int 1000000000000000000000000000000000000000000000000000000000000 t_MOST)
  C_BadNumber : Addr
  e_BadNumber : Er K mg "BadNumber" C_BadNumber
section
variable {P : Program} {w : World} {K : PySem.W.Frag} {mg : Str → Option Value} {base : Heap}
abbrev s_is_whole : Stmt := top 9
def F_is_whole : Fn := fnOf 1 (
    sRet (eAnd (eIsi ["int"] (eVar 0)) (eNot (eIsi ["bool"] (eVar 0)))))
theorem sc_is_whole : FnScope ["value"] ["value"] (defScope s_is_whole) := ⟨rfl, rfl, rfl, by decide +kernel, rfl, by decide +kernel, by decide +kernel⟩
theorem ok_is_whole (T : Tx K mg)  {dvs : List V} {f : Addr} {fd : FuncData} (F : FnP K "is_whole" s_is_whole dvs f fd) : FnOk P w K mg base (L2.CX P w) 1 f fd ["value"] (spD mg 1 F_is_whole) := by
  have nd := sc_is_whole.nd
  exact fn_okB F sc_is_whole fun cdv A outer s H E hr tk po => ⟨_, bl_one (st_ret (pd_and (pd_isi1 T.b_isinstance ty_int (pd_v 0) (pe_tyN T.b_int boot_int')) (pd_one (pd_not (pd_isi1 T.b_isinstance ty_bool (pd_v 0) (pe_tyN T.b_bool boot_bool'))))))⟩
abbrev s_subtracted : Stmt := top 23
def B_subtracted_1 : SM :=
    sSeq (sAsgV 6 (eOp dMod (eOp dAdd (eVar 4) (eVar 1)) (eVar 2)))
    (sDput 3 (eOp dSub (eGet2 (eVar 3) (eVar 6) (eC (.int 0))) (eVar 5)) (eVar 6))
def F_subtracted : Fn := fnOf 7 (
    sSeq (sAsg 3 (eB (b1 nDict) (aCons (eVar 0) (aNil))))
    (sSeq (sLock 0 (sFor (iDi 0) (gT 2 (gsCons (gN 4) (gsCons (gN 5) (gsNil)))) B_subtracted_1))
    (sFrz 3 (sRet (eLock 3 (eDc (iDi 3) (gT 2 (gsCons (gN 4) (gsCons (gN 5) (gsNil)))) (tB' (eOp dNe (eVar 5) (eC (.int 0)))) (eVar 4) (eVar 5) [4, 5]))))))
theorem sc_subtracted : FnScope ["left", "shift", "order", "told", "place", "amount", "goal"] ["left", "shift", "order"] (defScope s_subtracted) := ⟨rfl, rfl, rfl, by decide +kernel, rfl, by decide +kernel, by decide +kernel⟩
theorem ok_subtracted (T : Tx K mg)  {dvs : List V} {f : Addr} {fd : FuncData} (F : FnP K "subtracted" s_subtracted dvs f fd) : FnOk P w K mg base (L2.CX P w) 1 f fd ["left", "shift", "order"] (spD mg 3 F_subtracted) := by
  have nd := sc_subtracted.nd
  exact fn_okB F sc_subtracted fun cdv A outer s H E hr tk po => ⟨_, bl_cons (st_set 3 nd (pd_dict T.b_dict (pda_cons (pd_v 0) (pda_nil))))
    (bl_cons (st_forI po 0 (pd_v 0) (tg_tup (tgs_cons (tg_n 4 nd) (tgs_cons (tg_n 5 nd) (tgs_nil)))) (bl_cons (st_setV 6 nd (pd_mod (pd_add (pd_v 4) (pd_v 1)) (pd_v 2)))
    (bl_one (st_dput hr 3 (pd_sub (pd_dget2 hr (pd_v 3) (pd_v 6) (pd_int)) (pd_v 5)) (pd_v 6)))))
    (bl_one (st_frz 3 (st_ret (pd_dcI 3 [("place", 4), ("amount", 5)] nd (pd_v 3) rfl (fun _ _ _ _ _ => ⟨_, ti_tup (tis_cons (ti_n 4 nd) (tis_cons (ti_n 5 nd) (tis_nil)))⟩) (fun _ _ _ _ _ => ⟨_, te_one (pt_ne hr (pd_v 5) (pd_int))⟩) (fun _ _ _ _ _ => ⟨_, pd_v 4⟩) (fun _ _ _ _ _ => ⟨_, pd_v 5⟩))))))⟩
abbrev s_l_start : Stmt := top 25
def F_l_start : Fn := fnOf 1 (
    sRet (eLst (aCons (eB (b1 nList) (aCons (eVar 0) (aNil))) (aCons (eC (.int 0)) (aCons (eC (.int 0)) (aCons (eC (.int 0)) (aCons (eC (.int 7)) (aCons (eC (.int 0)) (aNil)))))))))
theorem sc_l_start : FnScope ["script"] ["script"] (defScope s_l_start) := ⟨rfl, rfl, rfl, by decide +kernel, rfl, by decide +kernel, by decide +kernel⟩
theorem ok_l_start (T : Tx K mg)  {dvs : List V} {f : Addr} {fd : FuncData} (F : FnP K "_law_start" s_l_start dvs f fd) : FnOk P w K mg base (L2.CX P w) 1 f fd ["script"] (spD mg 1 F_l_start) := by
  have nd := sc_l_start.nd
  exact fn_okB F sc_l_start fun cdv A outer s H E hr tk po => ⟨_, bl_one (st_ret (pd_lst (pda_cons (pd_list_ T.b_list (pda_cons (pd_v 0) (pda_nil))) (pda_cons (pd_int) (pda_cons (pd_int) (pda_cons (pd_int) (pda_cons (pd_int) (pda_cons (pd_int) (pda_nil)))))))))⟩
abbrev s_l_mixed : Stmt := top 26
def F_l_mixed : Fn := fnOf 5 (
    sSeq (sAsgV 2 (eC (.int 2305843009213693951)))
    (sSeq (sAsgV 3 (eOp dMod (eB (b1 nInt) (aCons (eOp dAdd (eOp dAdd (eOp dMul (eVar 0) (eC (.int 6364136223846793005))) (eOp dMul (eVar 1) (eC (.int 1442695040888963407)))) (eC (.int 1013904223))) (aNil))) (eVar 2)))
    (sSeq (sAsgV 4 (eOp dMod (eB (b1 nInt) (aCons (eOp dAdd (eOp dAdd (eOp dMul (eOp dDiv (eVar 3) (eC (.int 1048576))) (eC (.int 2862933555777941757))) (eOp dMul (eVar 3) (eVar 3))) (eOp dMul (eVar 1) (eC (.int 3037000493)))) (aNil))) (eC (.int 1000000000000000003))))
    (sRet (eOp dDiv (eVar 4) (eC (.int 1000)))))))
theorem sc_l_mixed : FnScope ["state", "turn", "wide", "once", "twice"] ["state", "turn"] (defScope s_l_mixed) := ⟨rfl, rfl, rfl, by decide +kernel, rfl, by decide +kernel, by decide +kernel⟩
theorem ok_l_mixed (T : Tx K mg)  {dvs : List V} {f : Addr} {fd : FuncData} (F : FnP K "_law_mixed" s_l_mixed dvs f fd) : FnOk P w K mg base (L2.CX P w) 1 f fd ["state", "turn"] (spD mg 2 F_l_mixed) := by
  have nd := sc_l_mixed.nd
  exact fn_okB F sc_l_mixed fun cdv A outer s H E hr tk po => ⟨_, bl_cons (st_setV 2 nd (pd_int))
    (bl_cons (st_setV 3 nd (pd_mod (pd_int_ T.b_int (pda_cons (pd_add (pd_add (pd_mul (pd_v 0) (pd_int)) (pd_mul (pd_v 1) (pd_int))) (pd_int)) (pda_nil))) (pd_v 2)))
    (bl_cons (st_setV 4 nd (pd_mod (pd_int_ T.b_int (pda_cons (pd_add (pd_add (pd_mul (pd_div (pd_v 3) (pd_int)) (pd_int)) (pd_mul (pd_v 3) (pd_v 3))) (pd_mul (pd_v 1) (pd_int))) (pda_nil))) (pd_int)))
    (bl_one (st_ret (pd_div (pd_v 4) (pd_int))))))⟩
abbrev s_l_gcd : Stmt := top 33
def B_l_gcd_1 : SM :=
    sPar 0 1 (aCons (eVar 1) (aCons (eOp dMod (eB (b1 nInt) (aCons (eVar 0) (aNil))) (eVar 1)) (aNil)))
def F_l_gcd : Fn := fnOf 2 (
    sSeq (sWhile (tB' (eOp dNe (eVar 1) (eC (.int 0)))) B_l_gcd_1)
    (sRet (eB (b1 nAbs) (aCons (eVar 0) (aNil)))))
theorem sc_l_gcd : FnScope ["one", "two"] ["one", "two"] (defScope s_l_gcd) := ⟨rfl, rfl, rfl, by decide +kernel, rfl, by decide +kernel, by decide +kernel⟩
theorem ok_l_gcd (T : Tx K mg)  {dvs : List V} {f : Addr} {fd : FuncData} (F : FnP K "_law_gcd" s_l_gcd dvs f fd) : FnOk P w K mg base (L2.CX P w) 1 f fd ["one", "two"] (spD mg 2 F_l_gcd) := by
  have nd := sc_l_gcd.nd
  exact fn_okB F sc_l_gcd fun cdv A outer s H E hr tk po => ⟨_, bl_cons (st_while po (pt_ne hr (pd_v 1) (pd_int)) (bl_one (st_par 0 1 nd (pda_cons (pd_v 1) (pda_cons (pd_mod (pd_int_ T.b_int (pda_cons (pd_v 0) (pda_nil))) (pd_v 1)) (pda_nil))))))
    (bl_one (st_ret (pd_abs T.b_abs (pda_cons (pd_v 0) (pda_nil)))))⟩
abbrev s_l_primes_of : Stmt := top 34
def B_l_primes_of_1 : SM :=
    sSeq (sIf (tB' (eOp dNe (eOp dMod (eB (b1 nInt) (aCons (eVar 0) (aNil))) (eVar 2)) (eC (.int 0)))) (sBrk) (sNil))
    (sSeq (sExpr (mMut 1 pAppend (aCons (eVar 2) (aNil))))
    (sAsgV 0 (eOp dDiv (eVar 0) (eVar 2))))
def B_l_primes_of_2 : SM :=
    sSeq (sIf (tB' (eOp dGt (eOp dMul (eVar 2) (eVar 2)) (eVar 0))) (sBrk) (sNil))
    (sFor (iRg (aCons (eC (.int 28)) (aNil))) (gN 3) B_l_primes_of_1)
def F_l_primes_of : Fn := fnOf 4 (
    sSeq (sAsg 1 (eLst (aNil)))
    (sSeq (sFor (iRg2 (aCons (eC (.int 2)) (aCons (eC (.int 10002)) (aNil)))) (gN 2) B_l_primes_of_2)
    (sSeq (sIf (tB' (eOp dGt (eVar 0) (eC (.int 1)))) (sExpr (mMut 1 pAppend (aCons (eVar 0) (aNil)))) (sNil))
    (sRet (eVar 1)))))
theorem sc_l_primes_of : FnScope ["number", "found", "trial", "turn"] ["number"] (defScope s_l_primes_of) := ⟨rfl, rfl, rfl, by decide +kernel, rfl, by decide +kernel, by decide +kernel⟩
theorem ok_l_primes_of (T : Tx K mg)  {dvs : List V} {f : Addr} {fd : FuncData} (F : FnP K "_law_primes_of" s_l_primes_of dvs f fd) : FnOk P w K mg base (L2.CX P w) 1 f fd ["number"] (spD mg 1 F_l_primes_of) := by
  have nd := sc_l_primes_of.nd
  exact fn_okB F sc_l_primes_of fun cdv A outer s H E hr tk po => ⟨_, bl_cons (st_set 1 nd (pd_lst (pda_nil)))
    (bl_cons (st_for po (it_rg2 T.b_range (pda_cons (pd_int) (pda_cons (pd_int) (pda_nil)))) (tg_n 2 nd) (bl_cons (st_if (pt_gt (pd_mul (pd_v 2) (pd_v 2)) (pd_v 0)) (bl_one (st_brk)) (bl_nil))
    (bl_one (st_for po (it_rg1 T.b_range (pda_cons (pd_int) (pda_nil))) (tg_n 3 nd) (bl_cons (st_if (pt_ne hr (pd_mod (pd_int_ T.b_int (pda_cons (pd_v 0) (pda_nil))) (pd_v 2)) (pd_int)) (bl_one (st_brk)) (bl_nil))
    (bl_cons (st_expr (pd_append 1 (pv 1) (pda_cons (pd_v 2) (pda_nil))))
    (bl_one (st_setV 0 nd (pd_div (pd_v 0) (pd_v 2))))))))))
    (bl_cons (st_if (pt_gt (pd_v 0) (pd_int)) (bl_one (st_expr (pd_append 1 (pv 1) (pda_cons (pd_v 0) (pda_nil))))) (bl_nil))
    (bl_one (st_ret (pd_v 1)))))⟩
abbrev s_l_joined_left : Stmt := top 42
def B_l_joined_left_1 : SM :=
    sDput 2 (eOp dAdd (eGet2 (eVar 2) (eOp dIx (eVar 3) (eC (.int 0))) (eC (.int 0))) (eOp dIx (eVar 3) (eC (.int 1)))) (eOp dIx (eVar 3) (eC (.int 0)))
def F_l_joined_left : Fn := fnOf 5 (
    sSeq (sAsg 2 (eDnew))
    (sSeq (sFor (iSq (eOp dAdd (eVar 0) (eVar 1))) (gN 3) B_l_joined_left_1)
    (sFrz 2 (sRet (eB (b1 nSortedX) (aCons (eLock 2 (eLc (iDk 2) (gN 4) (tB' (eOp dNe (eDix (eVar 2) (eVar 4)) (eC (.int 0)))) (eTup (aCons (eVar 4) (aCons (eDix (eVar 2) (eVar 4)) (aNil)))) [4])) (aNil)))))))
theorem sc_l_joined_left : FnScope ["one", "two", "found", "pair", "at"] ["one", "two"] (defScope s_l_joined_left) := ⟨rfl, rfl, rfl, by decide +kernel, rfl, by decide +kernel, by decide +kernel⟩
theorem ok_l_joined_left (T : Tx K mg)  {dvs : List V} {f : Addr} {fd : FuncData} (F : FnP K "_law_joined_left" s_l_joined_left dvs f fd) : FnOk P w K mg base (L2.CX P w) 1 f fd ["one", "two"] (spD mg 2 F_l_joined_left) := by
  have nd := sc_l_joined_left.nd
  exact fn_okB F sc_l_joined_left fun cdv A outer s H E hr tk po => ⟨_, bl_cons (st_set 2 nd (pd_dnew))
    (bl_cons (st_for po (it_seq (pd_add (pd_v 0) (pd_v 1))) (tg_n 3 nd) (bl_one (st_dput hr 2 (pd_add (pd_dget2 hr (pd_v 2) (pd_ix (pd_v 3) (pd_int)) (pd_int)) (pd_ix (pd_v 3) (pd_int))) (pd_ix (pd_v 3) (pd_int)))))
    (bl_one (st_frz 2 (st_ret (pd_sortedX T.b_sorted (pda_cons (pd_lcK 2 [("at", 4)] nd ((pd_v 2)) rfl (fun _ _ _ _ _ => ⟨_, ti_n 4 nd⟩) (fun _ _ _ _ _ => ⟨_, te_one (pt_ne hr (pd_dix hr (pd_v 2) (pd_v 4)) (pd_int))⟩) (fun _ _ _ _ _ => ⟨_, pd_tup (pda_cons (pd_v 4) (pda_cons (pd_dix hr (pd_v 2) (pd_v 4)) (pda_nil)))⟩)) (pda_nil)))))))⟩
abbrev s_is_within : Stmt := top 10
def F_is_within : Fn := fnOf 3 (
    sRet (eAnd (eCallN 1 F_is_whole (aCons (eVar 0) (aNil))) (eChain dLe dLe (eVar 1) (eVar 0) (eVar 2))))
theorem sc_is_within : FnScope ["value", "low", "high"] ["value", "low", "high"] (defScope s_is_within) := ⟨rfl, rfl, rfl, by decide +kernel, rfl, by decide +kernel, by decide +kernel⟩
theorem ok_is_within (T : Tx K mg) (G_is_whole : Df P w K mg base "is_whole" 1 1 F_is_whole) {dvs : List V} {f : Addr} {fd : FuncData} (F : FnP K "is_within" s_is_within dvs f fd) : FnOk P w K mg base (L2.CX P w) 2 f fd ["value", "low", "high"] (spD mg 3 F_is_within) := by
  have nd := sc_is_within.nd
  exact fn_okB F sc_is_within fun cdv A outer s H E hr tk po => ⟨_, bl_one (st_ret (pd_and (pd_call G_is_whole hr tk (pda_cons (pd_v 0) (pda_nil))) (pd_one (DW.pd_chain (c_le) (c_le) (pd_v 1) (pd_v 0) (pd_v 2)))))⟩
abbrev s_l_wide : Stmt := top 27
def B_l_wide_1 : SM :=
    sSeq (sIf (tB' (eOp dGe (eVar 4) (eOp dMul (eVar 2) (eC (.int 1000))))) (sBrk) (sNil))
    (sSeq (sAsgV 3 (eOp dAdd (eOp dMul (eVar 3) (eOp dPow (eC (.int 10)) (eC (.int 15)))) (eCallN 2 F_l_mixed (aCons (eVar 0) (aCons (eOp dAdd (eVar 1) (eOp dMul (eC (.int 1000003)) (eOp dAdd (eVar 5) (eC (.int 1))))) (aNil))))))
    (sAsgV 4 (eOp dMul (eVar 4) (eOp dPow (eC (.int 10)) (eC (.int 15))))))
def F_l_wide : Fn := fnOf 6 (
    sSeq (sAsgV 3 (eCallN 2 F_l_mixed (aCons (eVar 0) (aCons (eVar 1) (aNil)))))
    (sSeq (sAsgV 4 (eOp dPow (eC (.int 10)) (eC (.int 15))))
    (sSeq (sFor (iRg (aCons (eC (.int 40)) (aNil))) (gN 5) B_l_wide_1)
    (sRet (eOp dMod (eB (b1 nInt) (aCons (eVar 3) (aNil))) (eVar 2))))))
theorem sc_l_wide : FnScope ["state", "turn", "many", "drawn", "reach", "k"] ["state", "turn", "many"] (defScope s_l_wide) := ⟨rfl, rfl, rfl, by decide +kernel, rfl, by decide +kernel, by decide +kernel⟩
theorem ok_l_wide (T : Tx K mg) (G_l_mixed : Df P w K mg base "_law_mixed" 1 2 F_l_mixed) {dvs : List V} {f : Addr} {fd : FuncData} (F : FnP K "_law_wide" s_l_wide dvs f fd) : FnOk P w K mg base (L2.CX P w) 2 f fd ["state", "turn", "many"] (spD mg 3 F_l_wide) := by
  have nd := sc_l_wide.nd
  exact fn_okB F sc_l_wide fun cdv A outer s H E hr tk po => ⟨_, bl_cons (st_setV 3 nd (pd_call G_l_mixed hr tk (pda_cons (pd_v 0) (pda_cons (pd_v 1) (pda_nil)))))
    (bl_cons (st_setV 4 nd (pd_pow (pd_int) (pd_int)))
    (bl_cons (st_for po (it_rg1 T.b_range (pda_cons (pd_int) (pda_nil))) (tg_n 5 nd) (bl_cons (st_if (pt_ge (pd_v 4) (pd_mul (pd_v 2) (pd_int))) (bl_one (st_brk)) (bl_nil))
    (bl_cons (st_setV 3 nd (pd_add (pd_mul (pd_v 3) (pd_pow (pd_int) (pd_int))) (pd_call G_l_mixed hr tk (pda_cons (pd_v 0) (pda_cons (pd_add (pd_v 1) (pd_mul (pd_int) (pd_add (pd_v 5) (pd_int)))) (pda_nil))))))
    (bl_one (st_setV 4 nd (pd_mul (pd_v 4) (pd_pow (pd_int) (pd_int))))))))
    (bl_one (st_ret (pd_mod (pd_int_ T.b_int (pda_cons (pd_v 3) (pda_nil))) (pd_v 2))))))⟩
abbrev s_l_move : Stmt := top 28
def F_l_move : Fn := fnOf 2 (
    sSeq (sAsgV 1 (eB (b1 nInt) (aCons (eOp dIx (eOp dIx (eVar 0) (eC (.int 0))) (eOp dIx (eVar 0) (eC (.int 1)))) (aNil))))
    (sSeq (sStore 0 (eCallN 2 F_l_mixed (aCons (eOp dAdd (eOp dIx (eVar 0) (eC (.int 4))) (eOp dMod (eB (b1 nInt) (aCons (eVar 1) (aNil))) (eC (.int 2305843009213693951)))) (aCons (eOp dAdd (eOp dIx (eVar 0) (eC (.int 1))) (eC (.int 7))) (aNil)))) (eC (.int 4)))
    (sSeq (sStore 0 (eOp dAdd (eOp dIx (eVar 0) (eC (.int 1))) (eC (.int 1))) (eC (.int 1)))
    (sIf (DW.orM (tB' (eOp dGe (eVar 1) (eOp dPow (eC (.int 10)) (eC (.int 18))))) (tB' (eOp dLe (eVar 1) (eUn dNeg (eOp dPow (eC (.int 10)) (eC (.int 18))))))) (sStore 0 (eOp dMod (eB (b1 nInt) (aCons (eB (b1 nAbs) (aCons (eVar 1) (aNil))) (aNil))) (eOp dPow (eOp dPow (eC (.int 10)) (eC (.int 60))) (eC (.int 12)))) (eC (.int 2))) (sStore 0 (eC (.int 2)) (eC (.int 3)))))))
theorem sc_l_move : FnScope ["store", "cell"] ["store"] (defScope s_l_move) := ⟨rfl, rfl, rfl, by decide +kernel, rfl, by decide +kernel, by decide +kernel⟩
theorem ok_l_move (T : Tx K mg) (G_l_mixed : Df P w K mg base "_law_mixed" 1 2 F_l_mixed) {dvs : List V} {f : Addr} {fd : FuncData} (F : FnP K "_law_move" s_l_move dvs f fd) : FnOk P w K mg base (L2.CX P w) 2 f fd ["store"] (spD mg 1 F_l_move) := by
  have nd := sc_l_move.nd
  exact fn_okB F sc_l_move fun cdv A outer s H E hr tk po => ⟨_, bl_cons (st_setV 1 nd (pd_int_ T.b_int (pda_cons (pd_ix (pd_ix (pd_v 0) (pd_int)) (pd_ix (pd_v 0) (pd_int))) (pda_nil))))
    (bl_cons (st_store 0 (pd_call G_l_mixed hr tk (pda_cons (pd_add (pd_ix (pd_v 0) (pd_int)) (pd_mod (pd_int_ T.b_int (pda_cons (pd_v 1) (pda_nil))) (pd_int))) (pda_cons (pd_add (pd_ix (pd_v 0) (pd_int)) (pd_int)) (pda_nil)))) (pd_int))
    (bl_cons (st_store 0 (pd_add (pd_ix (pd_v 0) (pd_int)) (pd_int)) (pd_int))
    (bl_one (st_if (PDW.t (DW.pw_or (pt_ge (pd_v 1) (pd_pow (pd_int) (pd_int))) (DW.pw_or1 (pt_le (pd_v 1) (pd_neg (pd_pow (pd_int) (pd_int))))))) (bl_one (st_store 0 (pd_mod (pd_int_ T.b_int (pda_cons (pd_abs T.b_abs (pda_cons (pd_v 1) (pda_nil))) (pda_nil))) (pd_pow (pd_pow (pd_int) (pd_int)) (pd_int))) (pd_int))) (bl_one (st_store 0 (pd_int) (pd_int)))))))⟩
abbrev s_l_primes_once : Stmt := top 35
def B_l_primes_once_1 : SM :=
    sIf (tB' (eOp (dIn true) (eVar 2) (eVar 1))) (sExpr (mMut 1 pAppend (aCons (eVar 2) (aNil)))) (sNil)
def F_l_primes_once : Fn := fnOf 3 (
    sSeq (sAsg 1 (eLst (aNil)))
    (sSeq (sFor (iSq (eCallN 1 F_l_primes_of (aCons (eVar 0) (aNil)))) (gN 2) B_l_primes_once_1)
    (sRet (eVar 1))))
theorem sc_l_primes_once : FnScope ["number", "found", "prime"] ["number"] (defScope s_l_primes_once) := ⟨rfl, rfl, rfl, by decide +kernel, rfl, by decide +kernel, by decide +kernel⟩
theorem ok_l_primes_once (T : Tx K mg) (G_l_primes_of : Df P w K mg base "_law_primes_of" 1 1 F_l_primes_of) {dvs : List V} {f : Addr} {fd : FuncData} (F : FnP K "_law_primes_once" s_l_primes_once dvs f fd) : FnOk P w K mg base (L2.CX P w) 2 f fd ["number"] (spD mg 1 F_l_primes_once) := by
  have nd := sc_l_primes_once.nd
  exact fn_okB F sc_l_primes_once fun cdv A outer s H E hr tk po => ⟨_, bl_cons (st_set 1 nd (pd_lst (pda_nil)))
    (bl_cons (st_for po (it_seq (pd_call G_l_primes_of hr tk (pda_cons (pd_v 0) (pda_nil)))) (tg_n 2 nd) (bl_one (st_if (pt_nin (pd_v 2) (pd_v 1)) (bl_one (st_expr (pd_append 1 (pv 1) (pda_cons (pd_v 2) (pda_nil))))) (bl_nil))))
    (bl_one (st_ret (pd_v 1))))⟩
abbrev s_check_bounds : Stmt := top 11
def F_check_bounds : Fn := fnOf 2 (
    sSeq (sIf (DW.notM (truM (eCallN 3 F_is_within (aCons (eVar 0) (aCons (eUn dNeg (eC (.int (1000000000000000000000000000000000000000000000000000000000000)))) (aCons (eC (.int (1000000000000000000000000000000000000000000000000000000000000))) (aNil))))))) (sRaise "BadNumber") (sNil))
    (sIf (DW.notM (truM (eCallN 3 F_is_within (aCons (eVar 1) (aCons (eUn dNeg (eC (.int (1000000000000000000000000000000000000000000000000000000000000)))) (aCons (eC (.int (1000000000000000000000000000000000000000000000000000000000000))) (aNil))))))) (sRaise "BadNumber") (sNil)))
theorem sc_check_bounds : FnScope ["low", "high"] ["low", "high"] (defScope s_check_bounds) := ⟨rfl, rfl, rfl, by decide +kernel, rfl, by decide +kernel, by decide +kernel⟩
theorem ok_check_bounds (T : Tx K mg) (G_is_within : Df P w K mg base "is_within" 2 3 F_is_within) {dvs : List V} {f : Addr} {fd : FuncData} (F : FnP K "check_bounds" s_check_bounds dvs f fd) : FnOk P w K mg base (L2.CX P w) 3 f fd ["low", "high"] (spD mg 2 F_check_bounds) := by
  have nd := sc_check_bounds.nd
  exact fn_okB F sc_check_bounds fun cdv A outer s H E hr tk po => ⟨_, bl_cons (st_if (DW.pt_not (pt_tru (pd_call G_is_within hr tk (pda_cons (pd_v 0) (pda_cons (pd_neg (pd_gint T.c_MOST)) (pda_cons (pd_gint T.c_MOST) (pda_nil))))))) (bl_one (st_raise tk T.e_BadNumber)) (bl_nil))
    (bl_one (st_if (DW.pt_not (pt_tru (pd_call G_is_within hr tk (pda_cons (pd_v 1) (pda_cons (pd_neg (pd_gint T.c_MOST)) (pda_cons (pd_gint T.c_MOST) (pda_nil))))))) (bl_one (st_raise tk T.e_BadNumber)) (bl_nil)))⟩
abbrev s_l_take : Stmt := top 29
def B_l_take_1 : SM :=
    sSeq (sIf (DW.orM (tB' (eOp dGt (eOp dIx (eVar 0) (eC (.int 2))) (eC (.int 0)))) (DW.orM (tB' (eOp dGt (eOp dIx (eVar 0) (eC (.int 3))) (eC (.int 0)))) (tB' (eOp dGe (eOp dIx (eVar 0) (eC (.int 1))) (eB (b1 nLenX) (aCons (eOp dIx (eVar 0) (eC (.int 0))) (aNil))))))) (sBrk) (sNil))
    (sExpr (eCallN 1 F_l_move (aCons (eVar 0) (aNil))))
def F_l_take : Fn := fnOf 4 (
    sSeq (sIf (tB' (eOp dLt (eVar 1) (eC (.int 2)))) (sRet (eC (.int 0))) (sNil))
    (sSeq (sStore 0 (eOp dAdd (eOp dIx (eVar 0) (eC (.int 5))) (eC (.int 1))) (eC (.int 5)))
    (sSeq (sFor (iRg (aCons (eB (b1 nLenX) (aCons (eOp dIx (eVar 0) (eC (.int 0))) (aNil))) (aNil))) (gN 2) B_l_take_1)
    (sSeq (sIf (tB' (eOp dGt (eOp dIx (eVar 0) (eC (.int 2))) (eC (.int 0)))) (sSeq (sAsgV 3 (eOp dMod (eB (b1 nInt) (aCons (eOp dIx (eVar 0) (eC (.int 2))) (aNil))) (eVar 1)))
    (sSeq (sStore 0 (eOp dDiv (eOp dIx (eVar 0) (eC (.int 2))) (eVar 1)) (eC (.int 2)))
    (sRet (eVar 3)))) (sNil))
    (sSeq (sStore 0 (eB (b2 nMax2) (aCons (eC (.int 0)) (aCons (eOp dSub (eOp dIx (eVar 0) (eC (.int 3))) (eC (.int 1))) (aNil)))) (eC (.int 3)))
    (sRet (eCallN 3 F_l_wide (aCons (eOp dIx (eVar 0) (eC (.int 4))) (aCons (eOp dIx (eVar 0) (eC (.int 5))) (aCons (eVar 1) (aNil)))))))))))
theorem sc_l_take : FnScope ["store", "many", "k", "drawn"] ["store", "many"] (defScope s_l_take) := ⟨rfl, rfl, rfl, by decide +kernel, rfl, by decide +kernel, by decide +kernel⟩
theorem ok_l_take (T : Tx K mg) (G_l_wide : Df P w K mg base "_law_wide" 2 3 F_l_wide) (G_l_move : Df P w K mg base "_law_move" 2 1 F_l_move) {dvs : List V} {f : Addr} {fd : FuncData} (F : FnP K "_law_take" s_l_take dvs f fd) : FnOk P w K mg base (L2.CX P w) 3 f fd ["store", "many"] (spD mg 2 F_l_take) := by
  have nd := sc_l_take.nd
  exact fn_okB F sc_l_take fun cdv A outer s H E hr tk po => ⟨_, bl_cons (st_if (pt_lt (pd_v 1) (pd_int)) (bl_one (st_ret (pd_int))) (bl_nil))
    (bl_cons (st_store 0 (pd_add (pd_ix (pd_v 0) (pd_int)) (pd_int)) (pd_int))
    (bl_cons (st_for po (it_rg1 T.b_range (pda_cons (pd_lenX T.b_len (pda_cons (pd_ix (pd_v 0) (pd_int)) (pda_nil))) (pda_nil))) (tg_n 2 nd) (bl_cons (st_if (PDW.t (DW.pw_or (pt_gt (pd_ix (pd_v 0) (pd_int)) (pd_int)) (DW.pw_or (pt_gt (pd_ix (pd_v 0) (pd_int)) (pd_int)) (DW.pw_or1 (pt_ge (pd_ix (pd_v 0) (pd_int)) (pd_lenX T.b_len (pda_cons (pd_ix (pd_v 0) (pd_int)) (pda_nil)))))))) (bl_one (st_brk)) (bl_nil))
    (bl_one (st_expr (pd_call G_l_move hr tk (pda_cons (pd_v 0) (pda_nil)))))))
    (bl_cons (st_if (pt_gt (pd_ix (pd_v 0) (pd_int)) (pd_int)) (bl_cons (st_setV 3 nd (pd_mod (pd_int_ T.b_int (pda_cons (pd_ix (pd_v 0) (pd_int)) (pda_nil))) (pd_v 1)))
    (bl_cons (st_store 0 (pd_div (pd_ix (pd_v 0) (pd_int)) (pd_v 1)) (pd_int))
    (bl_one (st_ret (pd_v 3))))) (bl_nil))
    (bl_cons (st_store 0 (pd_max2 T.b_max (pda_cons (pd_int) (pda_cons (pd_sub (pd_ix (pd_v 0) (pd_int)) (pd_int)) (pda_nil)))) (pd_int))
    (bl_one (st_ret (pd_call G_l_wide hr tk (pda_cons (pd_ix (pd_v 0) (pd_int)) (pda_cons (pd_ix (pd_v 0) (pd_int)) (pda_cons (pd_v 1) (pda_nil)))))))))))⟩
abbrev s_l_left : Stmt := top 41
def B_l_left_1 : SM :=
    sSeq (sAsgV 9 (eOp dMod (eB (b1 nInt) (aCons (eOp dAdd (eOp dIx (eVar 8) (eC (.int 0))) (eOp dDiv (eVar 1) (eVar 5))) (aNil))) (eVar 1)))
    (sSeq (sDput 7 (eOp dAdd (eGet2 (eVar 7) (eOp dIx (eVar 8) (eC (.int 0))) (eC (.int 0))) (eOp dIx (eVar 8) (eC (.int 1)))) (eOp dIx (eVar 8) (eC (.int 0))))
    (sDput 7 (eOp dSub (eGet2 (eVar 7) (eVar 9) (eC (.int 0))) (eOp dIx (eVar 8) (eC (.int 1)))) (eVar 9)))
def B_l_left_2 : SM :=
    sSeq (sAsg 7 (eDnew))
    (sSeq (sFor (iSq (eVar 4)) (gN 8) B_l_left_1)
    (sFrz 7 (sAsgV 4 (eB (b1 nSortedX) (aCons (eLock 7 (eLc (iDk 7) (gN 6) (tB' (eOp dNe (eDix (eVar 7) (eVar 6)) (eC (.int 0)))) (eTup (aCons (eVar 6) (aCons (eDix (eVar 7) (eVar 6)) (aNil)))) [6])) (aNil))))))
def B_l_left_3 : SM :=
    sSeq (sAsgV 6 (eOp dMod (eB (b1 nInt) (aCons (eVar 3) (aNil))) (eVar 1)))
    (sDput 2 (eOp dAdd (eGet2 (eVar 2) (eVar 6) (eC (.int 0))) (eC (.int 1))) (eVar 6))
def F_l_left : Fn := fnOf 10 (
    sSeq (sAsg 2 (eDnew))
    (sSeq (sFor (iSq (eVar 0)) (gN 3) B_l_left_3)
    (sSeq (sFrz 2 (sAsgV 4 (eB (b1 nSortedX) (aCons (eLock 2 (eLc (iDk 2) (gN 6) (tYes') (eTup (aCons (eVar 6) (aCons (eDix (eVar 2) (eVar 6)) (aNil)))) [6])) (aNil)))))
    (sSeq (sFor (iSq (eCallN 1 F_l_primes_once (aCons (eVar 1) (aNil)))) (gN 5) B_l_left_2)
    (sRet (eVar 4))))))
theorem sc_l_left : FnScope ["readings", "order", "found", "x", "left", "p", "at", "table", "pair", "to"] ["readings", "order"] (defScope s_l_left) := ⟨rfl, rfl, rfl, by decide +kernel, rfl, by decide +kernel, by decide +kernel⟩
theorem ok_l_left (T : Tx K mg) (G_l_primes_once : Df P w K mg base "_law_primes_once" 2 1 F_l_primes_once) {dvs : List V} {f : Addr} {fd : FuncData} (F : FnP K "_law_left" s_l_left dvs f fd) : FnOk P w K mg base (L2.CX P w) 3 f fd ["readings", "order"] (spD mg 2 F_l_left) := by
  have nd := sc_l_left.nd
  exact fn_okB F sc_l_left fun cdv A outer s H E hr tk po => ⟨_, bl_cons (st_set 2 nd (pd_dnew))
    (bl_cons (st_for po (it_seq (pd_v 0)) (tg_n 3 nd) (bl_cons (st_setV 6 nd (pd_mod (pd_int_ T.b_int (pda_cons (pd_v 3) (pda_nil))) (pd_v 1)))
    (bl_one (st_dput hr 2 (pd_add (pd_dget2 hr (pd_v 2) (pd_v 6) (pd_int)) (pd_int)) (pd_v 6)))))
    (bl_cons (st_frz 2 (st_setV 4 nd (pd_sortedX T.b_sorted (pda_cons (pd_lcK 2 [("at", 6)] nd ((pd_v 2)) rfl (fun _ _ _ _ _ => ⟨_, ti_n 6 nd⟩) (fun _ _ _ _ _ => ⟨_, te_nil⟩) (fun _ _ _ _ _ => ⟨_, pd_tup (pda_cons (pd_v 6) (pda_cons (pd_dix hr (pd_v 2) (pd_v 6)) (pda_nil)))⟩)) (pda_nil)))))
    (bl_cons (st_for po (it_seq (pd_call G_l_primes_once hr tk (pda_cons (pd_v 1) (pda_nil)))) (tg_n 5 nd) (bl_cons (st_set 7 nd (pd_dnew))
    (bl_cons (st_for po (it_seq (pd_v 4)) (tg_n 8 nd) (bl_cons (st_setV 9 nd (pd_mod (pd_int_ T.b_int (pda_cons (pd_add (pd_ix (pd_v 8) (pd_int)) (pd_div (pd_v 1) (pd_v 5))) (pda_nil))) (pd_v 1)))
    (bl_cons (st_dput hr 7 (pd_add (pd_dget2 hr (pd_v 7) (pd_ix (pd_v 8) (pd_int)) (pd_int)) (pd_ix (pd_v 8) (pd_int))) (pd_ix (pd_v 8) (pd_int)))
    (bl_one (st_dput hr 7 (pd_sub (pd_dget2 hr (pd_v 7) (pd_v 9) (pd_int)) (pd_ix (pd_v 8) (pd_int))) (pd_v 9))))))
    (bl_one (st_frz 7 (st_setV 4 nd (pd_sortedX T.b_sorted (pda_cons (pd_lcK 7 [("at", 6)] nd ((pd_v 7)) rfl (fun _ _ _ _ _ => ⟨_, ti_n 6 nd⟩) (fun _ _ _ _ _ => ⟨_, te_one (pt_ne hr (pd_dix hr (pd_v 7) (pd_v 6)) (pd_int))⟩) (fun _ _ _ _ _ => ⟨_, pd_tup (pda_cons (pd_v 6) (pda_cons (pd_dix hr (pd_v 7) (pd_v 6)) (pda_nil)))⟩)) (pda_nil)))))))))
    (bl_one (st_ret (pd_v 4))))))⟩
abbrev s_is_number : Stmt := top 12
def F_is_number : Fn := fnOf 3 (
    sSeq (sExpr (eCallN 2 F_check_bounds (aCons (eVar 1) (aCons (eVar 2) (aNil)))))
    (sRet (eCallN 3 F_is_within (aCons (eVar 0) (aCons (eVar 1) (aCons (eVar 2) (aNil)))))))
theorem sc_is_number : FnScope ["value", "low", "high"] ["value", "low", "high"] (defScope s_is_number) := ⟨rfl, rfl, rfl, by decide +kernel, rfl, by decide +kernel, by decide +kernel⟩
theorem ok_is_number (T : Tx K mg) (G_is_within : Df P w K mg base "is_within" 2 3 F_is_within) (G_check_bounds : Df P w K mg base "check_bounds" 3 2 F_check_bounds) {dvs : List V} {f : Addr} {fd : FuncData} (F : FnP K "is_number" s_is_number dvs f fd) : FnOk P w K mg base (L2.CX P w) 4 f fd ["value", "low", "high"] (spD mg 3 F_is_number) := by
  have nd := sc_is_number.nd
  exact fn_okB F sc_is_number fun cdv A outer s H E hr tk po => ⟨_, bl_cons (st_expr (pd_call G_check_bounds hr tk (pda_cons (pd_v 1) (pda_cons (pd_v 2) (pda_nil)))))
    (bl_one (st_ret (pd_call G_is_within hr tk (pda_cons (pd_v 0) (pda_cons (pd_v 1) (pda_cons (pd_v 2) (pda_nil)))))))⟩
abbrev s_l_from : Stmt := top 30
def F_l_from : Fn := fnOf 3 (
    sRet (eOp dAdd (eVar 1) (eCallN 2 F_l_take (aCons (eVar 0) (aCons (eOp dAdd (eOp dSub (eVar 2) (eVar 1)) (eC (.int 1))) (aNil))))))
theorem sc_l_from : FnScope ["store", "low", "high"] ["store", "low", "high"] (defScope s_l_from) := ⟨rfl, rfl, rfl, by decide +kernel, rfl, by decide +kernel, by decide +kernel⟩
theorem ok_l_from (T : Tx K mg) (G_l_take : Df P w K mg base "_law_take" 3 2 F_l_take) {dvs : List V} {f : Addr} {fd : FuncData} (F : FnP K "_law_from" s_l_from dvs f fd) : FnOk P w K mg base (L2.CX P w) 4 f fd ["store", "low", "high"] (spD mg 3 F_l_from) := by
  have nd := sc_l_from.nd
  exact fn_okB F sc_l_from fun cdv A outer s H E hr tk po => ⟨_, bl_one (st_ret (pd_add (pd_v 1) (pd_call G_l_take hr tk (pda_cons (pd_v 0) (pda_cons (pd_add (pd_sub (pd_v 2) (pd_v 1)) (pd_int)) (pda_nil))))))⟩
abbrev s_l_pick : Stmt := top 31
def F_l_pick : Fn := fnOf 2 (
    sRet (eOp dIx (eVar 1) (eCallN 2 F_l_take (aCons (eVar 0) (aCons (eB (b1 nLenX) (aCons (eVar 1) (aNil))) (aNil))))))
theorem sc_l_pick : FnScope ["store", "things"] ["store", "things"] (defScope s_l_pick) := ⟨rfl, rfl, rfl, by decide +kernel, rfl, by decide +kernel, by decide +kernel⟩
theorem ok_l_pick (T : Tx K mg) (G_l_take : Df P w K mg base "_law_take" 3 2 F_l_take) {dvs : List V} {f : Addr} {fd : FuncData} (F : FnP K "_law_pick" s_l_pick dvs f fd) : FnOk P w K mg base (L2.CX P w) 4 f fd ["store", "things"] (spD mg 2 F_l_pick) := by
  have nd := sc_l_pick.nd
  exact fn_okB F sc_l_pick fun cdv A outer s H E hr tk po => ⟨_, bl_one (st_ret (pd_ix (pd_v 1) (pd_call G_l_take hr tk (pda_cons (pd_v 0) (pda_cons (pd_lenX T.b_len (pda_cons (pd_v 1) (pda_nil))) (pda_nil))))))⟩
abbrev s_l_rare : Stmt := top 32
def F_l_rare : Fn := fnOf 2 (
    sRet (eOp dEq (eCallN 2 F_l_take (aCons (eVar 0) (aCons (eVar 1) (aNil)))) (eC (.int 0))))
theorem sc_l_rare : FnScope ["store", "many"] ["store", "many"] (defScope s_l_rare) := ⟨rfl, rfl, rfl, by decide +kernel, rfl, by decide +kernel, by decide +kernel⟩
theorem ok_l_rare (T : Tx K mg) (G_l_take : Df P w K mg base "_law_take" 3 2 F_l_take) {dvs : List V} {f : Addr} {fd : FuncData} (F : FnP K "_law_rare" s_l_rare dvs f fd) : FnOk P w K mg base (L2.CX P w) 4 f fd ["store", "many"] (spD mg 2 F_l_rare) := by
  have nd := sc_l_rare.nd
  exact fn_okB F sc_l_rare fun cdv A outer s H E hr tk po => ⟨_, bl_one (st_ret (pd_eq hr (pd_call G_l_take hr tk (pda_cons (pd_v 0) (pda_cons (pd_v 1) (pda_nil)))) (pd_int)))⟩
abbrev s_check_number : Stmt := top 13
def F_check_number : Fn := fnOf 3 (
    sIf (DW.notM (truM (eCallN 3 F_is_number (aCons (eVar 0) (aCons (eVar 1) (aCons (eVar 2) (aNil))))))) (sRaise "BadNumber") (sNil))
theorem sc_check_number : FnScope ["value", "low", "high"] ["value", "low", "high"] (defScope s_check_number) := ⟨rfl, rfl, rfl, by decide +kernel, rfl, by decide +kernel, by decide +kernel⟩
theorem ok_check_number (T : Tx K mg) (G_is_number : Df P w K mg base "is_number" 4 3 F_is_number) {dvs : List V} {f : Addr} {fd : FuncData} (F : FnP K "check_number" s_check_number dvs f fd) : FnOk P w K mg base (L2.CX P w) 5 f fd ["value", "low", "high"] (spD mg 3 F_check_number) := by
  have nd := sc_check_number.nd
  exact fn_okB F sc_check_number fun cdv A outer s H E hr tk po => ⟨_, bl_one (st_if (DW.pt_not (pt_tru (pd_call G_is_number hr tk (pda_cons (pd_v 0) (pda_cons (pd_v 1) (pda_cons (pd_v 2) (pda_nil))))))) (bl_one (st_raise tk T.e_BadNumber)) (bl_nil))⟩
abbrev s_check_readings : Stmt := top 21
def B_check_readings_1 : SM :=
    sIf (DW.notM (truM (eCallD 3 F_is_number [.int (-1000000000000000000000000000000000000000000000000000000000000), .int (1000000000000000000000000000000000000000000000000000000000000)] (aCons (eVar 1) (aNil))))) (sRaise "BadNumber") (sNil)
def F_check_readings : Fn := fnOf 2 (
    sSeq (sIf (DW.orM (DW.notM (truM (eIsi ["list"] (eVar 0)))) (tB' (eOp dGt (eB (b1 nLenX) (aCons (eVar 0) (aNil))) (eC (.int (400)))))) (sRaise "BadNumber") (sNil))
    (sFor (iSq (eVar 0)) (gN 1) B_check_readings_1))
theorem sc_check_readings : FnScope ["readings", "reading"] ["readings"] (defScope s_check_readings) := ⟨rfl, rfl, rfl, by decide +kernel, rfl, by decide +kernel, by decide +kernel⟩
theorem ok_check_readings (T : Tx K mg) (G_is_number_1 : DfD P w K mg base "is_number" 4 3 F_is_number [.int (-1000000000000000000000000000000000000000000000000000000000000), .int (1000000000000000000000000000000000000000000000000000000000000)]) {dvs : List V} {f : Addr} {fd : FuncData} (F : FnP K "check_readings" s_check_readings dvs f fd) : FnOk P w K mg base (L2.CX P w) 5 f fd ["readings"] (spD mg 1 F_check_readings) := by
  have nd := sc_check_readings.nd
  exact fn_okB F sc_check_readings fun cdv A outer s H E hr tk po => ⟨_, bl_cons (st_if (PDW.t (DW.pw_or (DW.pt_not (pt_tru (pd_isi1 T.b_isinstance ty_list (pd_v 0) (pe_tyN T.b_list boot_list')))) (DW.pw_or1 (pt_gt (pd_lenX T.b_len (pda_cons (pd_v 0) (pda_nil))) (pd_gint T.c_MANY))))) (bl_one (st_raise tk T.e_BadNumber)) (bl_nil))
    (bl_one (st_for po (it_seq (pd_v 0)) (tg_n 1 nd) (bl_one (st_if (DW.pt_not (pt_tru (pd_callD G_is_number_1 hr tk (pda_cons (pd_v 1) (pda_nil))))) (bl_one (st_raise tk T.e_BadNumber)) (bl_nil)))))⟩
abbrev s_l_order_of : Stmt := top 37
def F_l_order_of : Fn := fnOf 1 (
    sSeq (sIf (truM (eCallN 2 F_l_rare (aCons (eVar 0) (aCons (eC (.int 400)) (aNil))))) (sRet (eCallN 2 F_l_pick (aCons (eVar 0) (aCons (eLst (aCons (eOp dPow (eC (.int 10)) (eC (.int 6))) (aCons (eC (.int 510510)) (aCons (eC (.int 999983)) (aCons (eOp dSub (eOp dPow (eC (.int 10)) (eC (.int 6))) (eCallN 2 F_l_take (aCons (eVar 0) (aCons (eC (.int 1000)) (aNil))))) (aNil)))))) (aNil))))) (sNil))
    (sSeq (sIf (truM (eCallN 2 F_l_rare (aCons (eVar 0) (aCons (eC (.int 30)) (aNil))))) (sRet (eOp dAdd (eC (.int 1)) (eCallN 2 F_l_take (aCons (eVar 0) (aCons (eC (.int 20000)) (aNil)))))) (sNil))
    (sSeq (sIf (truM (eCallN 2 F_l_rare (aCons (eVar 0) (aCons (eC (.int 2)) (aNil))))) (sRet (eCallN 2 F_l_pick (aCons (eVar 0) (aCons (eLst (aCons (eC (.int 12)) (aCons (eC (.int 30)) (aCons (eC (.int 6)) (aCons (eC (.int 1)) (aCons (eC (.int 2)) (aCons (eC (.int 4)) (aCons (eC (.int 8)) (aCons (eC (.int 9)) (aCons (eC (.int 10)) (aCons (eC (.int 36)) (aCons (eC (.int 60)) (aCons (eC (.int 42)) (aCons (eC (.int 18)) (aCons (eC (.int 24)) (aCons (eC (.int 45)) (aCons (eC (.int 48)) (aNil)))))))))))))))))) (aNil))))) (sNil))
    (sRet (eOp dAdd (eC (.int 1)) (eCallN 2 F_l_take (aCons (eVar 0) (aCons (eC (.int 60)) (aNil)))))))))
theorem sc_l_order_of : FnScope ["store"] ["store"] (defScope s_l_order_of) := ⟨rfl, rfl, rfl, by decide +kernel, rfl, by decide +kernel, by decide +kernel⟩
theorem ok_l_order_of (T : Tx K mg) (G_l_take : Df P w K mg base "_law_take" 3 2 F_l_take) (G_l_rare : Df P w K mg base "_law_rare" 4 2 F_l_rare) (G_l_pick : Df P w K mg base "_law_pick" 4 2 F_l_pick) {dvs : List V} {f : Addr} {fd : FuncData} (F : FnP K "_law_order_of" s_l_order_of dvs f fd) : FnOk P w K mg base (L2.CX P w) 5 f fd ["store"] (spD mg 1 F_l_order_of) := by
  have nd := sc_l_order_of.nd
  exact fn_okB F sc_l_order_of fun cdv A outer s H E hr tk po => ⟨_, bl_cons (st_if (pt_tru (pd_call G_l_rare hr tk (pda_cons (pd_v 0) (pda_cons (pd_int) (pda_nil))))) (bl_one (st_ret (pd_call G_l_pick hr tk (pda_cons (pd_v 0) (pda_cons (pd_lst (pda_cons (pd_pow (pd_int) (pd_int)) (pda_cons (pd_int) (pda_cons (pd_int) (pda_cons (pd_sub (pd_pow (pd_int) (pd_int)) (pd_call G_l_take hr tk (pda_cons (pd_v 0) (pda_cons (pd_int) (pda_nil))))) (pda_nil)))))) (pda_nil)))))) (bl_nil))
    (bl_cons (st_if (pt_tru (pd_call G_l_rare hr tk (pda_cons (pd_v 0) (pda_cons (pd_int) (pda_nil))))) (bl_one (st_ret (pd_add (pd_int) (pd_call G_l_take hr tk (pda_cons (pd_v 0) (pda_cons (pd_int) (pda_nil))))))) (bl_nil))
    (bl_cons (st_if (pt_tru (pd_call G_l_rare hr tk (pda_cons (pd_v 0) (pda_cons (pd_int) (pda_nil))))) (bl_one (st_ret (pd_call G_l_pick hr tk (pda_cons (pd_v 0) (pda_cons (pd_lst (pda_cons (pd_int) (pda_cons (pd_int) (pda_cons (pd_int) (pda_cons (pd_int) (pda_cons (pd_int) (pda_cons (pd_int) (pda_cons (pd_int) (pda_cons (pd_int) (pda_cons (pd_int) (pda_cons (pd_int) (pda_cons (pd_int) (pda_cons (pd_int) (pda_cons (pd_int) (pda_cons (pd_int) (pda_cons (pd_int) (pda_cons (pd_int) (pda_nil)))))))))))))))))) (pda_nil)))))) (bl_nil))
    (bl_one (st_ret (pd_add (pd_int) (pd_call G_l_take hr tk (pda_cons (pd_v 0) (pda_cons (pd_int) (pda_nil)))))))))⟩
abbrev s_l_reading : Stmt := top 38
def F_l_reading : Fn := fnOf 2 (
    sSeq (sIf (truM (eCallN 2 F_l_rare (aCons (eVar 0) (aCons (eC (.int 4)) (aNil))))) (sRet (eCallN 3 F_l_from (aCons (eVar 0) (aCons (eOp dSub (eOp dPow (eC (.int 10)) (eC (.int 8))) (eOp dPow (eC (.int 10)) (eC (.int 60)))) (aCons (eOp dSub (eOp dPow (eC (.int 10)) (eC (.int 60))) (eOp dPow (eC (.int 10)) (eC (.int 8)))) (aNil)))))) (sNil))
    (sRet (eCallN 2 F_l_take (aCons (eVar 0) (aCons (eVar 1) (aNil))))))
theorem sc_l_reading : FnScope ["store", "order"] ["store", "order"] (defScope s_l_reading) := ⟨rfl, rfl, rfl, by decide +kernel, rfl, by decide +kernel, by decide +kernel⟩
theorem ok_l_reading (T : Tx K mg) (G_l_take : Df P w K mg base "_law_take" 3 2 F_l_take) (G_l_rare : Df P w K mg base "_law_rare" 4 2 F_l_rare) (G_l_from : Df P w K mg base "_law_from" 4 3 F_l_from) {dvs : List V} {f : Addr} {fd : FuncData} (F : FnP K "_law_reading" s_l_reading dvs f fd) : FnOk P w K mg base (L2.CX P w) 5 f fd ["store", "order"] (spD mg 2 F_l_reading) := by
  have nd := sc_l_reading.nd
  exact fn_okB F sc_l_reading fun cdv A outer s H E hr tk po => ⟨_, bl_cons (st_if (pt_tru (pd_call G_l_rare hr tk (pda_cons (pd_v 0) (pda_cons (pd_int) (pda_nil))))) (bl_one (st_ret (pd_call G_l_from hr tk (pda_cons (pd_v 0) (pda_cons (pd_sub (pd_pow (pd_int) (pd_int)) (pd_pow (pd_int) (pd_int))) (pda_cons (pd_sub (pd_pow (pd_int) (pd_int)) (pd_pow (pd_int) (pd_int))) (pda_nil))))))) (bl_nil))
    (bl_one (st_ret (pd_call G_l_take hr tk (pda_cons (pd_v 0) (pda_cons (pd_v 1) (pda_nil))))))⟩
abbrev s_factors : Stmt := top 16
def B_factors_1 : SM :=
    sSeq (sAsgV 2 (eOp dDiv (eVar 2) (eVar 3)))
    (sAug 4 dAddI (eC (.int 1)))
def B_factors_2 : SM :=
    sSeq (sAsgV 4 (eC (.int 0)))
    (sSeq (sWhile (tB' (eOp dEq (eOp dMod (eVar 2) (eVar 3)) (eC (.int 0)))) B_factors_1)
    (sSeq (sIf (tB' (eOp dGt (eVar 4) (eC (.int 0)))) (sExpr (mMut 1 pAppend (aCons (eTup (aCons (eVar 3) (aCons (eVar 4) (aNil)))) (aNil)))) (sNil))
    (sAug 3 dAddI (eIf (tB' (eOp dEq (eVar 3) (eC (.int 2)))) (eC (.int 1)) (eC (.int 2))))))
def F_factors : Fn := fnOf 5 (
    sSeq (sExpr (eCallN 3 F_check_number (aCons (eVar 0) (aCons (eC (.int 1)) (aCons (eC (.int (100000000))) (aNil))))))
    (sSeq (sAsg 1 (eLst (aNil)))
    (sSeq (sAsgV 2 (eVar 0))
    (sSeq (sAsgV 3 (eC (.int 2)))
    (sSeq (sWhile (tB' (eOp dLe (eOp dMul (eVar 3) (eVar 3)) (eVar 2))) B_factors_2)
    (sSeq (sIf (tB' (eOp dGt (eVar 2) (eC (.int 1)))) (sExpr (mMut 1 pAppend (aCons (eTup (aCons (eVar 2) (aCons (eC (.int 1)) (aNil)))) (aNil)))) (sNil))
    (sRet (eVar 1))))))))
theorem sc_factors : FnScope ["n", "found", "rest", "divisor", "exponent"] ["n"] (defScope s_factors) := ⟨rfl, rfl, rfl, by decide +kernel, rfl, by decide +kernel, by decide +kernel⟩
theorem ok_factors (T : Tx K mg) (G_check_number : Df P w K mg base "check_number" 5 3 F_check_number) {dvs : List V} {f : Addr} {fd : FuncData} (F : FnP K "factors" s_factors dvs f fd) : FnOk P w K mg base (L2.CX P w) 6 f fd ["n"] (spD mg 1 F_factors) := by
  have nd := sc_factors.nd
  exact fn_okB F sc_factors fun cdv A outer s H E hr tk po => ⟨_, bl_cons (st_expr (pd_call G_check_number hr tk (pda_cons (pd_v 0) (pda_cons (pd_int) (pda_cons (pd_gint T.c_LARGEST) (pda_nil))))))
    (bl_cons (st_set 1 nd (pd_lst (pda_nil)))
    (bl_cons (st_setV 2 nd (pd_v 0))
    (bl_cons (st_setV 3 nd (pd_int))
    (bl_cons (st_while po (pt_le (pd_mul (pd_v 3) (pd_v 3)) (pd_v 2)) (bl_cons (st_setV 4 nd (pd_int))
    (bl_cons (st_while po (pt_eq hr (pd_mod (pd_v 2) (pd_v 3)) (pd_int)) (bl_cons (st_setV 2 nd (pd_div (pd_v 2) (pd_v 3)))
    (bl_one (st_addI 4 nd (pd_int)))))
    (bl_cons (st_if (pt_gt (pd_v 4) (pd_int)) (bl_one (st_expr (pd_append 1 (pv 1) (pda_cons (pd_tup (pda_cons (pd_v 3) (pda_cons (pd_v 4) (pda_nil)))) (pda_nil))))) (bl_nil))
    (bl_one (st_addI 3 nd (pd_if (pt_eq hr (pd_v 3) (pd_int)) (pd_int) (pd_int))))))))
    (bl_cons (st_if (pt_gt (pd_v 2) (pd_int)) (bl_one (st_expr (pd_append 1 (pv 1) (pda_cons (pd_tup (pda_cons (pd_v 2) (pda_cons (pd_int) (pda_nil)))) (pda_nil))))) (bl_nil))
    (bl_one (st_ret (pd_v 1))))))))⟩
abbrev s_l_set : Stmt := top 39
def B_l_set_1 : SM :=
    sExpr (mMut 4 pAppend (aCons (eOp dAdd (eOp dAdd (eVar 3) (eOp dMul (eVar 5) (eOp dDiv (eVar 1) (eVar 2)))) (eOp dMul (eVar 1) (eOp dSub (eCallN 2 F_l_take (aCons (eVar 0) (aCons (eC (.int 3)) (aNil)))) (eC (.int 1))))) (aNil)))
def F_l_set : Fn := fnOf 6 (
    sSeq (sAsgV 3 (eCallN 2 F_l_reading (aCons (eVar 0) (aCons (eVar 1) (aNil)))))
    (sSeq (sAsg 4 (eLst (aNil)))
    (sSeq (sFor (iRg (aCons (eVar 2) (aNil))) (gN 5) B_l_set_1)
    (sRet (eVar 4)))))
theorem sc_l_set : FnScope ["store", "order", "p", "first", "found", "k"] ["store", "order", "p"] (defScope s_l_set) := ⟨rfl, rfl, rfl, by decide +kernel, rfl, by decide +kernel, by decide +kernel⟩
theorem ok_l_set (T : Tx K mg) (G_l_take : Df P w K mg base "_law_take" 3 2 F_l_take) (G_l_reading : Df P w K mg base "_law_reading" 5 2 F_l_reading) {dvs : List V} {f : Addr} {fd : FuncData} (F : FnP K "_law_set" s_l_set dvs f fd) : FnOk P w K mg base (L2.CX P w) 6 f fd ["store", "order", "p"] (spD mg 3 F_l_set) := by
  have nd := sc_l_set.nd
  exact fn_okB F sc_l_set fun cdv A outer s H E hr tk po => ⟨_, bl_cons (st_setV 3 nd (pd_call G_l_reading hr tk (pda_cons (pd_v 0) (pda_cons (pd_v 1) (pda_nil)))))
    (bl_cons (st_set 4 nd (pd_lst (pda_nil)))
    (bl_cons (st_for po (it_rg1 T.b_range (pda_cons (pd_v 2) (pda_nil))) (tg_n 5 nd) (bl_one (st_expr (pd_append 4 (pv 4) (pda_cons (pd_add (pd_add (pd_v 3) (pd_mul (pd_v 5) (pd_div (pd_v 1) (pd_v 2)))) (pd_mul (pd_v 1) (pd_sub (pd_call G_l_take hr tk (pda_cons (pd_v 0) (pda_cons (pd_int) (pda_nil)))) (pd_int)))) (pda_nil))))))
    (bl_one (st_ret (pd_v 4)))))⟩
abbrev s_folded : Stmt := top 22
def B_folded_1 : SM :=
    sFrz 2 (sAsg 2 (eCallN 3 F_subtracted (aCons (eVar 2) (aCons (eOp dDiv (eVar 1) (eVar 4)) (aCons (eVar 1) (aNil))))))
def B_folded_2 : SM :=
    sSeq (sAsgV 6 (eOp dMod (eVar 3) (eVar 1)))
    (sDput 2 (eOp dAdd (eGet2 (eVar 2) (eVar 6) (eC (.int 0))) (eC (.int 1))) (eVar 6))
def F_folded : Fn := fnOf 7 (
    sSeq (sAsg 2 (eDnew))
    (sSeq (sFor (iSq (eVar 0)) (gN 3) B_folded_2)
    (sSeq (sFor (iSq (eCallN 1 F_factors (aCons (eVar 1) (aNil)))) (gT 2 (gsCons (gN 4) (gsCons (gN 5) (gsNil)))) B_folded_1)
    (sRet (eVar 2)))))
theorem sc_folded : FnScope ["readings", "order", "left", "reading", "prime", "spare", "place"] ["readings", "order"] (defScope s_folded) := ⟨rfl, rfl, rfl, by decide +kernel, rfl, by decide +kernel, by decide +kernel⟩
theorem ok_folded (T : Tx K mg) (G_factors : Df P w K mg base "factors" 6 1 F_factors) (G_subtracted : Df P w K mg base "subtracted" 1 3 F_subtracted) {dvs : List V} {f : Addr} {fd : FuncData} (F : FnP K "folded" s_folded dvs f fd) : FnOk P w K mg base (L2.CX P w) 7 f fd ["readings", "order"] (spD mg 2 F_folded) := by
  have nd := sc_folded.nd
  exact fn_okB F sc_folded fun cdv A outer s H E hr tk po => ⟨_, bl_cons (st_set 2 nd (pd_dnew))
    (bl_cons (st_for po (it_seq (pd_v 0)) (tg_n 3 nd) (bl_cons (st_setV 6 nd (pd_mod (pd_v 3) (pd_v 1)))
    (bl_one (st_dput hr 2 (pd_add (pd_dget2 hr (pd_v 2) (pd_v 6) (pd_int)) (pd_int)) (pd_v 6)))))
    (bl_cons (st_for po (it_seq (pd_call G_factors hr tk (pda_cons (pd_v 1) (pda_nil)))) (tg_tup (tgs_cons (tg_n 4 nd) (tgs_cons (tg_n 5 nd) (tgs_nil)))) (bl_one (st_frz 2 (st_set 2 nd (pd_call G_subtracted hr tk (pda_cons (pd_v 2) (pda_cons (pd_div (pd_v 1) (pd_v 4)) (pda_cons (pd_v 1) (pda_nil)))))))))
    (bl_one (st_ret (pd_v 2)))))⟩
abbrev s_l_like : Stmt := top 36
def F_l_like_r : Nat → Fn
  | 0 => fnOf 3 (fun _ => .bad)
  | kk + 1 => fnOf 3 (
    sSeq (sIf (truM (eIsi ["list", "tuple"] (eVar 1))) (sSeq (sIf (DW.orM (DW.andM (truM (eIsi ["list"] (eVar 1))) (DW.notM (truM (eIsi ["list"] (eVar 0))))) (DW.andM (truM (eIsi ["tuple"] (eVar 1))) (DW.notM (truM (eIsi ["tuple"] (eVar 0)))))) (sRet (eC (.bool false))) (sNil))
    (sRet (eAnd (eOp dEq (eB (b1 nLenX) (aCons (eVar 0) (aNil))) (eB (b1 nLenX) (aCons (eVar 1) (aNil)))) (eB (b1 nAll) (aCons (eLc (iRg (aCons (eB (b1 nLenX) (aCons (eVar 1) (aNil))) (aNil))) (gN 2) (tYes') (eCallN 2 (F_l_like_r kk) (aCons (eOp dIx (eVar 0) (eVar 2)) (aCons (eOp dIx (eVar 1) (eVar 2)) (aNil)))) [2]) (aNil)))))) (sNil))
    (sSeq (sIf (DW.orM (tB' (eOp dIsN (eVar 1) (eC .none))) (truM (eIsi ["str"] (eVar 1)))) (sRet (eIf (tB' (eOp dIsN (eVar 1) (eC .none))) (eOp dIsN (eVar 0) (eC .none)) (eAnd (eIsi ["str"] (eVar 0)) (eOp dEq (eVar 0) (eVar 1))))) (sNil))
    (sRet (eAnd (eIsi ["int"] (eVar 0)) (eAnd (eOp dEq (eIsi ["bool"] (eVar 0)) (eIsi ["bool"] (eVar 1))) (eOp dEq (eVar 0) (eVar 1)))))))
def F_l_like : Fn := F_l_like_r 6
theorem sc_l_like : FnScope ["one", "two", "k"] ["one", "two"] (defScope s_l_like) := ⟨rfl, rfl, rfl, by decide +kernel, rfl, by decide +kernel, by decide +kernel⟩
theorem ok_l_like (T : Tx K mg)  {dvs : List V} {f : Addr} {fd : FuncData} (F : FnP K "_law_like" s_l_like dvs f fd) (G : ∀ {k : Nat} {F : Fn}, FnOk P w K mg base (L2.CX P w) k f fd ["one", "two"] (spD mg 2 F) → Df P w K mg base "_law_like" k 2 F) : ∀ kk, FnOk P w K mg base (L2.CX P w) (1 + kk) f fd ["one", "two"] (spD mg 2 (F_l_like_r kk))
  | 0 => fn_okB (k := 0) F sc_l_like fun cdv A outer s H E hr tk po => ⟨_, bl_bad⟩
  | kk + 1 => by
    have nd := sc_l_like.nd
    have ih := ok_l_like T  F G kk
    exact fn_okB (k := 1 + kk) F sc_l_like fun cdv A outer s H E hr tk po => ⟨_, bl_cons (st_if (pt_tru (pd_isiT T.b_isinstance (pd_v 1) (tys_cons ty_list (pe_tyN T.b_list boot_list') (tys_cons ty_tuple (pe_tyN T.b_tuple boot_tuple') (tys_nil))))) (bl_cons (st_if (PDW.t (DW.pw_or (PDW.t (DW.pw_and (pt_tru (pd_isi1 T.b_isinstance ty_list (pd_v 1) (pe_tyN T.b_list boot_list'))) (DW.pw_and1 (DW.pt_not (pt_tru (pd_isi1 T.b_isinstance ty_list (pd_v 0) (pe_tyN T.b_list boot_list'))))))) (DW.pw_or1 (PDW.t (DW.pw_and (pt_tru (pd_isi1 T.b_isinstance ty_tuple (pd_v 1) (pe_tyN T.b_tuple boot_tuple'))) (DW.pw_and1 (DW.pt_not (pt_tru (pd_isi1 T.b_isinstance ty_tuple (pd_v 0) (pe_tyN T.b_tuple boot_tuple')))))))))) (bl_one (st_ret (pd_bl))) (bl_nil))
    (bl_one (st_ret (pd_and (pd_eq hr (pd_lenX T.b_len (pda_cons (pd_v 0) (pda_nil))) (pd_lenX T.b_len (pda_cons (pd_v 1) (pda_nil)))) (pd_one (pd_all T.b_all (pda_cons (pd_lc [("k", 2)] nd (it_rg1 T.b_range (pda_cons (pd_lenX T.b_len (pda_cons (pd_v 1) (pda_nil))) (pda_nil))) rfl (fun _ _ _ _ _ => ⟨_, ti_n 2 nd⟩) (fun _ _ _ _ _ => ⟨_, te_nil⟩) (fun _ _ _ _ _ => ⟨_, pd_call (G ih) hr takes0 (pda_cons (pd_ix (pd_v 0) (pd_v 2)) (pda_cons (pd_ix (pd_v 1) (pd_v 2)) (pda_nil))) (hk := by omega)⟩)) (pda_nil)))))))) (bl_nil))
    (bl_cons (st_if (PDW.t (DW.pw_or (pt_isN (pd_v 1) (pd_non)) (DW.pw_or1 (pt_tru (pd_isi1 T.b_isinstance ty_str (pd_v 1) (pe_tyN T.b_str boot_str')))))) (bl_one (st_ret (pd_if (pt_isN (pd_v 1) (pd_non)) (pd_isN (pd_v 0) (pd_non)) (pd_and (pd_isi1 T.b_isinstance ty_str (pd_v 0) (pe_tyN T.b_str boot_str')) (pd_one (pd_eq hr (pd_v 0) (pd_v 1))))))) (bl_nil))
    (bl_one (st_ret (pd_and (pd_isi1 T.b_isinstance ty_int (pd_v 0) (pe_tyN T.b_int boot_int')) (pd_and (pd_eq hr (pd_isi1 T.b_isinstance ty_bool (pd_v 0) (pe_tyN T.b_bool boot_bool')) (pd_isi1 T.b_isinstance ty_bool (pd_v 1) (pe_tyN T.b_bool boot_bool'))) (pd_one (pd_eq hr (pd_v 0) (pd_v 1))))))))⟩
abbrev s_l_list : Stmt := top 40
def B_l_list_1 : SM :=
    sIf (DW.orM (tB' (eOp dEq (eVar 4) (eC (.int 0)))) (DW.notM (truM (eVar 2)))) (sExpr (mMut 3 pAppend (aCons (eCallN 2 F_l_reading (aCons (eVar 0) (aCons (eVar 1) (aNil)))) (aNil)))) (sExpr (mMut 3 pExtend (aCons (eCallN 3 F_l_set (aCons (eVar 0) (aCons (eVar 1) (aCons (eCallN 2 F_l_pick (aCons (eVar 0) (aCons (eVar 2) (aNil)))) (aNil))))) (aNil))))
def F_l_list : Fn := fnOf 7 (
    sSeq (sAsgV 2 (eLc (iSq (eCallN 1 F_l_primes_once (aCons (eVar 1) (aNil)))) (gN 6) (tB' (eOp dLt (eVar 6) (eC (.int 14)))) (eVar 6) [6]))
    (sSeq (sAsg 3 (eLst (aNil)))
    (sSeq (sAsgV 4 (eCallN 2 F_l_take (aCons (eVar 0) (aCons (eC (.int 4)) (aNil)))))
    (sSeq (sFor (iRg (aCons (eCallN 2 F_l_take (aCons (eVar 0) (aCons (eC (.int 5)) (aNil)))) (aNil))) (gN 5) B_l_list_1)
    (sSeq (sIf (tB' (eOp dEq (eVar 4) (eC (.int 3)))) (sExpr (mMut 3 pInsert (aCons (eCallN 2 F_l_take (aCons (eVar 0) (aCons (eOp dAdd (eB (b1 nLenX) (aCons (eVar 3) (aNil))) (eC (.int 1))) (aNil)))) (aCons (eCallN 2 F_l_reading (aCons (eVar 0) (aCons (eVar 1) (aNil)))) (aNil))))) (sNil))
    (sRet (eVar 3)))))))
theorem sc_l_list : FnScope ["store", "order", "primes", "found", "how", "turn", "p"] ["store", "order"] (defScope s_l_list) := ⟨rfl, rfl, rfl, by decide +kernel, rfl, by decide +kernel, by decide +kernel⟩
theorem ok_l_list (T : Tx K mg) (G_l_reading : Df P w K mg base "_law_reading" 5 2 F_l_reading) (G_l_take : Df P w K mg base "_law_take" 3 2 F_l_take) (G_l_set : Df P w K mg base "_law_set" 6 3 F_l_set) (G_l_pick : Df P w K mg base "_law_pick" 4 2 F_l_pick) (G_l_primes_once : Df P w K mg base "_law_primes_once" 2 1 F_l_primes_once) {dvs : List V} {f : Addr} {fd : FuncData} (F : FnP K "_law_list" s_l_list dvs f fd) : FnOk P w K mg base (L2.CX P w) 7 f fd ["store", "order"] (spD mg 2 F_l_list) := by
  have nd := sc_l_list.nd
  exact fn_okB F sc_l_list fun cdv A outer s H E hr tk po => ⟨_, bl_cons (st_setLcV 2 [("p", 6)] nd (it_seq (pd_call G_l_primes_once hr tk (pda_cons (pd_v 1) (pda_nil)))) rfl (fun _ _ _ _ _ => ⟨_, ti_n 6 nd⟩) (fun _ _ _ _ _ => ⟨_, te_one (pt_lt (pd_v 6) (pd_int))⟩) (fun _ _ _ _ _ => ⟨_, pd_v 6⟩))
    (bl_cons (st_set 3 nd (pd_lst (pda_nil)))
    (bl_cons (st_setV 4 nd (pd_call G_l_take hr tk (pda_cons (pd_v 0) (pda_cons (pd_int) (pda_nil)))))
    (bl_cons (st_for po (it_rg1 T.b_range (pda_cons (pd_call G_l_take hr tk (pda_cons (pd_v 0) (pda_cons (pd_int) (pda_nil)))) (pda_nil))) (tg_n 5 nd) (bl_one (st_if (PDW.t (DW.pw_or (pt_eq hr (pd_v 4) (pd_int)) (DW.pw_or1 (DW.pt_not (pt_tru (pd_v 2)))))) (bl_one (st_expr (pd_append 3 (pv 3) (pda_cons (pd_call G_l_reading hr tk (pda_cons (pd_v 0) (pda_cons (pd_v 1) (pda_nil)))) (pda_nil))))) (bl_one (st_expr (pd_extend 3 (pv 3) (pda_cons (pd_call G_l_set hr tk (pda_cons (pd_v 0) (pda_cons (pd_v 1) (pda_cons (pd_call G_l_pick hr tk (pda_cons (pd_v 0) (pda_cons (pd_v 2) (pda_nil)))) (pda_nil))))) (pda_nil))))))))
    (bl_cons (st_if (pt_eq hr (pd_v 4) (pd_int)) (bl_one (st_expr (pd_insert 3 (pv 3) (pda_cons (pd_call G_l_take hr tk (pda_cons (pd_v 0) (pda_cons (pd_add (pd_lenX T.b_len (pda_cons (pd_v 3) (pda_nil))) (pd_int)) (pda_nil)))) (pda_cons (pd_call G_l_reading hr tk (pda_cons (pd_v 0) (pda_cons (pd_v 1) (pda_nil)))) (pda_nil)))))) (bl_nil))
    (bl_one (st_ret (pd_v 3)))))))⟩
abbrev s_cancels : Stmt := top 19
def F_cancels : Fn := fnOf 2 (
    sSeq (sExpr (eCallN 1 F_check_readings (aCons (eVar 0) (aNil))))
    (sSeq (sExpr (eCallN 3 F_check_number (aCons (eVar 1) (aCons (eC (.int 1)) (aCons (eC (.int (1000000))) (aNil))))))
    (sRet (eOp dEq (eB (b1 nLenX) (aCons (eCallN 2 F_folded (aCons (eVar 0) (aCons (eVar 1) (aNil)))) (aNil))) (eC (.int 0))))))
theorem sc_cancels : FnScope ["readings", "order"] ["readings", "order"] (defScope s_cancels) := ⟨rfl, rfl, rfl, by decide +kernel, rfl, by decide +kernel, by decide +kernel⟩
theorem ok_cancels (T : Tx K mg) (G_folded : Df P w K mg base "folded" 7 2 F_folded) (G_check_number : Df P w K mg base "check_number" 5 3 F_check_number) (G_check_readings : Df P w K mg base "check_readings" 5 1 F_check_readings) {dvs : List V} {f : Addr} {fd : FuncData} (F : FnP K "cancels" s_cancels dvs f fd) : FnOk P w K mg base (L2.CX P w) 8 f fd ["readings", "order"] (spD mg 2 F_cancels) := by
  have nd := sc_cancels.nd
  exact fn_okB F sc_cancels fun cdv A outer s H E hr tk po => ⟨_, bl_cons (st_expr (pd_call G_check_readings hr tk (pda_cons (pd_v 0) (pda_nil))))
    (bl_cons (st_expr (pd_call G_check_number hr tk (pda_cons (pd_v 1) (pda_cons (pd_int) (pda_cons (pd_gint T.c_CIRCLE) (pda_nil))))))
    (bl_one (st_ret (pd_eq hr (pd_lenX T.b_len (pda_cons (pd_call G_folded hr tk (pda_cons (pd_v 0) (pda_cons (pd_v 1) (pda_nil)))) (pda_nil))) (pd_int)))))⟩
abbrev s_left_over : Stmt := top 20
def F_left_over : Fn := fnOf 4 (
    sSeq (sExpr (eCallN 1 F_check_readings (aCons (eVar 0) (aNil))))
    (sSeq (sExpr (eCallN 3 F_check_number (aCons (eVar 1) (aCons (eC (.int 1)) (aCons (eC (.int (1000000))) (aNil))))))
    (sSeq (sAsgV 2 (eCallN 2 F_folded (aCons (eVar 0) (aCons (eVar 1) (aNil)))))
    (sRet (eLc (iSq (eB (b1 nSortedX) (aCons (eVar 2) (aNil)))) (gN 3) (tYes') (eTup (aCons (eVar 3) (aCons (eDix (eVar 2) (eVar 3)) (aNil)))) [3])))))
theorem sc_left_over : FnScope ["readings", "order", "left", "place"] ["readings", "order"] (defScope s_left_over) := ⟨rfl, rfl, rfl, by decide +kernel, rfl, by decide +kernel, by decide +kernel⟩
theorem ok_left_over (T : Tx K mg) (G_folded : Df P w K mg base "folded" 7 2 F_folded) (G_check_number : Df P w K mg base "check_number" 5 3 F_check_number) (G_check_readings : Df P w K mg base "check_readings" 5 1 F_check_readings) {dvs : List V} {f : Addr} {fd : FuncData} (F : FnP K "left_over" s_left_over dvs f fd) : FnOk P w K mg base (L2.CX P w) 8 f fd ["readings", "order"] (spD mg 2 F_left_over) := by
  have nd := sc_left_over.nd
  exact fn_okB F sc_left_over fun cdv A outer s H E hr tk po => ⟨_, bl_cons (st_expr (pd_call G_check_readings hr tk (pda_cons (pd_v 0) (pda_nil))))
    (bl_cons (st_expr (pd_call G_check_number hr tk (pda_cons (pd_v 1) (pda_cons (pd_int) (pda_cons (pd_gint T.c_CIRCLE) (pda_nil))))))
    (bl_cons (st_setV 2 nd (pd_call G_folded hr tk (pda_cons (pd_v 0) (pda_cons (pd_v 1) (pda_nil)))))
    (bl_one (st_ret (pd_lc [("place", 3)] nd (it_seq (pd_sortedX T.b_sorted (pda_cons (pd_v 2) (pda_nil)))) rfl (fun _ _ _ _ _ => ⟨_, ti_n 3 nd⟩) (fun _ _ _ _ _ => ⟨_, te_nil⟩) (fun _ _ _ _ _ => ⟨_, pd_tup (pda_cons (pd_v 3) (pda_cons (pd_dix hr (pd_v 2) (pd_v 3)) (pda_nil)))⟩))))))⟩
abbrev s_l_told : Stmt := top 43
def F_l_told : Fn := fnOf 4 (
    sSeq (sAsgV 3 (eB (b1 nList) (aCons (eVar 0) (aNil))))
    (sSeq (sIf (DW.orM (DW.notM (truM (eCallN 2 F_l_like (aCons (eCallN 2 F_cancels (aCons (eVar 3) (aCons (eVar 1) (aNil)))) (aCons (eNot (eVar 2)) (aNil)))))) (DW.notM (truM (eCallN 2 F_l_like (aCons (eVar 3) (aCons (eVar 0) (aNil))))))) (sRet (eC (.bool false))) (sNil))
    (sRet (eAnd (eCallN 2 F_l_like (aCons (eCallN 2 F_left_over (aCons (eVar 3) (aCons (eVar 1) (aNil)))) (aCons (eVar 2) (aNil)))) (eCallN 2 F_l_like (aCons (eVar 3) (aCons (eVar 0) (aNil))))))))
theorem sc_l_told : FnScope ["readings", "order", "due", "given"] ["readings", "order", "due"] (defScope s_l_told) := ⟨rfl, rfl, rfl, by decide +kernel, rfl, by decide +kernel, by decide +kernel⟩
theorem ok_l_told (T : Tx K mg) (G_l_like : Df P w K mg base "_law_like" 7 2 F_l_like) (G_left_over : Df P w K mg base "left_over" 8 2 F_left_over) (G_cancels : Df P w K mg base "cancels" 8 2 F_cancels) {dvs : List V} {f : Addr} {fd : FuncData} (F : FnP K "_law_told" s_l_told dvs f fd) : FnOk P w K mg base (L2.CX P w) 9 f fd ["readings", "order", "due"] (spD mg 3 F_l_told) := by
  have nd := sc_l_told.nd
  exact fn_okB F sc_l_told fun cdv A outer s H E hr tk po => ⟨_, bl_cons (st_setV 3 nd (pd_list_ T.b_list (pda_cons (pd_v 0) (pda_nil))))
    (bl_cons (st_if (PDW.t (DW.pw_or (DW.pt_not (pt_tru (pd_call G_l_like hr tk (pda_cons (pd_call G_cancels hr tk (pda_cons (pd_v 3) (pda_cons (pd_v 1) (pda_nil)))) (pda_cons (pd_not (pd_v 2)) (pda_nil)))))) (DW.pw_or1 (DW.pt_not (pt_tru (pd_call G_l_like hr tk (pda_cons (pd_v 3) (pda_cons (pd_v 0) (pda_nil))))))))) (bl_one (st_ret (pd_bl))) (bl_nil))
    (bl_one (st_ret (pd_and (pd_call G_l_like hr tk (pda_cons (pd_call G_left_over hr tk (pda_cons (pd_v 3) (pda_cons (pd_v 1) (pda_nil)))) (pda_cons (pd_v 2) (pda_nil)))) (pd_one (pd_call G_l_like hr tk (pda_cons (pd_v 3) (pda_cons (pd_v 0) (pda_nil)))))))))⟩
abbrev s_l_changes_hold : Stmt := top 44
def B_l_changes_hold_1 : SM :=
    sSeq (sIf (tB' (eOp dEq (eCallN 2 F_l_gcd (aCons (eVar 6) (aCons (eVar 2) (aNil)))) (eC (.int 1)))) (sBrk) (sNil))
    (sAsgV 6 (eIf (tB' (eOp dLt (eVar 7) (eC (.int 59)))) (eOp dAdd (eVar 6) (eC (.int 1))) (eC (.int 1))))
def F_l_changes_hold : Fn := fnOf 14 (
    sSeq (sAsgV 4 (eCallN 2 F_l_pick (aCons (eVar 0) (aCons (eLst (aCons (eCallN 2 F_l_take (aCons (eVar 0) (aCons (eVar 2) (aNil)))) (aCons (eOp dSub (eC (.int 0)) (eCallN 2 F_l_take (aCons (eVar 0) (aCons (eOp dPow (eC (.int 10)) (eC (.int 6))) (aNil))))) (aCons (eVar 2) (aCons (eC (.int 1)) (aNil)))))) (aNil)))))
    (sSeq (sAsgV 5 (eB (b1 nSortedX) (aCons (eLc (iSq (eVar 3)) (gN 12) (tYes') (eTup (aCons (eOp dMod (eB (b1 nInt) (aCons (eOp dAdd (eOp dIx (eVar 12) (eC (.int 0))) (eVar 4)) (aNil))) (eVar 2)) (aCons (eOp dIx (eVar 12) (eC (.int 1))) (aNil)))) [12]) (aNil))))
    (sSeq (sIf (DW.notM (truM (eCallN 2 F_l_like (aCons (eCallN 2 F_left_over (aCons (eLc (iSq (eVar 1)) (gN 13) (tYes') (eOp dAdd (eVar 13) (eVar 4)) [13]) (aCons (eVar 2) (aNil)))) (aCons (eVar 5) (aNil)))))) (sRet (eC (.bool false))) (sNil))
    (sSeq (sAsgV 6 (eOp dAdd (eC (.int 1)) (eCallN 2 F_l_take (aCons (eVar 0) (aCons (eC (.int 60)) (aNil))))))
    (sSeq (sFor (iRg (aCons (eC (.int 60)) (aNil))) (gN 7) B_l_changes_hold_1)
    (sSeq (sIf (DW.notM (truM (eCallN 2 F_l_like (aCons (eCallN 2 F_cancels (aCons (eLc (iSq (eVar 1)) (gN 13) (tYes') (eOp dMul (eOp dMod (eB (b1 nInt) (aCons (eVar 13) (aNil))) (eVar 2)) (eVar 6)) [13]) (aCons (eVar 2) (aNil)))) (aCons (eNot (eVar 3)) (aNil)))))) (sRet (eC (.bool false))) (sNil))
    (sSeq (sAsgV 8 (eLc (iSq (eCallN 1 F_l_primes_once (aCons (eVar 2) (aNil)))) (gN 11) (tB' (eOp dLt (eVar 11) (eC (.int 340)))) (eVar 11) [11]))
    (sSeq (sIf (DW.notM (truM (eVar 8))) (sRet (eC (.bool true))) (sNil))
    (sSeq (sAsgV 9 (eCallN 2 F_l_take (aCons (eVar 0) (aCons (eOp dAdd (eB (b1 nLenX) (aCons (eVar 1) (aNil))) (eC (.int 1))) (aNil)))))
    (sSeq (sAsgV 10 (eOp dAdd (eOp dAdd (eSl (eVar 1) (oNone) (oSome (eVar 9))) (eCallN 3 F_l_set (aCons (eVar 0) (aCons (eVar 2) (aCons (eCallN 2 F_l_pick (aCons (eVar 0) (aCons (eVar 8) (aNil)))) (aNil)))))) (eSl (eVar 1) (oSome (eVar 9)) (oNone))))
    (sRet (eCallN 2 F_l_like (aCons (eLst (aCons (eCallN 2 F_left_over (aCons (eVar 10) (aCons (eVar 2) (aNil)))) (aCons (eCallN 2 F_cancels (aCons (eVar 10) (aCons (eVar 2) (aNil)))) (aNil)))) (aCons (eLst (aCons (eVar 3) (aCons (eNot (eVar 3)) (aNil)))) (aNil)))))))))))))))
theorem sc_l_changes_hold : FnScope ["store", "one", "order", "due", "c", "turned", "factor", "turn", "primes", "at", "filled", "p", "pair", "x"] ["store", "one", "order", "due"] (defScope s_l_changes_hold) := ⟨rfl, rfl, rfl, by decide +kernel, rfl, by decide +kernel, by decide +kernel⟩
theorem ok_l_changes_hold (T : Tx K mg) (G_l_like : Df P w K mg base "_law_like" 7 2 F_l_like) (G_cancels : Df P w K mg base "cancels" 8 2 F_cancels) (G_left_over : Df P w K mg base "left_over" 8 2 F_left_over) (G_l_set : Df P w K mg base "_law_set" 6 3 F_l_set) (G_l_pick : Df P w K mg base "_law_pick" 4 2 F_l_pick) (G_l_take : Df P w K mg base "_law_take" 3 2 F_l_take) (G_l_primes_once : Df P w K mg base "_law_primes_once" 2 1 F_l_primes_once) (G_l_gcd : Df P w K mg base "_law_gcd" 1 2 F_l_gcd) {dvs : List V} {f : Addr} {fd : FuncData} (F : FnP K "_law_changes_hold" s_l_changes_hold dvs f fd) : FnOk P w K mg base (L2.CX P w) 9 f fd ["store", "one", "order", "due"] (spD mg 4 F_l_changes_hold) := by
  have nd := sc_l_changes_hold.nd
  exact fn_okB F sc_l_changes_hold fun cdv A outer s H E hr tk po => ⟨_, bl_cons (st_setV 4 nd (pd_call G_l_pick hr tk (pda_cons (pd_v 0) (pda_cons (pd_lst (pda_cons (pd_call G_l_take hr tk (pda_cons (pd_v 0) (pda_cons (pd_v 2) (pda_nil)))) (pda_cons (pd_sub (pd_int) (pd_call G_l_take hr tk (pda_cons (pd_v 0) (pda_cons (pd_pow (pd_int) (pd_int)) (pda_nil))))) (pda_cons (pd_v 2) (pda_cons (pd_int) (pda_nil)))))) (pda_nil)))))
    (bl_cons (st_setV 5 nd (pd_sortedX T.b_sorted (pda_cons (pd_lc [("pair", 12)] nd (it_seq (pd_v 3)) rfl (fun _ _ _ _ _ => ⟨_, ti_n 12 nd⟩) (fun _ _ _ _ _ => ⟨_, te_nil⟩) (fun _ _ _ _ _ => ⟨_, pd_tup (pda_cons (pd_mod (pd_int_ T.b_int (pda_cons (pd_add (pd_ix (pd_v 12) (pd_int)) (pd_v 4)) (pda_nil))) (pd_v 2)) (pda_cons (pd_ix (pd_v 12) (pd_int)) (pda_nil)))⟩)) (pda_nil))))
    (bl_cons (st_if (DW.pt_not (pt_tru (pd_call G_l_like hr tk (pda_cons (pd_call G_left_over hr tk (pda_cons (pd_lc [("x", 13)] nd (it_seq (pd_v 1)) rfl (fun _ _ _ _ _ => ⟨_, ti_n 13 nd⟩) (fun _ _ _ _ _ => ⟨_, te_nil⟩) (fun _ _ _ _ _ => ⟨_, pd_add (pd_v 13) (pd_v 4)⟩)) (pda_cons (pd_v 2) (pda_nil)))) (pda_cons (pd_v 5) (pda_nil)))))) (bl_one (st_ret (pd_bl))) (bl_nil))
    (bl_cons (st_setV 6 nd (pd_add (pd_int) (pd_call G_l_take hr tk (pda_cons (pd_v 0) (pda_cons (pd_int) (pda_nil))))))
    (bl_cons (st_for po (it_rg1 T.b_range (pda_cons (pd_int) (pda_nil))) (tg_n 7 nd) (bl_cons (st_if (pt_eq hr (pd_call G_l_gcd hr tk (pda_cons (pd_v 6) (pda_cons (pd_v 2) (pda_nil)))) (pd_int)) (bl_one (st_brk)) (bl_nil))
    (bl_one (st_setV 6 nd (pd_if (pt_lt (pd_v 7) (pd_int)) (pd_add (pd_v 6) (pd_int)) (pd_int))))))
    (bl_cons (st_if (DW.pt_not (pt_tru (pd_call G_l_like hr tk (pda_cons (pd_call G_cancels hr tk (pda_cons (pd_lc [("x", 13)] nd (it_seq (pd_v 1)) rfl (fun _ _ _ _ _ => ⟨_, ti_n 13 nd⟩) (fun _ _ _ _ _ => ⟨_, te_nil⟩) (fun _ _ _ _ _ => ⟨_, pd_mul (pd_mod (pd_int_ T.b_int (pda_cons (pd_v 13) (pda_nil))) (pd_v 2)) (pd_v 6)⟩)) (pda_cons (pd_v 2) (pda_nil)))) (pda_cons (pd_not (pd_v 3)) (pda_nil)))))) (bl_one (st_ret (pd_bl))) (bl_nil))
    (bl_cons (st_setLcV 8 [("p", 11)] nd (it_seq (pd_call G_l_primes_once hr tk (pda_cons (pd_v 2) (pda_nil)))) rfl (fun _ _ _ _ _ => ⟨_, ti_n 11 nd⟩) (fun _ _ _ _ _ => ⟨_, te_one (pt_lt (pd_v 11) (pd_int))⟩) (fun _ _ _ _ _ => ⟨_, pd_v 11⟩))
    (bl_cons (st_if (DW.pt_not (pt_tru (pd_v 8))) (bl_one (st_ret (pd_bl))) (bl_nil))
    (bl_cons (st_setV 9 nd (pd_call G_l_take hr tk (pda_cons (pd_v 0) (pda_cons (pd_add (pd_lenX T.b_len (pda_cons (pd_v 1) (pda_nil))) (pd_int)) (pda_nil)))))
    (bl_cons (st_setV 10 nd (pd_add (pd_add (pd_sl (pd_v 1) (po_n) (po_s (pd_v 9))) (pd_call G_l_set hr tk (pda_cons (pd_v 0) (pda_cons (pd_v 2) (pda_cons (pd_call G_l_pick hr tk (pda_cons (pd_v 0) (pda_cons (pd_v 8) (pda_nil)))) (pda_nil)))))) (pd_sl (pd_v 1) (po_s (pd_v 9)) (po_n))))
    (bl_one (st_ret (pd_call G_l_like hr tk (pda_cons (pd_lst (pda_cons (pd_call G_left_over hr tk (pda_cons (pd_v 10) (pda_cons (pd_v 2) (pda_nil)))) (pda_cons (pd_call G_cancels hr tk (pda_cons (pd_v 10) (pda_cons (pd_v 2) (pda_nil)))) (pda_nil)))) (pda_cons (pd_lst (pda_cons (pd_v 3) (pda_cons (pd_not (pd_v 3)) (pda_nil)))) (pda_nil)))))))))))))))⟩
abbrev s_l_refuses : Stmt := top 45
def F_l_refuses : Fn := fnOf 4 (
    sSeq (sTry (sIf (tB' (eOp dEq (eVar 0) (eC (.int 0)))) (sExpr (eCallN 2 F_cancels (aCons (eVar 1) (aCons (eVar 2) (aNil))))) (sExpr (eCallN 2 F_left_over (aCons (eVar 1) (aCons (eVar 2) (aNil)))))) (⟨some 3, isA_BadNumber, isEM [isA_BadCell, isA_BadRows, isA_TooLong] true⟩ :: ⟨none, isA_ShiftError, fun _ => sRet (eC (.bool false))⟩ :: []))
    (sRet (eC (.bool false))))
theorem sc_l_refuses : FnScope ["how", "readings", "order", "e"] ["how", "readings", "order"] (defScope s_l_refuses) := ⟨rfl, rfl, rfl, by decide +kernel, rfl, by decide +kernel, by decide +kernel⟩
theorem ok_l_refuses (T : Tx K mg) (G_cancels : Df P w K mg base "cancels" 8 2 F_cancels) (G_left_over : Df P w K mg base "left_over" 8 2 F_left_over) {dvs : List V} {f : Addr} {fd : FuncData} (F : FnP K "_law_refuses" s_l_refuses dvs f fd) : FnOk P w K mg base (L2.CX P w) 9 f fd ["how", "readings", "order"] (spD mg 3 F_l_refuses) := by
  have nd := sc_l_refuses.nd
  exact fn_okB F sc_l_refuses fun cdv A outer s H E hr tk po => ⟨_, bl_cons (st_ex (st_try tk (fun Wi pz xz tk po => ⟨_, bl_one (st_if (pt_eq hr (pd_v 0) (pd_int)) (bl_one (st_expr (pd_call G_cancels hr tk (pda_cons (pd_v 1) (pda_cons (pd_v 2) (pda_nil)))))) (bl_one (st_expr (pd_call G_left_over hr tk (pda_cons (pd_v 1) (pda_cons (pd_v 2) (pda_nil)))))))⟩) (hd_named 3 T.z_BadNumber (su_isE 3 T.b_isinstance (.cons T.zn_BadCell (.cons T.zn_BadRows (.cons T.zn_TooLong (.nil)))) (fun _ _ _ => nms_cons (nms_cons (nms_cons (nms_nil))))) (hd_plain T.z_ShiftError (su_any fun _ _ _ => ⟨_, bl_one (st_ret (pd_bl))⟩) (hd_nil)) nd)))
    (bl_one (st_ret (pd_bl)))⟩
abbrev s_l_refused : Stmt := top 46
def B_l_refused_1 : SM :=
    sIf (DW.orM (DW.notM (truM (eCallN 3 F_l_refuses (aCons (eC (.int 0)) (aCons (eVar 6) (aCons (eVar 2) (aNil))))))) (DW.notM (truM (eCallN 3 F_l_refuses (aCons (eC (.int 1)) (aCons (eVar 6) (aCons (eVar 2) (aNil)))))))) (sRet (eC (.bool false))) (sNil)
def F_l_refused : Fn := fnOf 9 (
    sSeq (sAsgV 3 (eCallN 2 F_l_take (aCons (eVar 0) (aCons (eOp dAdd (eB (b1 nLenX) (aCons (eVar 1) (aNil))) (eC (.int 1))) (aNil)))))
    (sSeq (sAsgV 4 (eCallN 2 F_l_pick (aCons (eVar 0) (aCons (eLst (aCons (eC (.bool true)) (aCons (eC .none) (aCons (eC (.str "1")) (aCons (eLst (aCons (eC (.int 1)) (aNil))) (aCons (eTup (aCons (eC (.int 1)) (aNil))) (aCons (eOp dAdd (eOp dPow (eC (.int 10)) (eC (.int 60))) (eC (.int 1))) (aCons (eOp dSub (eUn dNeg (eOp dPow (eC (.int 10)) (eC (.int 60)))) (eC (.int 1))) (aCons (eC (.bool false)) (aNil)))))))))) (aNil)))))
    (sSeq (sAsgV 5 (eLst (aCons (eOp dAdd (eOp dAdd (eSl (eVar 1) (oNone) (oSome (eVar 3))) (eLst (aCons (eVar 4) (aNil)))) (eSl (eVar 1) (oSome (eVar 3)) (oNone))) (aCons (eCallN 2 F_l_pick (aCons (eVar 0) (aCons (eLst (aCons (eC .none) (aCons (eB (b1 nTuple) (aCons (eVar 1) (aNil))) (aCons (eC (.int 1)) (aCons (eC (.str "")) (aCons (eTup (aNil)) (aNil))))))) (aNil)))) (aCons (eOp dMul (eLst (aCons (eC (.int 0)) (aNil))) (eC (.int 401))) (aNil))))))
    (sSeq (sFor (iSq (eVar 5)) (gN 6) B_l_refused_1)
    (sSeq (sAsgV 4 (eCallN 2 F_l_pick (aCons (eVar 0) (aCons (eLst (aCons (eC (.int 0)) (aCons (eUn dNeg (eC (.int 1))) (aCons (eOp dAdd (eOp dPow (eC (.int 10)) (eC (.int 6))) (eC (.int 1))) (aCons (eC (.bool true)) (aCons (eC .none) (aCons (eC (.str "6")) (aCons (eLst (aCons (eC (.int 6)) (aNil))) (aNil))))))))) (aNil)))))
    (sSeq (sIf (DW.orM (DW.notM (truM (eCallN 3 F_l_refuses (aCons (eC (.int 0)) (aCons (eB (b1 nList) (aCons (eVar 1) (aNil))) (aCons (eVar 4) (aNil))))))) (DW.notM (truM (eCallN 3 F_l_refuses (aCons (eC (.int 1)) (aCons (eB (b1 nList) (aCons (eVar 1) (aNil))) (aCons (eVar 4) (aNil)))))))) (sRet (eC (.bool false))) (sNil))
    (sSeq (sIf (DW.notM (truM (eCallN 2 F_l_rare (aCons (eVar 0) (aCons (eC (.int 4)) (aNil)))))) (sRet (eC (.bool true))) (sNil))
    (sSeq (sAsgV 7 (eOp dAdd (eLc (iRg (aCons (eC (.int 397)) (aNil))) (gN 8) (tYes') (eOp dSub (eOp dMod (eB (b1 nInt) (aCons (eOp dAdd (eOp dMul (eVar 8) (eVar 8)) (eVar 3)) (aNil))) (eC (.int 97))) (eC (.int 40))) [8]) (eLst (aCons (eOp dPow (eC (.int 10)) (eC (.int 60))) (aCons (eUn dNeg (eOp dPow (eC (.int 10)) (eC (.int 60)))) (aCons (eC (.int 0)) (aNil)))))))
    (sRet (eCallN 3 F_l_told (aCons (eVar 7) (aCons (eB (b2 nMin2) (aCons (eVar 2) (aCons (eC (.int 60)) (aNil)))) (aCons (eCallN 2 F_l_left (aCons (eVar 7) (aCons (eB (b2 nMin2) (aCons (eVar 2) (aCons (eC (.int 60)) (aNil)))) (aNil)))) (aNil))))))))))))))
theorem sc_l_refused : FnScope ["store", "one", "order", "at", "odd", "bad", "part", "long", "k"] ["store", "one", "order"] (defScope s_l_refused) := ⟨rfl, rfl, rfl, by decide +kernel, rfl, by decide +kernel, by decide +kernel⟩
theorem ok_l_refused (T : Tx K mg) (G_l_told : Df P w K mg base "_law_told" 9 3 F_l_told) (G_l_left : Df P w K mg base "_law_left" 3 2 F_l_left) (G_l_rare : Df P w K mg base "_law_rare" 4 2 F_l_rare) (G_l_refuses : Df P w K mg base "_law_refuses" 9 3 F_l_refuses) (G_l_pick : Df P w K mg base "_law_pick" 4 2 F_l_pick) (G_l_take : Df P w K mg base "_law_take" 3 2 F_l_take) {dvs : List V} {f : Addr} {fd : FuncData} (F : FnP K "_law_refused" s_l_refused dvs f fd) : FnOk P w K mg base (L2.CX P w) 10 f fd ["store", "one", "order"] (spD mg 3 F_l_refused) := by
  have nd := sc_l_refused.nd
  exact fn_okB F sc_l_refused fun cdv A outer s H E hr tk po => ⟨_, bl_cons (st_setV 3 nd (pd_call G_l_take hr tk (pda_cons (pd_v 0) (pda_cons (pd_add (pd_lenX T.b_len (pda_cons (pd_v 1) (pda_nil))) (pd_int)) (pda_nil)))))
    (bl_cons (st_setV 4 nd (pd_call G_l_pick hr tk (pda_cons (pd_v 0) (pda_cons (pd_lst (pda_cons (pd_bl) (pda_cons (pd_non) (pda_cons (pd_str) (pda_cons (pd_lst (pda_cons (pd_int) (pda_nil))) (pda_cons (pd_tup (pda_cons (pd_int) (pda_nil))) (pda_cons (pd_add (pd_pow (pd_int) (pd_int)) (pd_int)) (pda_cons (pd_sub (pd_neg (pd_pow (pd_int) (pd_int))) (pd_int)) (pda_cons (pd_bl) (pda_nil)))))))))) (pda_nil)))))
    (bl_cons (st_setV 5 nd (pd_lst (pda_cons (pd_add (pd_add (pd_sl (pd_v 1) (po_n) (po_s (pd_v 3))) (pd_lst (pda_cons (pd_v 4) (pda_nil)))) (pd_sl (pd_v 1) (po_s (pd_v 3)) (po_n))) (pda_cons (pd_call G_l_pick hr tk (pda_cons (pd_v 0) (pda_cons (pd_lst (pda_cons (pd_non) (pda_cons (pd_tuple_ T.b_tuple (pda_cons (pd_v 1) (pda_nil))) (pda_cons (pd_int) (pda_cons (pd_str) (pda_cons (pd_tup (pda_nil)) (pda_nil))))))) (pda_nil)))) (pda_cons (pd_mul (pd_lst (pda_cons (pd_int) (pda_nil))) (pd_int)) (pda_nil))))))
    (bl_cons (st_for po (it_seq (pd_v 5)) (tg_n 6 nd) (bl_one (st_if (PDW.t (DW.pw_or (DW.pt_not (pt_tru (pd_call G_l_refuses hr tk (pda_cons (pd_int) (pda_cons (pd_v 6) (pda_cons (pd_v 2) (pda_nil))))))) (DW.pw_or1 (DW.pt_not (pt_tru (pd_call G_l_refuses hr tk (pda_cons (pd_int) (pda_cons (pd_v 6) (pda_cons (pd_v 2) (pda_nil)))))))))) (bl_one (st_ret (pd_bl))) (bl_nil))))
    (bl_cons (st_setV 4 nd (pd_call G_l_pick hr tk (pda_cons (pd_v 0) (pda_cons (pd_lst (pda_cons (pd_int) (pda_cons (pd_neg (pd_int)) (pda_cons (pd_add (pd_pow (pd_int) (pd_int)) (pd_int)) (pda_cons (pd_bl) (pda_cons (pd_non) (pda_cons (pd_str) (pda_cons (pd_lst (pda_cons (pd_int) (pda_nil))) (pda_nil))))))))) (pda_nil)))))
    (bl_cons (st_if (PDW.t (DW.pw_or (DW.pt_not (pt_tru (pd_call G_l_refuses hr tk (pda_cons (pd_int) (pda_cons (pd_list_ T.b_list (pda_cons (pd_v 1) (pda_nil))) (pda_cons (pd_v 4) (pda_nil))))))) (DW.pw_or1 (DW.pt_not (pt_tru (pd_call G_l_refuses hr tk (pda_cons (pd_int) (pda_cons (pd_list_ T.b_list (pda_cons (pd_v 1) (pda_nil))) (pda_cons (pd_v 4) (pda_nil)))))))))) (bl_one (st_ret (pd_bl))) (bl_nil))
    (bl_cons (st_if (DW.pt_not (pt_tru (pd_call G_l_rare hr tk (pda_cons (pd_v 0) (pda_cons (pd_int) (pda_nil)))))) (bl_one (st_ret (pd_bl))) (bl_nil))
    (bl_cons (st_setV 7 nd (pd_add (pd_lc [("k", 8)] nd (it_rg1 T.b_range (pda_cons (pd_int) (pda_nil))) rfl (fun _ _ _ _ _ => ⟨_, ti_n 8 nd⟩) (fun _ _ _ _ _ => ⟨_, te_nil⟩) (fun _ _ _ _ _ => ⟨_, pd_sub (pd_mod (pd_int_ T.b_int (pda_cons (pd_add (pd_mul (pd_v 8) (pd_v 8)) (pd_v 3)) (pda_nil))) (pd_int)) (pd_int)⟩)) (pd_lst (pda_cons (pd_pow (pd_int) (pd_int)) (pda_cons (pd_neg (pd_pow (pd_int) (pd_int))) (pda_cons (pd_int) (pda_nil)))))))
    (bl_one (st_ret (pd_call G_l_told hr tk (pda_cons (pd_v 7) (pda_cons (pd_min2 T.b_min (pda_cons (pd_v 2) (pda_cons (pd_int) (pda_nil)))) (pda_cons (pd_call G_l_left hr tk (pda_cons (pd_v 7) (pda_cons (pd_min2 T.b_min (pda_cons (pd_v 2) (pda_cons (pd_int) (pda_nil)))) (pda_nil)))) (pda_nil))))))))))))))⟩
abbrev s_law : Stmt := top 47
def F_law : Fn := fnOf 8 (
    sSeq (sAsg 1 (eCallN 1 F_l_start (aCons (eVar 0) (aNil))))
    (sSeq (sAsgV 2 (eCallN 1 F_l_order_of (aCons (eVar 1) (aNil))))
    (sSeq (sAsgV 3 (eCallN 2 F_l_list (aCons (eVar 1) (aCons (eVar 2) (aNil)))))
    (sSeq (sAsgV 4 (eCallN 2 F_l_list (aCons (eVar 1) (aCons (eVar 2) (aNil)))))
    (sSeq (sAsgV 5 (eCallN 2 F_l_left (aCons (eVar 3) (aCons (eVar 2) (aNil)))))
    (sSeq (sAsgV 6 (eCallN 2 F_l_left (aCons (eVar 4) (aCons (eVar 2) (aNil)))))
    (sSeq (sIf (tB' (eOp dGt (eVar 2) (eC (.int 20000)))) (sRet (eCallN 3 F_l_told (aCons (eOp dAdd (eVar 3) (eVar 4)) (aCons (eVar 2) (aCons (eCallN 2 F_l_joined_left (aCons (eVar 5) (aCons (eVar 6) (aNil)))) (aNil)))))) (sNil))
    (sSeq (sIf (DW.orM (DW.notM (truM (eCallN 3 F_l_told (aCons (eVar 3) (aCons (eVar 2) (aCons (eVar 5) (aNil))))))) (DW.notM (truM (eCallN 3 F_l_told (aCons (eVar 4) (aCons (eVar 2) (aCons (eVar 6) (aNil)))))))) (sRet (eC (.bool false))) (sNil))
    (sSeq (sIf (DW.notM (truM (eCallN 3 F_l_told (aCons (eOp dAdd (eVar 3) (eVar 4)) (aCons (eVar 2) (aCons (eCallN 2 F_l_joined_left (aCons (eVar 5) (aCons (eVar 6) (aNil)))) (aNil))))))) (sRet (eC (.bool false))) (sNil))
    (sSeq (sIf (DW.andM (DW.notM (truM (eVar 5))) (DW.andM (truM (eVar 6)) (truM (eCallN 2 F_cancels (aCons (eOp dAdd (eVar 4) (eVar 3)) (aCons (eVar 2) (aNil))))))) (sRet (eC (.bool false))) (sNil))
    (sSeq (sIf (DW.orM (DW.notM (truM (eCallN 3 F_l_told (aCons (eLst (aNil)) (aCons (eVar 2) (aCons (eLst (aNil)) (aNil))))))) (DW.notM (truM (eCallN 2 F_l_like (aCons (eCallN 2 F_cancels (aCons (eLst (aCons (eCallN 2 F_l_reading (aCons (eVar 1) (aCons (eVar 2) (aNil)))) (aNil))) (aCons (eVar 2) (aNil)))) (aCons (eC (.bool false)) (aNil))))))) (sRet (eC (.bool false))) (sNil))
    (sSeq (sIf (DW.orM (DW.notM (truM (eCallN 4 F_l_changes_hold (aCons (eVar 1) (aCons (eVar 3) (aCons (eVar 2) (aCons (eVar 5) (aNil)))))))) (DW.notM (truM (eCallN 4 F_l_changes_hold (aCons (eVar 1) (aCons (eVar 4) (aCons (eVar 2) (aCons (eVar 6) (aNil))))))))) (sRet (eC (.bool false))) (sNil))
    (sSeq (sAsg 7 (eCallN 2 F_left_over (aCons (eB (b1 nList) (aCons (eVar 3) (aNil))) (aCons (eVar 2) (aNil)))))
    (sSeq (sExpr (mMut 7 pAppend (aCons (eTup (aCons (eC (.int 0)) (aCons (eC (.int 0)) (aNil)))) (aNil))))
    (sRet (eAnd (eCallN 3 F_l_told (aCons (eVar 3) (aCons (eVar 2) (aCons (eVar 5) (aNil))))) (eCallN 3 F_l_refused (aCons (eVar 1) (aCons (eVar 3) (aCons (eVar 2) (aNil)))))))))))))))))))))
theorem sc_law : FnScope ["script", "store", "order", "one", "two", "first", "second", "told"] ["script"] (defScope s_law) := ⟨rfl, rfl, rfl, by decide +kernel, rfl, by decide +kernel, by decide +kernel⟩
theorem ok_law (T : Tx K mg) (G_l_told : Df P w K mg base "_law_told" 9 3 F_l_told) (G_l_refused : Df P w K mg base "_law_refused" 10 3 F_l_refused) (G_left_over : Df P w K mg base "left_over" 8 2 F_left_over) (G_l_changes_hold : Df P w K mg base "_law_changes_hold" 9 4 F_l_changes_hold) (G_l_like : Df P w K mg base "_law_like" 7 2 F_l_like) (G_cancels : Df P w K mg base "cancels" 8 2 F_cancels) (G_l_reading : Df P w K mg base "_law_reading" 5 2 F_l_reading) (G_l_joined_left : Df P w K mg base "_law_joined_left" 1 2 F_l_joined_left) (G_l_left : Df P w K mg base "_law_left" 3 2 F_l_left) (G_l_list : Df P w K mg base "_law_list" 7 2 F_l_list) (G_l_order_of : Df P w K mg base "_law_order_of" 5 1 F_l_order_of) (G_l_start : Df P w K mg base "_law_start" 1 1 F_l_start) {dvs : List V} {f : Addr} {fd : FuncData} (F : FnP K "law" s_law dvs f fd) : FnOk P w K mg base (L2.CX P w) 11 f fd ["script"] (spD mg 1 F_law) := by
  have nd := sc_law.nd
  exact fn_okB F sc_law fun cdv A outer s H E hr tk po => ⟨_, bl_cons (st_set 1 nd (pd_call G_l_start hr tk (pda_cons (pd_v 0) (pda_nil))))
    (bl_cons (st_setV 2 nd (pd_call G_l_order_of hr tk (pda_cons (pd_v 1) (pda_nil))))
    (bl_cons (st_setV 3 nd (pd_call G_l_list hr tk (pda_cons (pd_v 1) (pda_cons (pd_v 2) (pda_nil)))))
    (bl_cons (st_setV 4 nd (pd_call G_l_list hr tk (pda_cons (pd_v 1) (pda_cons (pd_v 2) (pda_nil)))))
    (bl_cons (st_setV 5 nd (pd_call G_l_left hr tk (pda_cons (pd_v 3) (pda_cons (pd_v 2) (pda_nil)))))
    (bl_cons (st_setV 6 nd (pd_call G_l_left hr tk (pda_cons (pd_v 4) (pda_cons (pd_v 2) (pda_nil)))))
    (bl_cons (st_if (pt_gt (pd_v 2) (pd_int)) (bl_one (st_ret (pd_call G_l_told hr tk (pda_cons (pd_add (pd_v 3) (pd_v 4)) (pda_cons (pd_v 2) (pda_cons (pd_call G_l_joined_left hr tk (pda_cons (pd_v 5) (pda_cons (pd_v 6) (pda_nil)))) (pda_nil))))))) (bl_nil))
    (bl_cons (st_if (PDW.t (DW.pw_or (DW.pt_not (pt_tru (pd_call G_l_told hr tk (pda_cons (pd_v 3) (pda_cons (pd_v 2) (pda_cons (pd_v 5) (pda_nil))))))) (DW.pw_or1 (DW.pt_not (pt_tru (pd_call G_l_told hr tk (pda_cons (pd_v 4) (pda_cons (pd_v 2) (pda_cons (pd_v 6) (pda_nil)))))))))) (bl_one (st_ret (pd_bl))) (bl_nil))
    (bl_cons (st_if (DW.pt_not (pt_tru (pd_call G_l_told hr tk (pda_cons (pd_add (pd_v 3) (pd_v 4)) (pda_cons (pd_v 2) (pda_cons (pd_call G_l_joined_left hr tk (pda_cons (pd_v 5) (pda_cons (pd_v 6) (pda_nil)))) (pda_nil))))))) (bl_one (st_ret (pd_bl))) (bl_nil))
    (bl_cons (st_if (PDW.t (DW.pw_and (DW.pt_not (pt_tru (pd_v 5))) (DW.pw_and (pt_tru (pd_v 6)) (DW.pw_and1 (pt_tru (pd_call G_cancels hr tk (pda_cons (pd_add (pd_v 4) (pd_v 3)) (pda_cons (pd_v 2) (pda_nil))))))))) (bl_one (st_ret (pd_bl))) (bl_nil))
    (bl_cons (st_if (PDW.t (DW.pw_or (DW.pt_not (pt_tru (pd_call G_l_told hr tk (pda_cons (pd_lst (pda_nil)) (pda_cons (pd_v 2) (pda_cons (pd_lst (pda_nil)) (pda_nil))))))) (DW.pw_or1 (DW.pt_not (pt_tru (pd_call G_l_like hr tk (pda_cons (pd_call G_cancels hr tk (pda_cons (pd_lst (pda_cons (pd_call G_l_reading hr tk (pda_cons (pd_v 1) (pda_cons (pd_v 2) (pda_nil)))) (pda_nil))) (pda_cons (pd_v 2) (pda_nil)))) (pda_cons (pd_bl) (pda_nil))))))))) (bl_one (st_ret (pd_bl))) (bl_nil))
    (bl_cons (st_if (PDW.t (DW.pw_or (DW.pt_not (pt_tru (pd_call G_l_changes_hold hr tk (pda_cons (pd_v 1) (pda_cons (pd_v 3) (pda_cons (pd_v 2) (pda_cons (pd_v 5) (pda_nil)))))))) (DW.pw_or1 (DW.pt_not (pt_tru (pd_call G_l_changes_hold hr tk (pda_cons (pd_v 1) (pda_cons (pd_v 4) (pda_cons (pd_v 2) (pda_cons (pd_v 6) (pda_nil))))))))))) (bl_one (st_ret (pd_bl))) (bl_nil))
    (bl_cons (st_set 7 nd (pd_call G_left_over hr tk (pda_cons (pd_list_ T.b_list (pda_cons (pd_v 3) (pda_nil))) (pda_cons (pd_v 2) (pda_nil)))))
    (bl_cons (st_expr (pd_append 7 (pv 7) (pda_cons (pd_tup (pda_cons (pd_int) (pda_cons (pd_int) (pda_nil)))) (pda_nil))))
    (bl_one (st_ret (pd_and (pd_call G_l_told hr tk (pda_cons (pd_v 3) (pda_cons (pd_v 2) (pda_cons (pd_v 5) (pda_nil))))) (pd_one (pd_call G_l_refused hr tk (pda_cons (pd_v 1) (pda_cons (pd_v 3) (pda_cons (pd_v 2) (pda_nil))))))))))))))))))))))⟩
end
/-! the law behind its first statement -/
section
variable {P : Program} {w : World} {K : PySem.W.Frag} {mg : Str → Option Value} {base : Heap}
def B_law : SM :=
    sSeq (sAsgV 2 (eCallN 1 F_l_order_of (aCons (eVar 1) (aNil))))
    (sSeq (sAsgV 3 (eCallN 2 F_l_list (aCons (eVar 1) (aCons (eVar 2) (aNil)))))
    (sSeq (sAsgV 4 (eCallN 2 F_l_list (aCons (eVar 1) (aCons (eVar 2) (aNil)))))
    (sSeq (sAsgV 5 (eCallN 2 F_l_left (aCons (eVar 3) (aCons (eVar 2) (aNil)))))
    (sSeq (sAsgV 6 (eCallN 2 F_l_left (aCons (eVar 4) (aCons (eVar 2) (aNil)))))
    (sSeq (sIf (tB' (eOp dGt (eVar 2) (eC (.int 20000)))) (sRet (eCallN 3 F_l_told (aCons (eOp dAdd (eVar 3) (eVar 4)) (aCons (eVar 2) (aCons (eCallN 2 F_l_joined_left (aCons (eVar 5) (aCons (eVar 6) (aNil)))) (aNil)))))) (sNil))
    (sSeq (sIf (DW.orM (DW.notM (truM (eCallN 3 F_l_told (aCons (eVar 3) (aCons (eVar 2) (aCons (eVar 5) (aNil))))))) (DW.notM (truM (eCallN 3 F_l_told (aCons (eVar 4) (aCons (eVar 2) (aCons (eVar 6) (aNil)))))))) (sRet (eC (.bool false))) (sNil))
    (sSeq (sIf (DW.notM (truM (eCallN 3 F_l_told (aCons (eOp dAdd (eVar 3) (eVar 4)) (aCons (eVar 2) (aCons (eCallN 2 F_l_joined_left (aCons (eVar 5) (aCons (eVar 6) (aNil)))) (aNil))))))) (sRet (eC (.bool false))) (sNil))
    (sSeq (sIf (DW.andM (DW.notM (truM (eVar 5))) (DW.andM (truM (eVar 6)) (truM (eCallN 2 F_cancels (aCons (eOp dAdd (eVar 4) (eVar 3)) (aCons (eVar 2) (aNil))))))) (sRet (eC (.bool false))) (sNil))
    (sSeq (sIf (DW.orM (DW.notM (truM (eCallN 3 F_l_told (aCons (eLst (aNil)) (aCons (eVar 2) (aCons (eLst (aNil)) (aNil))))))) (DW.notM (truM (eCallN 2 F_l_like (aCons (eCallN 2 F_cancels (aCons (eLst (aCons (eCallN 2 F_l_reading (aCons (eVar 1) (aCons (eVar 2) (aNil)))) (aNil))) (aCons (eVar 2) (aNil)))) (aCons (eC (.bool false)) (aNil))))))) (sRet (eC (.bool false))) (sNil))
    (sSeq (sIf (DW.orM (DW.notM (truM (eCallN 4 F_l_changes_hold (aCons (eVar 1) (aCons (eVar 3) (aCons (eVar 2) (aCons (eVar 5) (aNil)))))))) (DW.notM (truM (eCallN 4 F_l_changes_hold (aCons (eVar 1) (aCons (eVar 4) (aCons (eVar 2) (aCons (eVar 6) (aNil))))))))) (sRet (eC (.bool false))) (sNil))
    (sSeq (sAsg 7 (eCallN 2 F_left_over (aCons (eB (b1 nList) (aCons (eVar 3) (aNil))) (aCons (eVar 2) (aNil)))))
    (sSeq (sExpr (mMut 7 pAppend (aCons (eTup (aCons (eC (.int 0)) (aCons (eC (.int 0)) (aNil)))) (aNil))))
    (sRet (eAnd (eCallN 3 F_l_told (aCons (eVar 3) (aCons (eVar 2) (aCons (eVar 5) (aNil))))) (eCallN 3 F_l_refused (aCons (eVar 1) (aCons (eVar 3) (aCons (eVar 2) (aNil)))))))))))))))))))
theorem ok_start (T : Tx K mg) {f : Addr} {fd : FuncData} (F : FnP K "_law_start" s_l_start [] f fd) : FnOk P w K mg base (L2.CX P w) 1 f fd ["script"] (spStart K [0, 0, 0, 7, 0]) :=
  DW.ok_start F ⟨rfl, rfl, rfl, by decide +kernel, rfl, by decide +kernel, by decide +kernel⟩ (by decide) fun cdv A outer s H E => (bl_one (st_ret (pd_lst (W := W0) (pda_cons (pd_list_ T.b_list (pda_cons (pd_v 0) (pda_nil))) (pda_cons (pd_int) (pda_cons (pd_int) (pda_cons (pd_int) (pda_cons (pd_int) (pda_cons (pd_int) (pda_nil)))))))))).ps
theorem ok_lawS (T : Tx K mg) (G_l_told : Df P w K mg base "_law_told" 9 3 F_l_told) (G_l_refused : Df P w K mg base "_law_refused" 10 3 F_l_refused) (G_left_over : Df P w K mg base "left_over" 8 2 F_left_over) (G_l_changes_hold : Df P w K mg base "_law_changes_hold" 9 4 F_l_changes_hold) (G_l_like : Df P w K mg base "_law_like" 7 2 F_l_like) (G_cancels : Df P w K mg base "cancels" 8 2 F_cancels) (G_l_reading : Df P w K mg base "_law_reading" 5 2 F_l_reading) (G_l_joined_left : Df P w K mg base "_law_joined_left" 1 2 F_l_joined_left) (G_l_left : Df P w K mg base "_law_left" 3 2 F_l_left) (G_l_list : Df P w K mg base "_law_list" 7 2 F_l_list) (G_l_order_of : Df P w K mg base "_law_order_of" 5 1 F_l_order_of) {fS : Addr} {fdS : FuncData} (GS : FnOk P w K mg base (L2.CX P w) 1 fS fdS ["script"] (spStart K [0, 0, 0, 7, 0])) (mS : mg "_law_start" = some (.ref fS)) (kS : PySem.W.keepIn K (.ref fS) = true) (bS : Binds K fdS ["script"] []) {f : Addr} {fd : FuncData} (F : FnP K "law" s_law [] f fd) : FnOk P w K mg base (L2.CX P w) 11 f fd ["script"] (spLaw K fun ns => ∃ δ', B_law (envL 8 ns [0, 0, 0, 7, 0]) = .ok (.rt (.val (.bool true))) δ') := by
  have nd := sc_law.nd
  have q := ok_lawB (P := P) (w := w) (mg := mg) (base := base) (k := 10) (tl := [0, 0, 0, 7, 0]) F sc_law (by decide) rfl (fun cdv A outer s H E hr => ps_startC GS mS kS bS hr nd (pe_var rfl (Or.inl rfl)) pass_no) (fun cdv A outer s H E hr tk po => ⟨_, bl_cons (st_setV 2 nd (pd_call G_l_order_of hr tk (pda_cons (pd_v 1) (pda_nil))))
    (bl_cons (st_setV 3 nd (pd_call G_l_list hr tk (pda_cons (pd_v 1) (pda_cons (pd_v 2) (pda_nil)))))
    (bl_cons (st_setV 4 nd (pd_call G_l_list hr tk (pda_cons (pd_v 1) (pda_cons (pd_v 2) (pda_nil)))))
    (bl_cons (st_setV 5 nd (pd_call G_l_left hr tk (pda_cons (pd_v 3) (pda_cons (pd_v 2) (pda_nil)))))
    (bl_cons (st_setV 6 nd (pd_call G_l_left hr tk (pda_cons (pd_v 4) (pda_cons (pd_v 2) (pda_nil)))))
    (bl_cons (st_if (pt_gt (pd_v 2) (pd_int)) (bl_one (st_ret (pd_call G_l_told hr tk (pda_cons (pd_add (pd_v 3) (pd_v 4)) (pda_cons (pd_v 2) (pda_cons (pd_call G_l_joined_left hr tk (pda_cons (pd_v 5) (pda_cons (pd_v 6) (pda_nil)))) (pda_nil))))))) (bl_nil))
    (bl_cons (st_if (PDW.t (DW.pw_or (DW.pt_not (pt_tru (pd_call G_l_told hr tk (pda_cons (pd_v 3) (pda_cons (pd_v 2) (pda_cons (pd_v 5) (pda_nil))))))) (DW.pw_or1 (DW.pt_not (pt_tru (pd_call G_l_told hr tk (pda_cons (pd_v 4) (pda_cons (pd_v 2) (pda_cons (pd_v 6) (pda_nil)))))))))) (bl_one (st_ret (pd_bl))) (bl_nil))
    (bl_cons (st_if (DW.pt_not (pt_tru (pd_call G_l_told hr tk (pda_cons (pd_add (pd_v 3) (pd_v 4)) (pda_cons (pd_v 2) (pda_cons (pd_call G_l_joined_left hr tk (pda_cons (pd_v 5) (pda_cons (pd_v 6) (pda_nil)))) (pda_nil))))))) (bl_one (st_ret (pd_bl))) (bl_nil))
    (bl_cons (st_if (PDW.t (DW.pw_and (DW.pt_not (pt_tru (pd_v 5))) (DW.pw_and (pt_tru (pd_v 6)) (DW.pw_and1 (pt_tru (pd_call G_cancels hr tk (pda_cons (pd_add (pd_v 4) (pd_v 3)) (pda_cons (pd_v 2) (pda_nil))))))))) (bl_one (st_ret (pd_bl))) (bl_nil))
    (bl_cons (st_if (PDW.t (DW.pw_or (DW.pt_not (pt_tru (pd_call G_l_told hr tk (pda_cons (pd_lst (pda_nil)) (pda_cons (pd_v 2) (pda_cons (pd_lst (pda_nil)) (pda_nil))))))) (DW.pw_or1 (DW.pt_not (pt_tru (pd_call G_l_like hr tk (pda_cons (pd_call G_cancels hr tk (pda_cons (pd_lst (pda_cons (pd_call G_l_reading hr tk (pda_cons (pd_v 1) (pda_cons (pd_v 2) (pda_nil)))) (pda_nil))) (pda_cons (pd_v 2) (pda_nil)))) (pda_cons (pd_bl) (pda_nil))))))))) (bl_one (st_ret (pd_bl))) (bl_nil))
    (bl_cons (st_if (PDW.t (DW.pw_or (DW.pt_not (pt_tru (pd_call G_l_changes_hold hr tk (pda_cons (pd_v 1) (pda_cons (pd_v 3) (pda_cons (pd_v 2) (pda_cons (pd_v 5) (pda_nil)))))))) (DW.pw_or1 (DW.pt_not (pt_tru (pd_call G_l_changes_hold hr tk (pda_cons (pd_v 1) (pda_cons (pd_v 4) (pda_cons (pd_v 2) (pda_cons (pd_v 6) (pda_nil))))))))))) (bl_one (st_ret (pd_bl))) (bl_nil))
    (bl_cons (st_set 7 nd (pd_call G_left_over hr tk (pda_cons (pd_list_ T.b_list (pda_cons (pd_v 3) (pda_nil))) (pda_cons (pd_v 2) (pda_nil)))))
    (bl_cons (st_expr (pd_append 7 (pv 7) (pda_cons (pd_tup (pda_cons (pd_int) (pda_cons (pd_int) (pda_nil)))) (pda_nil))))
    (bl_one (st_ret (pd_and (pd_call G_l_told hr tk (pda_cons (pd_v 3) (pda_cons (pd_v 2) (pda_cons (pd_v 5) (pda_nil))))) (pd_one (pd_call G_l_refused hr tk (pda_cons (pd_v 1) (pda_cons (pd_v 3) (pda_cons (pd_v 2) (pda_nil)))))))))))))))))))))⟩)
  exact q
end
end K61

set_option Elab.async false
set_option linter.all false
set_option maxRecDepth 100000
set_option maxHeartbeats 2000000
namespace K61
open PySem PySem.Spec PyProof.Rows L2 DW
theorem mulC_lt {i j : Int} {a b : Nat} (hi : i.natAbs < 2 ^ a) (hj : j.natAbs < 2 ^ b) (h : a + b < 1000000) : mulC i j = true := by
  unfold mulC
  have h1 : i.natAbs.log2 ≤ a := by
    by_cases z : i.natAbs = 0
    · rw [z]; simp
    · exact Nat.le_of_lt ((Nat.log2_lt z).mpr hi)
  have h2 : j.natAbs.log2 ≤ b := by
    by_cases z : j.natAbs = 0
    · rw [z]; simp
    · exact Nat.le_of_lt ((Nat.log2_lt z).mpr hj)
  exact decide_eq_true (by omega)
theorem divC_lt {i j : Int} {a : Nat} (h0 : 0 < j) (hj : j.natAbs < 2 ^ a) (h : a < 9000) : divC i j = true := by
  unfold divC
  have h2 : j.natAbs.log2 ≤ a := by
    by_cases z : j.natAbs = 0
    · rw [z]; simp
    · exact Nat.le_of_lt ((Nat.log2_lt z).mpr hj)
  rw [decide_eq_true h0, decide_eq_true (show j.natAbs.log2 < 9000 by omega)]
  rfl
theorem modC_of {i j : Int} (h0 : 0 < j) : modC i j = true := decide_eq_true h0
def onceI (s t : Int) : Int := (s * 6364136223846793005 + t * 1442695040888963407 + 1013904223) % 2305843009213693951
def mixedI (s t : Int) : Int := ((onceI s t / 1048576 * 2862933555777941757 + onceI s t * onceI s t + t * 3037000493) % 1000000000000000003) / 1000
theorem mixed_eq {s t : Int} (hs : s.natAbs < 2 ^ 200) (ht : t.natAbs < 2 ^ 200) : F_l_mixed none [.int s, .int t] = .ok (.val (.int (mixedI s t))) none := by
  have m1 : mulC s 6364136223846793005 = true := mulC_lt hs (b := 80) (by decide) (by decide)
  have m2 : mulC t 1442695040888963407 = true := mulC_lt ht (b := 80) (by decide) (by decide)
  have q1 : (onceI s t).natAbs < 2 ^ 80 := by unfold onceI; omega
  have q2 : (onceI s t / 1048576).natAbs < 2 ^ 80 := by unfold onceI; omega
  have m3 : mulC (onceI s t / 1048576) 2862933555777941757 = true := mulC_lt q2 (b := 80) (by decide) (by decide)
  have m4 : mulC (onceI s t) (onceI s t) = true := mulC_lt q1 q1 (by decide)
  have m5 : mulC t 3037000493 = true := mulC_lt ht (b := 80) (by decide) (by decide)
  unfold onceI at m3 m4
  simp [F_l_mixed, r_bind, r_b1, r_b2, r_b3, r_ret, r_frz1, r_frz2, r_frz3, r_frz4, r_rd1, r_rd2, r_rs1, r_rs2, r_rs3, r_var, r_v1, r_v2, r_v3, r_v4, r_c, r_opnd, r_o1, r_o2, r_rdM, r_opt1, r_lift1, r_eOp, r_eUn, r_boolM, r_tB, r_optB, r_tru, r_and, r_or, r_not, r_bE, r_eAnd, r_eOr, r_eNot, r_eIf, r_condT, r_condF, r_aNil, r_aCons, r_rdsM, r_rdsN, r_rdsC, r_eB, r_nb1, r_nb2, r_vN, r_vC, r_tup, r_lst, r_fits, r_fits0, r_fits1, r_fits2, r_fits3, r_fits4, r_callN, r_callD, r_callM, r_call1, r_argB, r_argB1, r_argB2, r_argV, r_argN, r_back0, r_back0x, r_back1, r_back1x, r_setC, r_set1, r_set2, r_seq, r_s1, r_s2, r_s3, r_s4, r_s5, r_sNil, r_sRet, r_sRetN, r_sExpr, r_sIf, r_sBrk, r_sCont, r_asg, r_asgV, r_a1, r_a2, r_a3, r_a4, r_sFrz, r_fz1, r_fz2, r_fz3, r_raise, r_curL, r_cs1, r_cs2, r_st1, r_storeR, r_stoR, r_stoS, r_mut, r_mutR, r_mutL, r_mutS, r_pApp, r_sFor, r_forN, r_loop, r_forC, r_forR, r_l1, r_l2, r_l3, r_l4, r_l5, r_iRg, r_rg, r_iRg2, r_rg2, r_iSq, r_sq1, r_sq2, r_gN, r_fn, r_f1, r_f2, r_f3, r_f4, r_fin1, r_fin2, r_fin3, r_fin4, r_fb1, r_fb2, r_fin5, r_fin6, r_fin7, r_fc1, r_dAdd, r_dAddL, r_dSub, r_dMul, r_dMod, r_dDiv, r_dPow, r_dNeg, r_dLt, r_dLe, r_dGt, r_dGe, r_nInt, r_nIntB, r_nAbs, r_nLenL, r_nLenT, r_nLenD, r_nMax2, r_nMin2, r_ixL, r_ixT, r_nListL, r_nListT, r_nTupL, r_nDict, r_tru1, r_tru2, r_tru3, r_tru4, r_tru5, r_pExt, r_pIns, r_eqII, r_eqBB, r_neII, r_isN1, r_isN2, r_isN3, r_isN4, r_isN5, r_isN6, r_isi, r_chain, r_ch1, r_ch2, r_rdDict, r_undictD, r_key, r_get2, r_or1, r_or2, r_dix, r_dnew, r_curD, r_ce, r_valOf, r_dput, r_put, r_dictAt, r_dicS, r_eLock, r_sLock, r_lok, r_iDk, r_iDi, r_mapR, r_gT, r_tupT, r_gsN, r_gsC, r_gsR, r_aug, r_aug1, r_addI, r_while, r_sPar, r_oN, r_oS, r_part, r_eSl, r_slTo, r_slFrom, atI, ixN, env0, m1, m2, m3, m4, m5, divC_lt (j := 1048576) (a := 30) (by decide) (by decide) (by decide), divC_lt (j := 1000) (a := 30) (by decide) (by decide) (by decide), mixedI, onceI]
end K61

set_option Elab.async false
set_option linter.all false
set_option maxRecDepth 100000
set_option maxHeartbeats 4000000
namespace K61
open PySem PySem.Spec PyProof.Rows L2 DW
/-! ### draws -/
def sto (cs : List D) (p s l x t : Int) : List D := [.list cs, .int p, .int s, .int l, .int x, .int t]
structure StoA (n : Nat) (cs : List D) (p s l x t : Int) : Prop where
  ci : ∀ d ∈ cs, ∃ i, d = PyData.int i
  len : cs.length ≤ 63
  p0 : 0 ≤ p
  p1 : p ≤ cs.length
  s0 : 0 ≤ s
  l0 : 0 ≤ l
  x0 : 0 ≤ x
  x1 : x < 2 ^ 61
  t0 : 0 ≤ t
  t1 : t ≤ n
def StoOk (n : Nat) (st : List D) : Prop := ∃ cs p s l x t, st = sto cs p s l x t ∧ StoA n cs p s l x t
theorem StoOk.mono {n m : Nat} {st : List D} (h : StoOk n st) (le : n ≤ m) : StoOk m st := by
  obtain ⟨cs, p, s, l, x, t, e, a⟩ := h
  exact ⟨cs, p, s, l, x, t, e, { a with t1 := Int.le_trans a.t1 (by omega) }⟩
theorem mixedI_lt (s t : Int) : 0 ≤ mixedI s t ∧ mixedI s t < 2 ^ 61 := by
  unfold mixedI
  generalize (onceI s t / 1048576 * 2862933555777941757 + onceI s t * onceI s t + t * 3037000493) = q
  omega
theorem move_eq {n : Nat} {cs : List D} {p s l x t : Int} (h : StoA n cs p s l x t) (hp : p < cs.length) : ∃ s' l' x', F_l_move (some (sto cs p s l x t)) [] = .ok (.val .none) (some (sto cs (p + 1) s' l' x' t)) ∧ StoA n cs (p + 1) s' l' x' t := by
  have hlt : p.toNat < cs.length := by have := h.p0; omega
  obtain ⟨c, hc⟩ := h.ci _ (List.getElem_mem hlt)
  have hp0 := h.p0
  have hx0 := h.x0
  have hx1 := h.x1
  have hl := h.len
  have e1 := mixed_eq (s := x + c % 2305843009213693951) (t := p + 7) (by omega) (by omega)
  have mb := mixedI_lt (x + c % 2305843009213693951) (p + 7)
  have c1 : powC 10 18 = true := by decide
  have c2 : powC 10 60 = true := by decide
  have c3 : powC 1000000000000000000000000000000000000000000000000000000000000 12 = true := by decide
  have m1 : modC c 2305843009213693951 = true := modC_of (by decide)
  have hp2 : p < (cs.length : Int) := hp
  by_cases big : c ≥ 1000000000000000000 ∨ c ≤ -1000000000000000000
  · refine ⟨(if c < 0 then -c else c) % (10 ^ 60) ^ 12, l, mixedI (x + c % 2305843009213693951) (p + 7), ?_, ⟨h.ci, h.len, by omega, by omega, Int.emod_nonneg _ (by decide), h.l0, mb.1, mb.2, h.t0, h.t1⟩⟩
    rcases big with big | big
    · simp [F_l_move, sto, r_bind, r_b1, r_b2, r_b3, r_ret, r_frz1, r_frz2, r_frz3, r_frz4, r_rd1, r_rd2, r_rs1, r_rs2, r_rs3, r_var, r_v1, r_v2, r_v3, r_v4, r_c, r_opnd, r_o1, r_o2, r_rdM, r_opt1, r_lift1, r_eOp, r_eUn, r_boolM, r_tB, r_optB, r_tru, r_and, r_or, r_not, r_bE, r_eAnd, r_eOr, r_eNot, r_eIf, r_condT, r_condF, r_aNil, r_aCons, r_rdsM, r_rdsN, r_rdsC, r_eB, r_nb1, r_nb2, r_vN, r_vC, r_tup, r_lst, r_fits, r_fits0, r_fits1, r_fits2, r_fits3, r_fits4, r_callN, r_callD, r_callM, r_call1, r_argB, r_argB1, r_argB2, r_argV, r_argN, r_back0, r_back0x, r_back1, r_back1x, r_setC, r_set1, r_set2, r_seq, r_s1, r_s2, r_s3, r_s4, r_s5, r_sNil, r_sRet, r_sRetN, r_sExpr, r_sIf, r_sBrk, r_sCont, r_asg, r_asgV, r_a1, r_a2, r_a3, r_a4, r_sFrz, r_fz1, r_fz2, r_fz3, r_raise, r_curL, r_cs1, r_cs2, r_st1, r_storeR, r_stoR, r_stoS, r_mut, r_mutR, r_mutL, r_mutS, r_pApp, r_sFor, r_forN, r_loop, r_forC, r_forR, r_l1, r_l2, r_l3, r_l4, r_l5, r_iRg, r_rg, r_iRg2, r_rg2, r_iSq, r_sq1, r_sq2, r_gN, r_fn, r_f1, r_f2, r_f3, r_f4, r_fin1, r_fin2, r_fin3, r_fin4, r_fb1, r_fb2, r_fin5, r_fin6, r_fin7, r_fc1, r_dAdd, r_dAddL, r_dSub, r_dMul, r_dMod, r_dDiv, r_dPow, r_dNeg, r_dLt, r_dLe, r_dGt, r_dGe, r_nInt, r_nIntB, r_nAbs, r_nLenL, r_nLenT, r_nLenD, r_nMax2, r_nMin2, r_ixL, r_ixT, r_nListL, r_nListT, r_nTupL, r_nDict, r_tru1, r_tru2, r_tru3, r_tru4, r_tru5, r_pExt, r_pIns, r_eqII, r_eqBB, r_neII, r_isN1, r_isN2, r_isN3, r_isN4, r_isN5, r_isN6, r_isi, r_chain, r_ch1, r_ch2, r_rdDict, r_undictD, r_key, r_get2, r_or1, r_or2, r_dix, r_dnew, r_curD, r_ce, r_valOf, r_dput, r_put, r_dictAt, r_dicS, r_eLock, r_sLock, r_lok, r_iDk, r_iDi, r_mapR, r_gT, r_tupT, r_gsN, r_gsC, r_gsR, r_aug, r_aug1, r_addI, r_while, r_sPar, r_oN, r_oS, r_part, r_eSl, r_slTo, r_slFrom, atI, ixN, env0, hp0, hp2, hlt, hc, e1, c1, c2, c3, big]
    · have big' : ¬ (1000000000000000000 ≤ c) := by omega
      simp [F_l_move, sto, r_bind, r_b1, r_b2, r_b3, r_ret, r_frz1, r_frz2, r_frz3, r_frz4, r_rd1, r_rd2, r_rs1, r_rs2, r_rs3, r_var, r_v1, r_v2, r_v3, r_v4, r_c, r_opnd, r_o1, r_o2, r_rdM, r_opt1, r_lift1, r_eOp, r_eUn, r_boolM, r_tB, r_optB, r_tru, r_and, r_or, r_not, r_bE, r_eAnd, r_eOr, r_eNot, r_eIf, r_condT, r_condF, r_aNil, r_aCons, r_rdsM, r_rdsN, r_rdsC, r_eB, r_nb1, r_nb2, r_vN, r_vC, r_tup, r_lst, r_fits, r_fits0, r_fits1, r_fits2, r_fits3, r_fits4, r_callN, r_callD, r_callM, r_call1, r_argB, r_argB1, r_argB2, r_argV, r_argN, r_back0, r_back0x, r_back1, r_back1x, r_setC, r_set1, r_set2, r_seq, r_s1, r_s2, r_s3, r_s4, r_s5, r_sNil, r_sRet, r_sRetN, r_sExpr, r_sIf, r_sBrk, r_sCont, r_asg, r_asgV, r_a1, r_a2, r_a3, r_a4, r_sFrz, r_fz1, r_fz2, r_fz3, r_raise, r_curL, r_cs1, r_cs2, r_st1, r_storeR, r_stoR, r_stoS, r_mut, r_mutR, r_mutL, r_mutS, r_pApp, r_sFor, r_forN, r_loop, r_forC, r_forR, r_l1, r_l2, r_l3, r_l4, r_l5, r_iRg, r_rg, r_iRg2, r_rg2, r_iSq, r_sq1, r_sq2, r_gN, r_fn, r_f1, r_f2, r_f3, r_f4, r_fin1, r_fin2, r_fin3, r_fin4, r_fb1, r_fb2, r_fin5, r_fin6, r_fin7, r_fc1, r_dAdd, r_dAddL, r_dSub, r_dMul, r_dMod, r_dDiv, r_dPow, r_dNeg, r_dLt, r_dLe, r_dGt, r_dGe, r_nInt, r_nIntB, r_nAbs, r_nLenL, r_nLenT, r_nLenD, r_nMax2, r_nMin2, r_ixL, r_ixT, r_nListL, r_nListT, r_nTupL, r_nDict, r_tru1, r_tru2, r_tru3, r_tru4, r_tru5, r_pExt, r_pIns, r_eqII, r_eqBB, r_neII, r_isN1, r_isN2, r_isN3, r_isN4, r_isN5, r_isN6, r_isi, r_chain, r_ch1, r_ch2, r_rdDict, r_undictD, r_key, r_get2, r_or1, r_or2, r_dix, r_dnew, r_curD, r_ce, r_valOf, r_dput, r_put, r_dictAt, r_dicS, r_eLock, r_sLock, r_lok, r_iDk, r_iDi, r_mapR, r_gT, r_tupT, r_gsN, r_gsC, r_gsR, r_aug, r_aug1, r_addI, r_while, r_sPar, r_oN, r_oS, r_part, r_eSl, r_slTo, r_slFrom, atI, ixN, env0, hp0, hp2, hlt, hc, e1, c1, c2, c3, big, big']
  · have b1 : ¬ (1000000000000000000 ≤ c) := fun z => big (.inl z)
    have b2 : ¬ (c ≤ -1000000000000000000) := fun z => big (.inr z)
    refine ⟨s, 2, mixedI (x + c % 2305843009213693951) (p + 7), ?_, ⟨h.ci, h.len, by omega, by omega, h.s0, by decide, mb.1, mb.2, h.t0, h.t1⟩⟩
    simp [F_l_move, sto, r_bind, r_b1, r_b2, r_b3, r_ret, r_frz1, r_frz2, r_frz3, r_frz4, r_rd1, r_rd2, r_rs1, r_rs2, r_rs3, r_var, r_v1, r_v2, r_v3, r_v4, r_c, r_opnd, r_o1, r_o2, r_rdM, r_opt1, r_lift1, r_eOp, r_eUn, r_boolM, r_tB, r_optB, r_tru, r_and, r_or, r_not, r_bE, r_eAnd, r_eOr, r_eNot, r_eIf, r_condT, r_condF, r_aNil, r_aCons, r_rdsM, r_rdsN, r_rdsC, r_eB, r_nb1, r_nb2, r_vN, r_vC, r_tup, r_lst, r_fits, r_fits0, r_fits1, r_fits2, r_fits3, r_fits4, r_callN, r_callD, r_callM, r_call1, r_argB, r_argB1, r_argB2, r_argV, r_argN, r_back0, r_back0x, r_back1, r_back1x, r_setC, r_set1, r_set2, r_seq, r_s1, r_s2, r_s3, r_s4, r_s5, r_sNil, r_sRet, r_sRetN, r_sExpr, r_sIf, r_sBrk, r_sCont, r_asg, r_asgV, r_a1, r_a2, r_a3, r_a4, r_sFrz, r_fz1, r_fz2, r_fz3, r_raise, r_curL, r_cs1, r_cs2, r_st1, r_storeR, r_stoR, r_stoS, r_mut, r_mutR, r_mutL, r_mutS, r_pApp, r_sFor, r_forN, r_loop, r_forC, r_forR, r_l1, r_l2, r_l3, r_l4, r_l5, r_iRg, r_rg, r_iRg2, r_rg2, r_iSq, r_sq1, r_sq2, r_gN, r_fn, r_f1, r_f2, r_f3, r_f4, r_fin1, r_fin2, r_fin3, r_fin4, r_fb1, r_fb2, r_fin5, r_fin6, r_fin7, r_fc1, r_dAdd, r_dAddL, r_dSub, r_dMul, r_dMod, r_dDiv, r_dPow, r_dNeg, r_dLt, r_dLe, r_dGt, r_dGe, r_nInt, r_nIntB, r_nAbs, r_nLenL, r_nLenT, r_nLenD, r_nMax2, r_nMin2, r_ixL, r_ixT, r_nListL, r_nListT, r_nTupL, r_nDict, r_tru1, r_tru2, r_tru3, r_tru4, r_tru5, r_pExt, r_pIns, r_eqII, r_eqBB, r_neII, r_isN1, r_isN2, r_isN3, r_isN4, r_isN5, r_isN6, r_isi, r_chain, r_ch1, r_ch2, r_rdDict, r_undictD, r_key, r_get2, r_or1, r_or2, r_dix, r_dnew, r_curD, r_ce, r_valOf, r_dput, r_put, r_dictAt, r_dicS, r_eLock, r_sLock, r_lok, r_iDk, r_iDi, r_mapR, r_gT, r_tupT, r_gsN, r_gsC, r_gsR, r_aug, r_aug1, r_addI, r_while, r_sPar, r_oN, r_oS, r_part, r_eSl, r_slTo, r_slFrom, atI, ixN, env0, hp0, hp2, hlt, hc, e1, c1, c2, c3, b1, b2]
end K61

set_option Elab.async false
set_option linter.all false
set_option maxRecDepth 100000
set_option maxHeartbeats 4000000
namespace K61
open PySem PySem.Spec PyProof.Rows L2 DW
theorem wide_loop {s t many : Int} (hs0 : 0 ≤ s) (hs : s < 2 ^ 61) (ht0 : 0 ≤ t) (ht : t < 2 ^ 150) (hm0 : 2 ≤ many) (hm : many < 2 ^ 300) :
    ∀ (ks : List Int) (n : Nat) (dr re : Int) (sl : Sl), (∀ k ∈ ks, 0 ≤ k ∧ k < 40) → n + ks.length ≤ 40 → 0 ≤ dr → dr < ((2 ^ (50 * (n + 2)) : Nat) : Int) → 0 ≤ re → re < ((2 ^ (50 * (n + 2)) : Nat) : Int) →
    ∃ dr' re' sl', forL (gN 5) B_l_wide_1 (ks.map PyData.int) [.val (.int s), .val (.int t), .val (.int many), .val (.int dr), .val (.int re), sl] = .ok .nx [.val (.int s), .val (.int t), .val (.int many), .val (.int dr'), .val (.int re'), sl'] ∧ 0 ≤ dr' := by
  intro ks
  induction ks with
  | nil => exact fun n dr re sl _ _ h1 _ _ _ => ⟨dr, re, sl, rfl, h1⟩
  | cons k ks ihk =>
    intro n dr re sl hk hl h1 h2 h3 h4
    have hk0 := hk k List.mem_cons_self
    have hl' : n + 1 + ks.length ≤ 40 := by rw [List.length_cons] at hl; omega
    have m1 : mulC many 1000 = true := mulC_lt (a := 301) (b := 10) (by omega) (by decide) (by decide)
    rw [List.map_cons]
    rw [r_forC, r_gN, r_forR]
    by_cases hb : many * 1000 ≤ re
    · exact ⟨dr, re, .val (.int k), by simp [B_l_wide_1, r_bind, r_b1, r_b2, r_b3, r_ret, r_frz1, r_frz2, r_frz3, r_frz4, r_rd1, r_rd2, r_rs1, r_rs2, r_rs3, r_var, r_v1, r_v2, r_v3, r_v4, r_c, r_opnd, r_o1, r_o2, r_rdM, r_opt1, r_lift1, r_eOp, r_eUn, r_boolM, r_tB, r_optB, r_tru, r_and, r_or, r_not, r_bE, r_eAnd, r_eOr, r_eNot, r_eIf, r_condT, r_condF, r_aNil, r_aCons, r_rdsM, r_rdsN, r_rdsC, r_eB, r_nb1, r_nb2, r_vN, r_vC, r_tup, r_lst, r_fits, r_fits0, r_fits1, r_fits2, r_fits3, r_fits4, r_callN, r_callD, r_callM, r_call1, r_argB, r_argB1, r_argB2, r_argV, r_argN, r_back0, r_back0x, r_back1, r_back1x, r_setC, r_set1, r_set2, r_seq, r_s1, r_s2, r_s3, r_s4, r_s5, r_sNil, r_sRet, r_sRetN, r_sExpr, r_sIf, r_sBrk, r_sCont, r_asg, r_asgV, r_a1, r_a2, r_a3, r_a4, r_sFrz, r_fz1, r_fz2, r_fz3, r_raise, r_curL, r_cs1, r_cs2, r_st1, r_storeR, r_stoR, r_stoS, r_mut, r_mutR, r_mutL, r_mutS, r_pApp, r_sFor, r_forN, r_loop, r_forC, r_forR, r_l1, r_l2, r_l3, r_l4, r_l5, r_iRg, r_rg, r_iRg2, r_rg2, r_iSq, r_sq1, r_sq2, r_gN, r_fn, r_f1, r_f2, r_f3, r_f4, r_fin1, r_fin2, r_fin3, r_fin4, r_fb1, r_fb2, r_fin5, r_fin6, r_fin7, r_fc1, r_dAdd, r_dAddL, r_dSub, r_dMul, r_dMod, r_dDiv, r_dPow, r_dNeg, r_dLt, r_dLe, r_dGt, r_dGe, r_nInt, r_nIntB, r_nAbs, r_nLenL, r_nLenT, r_nLenD, r_nMax2, r_nMin2, r_ixL, r_ixT, r_nListL, r_nListT, r_nTupL, r_nDict, r_tru1, r_tru2, r_tru3, r_tru4, r_tru5, r_pExt, r_pIns, r_eqII, r_eqBB, r_neII, r_isN1, r_isN2, r_isN3, r_isN4, r_isN5, r_isN6, r_isi, r_chain, r_ch1, r_ch2, r_rdDict, r_undictD, r_key, r_get2, r_or1, r_or2, r_dix, r_dnew, r_curD, r_ce, r_valOf, r_dput, r_put, r_dictAt, r_dicS, r_eLock, r_sLock, r_lok, r_iDk, r_iDi, r_mapR, r_gT, r_tupT, r_gsN, r_gsC, r_gsR, r_aug, r_aug1, r_addI, r_while, r_sPar, r_oN, r_oS, r_part, r_eSl, r_slTo, r_slFrom, atI, ixN, env0, m1, hb], h1⟩
    · have e1 := mixed_eq (s := s) (t := t + 1000003 * (k + 1)) (by omega) (by omega)
      have mb := mixedI_lt s (t + 1000003 * (k + 1))
      have hP : (2 : Nat) ^ (50 * (n + 1 + 2)) = 2 ^ (50 * (n + 2)) * 2 ^ 50 := by rw [← Nat.pow_add]; congr 1
      have hP1 : (2 : Nat) ^ 100 ≤ 2 ^ (50 * (n + 2)) := Nat.pow_le_pow_right (by decide) (by omega)
      have hn : 50 * (n + 2) ≤ 2100 := by omega
      have ih := fun x y z => ihk (n + 1) x y z (fun j hj => hk j (List.mem_cons_of_mem _ hj)) hl'
      rw [hP] at ih
      have mm : ∀ {i : Int}, 0 ≤ i → i < ((2 ^ (50 * (n + 2)) : Nat) : Int) → mulC i 1000000000000000 = true := fun {i} a b => mulC_lt (a := 50 * (n + 2)) (b := 50) (by omega) (by decide) (by omega)
      have m2 := mm h1 h2
      have m4 := mm h3 h4
      clear mm
      generalize (2 : Nat) ^ (50 * (n + 2)) = q at h2 h4 hP hP1 ih
      have m3 : mulC 1000003 (k + 1) = true := mulC_lt (a := 50) (b := 50) (by decide) (by omega) (by decide)
      have c1 : powC 10 15 = true := by decide
      obtain ⟨dr', re', sl', ih1, ih2⟩ := ih (dr * 1000000000000000 + mixedI s (t + 1000003 * (k + 1))) (re * 1000000000000000) (.val (.int k)) (by omega) (by omega) (by omega) (by omega)
      refine ⟨dr', re', sl', ?_, ih2⟩
      rw [← ih1]
      simp [B_l_wide_1, r_bind, r_b1, r_b2, r_b3, r_ret, r_frz1, r_frz2, r_frz3, r_frz4, r_rd1, r_rd2, r_rs1, r_rs2, r_rs3, r_var, r_v1, r_v2, r_v3, r_v4, r_c, r_opnd, r_o1, r_o2, r_rdM, r_opt1, r_lift1, r_eOp, r_eUn, r_boolM, r_tB, r_optB, r_tru, r_and, r_or, r_not, r_bE, r_eAnd, r_eOr, r_eNot, r_eIf, r_condT, r_condF, r_aNil, r_aCons, r_rdsM, r_rdsN, r_rdsC, r_eB, r_nb1, r_nb2, r_vN, r_vC, r_tup, r_lst, r_fits, r_fits0, r_fits1, r_fits2, r_fits3, r_fits4, r_callN, r_callD, r_callM, r_call1, r_argB, r_argB1, r_argB2, r_argV, r_argN, r_back0, r_back0x, r_back1, r_back1x, r_setC, r_set1, r_set2, r_seq, r_s1, r_s2, r_s3, r_s4, r_s5, r_sNil, r_sRet, r_sRetN, r_sExpr, r_sIf, r_sBrk, r_sCont, r_asg, r_asgV, r_a1, r_a2, r_a3, r_a4, r_sFrz, r_fz1, r_fz2, r_fz3, r_raise, r_curL, r_cs1, r_cs2, r_st1, r_storeR, r_stoR, r_stoS, r_mut, r_mutR, r_mutL, r_mutS, r_pApp, r_sFor, r_forN, r_loop, r_forC, r_forR, r_l1, r_l2, r_l3, r_l4, r_l5, r_iRg, r_rg, r_iRg2, r_rg2, r_iSq, r_sq1, r_sq2, r_gN, r_fn, r_f1, r_f2, r_f3, r_f4, r_fin1, r_fin2, r_fin3, r_fin4, r_fb1, r_fb2, r_fin5, r_fin6, r_fin7, r_fc1, r_dAdd, r_dAddL, r_dSub, r_dMul, r_dMod, r_dDiv, r_dPow, r_dNeg, r_dLt, r_dLe, r_dGt, r_dGe, r_nInt, r_nIntB, r_nAbs, r_nLenL, r_nLenT, r_nLenD, r_nMax2, r_nMin2, r_ixL, r_ixT, r_nListL, r_nListT, r_nTupL, r_nDict, r_tru1, r_tru2, r_tru3, r_tru4, r_tru5, r_pExt, r_pIns, r_eqII, r_eqBB, r_neII, r_isN1, r_isN2, r_isN3, r_isN4, r_isN5, r_isN6, r_isi, r_chain, r_ch1, r_ch2, r_rdDict, r_undictD, r_key, r_get2, r_or1, r_or2, r_dix, r_dnew, r_curD, r_ce, r_valOf, r_dput, r_put, r_dictAt, r_dicS, r_eLock, r_sLock, r_lok, r_iDk, r_iDi, r_mapR, r_gT, r_tupT, r_gsN, r_gsC, r_gsR, r_aug, r_aug1, r_addI, r_while, r_sPar, r_oN, r_oS, r_part, r_eSl, r_slTo, r_slFrom, atI, ixN, env0, m1, m2, m3, m4, c1, e1, hb]
theorem rangeD_eq (lo hi : Int) : rangeD lo hi = ((List.range (hi - lo).toNat).map fun (i : Nat) => lo + (i : Int)).map PyData.int := by
  unfold rangeD
  rw [List.map_map]
  rfl
theorem wide_eq {s t many : Int} (hs0 : 0 ≤ s) (hs : s < 2 ^ 61) (ht0 : 0 ≤ t) (ht : t < 2 ^ 150) (hm0 : 2 ≤ many) (hm : many < 2 ^ 300) :
    ∃ r, F_l_wide none [.int s, .int t, .int many] = .ok (.val (.int r)) none ∧ 0 ≤ r ∧ r < many := by
  have e1 := mixed_eq (s := s) (t := t) (by omega) (by omega)
  have mb := mixedI_lt s t
  have c1 : powC 10 15 = true := by decide
  obtain ⟨dr, re, sl, e2, h⟩ := wide_loop hs0 hs ht0 ht hm0 hm ((List.range (40 - 0 : Int).toNat).map fun (i : Nat) => (0 : Int) + (i : Int)) 0 (mixedI s t) 1000000000000000 .un (by simp; omega) (by simp) mb.1 (by simp; omega) (by decide) (by simp)
  rw [← rangeD_eq] at e2
  have hm1 : 0 < many := by omega
  have s1 : small62 40 = true := by decide
  refine ⟨dr % many, ?_, Int.emod_nonneg _ (by omega), Int.emod_lt_of_pos _ hm1⟩
  simp [F_l_wide, r_bind, r_b1, r_b2, r_b3, r_ret, r_frz1, r_frz2, r_frz3, r_frz4, r_rd1, r_rd2, r_rs1, r_rs2, r_rs3, r_var, r_v1, r_v2, r_v3, r_v4, r_c, r_opnd, r_o1, r_o2, r_rdM, r_opt1, r_lift1, r_eOp, r_eUn, r_boolM, r_tB, r_optB, r_tru, r_and, r_or, r_not, r_bE, r_eAnd, r_eOr, r_eNot, r_eIf, r_condT, r_condF, r_aNil, r_aCons, r_rdsM, r_rdsN, r_rdsC, r_eB, r_nb1, r_nb2, r_vN, r_vC, r_tup, r_lst, r_fits, r_fits0, r_fits1, r_fits2, r_fits3, r_fits4, r_callN, r_callD, r_callM, r_call1, r_argB, r_argB1, r_argB2, r_argV, r_argN, r_back0, r_back0x, r_back1, r_back1x, r_setC, r_set1, r_set2, r_seq, r_s1, r_s2, r_s3, r_s4, r_s5, r_sNil, r_sRet, r_sRetN, r_sExpr, r_sIf, r_sBrk, r_sCont, r_asg, r_asgV, r_a1, r_a2, r_a3, r_a4, r_sFrz, r_fz1, r_fz2, r_fz3, r_raise, r_curL, r_cs1, r_cs2, r_st1, r_storeR, r_stoR, r_stoS, r_mut, r_mutR, r_mutL, r_mutS, r_pApp, r_sFor, r_forN, r_loop, r_forC, r_forR, r_l1, r_l2, r_l3, r_l4, r_l5, r_iRg, r_rg, r_iRg2, r_rg2, r_iSq, r_sq1, r_sq2, r_gN, r_fn, r_f1, r_f2, r_f3, r_f4, r_fin1, r_fin2, r_fin3, r_fin4, r_fb1, r_fb2, r_fin5, r_fin6, r_fin7, r_fc1, r_dAdd, r_dAddL, r_dSub, r_dMul, r_dMod, r_dDiv, r_dPow, r_dNeg, r_dLt, r_dLe, r_dGt, r_dGe, r_nInt, r_nIntB, r_nAbs, r_nLenL, r_nLenT, r_nLenD, r_nMax2, r_nMin2, r_ixL, r_ixT, r_nListL, r_nListT, r_nTupL, r_nDict, r_tru1, r_tru2, r_tru3, r_tru4, r_tru5, r_pExt, r_pIns, r_eqII, r_eqBB, r_neII, r_isN1, r_isN2, r_isN3, r_isN4, r_isN5, r_isN6, r_isi, r_chain, r_ch1, r_ch2, r_rdDict, r_undictD, r_key, r_get2, r_or1, r_or2, r_dix, r_dnew, r_curD, r_ce, r_valOf, r_dput, r_put, r_dictAt, r_dicS, r_eLock, r_sLock, r_lok, r_iDk, r_iDi, r_mapR, r_gT, r_tupT, r_gsN, r_gsC, r_gsR, r_aug, r_aug1, r_addI, r_while, r_sPar, r_oN, r_oS, r_part, r_eSl, r_slTo, r_slFrom, atI, ixN, env0, e1, c1, s1, e2, hm1]
end K61

set_option Elab.async false
set_option linter.all false
set_option maxRecDepth 100000
set_option maxHeartbeats 4000000
namespace K61
open PySem PySem.Spec PyProof.Rows L2 DW
theorem take_loop {n : Nat} {cs : List D} {t : Int} {many : D} {sl3 : Sl} : ∀ (ks : List Int) {p s l x : Int} (sl : Sl), StoA n cs p s l x t →
    ∃ p' s' l' x' sl', forL (gN 2) B_l_take_1 (ks.map PyData.int) [.prm (sto cs p s l x t), .val many, sl, sl3] = .ok .nx [.prm (sto cs p' s' l' x' t), .val many, sl', sl3] ∧ StoA n cs p' s' l' x' t := by
  intro ks
  induction ks with
  | nil => exact fun {p s l x} sl h => ⟨p, s, l, x, sl, rfl, h⟩
  | cons k ks ih =>
    intro p s l x sl h
    rw [List.map_cons]
    rw [r_forC, r_gN, r_forR]
    by_cases c1 : 0 < s
    · exact ⟨p, s, l, x, .val (.int k), by simp [B_l_take_1, sto, r_bind, r_b1, r_b2, r_b3, r_ret, r_frz1, r_frz2, r_frz3, r_frz4, r_rd1, r_rd2, r_rs1, r_rs2, r_rs3, r_var, r_v1, r_v2, r_v3, r_v4, r_c, r_opnd, r_o1, r_o2, r_rdM, r_opt1, r_lift1, r_eOp, r_eUn, r_boolM, r_tB, r_optB, r_tru, r_and, r_or, r_not, r_bE, r_eAnd, r_eOr, r_eNot, r_eIf, r_condT, r_condF, r_aNil, r_aCons, r_rdsM, r_rdsN, r_rdsC, r_eB, r_nb1, r_nb2, r_vN, r_vC, r_tup, r_lst, r_fits, r_fits0, r_fits1, r_fits2, r_fits3, r_fits4, r_callN, r_callD, r_callM, r_call1, r_argB, r_argB1, r_argB2, r_argV, r_argN, r_back0, r_back0x, r_back1, r_back1x, r_setC, r_set1, r_set2, r_seq, r_s1, r_s2, r_s3, r_s4, r_s5, r_sNil, r_sRet, r_sRetN, r_sExpr, r_sIf, r_sBrk, r_sCont, r_asg, r_asgV, r_a1, r_a2, r_a3, r_a4, r_sFrz, r_fz1, r_fz2, r_fz3, r_raise, r_curL, r_cs1, r_cs2, r_st1, r_storeR, r_stoR, r_stoS, r_mut, r_mutR, r_mutL, r_mutS, r_pApp, r_sFor, r_forN, r_loop, r_forC, r_forR, r_l1, r_l2, r_l3, r_l4, r_l5, r_iRg, r_rg, r_iRg2, r_rg2, r_iSq, r_sq1, r_sq2, r_gN, r_fn, r_f1, r_f2, r_f3, r_f4, r_fin1, r_fin2, r_fin3, r_fin4, r_fb1, r_fb2, r_fin5, r_fin6, r_fin7, r_fc1, r_dAdd, r_dAddL, r_dSub, r_dMul, r_dMod, r_dDiv, r_dPow, r_dNeg, r_dLt, r_dLe, r_dGt, r_dGe, r_nInt, r_nIntB, r_nAbs, r_nLenL, r_nLenT, r_nLenD, r_nMax2, r_nMin2, r_ixL, r_ixT, r_nListL, r_nListT, r_nTupL, r_nDict, r_tru1, r_tru2, r_tru3, r_tru4, r_tru5, r_pExt, r_pIns, r_eqII, r_eqBB, r_neII, r_isN1, r_isN2, r_isN3, r_isN4, r_isN5, r_isN6, r_isi, r_chain, r_ch1, r_ch2, r_rdDict, r_undictD, r_key, r_get2, r_or1, r_or2, r_dix, r_dnew, r_curD, r_ce, r_valOf, r_dput, r_put, r_dictAt, r_dicS, r_eLock, r_sLock, r_lok, r_iDk, r_iDi, r_mapR, r_gT, r_tupT, r_gsN, r_gsC, r_gsR, r_aug, r_aug1, r_addI, r_while, r_sPar, r_oN, r_oS, r_part, r_eSl, r_slTo, r_slFrom, atI, ixN, env0, c1], h⟩
    by_cases c2 : 0 < l
    · exact ⟨p, s, l, x, .val (.int k), by simp [B_l_take_1, sto, r_bind, r_b1, r_b2, r_b3, r_ret, r_frz1, r_frz2, r_frz3, r_frz4, r_rd1, r_rd2, r_rs1, r_rs2, r_rs3, r_var, r_v1, r_v2, r_v3, r_v4, r_c, r_opnd, r_o1, r_o2, r_rdM, r_opt1, r_lift1, r_eOp, r_eUn, r_boolM, r_tB, r_optB, r_tru, r_and, r_or, r_not, r_bE, r_eAnd, r_eOr, r_eNot, r_eIf, r_condT, r_condF, r_aNil, r_aCons, r_rdsM, r_rdsN, r_rdsC, r_eB, r_nb1, r_nb2, r_vN, r_vC, r_tup, r_lst, r_fits, r_fits0, r_fits1, r_fits2, r_fits3, r_fits4, r_callN, r_callD, r_callM, r_call1, r_argB, r_argB1, r_argB2, r_argV, r_argN, r_back0, r_back0x, r_back1, r_back1x, r_setC, r_set1, r_set2, r_seq, r_s1, r_s2, r_s3, r_s4, r_s5, r_sNil, r_sRet, r_sRetN, r_sExpr, r_sIf, r_sBrk, r_sCont, r_asg, r_asgV, r_a1, r_a2, r_a3, r_a4, r_sFrz, r_fz1, r_fz2, r_fz3, r_raise, r_curL, r_cs1, r_cs2, r_st1, r_storeR, r_stoR, r_stoS, r_mut, r_mutR, r_mutL, r_mutS, r_pApp, r_sFor, r_forN, r_loop, r_forC, r_forR, r_l1, r_l2, r_l3, r_l4, r_l5, r_iRg, r_rg, r_iRg2, r_rg2, r_iSq, r_sq1, r_sq2, r_gN, r_fn, r_f1, r_f2, r_f3, r_f4, r_fin1, r_fin2, r_fin3, r_fin4, r_fb1, r_fb2, r_fin5, r_fin6, r_fin7, r_fc1, r_dAdd, r_dAddL, r_dSub, r_dMul, r_dMod, r_dDiv, r_dPow, r_dNeg, r_dLt, r_dLe, r_dGt, r_dGe, r_nInt, r_nIntB, r_nAbs, r_nLenL, r_nLenT, r_nLenD, r_nMax2, r_nMin2, r_ixL, r_ixT, r_nListL, r_nListT, r_nTupL, r_nDict, r_tru1, r_tru2, r_tru3, r_tru4, r_tru5, r_pExt, r_pIns, r_eqII, r_eqBB, r_neII, r_isN1, r_isN2, r_isN3, r_isN4, r_isN5, r_isN6, r_isi, r_chain, r_ch1, r_ch2, r_rdDict, r_undictD, r_key, r_get2, r_or1, r_or2, r_dix, r_dnew, r_curD, r_ce, r_valOf, r_dput, r_put, r_dictAt, r_dicS, r_eLock, r_sLock, r_lok, r_iDk, r_iDi, r_mapR, r_gT, r_tupT, r_gsN, r_gsC, r_gsR, r_aug, r_aug1, r_addI, r_while, r_sPar, r_oN, r_oS, r_part, r_eSl, r_slTo, r_slFrom, atI, ixN, env0, c1, c2], h⟩
    by_cases c3 : (cs.length : Int) ≤ p
    · exact ⟨p, s, l, x, .val (.int k), by simp [B_l_take_1, sto, r_bind, r_b1, r_b2, r_b3, r_ret, r_frz1, r_frz2, r_frz3, r_frz4, r_rd1, r_rd2, r_rs1, r_rs2, r_rs3, r_var, r_v1, r_v2, r_v3, r_v4, r_c, r_opnd, r_o1, r_o2, r_rdM, r_opt1, r_lift1, r_eOp, r_eUn, r_boolM, r_tB, r_optB, r_tru, r_and, r_or, r_not, r_bE, r_eAnd, r_eOr, r_eNot, r_eIf, r_condT, r_condF, r_aNil, r_aCons, r_rdsM, r_rdsN, r_rdsC, r_eB, r_nb1, r_nb2, r_vN, r_vC, r_tup, r_lst, r_fits, r_fits0, r_fits1, r_fits2, r_fits3, r_fits4, r_callN, r_callD, r_callM, r_call1, r_argB, r_argB1, r_argB2, r_argV, r_argN, r_back0, r_back0x, r_back1, r_back1x, r_setC, r_set1, r_set2, r_seq, r_s1, r_s2, r_s3, r_s4, r_s5, r_sNil, r_sRet, r_sRetN, r_sExpr, r_sIf, r_sBrk, r_sCont, r_asg, r_asgV, r_a1, r_a2, r_a3, r_a4, r_sFrz, r_fz1, r_fz2, r_fz3, r_raise, r_curL, r_cs1, r_cs2, r_st1, r_storeR, r_stoR, r_stoS, r_mut, r_mutR, r_mutL, r_mutS, r_pApp, r_sFor, r_forN, r_loop, r_forC, r_forR, r_l1, r_l2, r_l3, r_l4, r_l5, r_iRg, r_rg, r_iRg2, r_rg2, r_iSq, r_sq1, r_sq2, r_gN, r_fn, r_f1, r_f2, r_f3, r_f4, r_fin1, r_fin2, r_fin3, r_fin4, r_fb1, r_fb2, r_fin5, r_fin6, r_fin7, r_fc1, r_dAdd, r_dAddL, r_dSub, r_dMul, r_dMod, r_dDiv, r_dPow, r_dNeg, r_dLt, r_dLe, r_dGt, r_dGe, r_nInt, r_nIntB, r_nAbs, r_nLenL, r_nLenT, r_nLenD, r_nMax2, r_nMin2, r_ixL, r_ixT, r_nListL, r_nListT, r_nTupL, r_nDict, r_tru1, r_tru2, r_tru3, r_tru4, r_tru5, r_pExt, r_pIns, r_eqII, r_eqBB, r_neII, r_isN1, r_isN2, r_isN3, r_isN4, r_isN5, r_isN6, r_isi, r_chain, r_ch1, r_ch2, r_rdDict, r_undictD, r_key, r_get2, r_or1, r_or2, r_dix, r_dnew, r_curD, r_ce, r_valOf, r_dput, r_put, r_dictAt, r_dicS, r_eLock, r_sLock, r_lok, r_iDk, r_iDi, r_mapR, r_gT, r_tupT, r_gsN, r_gsC, r_gsR, r_aug, r_aug1, r_addI, r_while, r_sPar, r_oN, r_oS, r_part, r_eSl, r_slTo, r_slFrom, atI, ixN, env0, c1, c2, c3], h⟩
    obtain ⟨s1, l1, x1, e1, h1⟩ := move_eq h (by omega)
    obtain ⟨p', s', l', x', sl', e2, h2⟩ := ih (.val (.int k)) h1
    refine ⟨p', s', l', x', sl', ?_, h2⟩
    rw [← e2]
    unfold sto at e1
    simp [B_l_take_1, sto, r_bind, r_b1, r_b2, r_b3, r_ret, r_frz1, r_frz2, r_frz3, r_frz4, r_rd1, r_rd2, r_rs1, r_rs2, r_rs3, r_var, r_v1, r_v2, r_v3, r_v4, r_c, r_opnd, r_o1, r_o2, r_rdM, r_opt1, r_lift1, r_eOp, r_eUn, r_boolM, r_tB, r_optB, r_tru, r_and, r_or, r_not, r_bE, r_eAnd, r_eOr, r_eNot, r_eIf, r_condT, r_condF, r_aNil, r_aCons, r_rdsM, r_rdsN, r_rdsC, r_eB, r_nb1, r_nb2, r_vN, r_vC, r_tup, r_lst, r_fits, r_fits0, r_fits1, r_fits2, r_fits3, r_fits4, r_callN, r_callD, r_callM, r_call1, r_argB, r_argB1, r_argB2, r_argV, r_argN, r_back0, r_back0x, r_back1, r_back1x, r_setC, r_set1, r_set2, r_seq, r_s1, r_s2, r_s3, r_s4, r_s5, r_sNil, r_sRet, r_sRetN, r_sExpr, r_sIf, r_sBrk, r_sCont, r_asg, r_asgV, r_a1, r_a2, r_a3, r_a4, r_sFrz, r_fz1, r_fz2, r_fz3, r_raise, r_curL, r_cs1, r_cs2, r_st1, r_storeR, r_stoR, r_stoS, r_mut, r_mutR, r_mutL, r_mutS, r_pApp, r_sFor, r_forN, r_loop, r_forC, r_forR, r_l1, r_l2, r_l3, r_l4, r_l5, r_iRg, r_rg, r_iRg2, r_rg2, r_iSq, r_sq1, r_sq2, r_gN, r_fn, r_f1, r_f2, r_f3, r_f4, r_fin1, r_fin2, r_fin3, r_fin4, r_fb1, r_fb2, r_fin5, r_fin6, r_fin7, r_fc1, r_dAdd, r_dAddL, r_dSub, r_dMul, r_dMod, r_dDiv, r_dPow, r_dNeg, r_dLt, r_dLe, r_dGt, r_dGe, r_nInt, r_nIntB, r_nAbs, r_nLenL, r_nLenT, r_nLenD, r_nMax2, r_nMin2, r_ixL, r_ixT, r_nListL, r_nListT, r_nTupL, r_nDict, r_tru1, r_tru2, r_tru3, r_tru4, r_tru5, r_pExt, r_pIns, r_eqII, r_eqBB, r_neII, r_isN1, r_isN2, r_isN3, r_isN4, r_isN5, r_isN6, r_isi, r_chain, r_ch1, r_ch2, r_rdDict, r_undictD, r_key, r_get2, r_or1, r_or2, r_dix, r_dnew, r_curD, r_ce, r_valOf, r_dput, r_put, r_dictAt, r_dicS, r_eLock, r_sLock, r_lok, r_iDk, r_iDi, r_mapR, r_gT, r_tupT, r_gsN, r_gsC, r_gsR, r_aug, r_aug1, r_addI, r_while, r_sPar, r_oN, r_oS, r_part, r_eSl, r_slTo, r_slFrom, atI, ixN, env0, c1, c2, c3, e1]
theorem take_eq {n : Nat} {st : List D} (h : StoOk n st) (hn : n ≤ 1000000000) {many : Int} (hm1 : 1 ≤ many) (hm : many < 2 ^ 300) :
    ∃ r st', F_l_take (some st) [.int many] = .ok (.val (.int r)) (some st') ∧ StoOk (n + 1) st' ∧ 0 ≤ r ∧ r < many := by
  obtain ⟨cs, p, s, l, x, t, rfl, a⟩ := h
  by_cases h2 : many < 2
  · exact ⟨0, sto cs p s l x t, by simp -implicitDefEqProofs [F_l_take, r_bind, r_b1, r_b2, r_b3, r_ret, r_frz1, r_frz2, r_frz3, r_frz4, r_rd1, r_rd2, r_rs1, r_rs2, r_rs3, r_var, r_v1, r_v2, r_v3, r_v4, r_c, r_opnd, r_o1, r_o2, r_rdM, r_opt1, r_lift1, r_eOp, r_eUn, r_boolM, r_tB, r_optB, r_tru, r_and, r_or, r_not, r_bE, r_eAnd, r_eOr, r_eNot, r_eIf, r_condT, r_condF, r_aNil, r_aCons, r_rdsM, r_rdsN, r_rdsC, r_eB, r_nb1, r_nb2, r_vN, r_vC, r_tup, r_lst, r_fits, r_fits0, r_fits1, r_fits2, r_fits3, r_fits4, r_callN, r_callD, r_callM, r_call1, r_argB, r_argB1, r_argB2, r_argV, r_argN, r_back0, r_back0x, r_back1, r_back1x, r_setC, r_set1, r_set2, r_seq, r_s1, r_s2, r_s3, r_s4, r_s5, r_sNil, r_sRet, r_sRetN, r_sExpr, r_sIf, r_sBrk, r_sCont, r_asg, r_asgV, r_a1, r_a2, r_a3, r_a4, r_sFrz, r_fz1, r_fz2, r_fz3, r_raise, r_curL, r_cs1, r_cs2, r_st1, r_storeR, r_stoR, r_stoS, r_mut, r_mutR, r_mutL, r_mutS, r_pApp, r_sFor, r_forN, r_loop, r_forC, r_forR, r_l1, r_l2, r_l3, r_l4, r_l5, r_iRg, r_rg, r_iRg2, r_rg2, r_iSq, r_sq1, r_sq2, r_gN, r_fn, r_f1, r_f2, r_f3, r_f4, r_fin1, r_fin2, r_fin3, r_fin4, r_fb1, r_fb2, r_fin5, r_fin6, r_fin7, r_fc1, r_dAdd, r_dAddL, r_dSub, r_dMul, r_dMod, r_dDiv, r_dPow, r_dNeg, r_dLt, r_dLe, r_dGt, r_dGe, r_nInt, r_nIntB, r_nAbs, r_nLenL, r_nLenT, r_nLenD, r_nMax2, r_nMin2, r_ixL, r_ixT, r_nListL, r_nListT, r_nTupL, r_nDict, r_tru1, r_tru2, r_tru3, r_tru4, r_tru5, r_pExt, r_pIns, r_eqII, r_eqBB, r_neII, r_isN1, r_isN2, r_isN3, r_isN4, r_isN5, r_isN6, r_isi, r_chain, r_ch1, r_ch2, r_rdDict, r_undictD, r_key, r_get2, r_or1, r_or2, r_dix, r_dnew, r_curD, r_ce, r_valOf, r_dput, r_put, r_dictAt, r_dicS, r_eLock, r_sLock, r_lok, r_iDk, r_iDi, r_mapR, r_gT, r_tupT, r_gsN, r_gsC, r_gsR, r_aug, r_aug1, r_addI, r_while, r_sPar, r_oN, r_oS, r_part, r_eSl, r_slTo, r_slFrom, atI, ixN, env0, h2], ⟨cs, p, s, l, x, t, rfl, { a with t1 := by have := a.t1; omega }⟩, by decide, by omega⟩
  have a1 : StoA (n + 1) cs p s l x (t + 1) := { a with t0 := by have := a.t0; omega, t1 := by have := a.t1; omega }
  have s1 : small62 (cs.length : Int) = true := by
    have := a.len
    unfold small62
    rw [decide_eq_true (by omega), decide_eq_true (by omega)]
    rfl
  obtain ⟨p', s', l', x', sl', e2, b⟩ := take_loop (many := .int many) (sl3 := .un) ((List.range ((cs.length : Int) - 0).toNat).map fun (i : Nat) => (0 : Int) + (i : Int)) .un a1
  rw [← rangeD_eq] at e2
  have ht1 := b.t1
  unfold sto at e2
  have hd : divC s' many = true := divC_lt (a := 300) (by omega) (by omega) (by decide)
  have hmp : 0 < many := by omega
  by_cases c : 0 < s'
  · refine ⟨s' % many, sto cs p' (s' / many) l' x' (t + 1), ?_, ⟨cs, p', s' / many, l', x', t + 1, rfl, { b with s0 := Int.ediv_nonneg b.s0 (by omega) }⟩, Int.emod_nonneg _ (by omega), Int.emod_lt_of_pos _ hmp⟩
    simp -implicitDefEqProofs [F_l_take, sto, r_bind, r_b1, r_b2, r_b3, r_ret, r_frz1, r_frz2, r_frz3, r_frz4, r_rd1, r_rd2, r_rs1, r_rs2, r_rs3, r_var, r_v1, r_v2, r_v3, r_v4, r_c, r_opnd, r_o1, r_o2, r_rdM, r_opt1, r_lift1, r_eOp, r_eUn, r_boolM, r_tB, r_optB, r_tru, r_and, r_or, r_not, r_bE, r_eAnd, r_eOr, r_eNot, r_eIf, r_condT, r_condF, r_aNil, r_aCons, r_rdsM, r_rdsN, r_rdsC, r_eB, r_nb1, r_nb2, r_vN, r_vC, r_tup, r_lst, r_fits, r_fits0, r_fits1, r_fits2, r_fits3, r_fits4, r_callN, r_callD, r_callM, r_call1, r_argB, r_argB1, r_argB2, r_argV, r_argN, r_back0, r_back0x, r_back1, r_back1x, r_setC, r_set1, r_set2, r_seq, r_s1, r_s2, r_s3, r_s4, r_s5, r_sNil, r_sRet, r_sRetN, r_sExpr, r_sIf, r_sBrk, r_sCont, r_asg, r_asgV, r_a1, r_a2, r_a3, r_a4, r_sFrz, r_fz1, r_fz2, r_fz3, r_raise, r_curL, r_cs1, r_cs2, r_st1, r_storeR, r_stoR, r_stoS, r_mut, r_mutR, r_mutL, r_mutS, r_pApp, r_sFor, r_forN, r_loop, r_forC, r_forR, r_l1, r_l2, r_l3, r_l4, r_l5, r_iRg, r_rg, r_iRg2, r_rg2, r_iSq, r_sq1, r_sq2, r_gN, r_fn, r_f1, r_f2, r_f3, r_f4, r_fin1, r_fin2, r_fin3, r_fin4, r_fb1, r_fb2, r_fin5, r_fin6, r_fin7, r_fc1, r_dAdd, r_dAddL, r_dSub, r_dMul, r_dMod, r_dDiv, r_dPow, r_dNeg, r_dLt, r_dLe, r_dGt, r_dGe, r_nInt, r_nIntB, r_nAbs, r_nLenL, r_nLenT, r_nLenD, r_nMax2, r_nMin2, r_ixL, r_ixT, r_nListL, r_nListT, r_nTupL, r_nDict, r_tru1, r_tru2, r_tru3, r_tru4, r_tru5, r_pExt, r_pIns, r_eqII, r_eqBB, r_neII, r_isN1, r_isN2, r_isN3, r_isN4, r_isN5, r_isN6, r_isi, r_chain, r_ch1, r_ch2, r_rdDict, r_undictD, r_key, r_get2, r_or1, r_or2, r_dix, r_dnew, r_curD, r_ce, r_valOf, r_dput, r_put, r_dictAt, r_dicS, r_eLock, r_sLock, r_lok, r_iDk, r_iDi, r_mapR, r_gT, r_tupT, r_gsN, r_gsC, r_gsR, r_aug, r_aug1, r_addI, r_while, r_sPar, r_oN, r_oS, r_part, r_eSl, r_slTo, r_slFrom, atI, ixN, env0, h2, s1, e2, c, hd, hmp]
  · obtain ⟨r, e3, r0, r1⟩ := wide_eq b.x0 b.x1 b.t0 (by omega) (by omega : 2 ≤ many) hm
    refine ⟨r, sto cs p' s' (if 0 < l' - 1 then l' - 1 else 0) x' (t + 1), ?_, ⟨cs, p', s', _, x', t + 1, rfl, { b with l0 := by split <;> omega }⟩, r0, r1⟩
    by_cases c4 : 0 < l' - 1
    · simp -implicitDefEqProofs [F_l_take, sto, r_bind, r_b1, r_b2, r_b3, r_ret, r_frz1, r_frz2, r_frz3, r_frz4, r_rd1, r_rd2, r_rs1, r_rs2, r_rs3, r_var, r_v1, r_v2, r_v3, r_v4, r_c, r_opnd, r_o1, r_o2, r_rdM, r_opt1, r_lift1, r_eOp, r_eUn, r_boolM, r_tB, r_optB, r_tru, r_and, r_or, r_not, r_bE, r_eAnd, r_eOr, r_eNot, r_eIf, r_condT, r_condF, r_aNil, r_aCons, r_rdsM, r_rdsN, r_rdsC, r_eB, r_nb1, r_nb2, r_vN, r_vC, r_tup, r_lst, r_fits, r_fits0, r_fits1, r_fits2, r_fits3, r_fits4, r_callN, r_callD, r_callM, r_call1, r_argB, r_argB1, r_argB2, r_argV, r_argN, r_back0, r_back0x, r_back1, r_back1x, r_setC, r_set1, r_set2, r_seq, r_s1, r_s2, r_s3, r_s4, r_s5, r_sNil, r_sRet, r_sRetN, r_sExpr, r_sIf, r_sBrk, r_sCont, r_asg, r_asgV, r_a1, r_a2, r_a3, r_a4, r_sFrz, r_fz1, r_fz2, r_fz3, r_raise, r_curL, r_cs1, r_cs2, r_st1, r_storeR, r_stoR, r_stoS, r_mut, r_mutR, r_mutL, r_mutS, r_pApp, r_sFor, r_forN, r_loop, r_forC, r_forR, r_l1, r_l2, r_l3, r_l4, r_l5, r_iRg, r_rg, r_iRg2, r_rg2, r_iSq, r_sq1, r_sq2, r_gN, r_fn, r_f1, r_f2, r_f3, r_f4, r_fin1, r_fin2, r_fin3, r_fin4, r_fb1, r_fb2, r_fin5, r_fin6, r_fin7, r_fc1, r_dAdd, r_dAddL, r_dSub, r_dMul, r_dMod, r_dDiv, r_dPow, r_dNeg, r_dLt, r_dLe, r_dGt, r_dGe, r_nInt, r_nIntB, r_nAbs, r_nLenL, r_nLenT, r_nLenD, r_nMax2, r_nMin2, r_ixL, r_ixT, r_nListL, r_nListT, r_nTupL, r_nDict, r_tru1, r_tru2, r_tru3, r_tru4, r_tru5, r_pExt, r_pIns, r_eqII, r_eqBB, r_neII, r_isN1, r_isN2, r_isN3, r_isN4, r_isN5, r_isN6, r_isi, r_chain, r_ch1, r_ch2, r_rdDict, r_undictD, r_key, r_get2, r_or1, r_or2, r_dix, r_dnew, r_curD, r_ce, r_valOf, r_dput, r_put, r_dictAt, r_dicS, r_eLock, r_sLock, r_lok, r_iDk, r_iDi, r_mapR, r_gT, r_tupT, r_gsN, r_gsC, r_gsR, r_aug, r_aug1, r_addI, r_while, r_sPar, r_oN, r_oS, r_part, r_eSl, r_slTo, r_slFrom, atI, ixN, env0, h2, s1, e2, c, e3, c4]
    · simp -implicitDefEqProofs [F_l_take, sto, r_bind, r_b1, r_b2, r_b3, r_ret, r_frz1, r_frz2, r_frz3, r_frz4, r_rd1, r_rd2, r_rs1, r_rs2, r_rs3, r_var, r_v1, r_v2, r_v3, r_v4, r_c, r_opnd, r_o1, r_o2, r_rdM, r_opt1, r_lift1, r_eOp, r_eUn, r_boolM, r_tB, r_optB, r_tru, r_and, r_or, r_not, r_bE, r_eAnd, r_eOr, r_eNot, r_eIf, r_condT, r_condF, r_aNil, r_aCons, r_rdsM, r_rdsN, r_rdsC, r_eB, r_nb1, r_nb2, r_vN, r_vC, r_tup, r_lst, r_fits, r_fits0, r_fits1, r_fits2, r_fits3, r_fits4, r_callN, r_callD, r_callM, r_call1, r_argB, r_argB1, r_argB2, r_argV, r_argN, r_back0, r_back0x, r_back1, r_back1x, r_setC, r_set1, r_set2, r_seq, r_s1, r_s2, r_s3, r_s4, r_s5, r_sNil, r_sRet, r_sRetN, r_sExpr, r_sIf, r_sBrk, r_sCont, r_asg, r_asgV, r_a1, r_a2, r_a3, r_a4, r_sFrz, r_fz1, r_fz2, r_fz3, r_raise, r_curL, r_cs1, r_cs2, r_st1, r_storeR, r_stoR, r_stoS, r_mut, r_mutR, r_mutL, r_mutS, r_pApp, r_sFor, r_forN, r_loop, r_forC, r_forR, r_l1, r_l2, r_l3, r_l4, r_l5, r_iRg, r_rg, r_iRg2, r_rg2, r_iSq, r_sq1, r_sq2, r_gN, r_fn, r_f1, r_f2, r_f3, r_f4, r_fin1, r_fin2, r_fin3, r_fin4, r_fb1, r_fb2, r_fin5, r_fin6, r_fin7, r_fc1, r_dAdd, r_dAddL, r_dSub, r_dMul, r_dMod, r_dDiv, r_dPow, r_dNeg, r_dLt, r_dLe, r_dGt, r_dGe, r_nInt, r_nIntB, r_nAbs, r_nLenL, r_nLenT, r_nLenD, r_nMax2, r_nMin2, r_ixL, r_ixT, r_nListL, r_nListT, r_nTupL, r_nDict, r_tru1, r_tru2, r_tru3, r_tru4, r_tru5, r_pExt, r_pIns, r_eqII, r_eqBB, r_neII, r_isN1, r_isN2, r_isN3, r_isN4, r_isN5, r_isN6, r_isi, r_chain, r_ch1, r_ch2, r_rdDict, r_undictD, r_key, r_get2, r_or1, r_or2, r_dix, r_dnew, r_curD, r_ce, r_valOf, r_dput, r_put, r_dictAt, r_dicS, r_eLock, r_sLock, r_lok, r_iDk, r_iDi, r_mapR, r_gT, r_tupT, r_gsN, r_gsC, r_gsR, r_aug, r_aug1, r_addI, r_while, r_sPar, r_oN, r_oS, r_part, r_eSl, r_slTo, r_slFrom, atI, ixN, env0, h2, s1, e2, c, e3, c4]
end K61

set_option Elab.async false
set_option linter.all false
set_option maxRecDepth 100000
set_option maxHeartbeats 4000000
namespace K61
open PySem PySem.Spec PyProof.Rows L2 DW
theorem rare_eq {n : Nat} {st : List D} (h : StoOk n st) (hn : n ≤ 1000000000) {many : Int} (hm1 : 1 ≤ many) (hm : many < 2 ^ 300) :
    ∃ b st', F_l_rare (some st) [.int many] = .ok (.val (.bool b)) (some st') ∧ StoOk (n + 1) st' := by
  obtain ⟨r, st', e, h', _⟩ := take_eq h hn hm1 hm
  exact ⟨decide (r = 0), st', by simp -implicitDefEqProofs [F_l_rare, r_bind, r_b1, r_b2, r_b3, r_ret, r_frz1, r_frz2, r_frz3, r_frz4, r_rd1, r_rd2, r_rs1, r_rs2, r_rs3, r_var, r_v1, r_v2, r_v3, r_v4, r_c, r_opnd, r_o1, r_o2, r_rdM, r_opt1, r_lift1, r_eOp, r_eUn, r_boolM, r_tB, r_optB, r_tru, r_and, r_or, r_not, r_bE, r_eAnd, r_eOr, r_eNot, r_eIf, r_condT, r_condF, r_aNil, r_aCons, r_rdsM, r_rdsN, r_rdsC, r_eB, r_nb1, r_nb2, r_vN, r_vC, r_tup, r_lst, r_fits, r_fits0, r_fits1, r_fits2, r_fits3, r_fits4, r_callN, r_callD, r_callM, r_call1, r_argB, r_argB1, r_argB2, r_argV, r_argN, r_back0, r_back0x, r_back1, r_back1x, r_setC, r_set1, r_set2, r_seq, r_s1, r_s2, r_s3, r_s4, r_s5, r_sNil, r_sRet, r_sRetN, r_sExpr, r_sIf, r_sBrk, r_sCont, r_asg, r_asgV, r_a1, r_a2, r_a3, r_a4, r_sFrz, r_fz1, r_fz2, r_fz3, r_raise, r_curL, r_cs1, r_cs2, r_st1, r_storeR, r_stoR, r_stoS, r_mut, r_mutR, r_mutL, r_mutS, r_pApp, r_sFor, r_forN, r_loop, r_forC, r_forR, r_l1, r_l2, r_l3, r_l4, r_l5, r_iRg, r_rg, r_iRg2, r_rg2, r_iSq, r_sq1, r_sq2, r_gN, r_fn, r_f1, r_f2, r_f3, r_f4, r_fin1, r_fin2, r_fin3, r_fin4, r_fb1, r_fb2, r_fin5, r_fin6, r_fin7, r_fc1, r_dAdd, r_dAddL, r_dSub, r_dMul, r_dMod, r_dDiv, r_dPow, r_dNeg, r_dLt, r_dLe, r_dGt, r_dGe, r_nInt, r_nIntB, r_nAbs, r_nLenL, r_nLenT, r_nLenD, r_nMax2, r_nMin2, r_ixL, r_ixT, r_nListL, r_nListT, r_nTupL, r_nDict, r_tru1, r_tru2, r_tru3, r_tru4, r_tru5, r_pExt, r_pIns, r_eqII, r_eqBB, r_neII, r_isN1, r_isN2, r_isN3, r_isN4, r_isN5, r_isN6, r_isi, r_chain, r_ch1, r_ch2, r_rdDict, r_undictD, r_key, r_get2, r_or1, r_or2, r_dix, r_dnew, r_curD, r_ce, r_valOf, r_dput, r_put, r_dictAt, r_dicS, r_eLock, r_sLock, r_lok, r_iDk, r_iDi, r_mapR, r_gT, r_tupT, r_gsN, r_gsC, r_gsR, r_aug, r_aug1, r_addI, r_while, r_sPar, r_oN, r_oS, r_part, r_eSl, r_slTo, r_slFrom, atI, ixN, env0, e], h'⟩
theorem from_eq {n : Nat} {st : List D} (h : StoOk n st) (hn : n ≤ 1000000000) {lo hi : Int} (hm1 : lo ≤ hi) (hm : hi - lo + 1 < 2 ^ 300) :
    ∃ r st', F_l_from (some st) [.int lo, .int hi] = .ok (.val (.int r)) (some st') ∧ StoOk (n + 1) st' ∧ lo ≤ r ∧ r ≤ hi := by
  obtain ⟨r, st', e, h', h0, h1⟩ := take_eq h hn (many := hi - lo + 1) (by omega) hm
  exact ⟨lo + r, st', by simp -implicitDefEqProofs [F_l_from, r_bind, r_b1, r_b2, r_b3, r_ret, r_frz1, r_frz2, r_frz3, r_frz4, r_rd1, r_rd2, r_rs1, r_rs2, r_rs3, r_var, r_v1, r_v2, r_v3, r_v4, r_c, r_opnd, r_o1, r_o2, r_rdM, r_opt1, r_lift1, r_eOp, r_eUn, r_boolM, r_tB, r_optB, r_tru, r_and, r_or, r_not, r_bE, r_eAnd, r_eOr, r_eNot, r_eIf, r_condT, r_condF, r_aNil, r_aCons, r_rdsM, r_rdsN, r_rdsC, r_eB, r_nb1, r_nb2, r_vN, r_vC, r_tup, r_lst, r_fits, r_fits0, r_fits1, r_fits2, r_fits3, r_fits4, r_callN, r_callD, r_callM, r_call1, r_argB, r_argB1, r_argB2, r_argV, r_argN, r_back0, r_back0x, r_back1, r_back1x, r_setC, r_set1, r_set2, r_seq, r_s1, r_s2, r_s3, r_s4, r_s5, r_sNil, r_sRet, r_sRetN, r_sExpr, r_sIf, r_sBrk, r_sCont, r_asg, r_asgV, r_a1, r_a2, r_a3, r_a4, r_sFrz, r_fz1, r_fz2, r_fz3, r_raise, r_curL, r_cs1, r_cs2, r_st1, r_storeR, r_stoR, r_stoS, r_mut, r_mutR, r_mutL, r_mutS, r_pApp, r_sFor, r_forN, r_loop, r_forC, r_forR, r_l1, r_l2, r_l3, r_l4, r_l5, r_iRg, r_rg, r_iRg2, r_rg2, r_iSq, r_sq1, r_sq2, r_gN, r_fn, r_f1, r_f2, r_f3, r_f4, r_fin1, r_fin2, r_fin3, r_fin4, r_fb1, r_fb2, r_fin5, r_fin6, r_fin7, r_fc1, r_dAdd, r_dAddL, r_dSub, r_dMul, r_dMod, r_dDiv, r_dPow, r_dNeg, r_dLt, r_dLe, r_dGt, r_dGe, r_nInt, r_nIntB, r_nAbs, r_nLenL, r_nLenT, r_nLenD, r_nMax2, r_nMin2, r_ixL, r_ixT, r_nListL, r_nListT, r_nTupL, r_nDict, r_tru1, r_tru2, r_tru3, r_tru4, r_tru5, r_pExt, r_pIns, r_eqII, r_eqBB, r_neII, r_isN1, r_isN2, r_isN3, r_isN4, r_isN5, r_isN6, r_isi, r_chain, r_ch1, r_ch2, r_rdDict, r_undictD, r_key, r_get2, r_or1, r_or2, r_dix, r_dnew, r_curD, r_ce, r_valOf, r_dput, r_put, r_dictAt, r_dicS, r_eLock, r_sLock, r_lok, r_iDk, r_iDi, r_mapR, r_gT, r_tupT, r_gsN, r_gsC, r_gsR, r_aug, r_aug1, r_addI, r_while, r_sPar, r_oN, r_oS, r_part, r_eSl, r_slTo, r_slFrom, atI, ixN, env0, e], h', by omega, by omega⟩
theorem pick_eq {n : Nat} {st : List D} (h : StoOk n st) (hn : n ≤ 1000000000) {ds : List D} (h0 : 0 < ds.length) (hl : ds.length ≤ 1000000) :
    ∃ d st', F_l_pick (some st) [.list ds] = .ok (.val d) (some st') ∧ StoOk (n + 1) st' ∧ d ∈ ds := by
  obtain ⟨r, st', e, h', r0, r1⟩ := take_eq h hn (many := (ds.length : Int)) (by omega) (by omega)
  have hlt : r.toNat < ds.length := by omega
  exact ⟨ds[r.toNat], st', by simp -implicitDefEqProofs [F_l_pick, r_bind, r_b1, r_b2, r_b3, r_ret, r_frz1, r_frz2, r_frz3, r_frz4, r_rd1, r_rd2, r_rs1, r_rs2, r_rs3, r_var, r_v1, r_v2, r_v3, r_v4, r_c, r_opnd, r_o1, r_o2, r_rdM, r_opt1, r_lift1, r_eOp, r_eUn, r_boolM, r_tB, r_optB, r_tru, r_and, r_or, r_not, r_bE, r_eAnd, r_eOr, r_eNot, r_eIf, r_condT, r_condF, r_aNil, r_aCons, r_rdsM, r_rdsN, r_rdsC, r_eB, r_nb1, r_nb2, r_vN, r_vC, r_tup, r_lst, r_fits, r_fits0, r_fits1, r_fits2, r_fits3, r_fits4, r_callN, r_callD, r_callM, r_call1, r_argB, r_argB1, r_argB2, r_argV, r_argN, r_back0, r_back0x, r_back1, r_back1x, r_setC, r_set1, r_set2, r_seq, r_s1, r_s2, r_s3, r_s4, r_s5, r_sNil, r_sRet, r_sRetN, r_sExpr, r_sIf, r_sBrk, r_sCont, r_asg, r_asgV, r_a1, r_a2, r_a3, r_a4, r_sFrz, r_fz1, r_fz2, r_fz3, r_raise, r_curL, r_cs1, r_cs2, r_st1, r_storeR, r_stoR, r_stoS, r_mut, r_mutR, r_mutL, r_mutS, r_pApp, r_sFor, r_forN, r_loop, r_forC, r_forR, r_l1, r_l2, r_l3, r_l4, r_l5, r_iRg, r_rg, r_iRg2, r_rg2, r_iSq, r_sq1, r_sq2, r_gN, r_fn, r_f1, r_f2, r_f3, r_f4, r_fin1, r_fin2, r_fin3, r_fin4, r_fb1, r_fb2, r_fin5, r_fin6, r_fin7, r_fc1, r_dAdd, r_dAddL, r_dSub, r_dMul, r_dMod, r_dDiv, r_dPow, r_dNeg, r_dLt, r_dLe, r_dGt, r_dGe, r_nInt, r_nIntB, r_nAbs, r_nLenL, r_nLenT, r_nLenD, r_nMax2, r_nMin2, r_ixL, r_ixT, r_nListL, r_nListT, r_nTupL, r_nDict, r_tru1, r_tru2, r_tru3, r_tru4, r_tru5, r_pExt, r_pIns, r_eqII, r_eqBB, r_neII, r_isN1, r_isN2, r_isN3, r_isN4, r_isN5, r_isN6, r_isi, r_chain, r_ch1, r_ch2, r_rdDict, r_undictD, r_key, r_get2, r_or1, r_or2, r_dix, r_dnew, r_curD, r_ce, r_valOf, r_dput, r_put, r_dictAt, r_dicS, r_eLock, r_sLock, r_lok, r_iDk, r_iDi, r_mapR, r_gT, r_tupT, r_gsN, r_gsC, r_gsR, r_aug, r_aug1, r_addI, r_while, r_sPar, r_oN, r_oS, r_part, r_eSl, r_slTo, r_slFrom, atI, ixN, env0, e, r0, r1, hlt], h', List.getElem_mem hlt⟩
theorem order_of_eq {n : Nat} {st : List D} (h : StoOk n st) (hn : n + 10 ≤ 1000000000) :
    ∃ r st', F_l_order_of (some st) [] = .ok (.val (.int r)) (some st') ∧ StoOk (n + 10) st' ∧ 1 ≤ r ∧ r ≤ 1000000 := by
  obtain ⟨b1, s1, e1, h1⟩ := rare_eq h (by omega) (many := 400) (by decide) (by decide)
  have c1 : powC 10 6 = true := by decide
  cases b1 with
  | true =>
    obtain ⟨t1, s2, e2, h2, k0, k1⟩ := take_eq h1 (by omega) (many := 1000) (by decide) (by decide)
    obtain ⟨d, s3, e3, h3, hd⟩ := pick_eq h2 (by omega) (ds := [.int 1000000, .int 510510, .int 999983, .int (1000000 - t1)]) (by simp) (by simp)
    have hd2 : ∃ r : Int, d = .int r ∧ 1 ≤ r ∧ r ≤ 1000000 := by
      simp only [List.mem_cons, List.not_mem_nil, or_false] at hd
      rcases hd with rfl | rfl | rfl | rfl
      · exact ⟨_, rfl, by decide, by decide⟩
      · exact ⟨_, rfl, by decide, by decide⟩
      · exact ⟨_, rfl, by decide, by decide⟩
      · exact ⟨_, rfl, by omega, by omega⟩
    obtain ⟨r, rfl, r0, r1⟩ := hd2
    exact ⟨r, s3, by simp -implicitDefEqProofs [F_l_order_of, r_bind, r_b1, r_b2, r_b3, r_ret, r_frz1, r_frz2, r_frz3, r_frz4, r_rd1, r_rd2, r_rs1, r_rs2, r_rs3, r_var, r_v1, r_v2, r_v3, r_v4, r_c, r_opnd, r_o1, r_o2, r_rdM, r_opt1, r_lift1, r_eOp, r_eUn, r_boolM, r_tB, r_optB, r_tru, r_and, r_or, r_not, r_bE, r_eAnd, r_eOr, r_eNot, r_eIf, r_condT, r_condF, r_aNil, r_aCons, r_rdsM, r_rdsN, r_rdsC, r_eB, r_nb1, r_nb2, r_vN, r_vC, r_tup, r_lst, r_fits, r_fits0, r_fits1, r_fits2, r_fits3, r_fits4, r_callN, r_callD, r_callM, r_call1, r_argB, r_argB1, r_argB2, r_argV, r_argN, r_back0, r_back0x, r_back1, r_back1x, r_setC, r_set1, r_set2, r_seq, r_s1, r_s2, r_s3, r_s4, r_s5, r_sNil, r_sRet, r_sRetN, r_sExpr, r_sIf, r_sBrk, r_sCont, r_asg, r_asgV, r_a1, r_a2, r_a3, r_a4, r_sFrz, r_fz1, r_fz2, r_fz3, r_raise, r_curL, r_cs1, r_cs2, r_st1, r_storeR, r_stoR, r_stoS, r_mut, r_mutR, r_mutL, r_mutS, r_pApp, r_sFor, r_forN, r_loop, r_forC, r_forR, r_l1, r_l2, r_l3, r_l4, r_l5, r_iRg, r_rg, r_iRg2, r_rg2, r_iSq, r_sq1, r_sq2, r_gN, r_fn, r_f1, r_f2, r_f3, r_f4, r_fin1, r_fin2, r_fin3, r_fin4, r_fb1, r_fb2, r_fin5, r_fin6, r_fin7, r_fc1, r_dAdd, r_dAddL, r_dSub, r_dMul, r_dMod, r_dDiv, r_dPow, r_dNeg, r_dLt, r_dLe, r_dGt, r_dGe, r_nInt, r_nIntB, r_nAbs, r_nLenL, r_nLenT, r_nLenD, r_nMax2, r_nMin2, r_ixL, r_ixT, r_nListL, r_nListT, r_nTupL, r_nDict, r_tru1, r_tru2, r_tru3, r_tru4, r_tru5, r_pExt, r_pIns, r_eqII, r_eqBB, r_neII, r_isN1, r_isN2, r_isN3, r_isN4, r_isN5, r_isN6, r_isi, r_chain, r_ch1, r_ch2, r_rdDict, r_undictD, r_key, r_get2, r_or1, r_or2, r_dix, r_dnew, r_curD, r_ce, r_valOf, r_dput, r_put, r_dictAt, r_dicS, r_eLock, r_sLock, r_lok, r_iDk, r_iDi, r_mapR, r_gT, r_tupT, r_gsN, r_gsC, r_gsR, r_aug, r_aug1, r_addI, r_while, r_sPar, r_oN, r_oS, r_part, r_eSl, r_slTo, r_slFrom, atI, ixN, env0, e1, e2, e3, c1], h3.mono (by omega), r0, r1⟩
  | false =>
    obtain ⟨b2, s2, e2, h2⟩ := rare_eq h1 (by omega) (many := 30) (by decide) (by decide)
    cases b2 with
    | true =>
      obtain ⟨t1, s3, e3, h3, k0, k1⟩ := take_eq h2 (by omega) (many := 20000) (by decide) (by decide)
      exact ⟨1 + t1, s3, by simp -implicitDefEqProofs [F_l_order_of, r_bind, r_b1, r_b2, r_b3, r_ret, r_frz1, r_frz2, r_frz3, r_frz4, r_rd1, r_rd2, r_rs1, r_rs2, r_rs3, r_var, r_v1, r_v2, r_v3, r_v4, r_c, r_opnd, r_o1, r_o2, r_rdM, r_opt1, r_lift1, r_eOp, r_eUn, r_boolM, r_tB, r_optB, r_tru, r_and, r_or, r_not, r_bE, r_eAnd, r_eOr, r_eNot, r_eIf, r_condT, r_condF, r_aNil, r_aCons, r_rdsM, r_rdsN, r_rdsC, r_eB, r_nb1, r_nb2, r_vN, r_vC, r_tup, r_lst, r_fits, r_fits0, r_fits1, r_fits2, r_fits3, r_fits4, r_callN, r_callD, r_callM, r_call1, r_argB, r_argB1, r_argB2, r_argV, r_argN, r_back0, r_back0x, r_back1, r_back1x, r_setC, r_set1, r_set2, r_seq, r_s1, r_s2, r_s3, r_s4, r_s5, r_sNil, r_sRet, r_sRetN, r_sExpr, r_sIf, r_sBrk, r_sCont, r_asg, r_asgV, r_a1, r_a2, r_a3, r_a4, r_sFrz, r_fz1, r_fz2, r_fz3, r_raise, r_curL, r_cs1, r_cs2, r_st1, r_storeR, r_stoR, r_stoS, r_mut, r_mutR, r_mutL, r_mutS, r_pApp, r_sFor, r_forN, r_loop, r_forC, r_forR, r_l1, r_l2, r_l3, r_l4, r_l5, r_iRg, r_rg, r_iRg2, r_rg2, r_iSq, r_sq1, r_sq2, r_gN, r_fn, r_f1, r_f2, r_f3, r_f4, r_fin1, r_fin2, r_fin3, r_fin4, r_fb1, r_fb2, r_fin5, r_fin6, r_fin7, r_fc1, r_dAdd, r_dAddL, r_dSub, r_dMul, r_dMod, r_dDiv, r_dPow, r_dNeg, r_dLt, r_dLe, r_dGt, r_dGe, r_nInt, r_nIntB, r_nAbs, r_nLenL, r_nLenT, r_nLenD, r_nMax2, r_nMin2, r_ixL, r_ixT, r_nListL, r_nListT, r_nTupL, r_nDict, r_tru1, r_tru2, r_tru3, r_tru4, r_tru5, r_pExt, r_pIns, r_eqII, r_eqBB, r_neII, r_isN1, r_isN2, r_isN3, r_isN4, r_isN5, r_isN6, r_isi, r_chain, r_ch1, r_ch2, r_rdDict, r_undictD, r_key, r_get2, r_or1, r_or2, r_dix, r_dnew, r_curD, r_ce, r_valOf, r_dput, r_put, r_dictAt, r_dicS, r_eLock, r_sLock, r_lok, r_iDk, r_iDi, r_mapR, r_gT, r_tupT, r_gsN, r_gsC, r_gsR, r_aug, r_aug1, r_addI, r_while, r_sPar, r_oN, r_oS, r_part, r_eSl, r_slTo, r_slFrom, atI, ixN, env0, e1, e2, e3], h3.mono (by omega), by omega, by omega⟩
    | false =>
      obtain ⟨b3, s3, e3, h3⟩ := rare_eq h2 (by omega) (many := 2) (by decide) (by decide)
      cases b3 with
      | true =>
        obtain ⟨d, s4, e4, h4, hd⟩ := pick_eq h3 (by omega) (ds := [.int 12, .int 30, .int 6, .int 1, .int 2, .int 4, .int 8, .int 9, .int 10, .int 36, .int 60, .int 42, .int 18, .int 24, .int 45, .int 48]) (by decide) (by decide)
        have hd2 : ∃ r : Int, d = .int r ∧ 1 ≤ r ∧ r ≤ 1000000 := by
          simp only [List.mem_cons, List.not_mem_nil, or_false] at hd
          rcases hd with rfl | rfl | rfl | rfl | rfl | rfl | rfl | rfl | rfl | rfl | rfl | rfl | rfl | rfl | rfl | rfl <;> exact ⟨_, rfl, by decide, by decide⟩
        obtain ⟨r, rfl, r0, r1⟩ := hd2
        exact ⟨r, s4, by simp -implicitDefEqProofs [F_l_order_of, r_bind, r_b1, r_b2, r_b3, r_ret, r_frz1, r_frz2, r_frz3, r_frz4, r_rd1, r_rd2, r_rs1, r_rs2, r_rs3, r_var, r_v1, r_v2, r_v3, r_v4, r_c, r_opnd, r_o1, r_o2, r_rdM, r_opt1, r_lift1, r_eOp, r_eUn, r_boolM, r_tB, r_optB, r_tru, r_and, r_or, r_not, r_bE, r_eAnd, r_eOr, r_eNot, r_eIf, r_condT, r_condF, r_aNil, r_aCons, r_rdsM, r_rdsN, r_rdsC, r_eB, r_nb1, r_nb2, r_vN, r_vC, r_tup, r_lst, r_fits, r_fits0, r_fits1, r_fits2, r_fits3, r_fits4, r_callN, r_callD, r_callM, r_call1, r_argB, r_argB1, r_argB2, r_argV, r_argN, r_back0, r_back0x, r_back1, r_back1x, r_setC, r_set1, r_set2, r_seq, r_s1, r_s2, r_s3, r_s4, r_s5, r_sNil, r_sRet, r_sRetN, r_sExpr, r_sIf, r_sBrk, r_sCont, r_asg, r_asgV, r_a1, r_a2, r_a3, r_a4, r_sFrz, r_fz1, r_fz2, r_fz3, r_raise, r_curL, r_cs1, r_cs2, r_st1, r_storeR, r_stoR, r_stoS, r_mut, r_mutR, r_mutL, r_mutS, r_pApp, r_sFor, r_forN, r_loop, r_forC, r_forR, r_l1, r_l2, r_l3, r_l4, r_l5, r_iRg, r_rg, r_iRg2, r_rg2, r_iSq, r_sq1, r_sq2, r_gN, r_fn, r_f1, r_f2, r_f3, r_f4, r_fin1, r_fin2, r_fin3, r_fin4, r_fb1, r_fb2, r_fin5, r_fin6, r_fin7, r_fc1, r_dAdd, r_dAddL, r_dSub, r_dMul, r_dMod, r_dDiv, r_dPow, r_dNeg, r_dLt, r_dLe, r_dGt, r_dGe, r_nInt, r_nIntB, r_nAbs, r_nLenL, r_nLenT, r_nLenD, r_nMax2, r_nMin2, r_ixL, r_ixT, r_nListL, r_nListT, r_nTupL, r_nDict, r_tru1, r_tru2, r_tru3, r_tru4, r_tru5, r_pExt, r_pIns, r_eqII, r_eqBB, r_neII, r_isN1, r_isN2, r_isN3, r_isN4, r_isN5, r_isN6, r_isi, r_chain, r_ch1, r_ch2, r_rdDict, r_undictD, r_key, r_get2, r_or1, r_or2, r_dix, r_dnew, r_curD, r_ce, r_valOf, r_dput, r_put, r_dictAt, r_dicS, r_eLock, r_sLock, r_lok, r_iDk, r_iDi, r_mapR, r_gT, r_tupT, r_gsN, r_gsC, r_gsR, r_aug, r_aug1, r_addI, r_while, r_sPar, r_oN, r_oS, r_part, r_eSl, r_slTo, r_slFrom, atI, ixN, env0, e1, e2, e3, e4], h4.mono (by omega), r0, r1⟩
      | false =>
        obtain ⟨t1, s4, e4, h4, k0, k1⟩ := take_eq h3 (by omega) (many := 60) (by decide) (by decide)
        exact ⟨1 + t1, s4, by simp -implicitDefEqProofs [F_l_order_of, r_bind, r_b1, r_b2, r_b3, r_ret, r_frz1, r_frz2, r_frz3, r_frz4, r_rd1, r_rd2, r_rs1, r_rs2, r_rs3, r_var, r_v1, r_v2, r_v3, r_v4, r_c, r_opnd, r_o1, r_o2, r_rdM, r_opt1, r_lift1, r_eOp, r_eUn, r_boolM, r_tB, r_optB, r_tru, r_and, r_or, r_not, r_bE, r_eAnd, r_eOr, r_eNot, r_eIf, r_condT, r_condF, r_aNil, r_aCons, r_rdsM, r_rdsN, r_rdsC, r_eB, r_nb1, r_nb2, r_vN, r_vC, r_tup, r_lst, r_fits, r_fits0, r_fits1, r_fits2, r_fits3, r_fits4, r_callN, r_callD, r_callM, r_call1, r_argB, r_argB1, r_argB2, r_argV, r_argN, r_back0, r_back0x, r_back1, r_back1x, r_setC, r_set1, r_set2, r_seq, r_s1, r_s2, r_s3, r_s4, r_s5, r_sNil, r_sRet, r_sRetN, r_sExpr, r_sIf, r_sBrk, r_sCont, r_asg, r_asgV, r_a1, r_a2, r_a3, r_a4, r_sFrz, r_fz1, r_fz2, r_fz3, r_raise, r_curL, r_cs1, r_cs2, r_st1, r_storeR, r_stoR, r_stoS, r_mut, r_mutR, r_mutL, r_mutS, r_pApp, r_sFor, r_forN, r_loop, r_forC, r_forR, r_l1, r_l2, r_l3, r_l4, r_l5, r_iRg, r_rg, r_iRg2, r_rg2, r_iSq, r_sq1, r_sq2, r_gN, r_fn, r_f1, r_f2, r_f3, r_f4, r_fin1, r_fin2, r_fin3, r_fin4, r_fb1, r_fb2, r_fin5, r_fin6, r_fin7, r_fc1, r_dAdd, r_dAddL, r_dSub, r_dMul, r_dMod, r_dDiv, r_dPow, r_dNeg, r_dLt, r_dLe, r_dGt, r_dGe, r_nInt, r_nIntB, r_nAbs, r_nLenL, r_nLenT, r_nLenD, r_nMax2, r_nMin2, r_ixL, r_ixT, r_nListL, r_nListT, r_nTupL, r_nDict, r_tru1, r_tru2, r_tru3, r_tru4, r_tru5, r_pExt, r_pIns, r_eqII, r_eqBB, r_neII, r_isN1, r_isN2, r_isN3, r_isN4, r_isN5, r_isN6, r_isi, r_chain, r_ch1, r_ch2, r_rdDict, r_undictD, r_key, r_get2, r_or1, r_or2, r_dix, r_dnew, r_curD, r_ce, r_valOf, r_dput, r_put, r_dictAt, r_dicS, r_eLock, r_sLock, r_lok, r_iDk, r_iDi, r_mapR, r_gT, r_tupT, r_gsN, r_gsC, r_gsR, r_aug, r_aug1, r_addI, r_while, r_sPar, r_oN, r_oS, r_part, r_eSl, r_slTo, r_slFrom, atI, ixN, env0, e1, e2, e3, e4], h4.mono (by omega), by omega, by omega⟩
/-- a reading's bound -/
def RB : Int := 10 ^ 60 - 10 ^ 8
theorem reading_eq {n : Nat} {st : List D} (h : StoOk n st) (hn : n + 2 ≤ 1000000000) {N : Int} (hN : 1 ≤ N) (hN2 : N ≤ 1000000) :
    ∃ r st', F_l_reading (some st) [.int N] = .ok (.val (.int r)) (some st') ∧ StoOk (n + 2) st' ∧ -RB ≤ r ∧ r ≤ RB := by
  obtain ⟨b1, s1, e1, h1⟩ := rare_eq h (by omega) (many := 4) (by decide) (by decide)
  have c1 : powC 10 8 = true := by decide
  have c2 : powC 10 60 = true := by decide
  cases b1 with
  | true =>
    obtain ⟨r, s2, e2, h2, k0, k1⟩ := from_eq h1 (by omega) (lo := -999999999999999999999999999999999999999999999999999900000000) (hi := 999999999999999999999999999999999999999999999999999900000000) (by decide) (by decide)
    exact ⟨r, s2, by simp -implicitDefEqProofs [F_l_reading, r_bind, r_b1, r_b2, r_b3, r_ret, r_frz1, r_frz2, r_frz3, r_frz4, r_rd1, r_rd2, r_rs1, r_rs2, r_rs3, r_var, r_v1, r_v2, r_v3, r_v4, r_c, r_opnd, r_o1, r_o2, r_rdM, r_opt1, r_lift1, r_eOp, r_eUn, r_boolM, r_tB, r_optB, r_tru, r_and, r_or, r_not, r_bE, r_eAnd, r_eOr, r_eNot, r_eIf, r_condT, r_condF, r_aNil, r_aCons, r_rdsM, r_rdsN, r_rdsC, r_eB, r_nb1, r_nb2, r_vN, r_vC, r_tup, r_lst, r_fits, r_fits0, r_fits1, r_fits2, r_fits3, r_fits4, r_callN, r_callD, r_callM, r_call1, r_argB, r_argB1, r_argB2, r_argV, r_argN, r_back0, r_back0x, r_back1, r_back1x, r_setC, r_set1, r_set2, r_seq, r_s1, r_s2, r_s3, r_s4, r_s5, r_sNil, r_sRet, r_sRetN, r_sExpr, r_sIf, r_sBrk, r_sCont, r_asg, r_asgV, r_a1, r_a2, r_a3, r_a4, r_sFrz, r_fz1, r_fz2, r_fz3, r_raise, r_curL, r_cs1, r_cs2, r_st1, r_storeR, r_stoR, r_stoS, r_mut, r_mutR, r_mutL, r_mutS, r_pApp, r_sFor, r_forN, r_loop, r_forC, r_forR, r_l1, r_l2, r_l3, r_l4, r_l5, r_iRg, r_rg, r_iRg2, r_rg2, r_iSq, r_sq1, r_sq2, r_gN, r_fn, r_f1, r_f2, r_f3, r_f4, r_fin1, r_fin2, r_fin3, r_fin4, r_fb1, r_fb2, r_fin5, r_fin6, r_fin7, r_fc1, r_dAdd, r_dAddL, r_dSub, r_dMul, r_dMod, r_dDiv, r_dPow, r_dNeg, r_dLt, r_dLe, r_dGt, r_dGe, r_nInt, r_nIntB, r_nAbs, r_nLenL, r_nLenT, r_nLenD, r_nMax2, r_nMin2, r_ixL, r_ixT, r_nListL, r_nListT, r_nTupL, r_nDict, r_tru1, r_tru2, r_tru3, r_tru4, r_tru5, r_pExt, r_pIns, r_eqII, r_eqBB, r_neII, r_isN1, r_isN2, r_isN3, r_isN4, r_isN5, r_isN6, r_isi, r_chain, r_ch1, r_ch2, r_rdDict, r_undictD, r_key, r_get2, r_or1, r_or2, r_dix, r_dnew, r_curD, r_ce, r_valOf, r_dput, r_put, r_dictAt, r_dicS, r_eLock, r_sLock, r_lok, r_iDk, r_iDi, r_mapR, r_gT, r_tupT, r_gsN, r_gsC, r_gsR, r_aug, r_aug1, r_addI, r_while, r_sPar, r_oN, r_oS, r_part, r_eSl, r_slTo, r_slFrom, atI, ixN, env0, e1, e2, c1, c2], h2.mono (by omega), by unfold RB; omega, by unfold RB; omega⟩
  | false =>
    obtain ⟨r, s2, e2, h2, k0, k1⟩ := take_eq h1 (by omega) (many := N) (by omega) (by omega)
    exact ⟨r, s2, by simp -implicitDefEqProofs [F_l_reading, r_bind, r_b1, r_b2, r_b3, r_ret, r_frz1, r_frz2, r_frz3, r_frz4, r_rd1, r_rd2, r_rs1, r_rs2, r_rs3, r_var, r_v1, r_v2, r_v3, r_v4, r_c, r_opnd, r_o1, r_o2, r_rdM, r_opt1, r_lift1, r_eOp, r_eUn, r_boolM, r_tB, r_optB, r_tru, r_and, r_or, r_not, r_bE, r_eAnd, r_eOr, r_eNot, r_eIf, r_condT, r_condF, r_aNil, r_aCons, r_rdsM, r_rdsN, r_rdsC, r_eB, r_nb1, r_nb2, r_vN, r_vC, r_tup, r_lst, r_fits, r_fits0, r_fits1, r_fits2, r_fits3, r_fits4, r_callN, r_callD, r_callM, r_call1, r_argB, r_argB1, r_argB2, r_argV, r_argN, r_back0, r_back0x, r_back1, r_back1x, r_setC, r_set1, r_set2, r_seq, r_s1, r_s2, r_s3, r_s4, r_s5, r_sNil, r_sRet, r_sRetN, r_sExpr, r_sIf, r_sBrk, r_sCont, r_asg, r_asgV, r_a1, r_a2, r_a3, r_a4, r_sFrz, r_fz1, r_fz2, r_fz3, r_raise, r_curL, r_cs1, r_cs2, r_st1, r_storeR, r_stoR, r_stoS, r_mut, r_mutR, r_mutL, r_mutS, r_pApp, r_sFor, r_forN, r_loop, r_forC, r_forR, r_l1, r_l2, r_l3, r_l4, r_l5, r_iRg, r_rg, r_iRg2, r_rg2, r_iSq, r_sq1, r_sq2, r_gN, r_fn, r_f1, r_f2, r_f3, r_f4, r_fin1, r_fin2, r_fin3, r_fin4, r_fb1, r_fb2, r_fin5, r_fin6, r_fin7, r_fc1, r_dAdd, r_dAddL, r_dSub, r_dMul, r_dMod, r_dDiv, r_dPow, r_dNeg, r_dLt, r_dLe, r_dGt, r_dGe, r_nInt, r_nIntB, r_nAbs, r_nLenL, r_nLenT, r_nLenD, r_nMax2, r_nMin2, r_ixL, r_ixT, r_nListL, r_nListT, r_nTupL, r_nDict, r_tru1, r_tru2, r_tru3, r_tru4, r_tru5, r_pExt, r_pIns, r_eqII, r_eqBB, r_neII, r_isN1, r_isN2, r_isN3, r_isN4, r_isN5, r_isN6, r_isi, r_chain, r_ch1, r_ch2, r_rdDict, r_undictD, r_key, r_get2, r_or1, r_or2, r_dix, r_dnew, r_curD, r_ce, r_valOf, r_dput, r_put, r_dictAt, r_dicS, r_eLock, r_sLock, r_lok, r_iDk, r_iDi, r_mapR, r_gT, r_tupT, r_gsN, r_gsC, r_gsR, r_aug, r_aug1, r_addI, r_while, r_sPar, r_oN, r_oS, r_part, r_eSl, r_slTo, r_slFrom, atI, ixN, env0, e1, e2, c1, c2], h2.mono (by omega), by unfold RB; omega, by unfold RB; omega⟩
theorem small62_of {i : Int} (h0 : -4611686018427387904 ≤ i) (h1 : i < 4611686018427387904) : small62 i = true := by
  unfold small62
  rw [decide_eq_true (by omega), decide_eq_true (by omega)]
  rfl
/-- k residues apart by N / p -/
def SetIn (N p first : Int) (xs : List Int) : Prop := ∀ (i : Nat) (x : Int), xs[i]? = some x → ∃ e : Int, x = first + i * (N / p) + N * e ∧ -1 ≤ e ∧ e ≤ 1
theorem set_eq {n : Nat} {st : List D} (h : StoOk n st) {N p : Int} (hN : 1 ≤ N) (hN2 : N ≤ 1000000) (hp : 1 ≤ p) (hp2 : p ≤ 1000) (hn : n + 1002 ≤ 1000000000) :
    ∃ first xs st', F_l_set (some st) [.int N, .int p] = .ok (.own (xs.map PyData.int)) (some st') ∧ StoOk (n + 1002) st' ∧ -RB ≤ first ∧ first ≤ RB ∧ xs.length = p.toNat ∧ SetIn N p first xs := by
  obtain ⟨first, s1, e1, h1, f0, f1⟩ := reading_eq h (by omega) hN hN2
  have d1 : divC N p = true := divC_lt (a := 20) (by omega) (by omega) (by decide)
  have q0 : 0 ≤ N / p := Int.ediv_nonneg (by omega) (by omega)
  have q1 : N / p ≤ 1000000 := Int.le_trans (Int.ediv_le_self _ (by omega)) hN2
  obtain ⟨δ', e2, i, xs, s2, sl, rfl, ei, hs, hl, hx⟩ := forL_ix (tgt := gN 5) (s := B_l_set_1) (rangeD 0 p)
    (fun i δ => ∃ xs s2 sl, δ = [.prm s2, .val (.int N), .val (.int p), .val (.int first), .own (xs.map PyData.int), sl] ∧ StoOk (n + 2 + i) s2 ∧ xs.length = i ∧ SetIn N p first xs)
    (fun δ => ∃ i xs s2 sl, δ = [.prm s2, .val (.int N), .val (.int p), .val (.int first), .own (xs.map PyData.int), sl] ∧ i = (rangeD 0 p).length ∧ StoOk (n + 2 + i) s2 ∧ xs.length = i ∧ SetIn N p first xs)
    (fun δ ⟨xs, s2, sl, a, b, c, d⟩ => ⟨_, xs, s2, sl, a, rfl, b, c, d⟩)
    (fun i d δ ed ⟨xs, s2, sl, eδ, hs, hl, hx⟩ => by
      obtain ⟨rfl, hi⟩ := rangeD_at ed
      subst eδ
      obtain ⟨r, s3, e3, h3, r0, r1⟩ := take_eq hs (by omega) (many := 3) (by decide) (by decide)
      have m1 : mulC i (N / p) = true := mulC_lt (a := 20) (b := 20) (by omega) (by omega) (by decide)
      have m2 : mulC N (r - 1) = true := mulC_lt (a := 20) (b := 20) (by omega) (by omega) (by decide)
      have hz : xs.length < 16777216 := by omega
      refine ⟨_, [.prm s3, .val (.int N), .val (.int p), .val (.int first), .own ((xs ++ [first + i * (N / p) + N * (r - 1)]).map PyData.int), .val (.int i)], rfl, .inl ⟨.inl ?_, xs ++ [first + i * (N / p) + N * (r - 1)], s3, _, rfl, h3, by simp [hl], fun j x hj => ?_⟩⟩
      · simp -implicitDefEqProofs [B_l_set_1, r_bind, r_b1, r_b2, r_b3, r_ret, r_frz1, r_frz2, r_frz3, r_frz4, r_rd1, r_rd2, r_rs1, r_rs2, r_rs3, r_var, r_v1, r_v2, r_v3, r_v4, r_c, r_opnd, r_o1, r_o2, r_rdM, r_opt1, r_lift1, r_eOp, r_eUn, r_boolM, r_tB, r_optB, r_tru, r_and, r_or, r_not, r_bE, r_eAnd, r_eOr, r_eNot, r_eIf, r_condT, r_condF, r_aNil, r_aCons, r_rdsM, r_rdsN, r_rdsC, r_eB, r_nb1, r_nb2, r_vN, r_vC, r_tup, r_lst, r_fits, r_fits0, r_fits1, r_fits2, r_fits3, r_fits4, r_callN, r_callD, r_callM, r_call1, r_argB, r_argB1, r_argB2, r_argV, r_argN, r_back0, r_back0x, r_back1, r_back1x, r_setC, r_set1, r_set2, r_seq, r_s1, r_s2, r_s3, r_s4, r_s5, r_sNil, r_sRet, r_sRetN, r_sExpr, r_sIf, r_sBrk, r_sCont, r_asg, r_asgV, r_a1, r_a2, r_a3, r_a4, r_sFrz, r_fz1, r_fz2, r_fz3, r_raise, r_curL, r_cs1, r_cs2, r_st1, r_storeR, r_stoR, r_stoS, r_mut, r_mutR, r_mutL, r_mutS, r_pApp, r_sFor, r_forN, r_loop, r_forC, r_forR, r_l1, r_l2, r_l3, r_l4, r_l5, r_iRg, r_rg, r_iRg2, r_rg2, r_iSq, r_sq1, r_sq2, r_gN, r_fn, r_f1, r_f2, r_f3, r_f4, r_fin1, r_fin2, r_fin3, r_fin4, r_fb1, r_fb2, r_fin5, r_fin6, r_fin7, r_fc1, r_dAdd, r_dAddL, r_dSub, r_dMul, r_dMod, r_dDiv, r_dPow, r_dNeg, r_dLt, r_dLe, r_dGt, r_dGe, r_nInt, r_nIntB, r_nAbs, r_nLenL, r_nLenT, r_nLenD, r_nMax2, r_nMin2, r_ixL, r_ixT, r_nListL, r_nListT, r_nTupL, r_nDict, r_tru1, r_tru2, r_tru3, r_tru4, r_tru5, r_pExt, r_pIns, r_eqII, r_eqBB, r_neII, r_isN1, r_isN2, r_isN3, r_isN4, r_isN5, r_isN6, r_isi, r_chain, r_ch1, r_ch2, r_rdDict, r_undictD, r_key, r_get2, r_or1, r_or2, r_dix, r_dnew, r_curD, r_ce, r_valOf, r_dput, r_put, r_dictAt, r_dicS, r_eLock, r_sLock, r_lok, r_iDk, r_iDi, r_mapR, r_gT, r_tupT, r_gsN, r_gsC, r_gsR, r_aug, r_aug1, r_addI, r_while, r_sPar, r_oN, r_oS, r_part, r_eSl, r_slTo, r_slFrom, atI, ixN, env0, d1, m1, m2, e3, hz]
      · by_cases hji : j < xs.length
        · rw [List.getElem?_append_left hji] at hj
          exact hx j x hj
        · have : j = i := by
            have := (List.getElem?_eq_some_iff.mp hj).1
            simp at this; omega
          subst this
          rw [List.getElem?_append_right (by omega)] at hj
          simp [hl] at hj
          exact ⟨r - 1, hj.symm, by omega, by omega⟩)
    [.prm s1, .val (.int N), .val (.int p), .val (.int first), .own [], .un] ⟨[], s1, .un, rfl, h1, rfl, fun i x hx => by simp at hx⟩
  rw [rangeD_len, Int.sub_zero] at ei
  have s6 : small62 p = true := small62_of (by omega) (by omega)
  exact ⟨first, xs, s2, by simp -implicitDefEqProofs [F_l_set, r_bind, r_b1, r_b2, r_b3, r_ret, r_frz1, r_frz2, r_frz3, r_frz4, r_rd1, r_rd2, r_rs1, r_rs2, r_rs3, r_var, r_v1, r_v2, r_v3, r_v4, r_c, r_opnd, r_o1, r_o2, r_rdM, r_opt1, r_lift1, r_eOp, r_eUn, r_boolM, r_tB, r_optB, r_tru, r_and, r_or, r_not, r_bE, r_eAnd, r_eOr, r_eNot, r_eIf, r_condT, r_condF, r_aNil, r_aCons, r_rdsM, r_rdsN, r_rdsC, r_eB, r_nb1, r_nb2, r_vN, r_vC, r_tup, r_lst, r_fits, r_fits0, r_fits1, r_fits2, r_fits3, r_fits4, r_callN, r_callD, r_callM, r_call1, r_argB, r_argB1, r_argB2, r_argV, r_argN, r_back0, r_back0x, r_back1, r_back1x, r_setC, r_set1, r_set2, r_seq, r_s1, r_s2, r_s3, r_s4, r_s5, r_sNil, r_sRet, r_sRetN, r_sExpr, r_sIf, r_sBrk, r_sCont, r_asg, r_asgV, r_a1, r_a2, r_a3, r_a4, r_sFrz, r_fz1, r_fz2, r_fz3, r_raise, r_curL, r_cs1, r_cs2, r_st1, r_storeR, r_stoR, r_stoS, r_mut, r_mutR, r_mutL, r_mutS, r_pApp, r_sFor, r_forN, r_loop, r_forC, r_forR, r_l1, r_l2, r_l3, r_l4, r_l5, r_iRg, r_rg, r_iRg2, r_rg2, r_iSq, r_sq1, r_sq2, r_gN, r_fn, r_f1, r_f2, r_f3, r_f4, r_fin1, r_fin2, r_fin3, r_fin4, r_fb1, r_fb2, r_fin5, r_fin6, r_fin7, r_fc1, r_dAdd, r_dAddL, r_dSub, r_dMul, r_dMod, r_dDiv, r_dPow, r_dNeg, r_dLt, r_dLe, r_dGt, r_dGe, r_nInt, r_nIntB, r_nAbs, r_nLenL, r_nLenT, r_nLenD, r_nMax2, r_nMin2, r_ixL, r_ixT, r_nListL, r_nListT, r_nTupL, r_nDict, r_tru1, r_tru2, r_tru3, r_tru4, r_tru5, r_pExt, r_pIns, r_eqII, r_eqBB, r_neII, r_isN1, r_isN2, r_isN3, r_isN4, r_isN5, r_isN6, r_isi, r_chain, r_ch1, r_ch2, r_rdDict, r_undictD, r_key, r_get2, r_or1, r_or2, r_dix, r_dnew, r_curD, r_ce, r_valOf, r_dput, r_put, r_dictAt, r_dicS, r_eLock, r_sLock, r_lok, r_iDk, r_iDi, r_mapR, r_gT, r_tupT, r_gsN, r_gsC, r_gsR, r_aug, r_aug1, r_addI, r_while, r_sPar, r_oN, r_oS, r_part, r_eSl, r_slTo, r_slFrom, atI, ixN, env0, e1, s6, e2], hs.mono (by omega), f0, f1, by omega, hx⟩
end K61

set_option Elab.async false
set_option linter.all false
set_option maxRecDepth 100000
set_option maxHeartbeats 4000000
namespace K61
open PySem PySem.Spec PyProof.Rows L2 DW
/-! ### primes -/
def isP (p : Nat) : Prop := 2 ≤ p ∧ ∀ m, m ∣ p → m = 1 ∨ m = p
theorem isP.euc {q a b : Nat} (h : isP q) (d : q ∣ a * b) : q ∣ a ∨ q ∣ b := by
  by_cases e : q ∣ a
  · exact .inl e
  · refine .inr ?_
    have g : Nat.gcd q a = 1 := by
      rcases h.2 _ (Nat.gcd_dvd_left q a) with g | g
      · exact g
      · exact absurd (g ▸ Nat.gcd_dvd_right q a) e
    exact Nat.Coprime.dvd_of_dvd_mul_left g d
theorem isP.euc_pow {q d e r : Nat} (h : isP q) : q ∣ d ^ e * r → q ∣ d ∨ q ∣ r := by
  induction e with
  | zero => intro z; rw [Nat.pow_zero, Nat.one_mul] at z; exact .inr z
  | succ e ih =>
    intro z
    rw [Nat.pow_succ, Nat.mul_assoc, Nat.mul_left_comm] at z
    rcases h.euc z with z | z
    · exact .inl z
    · exact ih z
structure FI (N : Nat) (fs : List Nat) (r d : Nat) : Prop where
  r1 : 1 ≤ r
  d2 : 2 ≤ d
  rN : r ∣ N
  low : ∀ m, 2 ≤ m → m < d → ¬ m ∣ r
  cov : ∀ q, isP q → q ∣ N → q ∈ fs ∨ q ∣ r
  mem : ∀ q ∈ fs, isP q ∧ q ∣ N ∧ q < d
theorem FI.start {N : Nat} (h : 1 ≤ N) : FI N [] N 2 := ⟨h, Nat.le_refl _, Nat.dvd_refl _, fun m h1 h2 => by omega, fun q _ z => .inr z, fun q z => by simp at z⟩
theorem FI.prime {N : Nat} {fs : List Nat} {r d : Nat} (h : FI N fs r d) (z : d ∣ r) : isP d := by
  refine ⟨h.d2, fun m hm => ?_⟩
  have hd := h.d2
  by_cases h1 : m = 1
  · exact .inl h1
  · refine .inr ?_
    have m0 : m ≠ 0 := fun e => by subst e; have := Nat.eq_zero_of_zero_dvd hm; omega
    have le := Nat.le_of_dvd (by omega) hm
    by_cases h2 : m = d
    · exact h2
    · exact absurd (Nat.dvd_trans hm z) (h.low m (by omega) (by omega))
theorem FI.step {N : Nat} {fs fs' : List Nat} {r r' d e : Nat} (h : FI N fs r d) (er : r = d ^ e * r') (nd : ¬ d ∣ r') (hf : ∀ q, q ∈ fs' ↔ q ∈ fs ∨ (0 < e ∧ q = d)) : FI N fs' r' (d + 1) := by
  have rr : r' ∣ r := ⟨d ^ e, by rw [er, Nat.mul_comm]⟩
  have dr : 0 < e → d ∣ r := fun he => by
    rw [er]
    obtain ⟨k, rfl⟩ : ∃ k, e = k + 1 := ⟨e - 1, by omega⟩
    rw [Nat.pow_succ, Nat.mul_assoc, Nat.mul_left_comm]
    exact Nat.dvd_mul_right _ _
  refine ⟨Nat.pos_of_dvd_of_pos rr h.r1, by have := h.d2; omega, Nat.dvd_trans rr h.rN, fun m h1 h2 z => ?_, fun q hq hz => ?_, fun q hq => ?_⟩
  · by_cases hm : m = d
    · subst hm; exact nd z
    · exact h.low m h1 (by omega) (Nat.dvd_trans z rr)
  · rcases h.cov q hq hz with z | z
    · exact .inl ((hf q).mpr (.inl z))
    · by_cases he : 0 < e
      · have pd := h.prime (dr he)
        rw [er] at z
        rcases hq.euc_pow z with z | z
        · rcases pd.2 q z with z | z
          · have := hq.1; omega
          · exact .inl ((hf q).mpr (.inr ⟨he, z⟩))
        · exact .inr z
      · have : e = 0 := by omega
        subst this
        rw [Nat.pow_zero, Nat.one_mul] at er
        subst er
        exact .inr z
  · rcases (hf q).mp hq with z | ⟨he, z⟩
    · obtain ⟨a, b, c⟩ := h.mem q z
      exact ⟨a, b, by omega⟩
    · subst z
      exact ⟨h.prime (dr he), Nat.dvd_trans (dr he) h.rN, by omega⟩
/-- even numbers are passed by -/
theorem FI.skip {N : Nat} {fs : List Nat} {r d : Nat} (h : FI N fs r (d + 1)) (hd : 3 ≤ d) (odd : d % 2 = 1) : FI N fs r (d + 2) := by
  refine ⟨h.r1, by omega, h.rN, fun m h1 h2 z => ?_, h.cov, fun q hq => ?_⟩
  · by_cases hm : m = d + 1
    · subst hm
      have : 2 ∣ d + 1 := ⟨(d + 1) / 2, by omega⟩
      exact h.low 2 (by omega) (by omega) (Nat.dvd_trans this z)
    · exact h.low m h1 (by omega) z
  · obtain ⟨a, b, c⟩ := h.mem q hq
    exact ⟨a, b, by omega⟩
theorem FI.last {N : Nat} {fs fs' : List Nat} {r d : Nat} (h : FI N fs r d) (big : r < d * d) (hf : ∀ q, q ∈ fs' ↔ q ∈ fs ∨ (1 < r ∧ q = r)) : (∀ q, q ∈ fs' ↔ isP q ∧ q ∣ N) ∧ (1 < r → ∀ q ∈ fs, q < r) := by
  have pr : 1 < r → isP r := fun h1 => by
    refine ⟨h1, fun m hm => ?_⟩
    by_cases e1 : m = 1
    · exact .inl e1
    · refine .inr ?_
      obtain ⟨k, ek⟩ := hm
      have hd := h.d2
      have m0 : m ≠ 0 := fun e => by subst e; simp at ek; omega
      have k0 : k ≠ 0 := fun e => by subst e; simp at ek; omega
      have m1 : d ≤ m := Nat.le_of_not_lt fun z => h.low m (by omega) z ⟨k, ek⟩
      by_cases e2 : k = 1
      · subst e2; rw [Nat.mul_one] at ek; exact ek.symm
      · have k1 : d ≤ k := Nat.le_of_not_lt fun z => h.low k (by omega) z ⟨m, by rw [ek, Nat.mul_comm]⟩
        have := Nat.mul_le_mul m1 k1
        omega
  refine ⟨fun q => ⟨fun hq => ?_, fun ⟨hq, hz⟩ => ?_⟩, fun h1 q hq => ?_⟩
  · rcases (hf q).mp hq with z | ⟨h1, z⟩
    · exact ⟨(h.mem q z).1, (h.mem q z).2.1⟩
    · subst z; exact ⟨pr h1, h.rN⟩
  · rcases h.cov q hq hz with z | z
    · exact (hf q).mpr (.inl z)
    · have h1 : 1 < r := by
        have := Nat.le_of_dvd h.r1 z
        have := hq.1
        omega
      rcases (pr h1).2 q z with e | e
      · have := hq.1; omega
      · exact (hf q).mpr (.inr ⟨h1, e⟩)
  · have := (h.mem q hq).2.2
    have : d ≤ r := Nat.le_of_not_lt fun z => h.low r (by omega) z (Nat.dvd_refl _)
    omega
/-- the primes of N, ascending -/
structure PR (N : Nat) (l : List Nat) : Prop where
  asc : l.Pairwise (· < ·)
  mem : ∀ q, q ∈ l ↔ isP q ∧ q ∣ N
theorem asc_uniq : ∀ {l m : List Nat}, l.Pairwise (· < ·) → m.Pairwise (· < ·) → (∀ q, q ∈ l ↔ q ∈ m) → l = m
  | [], [], _, _, _ => rfl
  | [], y :: m, _, _, h => by have := (h y).mpr List.mem_cons_self; simp at this
  | x :: l, [], _, _, h => by have := (h x).mp List.mem_cons_self; simp at this
  | x :: l, y :: m, hl, hm, h => by
    obtain ⟨l1, l2⟩ := List.pairwise_cons.mp hl
    obtain ⟨m1, m2⟩ := List.pairwise_cons.mp hm
    have e : x = y := by
      rcases List.mem_cons.mp ((h x).mp List.mem_cons_self) with e | a
      · exact e
      · rcases List.mem_cons.mp ((h y).mpr List.mem_cons_self) with e | b
        · exact e.symm
        · have := m1 x a; have := l1 y b; omega
    subst e
    congr 1
    refine asc_uniq l2 m2 fun q => ⟨fun a => ?_, fun a => ?_⟩
    · rcases List.mem_cons.mp ((h q).mp (List.mem_cons_of_mem _ a)) with e | b
      · subst e; have := l1 q a; omega
      · exact b
    · rcases List.mem_cons.mp ((h q).mpr (List.mem_cons_of_mem _ a)) with e | b
      · subst e; have := m1 q a; omega
      · exact b
theorem PR.uniq {N : Nat} {l m : List Nat} (h : PR N l) (k : PR N m) : l = m := asc_uniq h.asc k.asc fun q => (h.mem q).trans (k.mem q).symm
end K61

set_option Elab.async false
set_option linter.all false
set_option maxRecDepth 100000
set_option maxHeartbeats 4000000
namespace K61
open PySem PySem.Spec PyProof.Rows L2 DW
/-! ### numbers -/
def inR (lo hi : Int) : D → Bool
  | .int i => decide (lo ≤ i) && decide (i ≤ hi)
  | _ => false
def MOST : Int := 1000000000000000000000000000000000000000000000000000000000000
theorem whole_eq (v : D) : F_is_whole none [v] = .ok (.val (.bool (isTy "int" v && !isTy "bool" v))) none := by
  cases h1 : isTy "int" v <;> cases h2 : isTy "bool" v <;> simp -implicitDefEqProofs [F_is_whole, r_bind, r_b1, r_b2, r_b3, r_ret, r_frz1, r_frz2, r_frz3, r_frz4, r_rd1, r_rd2, r_rs1, r_rs2, r_rs3, r_var, r_v1, r_v2, r_v3, r_v4, r_c, r_opnd, r_o1, r_o2, r_rdM, r_opt1, r_lift1, r_eOp, r_eUn, r_boolM, r_tB, r_optB, r_tru, r_and, r_or, r_not, r_bE, r_eAnd, r_eOr, r_eNot, r_eIf, r_condT, r_condF, r_aNil, r_aCons, r_rdsM, r_rdsN, r_rdsC, r_eB, r_nb1, r_nb2, r_vN, r_vC, r_tup, r_lst, r_fits, r_fits0, r_fits1, r_fits2, r_fits3, r_fits4, r_callN, r_callD, r_callM, r_call1, r_argB, r_argB1, r_argB2, r_argV, r_argN, r_back0, r_back0x, r_back1, r_back1x, r_setC, r_set1, r_set2, r_seq, r_s1, r_s2, r_s3, r_s4, r_s5, r_sNil, r_sRet, r_sRetN, r_sExpr, r_sIf, r_sBrk, r_sCont, r_asg, r_asgV, r_a1, r_a2, r_a3, r_a4, r_sFrz, r_fz1, r_fz2, r_fz3, r_raise, r_curL, r_cs1, r_cs2, r_st1, r_storeR, r_stoR, r_stoS, r_mut, r_mutR, r_mutL, r_mutS, r_pApp, r_sFor, r_forN, r_loop, r_forC, r_forR, r_l1, r_l2, r_l3, r_l4, r_l5, r_iRg, r_rg, r_iRg2, r_rg2, r_iSq, r_sq1, r_sq2, r_gN, r_fn, r_f1, r_f2, r_f3, r_f4, r_fin1, r_fin2, r_fin3, r_fin4, r_fb1, r_fb2, r_fin5, r_fin6, r_fin7, r_fc1, r_dAdd, r_dAddL, r_dSub, r_dMul, r_dMod, r_dDiv, r_dPow, r_dNeg, r_dLt, r_dLe, r_dGt, r_dGe, r_nInt, r_nIntB, r_nAbs, r_nLenL, r_nLenT, r_nLenD, r_nMax2, r_nMin2, r_ixL, r_ixT, r_nListL, r_nListT, r_nTupL, r_nDict, r_tru1, r_tru2, r_tru3, r_tru4, r_tru5, r_pExt, r_pIns, r_eqII, r_eqBB, r_neII, r_isN1, r_isN2, r_isN3, r_isN4, r_isN5, r_isN6, r_isi, r_chain, r_ch1, r_ch2, r_rdDict, r_undictD, r_key, r_get2, r_or1, r_or2, r_dix, r_dnew, r_curD, r_ce, r_valOf, r_dput, r_put, r_dictAt, r_dicS, r_eLock, r_sLock, r_lok, r_iDk, r_iDi, r_mapR, r_gT, r_tupT, r_gsN, r_gsC, r_gsR, r_aug, r_aug1, r_addI, r_while, r_sPar, r_oN, r_oS, r_part, r_eSl, r_slTo, r_slFrom, atI, ixN, env0, h1, h2]
theorem within_eq (v : D) (lo hi : Int) : F_is_within none [v, .int lo, .int hi] = .ok (.val (.bool (inR lo hi v))) none := by
  have e := whole_eq v
  cases v with
  | int i =>
    have e : F_is_whole none [.int i] = .ok (.val (.bool true)) none := e
    by_cases h : lo ≤ i
    · simp -implicitDefEqProofs [F_is_within, r_bind, r_b1, r_b2, r_b3, r_ret, r_frz1, r_frz2, r_frz3, r_frz4, r_rd1, r_rd2, r_rs1, r_rs2, r_rs3, r_var, r_v1, r_v2, r_v3, r_v4, r_c, r_opnd, r_o1, r_o2, r_rdM, r_opt1, r_lift1, r_eOp, r_eUn, r_boolM, r_tB, r_optB, r_tru, r_and, r_or, r_not, r_bE, r_eAnd, r_eOr, r_eNot, r_eIf, r_condT, r_condF, r_aNil, r_aCons, r_rdsM, r_rdsN, r_rdsC, r_eB, r_nb1, r_nb2, r_vN, r_vC, r_tup, r_lst, r_fits, r_fits0, r_fits1, r_fits2, r_fits3, r_fits4, r_callN, r_callD, r_callM, r_call1, r_argB, r_argB1, r_argB2, r_argV, r_argN, r_back0, r_back0x, r_back1, r_back1x, r_setC, r_set1, r_set2, r_seq, r_s1, r_s2, r_s3, r_s4, r_s5, r_sNil, r_sRet, r_sRetN, r_sExpr, r_sIf, r_sBrk, r_sCont, r_asg, r_asgV, r_a1, r_a2, r_a3, r_a4, r_sFrz, r_fz1, r_fz2, r_fz3, r_raise, r_curL, r_cs1, r_cs2, r_st1, r_storeR, r_stoR, r_stoS, r_mut, r_mutR, r_mutL, r_mutS, r_pApp, r_sFor, r_forN, r_loop, r_forC, r_forR, r_l1, r_l2, r_l3, r_l4, r_l5, r_iRg, r_rg, r_iRg2, r_rg2, r_iSq, r_sq1, r_sq2, r_gN, r_fn, r_f1, r_f2, r_f3, r_f4, r_fin1, r_fin2, r_fin3, r_fin4, r_fb1, r_fb2, r_fin5, r_fin6, r_fin7, r_fc1, r_dAdd, r_dAddL, r_dSub, r_dMul, r_dMod, r_dDiv, r_dPow, r_dNeg, r_dLt, r_dLe, r_dGt, r_dGe, r_nInt, r_nIntB, r_nAbs, r_nLenL, r_nLenT, r_nLenD, r_nMax2, r_nMin2, r_ixL, r_ixT, r_nListL, r_nListT, r_nTupL, r_nDict, r_tru1, r_tru2, r_tru3, r_tru4, r_tru5, r_pExt, r_pIns, r_eqII, r_eqBB, r_neII, r_isN1, r_isN2, r_isN3, r_isN4, r_isN5, r_isN6, r_isi, r_chain, r_ch1, r_ch2, r_rdDict, r_undictD, r_key, r_get2, r_or1, r_or2, r_dix, r_dnew, r_curD, r_ce, r_valOf, r_dput, r_put, r_dictAt, r_dicS, r_eLock, r_sLock, r_lok, r_iDk, r_iDi, r_mapR, r_gT, r_tupT, r_gsN, r_gsC, r_gsR, r_aug, r_aug1, r_addI, r_while, r_sPar, r_oN, r_oS, r_part, r_eSl, r_slTo, r_slFrom, atI, ixN, env0, e, inR, h]
    · simp -implicitDefEqProofs [F_is_within, r_bind, r_b1, r_b2, r_b3, r_ret, r_frz1, r_frz2, r_frz3, r_frz4, r_rd1, r_rd2, r_rs1, r_rs2, r_rs3, r_var, r_v1, r_v2, r_v3, r_v4, r_c, r_opnd, r_o1, r_o2, r_rdM, r_opt1, r_lift1, r_eOp, r_eUn, r_boolM, r_tB, r_optB, r_tru, r_and, r_or, r_not, r_bE, r_eAnd, r_eOr, r_eNot, r_eIf, r_condT, r_condF, r_aNil, r_aCons, r_rdsM, r_rdsN, r_rdsC, r_eB, r_nb1, r_nb2, r_vN, r_vC, r_tup, r_lst, r_fits, r_fits0, r_fits1, r_fits2, r_fits3, r_fits4, r_callN, r_callD, r_callM, r_call1, r_argB, r_argB1, r_argB2, r_argV, r_argN, r_back0, r_back0x, r_back1, r_back1x, r_setC, r_set1, r_set2, r_seq, r_s1, r_s2, r_s3, r_s4, r_s5, r_sNil, r_sRet, r_sRetN, r_sExpr, r_sIf, r_sBrk, r_sCont, r_asg, r_asgV, r_a1, r_a2, r_a3, r_a4, r_sFrz, r_fz1, r_fz2, r_fz3, r_raise, r_curL, r_cs1, r_cs2, r_st1, r_storeR, r_stoR, r_stoS, r_mut, r_mutR, r_mutL, r_mutS, r_pApp, r_sFor, r_forN, r_loop, r_forC, r_forR, r_l1, r_l2, r_l3, r_l4, r_l5, r_iRg, r_rg, r_iRg2, r_rg2, r_iSq, r_sq1, r_sq2, r_gN, r_fn, r_f1, r_f2, r_f3, r_f4, r_fin1, r_fin2, r_fin3, r_fin4, r_fb1, r_fb2, r_fin5, r_fin6, r_fin7, r_fc1, r_dAdd, r_dAddL, r_dSub, r_dMul, r_dMod, r_dDiv, r_dPow, r_dNeg, r_dLt, r_dLe, r_dGt, r_dGe, r_nInt, r_nIntB, r_nAbs, r_nLenL, r_nLenT, r_nLenD, r_nMax2, r_nMin2, r_ixL, r_ixT, r_nListL, r_nListT, r_nTupL, r_nDict, r_tru1, r_tru2, r_tru3, r_tru4, r_tru5, r_pExt, r_pIns, r_eqII, r_eqBB, r_neII, r_isN1, r_isN2, r_isN3, r_isN4, r_isN5, r_isN6, r_isi, r_chain, r_ch1, r_ch2, r_rdDict, r_undictD, r_key, r_get2, r_or1, r_or2, r_dix, r_dnew, r_curD, r_ce, r_valOf, r_dput, r_put, r_dictAt, r_dicS, r_eLock, r_sLock, r_lok, r_iDk, r_iDi, r_mapR, r_gT, r_tupT, r_gsN, r_gsC, r_gsR, r_aug, r_aug1, r_addI, r_while, r_sPar, r_oN, r_oS, r_part, r_eSl, r_slTo, r_slFrom, atI, ixN, env0, e, inR, h]
  | none => (have e : F_is_whole none [.none] = .ok (.val (.bool false)) none := e); simp -implicitDefEqProofs [F_is_within, r_bind, r_b1, r_b2, r_b3, r_ret, r_frz1, r_frz2, r_frz3, r_frz4, r_rd1, r_rd2, r_rs1, r_rs2, r_rs3, r_var, r_v1, r_v2, r_v3, r_v4, r_c, r_opnd, r_o1, r_o2, r_rdM, r_opt1, r_lift1, r_eOp, r_eUn, r_boolM, r_tB, r_optB, r_tru, r_and, r_or, r_not, r_bE, r_eAnd, r_eOr, r_eNot, r_eIf, r_condT, r_condF, r_aNil, r_aCons, r_rdsM, r_rdsN, r_rdsC, r_eB, r_nb1, r_nb2, r_vN, r_vC, r_tup, r_lst, r_fits, r_fits0, r_fits1, r_fits2, r_fits3, r_fits4, r_callN, r_callD, r_callM, r_call1, r_argB, r_argB1, r_argB2, r_argV, r_argN, r_back0, r_back0x, r_back1, r_back1x, r_setC, r_set1, r_set2, r_seq, r_s1, r_s2, r_s3, r_s4, r_s5, r_sNil, r_sRet, r_sRetN, r_sExpr, r_sIf, r_sBrk, r_sCont, r_asg, r_asgV, r_a1, r_a2, r_a3, r_a4, r_sFrz, r_fz1, r_fz2, r_fz3, r_raise, r_curL, r_cs1, r_cs2, r_st1, r_storeR, r_stoR, r_stoS, r_mut, r_mutR, r_mutL, r_mutS, r_pApp, r_sFor, r_forN, r_loop, r_forC, r_forR, r_l1, r_l2, r_l3, r_l4, r_l5, r_iRg, r_rg, r_iRg2, r_rg2, r_iSq, r_sq1, r_sq2, r_gN, r_fn, r_f1, r_f2, r_f3, r_f4, r_fin1, r_fin2, r_fin3, r_fin4, r_fb1, r_fb2, r_fin5, r_fin6, r_fin7, r_fc1, r_dAdd, r_dAddL, r_dSub, r_dMul, r_dMod, r_dDiv, r_dPow, r_dNeg, r_dLt, r_dLe, r_dGt, r_dGe, r_nInt, r_nIntB, r_nAbs, r_nLenL, r_nLenT, r_nLenD, r_nMax2, r_nMin2, r_ixL, r_ixT, r_nListL, r_nListT, r_nTupL, r_nDict, r_tru1, r_tru2, r_tru3, r_tru4, r_tru5, r_pExt, r_pIns, r_eqII, r_eqBB, r_neII, r_isN1, r_isN2, r_isN3, r_isN4, r_isN5, r_isN6, r_isi, r_chain, r_ch1, r_ch2, r_rdDict, r_undictD, r_key, r_get2, r_or1, r_or2, r_dix, r_dnew, r_curD, r_ce, r_valOf, r_dput, r_put, r_dictAt, r_dicS, r_eLock, r_sLock, r_lok, r_iDk, r_iDi, r_mapR, r_gT, r_tupT, r_gsN, r_gsC, r_gsR, r_aug, r_aug1, r_addI, r_while, r_sPar, r_oN, r_oS, r_part, r_eSl, r_slTo, r_slFrom, atI, ixN, env0, e, inR]
  | bool b => (have e : F_is_whole none [.bool b] = .ok (.val (.bool false)) none := e); simp -implicitDefEqProofs [F_is_within, r_bind, r_b1, r_b2, r_b3, r_ret, r_frz1, r_frz2, r_frz3, r_frz4, r_rd1, r_rd2, r_rs1, r_rs2, r_rs3, r_var, r_v1, r_v2, r_v3, r_v4, r_c, r_opnd, r_o1, r_o2, r_rdM, r_opt1, r_lift1, r_eOp, r_eUn, r_boolM, r_tB, r_optB, r_tru, r_and, r_or, r_not, r_bE, r_eAnd, r_eOr, r_eNot, r_eIf, r_condT, r_condF, r_aNil, r_aCons, r_rdsM, r_rdsN, r_rdsC, r_eB, r_nb1, r_nb2, r_vN, r_vC, r_tup, r_lst, r_fits, r_fits0, r_fits1, r_fits2, r_fits3, r_fits4, r_callN, r_callD, r_callM, r_call1, r_argB, r_argB1, r_argB2, r_argV, r_argN, r_back0, r_back0x, r_back1, r_back1x, r_setC, r_set1, r_set2, r_seq, r_s1, r_s2, r_s3, r_s4, r_s5, r_sNil, r_sRet, r_sRetN, r_sExpr, r_sIf, r_sBrk, r_sCont, r_asg, r_asgV, r_a1, r_a2, r_a3, r_a4, r_sFrz, r_fz1, r_fz2, r_fz3, r_raise, r_curL, r_cs1, r_cs2, r_st1, r_storeR, r_stoR, r_stoS, r_mut, r_mutR, r_mutL, r_mutS, r_pApp, r_sFor, r_forN, r_loop, r_forC, r_forR, r_l1, r_l2, r_l3, r_l4, r_l5, r_iRg, r_rg, r_iRg2, r_rg2, r_iSq, r_sq1, r_sq2, r_gN, r_fn, r_f1, r_f2, r_f3, r_f4, r_fin1, r_fin2, r_fin3, r_fin4, r_fb1, r_fb2, r_fin5, r_fin6, r_fin7, r_fc1, r_dAdd, r_dAddL, r_dSub, r_dMul, r_dMod, r_dDiv, r_dPow, r_dNeg, r_dLt, r_dLe, r_dGt, r_dGe, r_nInt, r_nIntB, r_nAbs, r_nLenL, r_nLenT, r_nLenD, r_nMax2, r_nMin2, r_ixL, r_ixT, r_nListL, r_nListT, r_nTupL, r_nDict, r_tru1, r_tru2, r_tru3, r_tru4, r_tru5, r_pExt, r_pIns, r_eqII, r_eqBB, r_neII, r_isN1, r_isN2, r_isN3, r_isN4, r_isN5, r_isN6, r_isi, r_chain, r_ch1, r_ch2, r_rdDict, r_undictD, r_key, r_get2, r_or1, r_or2, r_dix, r_dnew, r_curD, r_ce, r_valOf, r_dput, r_put, r_dictAt, r_dicS, r_eLock, r_sLock, r_lok, r_iDk, r_iDi, r_mapR, r_gT, r_tupT, r_gsN, r_gsC, r_gsR, r_aug, r_aug1, r_addI, r_while, r_sPar, r_oN, r_oS, r_part, r_eSl, r_slTo, r_slFrom, atI, ixN, env0, e, inR]
  | str b => (have e : F_is_whole none [.str b] = .ok (.val (.bool false)) none := e); simp -implicitDefEqProofs [F_is_within, r_bind, r_b1, r_b2, r_b3, r_ret, r_frz1, r_frz2, r_frz3, r_frz4, r_rd1, r_rd2, r_rs1, r_rs2, r_rs3, r_var, r_v1, r_v2, r_v3, r_v4, r_c, r_opnd, r_o1, r_o2, r_rdM, r_opt1, r_lift1, r_eOp, r_eUn, r_boolM, r_tB, r_optB, r_tru, r_and, r_or, r_not, r_bE, r_eAnd, r_eOr, r_eNot, r_eIf, r_condT, r_condF, r_aNil, r_aCons, r_rdsM, r_rdsN, r_rdsC, r_eB, r_nb1, r_nb2, r_vN, r_vC, r_tup, r_lst, r_fits, r_fits0, r_fits1, r_fits2, r_fits3, r_fits4, r_callN, r_callD, r_callM, r_call1, r_argB, r_argB1, r_argB2, r_argV, r_argN, r_back0, r_back0x, r_back1, r_back1x, r_setC, r_set1, r_set2, r_seq, r_s1, r_s2, r_s3, r_s4, r_s5, r_sNil, r_sRet, r_sRetN, r_sExpr, r_sIf, r_sBrk, r_sCont, r_asg, r_asgV, r_a1, r_a2, r_a3, r_a4, r_sFrz, r_fz1, r_fz2, r_fz3, r_raise, r_curL, r_cs1, r_cs2, r_st1, r_storeR, r_stoR, r_stoS, r_mut, r_mutR, r_mutL, r_mutS, r_pApp, r_sFor, r_forN, r_loop, r_forC, r_forR, r_l1, r_l2, r_l3, r_l4, r_l5, r_iRg, r_rg, r_iRg2, r_rg2, r_iSq, r_sq1, r_sq2, r_gN, r_fn, r_f1, r_f2, r_f3, r_f4, r_fin1, r_fin2, r_fin3, r_fin4, r_fb1, r_fb2, r_fin5, r_fin6, r_fin7, r_fc1, r_dAdd, r_dAddL, r_dSub, r_dMul, r_dMod, r_dDiv, r_dPow, r_dNeg, r_dLt, r_dLe, r_dGt, r_dGe, r_nInt, r_nIntB, r_nAbs, r_nLenL, r_nLenT, r_nLenD, r_nMax2, r_nMin2, r_ixL, r_ixT, r_nListL, r_nListT, r_nTupL, r_nDict, r_tru1, r_tru2, r_tru3, r_tru4, r_tru5, r_pExt, r_pIns, r_eqII, r_eqBB, r_neII, r_isN1, r_isN2, r_isN3, r_isN4, r_isN5, r_isN6, r_isi, r_chain, r_ch1, r_ch2, r_rdDict, r_undictD, r_key, r_get2, r_or1, r_or2, r_dix, r_dnew, r_curD, r_ce, r_valOf, r_dput, r_put, r_dictAt, r_dicS, r_eLock, r_sLock, r_lok, r_iDk, r_iDi, r_mapR, r_gT, r_tupT, r_gsN, r_gsC, r_gsR, r_aug, r_aug1, r_addI, r_while, r_sPar, r_oN, r_oS, r_part, r_eSl, r_slTo, r_slFrom, atI, ixN, env0, e, inR]
  | list b => (have e : F_is_whole none [.list b] = .ok (.val (.bool false)) none := e); simp -implicitDefEqProofs [F_is_within, r_bind, r_b1, r_b2, r_b3, r_ret, r_frz1, r_frz2, r_frz3, r_frz4, r_rd1, r_rd2, r_rs1, r_rs2, r_rs3, r_var, r_v1, r_v2, r_v3, r_v4, r_c, r_opnd, r_o1, r_o2, r_rdM, r_opt1, r_lift1, r_eOp, r_eUn, r_boolM, r_tB, r_optB, r_tru, r_and, r_or, r_not, r_bE, r_eAnd, r_eOr, r_eNot, r_eIf, r_condT, r_condF, r_aNil, r_aCons, r_rdsM, r_rdsN, r_rdsC, r_eB, r_nb1, r_nb2, r_vN, r_vC, r_tup, r_lst, r_fits, r_fits0, r_fits1, r_fits2, r_fits3, r_fits4, r_callN, r_callD, r_callM, r_call1, r_argB, r_argB1, r_argB2, r_argV, r_argN, r_back0, r_back0x, r_back1, r_back1x, r_setC, r_set1, r_set2, r_seq, r_s1, r_s2, r_s3, r_s4, r_s5, r_sNil, r_sRet, r_sRetN, r_sExpr, r_sIf, r_sBrk, r_sCont, r_asg, r_asgV, r_a1, r_a2, r_a3, r_a4, r_sFrz, r_fz1, r_fz2, r_fz3, r_raise, r_curL, r_cs1, r_cs2, r_st1, r_storeR, r_stoR, r_stoS, r_mut, r_mutR, r_mutL, r_mutS, r_pApp, r_sFor, r_forN, r_loop, r_forC, r_forR, r_l1, r_l2, r_l3, r_l4, r_l5, r_iRg, r_rg, r_iRg2, r_rg2, r_iSq, r_sq1, r_sq2, r_gN, r_fn, r_f1, r_f2, r_f3, r_f4, r_fin1, r_fin2, r_fin3, r_fin4, r_fb1, r_fb2, r_fin5, r_fin6, r_fin7, r_fc1, r_dAdd, r_dAddL, r_dSub, r_dMul, r_dMod, r_dDiv, r_dPow, r_dNeg, r_dLt, r_dLe, r_dGt, r_dGe, r_nInt, r_nIntB, r_nAbs, r_nLenL, r_nLenT, r_nLenD, r_nMax2, r_nMin2, r_ixL, r_ixT, r_nListL, r_nListT, r_nTupL, r_nDict, r_tru1, r_tru2, r_tru3, r_tru4, r_tru5, r_pExt, r_pIns, r_eqII, r_eqBB, r_neII, r_isN1, r_isN2, r_isN3, r_isN4, r_isN5, r_isN6, r_isi, r_chain, r_ch1, r_ch2, r_rdDict, r_undictD, r_key, r_get2, r_or1, r_or2, r_dix, r_dnew, r_curD, r_ce, r_valOf, r_dput, r_put, r_dictAt, r_dicS, r_eLock, r_sLock, r_lok, r_iDk, r_iDi, r_mapR, r_gT, r_tupT, r_gsN, r_gsC, r_gsR, r_aug, r_aug1, r_addI, r_while, r_sPar, r_oN, r_oS, r_part, r_eSl, r_slTo, r_slFrom, atI, ixN, env0, e, inR]
  | tuple b => (have e : F_is_whole none [.tuple b] = .ok (.val (.bool false)) none := e); simp -implicitDefEqProofs [F_is_within, r_bind, r_b1, r_b2, r_b3, r_ret, r_frz1, r_frz2, r_frz3, r_frz4, r_rd1, r_rd2, r_rs1, r_rs2, r_rs3, r_var, r_v1, r_v2, r_v3, r_v4, r_c, r_opnd, r_o1, r_o2, r_rdM, r_opt1, r_lift1, r_eOp, r_eUn, r_boolM, r_tB, r_optB, r_tru, r_and, r_or, r_not, r_bE, r_eAnd, r_eOr, r_eNot, r_eIf, r_condT, r_condF, r_aNil, r_aCons, r_rdsM, r_rdsN, r_rdsC, r_eB, r_nb1, r_nb2, r_vN, r_vC, r_tup, r_lst, r_fits, r_fits0, r_fits1, r_fits2, r_fits3, r_fits4, r_callN, r_callD, r_callM, r_call1, r_argB, r_argB1, r_argB2, r_argV, r_argN, r_back0, r_back0x, r_back1, r_back1x, r_setC, r_set1, r_set2, r_seq, r_s1, r_s2, r_s3, r_s4, r_s5, r_sNil, r_sRet, r_sRetN, r_sExpr, r_sIf, r_sBrk, r_sCont, r_asg, r_asgV, r_a1, r_a2, r_a3, r_a4, r_sFrz, r_fz1, r_fz2, r_fz3, r_raise, r_curL, r_cs1, r_cs2, r_st1, r_storeR, r_stoR, r_stoS, r_mut, r_mutR, r_mutL, r_mutS, r_pApp, r_sFor, r_forN, r_loop, r_forC, r_forR, r_l1, r_l2, r_l3, r_l4, r_l5, r_iRg, r_rg, r_iRg2, r_rg2, r_iSq, r_sq1, r_sq2, r_gN, r_fn, r_f1, r_f2, r_f3, r_f4, r_fin1, r_fin2, r_fin3, r_fin4, r_fb1, r_fb2, r_fin5, r_fin6, r_fin7, r_fc1, r_dAdd, r_dAddL, r_dSub, r_dMul, r_dMod, r_dDiv, r_dPow, r_dNeg, r_dLt, r_dLe, r_dGt, r_dGe, r_nInt, r_nIntB, r_nAbs, r_nLenL, r_nLenT, r_nLenD, r_nMax2, r_nMin2, r_ixL, r_ixT, r_nListL, r_nListT, r_nTupL, r_nDict, r_tru1, r_tru2, r_tru3, r_tru4, r_tru5, r_pExt, r_pIns, r_eqII, r_eqBB, r_neII, r_isN1, r_isN2, r_isN3, r_isN4, r_isN5, r_isN6, r_isi, r_chain, r_ch1, r_ch2, r_rdDict, r_undictD, r_key, r_get2, r_or1, r_or2, r_dix, r_dnew, r_curD, r_ce, r_valOf, r_dput, r_put, r_dictAt, r_dicS, r_eLock, r_sLock, r_lok, r_iDk, r_iDi, r_mapR, r_gT, r_tupT, r_gsN, r_gsC, r_gsR, r_aug, r_aug1, r_addI, r_while, r_sPar, r_oN, r_oS, r_part, r_eSl, r_slTo, r_slFrom, atI, ixN, env0, e, inR]
  | dict b => (have e : F_is_whole none [.dict b] = .ok (.val (.bool false)) none := e); simp -implicitDefEqProofs [F_is_within, r_bind, r_b1, r_b2, r_b3, r_ret, r_frz1, r_frz2, r_frz3, r_frz4, r_rd1, r_rd2, r_rs1, r_rs2, r_rs3, r_var, r_v1, r_v2, r_v3, r_v4, r_c, r_opnd, r_o1, r_o2, r_rdM, r_opt1, r_lift1, r_eOp, r_eUn, r_boolM, r_tB, r_optB, r_tru, r_and, r_or, r_not, r_bE, r_eAnd, r_eOr, r_eNot, r_eIf, r_condT, r_condF, r_aNil, r_aCons, r_rdsM, r_rdsN, r_rdsC, r_eB, r_nb1, r_nb2, r_vN, r_vC, r_tup, r_lst, r_fits, r_fits0, r_fits1, r_fits2, r_fits3, r_fits4, r_callN, r_callD, r_callM, r_call1, r_argB, r_argB1, r_argB2, r_argV, r_argN, r_back0, r_back0x, r_back1, r_back1x, r_setC, r_set1, r_set2, r_seq, r_s1, r_s2, r_s3, r_s4, r_s5, r_sNil, r_sRet, r_sRetN, r_sExpr, r_sIf, r_sBrk, r_sCont, r_asg, r_asgV, r_a1, r_a2, r_a3, r_a4, r_sFrz, r_fz1, r_fz2, r_fz3, r_raise, r_curL, r_cs1, r_cs2, r_st1, r_storeR, r_stoR, r_stoS, r_mut, r_mutR, r_mutL, r_mutS, r_pApp, r_sFor, r_forN, r_loop, r_forC, r_forR, r_l1, r_l2, r_l3, r_l4, r_l5, r_iRg, r_rg, r_iRg2, r_rg2, r_iSq, r_sq1, r_sq2, r_gN, r_fn, r_f1, r_f2, r_f3, r_f4, r_fin1, r_fin2, r_fin3, r_fin4, r_fb1, r_fb2, r_fin5, r_fin6, r_fin7, r_fc1, r_dAdd, r_dAddL, r_dSub, r_dMul, r_dMod, r_dDiv, r_dPow, r_dNeg, r_dLt, r_dLe, r_dGt, r_dGe, r_nInt, r_nIntB, r_nAbs, r_nLenL, r_nLenT, r_nLenD, r_nMax2, r_nMin2, r_ixL, r_ixT, r_nListL, r_nListT, r_nTupL, r_nDict, r_tru1, r_tru2, r_tru3, r_tru4, r_tru5, r_pExt, r_pIns, r_eqII, r_eqBB, r_neII, r_isN1, r_isN2, r_isN3, r_isN4, r_isN5, r_isN6, r_isi, r_chain, r_ch1, r_ch2, r_rdDict, r_undictD, r_key, r_get2, r_or1, r_or2, r_dix, r_dnew, r_curD, r_ce, r_valOf, r_dput, r_put, r_dictAt, r_dicS, r_eLock, r_sLock, r_lok, r_iDk, r_iDi, r_mapR, r_gT, r_tupT, r_gsN, r_gsC, r_gsR, r_aug, r_aug1, r_addI, r_while, r_sPar, r_oN, r_oS, r_part, r_eSl, r_slTo, r_slFrom, atI, ixN, env0, e, inR]
theorem bounds_eq {lo hi : Int} (h1 : inR (-MOST) MOST (.int lo) = true) (h2 : inR (-MOST) MOST (.int hi) = true) : F_check_bounds none [.int lo, .int hi] = .ok (.val .none) none := by
  have e1 := within_eq (.int lo) (-MOST) MOST
  have e2 := within_eq (.int hi) (-MOST) MOST
  rw [h1] at e1
  rw [h2] at e2
  unfold MOST at e1 e2
  simp -implicitDefEqProofs [F_check_bounds, r_bind, r_b1, r_b2, r_b3, r_ret, r_frz1, r_frz2, r_frz3, r_frz4, r_rd1, r_rd2, r_rs1, r_rs2, r_rs3, r_var, r_v1, r_v2, r_v3, r_v4, r_c, r_opnd, r_o1, r_o2, r_rdM, r_opt1, r_lift1, r_eOp, r_eUn, r_boolM, r_tB, r_optB, r_tru, r_and, r_or, r_not, r_bE, r_eAnd, r_eOr, r_eNot, r_eIf, r_condT, r_condF, r_aNil, r_aCons, r_rdsM, r_rdsN, r_rdsC, r_eB, r_nb1, r_nb2, r_vN, r_vC, r_tup, r_lst, r_fits, r_fits0, r_fits1, r_fits2, r_fits3, r_fits4, r_callN, r_callD, r_callM, r_call1, r_argB, r_argB1, r_argB2, r_argV, r_argN, r_back0, r_back0x, r_back1, r_back1x, r_setC, r_set1, r_set2, r_seq, r_s1, r_s2, r_s3, r_s4, r_s5, r_sNil, r_sRet, r_sRetN, r_sExpr, r_sIf, r_sBrk, r_sCont, r_asg, r_asgV, r_a1, r_a2, r_a3, r_a4, r_sFrz, r_fz1, r_fz2, r_fz3, r_raise, r_curL, r_cs1, r_cs2, r_st1, r_storeR, r_stoR, r_stoS, r_mut, r_mutR, r_mutL, r_mutS, r_pApp, r_sFor, r_forN, r_loop, r_forC, r_forR, r_l1, r_l2, r_l3, r_l4, r_l5, r_iRg, r_rg, r_iRg2, r_rg2, r_iSq, r_sq1, r_sq2, r_gN, r_fn, r_f1, r_f2, r_f3, r_f4, r_fin1, r_fin2, r_fin3, r_fin4, r_fb1, r_fb2, r_fin5, r_fin6, r_fin7, r_fc1, r_dAdd, r_dAddL, r_dSub, r_dMul, r_dMod, r_dDiv, r_dPow, r_dNeg, r_dLt, r_dLe, r_dGt, r_dGe, r_nInt, r_nIntB, r_nAbs, r_nLenL, r_nLenT, r_nLenD, r_nMax2, r_nMin2, r_ixL, r_ixT, r_nListL, r_nListT, r_nTupL, r_nDict, r_tru1, r_tru2, r_tru3, r_tru4, r_tru5, r_pExt, r_pIns, r_eqII, r_eqBB, r_neII, r_isN1, r_isN2, r_isN3, r_isN4, r_isN5, r_isN6, r_isi, r_chain, r_ch1, r_ch2, r_rdDict, r_undictD, r_key, r_get2, r_or1, r_or2, r_dix, r_dnew, r_curD, r_ce, r_valOf, r_dput, r_put, r_dictAt, r_dicS, r_eLock, r_sLock, r_lok, r_iDk, r_iDi, r_mapR, r_gT, r_tupT, r_gsN, r_gsC, r_gsR, r_aug, r_aug1, r_addI, r_while, r_sPar, r_oN, r_oS, r_part, r_eSl, r_slTo, r_slFrom, atI, ixN, env0, e1, e2]
theorem number_eq (v : D) {lo hi : Int} (h1 : inR (-MOST) MOST (.int lo) = true) (h2 : inR (-MOST) MOST (.int hi) = true) : F_is_number none [v, .int lo, .int hi] = .ok (.val (.bool (inR lo hi v))) none := by
  simp -implicitDefEqProofs [F_is_number, r_bind, r_b1, r_b2, r_b3, r_ret, r_frz1, r_frz2, r_frz3, r_frz4, r_rd1, r_rd2, r_rs1, r_rs2, r_rs3, r_var, r_v1, r_v2, r_v3, r_v4, r_c, r_opnd, r_o1, r_o2, r_rdM, r_opt1, r_lift1, r_eOp, r_eUn, r_boolM, r_tB, r_optB, r_tru, r_and, r_or, r_not, r_bE, r_eAnd, r_eOr, r_eNot, r_eIf, r_condT, r_condF, r_aNil, r_aCons, r_rdsM, r_rdsN, r_rdsC, r_eB, r_nb1, r_nb2, r_vN, r_vC, r_tup, r_lst, r_fits, r_fits0, r_fits1, r_fits2, r_fits3, r_fits4, r_callN, r_callD, r_callM, r_call1, r_argB, r_argB1, r_argB2, r_argV, r_argN, r_back0, r_back0x, r_back1, r_back1x, r_setC, r_set1, r_set2, r_seq, r_s1, r_s2, r_s3, r_s4, r_s5, r_sNil, r_sRet, r_sRetN, r_sExpr, r_sIf, r_sBrk, r_sCont, r_asg, r_asgV, r_a1, r_a2, r_a3, r_a4, r_sFrz, r_fz1, r_fz2, r_fz3, r_raise, r_curL, r_cs1, r_cs2, r_st1, r_storeR, r_stoR, r_stoS, r_mut, r_mutR, r_mutL, r_mutS, r_pApp, r_sFor, r_forN, r_loop, r_forC, r_forR, r_l1, r_l2, r_l3, r_l4, r_l5, r_iRg, r_rg, r_iRg2, r_rg2, r_iSq, r_sq1, r_sq2, r_gN, r_fn, r_f1, r_f2, r_f3, r_f4, r_fin1, r_fin2, r_fin3, r_fin4, r_fb1, r_fb2, r_fin5, r_fin6, r_fin7, r_fc1, r_dAdd, r_dAddL, r_dSub, r_dMul, r_dMod, r_dDiv, r_dPow, r_dNeg, r_dLt, r_dLe, r_dGt, r_dGe, r_nInt, r_nIntB, r_nAbs, r_nLenL, r_nLenT, r_nLenD, r_nMax2, r_nMin2, r_ixL, r_ixT, r_nListL, r_nListT, r_nTupL, r_nDict, r_tru1, r_tru2, r_tru3, r_tru4, r_tru5, r_pExt, r_pIns, r_eqII, r_eqBB, r_neII, r_isN1, r_isN2, r_isN3, r_isN4, r_isN5, r_isN6, r_isi, r_chain, r_ch1, r_ch2, r_rdDict, r_undictD, r_key, r_get2, r_or1, r_or2, r_dix, r_dnew, r_curD, r_ce, r_valOf, r_dput, r_put, r_dictAt, r_dicS, r_eLock, r_sLock, r_lok, r_iDk, r_iDi, r_mapR, r_gT, r_tupT, r_gsN, r_gsC, r_gsR, r_aug, r_aug1, r_addI, r_while, r_sPar, r_oN, r_oS, r_part, r_eSl, r_slTo, r_slFrom, atI, ixN, env0, bounds_eq h1 h2, within_eq v lo hi]
def badN : Exn := ⟨"BadNumber", none⟩
theorem check_eq (v : D) {lo hi : Int} (h1 : inR (-MOST) MOST (.int lo) = true) (h2 : inR (-MOST) MOST (.int hi) = true) : F_check_number none [v, .int lo, .int hi] = if inR lo hi v = true then .ok (.val .none) none else .ex badN none := by
  have e := number_eq v h1 h2
  cases h : inR lo hi v with
  | true => rw [h] at e; simp -implicitDefEqProofs [F_check_number, r_bind, r_b1, r_b2, r_b3, r_ret, r_frz1, r_frz2, r_frz3, r_frz4, r_rd1, r_rd2, r_rs1, r_rs2, r_rs3, r_var, r_v1, r_v2, r_v3, r_v4, r_c, r_opnd, r_o1, r_o2, r_rdM, r_opt1, r_lift1, r_eOp, r_eUn, r_boolM, r_tB, r_optB, r_tru, r_and, r_or, r_not, r_bE, r_eAnd, r_eOr, r_eNot, r_eIf, r_condT, r_condF, r_aNil, r_aCons, r_rdsM, r_rdsN, r_rdsC, r_eB, r_nb1, r_nb2, r_vN, r_vC, r_tup, r_lst, r_fits, r_fits0, r_fits1, r_fits2, r_fits3, r_fits4, r_callN, r_callD, r_callM, r_call1, r_argB, r_argB1, r_argB2, r_argV, r_argN, r_back0, r_back0x, r_back1, r_back1x, r_setC, r_set1, r_set2, r_seq, r_s1, r_s2, r_s3, r_s4, r_s5, r_sNil, r_sRet, r_sRetN, r_sExpr, r_sIf, r_sBrk, r_sCont, r_asg, r_asgV, r_a1, r_a2, r_a3, r_a4, r_sFrz, r_fz1, r_fz2, r_fz3, r_raise, r_curL, r_cs1, r_cs2, r_st1, r_storeR, r_stoR, r_stoS, r_mut, r_mutR, r_mutL, r_mutS, r_pApp, r_sFor, r_forN, r_loop, r_forC, r_forR, r_l1, r_l2, r_l3, r_l4, r_l5, r_iRg, r_rg, r_iRg2, r_rg2, r_iSq, r_sq1, r_sq2, r_gN, r_fn, r_f1, r_f2, r_f3, r_f4, r_fin1, r_fin2, r_fin3, r_fin4, r_fb1, r_fb2, r_fin5, r_fin6, r_fin7, r_fc1, r_dAdd, r_dAddL, r_dSub, r_dMul, r_dMod, r_dDiv, r_dPow, r_dNeg, r_dLt, r_dLe, r_dGt, r_dGe, r_nInt, r_nIntB, r_nAbs, r_nLenL, r_nLenT, r_nLenD, r_nMax2, r_nMin2, r_ixL, r_ixT, r_nListL, r_nListT, r_nTupL, r_nDict, r_tru1, r_tru2, r_tru3, r_tru4, r_tru5, r_pExt, r_pIns, r_eqII, r_eqBB, r_neII, r_isN1, r_isN2, r_isN3, r_isN4, r_isN5, r_isN6, r_isi, r_chain, r_ch1, r_ch2, r_rdDict, r_undictD, r_key, r_get2, r_or1, r_or2, r_dix, r_dnew, r_curD, r_ce, r_valOf, r_dput, r_put, r_dictAt, r_dicS, r_eLock, r_sLock, r_lok, r_iDk, r_iDi, r_mapR, r_gT, r_tupT, r_gsN, r_gsC, r_gsR, r_aug, r_aug1, r_addI, r_while, r_sPar, r_oN, r_oS, r_part, r_eSl, r_slTo, r_slFrom, atI, ixN, env0, e]
  | false => rw [h] at e; simp -implicitDefEqProofs [F_check_number, r_bind, r_b1, r_b2, r_b3, r_ret, r_frz1, r_frz2, r_frz3, r_frz4, r_rd1, r_rd2, r_rs1, r_rs2, r_rs3, r_var, r_v1, r_v2, r_v3, r_v4, r_c, r_opnd, r_o1, r_o2, r_rdM, r_opt1, r_lift1, r_eOp, r_eUn, r_boolM, r_tB, r_optB, r_tru, r_and, r_or, r_not, r_bE, r_eAnd, r_eOr, r_eNot, r_eIf, r_condT, r_condF, r_aNil, r_aCons, r_rdsM, r_rdsN, r_rdsC, r_eB, r_nb1, r_nb2, r_vN, r_vC, r_tup, r_lst, r_fits, r_fits0, r_fits1, r_fits2, r_fits3, r_fits4, r_callN, r_callD, r_callM, r_call1, r_argB, r_argB1, r_argB2, r_argV, r_argN, r_back0, r_back0x, r_back1, r_back1x, r_setC, r_set1, r_set2, r_seq, r_s1, r_s2, r_s3, r_s4, r_s5, r_sNil, r_sRet, r_sRetN, r_sExpr, r_sIf, r_sBrk, r_sCont, r_asg, r_asgV, r_a1, r_a2, r_a3, r_a4, r_sFrz, r_fz1, r_fz2, r_fz3, r_raise, r_curL, r_cs1, r_cs2, r_st1, r_storeR, r_stoR, r_stoS, r_mut, r_mutR, r_mutL, r_mutS, r_pApp, r_sFor, r_forN, r_loop, r_forC, r_forR, r_l1, r_l2, r_l3, r_l4, r_l5, r_iRg, r_rg, r_iRg2, r_rg2, r_iSq, r_sq1, r_sq2, r_gN, r_fn, r_f1, r_f2, r_f3, r_f4, r_fin1, r_fin2, r_fin3, r_fin4, r_fb1, r_fb2, r_fin5, r_fin6, r_fin7, r_fc1, r_dAdd, r_dAddL, r_dSub, r_dMul, r_dMod, r_dDiv, r_dPow, r_dNeg, r_dLt, r_dLe, r_dGt, r_dGe, r_nInt, r_nIntB, r_nAbs, r_nLenL, r_nLenT, r_nLenD, r_nMax2, r_nMin2, r_ixL, r_ixT, r_nListL, r_nListT, r_nTupL, r_nDict, r_tru1, r_tru2, r_tru3, r_tru4, r_tru5, r_pExt, r_pIns, r_eqII, r_eqBB, r_neII, r_isN1, r_isN2, r_isN3, r_isN4, r_isN5, r_isN6, r_isi, r_chain, r_ch1, r_ch2, r_rdDict, r_undictD, r_key, r_get2, r_or1, r_or2, r_dix, r_dnew, r_curD, r_ce, r_valOf, r_dput, r_put, r_dictAt, r_dicS, r_eLock, r_sLock, r_lok, r_iDk, r_iDi, r_mapR, r_gT, r_tupT, r_gsN, r_gsC, r_gsR, r_aug, r_aug1, r_addI, r_while, r_sPar, r_oN, r_oS, r_part, r_eSl, r_slTo, r_slFrom, atI, ixN, env0, e, badN]
/-! ### factors -/
def ePair (p : Nat × Nat) : D := .tuple [.int p.1, .int p.2]
theorem fac_inner {N : Int} {fs : List D} {d r0 : Nat} (hd : 2 ≤ d) (hd2 : d < 2 ^ 40) (hr : 1 ≤ r0) (hr2 : r0 < 2 ^ 39) : ∃ r' e : Nat, r0 = d ^ e * r' ∧ ¬ d ∣ r' ∧ 1 ≤ r' ∧
    whileL (tB' (eOp dEq (eOp dMod (eVar 2) (eVar 3)) (eC (.int 0)))) B_factors_1 fuel [.val (.int N), .own fs, .val (.int r0), .val (.int d), .val (.int 0)] = .ok .nx [.val (.int N), .own fs, .val (.int r'), .val (.int d), .val (.int e)] := by
  have dm : ∀ n : Int, modC n d = true := fun n => modC_of (by omega)
  have dv : ∀ n : Int, divC n d = true := fun n => divC_lt (a := 40) (by omega) (by omega) (by decide)
  have d0 : 0 < d := by omega
  obtain ⟨δ', e1, n, e, hn, q1, q2, rfl⟩ := whileL_inv (p := tB' (eOp dEq (eOp dMod (eVar 2) (eVar 3)) (eC (.int 0)))) (s := B_factors_1)
    (fun n δ => ∃ e : Nat, 1 ≤ n ∧ r0 = d ^ e * n ∧ δ = [.val (.int N), .own fs, .val (.int n), .val (.int d), .val (.int e)])
    (fun δ => ∃ n e : Nat, 1 ≤ n ∧ r0 = d ^ e * n ∧ ¬ d ∣ n ∧ δ = [.val (.int N), .own fs, .val (.int n), .val (.int d), .val (.int e)])
    (fun n δ ⟨e, hn, q, eδ⟩ => by
      subst eδ
      by_cases hz : d ∣ n
      · obtain ⟨m, rfl⟩ := hz
        have hm : ((d * m : Nat) : Int) % (d : Int) = 0 := by
          rw [Int.natCast_mul]; exact Int.mul_emod_right _ _
        have hq : ((d * m : Nat) : Int) / (d : Int) = (m : Int) := by
          rw [Int.natCast_mul]; exact Int.mul_ediv_cancel_left _ (by omega)
        have m1 : 1 ≤ m := Nat.pos_of_ne_zero fun z => by subst z; simp at hn
        have ml : m < d * m := by
          have := Nat.mul_le_mul_right m hd
          omega
        refine .inr ⟨_, m, ?_, .inl ?_, ml, e + 1, m1, by rw [q, Nat.pow_succ, Nat.mul_assoc], rfl⟩
        · generalize ((d * m : Nat) : Int) = z at hm hq
          simp -implicitDefEqProofs [r_bind, r_b1, r_b2, r_b3, r_ret, r_frz1, r_frz2, r_frz3, r_frz4, r_rd1, r_rd2, r_rs1, r_rs2, r_rs3, r_var, r_v1, r_v2, r_v3, r_v4, r_c, r_opnd, r_o1, r_o2, r_rdM, r_opt1, r_lift1, r_eOp, r_eUn, r_boolM, r_tB, r_optB, r_tru, r_and, r_or, r_not, r_bE, r_eAnd, r_eOr, r_eNot, r_eIf, r_condT, r_condF, r_aNil, r_aCons, r_rdsM, r_rdsN, r_rdsC, r_eB, r_nb1, r_nb2, r_vN, r_vC, r_tup, r_lst, r_fits, r_fits0, r_fits1, r_fits2, r_fits3, r_fits4, r_callN, r_callD, r_callM, r_call1, r_argB, r_argB1, r_argB2, r_argV, r_argN, r_back0, r_back0x, r_back1, r_back1x, r_setC, r_set1, r_set2, r_seq, r_s1, r_s2, r_s3, r_s4, r_s5, r_sNil, r_sRet, r_sRetN, r_sExpr, r_sIf, r_sBrk, r_sCont, r_asg, r_asgV, r_a1, r_a2, r_a3, r_a4, r_sFrz, r_fz1, r_fz2, r_fz3, r_raise, r_curL, r_cs1, r_cs2, r_st1, r_storeR, r_stoR, r_stoS, r_mut, r_mutR, r_mutL, r_mutS, r_pApp, r_sFor, r_forN, r_loop, r_forC, r_forR, r_l1, r_l2, r_l3, r_l4, r_l5, r_iRg, r_rg, r_iRg2, r_rg2, r_iSq, r_sq1, r_sq2, r_gN, r_fn, r_f1, r_f2, r_f3, r_f4, r_fin1, r_fin2, r_fin3, r_fin4, r_fb1, r_fb2, r_fin5, r_fin6, r_fin7, r_fc1, r_dAdd, r_dAddL, r_dSub, r_dMul, r_dMod, r_dDiv, r_dPow, r_dNeg, r_dLt, r_dLe, r_dGt, r_dGe, r_nInt, r_nIntB, r_nAbs, r_nLenL, r_nLenT, r_nLenD, r_nMax2, r_nMin2, r_ixL, r_ixT, r_nListL, r_nListT, r_nTupL, r_nDict, r_tru1, r_tru2, r_tru3, r_tru4, r_tru5, r_pExt, r_pIns, r_eqII, r_eqBB, r_neII, r_isN1, r_isN2, r_isN3, r_isN4, r_isN5, r_isN6, r_isi, r_chain, r_ch1, r_ch2, r_rdDict, r_undictD, r_key, r_get2, r_or1, r_or2, r_dix, r_dnew, r_curD, r_ce, r_valOf, r_dput, r_put, r_dictAt, r_dicS, r_eLock, r_sLock, r_lok, r_iDk, r_iDi, r_mapR, r_gT, r_tupT, r_gsN, r_gsC, r_gsR, r_aug, r_aug1, r_addI, r_while, r_sPar, r_oN, r_oS, r_part, r_eSl, r_slTo, r_slFrom, atI, ixN, env0, d0, hm]
        · generalize ((d * m : Nat) : Int) = z at hm hq
          simp -implicitDefEqProofs [B_factors_1, r_bind, r_b1, r_b2, r_b3, r_ret, r_frz1, r_frz2, r_frz3, r_frz4, r_rd1, r_rd2, r_rs1, r_rs2, r_rs3, r_var, r_v1, r_v2, r_v3, r_v4, r_c, r_opnd, r_o1, r_o2, r_rdM, r_opt1, r_lift1, r_eOp, r_eUn, r_boolM, r_tB, r_optB, r_tru, r_and, r_or, r_not, r_bE, r_eAnd, r_eOr, r_eNot, r_eIf, r_condT, r_condF, r_aNil, r_aCons, r_rdsM, r_rdsN, r_rdsC, r_eB, r_nb1, r_nb2, r_vN, r_vC, r_tup, r_lst, r_fits, r_fits0, r_fits1, r_fits2, r_fits3, r_fits4, r_callN, r_callD, r_callM, r_call1, r_argB, r_argB1, r_argB2, r_argV, r_argN, r_back0, r_back0x, r_back1, r_back1x, r_setC, r_set1, r_set2, r_seq, r_s1, r_s2, r_s3, r_s4, r_s5, r_sNil, r_sRet, r_sRetN, r_sExpr, r_sIf, r_sBrk, r_sCont, r_asg, r_asgV, r_a1, r_a2, r_a3, r_a4, r_sFrz, r_fz1, r_fz2, r_fz3, r_raise, r_curL, r_cs1, r_cs2, r_st1, r_storeR, r_stoR, r_stoS, r_mut, r_mutR, r_mutL, r_mutS, r_pApp, r_sFor, r_forN, r_loop, r_forC, r_forR, r_l1, r_l2, r_l3, r_l4, r_l5, r_iRg, r_rg, r_iRg2, r_rg2, r_iSq, r_sq1, r_sq2, r_gN, r_fn, r_f1, r_f2, r_f3, r_f4, r_fin1, r_fin2, r_fin3, r_fin4, r_fb1, r_fb2, r_fin5, r_fin6, r_fin7, r_fc1, r_dAdd, r_dAddL, r_dSub, r_dMul, r_dMod, r_dDiv, r_dPow, r_dNeg, r_dLt, r_dLe, r_dGt, r_dGe, r_nInt, r_nIntB, r_nAbs, r_nLenL, r_nLenT, r_nLenD, r_nMax2, r_nMin2, r_ixL, r_ixT, r_nListL, r_nListT, r_nTupL, r_nDict, r_tru1, r_tru2, r_tru3, r_tru4, r_tru5, r_pExt, r_pIns, r_eqII, r_eqBB, r_neII, r_isN1, r_isN2, r_isN3, r_isN4, r_isN5, r_isN6, r_isi, r_chain, r_ch1, r_ch2, r_rdDict, r_undictD, r_key, r_get2, r_or1, r_or2, r_dix, r_dnew, r_curD, r_ce, r_valOf, r_dput, r_put, r_dictAt, r_dicS, r_eLock, r_sLock, r_lok, r_iDk, r_iDi, r_mapR, r_gT, r_tupT, r_gsN, r_gsC, r_gsR, r_aug, r_aug1, r_addI, r_while, r_sPar, r_oN, r_oS, r_part, r_eSl, r_slTo, r_slFrom, atI, ixN, env0, dv, hq]
      · have hm : ¬ (n : Int) % (d : Int) = 0 := fun z => hz (by
          have := Int.dvd_of_emod_eq_zero z
          exact Int.natCast_dvd_natCast.mp this)
        refine .inl ⟨?_, n, e, hn, q, hz, rfl⟩
        simp -implicitDefEqProofs [r_bind, r_b1, r_b2, r_b3, r_ret, r_frz1, r_frz2, r_frz3, r_frz4, r_rd1, r_rd2, r_rs1, r_rs2, r_rs3, r_var, r_v1, r_v2, r_v3, r_v4, r_c, r_opnd, r_o1, r_o2, r_rdM, r_opt1, r_lift1, r_eOp, r_eUn, r_boolM, r_tB, r_optB, r_tru, r_and, r_or, r_not, r_bE, r_eAnd, r_eOr, r_eNot, r_eIf, r_condT, r_condF, r_aNil, r_aCons, r_rdsM, r_rdsN, r_rdsC, r_eB, r_nb1, r_nb2, r_vN, r_vC, r_tup, r_lst, r_fits, r_fits0, r_fits1, r_fits2, r_fits3, r_fits4, r_callN, r_callD, r_callM, r_call1, r_argB, r_argB1, r_argB2, r_argV, r_argN, r_back0, r_back0x, r_back1, r_back1x, r_setC, r_set1, r_set2, r_seq, r_s1, r_s2, r_s3, r_s4, r_s5, r_sNil, r_sRet, r_sRetN, r_sExpr, r_sIf, r_sBrk, r_sCont, r_asg, r_asgV, r_a1, r_a2, r_a3, r_a4, r_sFrz, r_fz1, r_fz2, r_fz3, r_raise, r_curL, r_cs1, r_cs2, r_st1, r_storeR, r_stoR, r_stoS, r_mut, r_mutR, r_mutL, r_mutS, r_pApp, r_sFor, r_forN, r_loop, r_forC, r_forR, r_l1, r_l2, r_l3, r_l4, r_l5, r_iRg, r_rg, r_iRg2, r_rg2, r_iSq, r_sq1, r_sq2, r_gN, r_fn, r_f1, r_f2, r_f3, r_f4, r_fin1, r_fin2, r_fin3, r_fin4, r_fb1, r_fb2, r_fin5, r_fin6, r_fin7, r_fc1, r_dAdd, r_dAddL, r_dSub, r_dMul, r_dMod, r_dDiv, r_dPow, r_dNeg, r_dLt, r_dLe, r_dGt, r_dGe, r_nInt, r_nIntB, r_nAbs, r_nLenL, r_nLenT, r_nLenD, r_nMax2, r_nMin2, r_ixL, r_ixT, r_nListL, r_nListT, r_nTupL, r_nDict, r_tru1, r_tru2, r_tru3, r_tru4, r_tru5, r_pExt, r_pIns, r_eqII, r_eqBB, r_neII, r_isN1, r_isN2, r_isN3, r_isN4, r_isN5, r_isN6, r_isi, r_chain, r_ch1, r_ch2, r_rdDict, r_undictD, r_key, r_get2, r_or1, r_or2, r_dix, r_dnew, r_curD, r_ce, r_valOf, r_dput, r_put, r_dictAt, r_dicS, r_eLock, r_sLock, r_lok, r_iDk, r_iDi, r_mapR, r_gT, r_tupT, r_gsN, r_gsC, r_gsR, r_aug, r_aug1, r_addI, r_while, r_sPar, r_oN, r_oS, r_part, r_eSl, r_slTo, r_slFrom, atI, ixN, env0, d0, hm])
    fuel r0 [.val (.int N), .own fs, .val (.int r0), .val (.int d), .val (.int 0)] (by unfold fuel; omega) ⟨0, hr, by rw [Nat.pow_zero, Nat.one_mul], rfl⟩
  exact ⟨n, e, q1, q2, hn, e1⟩
end K61

set_option Elab.async false
set_option linter.all false
set_option maxRecDepth 100000
set_option maxHeartbeats 4000000
namespace K61
open PySem PySem.Spec PyProof.Rows L2 DW
theorem asc_app {fs : List Nat} {d : Nat} (h : fs.Pairwise (· < ·)) (k : ∀ q ∈ fs, q < d) : (fs ++ [d]).Pairwise (· < ·) := by
  rw [List.pairwise_append]
  exact ⟨h, List.pairwise_singleton _ _, fun a ha b hb => by rw [List.mem_singleton.mp hb]; exact k a ha⟩
structure FJ (N : Nat) (fs : List (Nat × Nat)) (r d : Nat) : Prop where
  fi : FI N (fs.map (·.1)) r d
  asc : (fs.map (·.1)).Pairwise (· < ·)
  odd : d = 2 ∨ (3 ≤ d ∧ d % 2 = 1)
  len : fs.length ≤ d
  rN : r ≤ N
def nextD (d : Nat) : Nat := if d = 2 then 3 else d + 2
theorem FJ.step {N : Nat} {fs : List (Nat × Nat)} {r r' d e : Nat} (h : FJ N fs r d) (er : r = d ^ e * r') (nd : ¬ d ∣ r') (h1 : 1 ≤ r') : FJ N (if 0 < e then fs ++ [(d, e)] else fs) r' (nextD d) := by
  have hle : r' ≤ r := Nat.le_of_dvd h.fi.r1 ⟨d ^ e, by rw [er, Nat.mul_comm]⟩
  have fi1 : FI N ((if 0 < e then fs ++ [(d, e)] else fs).map (·.1)) r' (d + 1) := h.fi.step er nd fun q => by
    by_cases he : 0 < e
    · rw [if_pos he, List.map_append, List.mem_append]
      simp [he]
    · rw [if_neg he]
      simp [he]
  have fi2 : FI N ((if 0 < e then fs ++ [(d, e)] else fs).map (·.1)) r' (nextD d) := by
    unfold nextD
    rcases h.odd with z | ⟨z1, z2⟩
    · rw [if_pos z]; rw [z] at fi1; rw [z]; exact fi1
    · have q : ¬ d = 2 := by omega
      rw [if_neg q]; exact fi1.skip z1 z2
  refine ⟨fi2, ?_, ?_, ?_, Nat.le_trans hle h.rN⟩
  · by_cases he : 0 < e
    · rw [if_pos he, List.map_append]
      exact asc_app h.asc fun q hq => (h.fi.mem q hq).2.2
    · rw [if_neg he]; exact h.asc
  · unfold nextD
    rcases h.odd with z | ⟨z1, z2⟩
    · rw [if_pos z]; right; decide
    · rw [if_neg (by omega)]; right; omega
  · have := h.len
    have hn : d + 1 ≤ nextD d := by unfold nextD; split <;> omega
    split
    · rw [List.length_append, List.length_singleton]; omega
    · omega
theorem fac_step {N : Nat} (hN : N ≤ 100000000) {fs : List (Nat × Nat)} {r d : Nat} {sl : Sl} (h : FJ N fs r d) (hd : d * d ≤ r) : ∃ fs' r' sl', FJ N fs' r' (nextD d) ∧
    B_factors_2 [.val (.int N), .own (fs.map ePair), .val (.int r), .val (.int d), sl] = .ok .nx [.val (.int N), .own (fs'.map ePair), .val (.int r'), .val (.int (nextD d : Nat)), sl'] := by
  have hr := h.rN
  have hd2 := h.fi.d2
  have hdd : d ≤ 10000 := Nat.le_of_not_lt fun z => by
    have := Nat.mul_le_mul (show 10001 ≤ d by omega) (show 10001 ≤ d by omega)
    omega
  obtain ⟨r', e, er, nd, h1, w⟩ := fac_inner (N := N) (fs := fs.map ePair) (d := d) (r0 := r) hd2 (by omega) h.fi.r1 (by omega)
  refine ⟨_, r', .val (.int e), h.step er nd h1, ?_⟩
  have hl : fs.length < 16777216 := by have := h.len; omega
  by_cases he : 0 < e
  · rw [if_pos he]
    by_cases h2 : d = 2
    · subst h2
      have w : whileL (tB' (eOp dEq (eOp dMod (eVar 2) (eVar 3)) (eC (.int 0)))) B_factors_1 fuel [.val (.int N), .own (fs.map ePair), .val (.int r), .val (.int 2), .val (.int 0)] = .ok .nx [.val (.int N), .own (fs.map ePair), .val (.int r'), .val (.int 2), .val (.int e)] := w
      simp -implicitDefEqProofs [B_factors_2, r_bind, r_b1, r_b2, r_b3, r_ret, r_frz1, r_frz2, r_frz3, r_frz4, r_rd1, r_rd2, r_rs1, r_rs2, r_rs3, r_var, r_v1, r_v2, r_v3, r_v4, r_c, r_opnd, r_o1, r_o2, r_rdM, r_opt1, r_lift1, r_eOp, r_eUn, r_boolM, r_tB, r_optB, r_tru, r_and, r_or, r_not, r_bE, r_eAnd, r_eOr, r_eNot, r_eIf, r_condT, r_condF, r_aNil, r_aCons, r_rdsM, r_rdsN, r_rdsC, r_eB, r_nb1, r_nb2, r_vN, r_vC, r_tup, r_lst, r_fits, r_fits0, r_fits1, r_fits2, r_fits3, r_fits4, r_callN, r_callD, r_callM, r_call1, r_argB, r_argB1, r_argB2, r_argV, r_argN, r_back0, r_back0x, r_back1, r_back1x, r_setC, r_set1, r_set2, r_seq, r_s1, r_s2, r_s3, r_s4, r_s5, r_sNil, r_sRet, r_sRetN, r_sExpr, r_sIf, r_sBrk, r_sCont, r_asg, r_asgV, r_a1, r_a2, r_a3, r_a4, r_sFrz, r_fz1, r_fz2, r_fz3, r_raise, r_curL, r_cs1, r_cs2, r_st1, r_storeR, r_stoR, r_stoS, r_mut, r_mutR, r_mutL, r_mutS, r_pApp, r_sFor, r_forN, r_loop, r_forC, r_forR, r_l1, r_l2, r_l3, r_l4, r_l5, r_iRg, r_rg, r_iRg2, r_rg2, r_iSq, r_sq1, r_sq2, r_gN, r_fn, r_f1, r_f2, r_f3, r_f4, r_fin1, r_fin2, r_fin3, r_fin4, r_fb1, r_fb2, r_fin5, r_fin6, r_fin7, r_fc1, r_dAdd, r_dAddL, r_dSub, r_dMul, r_dMod, r_dDiv, r_dPow, r_dNeg, r_dLt, r_dLe, r_dGt, r_dGe, r_nInt, r_nIntB, r_nAbs, r_nLenL, r_nLenT, r_nLenD, r_nMax2, r_nMin2, r_ixL, r_ixT, r_nListL, r_nListT, r_nTupL, r_nDict, r_tru1, r_tru2, r_tru3, r_tru4, r_tru5, r_pExt, r_pIns, r_eqII, r_eqBB, r_neII, r_isN1, r_isN2, r_isN3, r_isN4, r_isN5, r_isN6, r_isi, r_chain, r_ch1, r_ch2, r_rdDict, r_undictD, r_key, r_get2, r_or1, r_or2, r_dix, r_dnew, r_curD, r_ce, r_valOf, r_dput, r_put, r_dictAt, r_dicS, r_eLock, r_sLock, r_lok, r_iDk, r_iDi, r_mapR, r_gT, r_tupT, r_gsN, r_gsC, r_gsR, r_aug, r_aug1, r_addI, r_while, r_sPar, r_oN, r_oS, r_part, r_eSl, r_slTo, r_slFrom, atI, ixN, env0, w, he, hl, nextD, ePair]
    · have h3 : ¬ (d : Int) = 2 := by omega
      simp -implicitDefEqProofs [B_factors_2, r_bind, r_b1, r_b2, r_b3, r_ret, r_frz1, r_frz2, r_frz3, r_frz4, r_rd1, r_rd2, r_rs1, r_rs2, r_rs3, r_var, r_v1, r_v2, r_v3, r_v4, r_c, r_opnd, r_o1, r_o2, r_rdM, r_opt1, r_lift1, r_eOp, r_eUn, r_boolM, r_tB, r_optB, r_tru, r_and, r_or, r_not, r_bE, r_eAnd, r_eOr, r_eNot, r_eIf, r_condT, r_condF, r_aNil, r_aCons, r_rdsM, r_rdsN, r_rdsC, r_eB, r_nb1, r_nb2, r_vN, r_vC, r_tup, r_lst, r_fits, r_fits0, r_fits1, r_fits2, r_fits3, r_fits4, r_callN, r_callD, r_callM, r_call1, r_argB, r_argB1, r_argB2, r_argV, r_argN, r_back0, r_back0x, r_back1, r_back1x, r_setC, r_set1, r_set2, r_seq, r_s1, r_s2, r_s3, r_s4, r_s5, r_sNil, r_sRet, r_sRetN, r_sExpr, r_sIf, r_sBrk, r_sCont, r_asg, r_asgV, r_a1, r_a2, r_a3, r_a4, r_sFrz, r_fz1, r_fz2, r_fz3, r_raise, r_curL, r_cs1, r_cs2, r_st1, r_storeR, r_stoR, r_stoS, r_mut, r_mutR, r_mutL, r_mutS, r_pApp, r_sFor, r_forN, r_loop, r_forC, r_forR, r_l1, r_l2, r_l3, r_l4, r_l5, r_iRg, r_rg, r_iRg2, r_rg2, r_iSq, r_sq1, r_sq2, r_gN, r_fn, r_f1, r_f2, r_f3, r_f4, r_fin1, r_fin2, r_fin3, r_fin4, r_fb1, r_fb2, r_fin5, r_fin6, r_fin7, r_fc1, r_dAdd, r_dAddL, r_dSub, r_dMul, r_dMod, r_dDiv, r_dPow, r_dNeg, r_dLt, r_dLe, r_dGt, r_dGe, r_nInt, r_nIntB, r_nAbs, r_nLenL, r_nLenT, r_nLenD, r_nMax2, r_nMin2, r_ixL, r_ixT, r_nListL, r_nListT, r_nTupL, r_nDict, r_tru1, r_tru2, r_tru3, r_tru4, r_tru5, r_pExt, r_pIns, r_eqII, r_eqBB, r_neII, r_isN1, r_isN2, r_isN3, r_isN4, r_isN5, r_isN6, r_isi, r_chain, r_ch1, r_ch2, r_rdDict, r_undictD, r_key, r_get2, r_or1, r_or2, r_dix, r_dnew, r_curD, r_ce, r_valOf, r_dput, r_put, r_dictAt, r_dicS, r_eLock, r_sLock, r_lok, r_iDk, r_iDi, r_mapR, r_gT, r_tupT, r_gsN, r_gsC, r_gsR, r_aug, r_aug1, r_addI, r_while, r_sPar, r_oN, r_oS, r_part, r_eSl, r_slTo, r_slFrom, atI, ixN, env0, w, he, hl, nextD, ePair, h2, h3]
  · rw [if_neg he]
    by_cases h2 : d = 2
    · subst h2
      have w : whileL (tB' (eOp dEq (eOp dMod (eVar 2) (eVar 3)) (eC (.int 0)))) B_factors_1 fuel [.val (.int N), .own (fs.map ePair), .val (.int r), .val (.int 2), .val (.int 0)] = .ok .nx [.val (.int N), .own (fs.map ePair), .val (.int r'), .val (.int 2), .val (.int e)] := w
      simp -implicitDefEqProofs [B_factors_2, r_bind, r_b1, r_b2, r_b3, r_ret, r_frz1, r_frz2, r_frz3, r_frz4, r_rd1, r_rd2, r_rs1, r_rs2, r_rs3, r_var, r_v1, r_v2, r_v3, r_v4, r_c, r_opnd, r_o1, r_o2, r_rdM, r_opt1, r_lift1, r_eOp, r_eUn, r_boolM, r_tB, r_optB, r_tru, r_and, r_or, r_not, r_bE, r_eAnd, r_eOr, r_eNot, r_eIf, r_condT, r_condF, r_aNil, r_aCons, r_rdsM, r_rdsN, r_rdsC, r_eB, r_nb1, r_nb2, r_vN, r_vC, r_tup, r_lst, r_fits, r_fits0, r_fits1, r_fits2, r_fits3, r_fits4, r_callN, r_callD, r_callM, r_call1, r_argB, r_argB1, r_argB2, r_argV, r_argN, r_back0, r_back0x, r_back1, r_back1x, r_setC, r_set1, r_set2, r_seq, r_s1, r_s2, r_s3, r_s4, r_s5, r_sNil, r_sRet, r_sRetN, r_sExpr, r_sIf, r_sBrk, r_sCont, r_asg, r_asgV, r_a1, r_a2, r_a3, r_a4, r_sFrz, r_fz1, r_fz2, r_fz3, r_raise, r_curL, r_cs1, r_cs2, r_st1, r_storeR, r_stoR, r_stoS, r_mut, r_mutR, r_mutL, r_mutS, r_pApp, r_sFor, r_forN, r_loop, r_forC, r_forR, r_l1, r_l2, r_l3, r_l4, r_l5, r_iRg, r_rg, r_iRg2, r_rg2, r_iSq, r_sq1, r_sq2, r_gN, r_fn, r_f1, r_f2, r_f3, r_f4, r_fin1, r_fin2, r_fin3, r_fin4, r_fb1, r_fb2, r_fin5, r_fin6, r_fin7, r_fc1, r_dAdd, r_dAddL, r_dSub, r_dMul, r_dMod, r_dDiv, r_dPow, r_dNeg, r_dLt, r_dLe, r_dGt, r_dGe, r_nInt, r_nIntB, r_nAbs, r_nLenL, r_nLenT, r_nLenD, r_nMax2, r_nMin2, r_ixL, r_ixT, r_nListL, r_nListT, r_nTupL, r_nDict, r_tru1, r_tru2, r_tru3, r_tru4, r_tru5, r_pExt, r_pIns, r_eqII, r_eqBB, r_neII, r_isN1, r_isN2, r_isN3, r_isN4, r_isN5, r_isN6, r_isi, r_chain, r_ch1, r_ch2, r_rdDict, r_undictD, r_key, r_get2, r_or1, r_or2, r_dix, r_dnew, r_curD, r_ce, r_valOf, r_dput, r_put, r_dictAt, r_dicS, r_eLock, r_sLock, r_lok, r_iDk, r_iDi, r_mapR, r_gT, r_tupT, r_gsN, r_gsC, r_gsR, r_aug, r_aug1, r_addI, r_while, r_sPar, r_oN, r_oS, r_part, r_eSl, r_slTo, r_slFrom, atI, ixN, env0, w, he, nextD]
    · have h3 : ¬ (d : Int) = 2 := by omega
      simp -implicitDefEqProofs [B_factors_2, r_bind, r_b1, r_b2, r_b3, r_ret, r_frz1, r_frz2, r_frz3, r_frz4, r_rd1, r_rd2, r_rs1, r_rs2, r_rs3, r_var, r_v1, r_v2, r_v3, r_v4, r_c, r_opnd, r_o1, r_o2, r_rdM, r_opt1, r_lift1, r_eOp, r_eUn, r_boolM, r_tB, r_optB, r_tru, r_and, r_or, r_not, r_bE, r_eAnd, r_eOr, r_eNot, r_eIf, r_condT, r_condF, r_aNil, r_aCons, r_rdsM, r_rdsN, r_rdsC, r_eB, r_nb1, r_nb2, r_vN, r_vC, r_tup, r_lst, r_fits, r_fits0, r_fits1, r_fits2, r_fits3, r_fits4, r_callN, r_callD, r_callM, r_call1, r_argB, r_argB1, r_argB2, r_argV, r_argN, r_back0, r_back0x, r_back1, r_back1x, r_setC, r_set1, r_set2, r_seq, r_s1, r_s2, r_s3, r_s4, r_s5, r_sNil, r_sRet, r_sRetN, r_sExpr, r_sIf, r_sBrk, r_sCont, r_asg, r_asgV, r_a1, r_a2, r_a3, r_a4, r_sFrz, r_fz1, r_fz2, r_fz3, r_raise, r_curL, r_cs1, r_cs2, r_st1, r_storeR, r_stoR, r_stoS, r_mut, r_mutR, r_mutL, r_mutS, r_pApp, r_sFor, r_forN, r_loop, r_forC, r_forR, r_l1, r_l2, r_l3, r_l4, r_l5, r_iRg, r_rg, r_iRg2, r_rg2, r_iSq, r_sq1, r_sq2, r_gN, r_fn, r_f1, r_f2, r_f3, r_f4, r_fin1, r_fin2, r_fin3, r_fin4, r_fb1, r_fb2, r_fin5, r_fin6, r_fin7, r_fc1, r_dAdd, r_dAddL, r_dSub, r_dMul, r_dMod, r_dDiv, r_dPow, r_dNeg, r_dLt, r_dLe, r_dGt, r_dGe, r_nInt, r_nIntB, r_nAbs, r_nLenL, r_nLenT, r_nLenD, r_nMax2, r_nMin2, r_ixL, r_ixT, r_nListL, r_nListT, r_nTupL, r_nDict, r_tru1, r_tru2, r_tru3, r_tru4, r_tru5, r_pExt, r_pIns, r_eqII, r_eqBB, r_neII, r_isN1, r_isN2, r_isN3, r_isN4, r_isN5, r_isN6, r_isi, r_chain, r_ch1, r_ch2, r_rdDict, r_undictD, r_key, r_get2, r_or1, r_or2, r_dix, r_dnew, r_curD, r_ce, r_valOf, r_dput, r_put, r_dictAt, r_dicS, r_eLock, r_sLock, r_lok, r_iDk, r_iDi, r_mapR, r_gT, r_tupT, r_gsN, r_gsC, r_gsR, r_aug, r_aug1, r_addI, r_while, r_sPar, r_oN, r_oS, r_part, r_eSl, r_slTo, r_slFrom, atI, ixN, env0, w, he, nextD, h2, h3]
theorem fac_loop {N : Nat} (hN0 : 1 ≤ N) (hN : N ≤ 100000000) : ∃ fs r d sl', FJ N fs r d ∧ r < d * d ∧ d ≤ 10002 ∧
    whileL (tB' (eOp dLe (eOp dMul (eVar 3) (eVar 3)) (eVar 2))) B_factors_2 fuel [.val (.int N), .own [], .val (.int N), .val (.int 2), .un] = .ok .nx [.val (.int N), .own (fs.map ePair), .val (.int r), .val (.int (d : Nat)), sl'] := by
  obtain ⟨δ', e1, fs, r, d, sl, hj, hlt, hd2, rfl⟩ := whileL_inv (p := tB' (eOp dLe (eOp dMul (eVar 3) (eVar 3)) (eVar 2))) (s := B_factors_2)
    (fun n δ => ∃ fs r d sl, FJ N fs r d ∧ (n + d = 1000000 ∧ d ≤ 10002) ∧ δ = [.val (.int N), .own (fs.map ePair), .val (.int r), .val (.int (d : Nat)), sl])
    (fun δ => ∃ fs r d sl, FJ N fs r d ∧ r < d * d ∧ d ≤ 10002 ∧ δ = [.val (.int N), .own (fs.map ePair), .val (.int r), .val (.int (d : Nat)), sl])
    (fun n δ ⟨fs, r, d, sl, hj, hn, eδ⟩ => by
      subst eδ
      have m1 : mulC (d : Int) d = true := mulC_lt (a := 40) (b := 40) (by omega) (by omega) (by decide)
      have d2 := hj.fi.d2
      by_cases hd : d * d ≤ r
      · obtain ⟨fs', r', sl', hj', e2⟩ := fac_step hN hj hd
        have hr := hj.rN
        have d3 : d ≤ 10000 := Nat.le_of_not_lt fun z => by
          have := Nat.mul_le_mul (show 10001 ≤ d by omega) (show 10001 ≤ d by omega)
          omega
        have n1 : d + 1 ≤ nextD d := by unfold nextD; split <;> omega
        have n2 : nextD d ≤ d + 2 := by unfold nextD; split <;> omega
        have hz : ((d : Int) * d ≤ r) := by exact_mod_cast hd
        exact .inr ⟨_, 1000000 - nextD d, by simp -implicitDefEqProofs [r_bind, r_b1, r_b2, r_b3, r_ret, r_frz1, r_frz2, r_frz3, r_frz4, r_rd1, r_rd2, r_rs1, r_rs2, r_rs3, r_var, r_v1, r_v2, r_v3, r_v4, r_c, r_opnd, r_o1, r_o2, r_rdM, r_opt1, r_lift1, r_eOp, r_eUn, r_boolM, r_tB, r_optB, r_tru, r_and, r_or, r_not, r_bE, r_eAnd, r_eOr, r_eNot, r_eIf, r_condT, r_condF, r_aNil, r_aCons, r_rdsM, r_rdsN, r_rdsC, r_eB, r_nb1, r_nb2, r_vN, r_vC, r_tup, r_lst, r_fits, r_fits0, r_fits1, r_fits2, r_fits3, r_fits4, r_callN, r_callD, r_callM, r_call1, r_argB, r_argB1, r_argB2, r_argV, r_argN, r_back0, r_back0x, r_back1, r_back1x, r_setC, r_set1, r_set2, r_seq, r_s1, r_s2, r_s3, r_s4, r_s5, r_sNil, r_sRet, r_sRetN, r_sExpr, r_sIf, r_sBrk, r_sCont, r_asg, r_asgV, r_a1, r_a2, r_a3, r_a4, r_sFrz, r_fz1, r_fz2, r_fz3, r_raise, r_curL, r_cs1, r_cs2, r_st1, r_storeR, r_stoR, r_stoS, r_mut, r_mutR, r_mutL, r_mutS, r_pApp, r_sFor, r_forN, r_loop, r_forC, r_forR, r_l1, r_l2, r_l3, r_l4, r_l5, r_iRg, r_rg, r_iRg2, r_rg2, r_iSq, r_sq1, r_sq2, r_gN, r_fn, r_f1, r_f2, r_f3, r_f4, r_fin1, r_fin2, r_fin3, r_fin4, r_fb1, r_fb2, r_fin5, r_fin6, r_fin7, r_fc1, r_dAdd, r_dAddL, r_dSub, r_dMul, r_dMod, r_dDiv, r_dPow, r_dNeg, r_dLt, r_dLe, r_dGt, r_dGe, r_nInt, r_nIntB, r_nAbs, r_nLenL, r_nLenT, r_nLenD, r_nMax2, r_nMin2, r_ixL, r_ixT, r_nListL, r_nListT, r_nTupL, r_nDict, r_tru1, r_tru2, r_tru3, r_tru4, r_tru5, r_pExt, r_pIns, r_eqII, r_eqBB, r_neII, r_isN1, r_isN2, r_isN3, r_isN4, r_isN5, r_isN6, r_isi, r_chain, r_ch1, r_ch2, r_rdDict, r_undictD, r_key, r_get2, r_or1, r_or2, r_dix, r_dnew, r_curD, r_ce, r_valOf, r_dput, r_put, r_dictAt, r_dicS, r_eLock, r_sLock, r_lok, r_iDk, r_iDi, r_mapR, r_gT, r_tupT, r_gsN, r_gsC, r_gsR, r_aug, r_aug1, r_addI, r_while, r_sPar, r_oN, r_oS, r_part, r_eSl, r_slTo, r_slFrom, atI, ixN, env0, m1, hz], .inl e2, by omega, fs', r', nextD d, sl', hj', ⟨by omega, by omega⟩, rfl⟩
      · have hz : ¬ ((d : Int) * d ≤ r) := by exact_mod_cast hd
        exact .inl ⟨by simp -implicitDefEqProofs [r_bind, r_b1, r_b2, r_b3, r_ret, r_frz1, r_frz2, r_frz3, r_frz4, r_rd1, r_rd2, r_rs1, r_rs2, r_rs3, r_var, r_v1, r_v2, r_v3, r_v4, r_c, r_opnd, r_o1, r_o2, r_rdM, r_opt1, r_lift1, r_eOp, r_eUn, r_boolM, r_tB, r_optB, r_tru, r_and, r_or, r_not, r_bE, r_eAnd, r_eOr, r_eNot, r_eIf, r_condT, r_condF, r_aNil, r_aCons, r_rdsM, r_rdsN, r_rdsC, r_eB, r_nb1, r_nb2, r_vN, r_vC, r_tup, r_lst, r_fits, r_fits0, r_fits1, r_fits2, r_fits3, r_fits4, r_callN, r_callD, r_callM, r_call1, r_argB, r_argB1, r_argB2, r_argV, r_argN, r_back0, r_back0x, r_back1, r_back1x, r_setC, r_set1, r_set2, r_seq, r_s1, r_s2, r_s3, r_s4, r_s5, r_sNil, r_sRet, r_sRetN, r_sExpr, r_sIf, r_sBrk, r_sCont, r_asg, r_asgV, r_a1, r_a2, r_a3, r_a4, r_sFrz, r_fz1, r_fz2, r_fz3, r_raise, r_curL, r_cs1, r_cs2, r_st1, r_storeR, r_stoR, r_stoS, r_mut, r_mutR, r_mutL, r_mutS, r_pApp, r_sFor, r_forN, r_loop, r_forC, r_forR, r_l1, r_l2, r_l3, r_l4, r_l5, r_iRg, r_rg, r_iRg2, r_rg2, r_iSq, r_sq1, r_sq2, r_gN, r_fn, r_f1, r_f2, r_f3, r_f4, r_fin1, r_fin2, r_fin3, r_fin4, r_fb1, r_fb2, r_fin5, r_fin6, r_fin7, r_fc1, r_dAdd, r_dAddL, r_dSub, r_dMul, r_dMod, r_dDiv, r_dPow, r_dNeg, r_dLt, r_dLe, r_dGt, r_dGe, r_nInt, r_nIntB, r_nAbs, r_nLenL, r_nLenT, r_nLenD, r_nMax2, r_nMin2, r_ixL, r_ixT, r_nListL, r_nListT, r_nTupL, r_nDict, r_tru1, r_tru2, r_tru3, r_tru4, r_tru5, r_pExt, r_pIns, r_eqII, r_eqBB, r_neII, r_isN1, r_isN2, r_isN3, r_isN4, r_isN5, r_isN6, r_isi, r_chain, r_ch1, r_ch2, r_rdDict, r_undictD, r_key, r_get2, r_or1, r_or2, r_dix, r_dnew, r_curD, r_ce, r_valOf, r_dput, r_put, r_dictAt, r_dicS, r_eLock, r_sLock, r_lok, r_iDk, r_iDi, r_mapR, r_gT, r_tupT, r_gsN, r_gsC, r_gsR, r_aug, r_aug1, r_addI, r_while, r_sPar, r_oN, r_oS, r_part, r_eSl, r_slTo, r_slFrom, atI, ixN, env0, m1, hz], fs, r, d, sl, hj, by omega, hn.2, rfl⟩)
    fuel 999998 [.val (.int N), .own [], .val (.int N), .val (.int 2), .un] (by unfold fuel; omega) ⟨[], N, 2, .un, ⟨FI.start hN0, .nil, .inl rfl, Nat.zero_le _, Nat.le_refl _⟩, ⟨rfl, by decide⟩, rfl⟩
  exact ⟨fs, r, d, sl, hj, hlt, hd2, e1⟩
theorem factors_eq {N : Nat} (hN0 : 1 ≤ N) (hN : N ≤ 100000000) : ∃ fs : List (Nat × Nat), F_factors none [.int N] = .ok (.own (fs.map ePair)) none ∧ PR N (fs.map (·.1)) := by
  obtain ⟨fs, r, d, sl, hj, hlt, hd2, w⟩ := fac_loop hN0 hN
  have c := check_eq (.int N) (lo := 1) (hi := 100000000) (by decide) (by decide)
  rw [if_pos (by show (decide ((1 : Int) ≤ N) && decide ((N : Int) ≤ 100000000)) = true; rw [decide_eq_true (by omega), decide_eq_true (by omega)]; rfl)] at c
  have hr := hj.rN
  have hl : fs.length < 16777216 := by
    have b := hj.len
    omega
  by_cases h1 : 1 < r
  · obtain ⟨q1, q2⟩ := hj.fi.last (fs' := (fs ++ [(r, 1)]).map fun p : Nat × Nat => p.1) hlt fun q => by
      rw [List.map_append, List.mem_append]; simp [h1]
    refine ⟨fs ++ [(r, 1)], ?_, ⟨?_, q1⟩⟩
    · have h1' : (1 : Int) < (r : Int) := by omega
      simp -implicitDefEqProofs [F_factors, r_bind, r_b1, r_b2, r_b3, r_ret, r_frz1, r_frz2, r_frz3, r_frz4, r_rd1, r_rd2, r_rs1, r_rs2, r_rs3, r_var, r_v1, r_v2, r_v3, r_v4, r_c, r_opnd, r_o1, r_o2, r_rdM, r_opt1, r_lift1, r_eOp, r_eUn, r_boolM, r_tB, r_optB, r_tru, r_and, r_or, r_not, r_bE, r_eAnd, r_eOr, r_eNot, r_eIf, r_condT, r_condF, r_aNil, r_aCons, r_rdsM, r_rdsN, r_rdsC, r_eB, r_nb1, r_nb2, r_vN, r_vC, r_tup, r_lst, r_fits, r_fits0, r_fits1, r_fits2, r_fits3, r_fits4, r_callN, r_callD, r_callM, r_call1, r_argB, r_argB1, r_argB2, r_argV, r_argN, r_back0, r_back0x, r_back1, r_back1x, r_setC, r_set1, r_set2, r_seq, r_s1, r_s2, r_s3, r_s4, r_s5, r_sNil, r_sRet, r_sRetN, r_sExpr, r_sIf, r_sBrk, r_sCont, r_asg, r_asgV, r_a1, r_a2, r_a3, r_a4, r_sFrz, r_fz1, r_fz2, r_fz3, r_raise, r_curL, r_cs1, r_cs2, r_st1, r_storeR, r_stoR, r_stoS, r_mut, r_mutR, r_mutL, r_mutS, r_pApp, r_sFor, r_forN, r_loop, r_forC, r_forR, r_l1, r_l2, r_l3, r_l4, r_l5, r_iRg, r_rg, r_iRg2, r_rg2, r_iSq, r_sq1, r_sq2, r_gN, r_fn, r_f1, r_f2, r_f3, r_f4, r_fin1, r_fin2, r_fin3, r_fin4, r_fb1, r_fb2, r_fin5, r_fin6, r_fin7, r_fc1, r_dAdd, r_dAddL, r_dSub, r_dMul, r_dMod, r_dDiv, r_dPow, r_dNeg, r_dLt, r_dLe, r_dGt, r_dGe, r_nInt, r_nIntB, r_nAbs, r_nLenL, r_nLenT, r_nLenD, r_nMax2, r_nMin2, r_ixL, r_ixT, r_nListL, r_nListT, r_nTupL, r_nDict, r_tru1, r_tru2, r_tru3, r_tru4, r_tru5, r_pExt, r_pIns, r_eqII, r_eqBB, r_neII, r_isN1, r_isN2, r_isN3, r_isN4, r_isN5, r_isN6, r_isi, r_chain, r_ch1, r_ch2, r_rdDict, r_undictD, r_key, r_get2, r_or1, r_or2, r_dix, r_dnew, r_curD, r_ce, r_valOf, r_dput, r_put, r_dictAt, r_dicS, r_eLock, r_sLock, r_lok, r_iDk, r_iDi, r_mapR, r_gT, r_tupT, r_gsN, r_gsC, r_gsR, r_aug, r_aug1, r_addI, r_while, r_sPar, r_oN, r_oS, r_part, r_eSl, r_slTo, r_slFrom, atI, ixN, env0, c, w, h1', hl, ePair]
    · rw [List.map_append]; exact asc_app hj.asc (q2 h1)
  · obtain ⟨q1, q2⟩ := hj.fi.last (fs' := fs.map fun p : Nat × Nat => p.1) hlt fun q => by simp [h1]
    have h1' : ¬ (1 : Int) < (r : Int) := by omega
    exact ⟨fs, by simp -implicitDefEqProofs [F_factors, r_bind, r_b1, r_b2, r_b3, r_ret, r_frz1, r_frz2, r_frz3, r_frz4, r_rd1, r_rd2, r_rs1, r_rs2, r_rs3, r_var, r_v1, r_v2, r_v3, r_v4, r_c, r_opnd, r_o1, r_o2, r_rdM, r_opt1, r_lift1, r_eOp, r_eUn, r_boolM, r_tB, r_optB, r_tru, r_and, r_or, r_not, r_bE, r_eAnd, r_eOr, r_eNot, r_eIf, r_condT, r_condF, r_aNil, r_aCons, r_rdsM, r_rdsN, r_rdsC, r_eB, r_nb1, r_nb2, r_vN, r_vC, r_tup, r_lst, r_fits, r_fits0, r_fits1, r_fits2, r_fits3, r_fits4, r_callN, r_callD, r_callM, r_call1, r_argB, r_argB1, r_argB2, r_argV, r_argN, r_back0, r_back0x, r_back1, r_back1x, r_setC, r_set1, r_set2, r_seq, r_s1, r_s2, r_s3, r_s4, r_s5, r_sNil, r_sRet, r_sRetN, r_sExpr, r_sIf, r_sBrk, r_sCont, r_asg, r_asgV, r_a1, r_a2, r_a3, r_a4, r_sFrz, r_fz1, r_fz2, r_fz3, r_raise, r_curL, r_cs1, r_cs2, r_st1, r_storeR, r_stoR, r_stoS, r_mut, r_mutR, r_mutL, r_mutS, r_pApp, r_sFor, r_forN, r_loop, r_forC, r_forR, r_l1, r_l2, r_l3, r_l4, r_l5, r_iRg, r_rg, r_iRg2, r_rg2, r_iSq, r_sq1, r_sq2, r_gN, r_fn, r_f1, r_f2, r_f3, r_f4, r_fin1, r_fin2, r_fin3, r_fin4, r_fb1, r_fb2, r_fin5, r_fin6, r_fin7, r_fc1, r_dAdd, r_dAddL, r_dSub, r_dMul, r_dMod, r_dDiv, r_dPow, r_dNeg, r_dLt, r_dLe, r_dGt, r_dGe, r_nInt, r_nIntB, r_nAbs, r_nLenL, r_nLenT, r_nLenD, r_nMax2, r_nMin2, r_ixL, r_ixT, r_nListL, r_nListT, r_nTupL, r_nDict, r_tru1, r_tru2, r_tru3, r_tru4, r_tru5, r_pExt, r_pIns, r_eqII, r_eqBB, r_neII, r_isN1, r_isN2, r_isN3, r_isN4, r_isN5, r_isN6, r_isi, r_chain, r_ch1, r_ch2, r_rdDict, r_undictD, r_key, r_get2, r_or1, r_or2, r_dix, r_dnew, r_curD, r_ce, r_valOf, r_dput, r_put, r_dictAt, r_dicS, r_eLock, r_sLock, r_lok, r_iDk, r_iDi, r_mapR, r_gT, r_tupT, r_gsN, r_gsC, r_gsR, r_aug, r_aug1, r_addI, r_while, r_sPar, r_oN, r_oS, r_part, r_eSl, r_slTo, r_slFrom, atI, ixN, env0, c, w, h1'], ⟨hj.asc, q1⟩⟩
end K61

set_option Elab.async false
set_option linter.all false
set_option maxRecDepth 100000
set_option maxHeartbeats 4000000
namespace K61
open PySem PySem.Spec PyProof.Rows L2 DW
/-! ### the law's own primes -/
def nD (q : Nat) : D := .int q
theorem po_inner {d r0 : Nat} {fs : List Nat} {sl : Sl} (hd : 2 ≤ d) (hd2 : d ≤ 10002) (hr : 1 ≤ r0) (hr2 : r0 < 2 ^ 28) (hl : fs.length ≤ 1000000) : ∃ (r' e : Nat) (sl' : Sl), r0 = d ^ e * r' ∧ ¬ d ∣ r' ∧ 1 ≤ r' ∧ e ≤ 28 ∧
    forL (gN 3) B_l_primes_of_1 (rangeD 0 28) [.val (.int r0), .own (fs.map nD), .val (.int d), sl] = .ok .nx [.val (.int r'), .own ((fs ++ List.replicate e d).map nD), .val (.int d), sl'] := by
  have dv : ∀ n : Int, divC n d = true := fun n => divC_lt (a := 40) (by omega) (by omega) (by decide)
  have d0 : 0 < d := by omega
  obtain ⟨δ', e1, r, e, sl', q, nd, r1, e28, rfl⟩ := forL_ix (tgt := gN 3) (s := B_l_primes_of_1) (rangeD 0 28)
    (fun i δ => ∃ (r : Nat) (sl : Sl), r0 = d ^ i * r ∧ 1 ≤ r ∧ i ≤ 28 ∧ δ = [.val (.int r), .own ((fs ++ List.replicate i d).map nD), .val (.int d), sl])
    (fun δ => ∃ (r e : Nat) (sl : Sl), r0 = d ^ e * r ∧ ¬ d ∣ r ∧ 1 ≤ r ∧ e ≤ 28 ∧ δ = [.val (.int r), .own ((fs ++ List.replicate e d).map nD), .val (.int d), sl])
    (fun δ ⟨r, sl, q, r1, hi, eδ⟩ => by
      exfalso
      have e28 : (rangeD 0 28).length = 28 := by decide
      rw [e28] at q
      have p : 2 ^ 28 ≤ d ^ 28 := Nat.pow_le_pow_left hd 28
      have := Nat.mul_le_mul p r1
      omega)
    (fun i dd δ ed ⟨r, sl, q, r1, hi, eδ⟩ => by
      obtain ⟨rfl, hi2⟩ := rangeD_at ed
      subst eδ
      have hz : (fs ++ List.replicate i d).length < 16777216 := by rw [List.length_append, List.length_replicate]; omega
      by_cases hm : d ∣ r
      · obtain ⟨m, rfl⟩ := hm
        have m1 : 1 ≤ m := Nat.pos_of_ne_zero fun z => by subst z; simp at r1
        have hm : ((d * m : Nat) : Int) % (d : Int) = 0 := by rw [Int.natCast_mul]; exact Int.mul_emod_right _ _
        have hq : ((d * m : Nat) : Int) / (d : Int) = (m : Int) := by rw [Int.natCast_mul]; exact Int.mul_ediv_cancel_left _ (by omega)
        refine ⟨_, [.val (.int m), .own ((fs ++ List.replicate (i + 1) d).map nD), .val (.int d), .val (.int (0 + i))], rfl, .inl ⟨.inl ?_, m, _, by rw [q, Nat.pow_succ, Nat.mul_assoc], m1, by omega, rfl⟩⟩
        generalize ((d * m : Nat) : Int) = z at hm hq
        have ea : (fs ++ List.replicate i d).map nD ++ [.int d] = (fs ++ List.replicate (i + 1) d).map nD := by
          rw [List.replicate_succ', ← List.append_assoc, List.map_append (l₁ := fs ++ List.replicate i d)]; rfl
        rw [← ea]
        generalize (fs ++ List.replicate i d) = gs at hz
        have hz2 : (gs.map nD).length < 16777216 := by rw [List.length_map]; exact hz
        generalize gs.map nD = ws at hz2
        simp -implicitDefEqProofs [B_l_primes_of_1, r_bind, r_b1, r_b2, r_b3, r_ret, r_frz1, r_frz2, r_frz3, r_frz4, r_rd1, r_rd2, r_rs1, r_rs2, r_rs3, r_var, r_v1, r_v2, r_v3, r_v4, r_c, r_opnd, r_o1, r_o2, r_rdM, r_opt1, r_lift1, r_eOp, r_eUn, r_boolM, r_tB, r_optB, r_tru, r_and, r_or, r_not, r_bE, r_eAnd, r_eOr, r_eNot, r_eIf, r_condT, r_condF, r_aNil, r_aCons, r_rdsM, r_rdsN, r_rdsC, r_eB, r_nb1, r_nb2, r_vN, r_vC, r_tup, r_lst, r_fits, r_fits0, r_fits1, r_fits2, r_fits3, r_fits4, r_callN, r_callD, r_callM, r_call1, r_argB, r_argB1, r_argB2, r_argV, r_argN, r_back0, r_back0x, r_back1, r_back1x, r_setC, r_set1, r_set2, r_seq, r_s1, r_s2, r_s3, r_s4, r_s5, r_sNil, r_sRet, r_sRetN, r_sExpr, r_sIf, r_sBrk, r_sCont, r_asg, r_asgV, r_a1, r_a2, r_a3, r_a4, r_sFrz, r_fz1, r_fz2, r_fz3, r_raise, r_curL, r_cs1, r_cs2, r_st1, r_storeR, r_stoR, r_stoS, r_mut, r_mutR, r_mutL, r_mutS, r_pApp, r_sFor, r_forN, r_loop, r_forC, r_forR, r_l1, r_l2, r_l3, r_l4, r_l5, r_iRg, r_rg, r_iRg2, r_rg2, r_iSq, r_sq1, r_sq2, r_gN, r_fn, r_f1, r_f2, r_f3, r_f4, r_fin1, r_fin2, r_fin3, r_fin4, r_fb1, r_fb2, r_fin5, r_fin6, r_fin7, r_fc1, r_dAdd, r_dAddL, r_dSub, r_dMul, r_dMod, r_dDiv, r_dPow, r_dNeg, r_dLt, r_dLe, r_dGt, r_dGe, r_nInt, r_nIntB, r_nAbs, r_nLenL, r_nLenT, r_nLenD, r_nMax2, r_nMin2, r_ixL, r_ixT, r_nListL, r_nListT, r_nTupL, r_nDict, r_tru1, r_tru2, r_tru3, r_tru4, r_tru5, r_pExt, r_pIns, r_eqII, r_eqBB, r_neII, r_isN1, r_isN2, r_isN3, r_isN4, r_isN5, r_isN6, r_isi, r_chain, r_ch1, r_ch2, r_rdDict, r_undictD, r_key, r_get2, r_or1, r_or2, r_dix, r_dnew, r_curD, r_ce, r_valOf, r_dput, r_put, r_dictAt, r_dicS, r_eLock, r_sLock, r_lok, r_iDk, r_iDi, r_mapR, r_gT, r_tupT, r_gsN, r_gsC, r_gsR, r_aug, r_aug1, r_addI, r_while, r_sPar, r_oN, r_oS, r_part, r_eSl, r_slTo, r_slFrom, atI, ixN, env0, d0, dv, hm, hq, hz2]
      · have hm2 : ¬ (r : Int) % (d : Int) = 0 := fun z => hm (Int.natCast_dvd_natCast.mp (Int.dvd_of_emod_eq_zero z))
        refine ⟨_, [.val (.int r), .own ((fs ++ List.replicate i d).map nD), .val (.int d), .val (.int (0 + i))], rfl, .inr ⟨?_, r, i, _, q, hm, r1, by omega, rfl⟩⟩
        generalize ((fs ++ List.replicate i d).map nD) = ws
        simp -implicitDefEqProofs [B_l_primes_of_1, r_bind, r_b1, r_b2, r_b3, r_ret, r_frz1, r_frz2, r_frz3, r_frz4, r_rd1, r_rd2, r_rs1, r_rs2, r_rs3, r_var, r_v1, r_v2, r_v3, r_v4, r_c, r_opnd, r_o1, r_o2, r_rdM, r_opt1, r_lift1, r_eOp, r_eUn, r_boolM, r_tB, r_optB, r_tru, r_and, r_or, r_not, r_bE, r_eAnd, r_eOr, r_eNot, r_eIf, r_condT, r_condF, r_aNil, r_aCons, r_rdsM, r_rdsN, r_rdsC, r_eB, r_nb1, r_nb2, r_vN, r_vC, r_tup, r_lst, r_fits, r_fits0, r_fits1, r_fits2, r_fits3, r_fits4, r_callN, r_callD, r_callM, r_call1, r_argB, r_argB1, r_argB2, r_argV, r_argN, r_back0, r_back0x, r_back1, r_back1x, r_setC, r_set1, r_set2, r_seq, r_s1, r_s2, r_s3, r_s4, r_s5, r_sNil, r_sRet, r_sRetN, r_sExpr, r_sIf, r_sBrk, r_sCont, r_asg, r_asgV, r_a1, r_a2, r_a3, r_a4, r_sFrz, r_fz1, r_fz2, r_fz3, r_raise, r_curL, r_cs1, r_cs2, r_st1, r_storeR, r_stoR, r_stoS, r_mut, r_mutR, r_mutL, r_mutS, r_pApp, r_sFor, r_forN, r_loop, r_forC, r_forR, r_l1, r_l2, r_l3, r_l4, r_l5, r_iRg, r_rg, r_iRg2, r_rg2, r_iSq, r_sq1, r_sq2, r_gN, r_fn, r_f1, r_f2, r_f3, r_f4, r_fin1, r_fin2, r_fin3, r_fin4, r_fb1, r_fb2, r_fin5, r_fin6, r_fin7, r_fc1, r_dAdd, r_dAddL, r_dSub, r_dMul, r_dMod, r_dDiv, r_dPow, r_dNeg, r_dLt, r_dLe, r_dGt, r_dGe, r_nInt, r_nIntB, r_nAbs, r_nLenL, r_nLenT, r_nLenD, r_nMax2, r_nMin2, r_ixL, r_ixT, r_nListL, r_nListT, r_nTupL, r_nDict, r_tru1, r_tru2, r_tru3, r_tru4, r_tru5, r_pExt, r_pIns, r_eqII, r_eqBB, r_neII, r_isN1, r_isN2, r_isN3, r_isN4, r_isN5, r_isN6, r_isi, r_chain, r_ch1, r_ch2, r_rdDict, r_undictD, r_key, r_get2, r_or1, r_or2, r_dix, r_dnew, r_curD, r_ce, r_valOf, r_dput, r_put, r_dictAt, r_dicS, r_eLock, r_sLock, r_lok, r_iDk, r_iDi, r_mapR, r_gT, r_tupT, r_gsN, r_gsC, r_gsR, r_aug, r_aug1, r_addI, r_while, r_sPar, r_oN, r_oS, r_part, r_eSl, r_slTo, r_slFrom, atI, ixN, env0, d0, hm2])
    [.val (.int r0), .own (fs.map nD), .val (.int d), sl] ⟨r0, sl, by rw [Nat.pow_zero, Nat.one_mul], hr, by decide, by rw [List.replicate_zero, List.append_nil]⟩
  exact ⟨r, e, sl', q, nd, r1, e28, e1⟩
structure FK (N : Nat) (fs : List Nat) (r d : Nat) : Prop where
  fi : FI N fs r d
  asc : fs.Pairwise (· ≤ ·)
  len : fs.length ≤ 28 * d
  rN : r ≤ N
theorem ascl_app {fs gs : List Nat} {d : Nat} (h : fs.Pairwise (· ≤ ·)) (k : ∀ q ∈ fs, q ≤ d) (g : ∀ q ∈ gs, q = d) : (fs ++ gs).Pairwise (· ≤ ·) := by
  rw [List.pairwise_append]
  refine ⟨h, ?_, fun a ha b hb => by rw [g b hb]; exact k a ha⟩
  refine List.pairwise_iff_forall_sublist.mpr fun {a b} s => ?_
  rw [g a (s.subset (by simp)), g b (s.subset (by simp))]
  exact Nat.le_refl _
theorem FK.step {N : Nat} {fs : List Nat} {r r' d e : Nat} (h : FK N fs r d) (er : r = d ^ e * r') (nd : ¬ d ∣ r') (h1 : 1 ≤ r') (he : e ≤ 28) : FK N (fs ++ List.replicate e d) r' (d + 1) := by
  have hle : r' ≤ r := Nat.le_of_dvd h.fi.r1 ⟨d ^ e, by rw [er, Nat.mul_comm]⟩
  refine ⟨h.fi.step er nd fun q => ?_, ascl_app h.asc (fun q hq => Nat.le_of_lt (h.fi.mem q hq).2.2) fun q hq => (List.mem_replicate.mp hq).2, ?_, Nat.le_trans hle h.rN⟩
  · rw [List.mem_append, List.mem_replicate]
    constructor
    · rintro (a | ⟨a, b⟩)
      · exact .inl a
      · exact .inr ⟨by omega, b⟩
    · rintro (a | ⟨a, b⟩)
      · exact .inl a
      · exact .inr ⟨by omega, b⟩
  · rw [List.length_append, List.length_replicate]
    have := h.len
    omega
theorem primes_of_eq {N : Nat} (hN0 : 1 ≤ N) (hN : N ≤ 1000000) : ∃ fs : List Nat, F_l_primes_of none [.int N] = .ok (.own (fs.map nD)) none ∧ fs.Pairwise (· ≤ ·) ∧ (∀ q, q ∈ fs ↔ isP q ∧ q ∣ N) ∧ fs.length ≤ 1000000 := by
  obtain ⟨δ', e1, fs, r, d, sl, sl3, hk, hlt, hd, rfl⟩ := forL_ix (tgt := gN 2) (s := B_l_primes_of_2) (rangeD 2 10002)
    (fun i δ => ∃ (fs : List Nat) (r : Nat) (sl sl3 : Sl), FK N fs r (i + 2) ∧ δ = [.val (.int r), .own (fs.map nD), sl, sl3])
    (fun δ => ∃ (fs : List Nat) (r d : Nat) (sl sl3 : Sl), FK N fs r d ∧ r < d * d ∧ d ≤ 10002 ∧ δ = [.val (.int r), .own (fs.map nD), sl, sl3])
    (fun δ ⟨fs, r, sl, sl3, hk, eδ⟩ => ⟨fs, r, _, sl, sl3, hk, by
      have := hk.rN
      have e : (rangeD 2 10002).length = 10000 := by rw [rangeD_len]; rfl
      rw [e]; omega, by rw [rangeD_len]; decide, eδ⟩)
    (fun i dd δ ed ⟨fs, r, sl, sl3, hk, eδ⟩ => by
      obtain ⟨rfl, hi2⟩ := rangeD_at ed
      subst eδ
      have hi3 : i < 10000 := hi2
      have ec : (2 : Int) + (i : Int) = ((i + 2 : Nat) : Int) := by omega
      rw [ec]
      have m1 : mulC ((i + 2 : Nat) : Int) ((i + 2 : Nat) : Int) = true := mulC_lt (a := 40) (b := 40) (by omega) (by omega) (by decide)
      have hr := hk.rN
      have s28 : small62 28 = true := by decide
      by_cases hb : r < (i + 2) * (i + 2)
      · have hz : ((r : Int) < ((i + 2 : Nat) : Int) * ((i + 2 : Nat) : Int)) := by exact_mod_cast hb
        refine ⟨_, [.val (.int r), .own (fs.map nD), .val (.int ((i + 2 : Nat) : Int)), sl3], rfl, .inr ⟨?_, fs, r, i + 2, _, sl3, hk, hb, by omega, rfl⟩⟩
        generalize ((i + 2 : Nat) : Int) = z at m1 hz
        simp -implicitDefEqProofs [B_l_primes_of_2, r_bind, r_b1, r_b2, r_b3, r_ret, r_frz1, r_frz2, r_frz3, r_frz4, r_rd1, r_rd2, r_rs1, r_rs2, r_rs3, r_var, r_v1, r_v2, r_v3, r_v4, r_c, r_opnd, r_o1, r_o2, r_rdM, r_opt1, r_lift1, r_eOp, r_eUn, r_boolM, r_tB, r_optB, r_tru, r_and, r_or, r_not, r_bE, r_eAnd, r_eOr, r_eNot, r_eIf, r_condT, r_condF, r_aNil, r_aCons, r_rdsM, r_rdsN, r_rdsC, r_eB, r_nb1, r_nb2, r_vN, r_vC, r_tup, r_lst, r_fits, r_fits0, r_fits1, r_fits2, r_fits3, r_fits4, r_callN, r_callD, r_callM, r_call1, r_argB, r_argB1, r_argB2, r_argV, r_argN, r_back0, r_back0x, r_back1, r_back1x, r_setC, r_set1, r_set2, r_seq, r_s1, r_s2, r_s3, r_s4, r_s5, r_sNil, r_sRet, r_sRetN, r_sExpr, r_sIf, r_sBrk, r_sCont, r_asg, r_asgV, r_a1, r_a2, r_a3, r_a4, r_sFrz, r_fz1, r_fz2, r_fz3, r_raise, r_curL, r_cs1, r_cs2, r_st1, r_storeR, r_stoR, r_stoS, r_mut, r_mutR, r_mutL, r_mutS, r_pApp, r_sFor, r_forN, r_loop, r_forC, r_forR, r_l1, r_l2, r_l3, r_l4, r_l5, r_iRg, r_rg, r_iRg2, r_rg2, r_iSq, r_sq1, r_sq2, r_gN, r_fn, r_f1, r_f2, r_f3, r_f4, r_fin1, r_fin2, r_fin3, r_fin4, r_fb1, r_fb2, r_fin5, r_fin6, r_fin7, r_fc1, r_dAdd, r_dAddL, r_dSub, r_dMul, r_dMod, r_dDiv, r_dPow, r_dNeg, r_dLt, r_dLe, r_dGt, r_dGe, r_nInt, r_nIntB, r_nAbs, r_nLenL, r_nLenT, r_nLenD, r_nMax2, r_nMin2, r_ixL, r_ixT, r_nListL, r_nListT, r_nTupL, r_nDict, r_tru1, r_tru2, r_tru3, r_tru4, r_tru5, r_pExt, r_pIns, r_eqII, r_eqBB, r_neII, r_isN1, r_isN2, r_isN3, r_isN4, r_isN5, r_isN6, r_isi, r_chain, r_ch1, r_ch2, r_rdDict, r_undictD, r_key, r_get2, r_or1, r_or2, r_dix, r_dnew, r_curD, r_ce, r_valOf, r_dput, r_put, r_dictAt, r_dicS, r_eLock, r_sLock, r_lok, r_iDk, r_iDi, r_mapR, r_gT, r_tupT, r_gsN, r_gsC, r_gsR, r_aug, r_aug1, r_addI, r_while, r_sPar, r_oN, r_oS, r_part, r_eSl, r_slTo, r_slFrom, atI, ixN, env0, m1, hz]
      · have hz : ¬ ((r : Int) < ((i + 2 : Nat) : Int) * ((i + 2 : Nat) : Int)) := by exact_mod_cast hb
        have hl := hk.len
        obtain ⟨r', e, sl', q, nd, r1, e28, w⟩ := po_inner (d := i + 2) (r0 := r) (fs := fs) (sl := sl3) (by omega) (by omega) hk.fi.r1 (by omega) (by omega)
        refine ⟨_, [.val (.int r'), .own ((fs ++ List.replicate e (i + 2)).map nD), .val (.int ((i + 2 : Nat) : Int)), sl'], rfl, .inl ⟨.inl ?_, _, r', _, sl', hk.step q nd r1 e28, rfl⟩⟩
        generalize ((i + 2 : Nat) : Int) = z at m1 hz w
        simp -implicitDefEqProofs [B_l_primes_of_2, r_bind, r_b1, r_b2, r_b3, r_ret, r_frz1, r_frz2, r_frz3, r_frz4, r_rd1, r_rd2, r_rs1, r_rs2, r_rs3, r_var, r_v1, r_v2, r_v3, r_v4, r_c, r_opnd, r_o1, r_o2, r_rdM, r_opt1, r_lift1, r_eOp, r_eUn, r_boolM, r_tB, r_optB, r_tru, r_and, r_or, r_not, r_bE, r_eAnd, r_eOr, r_eNot, r_eIf, r_condT, r_condF, r_aNil, r_aCons, r_rdsM, r_rdsN, r_rdsC, r_eB, r_nb1, r_nb2, r_vN, r_vC, r_tup, r_lst, r_fits, r_fits0, r_fits1, r_fits2, r_fits3, r_fits4, r_callN, r_callD, r_callM, r_call1, r_argB, r_argB1, r_argB2, r_argV, r_argN, r_back0, r_back0x, r_back1, r_back1x, r_setC, r_set1, r_set2, r_seq, r_s1, r_s2, r_s3, r_s4, r_s5, r_sNil, r_sRet, r_sRetN, r_sExpr, r_sIf, r_sBrk, r_sCont, r_asg, r_asgV, r_a1, r_a2, r_a3, r_a4, r_sFrz, r_fz1, r_fz2, r_fz3, r_raise, r_curL, r_cs1, r_cs2, r_st1, r_storeR, r_stoR, r_stoS, r_mut, r_mutR, r_mutL, r_mutS, r_pApp, r_sFor, r_forN, r_loop, r_forC, r_forR, r_l1, r_l2, r_l3, r_l4, r_l5, r_iRg, r_rg, r_iRg2, r_rg2, r_iSq, r_sq1, r_sq2, r_gN, r_fn, r_f1, r_f2, r_f3, r_f4, r_fin1, r_fin2, r_fin3, r_fin4, r_fb1, r_fb2, r_fin5, r_fin6, r_fin7, r_fc1, r_dAdd, r_dAddL, r_dSub, r_dMul, r_dMod, r_dDiv, r_dPow, r_dNeg, r_dLt, r_dLe, r_dGt, r_dGe, r_nInt, r_nIntB, r_nAbs, r_nLenL, r_nLenT, r_nLenD, r_nMax2, r_nMin2, r_ixL, r_ixT, r_nListL, r_nListT, r_nTupL, r_nDict, r_tru1, r_tru2, r_tru3, r_tru4, r_tru5, r_pExt, r_pIns, r_eqII, r_eqBB, r_neII, r_isN1, r_isN2, r_isN3, r_isN4, r_isN5, r_isN6, r_isi, r_chain, r_ch1, r_ch2, r_rdDict, r_undictD, r_key, r_get2, r_or1, r_or2, r_dix, r_dnew, r_curD, r_ce, r_valOf, r_dput, r_put, r_dictAt, r_dicS, r_eLock, r_sLock, r_lok, r_iDk, r_iDi, r_mapR, r_gT, r_tupT, r_gsN, r_gsC, r_gsR, r_aug, r_aug1, r_addI, r_while, r_sPar, r_oN, r_oS, r_part, r_eSl, r_slTo, r_slFrom, atI, ixN, env0, m1, hz, s28, w])
    [.val (.int N), .own [], .un, .un] ⟨[], N, .un, .un, ⟨FI.start hN0, .nil, Nat.zero_le _, Nat.le_refl _⟩, rfl⟩
  have hl := hk.len
  have s2 : (small62 2 && small62 10002) = true := by decide
  have hl2 : fs.length < 16777216 := by omega
  by_cases h1 : 1 < r
  · obtain ⟨q1, q2⟩ := hk.fi.last (fs' := fs ++ [r]) hlt fun q => by rw [List.mem_append]; simp [h1]
    have h1' : (1 : Int) < (r : Int) := by omega
    refine ⟨fs ++ [r], ?_, ascl_app hk.asc (fun q hq => Nat.le_of_lt (q2 h1 q hq)) (fun q hq => List.mem_singleton.mp hq), q1, by rw [List.length_append, List.length_singleton]; omega⟩
    simp -implicitDefEqProofs [F_l_primes_of, r_bind, r_b1, r_b2, r_b3, r_ret, r_frz1, r_frz2, r_frz3, r_frz4, r_rd1, r_rd2, r_rs1, r_rs2, r_rs3, r_var, r_v1, r_v2, r_v3, r_v4, r_c, r_opnd, r_o1, r_o2, r_rdM, r_opt1, r_lift1, r_eOp, r_eUn, r_boolM, r_tB, r_optB, r_tru, r_and, r_or, r_not, r_bE, r_eAnd, r_eOr, r_eNot, r_eIf, r_condT, r_condF, r_aNil, r_aCons, r_rdsM, r_rdsN, r_rdsC, r_eB, r_nb1, r_nb2, r_vN, r_vC, r_tup, r_lst, r_fits, r_fits0, r_fits1, r_fits2, r_fits3, r_fits4, r_callN, r_callD, r_callM, r_call1, r_argB, r_argB1, r_argB2, r_argV, r_argN, r_back0, r_back0x, r_back1, r_back1x, r_setC, r_set1, r_set2, r_seq, r_s1, r_s2, r_s3, r_s4, r_s5, r_sNil, r_sRet, r_sRetN, r_sExpr, r_sIf, r_sBrk, r_sCont, r_asg, r_asgV, r_a1, r_a2, r_a3, r_a4, r_sFrz, r_fz1, r_fz2, r_fz3, r_raise, r_curL, r_cs1, r_cs2, r_st1, r_storeR, r_stoR, r_stoS, r_mut, r_mutR, r_mutL, r_mutS, r_pApp, r_sFor, r_forN, r_loop, r_forC, r_forR, r_l1, r_l2, r_l3, r_l4, r_l5, r_iRg, r_rg, r_iRg2, r_rg2, r_iSq, r_sq1, r_sq2, r_gN, r_fn, r_f1, r_f2, r_f3, r_f4, r_fin1, r_fin2, r_fin3, r_fin4, r_fb1, r_fb2, r_fin5, r_fin6, r_fin7, r_fc1, r_dAdd, r_dAddL, r_dSub, r_dMul, r_dMod, r_dDiv, r_dPow, r_dNeg, r_dLt, r_dLe, r_dGt, r_dGe, r_nInt, r_nIntB, r_nAbs, r_nLenL, r_nLenT, r_nLenD, r_nMax2, r_nMin2, r_ixL, r_ixT, r_nListL, r_nListT, r_nTupL, r_nDict, r_tru1, r_tru2, r_tru3, r_tru4, r_tru5, r_pExt, r_pIns, r_eqII, r_eqBB, r_neII, r_isN1, r_isN2, r_isN3, r_isN4, r_isN5, r_isN6, r_isi, r_chain, r_ch1, r_ch2, r_rdDict, r_undictD, r_key, r_get2, r_or1, r_or2, r_dix, r_dnew, r_curD, r_ce, r_valOf, r_dput, r_put, r_dictAt, r_dicS, r_eLock, r_sLock, r_lok, r_iDk, r_iDi, r_mapR, r_gT, r_tupT, r_gsN, r_gsC, r_gsR, r_aug, r_aug1, r_addI, r_while, r_sPar, r_oN, r_oS, r_part, r_eSl, r_slTo, r_slFrom, atI, ixN, env0, s2, e1, h1', hl2, nD]
  · obtain ⟨q1, q2⟩ := hk.fi.last (fs' := fs) hlt fun q => by simp [h1]
    have h1' : ¬ (1 : Int) < (r : Int) := by omega
    exact ⟨fs, by simp -implicitDefEqProofs [F_l_primes_of, r_bind, r_b1, r_b2, r_b3, r_ret, r_frz1, r_frz2, r_frz3, r_frz4, r_rd1, r_rd2, r_rs1, r_rs2, r_rs3, r_var, r_v1, r_v2, r_v3, r_v4, r_c, r_opnd, r_o1, r_o2, r_rdM, r_opt1, r_lift1, r_eOp, r_eUn, r_boolM, r_tB, r_optB, r_tru, r_and, r_or, r_not, r_bE, r_eAnd, r_eOr, r_eNot, r_eIf, r_condT, r_condF, r_aNil, r_aCons, r_rdsM, r_rdsN, r_rdsC, r_eB, r_nb1, r_nb2, r_vN, r_vC, r_tup, r_lst, r_fits, r_fits0, r_fits1, r_fits2, r_fits3, r_fits4, r_callN, r_callD, r_callM, r_call1, r_argB, r_argB1, r_argB2, r_argV, r_argN, r_back0, r_back0x, r_back1, r_back1x, r_setC, r_set1, r_set2, r_seq, r_s1, r_s2, r_s3, r_s4, r_s5, r_sNil, r_sRet, r_sRetN, r_sExpr, r_sIf, r_sBrk, r_sCont, r_asg, r_asgV, r_a1, r_a2, r_a3, r_a4, r_sFrz, r_fz1, r_fz2, r_fz3, r_raise, r_curL, r_cs1, r_cs2, r_st1, r_storeR, r_stoR, r_stoS, r_mut, r_mutR, r_mutL, r_mutS, r_pApp, r_sFor, r_forN, r_loop, r_forC, r_forR, r_l1, r_l2, r_l3, r_l4, r_l5, r_iRg, r_rg, r_iRg2, r_rg2, r_iSq, r_sq1, r_sq2, r_gN, r_fn, r_f1, r_f2, r_f3, r_f4, r_fin1, r_fin2, r_fin3, r_fin4, r_fb1, r_fb2, r_fin5, r_fin6, r_fin7, r_fc1, r_dAdd, r_dAddL, r_dSub, r_dMul, r_dMod, r_dDiv, r_dPow, r_dNeg, r_dLt, r_dLe, r_dGt, r_dGe, r_nInt, r_nIntB, r_nAbs, r_nLenL, r_nLenT, r_nLenD, r_nMax2, r_nMin2, r_ixL, r_ixT, r_nListL, r_nListT, r_nTupL, r_nDict, r_tru1, r_tru2, r_tru3, r_tru4, r_tru5, r_pExt, r_pIns, r_eqII, r_eqBB, r_neII, r_isN1, r_isN2, r_isN3, r_isN4, r_isN5, r_isN6, r_isi, r_chain, r_ch1, r_ch2, r_rdDict, r_undictD, r_key, r_get2, r_or1, r_or2, r_dix, r_dnew, r_curD, r_ce, r_valOf, r_dput, r_put, r_dictAt, r_dicS, r_eLock, r_sLock, r_lok, r_iDk, r_iDi, r_mapR, r_gT, r_tupT, r_gsN, r_gsC, r_gsR, r_aug, r_aug1, r_addI, r_while, r_sPar, r_oN, r_oS, r_part, r_eSl, r_slTo, r_slFrom, atI, ixN, env0, s2, e1, h1'], hk.asc, q1, by omega⟩
end K61

set_option Elab.async false
set_option linter.all false
set_option maxRecDepth 100000
set_option maxHeartbeats 4000000
namespace K61
open PySem PySem.Spec PyProof.Rows L2 DW
theorem in_nat (q : Nat) (fs : List Nat) : dIn true (.int q) (.list (fs.map nD)) = some (.val (.bool (!decide (q ∈ fs)))) := by
  have h1 : ((fs.map nD).all flatD) = true := by rw [List.all_eq_true]; intro x hx; obtain ⟨y, _, rfl⟩ := List.mem_map.mp hx; rfl
  have h2 : inV (vD (.int q)) ((fs.map nD).map vD) = decide (q ∈ fs) := by
    unfold inV
    rw [List.any_map, List.any_map]
    by_cases h : q ∈ fs
    · rw [decide_eq_true h, List.any_eq_true]
      exact ⟨q, h, by show ((q : Int) == (q : Int)) = true; simp⟩
    · rw [decide_eq_false h, List.any_eq_false]
      intro x hx
      show ¬ (((x : Nat) : Int) == (q : Int)) = true
      rw [beq_iff_eq]
      intro z
      have : x = q := by omega
      subst this
      exact h hx
  show (bif flatD (.int q) && (fs.map nD).all flatD then some (Sl.val (.bool (bif true then !inV (vD (.int q)) ((fs.map nD).map vD) else inV (vD (.int q)) ((fs.map nD).map vD)))) else none) = _
  rw [h1, h2]
  rfl
theorem primes_once_eq {N : Nat} (hN0 : 1 ≤ N) (hN : N ≤ 1000000) : ∃ ps : List Nat, F_l_primes_once none [.int N] = .ok (.own (ps.map nD)) none ∧ PR N ps := by
  obtain ⟨fs, e0, asc, mem, len⟩ := primes_of_eq hN0 hN
  obtain ⟨δ', e1, ps, sl, rfl, a1, a2⟩ := forL_ix (tgt := gN 2) (s := B_l_primes_once_1) (fs.map nD)
    (fun i δ => ∃ (ps : List Nat) (sl : Sl), δ = [.val (.int N), .own (ps.map nD), sl] ∧ ps.Pairwise (· < ·) ∧ (∀ q, q ∈ ps ↔ q ∈ fs.take i) ∧ ps.length ≤ i)
    (fun δ => ∃ (ps : List Nat) (sl : Sl), δ = [.val (.int N), .own (ps.map nD), sl] ∧ ps.Pairwise (· < ·) ∧ (∀ q, q ∈ ps ↔ q ∈ fs))
    (fun δ ⟨ps, sl, a, b, c, d⟩ => ⟨ps, sl, a, b, fun q => by rw [c q, List.length_map, List.take_length]⟩)
    (fun i dd δ ed ⟨ps, sl, eδ, a1, a2, a3⟩ => by
      subst eδ
      rw [List.getElem?_map] at ed
      cases eq : fs[i]? with
      | none => rw [eq] at ed; cases ed
      | some q =>
        rw [eq] at ed
        cases ed
        obtain ⟨hi, hq⟩ := List.getElem?_eq_some_iff.mp eq
        have tk : fs.take (i + 1) = fs.take i ++ [q] := by rw [List.take_succ, eq]; rfl
        have hin := in_nat q ps
        have hz : (ps.map nD).length < 16777216 := by rw [List.length_map]; omega
        by_cases h : q ∈ ps
        · rw [decide_eq_true h] at hin
          refine ⟨_, [.val (.int N), .own (ps.map nD), .val (.int q)], rfl, .inl ⟨.inl ?_, ps, _, rfl, a1, fun x => ?_, by omega⟩⟩
          · generalize ps.map nD = ws at hin
            simp -implicitDefEqProofs [B_l_primes_once_1, r_bind, r_b1, r_b2, r_b3, r_ret, r_frz1, r_frz2, r_frz3, r_frz4, r_rd1, r_rd2, r_rs1, r_rs2, r_rs3, r_var, r_v1, r_v2, r_v3, r_v4, r_c, r_opnd, r_o1, r_o2, r_rdM, r_opt1, r_lift1, r_eOp, r_eUn, r_boolM, r_tB, r_optB, r_tru, r_and, r_or, r_not, r_bE, r_eAnd, r_eOr, r_eNot, r_eIf, r_condT, r_condF, r_aNil, r_aCons, r_rdsM, r_rdsN, r_rdsC, r_eB, r_nb1, r_nb2, r_vN, r_vC, r_tup, r_lst, r_fits, r_fits0, r_fits1, r_fits2, r_fits3, r_fits4, r_callN, r_callD, r_callM, r_call1, r_argB, r_argB1, r_argB2, r_argV, r_argN, r_back0, r_back0x, r_back1, r_back1x, r_setC, r_set1, r_set2, r_seq, r_s1, r_s2, r_s3, r_s4, r_s5, r_sNil, r_sRet, r_sRetN, r_sExpr, r_sIf, r_sBrk, r_sCont, r_asg, r_asgV, r_a1, r_a2, r_a3, r_a4, r_sFrz, r_fz1, r_fz2, r_fz3, r_raise, r_curL, r_cs1, r_cs2, r_st1, r_storeR, r_stoR, r_stoS, r_mut, r_mutR, r_mutL, r_mutS, r_pApp, r_sFor, r_forN, r_loop, r_forC, r_forR, r_l1, r_l2, r_l3, r_l4, r_l5, r_iRg, r_rg, r_iRg2, r_rg2, r_iSq, r_sq1, r_sq2, r_gN, r_fn, r_f1, r_f2, r_f3, r_f4, r_fin1, r_fin2, r_fin3, r_fin4, r_fb1, r_fb2, r_fin5, r_fin6, r_fin7, r_fc1, r_dAdd, r_dAddL, r_dSub, r_dMul, r_dMod, r_dDiv, r_dPow, r_dNeg, r_dLt, r_dLe, r_dGt, r_dGe, r_nInt, r_nIntB, r_nAbs, r_nLenL, r_nLenT, r_nLenD, r_nMax2, r_nMin2, r_ixL, r_ixT, r_nListL, r_nListT, r_nTupL, r_nDict, r_tru1, r_tru2, r_tru3, r_tru4, r_tru5, r_pExt, r_pIns, r_eqII, r_eqBB, r_neII, r_isN1, r_isN2, r_isN3, r_isN4, r_isN5, r_isN6, r_isi, r_chain, r_ch1, r_ch2, r_rdDict, r_undictD, r_key, r_get2, r_or1, r_or2, r_dix, r_dnew, r_curD, r_ce, r_valOf, r_dput, r_put, r_dictAt, r_dicS, r_eLock, r_sLock, r_lok, r_iDk, r_iDi, r_mapR, r_gT, r_tupT, r_gsN, r_gsC, r_gsR, r_aug, r_aug1, r_addI, r_while, r_sPar, r_oN, r_oS, r_part, r_eSl, r_slTo, r_slFrom, atI, ixN, env0, nD, hin]
          · rw [tk, List.mem_append, a2 x, List.mem_singleton]
            constructor
            · exact .inl
            · rintro (z | z)
              · exact z
              · subst z; exact (a2 x).mp h
        · rw [decide_eq_false h] at hin
          refine ⟨_, [.val (.int N), .own ((ps ++ [q]).map nD), .val (.int q)], rfl, .inl ⟨.inl ?_, ps ++ [q], _, rfl, ?_, fun x => ?_, by rw [List.length_append, List.length_singleton]; omega⟩⟩
          · rw [List.map_append]
            generalize ps.map nD = ws at hin hz
            simp -implicitDefEqProofs [B_l_primes_once_1, r_bind, r_b1, r_b2, r_b3, r_ret, r_frz1, r_frz2, r_frz3, r_frz4, r_rd1, r_rd2, r_rs1, r_rs2, r_rs3, r_var, r_v1, r_v2, r_v3, r_v4, r_c, r_opnd, r_o1, r_o2, r_rdM, r_opt1, r_lift1, r_eOp, r_eUn, r_boolM, r_tB, r_optB, r_tru, r_and, r_or, r_not, r_bE, r_eAnd, r_eOr, r_eNot, r_eIf, r_condT, r_condF, r_aNil, r_aCons, r_rdsM, r_rdsN, r_rdsC, r_eB, r_nb1, r_nb2, r_vN, r_vC, r_tup, r_lst, r_fits, r_fits0, r_fits1, r_fits2, r_fits3, r_fits4, r_callN, r_callD, r_callM, r_call1, r_argB, r_argB1, r_argB2, r_argV, r_argN, r_back0, r_back0x, r_back1, r_back1x, r_setC, r_set1, r_set2, r_seq, r_s1, r_s2, r_s3, r_s4, r_s5, r_sNil, r_sRet, r_sRetN, r_sExpr, r_sIf, r_sBrk, r_sCont, r_asg, r_asgV, r_a1, r_a2, r_a3, r_a4, r_sFrz, r_fz1, r_fz2, r_fz3, r_raise, r_curL, r_cs1, r_cs2, r_st1, r_storeR, r_stoR, r_stoS, r_mut, r_mutR, r_mutL, r_mutS, r_pApp, r_sFor, r_forN, r_loop, r_forC, r_forR, r_l1, r_l2, r_l3, r_l4, r_l5, r_iRg, r_rg, r_iRg2, r_rg2, r_iSq, r_sq1, r_sq2, r_gN, r_fn, r_f1, r_f2, r_f3, r_f4, r_fin1, r_fin2, r_fin3, r_fin4, r_fb1, r_fb2, r_fin5, r_fin6, r_fin7, r_fc1, r_dAdd, r_dAddL, r_dSub, r_dMul, r_dMod, r_dDiv, r_dPow, r_dNeg, r_dLt, r_dLe, r_dGt, r_dGe, r_nInt, r_nIntB, r_nAbs, r_nLenL, r_nLenT, r_nLenD, r_nMax2, r_nMin2, r_ixL, r_ixT, r_nListL, r_nListT, r_nTupL, r_nDict, r_tru1, r_tru2, r_tru3, r_tru4, r_tru5, r_pExt, r_pIns, r_eqII, r_eqBB, r_neII, r_isN1, r_isN2, r_isN3, r_isN4, r_isN5, r_isN6, r_isi, r_chain, r_ch1, r_ch2, r_rdDict, r_undictD, r_key, r_get2, r_or1, r_or2, r_dix, r_dnew, r_curD, r_ce, r_valOf, r_dput, r_put, r_dictAt, r_dicS, r_eLock, r_sLock, r_lok, r_iDk, r_iDi, r_mapR, r_gT, r_tupT, r_gsN, r_gsC, r_gsR, r_aug, r_aug1, r_addI, r_while, r_sPar, r_oN, r_oS, r_part, r_eSl, r_slTo, r_slFrom, atI, ixN, env0, nD, hin, hz]
          · refine asc_app a1 fun x hx => ?_
            have hx2 := (a2 x).mp hx
            obtain ⟨j, hj, ej⟩ := List.getElem_of_mem hx2
            rw [List.length_take] at hj
            rw [List.getElem_take] at ej
            have le := List.pairwise_iff_getElem.mp asc j i (by omega) hi (by omega)
            rw [ej, hq] at le
            have ne : x ≠ q := fun z => h (z ▸ hx)
            omega
          · rw [tk, List.mem_append, List.mem_append, a2 x])
    [.val (.int N), .own [], .un] ⟨[], .un, rfl, .nil, fun q => by simp, Nat.le_refl _⟩
  exact ⟨ps, by simp -implicitDefEqProofs [F_l_primes_once, r_bind, r_b1, r_b2, r_b3, r_ret, r_frz1, r_frz2, r_frz3, r_frz4, r_rd1, r_rd2, r_rs1, r_rs2, r_rs3, r_var, r_v1, r_v2, r_v3, r_v4, r_c, r_opnd, r_o1, r_o2, r_rdM, r_opt1, r_lift1, r_eOp, r_eUn, r_boolM, r_tB, r_optB, r_tru, r_and, r_or, r_not, r_bE, r_eAnd, r_eOr, r_eNot, r_eIf, r_condT, r_condF, r_aNil, r_aCons, r_rdsM, r_rdsN, r_rdsC, r_eB, r_nb1, r_nb2, r_vN, r_vC, r_tup, r_lst, r_fits, r_fits0, r_fits1, r_fits2, r_fits3, r_fits4, r_callN, r_callD, r_callM, r_call1, r_argB, r_argB1, r_argB2, r_argV, r_argN, r_back0, r_back0x, r_back1, r_back1x, r_setC, r_set1, r_set2, r_seq, r_s1, r_s2, r_s3, r_s4, r_s5, r_sNil, r_sRet, r_sRetN, r_sExpr, r_sIf, r_sBrk, r_sCont, r_asg, r_asgV, r_a1, r_a2, r_a3, r_a4, r_sFrz, r_fz1, r_fz2, r_fz3, r_raise, r_curL, r_cs1, r_cs2, r_st1, r_storeR, r_stoR, r_stoS, r_mut, r_mutR, r_mutL, r_mutS, r_pApp, r_sFor, r_forN, r_loop, r_forC, r_forR, r_l1, r_l2, r_l3, r_l4, r_l5, r_iRg, r_rg, r_iRg2, r_rg2, r_iSq, r_sq1, r_sq2, r_gN, r_fn, r_f1, r_f2, r_f3, r_f4, r_fin1, r_fin2, r_fin3, r_fin4, r_fb1, r_fb2, r_fin5, r_fin6, r_fin7, r_fc1, r_dAdd, r_dAddL, r_dSub, r_dMul, r_dMod, r_dDiv, r_dPow, r_dNeg, r_dLt, r_dLe, r_dGt, r_dGe, r_nInt, r_nIntB, r_nAbs, r_nLenL, r_nLenT, r_nLenD, r_nMax2, r_nMin2, r_ixL, r_ixT, r_nListL, r_nListT, r_nTupL, r_nDict, r_tru1, r_tru2, r_tru3, r_tru4, r_tru5, r_pExt, r_pIns, r_eqII, r_eqBB, r_neII, r_isN1, r_isN2, r_isN3, r_isN4, r_isN5, r_isN6, r_isi, r_chain, r_ch1, r_ch2, r_rdDict, r_undictD, r_key, r_get2, r_or1, r_or2, r_dix, r_dnew, r_curD, r_ce, r_valOf, r_dput, r_put, r_dictAt, r_dicS, r_eLock, r_sLock, r_lok, r_iDk, r_iDi, r_mapR, r_gT, r_tupT, r_gsN, r_gsC, r_gsR, r_aug, r_aug1, r_addI, r_while, r_sPar, r_oN, r_oS, r_part, r_eSl, r_slTo, r_slFrom, atI, ixN, env0, e0, e1], a1, fun q => (a2 q).trans (mem q)⟩
theorem gcd_eq (a b : Nat) (hb : b < 1000000000) : F_l_gcd none [.int a, .int b] = .ok (.val (.int (Nat.gcd a b : Nat))) none := by
  obtain ⟨δ', e1, c, hc, rfl⟩ := whileL_inv (p := tB' (eOp dNe (eVar 1) (eC (.int 0)))) (s := B_l_gcd_1)
    (fun n δ => ∃ c : Nat, Nat.gcd c n = Nat.gcd a b ∧ δ = [.val (.int c), .val (.int n)])
    (fun δ => ∃ c : Nat, c = Nat.gcd a b ∧ δ = [.val (.int c), .val (.int 0)])
    (fun n δ ⟨c, hc, eδ⟩ => by
      subst eδ
      by_cases h : n = 0
      · subst h
        exact .inl ⟨by simp -implicitDefEqProofs [r_bind, r_b1, r_b2, r_b3, r_ret, r_frz1, r_frz2, r_frz3, r_frz4, r_rd1, r_rd2, r_rs1, r_rs2, r_rs3, r_var, r_v1, r_v2, r_v3, r_v4, r_c, r_opnd, r_o1, r_o2, r_rdM, r_opt1, r_lift1, r_eOp, r_eUn, r_boolM, r_tB, r_optB, r_tru, r_and, r_or, r_not, r_bE, r_eAnd, r_eOr, r_eNot, r_eIf, r_condT, r_condF, r_aNil, r_aCons, r_rdsM, r_rdsN, r_rdsC, r_eB, r_nb1, r_nb2, r_vN, r_vC, r_tup, r_lst, r_fits, r_fits0, r_fits1, r_fits2, r_fits3, r_fits4, r_callN, r_callD, r_callM, r_call1, r_argB, r_argB1, r_argB2, r_argV, r_argN, r_back0, r_back0x, r_back1, r_back1x, r_setC, r_set1, r_set2, r_seq, r_s1, r_s2, r_s3, r_s4, r_s5, r_sNil, r_sRet, r_sRetN, r_sExpr, r_sIf, r_sBrk, r_sCont, r_asg, r_asgV, r_a1, r_a2, r_a3, r_a4, r_sFrz, r_fz1, r_fz2, r_fz3, r_raise, r_curL, r_cs1, r_cs2, r_st1, r_storeR, r_stoR, r_stoS, r_mut, r_mutR, r_mutL, r_mutS, r_pApp, r_sFor, r_forN, r_loop, r_forC, r_forR, r_l1, r_l2, r_l3, r_l4, r_l5, r_iRg, r_rg, r_iRg2, r_rg2, r_iSq, r_sq1, r_sq2, r_gN, r_fn, r_f1, r_f2, r_f3, r_f4, r_fin1, r_fin2, r_fin3, r_fin4, r_fb1, r_fb2, r_fin5, r_fin6, r_fin7, r_fc1, r_dAdd, r_dAddL, r_dSub, r_dMul, r_dMod, r_dDiv, r_dPow, r_dNeg, r_dLt, r_dLe, r_dGt, r_dGe, r_nInt, r_nIntB, r_nAbs, r_nLenL, r_nLenT, r_nLenD, r_nMax2, r_nMin2, r_ixL, r_ixT, r_nListL, r_nListT, r_nTupL, r_nDict, r_tru1, r_tru2, r_tru3, r_tru4, r_tru5, r_pExt, r_pIns, r_eqII, r_eqBB, r_neII, r_isN1, r_isN2, r_isN3, r_isN4, r_isN5, r_isN6, r_isi, r_chain, r_ch1, r_ch2, r_rdDict, r_undictD, r_key, r_get2, r_or1, r_or2, r_dix, r_dnew, r_curD, r_ce, r_valOf, r_dput, r_put, r_dictAt, r_dicS, r_eLock, r_sLock, r_lok, r_iDk, r_iDi, r_mapR, r_gT, r_tupT, r_gsN, r_gsC, r_gsR, r_aug, r_aug1, r_addI, r_while, r_sPar, r_oN, r_oS, r_part, r_eSl, r_slTo, r_slFrom, atI, ixN, env0], c, by rw [← hc, Nat.gcd_zero_right], rfl⟩
      · have h0 : 0 < n := by omega
        have hm : (c : Int) % (n : Int) = ((c % n : Nat) : Int) := by omega
        exact .inr ⟨[.val (.int n), .val (.int ((c % n : Nat) : Int))], c % n, by simp -implicitDefEqProofs [r_bind, r_b1, r_b2, r_b3, r_ret, r_frz1, r_frz2, r_frz3, r_frz4, r_rd1, r_rd2, r_rs1, r_rs2, r_rs3, r_var, r_v1, r_v2, r_v3, r_v4, r_c, r_opnd, r_o1, r_o2, r_rdM, r_opt1, r_lift1, r_eOp, r_eUn, r_boolM, r_tB, r_optB, r_tru, r_and, r_or, r_not, r_bE, r_eAnd, r_eOr, r_eNot, r_eIf, r_condT, r_condF, r_aNil, r_aCons, r_rdsM, r_rdsN, r_rdsC, r_eB, r_nb1, r_nb2, r_vN, r_vC, r_tup, r_lst, r_fits, r_fits0, r_fits1, r_fits2, r_fits3, r_fits4, r_callN, r_callD, r_callM, r_call1, r_argB, r_argB1, r_argB2, r_argV, r_argN, r_back0, r_back0x, r_back1, r_back1x, r_setC, r_set1, r_set2, r_seq, r_s1, r_s2, r_s3, r_s4, r_s5, r_sNil, r_sRet, r_sRetN, r_sExpr, r_sIf, r_sBrk, r_sCont, r_asg, r_asgV, r_a1, r_a2, r_a3, r_a4, r_sFrz, r_fz1, r_fz2, r_fz3, r_raise, r_curL, r_cs1, r_cs2, r_st1, r_storeR, r_stoR, r_stoS, r_mut, r_mutR, r_mutL, r_mutS, r_pApp, r_sFor, r_forN, r_loop, r_forC, r_forR, r_l1, r_l2, r_l3, r_l4, r_l5, r_iRg, r_rg, r_iRg2, r_rg2, r_iSq, r_sq1, r_sq2, r_gN, r_fn, r_f1, r_f2, r_f3, r_f4, r_fin1, r_fin2, r_fin3, r_fin4, r_fb1, r_fb2, r_fin5, r_fin6, r_fin7, r_fc1, r_dAdd, r_dAddL, r_dSub, r_dMul, r_dMod, r_dDiv, r_dPow, r_dNeg, r_dLt, r_dLe, r_dGt, r_dGe, r_nInt, r_nIntB, r_nAbs, r_nLenL, r_nLenT, r_nLenD, r_nMax2, r_nMin2, r_ixL, r_ixT, r_nListL, r_nListT, r_nTupL, r_nDict, r_tru1, r_tru2, r_tru3, r_tru4, r_tru5, r_pExt, r_pIns, r_eqII, r_eqBB, r_neII, r_isN1, r_isN2, r_isN3, r_isN4, r_isN5, r_isN6, r_isi, r_chain, r_ch1, r_ch2, r_rdDict, r_undictD, r_key, r_get2, r_or1, r_or2, r_dix, r_dnew, r_curD, r_ce, r_valOf, r_dput, r_put, r_dictAt, r_dicS, r_eLock, r_sLock, r_lok, r_iDk, r_iDi, r_mapR, r_gT, r_tupT, r_gsN, r_gsC, r_gsR, r_aug, r_aug1, r_addI, r_while, r_sPar, r_oN, r_oS, r_part, r_eSl, r_slTo, r_slFrom, atI, ixN, env0, h], .inl (by
          generalize ((c % n : Nat) : Int) = z at hm
          simp -implicitDefEqProofs [B_l_gcd_1, r_bind, r_b1, r_b2, r_b3, r_ret, r_frz1, r_frz2, r_frz3, r_frz4, r_rd1, r_rd2, r_rs1, r_rs2, r_rs3, r_var, r_v1, r_v2, r_v3, r_v4, r_c, r_opnd, r_o1, r_o2, r_rdM, r_opt1, r_lift1, r_eOp, r_eUn, r_boolM, r_tB, r_optB, r_tru, r_and, r_or, r_not, r_bE, r_eAnd, r_eOr, r_eNot, r_eIf, r_condT, r_condF, r_aNil, r_aCons, r_rdsM, r_rdsN, r_rdsC, r_eB, r_nb1, r_nb2, r_vN, r_vC, r_tup, r_lst, r_fits, r_fits0, r_fits1, r_fits2, r_fits3, r_fits4, r_callN, r_callD, r_callM, r_call1, r_argB, r_argB1, r_argB2, r_argV, r_argN, r_back0, r_back0x, r_back1, r_back1x, r_setC, r_set1, r_set2, r_seq, r_s1, r_s2, r_s3, r_s4, r_s5, r_sNil, r_sRet, r_sRetN, r_sExpr, r_sIf, r_sBrk, r_sCont, r_asg, r_asgV, r_a1, r_a2, r_a3, r_a4, r_sFrz, r_fz1, r_fz2, r_fz3, r_raise, r_curL, r_cs1, r_cs2, r_st1, r_storeR, r_stoR, r_stoS, r_mut, r_mutR, r_mutL, r_mutS, r_pApp, r_sFor, r_forN, r_loop, r_forC, r_forR, r_l1, r_l2, r_l3, r_l4, r_l5, r_iRg, r_rg, r_iRg2, r_rg2, r_iSq, r_sq1, r_sq2, r_gN, r_fn, r_f1, r_f2, r_f3, r_f4, r_fin1, r_fin2, r_fin3, r_fin4, r_fb1, r_fb2, r_fin5, r_fin6, r_fin7, r_fc1, r_dAdd, r_dAddL, r_dSub, r_dMul, r_dMod, r_dDiv, r_dPow, r_dNeg, r_dLt, r_dLe, r_dGt, r_dGe, r_nInt, r_nIntB, r_nAbs, r_nLenL, r_nLenT, r_nLenD, r_nMax2, r_nMin2, r_ixL, r_ixT, r_nListL, r_nListT, r_nTupL, r_nDict, r_tru1, r_tru2, r_tru3, r_tru4, r_tru5, r_pExt, r_pIns, r_eqII, r_eqBB, r_neII, r_isN1, r_isN2, r_isN3, r_isN4, r_isN5, r_isN6, r_isi, r_chain, r_ch1, r_ch2, r_rdDict, r_undictD, r_key, r_get2, r_or1, r_or2, r_dix, r_dnew, r_curD, r_ce, r_valOf, r_dput, r_put, r_dictAt, r_dicS, r_eLock, r_sLock, r_lok, r_iDk, r_iDi, r_mapR, r_gT, r_tupT, r_gsN, r_gsC, r_gsR, r_aug, r_aug1, r_addI, r_while, r_sPar, r_oN, r_oS, r_part, r_eSl, r_slTo, r_slFrom, atI, ixN, env0, h0, hm]), Nat.mod_lt _ h0, n, by rw [← hc, Nat.gcd_comm n (c % n), ← Nat.gcd_rec, Nat.gcd_comm], rfl⟩)
    fuel b [.val (.int a), .val (.int b)] (by unfold fuel; omega) ⟨a, rfl, rfl⟩
  subst hc
  have hn : ¬ ((Nat.gcd a b : Nat) : Int) < 0 := by omega
  generalize ((Nat.gcd a b : Nat) : Int) = z at e1 hn
  simp -implicitDefEqProofs [F_l_gcd, r_bind, r_b1, r_b2, r_b3, r_ret, r_frz1, r_frz2, r_frz3, r_frz4, r_rd1, r_rd2, r_rs1, r_rs2, r_rs3, r_var, r_v1, r_v2, r_v3, r_v4, r_c, r_opnd, r_o1, r_o2, r_rdM, r_opt1, r_lift1, r_eOp, r_eUn, r_boolM, r_tB, r_optB, r_tru, r_and, r_or, r_not, r_bE, r_eAnd, r_eOr, r_eNot, r_eIf, r_condT, r_condF, r_aNil, r_aCons, r_rdsM, r_rdsN, r_rdsC, r_eB, r_nb1, r_nb2, r_vN, r_vC, r_tup, r_lst, r_fits, r_fits0, r_fits1, r_fits2, r_fits3, r_fits4, r_callN, r_callD, r_callM, r_call1, r_argB, r_argB1, r_argB2, r_argV, r_argN, r_back0, r_back0x, r_back1, r_back1x, r_setC, r_set1, r_set2, r_seq, r_s1, r_s2, r_s3, r_s4, r_s5, r_sNil, r_sRet, r_sRetN, r_sExpr, r_sIf, r_sBrk, r_sCont, r_asg, r_asgV, r_a1, r_a2, r_a3, r_a4, r_sFrz, r_fz1, r_fz2, r_fz3, r_raise, r_curL, r_cs1, r_cs2, r_st1, r_storeR, r_stoR, r_stoS, r_mut, r_mutR, r_mutL, r_mutS, r_pApp, r_sFor, r_forN, r_loop, r_forC, r_forR, r_l1, r_l2, r_l3, r_l4, r_l5, r_iRg, r_rg, r_iRg2, r_rg2, r_iSq, r_sq1, r_sq2, r_gN, r_fn, r_f1, r_f2, r_f3, r_f4, r_fin1, r_fin2, r_fin3, r_fin4, r_fb1, r_fb2, r_fin5, r_fin6, r_fin7, r_fc1, r_dAdd, r_dAddL, r_dSub, r_dMul, r_dMod, r_dDiv, r_dPow, r_dNeg, r_dLt, r_dLe, r_dGt, r_dGe, r_nInt, r_nIntB, r_nAbs, r_nLenL, r_nLenT, r_nLenD, r_nMax2, r_nMin2, r_ixL, r_ixT, r_nListL, r_nListT, r_nTupL, r_nDict, r_tru1, r_tru2, r_tru3, r_tru4, r_tru5, r_pExt, r_pIns, r_eqII, r_eqBB, r_neII, r_isN1, r_isN2, r_isN3, r_isN4, r_isN5, r_isN6, r_isi, r_chain, r_ch1, r_ch2, r_rdDict, r_undictD, r_key, r_get2, r_or1, r_or2, r_dix, r_dnew, r_curD, r_ce, r_valOf, r_dput, r_put, r_dictAt, r_dicS, r_eLock, r_sLock, r_lok, r_iDk, r_iDi, r_mapR, r_gT, r_tupT, r_gsN, r_gsC, r_gsR, r_aug, r_aug1, r_addI, r_while, r_sPar, r_oN, r_oS, r_part, r_eSl, r_slTo, r_slFrom, atI, ixN, env0, e1, hn]
end K61

set_option Elab.async false
set_option linter.all false
set_option maxRecDepth 100000
set_option maxHeartbeats 4000000
namespace K61
open PySem PySem.Spec PyProof.Rows L2 DW
/-! ### tables of ints -/
abbrev Tab : Type := List (Int × Int)
def kd (tb : Tab) : List (Key × D) := tb.map fun p => (.inl p.1, .int p.2)
def lkI : Tab → Int → Option Int
  | [], _ => none
  | p :: r, k => if p.1 = k then some p.2 else lkI r k
def val (tb : Tab) (k : Int) : Int := (lkI tb k).getD 0
def keys (tb : Tab) : List Int := tb.map (·.1)
def ptI : Tab → Int → Int → Tab
  | [], k, v => [(k, v)]
  | p :: r, k, v => if p.1 = k then (k, v) :: r else p :: ptI r k v
theorem look_kd (k : Int) : ∀ tb : Tab, lookD (kd tb) (.inl k) = (lkI tb k).map PyData.int
  | [] => rfl
  | p :: r => by
    show (List.find? _ (_ :: kd r)).map _ = _
    unfold lkI
    by_cases h : p.1 = k
    · rw [if_pos h]; simp [List.find?_cons, h]
    · rw [if_neg h, ← look_kd k r]
      have : ¬ decide (((Sum.inl p.1, PyData.int p.2) : Key × D).1 = .inl k) = true := fun z => h (by have := of_decide_eq_true z; injection this)
      show (List.find? _ ((Sum.inl p.1, PyData.int p.2) :: kd r)).map _ = _
      rw [List.find?_cons_of_neg (p := fun q : Key × D => decide (q.1 = (.inl k : Key))) this]
      rfl
theorem lk_none {tb : Tab} {k : Int} (h : k ∉ keys tb) : lkI tb k = none := by
  induction tb with
  | nil => rfl
  | cons p r ih =>
    unfold keys at h
    rw [List.map_cons, List.mem_cons] at h
    unfold lkI
    rw [if_neg (fun z => h (.inl z.symm))]
    exact ih fun z => h (.inr z)
theorem put_kd (k v : Int) : ∀ tb : Tab, (keys tb).Nodup → putD (kd tb) (.inl k) (.int v) = kd (ptI tb k v)
  | [], _ => rfl
  | p :: r, nd => by
    unfold keys at nd
    rw [List.map_cons, List.nodup_cons] at nd
    have ih := put_kd k v r nd.2
    unfold ptI
    by_cases h : p.1 = k
    · rw [if_pos h]
      unfold putD
      rw [if_pos (by simp [kd, h])]
      unfold kd
      rw [List.map_cons, List.map_cons, List.map_cons, if_pos (by rw [h])]
      congr 1
      · rw [h]
      · rw [List.map_map]
        refine List.map_congr_left fun q hq => ?_
        have : q.1 ≠ k := fun z => nd.1 (by rw [h, ← z]; exact List.mem_map.mpr ⟨q, hq, rfl⟩)
        show (if (Sum.inl q.1 : Key) = .inl k then _ else _) = _
        rw [if_neg fun z => this (by injection z)]
    · rw [if_neg h]
      have hk : ¬ (Sum.inl p.1 : Key) = .inl k := fun z => h (by injection z)
      unfold putD at ih ⊢
      have e : ((kd (p :: r)).any fun q => decide (q.1 = (.inl k : Key))) = ((kd r).any fun q => decide (q.1 = (.inl k : Key))) := by
        show (decide ((Sum.inl p.1 : Key) = .inl k) || _) = _
        rw [decide_eq_false hk, Bool.false_or]
        rfl
      rw [e]
      by_cases a : ((kd r).any fun q => decide (q.1 = (.inl k : Key))) = true
      · rw [if_pos a] at ih ⊢
        show (if (Sum.inl p.1 : Key) = .inl k then _ else _) :: _ = _
        rw [if_neg hk]
        show _ :: _ = _ :: kd (ptI r k v)
        rw [← ih]
        rfl
      · rw [if_neg a] at ih ⊢
        show _ :: (kd r ++ _) = _ :: kd (ptI r k v)
        rw [ih]
theorem lk_pt (k v j : Int) : ∀ tb : Tab, lkI (ptI tb k v) j = if j = k then some v else lkI tb j
  | [] => by
    unfold ptI lkI lkI
    by_cases h : j = k
    · rw [if_pos h, if_pos h.symm]
    · rw [if_neg h, if_neg fun z => h z.symm]
  | p :: r => by
    unfold ptI
    by_cases h : p.1 = k
    · rw [if_pos h]
      unfold lkI
      by_cases hj : j = k
      · rw [if_pos hj, if_pos hj.symm]
      · rw [if_neg hj, if_neg (fun z => hj z.symm), if_neg (by rw [h]; exact fun z => hj z.symm)]
    · rw [if_neg h]
      unfold lkI
      rw [lk_pt k v j r]
      by_cases hp : p.1 = j
      · rw [if_pos hp, if_pos hp, if_neg (by rw [← hp]; exact h)]
      · rw [if_neg hp, if_neg hp]
theorem val_pt (tb : Tab) (k v j : Int) : val (ptI tb k v) j = if j = k then v else val tb j := by
  unfold val
  rw [lk_pt]
  by_cases h : j = k
  · rw [if_pos h, if_pos h]; rfl
  · rw [if_neg h, if_neg h]
theorem mem_keys_pt (k v j : Int) : ∀ tb : Tab, j ∈ keys (ptI tb k v) ↔ j = k ∨ j ∈ keys tb
  | [] => by unfold ptI keys; simp
  | p :: r => by
    unfold ptI
    by_cases h : p.1 = k
    · rw [if_pos h]
      unfold keys
      rw [List.map_cons, List.map_cons, List.mem_cons, List.mem_cons, h]
      constructor
      · rintro (a | a)
        · exact .inl a
        · exact .inr (.inr a)
      · rintro (a | a | a)
        · exact .inl a
        · exact .inl a
        · exact .inr a
    · rw [if_neg h]
      have ih := mem_keys_pt k v j r
      unfold keys at ih ⊢
      rw [List.map_cons, List.map_cons, List.mem_cons, List.mem_cons, ih]
      constructor
      · rintro (a | a | a)
        · exact .inr (.inl a)
        · exact .inl a
        · exact .inr (.inr a)
      · rintro (a | a | a)
        · exact .inr (.inl a)
        · exact .inl a
        · exact .inr (.inr a)
theorem nodup_pt (k v : Int) : ∀ {tb : Tab}, (keys tb).Nodup → (keys (ptI tb k v)).Nodup
  | [], _ => by unfold ptI keys; simp
  | p :: r, h => by
    unfold keys at h
    rw [List.map_cons, List.nodup_cons] at h
    unfold ptI
    by_cases e : p.1 = k
    · rw [if_pos e]
      unfold keys
      rw [List.map_cons, List.nodup_cons]
      exact ⟨by rw [← e]; exact h.1, h.2⟩
    · rw [if_neg e]
      have ih := nodup_pt k v (tb := r) h.2
      unfold keys
      rw [List.map_cons, List.nodup_cons]
      refine ⟨fun z => ?_, ih⟩
      rcases (mem_keys_pt k v p.1 r).mp z with q | q
      · exact e q
      · exact h.1 q
structure Tb (N : Int) (tb : Tab) : Prop where
  nd : (keys tb).Nodup
  rg : ∀ k ∈ keys tb, 0 ≤ k ∧ k < N
theorem Tb.put {N : Int} {tb : Tab} (h : Tb N tb) {k : Int} (v : Int) (h0 : 0 ≤ k) (h1 : k < N) : Tb N (ptI tb k v) :=
  ⟨nodup_pt k v h.nd, fun j hj => by
    rcases (mem_keys_pt k v j tb).mp hj with e | e
    · subst e; exact ⟨h0, h1⟩
    · exact h.rg j e⟩
theorem nodup_len : ∀ (n : Nat) {l : List Int}, l.Nodup → (∀ k ∈ l, 0 ≤ k ∧ k < n) → l.length ≤ n
  | 0, [], _, _ => Nat.le_refl _
  | 0, x :: l, _, h => by have := h x List.mem_cons_self; omega
  | n + 1, l, nd, h => by
    have nd2 : (l.filter fun k => decide (k ≠ (n : Int))).Nodup := nd.filter _
    have ih := nodup_len n nd2 fun k hk => by
      obtain ⟨a, b⟩ := List.mem_filter.mp hk
      have := h k a
      have b := of_decide_eq_true b
      omega
    have le : l.length ≤ (l.filter fun k => decide (k ≠ (n : Int))).length + 1 := by
      clear ih nd2 h
      induction l with
      | nil => simp
      | cons x l il =>
        rw [List.nodup_cons] at nd
        by_cases hx : x = (n : Int)
        · rw [List.filter_cons_of_neg (by simp [hx])]
          have : l.filter (fun k => decide (k ≠ (n : Int))) = l := List.filter_eq_self.mpr fun k hk => decide_eq_true fun z => nd.1 (by rw [hx, ← z]; exact hk)
          rw [this]; exact Nat.le_refl _
        · rw [List.filter_cons_of_pos (by simp [hx])]
          have := il nd.2
          rw [List.length_cons, List.length_cons]
          omega
    omega
theorem Tb.len {N : Int} {tb : Tab} (h : Tb N tb) (hN : 0 ≤ N) : tb.length ≤ N.toNat := by
  have := nodup_len N.toNat h.nd fun k hk => by have := h.rg k hk; omega
  unfold keys at this
  rwa [List.length_map] at this
theorem lk_mem {tb : Tab} (nd : (keys tb).Nodup) {p : Int × Int} (h : p ∈ tb) : lkI tb p.1 = some p.2 := by
  induction tb with
  | nil => simp at h
  | cons q r ih =>
    unfold keys at nd
    rw [List.map_cons, List.nodup_cons] at nd
    unfold lkI
    rcases List.mem_cons.mp h with e | e
    · subst e; rw [if_pos rfl]
    · have : q.1 ≠ p.1 := fun z => nd.1 (by rw [z]; exact List.mem_map.mpr ⟨p, e, rfl⟩)
      rw [if_neg this]
      exact ih nd.2 e
theorem mem_lk {tb : Tab} {k v : Int} (h : lkI tb k = some v) : (k, v) ∈ tb := by
  induction tb with
  | nil => cases h
  | cons q r ih =>
    unfold lkI at h
    by_cases e : q.1 = k
    · rw [if_pos e] at h
      cases h
      subst e
      exact List.mem_cons_self
    · rw [if_neg e] at h
      exact List.mem_cons_of_mem _ (ih h)
/-- sums over the pairs -/
def sumAt (g : Int → Int) (tb : Tab) (k : Int) : Int := (tb.map fun p => if g p.1 = k then p.2 else 0).sum
theorem sumAt_cons (g : Int → Int) (p : Int × Int) (tb : Tab) (k : Int) : sumAt g (p :: tb) k = (if g p.1 = k then p.2 else 0) + sumAt g tb k := by
  unfold sumAt; rw [List.map_cons, List.sum_cons]
theorem sumAt_snoc (g : Int → Int) (p : Int × Int) (tb : Tab) (k : Int) : sumAt g (tb ++ [p]) k = sumAt g tb k + (if g p.1 = k then p.2 else 0) := by
  unfold sumAt; rw [List.map_append, List.sum_append]; simp
/-- with keys that differ a sum over g's fibre is one value -/
theorem sumAt_val {g : Int → Int} {k q : Int} : ∀ {tb : Tab}, (keys tb).Nodup → (∀ j ∈ keys tb, g j = k ↔ j = q) → sumAt g tb k = val tb q
  | [], _, _ => rfl
  | p :: r, nd, h => by
    unfold keys at nd h
    rw [List.map_cons] at nd h
    rw [List.nodup_cons] at nd
    rw [sumAt_cons, sumAt_val (q := q) nd.2 fun j hj => h j (List.mem_cons_of_mem _ hj)]
    have hp := h p.1 List.mem_cons_self
    unfold val
    by_cases e : p.1 = q
    · rw [if_pos (hp.mpr e)]
      have : lkI (p :: r) q = some p.2 := by unfold lkI; rw [if_pos e]
      rw [this, lk_none (by rw [← e]; exact nd.1)]
      simp
    · rw [if_neg fun z => e (hp.mp z)]
      have : lkI (p :: r) q = lkI r q := by show (if p.1 = q then _ else _) = _; rw [if_neg e]
      rw [this, Int.zero_add]
end K61

set_option Elab.async false
set_option linter.all false
set_option maxRecDepth 100000
set_option maxHeartbeats 4000000
namespace K61
open PySem PySem.Spec PyProof.Rows L2 DW
/-! ### functions of the places -/
def cnt (N : Int) (xs : List Int) (k : Int) : Int := ((xs.countP fun x => decide (x % N = k % N) : Nat) : Int)
def Dl (a : Int) (f : Int → Int) : Int → Int := fun k => f k - f (k - a)
def TT (N : Int) (ps : List Nat) (f : Int → Int) : Int → Int := ps.foldl (fun (g : Int → Int) (p : Nat) => Dl (N / (p : Int)) g) f
def Per (N : Int) (f : Int → Int) : Prop := ∀ k, f (k % N) = f k
theorem cnt_per (N : Int) (xs : List Int) : Per N (cnt N xs) := fun k => by unfold cnt; rw [Int.emod_emod]
theorem Per.eq {N : Int} {f : Int → Int} (h : Per N f) {a b : Int} (e : a % N = b % N) : f a = f b := by rw [← h a, e, h b]
theorem Dl_per {N a : Int} {f : Int → Int} (h : Per N f) : Per N (Dl a f) := fun k => by
  unfold Dl
  rw [h k, h.eq (a := k % N - a) (b := k - a) (by rw [Int.sub_emod, Int.emod_emod, ← Int.sub_emod])]
theorem TT_per {N : Int} : ∀ {ps : List Nat} {f : Int → Int}, Per N f → Per N (TT N ps f)
  | [], _, h => h
  | p :: ps, _, h => TT_per (ps := ps) (Dl_per h)
/-- a table that holds f -/
structure TbF (N : Int) (tb : Tab) (f : Int → Int) : Prop where
  t : Tb N tb
  v : ∀ k, 0 ≤ k → k < N → val tb k = f k
def NZ (tb : Tab) : Prop := ∀ p ∈ tb, p.2 ≠ 0
structure Is (N : Int) (l : Tab) (f : Int → Int) : Prop where
  asc : l.Pairwise fun p q => p.1 < q.1
  mem : ∀ p, p ∈ l ↔ 0 ≤ p.1 ∧ p.1 < N ∧ p.2 = f p.1 ∧ p.2 ≠ 0
theorem pasc_uniq : ∀ {l m : Tab}, l.Pairwise (fun p q => p.1 < q.1) → m.Pairwise (fun p q => p.1 < q.1) → (∀ q, q ∈ l ↔ q ∈ m) → l = m
  | [], [], _, _, _ => rfl
  | [], y :: m, _, _, h => by have := (h y).mpr List.mem_cons_self; simp at this
  | x :: l, [], _, _, h => by have := (h x).mp List.mem_cons_self; simp at this
  | x :: l, y :: m, hl, hm, h => by
    obtain ⟨l1, l2⟩ := List.pairwise_cons.mp hl
    obtain ⟨m1, m2⟩ := List.pairwise_cons.mp hm
    have e : x = y := by
      rcases List.mem_cons.mp ((h x).mp List.mem_cons_self) with e | a
      · exact e
      · rcases List.mem_cons.mp ((h y).mpr List.mem_cons_self) with e | b
        · exact e.symm
        · have := m1 x a; have := l1 y b; omega
    subst e
    congr 1
    refine pasc_uniq l2 m2 fun q => ⟨fun a => ?_, fun a => ?_⟩
    · rcases List.mem_cons.mp ((h q).mp (List.mem_cons_of_mem _ a)) with e | b
      · subst e; have := l1 q a; omega
      · exact b
    · rcases List.mem_cons.mp ((h q).mpr (List.mem_cons_of_mem _ a)) with e | b
      · subst e; have := m1 q a; omega
      · exact b
theorem Is.uniq {N : Int} {l m : Tab} {f g : Int → Int} (h : Is N l f) (k : Is N m g) (e : ∀ j, 0 ≤ j → j < N → f j = g j) : l = m :=
  pasc_uniq h.asc k.asc fun q => by
    rw [h.mem q, k.mem q]
    constructor
    · rintro ⟨a, b, c, d⟩; exact ⟨a, b, by rw [c, e _ a b], d⟩
    · rintro ⟨a, b, c, d⟩; exact ⟨a, b, by rw [c, e _ a b], d⟩
theorem TbF.mem {N : Int} {tb : Tab} {f : Int → Int} (h : TbF N tb f) (nz : NZ tb) (p : Int × Int) : p ∈ tb ↔ 0 ≤ p.1 ∧ p.1 < N ∧ p.2 = f p.1 ∧ p.2 ≠ 0 := by
  constructor
  · intro m
    obtain ⟨a, b⟩ := h.t.rg p.1 (List.mem_map.mpr ⟨p, m, rfl⟩)
    have e := h.v p.1 a b
    unfold val at e
    rw [lk_mem h.t.nd m] at e
    exact ⟨a, b, e, nz p m⟩
  · rintro ⟨a, b, c, d⟩
    have e := h.v p.1 a b
    rw [← c] at e
    unfold val at e
    cases l : lkI tb p.1 with
    | none => rw [l] at e; exact absurd e.symm d
    | some v =>
      rw [l] at e
      have e : v = p.2 := e
      subst e
      exact mem_lk l
theorem TbF.sorted {N : Int} {tb : Tab} {f : Int → Int} (h : TbF N tb f) (nz : NZ tb) : Is N (sortP tb) f := by
  refine ⟨?_, fun p => by rw [(sortP_perm tb).mem_iff]; exact h.mem nz p⟩
  have nd : (keys (sortP tb)).Nodup := ((sortP_perm tb).map (fun p : Int × Int => p.1)).nodup_iff.mpr h.t.nd
  have s := sortP_srt tb
  unfold keys at nd
  rw [List.Nodup, List.pairwise_map] at nd
  refine (List.pairwise_and_iff.mpr ⟨s, nd⟩).imp fun {p q} z => ?_
  have := leP_iff.mp z.1
  have := z.2
  omega
theorem TbF.over {N : Int} {tb : Tab} {f : Int → Int} (h : TbF N tb f) (nz : NZ tb) : Is N ((sortI (keys tb)).map fun k => (k, val tb k)) f := by
  have nd : (sortI (keys tb)).Nodup := (sortI_perm _).nodup_iff.mpr h.t.nd
  refine ⟨?_, fun p => ?_⟩
  · rw [List.pairwise_map]
    refine (List.pairwise_and_iff.mpr ⟨sortI_srt (keys tb), nd⟩).imp fun {p q} z => ?_
    have := z.1
    have := z.2
    show p < q
    omega
  · rw [← h.mem nz p, List.mem_map]
    constructor
    · rintro ⟨k, hk, rfl⟩
      rw [(sortI_perm _).mem_iff] at hk
      obtain ⟨q, hq, rfl⟩ := List.mem_map.mp hk
      have : val tb q.1 = q.2 := by unfold val; rw [lk_mem h.t.nd hq]; rfl
      rw [this]
      exact hq
    · intro m
      refine ⟨p.1, (sortI_perm _).mem_iff.mpr (List.mem_map.mpr ⟨p, m, rfl⟩), ?_⟩
      have : val tb p.1 = p.2 := by unfold val; rw [lk_mem h.t.nd m]; rfl
      rw [this]
/-- a list of pairs as a table -/
theorem Is.tbF {N : Int} {l : Tab} {f : Int → Int} (h : Is N l f) : TbF N l f ∧ NZ l := by
  have nd : (keys l).Nodup := by
    unfold keys
    rw [List.Nodup, List.pairwise_map]
    exact h.asc.imp fun {p q} z => by omega
  refine ⟨⟨⟨nd, fun k hk => ?_⟩, fun k h0 h1 => ?_⟩, fun p hp => ((h.mem p).mp hp).2.2.2⟩
  · obtain ⟨p, hp, rfl⟩ := List.mem_map.mp hk
    have := (h.mem p).mp hp
    exact ⟨this.1, this.2.1⟩
  · unfold val
    cases e : lkI l k with
    | some v => exact ((h.mem (k, v)).mp (mem_lk e)).2.2.1
    | none =>
      show 0 = f k
      by_cases z : f k = 0
      · exact z.symm
      · have := lk_mem nd ((h.mem (k, f k)).mpr ⟨h0, h1, rfl, z⟩)
        rw [e] at this
        cases this
theorem Is.nil_iff {N : Int} {l : Tab} {f : Int → Int} (h : Is N l f) : l = [] ↔ ∀ k, 0 ≤ k → k < N → f k = 0 := by
  constructor
  · intro e k h0 h1
    by_cases z : f k = 0
    · exact z
    · have := (h.mem (k, f k)).mpr ⟨h0, h1, rfl, z⟩
      rw [e] at this
      simp at this
  · intro e
    cases l with
    | nil => rfl
    | cons p r =>
      have := (h.mem p).mp List.mem_cons_self
      exact absurd (this.2.2.1.trans (e _ this.1 this.2.1)) this.2.2.2
end K61

set_option Elab.async false
set_option linter.all false
set_option maxRecDepth 100000
set_option maxHeartbeats 4000000
namespace K61
open PySem PySem.Spec PyProof.Rows L2 DW
theorem r_gt0 (tb : Tab) (k : Int) (δ : DW.Env) : orG (.val (.int 0)) ((lkI tb k).map PyData.int) δ = .ok (.val (.int (val tb k))) δ := by
  unfold val
  cases lkI tb k <;> rfl
theorem kd_len (tb : Tab) : (kd tb).length = tb.length := by unfold kd; rw [List.length_map]
theorem pt_new {k v : Int} : ∀ {tb : Tab}, k ∉ keys tb → ptI tb k v = tb ++ [(k, v)]
  | [], _ => rfl
  | p :: r, h => by
    unfold keys at h
    rw [List.map_cons, List.mem_cons] at h
    unfold ptI
    rw [if_neg fun z => h (.inl z.symm), pt_new (tb := r) fun z => h (.inr z)]
    rfl
theorem putAll_kd : ∀ (l acc : Tab), (keys (acc ++ l)).Nodup → putAll (kd acc) (kd l) = kd (acc ++ l)
  | [], acc, _ => by rw [List.append_nil]; rfl
  | p :: l, acc, nd => by
    have e : acc ++ p :: l = (acc ++ [p]) ++ l := by simp
    have nd1 : (keys acc).Nodup := by
      unfold keys at nd ⊢
      rw [List.map_append] at nd
      exact (List.nodup_append.mp nd).1
    have hk : p.1 ∉ keys acc := fun z => by
      unfold keys at nd z
      rw [List.map_append] at nd
      exact (List.nodup_append.mp nd).2.2 p.1 z p.1 (by simp) rfl
    show putAll (putD (kd acc) (.inl p.1) (.int p.2)) (kd l) = _
    rw [put_kd p.1 p.2 acc nd1, pt_new hk, e]
    exact putAll_kd l (acc ++ [p]) (by rw [← e]; exact nd)
def nzF (tb : Tab) : Tab := tb.filter fun p => decide (p.2 ≠ 0)
theorem nzF_nz (tb : Tab) : NZ (nzF tb) := fun p hp => of_decide_eq_true (List.mem_filter.mp hp).2
theorem nzF_tb {N : Int} {tb : Tab} {f : Int → Int} (h : TbF N tb f) : TbF N (nzF tb) f := by
  have sub : (keys (nzF tb)).Sublist (keys tb) := (List.filter_sublist (l := tb)).map _
  refine ⟨⟨sub.nodup h.t.nd, fun k hk => h.t.rg k (sub.subset hk)⟩, fun k h0 h1 => ?_⟩
  rw [← h.v k h0 h1]
  unfold val
  cases e : lkI tb k with
  | none =>
    have : lkI (nzF tb) k = none := by
      cases e2 : lkI (nzF tb) k with
      | none => rfl
      | some v =>
        have := (List.mem_filter.mp (mem_lk e2)).1
        rw [lk_mem h.t.nd this] at e
        cases e
    rw [this]
  | some v =>
    by_cases z : v = 0
    · have : lkI (nzF tb) k = none := by
        cases e2 : lkI (nzF tb) k with
        | none => rfl
        | some u =>
          have m := List.mem_filter.mp (mem_lk e2)
          rw [lk_mem h.t.nd m.1] at e
          cases e
          exact absurd z (of_decide_eq_true m.2)
      rw [this, z]; rfl
    · have m : (k, v) ∈ nzF tb := List.mem_filter.mpr ⟨mem_lk e, decide_eq_true z⟩
      rw [lk_mem (sub.nodup h.t.nd) m]
theorem fm_nz (tb : Tab) (g : D → Option (Key × D)) (hg : ∀ p : Int × Int, g (DW.pairD p) = if p.2 = 0 then none else some (.inl p.1, .int p.2)) : (tb.map DW.pairD).filterMap g = kd (nzF tb) := by
  induction tb with
  | nil => rfl
  | cons p r ih =>
    rw [List.map_cons]
    by_cases z : p.2 = 0
    · rw [List.filterMap_cons_none (by rw [hg, if_pos z]), ih]
      unfold nzF
      rw [List.filter_cons_of_neg (by simp [z])]
    · rw [List.filterMap_cons_some (b := (.inl p.1, .int p.2)) (by rw [hg, if_neg z]), ih]
      unfold nzF
      rw [List.filter_cons_of_pos (by simp [z])]
      rfl
theorem sub_iff {N j k sh : Int} (hN : 0 < N) (j0 : 0 ≤ j) (j1 : j < N) (k0 : 0 ≤ k) (k1 : k < N) : (j + sh) % N = k ↔ j = (k - sh) % N := by
  constructor
  · intro e
    rw [← e, Int.sub_emod, Int.emod_emod, ← Int.sub_emod, Int.add_sub_cancel, Int.emod_eq_of_lt j0 j1]
  · intro e
    rw [e, Int.add_emod, Int.emod_emod, ← Int.add_emod, Int.sub_add_cancel, Int.emod_eq_of_lt k0 k1]
theorem kd_pairs (tb : Tab) : ((kd tb).map fun p => PyData.tuple [keyD p.1, p.2]) = tb.map DW.pairD := by
  unfold kd
  rw [List.map_map]
  rfl
theorem subtracted_eq {N sh : Int} {tb : Tab} {f : Int → Int} (hN : 1 ≤ N) (hN2 : N ≤ 1000000) (h : TbF N tb f) (per : Per N f) :
    ∃ tb', F_subtracted none [dictD (kd tb), .int sh, .int N] = .ok (.ownD (kd tb')) none ∧ TbF N tb' (Dl sh f) ∧ NZ tb' := by
  have hN0 : 0 < N := by omega
  obtain ⟨δ', e1, td, sl4, sl5, sl6, rfl, ht, hv, o4, o5⟩ := forL_ix (tgt := gT 2 (gsCons (gN 4) (gsCons (gN 5) gsNil))) (s := B_subtracted_1) (tb.map DW.pairD)
    (fun i δ => ∃ (td : Tab) (sl4 sl5 sl6 : Sl), δ = [.val (dictD (kd tb)), .val (.int sh), .val (.int N), .ownD (kd td), sl4, sl5, sl6] ∧ Tb N td ∧ (∀ k, 0 ≤ k → k < N → val td k = val tb k - sumAt (fun j => (j + sh) % N) (tb.take i) k) ∧ sl4.isOwn = false ∧ sl5.isOwn = false)
    (fun δ => ∃ (td : Tab) (sl4 sl5 sl6 : Sl), δ = [.val (dictD (kd tb)), .val (.int sh), .val (.int N), .ownD (kd td), sl4, sl5, sl6] ∧ Tb N td ∧ (∀ k, 0 ≤ k → k < N → val td k = val tb k - sumAt (fun j => (j + sh) % N) tb k) ∧ sl4.isOwn = false ∧ sl5.isOwn = false)
    (fun δ ⟨td, sl4, sl5, sl6, a, b, c, d, e⟩ => ⟨td, sl4, sl5, sl6, a, b, by rw [List.length_map, List.take_length] at c; exact c, d, e⟩)
    (fun i dd δ ed ⟨td, sl4, sl5, sl6, eδ, a1, a2, a3, a4⟩ => by
      subst eδ
      rw [List.getElem?_map] at ed
      cases eq : tb[i]? with
      | none => rw [eq] at ed; cases ed
      | some p =>
        rw [eq] at ed
        cases ed
        have g0 : 0 ≤ (p.1 + sh) % N := Int.emod_nonneg _ (by omega)
        have g1 : (p.1 + sh) % N < N := Int.emod_lt_of_pos _ hN0
        have hl : (kd td).length < 16777216 := by have := a1.len (by omega); rw [kd_len]; omega
        have pk := put_kd ((p.1 + sh) % N) (val td ((p.1 + sh) % N) - p.2) td a1.nd
        have tk : tb.take (i + 1) = tb.take i ++ [p] := by rw [List.take_succ, eq]; rfl
        refine ⟨[.val (dictD (kd tb)), .val (.int sh), .val (.int N), .ownD (kd td), .val (.int p.1), .val (.int p.2), sl6], [.val (dictD (kd tb)), .val (.int sh), .val (.int N), .ownD (kd (ptI td ((p.1 + sh) % N) (val td ((p.1 + sh) % N) - p.2))), .val (.int p.1), .val (.int p.2), .val (.int ((p.1 + sh) % N))], rfl,
          .inl ⟨.inl ?_, _, _, _, _, rfl, a1.put _ g0 g1, fun k k0 k1 => ?_, rfl, rfl⟩⟩
        · simp -implicitDefEqProofs [B_subtracted_1, r_bind, r_b1, r_b2, r_b3, r_ret, r_frz1, r_frz2, r_frz3, r_frz4, r_rd1, r_rd2, r_rs1, r_rs2, r_rs3, r_var, r_v1, r_v2, r_v3, r_v4, r_c, r_opnd, r_o1, r_o2, r_rdM, r_opt1, r_lift1, r_eOp, r_eUn, r_boolM, r_tB, r_optB, r_tru, r_and, r_or, r_not, r_bE, r_eAnd, r_eOr, r_eNot, r_eIf, r_condT, r_condF, r_aNil, r_aCons, r_rdsM, r_rdsN, r_rdsC, r_eB, r_nb1, r_nb2, r_vN, r_vC, r_tup, r_lst, r_fits, r_fits0, r_fits1, r_fits2, r_fits3, r_fits4, r_callN, r_callD, r_callM, r_call1, r_argB, r_argB1, r_argB2, r_argV, r_argN, r_back0, r_back0x, r_back1, r_back1x, r_setC, r_set1, r_set2, r_seq, r_s1, r_s2, r_s3, r_s4, r_s5, r_sNil, r_sRet, r_sRetN, r_sExpr, r_sIf, r_sBrk, r_sCont, r_asg, r_asgV, r_a1, r_a2, r_a3, r_a4, r_sFrz, r_fz1, r_fz2, r_fz3, r_raise, r_curL, r_cs1, r_cs2, r_st1, r_storeR, r_stoR, r_stoS, r_mut, r_mutR, r_mutL, r_mutS, r_pApp, r_sFor, r_forN, r_loop, r_forC, r_forR, r_l1, r_l2, r_l3, r_l4, r_l5, r_iRg, r_rg, r_iRg2, r_rg2, r_iSq, r_sq1, r_sq2, r_gN, r_fn, r_f1, r_f2, r_f3, r_f4, r_fin1, r_fin2, r_fin3, r_fin4, r_fb1, r_fb2, r_fin5, r_fin6, r_fin7, r_fc1, r_dAdd, r_dAddL, r_dSub, r_dMul, r_dMod, r_dDiv, r_dPow, r_dNeg, r_dLt, r_dLe, r_dGt, r_dGe, r_nInt, r_nIntB, r_nAbs, r_nLenL, r_nLenT, r_nLenD, r_nMax2, r_nMin2, r_ixL, r_ixT, r_nListL, r_nListT, r_nTupL, r_nDict, r_tru1, r_tru2, r_tru3, r_tru4, r_tru5, r_pExt, r_pIns, r_eqII, r_eqBB, r_neII, r_isN1, r_isN2, r_isN3, r_isN4, r_isN5, r_isN6, r_isi, r_chain, r_ch1, r_ch2, r_rdDict, r_undictD, r_key, r_get2, r_or1, r_or2, r_dix, r_dnew, r_curD, r_ce, r_valOf, r_dput, r_put, r_dictAt, r_dicS, r_eLock, r_sLock, r_lok, r_iDk, r_iDi, r_mapR, r_gT, r_tupT, r_gsN, r_gsC, r_gsR, r_aug, r_aug1, r_addI, r_while, r_sPar, r_oN, r_oS, r_part, r_eSl, r_slTo, r_slFrom, atI, ixN, env0, hN0, look_kd, r_gt0, hl, pk]
        · rw [val_pt, tk, sumAt_snoc, a2 k k0 k1]
          by_cases e : k = (p.1 + sh) % N
          · rw [if_pos e, if_pos e.symm, ← e, a2 k k0 k1]; omega
          · rw [if_neg e, if_neg fun z => e z.symm]; omega)
    [.val (dictD (kd tb)), .val (.int sh), .val (.int N), .ownD (kd tb), .un, .un, .un] ⟨tb, .un, .un, .un, rfl, h.t, fun k _ _ => by simp [sumAt], rfl, rfl⟩
  have hf : TbF N td (Dl sh f) := ⟨ht, fun k k0 k1 => by
    rw [hv k k0 k1, sumAt_val (q := (k - sh) % N) h.t.nd fun j hj => sub_iff hN0 (h.t.rg j hj).1 (h.t.rg j hj).2 k0 k1, h.v k k0 k1, h.v _ (Int.emod_nonneg _ (by omega)) (Int.emod_lt_of_pos _ hN0), per]
    rfl⟩
  refine ⟨nzF td, ?_, nzF_tb hf, nzF_nz td⟩
  have hl : td.length ≤ 16777216 := by have := ht.len (by omega); omega
  have ed := eDc_pure (src := iDi 3) (tgt := gT 2 (gsCons (gN 4) (gsCons (gN 5) gsNil))) (cond := tB' (eOp dNe (eVar 5) (eC (.int 0)))) (kx := eVar 4) (vx := eVar 5) (vs := [4, 5])
    (δ := [.val (dictD (kd tb)), .val (.int sh), .val (.int N), .val (dictD (kd td)), sl4, sl5, sl6]) (ds := td.map DW.pairD)
    (fun d => match d with
      | .tuple [.int k, .int v] => if v = 0 then none else some (.inl k, .int v)
      | _ => none)
    (by simp -implicitDefEqProofs [r_bind, r_b1, r_b2, r_b3, r_ret, r_frz1, r_frz2, r_frz3, r_frz4, r_rd1, r_rd2, r_rs1, r_rs2, r_rs3, r_var, r_v1, r_v2, r_v3, r_v4, r_c, r_opnd, r_o1, r_o2, r_rdM, r_opt1, r_lift1, r_eOp, r_eUn, r_boolM, r_tB, r_optB, r_tru, r_and, r_or, r_not, r_bE, r_eAnd, r_eOr, r_eNot, r_eIf, r_condT, r_condF, r_aNil, r_aCons, r_rdsM, r_rdsN, r_rdsC, r_eB, r_nb1, r_nb2, r_vN, r_vC, r_tup, r_lst, r_fits, r_fits0, r_fits1, r_fits2, r_fits3, r_fits4, r_callN, r_callD, r_callM, r_call1, r_argB, r_argB1, r_argB2, r_argV, r_argN, r_back0, r_back0x, r_back1, r_back1x, r_setC, r_set1, r_set2, r_seq, r_s1, r_s2, r_s3, r_s4, r_s5, r_sNil, r_sRet, r_sRetN, r_sExpr, r_sIf, r_sBrk, r_sCont, r_asg, r_asgV, r_a1, r_a2, r_a3, r_a4, r_sFrz, r_fz1, r_fz2, r_fz3, r_raise, r_curL, r_cs1, r_cs2, r_st1, r_storeR, r_stoR, r_stoS, r_mut, r_mutR, r_mutL, r_mutS, r_pApp, r_sFor, r_forN, r_loop, r_forC, r_forR, r_l1, r_l2, r_l3, r_l4, r_l5, r_iRg, r_rg, r_iRg2, r_rg2, r_iSq, r_sq1, r_sq2, r_gN, r_fn, r_f1, r_f2, r_f3, r_f4, r_fin1, r_fin2, r_fin3, r_fin4, r_fb1, r_fb2, r_fin5, r_fin6, r_fin7, r_fc1, r_dAdd, r_dAddL, r_dSub, r_dMul, r_dMod, r_dDiv, r_dPow, r_dNeg, r_dLt, r_dLe, r_dGt, r_dGe, r_nInt, r_nIntB, r_nAbs, r_nLenL, r_nLenT, r_nLenD, r_nMax2, r_nMin2, r_ixL, r_ixT, r_nListL, r_nListT, r_nTupL, r_nDict, r_tru1, r_tru2, r_tru3, r_tru4, r_tru5, r_pExt, r_pIns, r_eqII, r_eqBB, r_neII, r_isN1, r_isN2, r_isN3, r_isN4, r_isN5, r_isN6, r_isi, r_chain, r_ch1, r_ch2, r_rdDict, r_undictD, r_key, r_get2, r_or1, r_or2, r_dix, r_dnew, r_curD, r_ce, r_valOf, r_dput, r_put, r_dictAt, r_dicS, r_eLock, r_sLock, r_lok, r_iDk, r_iDi, r_mapR, r_gT, r_tupT, r_gsN, r_gsC, r_gsR, r_aug, r_aug1, r_addI, r_while, r_sPar, r_oN, r_oS, r_part, r_eSl, r_slTo, r_slFrom, atI, ixN, env0]; exact kd_pairs td) (by simp [DW.freeOf, o4, o5]) rfl
    (fun d hd => by
      obtain ⟨p, _, rfl⟩ := List.mem_map.mp hd
      refine ⟨[.val (dictD (kd tb)), .val (.int sh), .val (.int N), .val (dictD (kd td)), .val (.int p.1), .val (.int p.2), sl6], rfl, ?_⟩
      by_cases z : p.2 = 0
      · exact .inl ⟨[.val (dictD (kd tb)), .val (.int sh), .val (.int N), .val (dictD (kd td)), .val (.int p.1), .val (.int p.2), sl6], by simp -implicitDefEqProofs [r_bind, r_b1, r_b2, r_b3, r_ret, r_frz1, r_frz2, r_frz3, r_frz4, r_rd1, r_rd2, r_rs1, r_rs2, r_rs3, r_var, r_v1, r_v2, r_v3, r_v4, r_c, r_opnd, r_o1, r_o2, r_rdM, r_opt1, r_lift1, r_eOp, r_eUn, r_boolM, r_tB, r_optB, r_tru, r_and, r_or, r_not, r_bE, r_eAnd, r_eOr, r_eNot, r_eIf, r_condT, r_condF, r_aNil, r_aCons, r_rdsM, r_rdsN, r_rdsC, r_eB, r_nb1, r_nb2, r_vN, r_vC, r_tup, r_lst, r_fits, r_fits0, r_fits1, r_fits2, r_fits3, r_fits4, r_callN, r_callD, r_callM, r_call1, r_argB, r_argB1, r_argB2, r_argV, r_argN, r_back0, r_back0x, r_back1, r_back1x, r_setC, r_set1, r_set2, r_seq, r_s1, r_s2, r_s3, r_s4, r_s5, r_sNil, r_sRet, r_sRetN, r_sExpr, r_sIf, r_sBrk, r_sCont, r_asg, r_asgV, r_a1, r_a2, r_a3, r_a4, r_sFrz, r_fz1, r_fz2, r_fz3, r_raise, r_curL, r_cs1, r_cs2, r_st1, r_storeR, r_stoR, r_stoS, r_mut, r_mutR, r_mutL, r_mutS, r_pApp, r_sFor, r_forN, r_loop, r_forC, r_forR, r_l1, r_l2, r_l3, r_l4, r_l5, r_iRg, r_rg, r_iRg2, r_rg2, r_iSq, r_sq1, r_sq2, r_gN, r_fn, r_f1, r_f2, r_f3, r_f4, r_fin1, r_fin2, r_fin3, r_fin4, r_fb1, r_fb2, r_fin5, r_fin6, r_fin7, r_fc1, r_dAdd, r_dAddL, r_dSub, r_dMul, r_dMod, r_dDiv, r_dPow, r_dNeg, r_dLt, r_dLe, r_dGt, r_dGe, r_nInt, r_nIntB, r_nAbs, r_nLenL, r_nLenT, r_nLenD, r_nMax2, r_nMin2, r_ixL, r_ixT, r_nListL, r_nListT, r_nTupL, r_nDict, r_tru1, r_tru2, r_tru3, r_tru4, r_tru5, r_pExt, r_pIns, r_eqII, r_eqBB, r_neII, r_isN1, r_isN2, r_isN3, r_isN4, r_isN5, r_isN6, r_isi, r_chain, r_ch1, r_ch2, r_rdDict, r_undictD, r_key, r_get2, r_or1, r_or2, r_dix, r_dnew, r_curD, r_ce, r_valOf, r_dput, r_put, r_dictAt, r_dicS, r_eLock, r_sLock, r_lok, r_iDk, r_iDi, r_mapR, r_gT, r_tupT, r_gsN, r_gsC, r_gsR, r_aug, r_aug1, r_addI, r_while, r_sPar, r_oN, r_oS, r_part, r_eSl, r_slTo, r_slFrom, atI, ixN, env0, z], rfl, by simp [DW.pairD, z]⟩
      · exact .inr ⟨[.val (dictD (kd tb)), .val (.int sh), .val (.int N), .val (dictD (kd td)), .val (.int p.1), .val (.int p.2), sl6], [.val (dictD (kd tb)), .val (.int sh), .val (.int N), .val (dictD (kd td)), .val (.int p.1), .val (.int p.2), sl6], [.val (dictD (kd tb)), .val (.int sh), .val (.int N), .val (dictD (kd td)), .val (.int p.1), .val (.int p.2), sl6], .int p.1, .inl p.1, .int p.2, by simp -implicitDefEqProofs [r_bind, r_b1, r_b2, r_b3, r_ret, r_frz1, r_frz2, r_frz3, r_frz4, r_rd1, r_rd2, r_rs1, r_rs2, r_rs3, r_var, r_v1, r_v2, r_v3, r_v4, r_c, r_opnd, r_o1, r_o2, r_rdM, r_opt1, r_lift1, r_eOp, r_eUn, r_boolM, r_tB, r_optB, r_tru, r_and, r_or, r_not, r_bE, r_eAnd, r_eOr, r_eNot, r_eIf, r_condT, r_condF, r_aNil, r_aCons, r_rdsM, r_rdsN, r_rdsC, r_eB, r_nb1, r_nb2, r_vN, r_vC, r_tup, r_lst, r_fits, r_fits0, r_fits1, r_fits2, r_fits3, r_fits4, r_callN, r_callD, r_callM, r_call1, r_argB, r_argB1, r_argB2, r_argV, r_argN, r_back0, r_back0x, r_back1, r_back1x, r_setC, r_set1, r_set2, r_seq, r_s1, r_s2, r_s3, r_s4, r_s5, r_sNil, r_sRet, r_sRetN, r_sExpr, r_sIf, r_sBrk, r_sCont, r_asg, r_asgV, r_a1, r_a2, r_a3, r_a4, r_sFrz, r_fz1, r_fz2, r_fz3, r_raise, r_curL, r_cs1, r_cs2, r_st1, r_storeR, r_stoR, r_stoS, r_mut, r_mutR, r_mutL, r_mutS, r_pApp, r_sFor, r_forN, r_loop, r_forC, r_forR, r_l1, r_l2, r_l3, r_l4, r_l5, r_iRg, r_rg, r_iRg2, r_rg2, r_iSq, r_sq1, r_sq2, r_gN, r_fn, r_f1, r_f2, r_f3, r_f4, r_fin1, r_fin2, r_fin3, r_fin4, r_fb1, r_fb2, r_fin5, r_fin6, r_fin7, r_fc1, r_dAdd, r_dAddL, r_dSub, r_dMul, r_dMod, r_dDiv, r_dPow, r_dNeg, r_dLt, r_dLe, r_dGt, r_dGe, r_nInt, r_nIntB, r_nAbs, r_nLenL, r_nLenT, r_nLenD, r_nMax2, r_nMin2, r_ixL, r_ixT, r_nListL, r_nListT, r_nTupL, r_nDict, r_tru1, r_tru2, r_tru3, r_tru4, r_tru5, r_pExt, r_pIns, r_eqII, r_eqBB, r_neII, r_isN1, r_isN2, r_isN3, r_isN4, r_isN5, r_isN6, r_isi, r_chain, r_ch1, r_ch2, r_rdDict, r_undictD, r_key, r_get2, r_or1, r_or2, r_dix, r_dnew, r_curD, r_ce, r_valOf, r_dput, r_put, r_dictAt, r_dicS, r_eLock, r_sLock, r_lok, r_iDk, r_iDi, r_mapR, r_gT, r_tupT, r_gsN, r_gsC, r_gsR, r_aug, r_aug1, r_addI, r_while, r_sPar, r_oN, r_oS, r_part, r_eSl, r_slTo, r_slFrom, atI, ixN, env0, z], rfl, rfl, rfl, rfl, by simp [DW.pairD, z]⟩)
    (by rw [List.length_map]; exact hl)
  rw [fm_nz td _ fun p => rfl] at ed
  have pa := putAll_kd (nzF td) [] (nzF_tb hf).t.nd
  rw [List.nil_append] at pa
  have pa : putAll [] (kd (nzF td)) = kd (nzF td) := pa
  rw [pa] at ed
  have kp := kd_pairs tb
  simp -implicitDefEqProofs [F_subtracted, r_bind, r_b1, r_b2, r_b3, r_ret, r_frz1, r_frz2, r_frz3, r_frz4, r_rd1, r_rd2, r_rs1, r_rs2, r_rs3, r_var, r_v1, r_v2, r_v3, r_v4, r_c, r_opnd, r_o1, r_o2, r_rdM, r_opt1, r_lift1, r_eOp, r_eUn, r_boolM, r_tB, r_optB, r_tru, r_and, r_or, r_not, r_bE, r_eAnd, r_eOr, r_eNot, r_eIf, r_condT, r_condF, r_aNil, r_aCons, r_rdsM, r_rdsN, r_rdsC, r_eB, r_nb1, r_nb2, r_vN, r_vC, r_tup, r_lst, r_fits, r_fits0, r_fits1, r_fits2, r_fits3, r_fits4, r_callN, r_callD, r_callM, r_call1, r_argB, r_argB1, r_argB2, r_argV, r_argN, r_back0, r_back0x, r_back1, r_back1x, r_setC, r_set1, r_set2, r_seq, r_s1, r_s2, r_s3, r_s4, r_s5, r_sNil, r_sRet, r_sRetN, r_sExpr, r_sIf, r_sBrk, r_sCont, r_asg, r_asgV, r_a1, r_a2, r_a3, r_a4, r_sFrz, r_fz1, r_fz2, r_fz3, r_raise, r_curL, r_cs1, r_cs2, r_st1, r_storeR, r_stoR, r_stoS, r_mut, r_mutR, r_mutL, r_mutS, r_pApp, r_sFor, r_forN, r_loop, r_forC, r_forR, r_l1, r_l2, r_l3, r_l4, r_l5, r_iRg, r_rg, r_iRg2, r_rg2, r_iSq, r_sq1, r_sq2, r_gN, r_fn, r_f1, r_f2, r_f3, r_f4, r_fin1, r_fin2, r_fin3, r_fin4, r_fb1, r_fb2, r_fin5, r_fin6, r_fin7, r_fc1, r_dAdd, r_dAddL, r_dSub, r_dMul, r_dMod, r_dDiv, r_dPow, r_dNeg, r_dLt, r_dLe, r_dGt, r_dGe, r_nInt, r_nIntB, r_nAbs, r_nLenL, r_nLenT, r_nLenD, r_nMax2, r_nMin2, r_ixL, r_ixT, r_nListL, r_nListT, r_nTupL, r_nDict, r_tru1, r_tru2, r_tru3, r_tru4, r_tru5, r_pExt, r_pIns, r_eqII, r_eqBB, r_neII, r_isN1, r_isN2, r_isN3, r_isN4, r_isN5, r_isN6, r_isi, r_chain, r_ch1, r_ch2, r_rdDict, r_undictD, r_key, r_get2, r_or1, r_or2, r_dix, r_dnew, r_curD, r_ce, r_valOf, r_dput, r_put, r_dictAt, r_dicS, r_eLock, r_sLock, r_lok, r_iDk, r_iDi, r_mapR, r_gT, r_tupT, r_gsN, r_gsC, r_gsR, r_aug, r_aug1, r_addI, r_while, r_sPar, r_oN, r_oS, r_part, r_eSl, r_slTo, r_slFrom, atI, ixN, env0, kp, e1, ed]
end K61

set_option Elab.async false
set_option linter.all false
set_option maxRecDepth 100000
set_option maxHeartbeats 4000000
namespace K61
open PySem PySem.Spec PyProof.Rows L2 DW
theorem mem_pt {k v : Int} {q : Int × Int} : ∀ {tb : Tab}, q ∈ ptI tb k v → q = (k, v) ∨ q ∈ tb
  | [], h => .inl (List.mem_singleton.mp h)
  | p :: r, h => by
    unfold ptI at h
    by_cases e : p.1 = k
    · rw [if_pos e] at h
      rcases List.mem_cons.mp h with z | z
      · exact .inl z
      · exact .inr (List.mem_cons_of_mem _ z)
    · rw [if_neg e] at h
      rcases List.mem_cons.mp h with z | z
      · exact .inr (by rw [z]; exact List.mem_cons_self)
      · rcases mem_pt z with y | y
        · exact .inl y
        · exact .inr (List.mem_cons_of_mem _ y)
theorem cnt_snoc (N : Int) (xs : List Int) (x k : Int) : cnt N (xs ++ [x]) k = cnt N xs k + if x % N = k % N then 1 else 0 := by
  unfold cnt
  rw [List.countP_append]
  by_cases h : x % N = k % N
  · rw [if_pos h]; simp [List.countP_cons, h]
  · rw [if_neg h]; simp [List.countP_cons, h]
theorem cnt_nn (N : Int) (xs : List Int) (k : Int) : 0 ≤ cnt N xs k := by unfold cnt; omega
def iL (xs : List Int) : D := .list (xs.map PyData.int)
theorem ePair_T (p : Nat × Nat) (δ : DW.Env) : gT 2 (gsCons (gN 4) (gsCons (gN 5) gsNil)) (ePair p) δ = some ((δ.set 4 (.val (.int p.1))).set 5 (.val (.int p.2))) := rfl
theorem folded_eq {n : Nat} (hN : 1 ≤ n) (hN2 : n ≤ 1000000) (xs : List Int) : ∃ tb ps, F_folded none [iL xs, .int n] = .ok (.ownD (kd tb)) none ∧ PR n ps ∧ TbF n tb (TT n ps (cnt n xs)) ∧ NZ tb := by
  obtain ⟨fs, ef, pr⟩ := factors_eq hN (by omega)
  have hn0 : (0 : Int) < (n : Int) := by omega
  obtain ⟨δ1, e1, td, sl3, sl6, rfl, ht, hv, hp⟩ := forL_ix (tgt := gN 3) (s := B_folded_2) (xs.map PyData.int)
    (fun i δ => ∃ (td : Tab) (sl3 sl6 : Sl), δ = [.val (iL xs), .val (.int n), .ownD (kd td), sl3, .un, .un, sl6] ∧ Tb n td ∧ (∀ k : Int, 0 ≤ k → k < (n : Int) → val td k = cnt n (xs.take i) k) ∧ ∀ p ∈ td, 0 < p.2)
    (fun δ => ∃ (td : Tab) (sl3 sl6 : Sl), δ = [.val (iL xs), .val (.int n), .ownD (kd td), sl3, .un, .un, sl6] ∧ Tb n td ∧ (∀ k : Int, 0 ≤ k → k < (n : Int) → val td k = cnt n xs k) ∧ ∀ p ∈ td, 0 < p.2)
    (fun δ ⟨td, sl3, sl6, a, b, c, d⟩ => ⟨td, sl3, sl6, a, b, by rw [List.length_map, List.take_length] at c; exact c, d⟩)
    (fun i dd δ ed ⟨td, sl3, sl6, eδ, a1, a2, a3⟩ => by
      subst eδ
      rw [List.getElem?_map] at ed
      cases eq : xs[i]? with
      | none => rw [eq] at ed; cases ed
      | some x =>
        rw [eq] at ed
        cases ed
        have tk : xs.take (i + 1) = xs.take i ++ [x] := by rw [List.take_succ, eq]; rfl
        rw [tk]
        have hn1 : 0 < n := hN
        have g0 : 0 ≤ x % (n : Int) := Int.emod_nonneg _ (by omega)
        have g1 : x % (n : Int) < (n : Int) := Int.emod_lt_of_pos _ hn0
        have hl : (kd td).length < 16777216 := by have := a1.len (by omega); rw [kd_len]; omega
        have pk := put_kd (x % (n : Int)) (val td (x % (n : Int)) + 1) td a1.nd
        refine ⟨_, [.val (iL xs), .val (.int n), .ownD (kd (ptI td (x % (n : Int)) (val td (x % (n : Int)) + 1))), .val (.int x), .un, .un, .val (.int (x % (n : Int)))], rfl,
          .inl ⟨.inl ?_, _, _, _, rfl, a1.put _ g0 g1, fun k k0 k1 => ?_, fun p hp => ?_⟩⟩
        · simp -implicitDefEqProofs [B_folded_2, r_bind, r_b1, r_b2, r_b3, r_ret, r_frz1, r_frz2, r_frz3, r_frz4, r_rd1, r_rd2, r_rs1, r_rs2, r_rs3, r_var, r_v1, r_v2, r_v3, r_v4, r_c, r_opnd, r_o1, r_o2, r_rdM, r_opt1, r_lift1, r_eOp, r_eUn, r_boolM, r_tB, r_optB, r_tru, r_and, r_or, r_not, r_bE, r_eAnd, r_eOr, r_eNot, r_eIf, r_condT, r_condF, r_aNil, r_aCons, r_rdsM, r_rdsN, r_rdsC, r_eB, r_nb1, r_nb2, r_vN, r_vC, r_tup, r_lst, r_fits, r_fits0, r_fits1, r_fits2, r_fits3, r_fits4, r_callN, r_callD, r_callM, r_call1, r_argB, r_argB1, r_argB2, r_argV, r_argN, r_back0, r_back0x, r_back1, r_back1x, r_setC, r_set1, r_set2, r_seq, r_s1, r_s2, r_s3, r_s4, r_s5, r_sNil, r_sRet, r_sRetN, r_sExpr, r_sIf, r_sBrk, r_sCont, r_asg, r_asgV, r_a1, r_a2, r_a3, r_a4, r_sFrz, r_fz1, r_fz2, r_fz3, r_raise, r_curL, r_cs1, r_cs2, r_st1, r_storeR, r_stoR, r_stoS, r_mut, r_mutR, r_mutL, r_mutS, r_pApp, r_sFor, r_forN, r_loop, r_forC, r_forR, r_l1, r_l2, r_l3, r_l4, r_l5, r_iRg, r_rg, r_iRg2, r_rg2, r_iSq, r_sq1, r_sq2, r_gN, r_fn, r_f1, r_f2, r_f3, r_f4, r_fin1, r_fin2, r_fin3, r_fin4, r_fb1, r_fb2, r_fin5, r_fin6, r_fin7, r_fc1, r_dAdd, r_dAddL, r_dSub, r_dMul, r_dMod, r_dDiv, r_dPow, r_dNeg, r_dLt, r_dLe, r_dGt, r_dGe, r_nInt, r_nIntB, r_nAbs, r_nLenL, r_nLenT, r_nLenD, r_nMax2, r_nMin2, r_ixL, r_ixT, r_nListL, r_nListT, r_nTupL, r_nDict, r_tru1, r_tru2, r_tru3, r_tru4, r_tru5, r_pExt, r_pIns, r_eqII, r_eqBB, r_neII, r_isN1, r_isN2, r_isN3, r_isN4, r_isN5, r_isN6, r_isi, r_chain, r_ch1, r_ch2, r_rdDict, r_undictD, r_key, r_get2, r_or1, r_or2, r_dix, r_dnew, r_curD, r_ce, r_valOf, r_dput, r_put, r_dictAt, r_dicS, r_eLock, r_sLock, r_lok, r_iDk, r_iDi, r_mapR, r_gT, r_tupT, r_gsN, r_gsC, r_gsR, r_aug, r_aug1, r_addI, r_while, r_sPar, r_oN, r_oS, r_part, r_eSl, r_slTo, r_slFrom, atI, ixN, env0, hn1, look_kd, r_gt0, hl, pk]
        · rw [val_pt, cnt_snoc, Int.emod_eq_of_lt k0 k1, a2 k k0 k1]
          by_cases e : k = x % (n : Int)
          · rw [if_pos e, if_pos e.symm, ← e, a2 k k0 k1]
          · rw [if_neg e, if_neg fun z => e z.symm]; omega
        · rcases mem_pt hp with e | e
          · subst e
            have := cnt_nn n (xs.take i) (x % (n : Int))
            rw [← a2 _ g0 g1] at this
            show 0 < val td (x % (n : Int)) + 1
            omega
          · exact a3 p e)
    [.val (iL xs), .val (.int n), .ownD (kd []), .un, .un, .un, .un] ⟨[], .un, .un, rfl, ⟨List.nodup_nil, fun k hk => by simp [keys] at hk⟩, fun k _ _ => rfl, fun p hp => by simp at hp⟩
  have t0 : TbF n td (cnt n xs) := ⟨ht, hv⟩
  have nz0 : NZ td := fun p hp' => by have := hp p hp'; omega
  obtain ⟨δ2, e2, tb, s3, s4, s5, s6, rfl, ht2, nz2⟩ := forL_ix (tgt := gT 2 (gsCons (gN 4) (gsCons (gN 5) gsNil))) (s := B_folded_1) (fs.map ePair)
    (fun i δ => ∃ (tb : Tab) (s3 s4 s5 s6 : Sl), δ = [.val (iL xs), .val (.int n), .ownD (kd tb), s3, s4, s5, s6] ∧ TbF n tb (TT n ((fs.map (·.1)).take i) (cnt n xs)) ∧ NZ tb)
    (fun δ => ∃ (tb : Tab) (s3 s4 s5 s6 : Sl), δ = [.val (iL xs), .val (.int n), .ownD (kd tb), s3, s4, s5, s6] ∧ TbF n tb (TT n (fs.map (·.1)) (cnt n xs)) ∧ NZ tb)
    (fun δ ⟨tb, s3, s4, s5, s6, a, b, c⟩ => ⟨tb, s3, s4, s5, s6, a, by
      rw [List.length_map, ← List.length_map (f := fun p : Nat × Nat => p.1) (as := fs), List.take_length] at b; exact b, c⟩)
    (fun i dd δ ed ⟨tb, s3, s4, s5, s6, eδ, a1, a2⟩ => by
      subst eδ
      rw [List.getElem?_map] at ed
      cases eq : fs[i]? with
      | none => rw [eq] at ed; cases ed
      | some p =>
        rw [eq] at ed
        cases ed
        have ep : (fs.map fun p : Nat × Nat => p.1)[i]? = some p.1 := by rw [List.getElem?_map, eq]; rfl
        have hp := (pr.mem p.1).mp (List.mem_of_getElem? ep)
        have hp1 := hp.1.1
        have hp2 := Nat.le_of_dvd (by omega) hp.2
        have d1 : divC n p.1 = true := divC_lt (a := 40) (by omega) (by omega) (by decide)
        obtain ⟨tb', e3, t3, n3⟩ := subtracted_eq (N := n) (sh := (n : Int) / (p.1 : Int)) (by omega) (by omega) a1 (TT_per (cnt_per _ _))
        have tk : (fs.map fun p : Nat × Nat => p.1).take (i + 1) = (fs.map fun p : Nat × Nat => p.1).take i ++ [p.1] := by rw [List.take_succ, ep]; rfl
        have tt : TT n ((fs.map fun p : Nat × Nat => p.1).take (i + 1)) (cnt n xs) = Dl ((n : Int) / (p.1 : Int)) (TT n ((fs.map fun p : Nat × Nat => p.1).take i) (cnt n xs)) := by
          rw [tk]; unfold TT; rw [List.foldl_append]; rfl
        refine ⟨_, [.val (iL xs), .val (.int n), .ownD (kd tb'), s3, .val (.int p.1), .val (.int p.2), s6], ePair_T p _, .inl ⟨.inl ?_, tb', _, _, _, _, rfl, by rw [tt]; exact t3, n3⟩⟩
        generalize ((p.1 : Nat) : Int) = z at d1 e3
        simp -implicitDefEqProofs [B_folded_1, r_bind, r_b1, r_b2, r_b3, r_ret, r_frz1, r_frz2, r_frz3, r_frz4, r_rd1, r_rd2, r_rs1, r_rs2, r_rs3, r_var, r_v1, r_v2, r_v3, r_v4, r_c, r_opnd, r_o1, r_o2, r_rdM, r_opt1, r_lift1, r_eOp, r_eUn, r_boolM, r_tB, r_optB, r_tru, r_and, r_or, r_not, r_bE, r_eAnd, r_eOr, r_eNot, r_eIf, r_condT, r_condF, r_aNil, r_aCons, r_rdsM, r_rdsN, r_rdsC, r_eB, r_nb1, r_nb2, r_vN, r_vC, r_tup, r_lst, r_fits, r_fits0, r_fits1, r_fits2, r_fits3, r_fits4, r_callN, r_callD, r_callM, r_call1, r_argB, r_argB1, r_argB2, r_argV, r_argN, r_back0, r_back0x, r_back1, r_back1x, r_setC, r_set1, r_set2, r_seq, r_s1, r_s2, r_s3, r_s4, r_s5, r_sNil, r_sRet, r_sRetN, r_sExpr, r_sIf, r_sBrk, r_sCont, r_asg, r_asgV, r_a1, r_a2, r_a3, r_a4, r_sFrz, r_fz1, r_fz2, r_fz3, r_raise, r_curL, r_cs1, r_cs2, r_st1, r_storeR, r_stoR, r_stoS, r_mut, r_mutR, r_mutL, r_mutS, r_pApp, r_sFor, r_forN, r_loop, r_forC, r_forR, r_l1, r_l2, r_l3, r_l4, r_l5, r_iRg, r_rg, r_iRg2, r_rg2, r_iSq, r_sq1, r_sq2, r_gN, r_fn, r_f1, r_f2, r_f3, r_f4, r_fin1, r_fin2, r_fin3, r_fin4, r_fb1, r_fb2, r_fin5, r_fin6, r_fin7, r_fc1, r_dAdd, r_dAddL, r_dSub, r_dMul, r_dMod, r_dDiv, r_dPow, r_dNeg, r_dLt, r_dLe, r_dGt, r_dGe, r_nInt, r_nIntB, r_nAbs, r_nLenL, r_nLenT, r_nLenD, r_nMax2, r_nMin2, r_ixL, r_ixT, r_nListL, r_nListT, r_nTupL, r_nDict, r_tru1, r_tru2, r_tru3, r_tru4, r_tru5, r_pExt, r_pIns, r_eqII, r_eqBB, r_neII, r_isN1, r_isN2, r_isN3, r_isN4, r_isN5, r_isN6, r_isi, r_chain, r_ch1, r_ch2, r_rdDict, r_undictD, r_key, r_get2, r_or1, r_or2, r_dix, r_dnew, r_curD, r_ce, r_valOf, r_dput, r_put, r_dictAt, r_dicS, r_eLock, r_sLock, r_lok, r_iDk, r_iDi, r_mapR, r_gT, r_tupT, r_gsN, r_gsC, r_gsR, r_aug, r_aug1, r_addI, r_while, r_sPar, r_oN, r_oS, r_part, r_eSl, r_slTo, r_slFrom, atI, ixN, env0, d1, e3])
    [.val (iL xs), .val (.int n), .ownD (kd td), sl3, .un, .un, sl6] ⟨td, sl3, .un, .un, sl6, rfl, t0, nz0⟩
  refine ⟨tb, fs.map (·.1), ?_, pr, ht2, nz2⟩
  unfold iL at e1 e2
  have e1 : forL (gN 3) B_folded_2 (xs.map PyData.int) [.val (.list (xs.map PyData.int)), .val (.int n), .ownD [], .un, .un, .un, .un] = _ := e1
  simp -implicitDefEqProofs [F_folded, r_bind, r_b1, r_b2, r_b3, r_ret, r_frz1, r_frz2, r_frz3, r_frz4, r_rd1, r_rd2, r_rs1, r_rs2, r_rs3, r_var, r_v1, r_v2, r_v3, r_v4, r_c, r_opnd, r_o1, r_o2, r_rdM, r_opt1, r_lift1, r_eOp, r_eUn, r_boolM, r_tB, r_optB, r_tru, r_and, r_or, r_not, r_bE, r_eAnd, r_eOr, r_eNot, r_eIf, r_condT, r_condF, r_aNil, r_aCons, r_rdsM, r_rdsN, r_rdsC, r_eB, r_nb1, r_nb2, r_vN, r_vC, r_tup, r_lst, r_fits, r_fits0, r_fits1, r_fits2, r_fits3, r_fits4, r_callN, r_callD, r_callM, r_call1, r_argB, r_argB1, r_argB2, r_argV, r_argN, r_back0, r_back0x, r_back1, r_back1x, r_setC, r_set1, r_set2, r_seq, r_s1, r_s2, r_s3, r_s4, r_s5, r_sNil, r_sRet, r_sRetN, r_sExpr, r_sIf, r_sBrk, r_sCont, r_asg, r_asgV, r_a1, r_a2, r_a3, r_a4, r_sFrz, r_fz1, r_fz2, r_fz3, r_raise, r_curL, r_cs1, r_cs2, r_st1, r_storeR, r_stoR, r_stoS, r_mut, r_mutR, r_mutL, r_mutS, r_pApp, r_sFor, r_forN, r_loop, r_forC, r_forR, r_l1, r_l2, r_l3, r_l4, r_l5, r_iRg, r_rg, r_iRg2, r_rg2, r_iSq, r_sq1, r_sq2, r_gN, r_fn, r_f1, r_f2, r_f3, r_f4, r_fin1, r_fin2, r_fin3, r_fin4, r_fb1, r_fb2, r_fin5, r_fin6, r_fin7, r_fc1, r_dAdd, r_dAddL, r_dSub, r_dMul, r_dMod, r_dDiv, r_dPow, r_dNeg, r_dLt, r_dLe, r_dGt, r_dGe, r_nInt, r_nIntB, r_nAbs, r_nLenL, r_nLenT, r_nLenD, r_nMax2, r_nMin2, r_ixL, r_ixT, r_nListL, r_nListT, r_nTupL, r_nDict, r_tru1, r_tru2, r_tru3, r_tru4, r_tru5, r_pExt, r_pIns, r_eqII, r_eqBB, r_neII, r_isN1, r_isN2, r_isN3, r_isN4, r_isN5, r_isN6, r_isi, r_chain, r_ch1, r_ch2, r_rdDict, r_undictD, r_key, r_get2, r_or1, r_or2, r_dix, r_dnew, r_curD, r_ce, r_valOf, r_dput, r_put, r_dictAt, r_dicS, r_eLock, r_sLock, r_lok, r_iDk, r_iDi, r_mapR, r_gT, r_tupT, r_gsN, r_gsC, r_gsR, r_aug, r_aug1, r_addI, r_while, r_sPar, r_oN, r_oS, r_part, r_eSl, r_slTo, r_slFrom, atI, ixN, env0, iL, e1, ef, e2]
end K61

set_option Elab.async false
set_option linter.all false
set_option maxRecDepth 100000
set_option maxHeartbeats 4000000
namespace K61
open PySem PySem.Spec PyProof.Rows L2 DW
def okR (d : D) : Bool := inR (-MOST) MOST d
theorem num0_eq (v : D) : F_is_number none [v, .int (-1000000000000000000000000000000000000000000000000000000000000), .int 1000000000000000000000000000000000000000000000000000000000000] = .ok (.val (.bool (okR v))) none := number_eq v (lo := -MOST) (hi := MOST) (by decide) (by decide)
theorem chk_loop (v : D) : ∀ (ds : List D) (sl : Sl), (ds.all okR = true → ∃ sl', forL (gN 1) B_check_readings_1 ds [.val v, sl] = .ok .nx [.val v, sl']) ∧ (ds.all okR = false → ∃ δ', forL (gN 1) B_check_readings_1 ds [.val v, sl] = .ex badN δ')
  | [], sl => ⟨fun _ => ⟨sl, rfl⟩, fun h => by simp at h⟩
  | d :: ds, sl => by
    obtain ⟨i1, i2⟩ := chk_loop v ds (.val d)
    have e := num0_eq d
    rw [List.all_cons]
    cases hd : okR d with
    | true =>
      rw [hd] at e
      have st : forL (gN 1) B_check_readings_1 (d :: ds) [.val v, sl] = forL (gN 1) B_check_readings_1 ds [.val v, .val d] := by
        rw [r_forC, r_gN, r_forR]
        simp -implicitDefEqProofs [B_check_readings_1, r_bind, r_b1, r_b2, r_b3, r_ret, r_frz1, r_frz2, r_frz3, r_frz4, r_rd1, r_rd2, r_rs1, r_rs2, r_rs3, r_var, r_v1, r_v2, r_v3, r_v4, r_c, r_opnd, r_o1, r_o2, r_rdM, r_opt1, r_lift1, r_eOp, r_eUn, r_boolM, r_tB, r_optB, r_tru, r_and, r_or, r_not, r_bE, r_eAnd, r_eOr, r_eNot, r_eIf, r_condT, r_condF, r_aNil, r_aCons, r_rdsM, r_rdsN, r_rdsC, r_eB, r_nb1, r_nb2, r_vN, r_vC, r_tup, r_lst, r_fits, r_fits0, r_fits1, r_fits2, r_fits3, r_fits4, r_callN, r_callD, r_callM, r_call1, r_argB, r_argB1, r_argB2, r_argV, r_argN, r_back0, r_back0x, r_back1, r_back1x, r_setC, r_set1, r_set2, r_seq, r_s1, r_s2, r_s3, r_s4, r_s5, r_sNil, r_sRet, r_sRetN, r_sExpr, r_sIf, r_sBrk, r_sCont, r_asg, r_asgV, r_a1, r_a2, r_a3, r_a4, r_sFrz, r_fz1, r_fz2, r_fz3, r_raise, r_curL, r_cs1, r_cs2, r_st1, r_storeR, r_stoR, r_stoS, r_mut, r_mutR, r_mutL, r_mutS, r_pApp, r_sFor, r_forN, r_loop, r_forC, r_forR, r_l1, r_l2, r_l3, r_l4, r_l5, r_iRg, r_rg, r_iRg2, r_rg2, r_iSq, r_sq1, r_sq2, r_gN, r_fn, r_f1, r_f2, r_f3, r_f4, r_fin1, r_fin2, r_fin3, r_fin4, r_fb1, r_fb2, r_fin5, r_fin6, r_fin7, r_fc1, r_dAdd, r_dAddL, r_dSub, r_dMul, r_dMod, r_dDiv, r_dPow, r_dNeg, r_dLt, r_dLe, r_dGt, r_dGe, r_nInt, r_nIntB, r_nAbs, r_nLenL, r_nLenT, r_nLenD, r_nMax2, r_nMin2, r_ixL, r_ixT, r_nListL, r_nListT, r_nTupL, r_nDict, r_tru1, r_tru2, r_tru3, r_tru4, r_tru5, r_pExt, r_pIns, r_eqII, r_eqBB, r_neII, r_isN1, r_isN2, r_isN3, r_isN4, r_isN5, r_isN6, r_isi, r_chain, r_ch1, r_ch2, r_rdDict, r_undictD, r_key, r_get2, r_or1, r_or2, r_dix, r_dnew, r_curD, r_ce, r_valOf, r_dput, r_put, r_dictAt, r_dicS, r_eLock, r_sLock, r_lok, r_iDk, r_iDi, r_mapR, r_gT, r_tupT, r_gsN, r_gsC, r_gsR, r_aug, r_aug1, r_addI, r_while, r_sPar, r_oN, r_oS, r_part, r_eSl, r_slTo, r_slFrom, atI, ixN, env0, e]
      rw [st, Bool.true_and]
      exact ⟨i1, i2⟩
    | false =>
      rw [hd] at e
      refine ⟨fun h => by simp at h, fun _ => ⟨[.val v, .val d], ?_⟩⟩
      rw [r_forC, r_gN, r_forR]
      simp -implicitDefEqProofs [B_check_readings_1, r_bind, r_b1, r_b2, r_b3, r_ret, r_frz1, r_frz2, r_frz3, r_frz4, r_rd1, r_rd2, r_rs1, r_rs2, r_rs3, r_var, r_v1, r_v2, r_v3, r_v4, r_c, r_opnd, r_o1, r_o2, r_rdM, r_opt1, r_lift1, r_eOp, r_eUn, r_boolM, r_tB, r_optB, r_tru, r_and, r_or, r_not, r_bE, r_eAnd, r_eOr, r_eNot, r_eIf, r_condT, r_condF, r_aNil, r_aCons, r_rdsM, r_rdsN, r_rdsC, r_eB, r_nb1, r_nb2, r_vN, r_vC, r_tup, r_lst, r_fits, r_fits0, r_fits1, r_fits2, r_fits3, r_fits4, r_callN, r_callD, r_callM, r_call1, r_argB, r_argB1, r_argB2, r_argV, r_argN, r_back0, r_back0x, r_back1, r_back1x, r_setC, r_set1, r_set2, r_seq, r_s1, r_s2, r_s3, r_s4, r_s5, r_sNil, r_sRet, r_sRetN, r_sExpr, r_sIf, r_sBrk, r_sCont, r_asg, r_asgV, r_a1, r_a2, r_a3, r_a4, r_sFrz, r_fz1, r_fz2, r_fz3, r_raise, r_curL, r_cs1, r_cs2, r_st1, r_storeR, r_stoR, r_stoS, r_mut, r_mutR, r_mutL, r_mutS, r_pApp, r_sFor, r_forN, r_loop, r_forC, r_forR, r_l1, r_l2, r_l3, r_l4, r_l5, r_iRg, r_rg, r_iRg2, r_rg2, r_iSq, r_sq1, r_sq2, r_gN, r_fn, r_f1, r_f2, r_f3, r_f4, r_fin1, r_fin2, r_fin3, r_fin4, r_fb1, r_fb2, r_fin5, r_fin6, r_fin7, r_fc1, r_dAdd, r_dAddL, r_dSub, r_dMul, r_dMod, r_dDiv, r_dPow, r_dNeg, r_dLt, r_dLe, r_dGt, r_dGe, r_nInt, r_nIntB, r_nAbs, r_nLenL, r_nLenT, r_nLenD, r_nMax2, r_nMin2, r_ixL, r_ixT, r_nListL, r_nListT, r_nTupL, r_nDict, r_tru1, r_tru2, r_tru3, r_tru4, r_tru5, r_pExt, r_pIns, r_eqII, r_eqBB, r_neII, r_isN1, r_isN2, r_isN3, r_isN4, r_isN5, r_isN6, r_isi, r_chain, r_ch1, r_ch2, r_rdDict, r_undictD, r_key, r_get2, r_or1, r_or2, r_dix, r_dnew, r_curD, r_ce, r_valOf, r_dput, r_put, r_dictAt, r_dicS, r_eLock, r_sLock, r_lok, r_iDk, r_iDi, r_mapR, r_gT, r_tupT, r_gsN, r_gsC, r_gsR, r_aug, r_aug1, r_addI, r_while, r_sPar, r_oN, r_oS, r_part, r_eSl, r_slTo, r_slFrom, atI, ixN, env0, e, badN]
/-- readings as the program takes them -/
def okL : D → Bool
  | .list ds => decide (ds.length ≤ 400) && ds.all okR
  | _ => false
theorem chk_good {ds : List D} (h : okL (.list ds) = true) : F_check_readings none [.list ds] = .ok (.val .none) none := by
  obtain ⟨h1, h2⟩ := (Bool.and_eq_true _ _ ▸ (show (decide (ds.length ≤ 400) && ds.all okR) = true from h) : _ ∧ _)
  have h1 := of_decide_eq_true h1
  have h3 : ¬ (400 : Int) < (ds.length : Int) := by omega
  obtain ⟨sl', e⟩ := (chk_loop (.list ds) ds .un).1 h2
  have ty : isTy "list" (.list ds) = true := rfl
  simp -implicitDefEqProofs [F_check_readings, r_bind, r_b1, r_b2, r_b3, r_ret, r_frz1, r_frz2, r_frz3, r_frz4, r_rd1, r_rd2, r_rs1, r_rs2, r_rs3, r_var, r_v1, r_v2, r_v3, r_v4, r_c, r_opnd, r_o1, r_o2, r_rdM, r_opt1, r_lift1, r_eOp, r_eUn, r_boolM, r_tB, r_optB, r_tru, r_and, r_or, r_not, r_bE, r_eAnd, r_eOr, r_eNot, r_eIf, r_condT, r_condF, r_aNil, r_aCons, r_rdsM, r_rdsN, r_rdsC, r_eB, r_nb1, r_nb2, r_vN, r_vC, r_tup, r_lst, r_fits, r_fits0, r_fits1, r_fits2, r_fits3, r_fits4, r_callN, r_callD, r_callM, r_call1, r_argB, r_argB1, r_argB2, r_argV, r_argN, r_back0, r_back0x, r_back1, r_back1x, r_setC, r_set1, r_set2, r_seq, r_s1, r_s2, r_s3, r_s4, r_s5, r_sNil, r_sRet, r_sRetN, r_sExpr, r_sIf, r_sBrk, r_sCont, r_asg, r_asgV, r_a1, r_a2, r_a3, r_a4, r_sFrz, r_fz1, r_fz2, r_fz3, r_raise, r_curL, r_cs1, r_cs2, r_st1, r_storeR, r_stoR, r_stoS, r_mut, r_mutR, r_mutL, r_mutS, r_pApp, r_sFor, r_forN, r_loop, r_forC, r_forR, r_l1, r_l2, r_l3, r_l4, r_l5, r_iRg, r_rg, r_iRg2, r_rg2, r_iSq, r_sq1, r_sq2, r_gN, r_fn, r_f1, r_f2, r_f3, r_f4, r_fin1, r_fin2, r_fin3, r_fin4, r_fb1, r_fb2, r_fin5, r_fin6, r_fin7, r_fc1, r_dAdd, r_dAddL, r_dSub, r_dMul, r_dMod, r_dDiv, r_dPow, r_dNeg, r_dLt, r_dLe, r_dGt, r_dGe, r_nInt, r_nIntB, r_nAbs, r_nLenL, r_nLenT, r_nLenD, r_nMax2, r_nMin2, r_ixL, r_ixT, r_nListL, r_nListT, r_nTupL, r_nDict, r_tru1, r_tru2, r_tru3, r_tru4, r_tru5, r_pExt, r_pIns, r_eqII, r_eqBB, r_neII, r_isN1, r_isN2, r_isN3, r_isN4, r_isN5, r_isN6, r_isi, r_chain, r_ch1, r_ch2, r_rdDict, r_undictD, r_key, r_get2, r_or1, r_or2, r_dix, r_dnew, r_curD, r_ce, r_valOf, r_dput, r_put, r_dictAt, r_dicS, r_eLock, r_sLock, r_lok, r_iDk, r_iDi, r_mapR, r_gT, r_tupT, r_gsN, r_gsC, r_gsR, r_aug, r_aug1, r_addI, r_while, r_sPar, r_oN, r_oS, r_part, r_eSl, r_slTo, r_slFrom, atI, ixN, env0, ty, h3, e]
theorem chk_bad {v : D} (h : okL v = false) : F_check_readings none [v] = .ex badN none := by
  cases v with
  | list ds =>
    have ty : isTy "list" (.list ds) = true := rfl
    by_cases h1 : ds.length ≤ 400
    · have h3 : ¬ (400 : Int) < (ds.length : Int) := by omega
      have h : (decide (ds.length ≤ 400) && ds.all okR) = false := h
      rw [decide_eq_true h1, Bool.true_and] at h
      obtain ⟨δ', e⟩ := (chk_loop (.list ds) ds .un).2 h
      simp -implicitDefEqProofs [F_check_readings, r_bind, r_b1, r_b2, r_b3, r_ret, r_frz1, r_frz2, r_frz3, r_frz4, r_rd1, r_rd2, r_rs1, r_rs2, r_rs3, r_var, r_v1, r_v2, r_v3, r_v4, r_c, r_opnd, r_o1, r_o2, r_rdM, r_opt1, r_lift1, r_eOp, r_eUn, r_boolM, r_tB, r_optB, r_tru, r_and, r_or, r_not, r_bE, r_eAnd, r_eOr, r_eNot, r_eIf, r_condT, r_condF, r_aNil, r_aCons, r_rdsM, r_rdsN, r_rdsC, r_eB, r_nb1, r_nb2, r_vN, r_vC, r_tup, r_lst, r_fits, r_fits0, r_fits1, r_fits2, r_fits3, r_fits4, r_callN, r_callD, r_callM, r_call1, r_argB, r_argB1, r_argB2, r_argV, r_argN, r_back0, r_back0x, r_back1, r_back1x, r_setC, r_set1, r_set2, r_seq, r_s1, r_s2, r_s3, r_s4, r_s5, r_sNil, r_sRet, r_sRetN, r_sExpr, r_sIf, r_sBrk, r_sCont, r_asg, r_asgV, r_a1, r_a2, r_a3, r_a4, r_sFrz, r_fz1, r_fz2, r_fz3, r_raise, r_curL, r_cs1, r_cs2, r_st1, r_storeR, r_stoR, r_stoS, r_mut, r_mutR, r_mutL, r_mutS, r_pApp, r_sFor, r_forN, r_loop, r_forC, r_forR, r_l1, r_l2, r_l3, r_l4, r_l5, r_iRg, r_rg, r_iRg2, r_rg2, r_iSq, r_sq1, r_sq2, r_gN, r_fn, r_f1, r_f2, r_f3, r_f4, r_fin1, r_fin2, r_fin3, r_fin4, r_fb1, r_fb2, r_fin5, r_fin6, r_fin7, r_fc1, r_dAdd, r_dAddL, r_dSub, r_dMul, r_dMod, r_dDiv, r_dPow, r_dNeg, r_dLt, r_dLe, r_dGt, r_dGe, r_nInt, r_nIntB, r_nAbs, r_nLenL, r_nLenT, r_nLenD, r_nMax2, r_nMin2, r_ixL, r_ixT, r_nListL, r_nListT, r_nTupL, r_nDict, r_tru1, r_tru2, r_tru3, r_tru4, r_tru5, r_pExt, r_pIns, r_eqII, r_eqBB, r_neII, r_isN1, r_isN2, r_isN3, r_isN4, r_isN5, r_isN6, r_isi, r_chain, r_ch1, r_ch2, r_rdDict, r_undictD, r_key, r_get2, r_or1, r_or2, r_dix, r_dnew, r_curD, r_ce, r_valOf, r_dput, r_put, r_dictAt, r_dicS, r_eLock, r_sLock, r_lok, r_iDk, r_iDi, r_mapR, r_gT, r_tupT, r_gsN, r_gsC, r_gsR, r_aug, r_aug1, r_addI, r_while, r_sPar, r_oN, r_oS, r_part, r_eSl, r_slTo, r_slFrom, atI, ixN, env0, ty, h3, e]
    · have h3 : (400 : Int) < (ds.length : Int) := by omega
      simp -implicitDefEqProofs [F_check_readings, r_bind, r_b1, r_b2, r_b3, r_ret, r_frz1, r_frz2, r_frz3, r_frz4, r_rd1, r_rd2, r_rs1, r_rs2, r_rs3, r_var, r_v1, r_v2, r_v3, r_v4, r_c, r_opnd, r_o1, r_o2, r_rdM, r_opt1, r_lift1, r_eOp, r_eUn, r_boolM, r_tB, r_optB, r_tru, r_and, r_or, r_not, r_bE, r_eAnd, r_eOr, r_eNot, r_eIf, r_condT, r_condF, r_aNil, r_aCons, r_rdsM, r_rdsN, r_rdsC, r_eB, r_nb1, r_nb2, r_vN, r_vC, r_tup, r_lst, r_fits, r_fits0, r_fits1, r_fits2, r_fits3, r_fits4, r_callN, r_callD, r_callM, r_call1, r_argB, r_argB1, r_argB2, r_argV, r_argN, r_back0, r_back0x, r_back1, r_back1x, r_setC, r_set1, r_set2, r_seq, r_s1, r_s2, r_s3, r_s4, r_s5, r_sNil, r_sRet, r_sRetN, r_sExpr, r_sIf, r_sBrk, r_sCont, r_asg, r_asgV, r_a1, r_a2, r_a3, r_a4, r_sFrz, r_fz1, r_fz2, r_fz3, r_raise, r_curL, r_cs1, r_cs2, r_st1, r_storeR, r_stoR, r_stoS, r_mut, r_mutR, r_mutL, r_mutS, r_pApp, r_sFor, r_forN, r_loop, r_forC, r_forR, r_l1, r_l2, r_l3, r_l4, r_l5, r_iRg, r_rg, r_iRg2, r_rg2, r_iSq, r_sq1, r_sq2, r_gN, r_fn, r_f1, r_f2, r_f3, r_f4, r_fin1, r_fin2, r_fin3, r_fin4, r_fb1, r_fb2, r_fin5, r_fin6, r_fin7, r_fc1, r_dAdd, r_dAddL, r_dSub, r_dMul, r_dMod, r_dDiv, r_dPow, r_dNeg, r_dLt, r_dLe, r_dGt, r_dGe, r_nInt, r_nIntB, r_nAbs, r_nLenL, r_nLenT, r_nLenD, r_nMax2, r_nMin2, r_ixL, r_ixT, r_nListL, r_nListT, r_nTupL, r_nDict, r_tru1, r_tru2, r_tru3, r_tru4, r_tru5, r_pExt, r_pIns, r_eqII, r_eqBB, r_neII, r_isN1, r_isN2, r_isN3, r_isN4, r_isN5, r_isN6, r_isi, r_chain, r_ch1, r_ch2, r_rdDict, r_undictD, r_key, r_get2, r_or1, r_or2, r_dix, r_dnew, r_curD, r_ce, r_valOf, r_dput, r_put, r_dictAt, r_dicS, r_eLock, r_sLock, r_lok, r_iDk, r_iDi, r_mapR, r_gT, r_tupT, r_gsN, r_gsC, r_gsR, r_aug, r_aug1, r_addI, r_while, r_sPar, r_oN, r_oS, r_part, r_eSl, r_slTo, r_slFrom, atI, ixN, env0, ty, h3, badN]
  | none => (have ty : isTy "list" .none = false := by decide); simp -implicitDefEqProofs [F_check_readings, r_bind, r_b1, r_b2, r_b3, r_ret, r_frz1, r_frz2, r_frz3, r_frz4, r_rd1, r_rd2, r_rs1, r_rs2, r_rs3, r_var, r_v1, r_v2, r_v3, r_v4, r_c, r_opnd, r_o1, r_o2, r_rdM, r_opt1, r_lift1, r_eOp, r_eUn, r_boolM, r_tB, r_optB, r_tru, r_and, r_or, r_not, r_bE, r_eAnd, r_eOr, r_eNot, r_eIf, r_condT, r_condF, r_aNil, r_aCons, r_rdsM, r_rdsN, r_rdsC, r_eB, r_nb1, r_nb2, r_vN, r_vC, r_tup, r_lst, r_fits, r_fits0, r_fits1, r_fits2, r_fits3, r_fits4, r_callN, r_callD, r_callM, r_call1, r_argB, r_argB1, r_argB2, r_argV, r_argN, r_back0, r_back0x, r_back1, r_back1x, r_setC, r_set1, r_set2, r_seq, r_s1, r_s2, r_s3, r_s4, r_s5, r_sNil, r_sRet, r_sRetN, r_sExpr, r_sIf, r_sBrk, r_sCont, r_asg, r_asgV, r_a1, r_a2, r_a3, r_a4, r_sFrz, r_fz1, r_fz2, r_fz3, r_raise, r_curL, r_cs1, r_cs2, r_st1, r_storeR, r_stoR, r_stoS, r_mut, r_mutR, r_mutL, r_mutS, r_pApp, r_sFor, r_forN, r_loop, r_forC, r_forR, r_l1, r_l2, r_l3, r_l4, r_l5, r_iRg, r_rg, r_iRg2, r_rg2, r_iSq, r_sq1, r_sq2, r_gN, r_fn, r_f1, r_f2, r_f3, r_f4, r_fin1, r_fin2, r_fin3, r_fin4, r_fb1, r_fb2, r_fin5, r_fin6, r_fin7, r_fc1, r_dAdd, r_dAddL, r_dSub, r_dMul, r_dMod, r_dDiv, r_dPow, r_dNeg, r_dLt, r_dLe, r_dGt, r_dGe, r_nInt, r_nIntB, r_nAbs, r_nLenL, r_nLenT, r_nLenD, r_nMax2, r_nMin2, r_ixL, r_ixT, r_nListL, r_nListT, r_nTupL, r_nDict, r_tru1, r_tru2, r_tru3, r_tru4, r_tru5, r_pExt, r_pIns, r_eqII, r_eqBB, r_neII, r_isN1, r_isN2, r_isN3, r_isN4, r_isN5, r_isN6, r_isi, r_chain, r_ch1, r_ch2, r_rdDict, r_undictD, r_key, r_get2, r_or1, r_or2, r_dix, r_dnew, r_curD, r_ce, r_valOf, r_dput, r_put, r_dictAt, r_dicS, r_eLock, r_sLock, r_lok, r_iDk, r_iDi, r_mapR, r_gT, r_tupT, r_gsN, r_gsC, r_gsR, r_aug, r_aug1, r_addI, r_while, r_sPar, r_oN, r_oS, r_part, r_eSl, r_slTo, r_slFrom, atI, ixN, env0, ty, badN]
  | bool b => (have ty : isTy "list" (.bool b) = false := by show ("list" == "bool" || "list" == "int") = false; decide); simp -implicitDefEqProofs [F_check_readings, r_bind, r_b1, r_b2, r_b3, r_ret, r_frz1, r_frz2, r_frz3, r_frz4, r_rd1, r_rd2, r_rs1, r_rs2, r_rs3, r_var, r_v1, r_v2, r_v3, r_v4, r_c, r_opnd, r_o1, r_o2, r_rdM, r_opt1, r_lift1, r_eOp, r_eUn, r_boolM, r_tB, r_optB, r_tru, r_and, r_or, r_not, r_bE, r_eAnd, r_eOr, r_eNot, r_eIf, r_condT, r_condF, r_aNil, r_aCons, r_rdsM, r_rdsN, r_rdsC, r_eB, r_nb1, r_nb2, r_vN, r_vC, r_tup, r_lst, r_fits, r_fits0, r_fits1, r_fits2, r_fits3, r_fits4, r_callN, r_callD, r_callM, r_call1, r_argB, r_argB1, r_argB2, r_argV, r_argN, r_back0, r_back0x, r_back1, r_back1x, r_setC, r_set1, r_set2, r_seq, r_s1, r_s2, r_s3, r_s4, r_s5, r_sNil, r_sRet, r_sRetN, r_sExpr, r_sIf, r_sBrk, r_sCont, r_asg, r_asgV, r_a1, r_a2, r_a3, r_a4, r_sFrz, r_fz1, r_fz2, r_fz3, r_raise, r_curL, r_cs1, r_cs2, r_st1, r_storeR, r_stoR, r_stoS, r_mut, r_mutR, r_mutL, r_mutS, r_pApp, r_sFor, r_forN, r_loop, r_forC, r_forR, r_l1, r_l2, r_l3, r_l4, r_l5, r_iRg, r_rg, r_iRg2, r_rg2, r_iSq, r_sq1, r_sq2, r_gN, r_fn, r_f1, r_f2, r_f3, r_f4, r_fin1, r_fin2, r_fin3, r_fin4, r_fb1, r_fb2, r_fin5, r_fin6, r_fin7, r_fc1, r_dAdd, r_dAddL, r_dSub, r_dMul, r_dMod, r_dDiv, r_dPow, r_dNeg, r_dLt, r_dLe, r_dGt, r_dGe, r_nInt, r_nIntB, r_nAbs, r_nLenL, r_nLenT, r_nLenD, r_nMax2, r_nMin2, r_ixL, r_ixT, r_nListL, r_nListT, r_nTupL, r_nDict, r_tru1, r_tru2, r_tru3, r_tru4, r_tru5, r_pExt, r_pIns, r_eqII, r_eqBB, r_neII, r_isN1, r_isN2, r_isN3, r_isN4, r_isN5, r_isN6, r_isi, r_chain, r_ch1, r_ch2, r_rdDict, r_undictD, r_key, r_get2, r_or1, r_or2, r_dix, r_dnew, r_curD, r_ce, r_valOf, r_dput, r_put, r_dictAt, r_dicS, r_eLock, r_sLock, r_lok, r_iDk, r_iDi, r_mapR, r_gT, r_tupT, r_gsN, r_gsC, r_gsR, r_aug, r_aug1, r_addI, r_while, r_sPar, r_oN, r_oS, r_part, r_eSl, r_slTo, r_slFrom, atI, ixN, env0, ty, badN]
  | int b => (have ty : isTy "list" (.int b) = false := by show ("list" == "int") = false; decide); simp -implicitDefEqProofs [F_check_readings, r_bind, r_b1, r_b2, r_b3, r_ret, r_frz1, r_frz2, r_frz3, r_frz4, r_rd1, r_rd2, r_rs1, r_rs2, r_rs3, r_var, r_v1, r_v2, r_v3, r_v4, r_c, r_opnd, r_o1, r_o2, r_rdM, r_opt1, r_lift1, r_eOp, r_eUn, r_boolM, r_tB, r_optB, r_tru, r_and, r_or, r_not, r_bE, r_eAnd, r_eOr, r_eNot, r_eIf, r_condT, r_condF, r_aNil, r_aCons, r_rdsM, r_rdsN, r_rdsC, r_eB, r_nb1, r_nb2, r_vN, r_vC, r_tup, r_lst, r_fits, r_fits0, r_fits1, r_fits2, r_fits3, r_fits4, r_callN, r_callD, r_callM, r_call1, r_argB, r_argB1, r_argB2, r_argV, r_argN, r_back0, r_back0x, r_back1, r_back1x, r_setC, r_set1, r_set2, r_seq, r_s1, r_s2, r_s3, r_s4, r_s5, r_sNil, r_sRet, r_sRetN, r_sExpr, r_sIf, r_sBrk, r_sCont, r_asg, r_asgV, r_a1, r_a2, r_a3, r_a4, r_sFrz, r_fz1, r_fz2, r_fz3, r_raise, r_curL, r_cs1, r_cs2, r_st1, r_storeR, r_stoR, r_stoS, r_mut, r_mutR, r_mutL, r_mutS, r_pApp, r_sFor, r_forN, r_loop, r_forC, r_forR, r_l1, r_l2, r_l3, r_l4, r_l5, r_iRg, r_rg, r_iRg2, r_rg2, r_iSq, r_sq1, r_sq2, r_gN, r_fn, r_f1, r_f2, r_f3, r_f4, r_fin1, r_fin2, r_fin3, r_fin4, r_fb1, r_fb2, r_fin5, r_fin6, r_fin7, r_fc1, r_dAdd, r_dAddL, r_dSub, r_dMul, r_dMod, r_dDiv, r_dPow, r_dNeg, r_dLt, r_dLe, r_dGt, r_dGe, r_nInt, r_nIntB, r_nAbs, r_nLenL, r_nLenT, r_nLenD, r_nMax2, r_nMin2, r_ixL, r_ixT, r_nListL, r_nListT, r_nTupL, r_nDict, r_tru1, r_tru2, r_tru3, r_tru4, r_tru5, r_pExt, r_pIns, r_eqII, r_eqBB, r_neII, r_isN1, r_isN2, r_isN3, r_isN4, r_isN5, r_isN6, r_isi, r_chain, r_ch1, r_ch2, r_rdDict, r_undictD, r_key, r_get2, r_or1, r_or2, r_dix, r_dnew, r_curD, r_ce, r_valOf, r_dput, r_put, r_dictAt, r_dicS, r_eLock, r_sLock, r_lok, r_iDk, r_iDi, r_mapR, r_gT, r_tupT, r_gsN, r_gsC, r_gsR, r_aug, r_aug1, r_addI, r_while, r_sPar, r_oN, r_oS, r_part, r_eSl, r_slTo, r_slFrom, atI, ixN, env0, ty, badN]
  | str b => (have ty : isTy "list" (.str b) = false := by show ("list" == "str") = false; decide); simp -implicitDefEqProofs [F_check_readings, r_bind, r_b1, r_b2, r_b3, r_ret, r_frz1, r_frz2, r_frz3, r_frz4, r_rd1, r_rd2, r_rs1, r_rs2, r_rs3, r_var, r_v1, r_v2, r_v3, r_v4, r_c, r_opnd, r_o1, r_o2, r_rdM, r_opt1, r_lift1, r_eOp, r_eUn, r_boolM, r_tB, r_optB, r_tru, r_and, r_or, r_not, r_bE, r_eAnd, r_eOr, r_eNot, r_eIf, r_condT, r_condF, r_aNil, r_aCons, r_rdsM, r_rdsN, r_rdsC, r_eB, r_nb1, r_nb2, r_vN, r_vC, r_tup, r_lst, r_fits, r_fits0, r_fits1, r_fits2, r_fits3, r_fits4, r_callN, r_callD, r_callM, r_call1, r_argB, r_argB1, r_argB2, r_argV, r_argN, r_back0, r_back0x, r_back1, r_back1x, r_setC, r_set1, r_set2, r_seq, r_s1, r_s2, r_s3, r_s4, r_s5, r_sNil, r_sRet, r_sRetN, r_sExpr, r_sIf, r_sBrk, r_sCont, r_asg, r_asgV, r_a1, r_a2, r_a3, r_a4, r_sFrz, r_fz1, r_fz2, r_fz3, r_raise, r_curL, r_cs1, r_cs2, r_st1, r_storeR, r_stoR, r_stoS, r_mut, r_mutR, r_mutL, r_mutS, r_pApp, r_sFor, r_forN, r_loop, r_forC, r_forR, r_l1, r_l2, r_l3, r_l4, r_l5, r_iRg, r_rg, r_iRg2, r_rg2, r_iSq, r_sq1, r_sq2, r_gN, r_fn, r_f1, r_f2, r_f3, r_f4, r_fin1, r_fin2, r_fin3, r_fin4, r_fb1, r_fb2, r_fin5, r_fin6, r_fin7, r_fc1, r_dAdd, r_dAddL, r_dSub, r_dMul, r_dMod, r_dDiv, r_dPow, r_dNeg, r_dLt, r_dLe, r_dGt, r_dGe, r_nInt, r_nIntB, r_nAbs, r_nLenL, r_nLenT, r_nLenD, r_nMax2, r_nMin2, r_ixL, r_ixT, r_nListL, r_nListT, r_nTupL, r_nDict, r_tru1, r_tru2, r_tru3, r_tru4, r_tru5, r_pExt, r_pIns, r_eqII, r_eqBB, r_neII, r_isN1, r_isN2, r_isN3, r_isN4, r_isN5, r_isN6, r_isi, r_chain, r_ch1, r_ch2, r_rdDict, r_undictD, r_key, r_get2, r_or1, r_or2, r_dix, r_dnew, r_curD, r_ce, r_valOf, r_dput, r_put, r_dictAt, r_dicS, r_eLock, r_sLock, r_lok, r_iDk, r_iDi, r_mapR, r_gT, r_tupT, r_gsN, r_gsC, r_gsR, r_aug, r_aug1, r_addI, r_while, r_sPar, r_oN, r_oS, r_part, r_eSl, r_slTo, r_slFrom, atI, ixN, env0, ty, badN]
  | tuple b => (have ty : isTy "list" (.tuple b) = false := by show ("list" == "tuple") = false; decide); simp -implicitDefEqProofs [F_check_readings, r_bind, r_b1, r_b2, r_b3, r_ret, r_frz1, r_frz2, r_frz3, r_frz4, r_rd1, r_rd2, r_rs1, r_rs2, r_rs3, r_var, r_v1, r_v2, r_v3, r_v4, r_c, r_opnd, r_o1, r_o2, r_rdM, r_opt1, r_lift1, r_eOp, r_eUn, r_boolM, r_tB, r_optB, r_tru, r_and, r_or, r_not, r_bE, r_eAnd, r_eOr, r_eNot, r_eIf, r_condT, r_condF, r_aNil, r_aCons, r_rdsM, r_rdsN, r_rdsC, r_eB, r_nb1, r_nb2, r_vN, r_vC, r_tup, r_lst, r_fits, r_fits0, r_fits1, r_fits2, r_fits3, r_fits4, r_callN, r_callD, r_callM, r_call1, r_argB, r_argB1, r_argB2, r_argV, r_argN, r_back0, r_back0x, r_back1, r_back1x, r_setC, r_set1, r_set2, r_seq, r_s1, r_s2, r_s3, r_s4, r_s5, r_sNil, r_sRet, r_sRetN, r_sExpr, r_sIf, r_sBrk, r_sCont, r_asg, r_asgV, r_a1, r_a2, r_a3, r_a4, r_sFrz, r_fz1, r_fz2, r_fz3, r_raise, r_curL, r_cs1, r_cs2, r_st1, r_storeR, r_stoR, r_stoS, r_mut, r_mutR, r_mutL, r_mutS, r_pApp, r_sFor, r_forN, r_loop, r_forC, r_forR, r_l1, r_l2, r_l3, r_l4, r_l5, r_iRg, r_rg, r_iRg2, r_rg2, r_iSq, r_sq1, r_sq2, r_gN, r_fn, r_f1, r_f2, r_f3, r_f4, r_fin1, r_fin2, r_fin3, r_fin4, r_fb1, r_fb2, r_fin5, r_fin6, r_fin7, r_fc1, r_dAdd, r_dAddL, r_dSub, r_dMul, r_dMod, r_dDiv, r_dPow, r_dNeg, r_dLt, r_dLe, r_dGt, r_dGe, r_nInt, r_nIntB, r_nAbs, r_nLenL, r_nLenT, r_nLenD, r_nMax2, r_nMin2, r_ixL, r_ixT, r_nListL, r_nListT, r_nTupL, r_nDict, r_tru1, r_tru2, r_tru3, r_tru4, r_tru5, r_pExt, r_pIns, r_eqII, r_eqBB, r_neII, r_isN1, r_isN2, r_isN3, r_isN4, r_isN5, r_isN6, r_isi, r_chain, r_ch1, r_ch2, r_rdDict, r_undictD, r_key, r_get2, r_or1, r_or2, r_dix, r_dnew, r_curD, r_ce, r_valOf, r_dput, r_put, r_dictAt, r_dicS, r_eLock, r_sLock, r_lok, r_iDk, r_iDi, r_mapR, r_gT, r_tupT, r_gsN, r_gsC, r_gsR, r_aug, r_aug1, r_addI, r_while, r_sPar, r_oN, r_oS, r_part, r_eSl, r_slTo, r_slFrom, atI, ixN, env0, ty, badN]
  | dict b => (have ty : isTy "list" (.dict b) = false := by show ("list" == "dict") = false; decide); simp -implicitDefEqProofs [F_check_readings, r_bind, r_b1, r_b2, r_b3, r_ret, r_frz1, r_frz2, r_frz3, r_frz4, r_rd1, r_rd2, r_rs1, r_rs2, r_rs3, r_var, r_v1, r_v2, r_v3, r_v4, r_c, r_opnd, r_o1, r_o2, r_rdM, r_opt1, r_lift1, r_eOp, r_eUn, r_boolM, r_tB, r_optB, r_tru, r_and, r_or, r_not, r_bE, r_eAnd, r_eOr, r_eNot, r_eIf, r_condT, r_condF, r_aNil, r_aCons, r_rdsM, r_rdsN, r_rdsC, r_eB, r_nb1, r_nb2, r_vN, r_vC, r_tup, r_lst, r_fits, r_fits0, r_fits1, r_fits2, r_fits3, r_fits4, r_callN, r_callD, r_callM, r_call1, r_argB, r_argB1, r_argB2, r_argV, r_argN, r_back0, r_back0x, r_back1, r_back1x, r_setC, r_set1, r_set2, r_seq, r_s1, r_s2, r_s3, r_s4, r_s5, r_sNil, r_sRet, r_sRetN, r_sExpr, r_sIf, r_sBrk, r_sCont, r_asg, r_asgV, r_a1, r_a2, r_a3, r_a4, r_sFrz, r_fz1, r_fz2, r_fz3, r_raise, r_curL, r_cs1, r_cs2, r_st1, r_storeR, r_stoR, r_stoS, r_mut, r_mutR, r_mutL, r_mutS, r_pApp, r_sFor, r_forN, r_loop, r_forC, r_forR, r_l1, r_l2, r_l3, r_l4, r_l5, r_iRg, r_rg, r_iRg2, r_rg2, r_iSq, r_sq1, r_sq2, r_gN, r_fn, r_f1, r_f2, r_f3, r_f4, r_fin1, r_fin2, r_fin3, r_fin4, r_fb1, r_fb2, r_fin5, r_fin6, r_fin7, r_fc1, r_dAdd, r_dAddL, r_dSub, r_dMul, r_dMod, r_dDiv, r_dPow, r_dNeg, r_dLt, r_dLe, r_dGt, r_dGe, r_nInt, r_nIntB, r_nAbs, r_nLenL, r_nLenT, r_nLenD, r_nMax2, r_nMin2, r_ixL, r_ixT, r_nListL, r_nListT, r_nTupL, r_nDict, r_tru1, r_tru2, r_tru3, r_tru4, r_tru5, r_pExt, r_pIns, r_eqII, r_eqBB, r_neII, r_isN1, r_isN2, r_isN3, r_isN4, r_isN5, r_isN6, r_isi, r_chain, r_ch1, r_ch2, r_rdDict, r_undictD, r_key, r_get2, r_or1, r_or2, r_dix, r_dnew, r_curD, r_ce, r_valOf, r_dput, r_put, r_dictAt, r_dicS, r_eLock, r_sLock, r_lok, r_iDk, r_iDi, r_mapR, r_gT, r_tupT, r_gsN, r_gsC, r_gsR, r_aug, r_aug1, r_addI, r_while, r_sPar, r_oN, r_oS, r_part, r_eSl, r_slTo, r_slFrom, atI, ixN, env0, ty, badN]
def okO (d : D) : Bool := inR 1 1000000 d
theorem ord_good {v : D} (h : okO v = true) : F_check_number none [v, .int 1, .int 1000000] = .ok (.val .none) none := by
  rw [check_eq v (lo := 1) (hi := 1000000) (by decide) (by decide), if_pos (show inR 1 1000000 v = true from h)]
theorem ord_bad {v : D} (h : okO v = false) : F_check_number none [v, .int 1, .int 1000000] = .ex badN none := by
  rw [check_eq v (lo := 1) (hi := 1000000) (by decide) (by decide), if_neg (by rw [show inR 1 1000000 v = false from h]; decide)]
theorem canc_bad1 {v o : D} (h : okL v = false) : F_cancels none [v, o] = .ex badN none := by simp -implicitDefEqProofs [F_cancels, r_bind, r_b1, r_b2, r_b3, r_ret, r_frz1, r_frz2, r_frz3, r_frz4, r_rd1, r_rd2, r_rs1, r_rs2, r_rs3, r_var, r_v1, r_v2, r_v3, r_v4, r_c, r_opnd, r_o1, r_o2, r_rdM, r_opt1, r_lift1, r_eOp, r_eUn, r_boolM, r_tB, r_optB, r_tru, r_and, r_or, r_not, r_bE, r_eAnd, r_eOr, r_eNot, r_eIf, r_condT, r_condF, r_aNil, r_aCons, r_rdsM, r_rdsN, r_rdsC, r_eB, r_nb1, r_nb2, r_vN, r_vC, r_tup, r_lst, r_fits, r_fits0, r_fits1, r_fits2, r_fits3, r_fits4, r_callN, r_callD, r_callM, r_call1, r_argB, r_argB1, r_argB2, r_argV, r_argN, r_back0, r_back0x, r_back1, r_back1x, r_setC, r_set1, r_set2, r_seq, r_s1, r_s2, r_s3, r_s4, r_s5, r_sNil, r_sRet, r_sRetN, r_sExpr, r_sIf, r_sBrk, r_sCont, r_asg, r_asgV, r_a1, r_a2, r_a3, r_a4, r_sFrz, r_fz1, r_fz2, r_fz3, r_raise, r_curL, r_cs1, r_cs2, r_st1, r_storeR, r_stoR, r_stoS, r_mut, r_mutR, r_mutL, r_mutS, r_pApp, r_sFor, r_forN, r_loop, r_forC, r_forR, r_l1, r_l2, r_l3, r_l4, r_l5, r_iRg, r_rg, r_iRg2, r_rg2, r_iSq, r_sq1, r_sq2, r_gN, r_fn, r_f1, r_f2, r_f3, r_f4, r_fin1, r_fin2, r_fin3, r_fin4, r_fb1, r_fb2, r_fin5, r_fin6, r_fin7, r_fc1, r_dAdd, r_dAddL, r_dSub, r_dMul, r_dMod, r_dDiv, r_dPow, r_dNeg, r_dLt, r_dLe, r_dGt, r_dGe, r_nInt, r_nIntB, r_nAbs, r_nLenL, r_nLenT, r_nLenD, r_nMax2, r_nMin2, r_ixL, r_ixT, r_nListL, r_nListT, r_nTupL, r_nDict, r_tru1, r_tru2, r_tru3, r_tru4, r_tru5, r_pExt, r_pIns, r_eqII, r_eqBB, r_neII, r_isN1, r_isN2, r_isN3, r_isN4, r_isN5, r_isN6, r_isi, r_chain, r_ch1, r_ch2, r_rdDict, r_undictD, r_key, r_get2, r_or1, r_or2, r_dix, r_dnew, r_curD, r_ce, r_valOf, r_dput, r_put, r_dictAt, r_dicS, r_eLock, r_sLock, r_lok, r_iDk, r_iDi, r_mapR, r_gT, r_tupT, r_gsN, r_gsC, r_gsR, r_aug, r_aug1, r_addI, r_while, r_sPar, r_oN, r_oS, r_part, r_eSl, r_slTo, r_slFrom, atI, ixN, env0, chk_bad h]
theorem left_bad1 {v o : D} (h : okL v = false) : F_left_over none [v, o] = .ex badN none := by simp -implicitDefEqProofs [F_left_over, r_bind, r_b1, r_b2, r_b3, r_ret, r_frz1, r_frz2, r_frz3, r_frz4, r_rd1, r_rd2, r_rs1, r_rs2, r_rs3, r_var, r_v1, r_v2, r_v3, r_v4, r_c, r_opnd, r_o1, r_o2, r_rdM, r_opt1, r_lift1, r_eOp, r_eUn, r_boolM, r_tB, r_optB, r_tru, r_and, r_or, r_not, r_bE, r_eAnd, r_eOr, r_eNot, r_eIf, r_condT, r_condF, r_aNil, r_aCons, r_rdsM, r_rdsN, r_rdsC, r_eB, r_nb1, r_nb2, r_vN, r_vC, r_tup, r_lst, r_fits, r_fits0, r_fits1, r_fits2, r_fits3, r_fits4, r_callN, r_callD, r_callM, r_call1, r_argB, r_argB1, r_argB2, r_argV, r_argN, r_back0, r_back0x, r_back1, r_back1x, r_setC, r_set1, r_set2, r_seq, r_s1, r_s2, r_s3, r_s4, r_s5, r_sNil, r_sRet, r_sRetN, r_sExpr, r_sIf, r_sBrk, r_sCont, r_asg, r_asgV, r_a1, r_a2, r_a3, r_a4, r_sFrz, r_fz1, r_fz2, r_fz3, r_raise, r_curL, r_cs1, r_cs2, r_st1, r_storeR, r_stoR, r_stoS, r_mut, r_mutR, r_mutL, r_mutS, r_pApp, r_sFor, r_forN, r_loop, r_forC, r_forR, r_l1, r_l2, r_l3, r_l4, r_l5, r_iRg, r_rg, r_iRg2, r_rg2, r_iSq, r_sq1, r_sq2, r_gN, r_fn, r_f1, r_f2, r_f3, r_f4, r_fin1, r_fin2, r_fin3, r_fin4, r_fb1, r_fb2, r_fin5, r_fin6, r_fin7, r_fc1, r_dAdd, r_dAddL, r_dSub, r_dMul, r_dMod, r_dDiv, r_dPow, r_dNeg, r_dLt, r_dLe, r_dGt, r_dGe, r_nInt, r_nIntB, r_nAbs, r_nLenL, r_nLenT, r_nLenD, r_nMax2, r_nMin2, r_ixL, r_ixT, r_nListL, r_nListT, r_nTupL, r_nDict, r_tru1, r_tru2, r_tru3, r_tru4, r_tru5, r_pExt, r_pIns, r_eqII, r_eqBB, r_neII, r_isN1, r_isN2, r_isN3, r_isN4, r_isN5, r_isN6, r_isi, r_chain, r_ch1, r_ch2, r_rdDict, r_undictD, r_key, r_get2, r_or1, r_or2, r_dix, r_dnew, r_curD, r_ce, r_valOf, r_dput, r_put, r_dictAt, r_dicS, r_eLock, r_sLock, r_lok, r_iDk, r_iDi, r_mapR, r_gT, r_tupT, r_gsN, r_gsC, r_gsR, r_aug, r_aug1, r_addI, r_while, r_sPar, r_oN, r_oS, r_part, r_eSl, r_slTo, r_slFrom, atI, ixN, env0, chk_bad h]
theorem canc_bad2 {ds : List D} {o : D} (h : okL (.list ds) = true) (ho : okO o = false) : F_cancels none [.list ds, o] = .ex badN none := by simp -implicitDefEqProofs [F_cancels, r_bind, r_b1, r_b2, r_b3, r_ret, r_frz1, r_frz2, r_frz3, r_frz4, r_rd1, r_rd2, r_rs1, r_rs2, r_rs3, r_var, r_v1, r_v2, r_v3, r_v4, r_c, r_opnd, r_o1, r_o2, r_rdM, r_opt1, r_lift1, r_eOp, r_eUn, r_boolM, r_tB, r_optB, r_tru, r_and, r_or, r_not, r_bE, r_eAnd, r_eOr, r_eNot, r_eIf, r_condT, r_condF, r_aNil, r_aCons, r_rdsM, r_rdsN, r_rdsC, r_eB, r_nb1, r_nb2, r_vN, r_vC, r_tup, r_lst, r_fits, r_fits0, r_fits1, r_fits2, r_fits3, r_fits4, r_callN, r_callD, r_callM, r_call1, r_argB, r_argB1, r_argB2, r_argV, r_argN, r_back0, r_back0x, r_back1, r_back1x, r_setC, r_set1, r_set2, r_seq, r_s1, r_s2, r_s3, r_s4, r_s5, r_sNil, r_sRet, r_sRetN, r_sExpr, r_sIf, r_sBrk, r_sCont, r_asg, r_asgV, r_a1, r_a2, r_a3, r_a4, r_sFrz, r_fz1, r_fz2, r_fz3, r_raise, r_curL, r_cs1, r_cs2, r_st1, r_storeR, r_stoR, r_stoS, r_mut, r_mutR, r_mutL, r_mutS, r_pApp, r_sFor, r_forN, r_loop, r_forC, r_forR, r_l1, r_l2, r_l3, r_l4, r_l5, r_iRg, r_rg, r_iRg2, r_rg2, r_iSq, r_sq1, r_sq2, r_gN, r_fn, r_f1, r_f2, r_f3, r_f4, r_fin1, r_fin2, r_fin3, r_fin4, r_fb1, r_fb2, r_fin5, r_fin6, r_fin7, r_fc1, r_dAdd, r_dAddL, r_dSub, r_dMul, r_dMod, r_dDiv, r_dPow, r_dNeg, r_dLt, r_dLe, r_dGt, r_dGe, r_nInt, r_nIntB, r_nAbs, r_nLenL, r_nLenT, r_nLenD, r_nMax2, r_nMin2, r_ixL, r_ixT, r_nListL, r_nListT, r_nTupL, r_nDict, r_tru1, r_tru2, r_tru3, r_tru4, r_tru5, r_pExt, r_pIns, r_eqII, r_eqBB, r_neII, r_isN1, r_isN2, r_isN3, r_isN4, r_isN5, r_isN6, r_isi, r_chain, r_ch1, r_ch2, r_rdDict, r_undictD, r_key, r_get2, r_or1, r_or2, r_dix, r_dnew, r_curD, r_ce, r_valOf, r_dput, r_put, r_dictAt, r_dicS, r_eLock, r_sLock, r_lok, r_iDk, r_iDi, r_mapR, r_gT, r_tupT, r_gsN, r_gsC, r_gsR, r_aug, r_aug1, r_addI, r_while, r_sPar, r_oN, r_oS, r_part, r_eSl, r_slTo, r_slFrom, atI, ixN, env0, chk_good h, ord_bad ho]
theorem left_bad2 {ds : List D} {o : D} (h : okL (.list ds) = true) (ho : okO o = false) : F_left_over none [.list ds, o] = .ex badN none := by simp -implicitDefEqProofs [F_left_over, r_bind, r_b1, r_b2, r_b3, r_ret, r_frz1, r_frz2, r_frz3, r_frz4, r_rd1, r_rd2, r_rs1, r_rs2, r_rs3, r_var, r_v1, r_v2, r_v3, r_v4, r_c, r_opnd, r_o1, r_o2, r_rdM, r_opt1, r_lift1, r_eOp, r_eUn, r_boolM, r_tB, r_optB, r_tru, r_and, r_or, r_not, r_bE, r_eAnd, r_eOr, r_eNot, r_eIf, r_condT, r_condF, r_aNil, r_aCons, r_rdsM, r_rdsN, r_rdsC, r_eB, r_nb1, r_nb2, r_vN, r_vC, r_tup, r_lst, r_fits, r_fits0, r_fits1, r_fits2, r_fits3, r_fits4, r_callN, r_callD, r_callM, r_call1, r_argB, r_argB1, r_argB2, r_argV, r_argN, r_back0, r_back0x, r_back1, r_back1x, r_setC, r_set1, r_set2, r_seq, r_s1, r_s2, r_s3, r_s4, r_s5, r_sNil, r_sRet, r_sRetN, r_sExpr, r_sIf, r_sBrk, r_sCont, r_asg, r_asgV, r_a1, r_a2, r_a3, r_a4, r_sFrz, r_fz1, r_fz2, r_fz3, r_raise, r_curL, r_cs1, r_cs2, r_st1, r_storeR, r_stoR, r_stoS, r_mut, r_mutR, r_mutL, r_mutS, r_pApp, r_sFor, r_forN, r_loop, r_forC, r_forR, r_l1, r_l2, r_l3, r_l4, r_l5, r_iRg, r_rg, r_iRg2, r_rg2, r_iSq, r_sq1, r_sq2, r_gN, r_fn, r_f1, r_f2, r_f3, r_f4, r_fin1, r_fin2, r_fin3, r_fin4, r_fb1, r_fb2, r_fin5, r_fin6, r_fin7, r_fc1, r_dAdd, r_dAddL, r_dSub, r_dMul, r_dMod, r_dDiv, r_dPow, r_dNeg, r_dLt, r_dLe, r_dGt, r_dGe, r_nInt, r_nIntB, r_nAbs, r_nLenL, r_nLenT, r_nLenD, r_nMax2, r_nMin2, r_ixL, r_ixT, r_nListL, r_nListT, r_nTupL, r_nDict, r_tru1, r_tru2, r_tru3, r_tru4, r_tru5, r_pExt, r_pIns, r_eqII, r_eqBB, r_neII, r_isN1, r_isN2, r_isN3, r_isN4, r_isN5, r_isN6, r_isi, r_chain, r_ch1, r_ch2, r_rdDict, r_undictD, r_key, r_get2, r_or1, r_or2, r_dix, r_dnew, r_curD, r_ce, r_valOf, r_dput, r_put, r_dictAt, r_dicS, r_eLock, r_sLock, r_lok, r_iDk, r_iDi, r_mapR, r_gT, r_tupT, r_gsN, r_gsC, r_gsR, r_aug, r_aug1, r_addI, r_while, r_sPar, r_oN, r_oS, r_part, r_eSl, r_slTo, r_slFrom, atI, ixN, env0, chk_good h, ord_bad ho]
theorem r_sortKd (tb : Tab) : nSortedX (dictD (kd tb)) = some (.own ((sortI (keys tb)).map PyData.int)) := by
  have e : ∀ tb : Tab, keysI (kd tb) = some (keys tb) := fun tb => by
    induction tb with
    | nil => rfl
    | cons p r ih => show (keysI (kd r)).map (p.1 :: ·) = _; rw [ih]; rfl
  show ((undictL ((kd tb).map fun p => (keyD p.1, p.2))).bind keysI).map _ = _
  rw [undictL_map]
  show (keysI (kd tb)).map _ = _
  rw [e]; rfl
theorem lk_keys {tb : Tab} {k : Int} (h : k ∈ keys tb) : lkI tb k = some (val tb k) := by
  cases e : lkI tb k with
  | some v => unfold val; rw [e]; rfl
  | none =>
    exfalso
    induction tb with
    | nil => simp [keys] at h
    | cons p r ih =>
      unfold lkI at e
      by_cases z : p.1 = k
      · rw [if_pos z] at e; cases e
      · rw [if_neg z] at e
        unfold keys at h
        rw [List.map_cons, List.mem_cons] at h
        exact ih (h.resolve_left fun y => z y.symm) e
theorem fm_all {α : Type} (f : α → D) (h : α → D) (g : D → Option D) : ∀ l : List α, (∀ x ∈ l, g (f x) = some (h x)) → (l.map f).filterMap g = l.map h
  | [], _ => rfl
  | x :: l, e => by
    rw [List.map_cons, List.map_cons, List.filterMap_cons_some (e x List.mem_cons_self), fm_all f h g l fun y hy => e y (List.mem_cons_of_mem _ hy)]
/-- what cancels and left_over tell -/
theorem solve {n : Nat} (hN : 1 ≤ n) (hN2 : n ≤ 1000000) (xs : List Int) (hx : okL (iL xs) = true) : ∃ l ps, PR n ps ∧ Is n l (TT n ps (cnt n xs)) ∧ F_left_over none [iL xs, .int n] = .ok (.own (l.map DW.pairD)) none ∧ F_cancels none [iL xs, .int n] = .ok (.val (.bool l.isEmpty)) none := by
  obtain ⟨tb, ps, e1, pr, ht, nz⟩ := folded_eq hN hN2 xs
  have cg := chk_good (ds := xs.map PyData.int) hx
  have oo : okO (.int n) = true := by show (decide ((1 : Int) ≤ n) && decide ((n : Int) ≤ 1000000)) = true; rw [decide_eq_true (by omega), decide_eq_true (by omega)]; rfl
  have og := ord_good oo
  unfold iL at *
  refine ⟨_, ps, pr, ht.over nz, ?_, ?_⟩
  · have hl : (sortI (keys tb)).length ≤ 16777216 := by
      rw [(sortI_perm _).length_eq]
      have := ht.t.len (by omega)
      unfold keys
      rw [List.length_map]
      omega
    have ed := eLc_pure (src := iSq (eB (DW.b1 nSortedX) (aCons (eVar 2) aNil))) (tgt := gN 3) (cond := tYes') (elt := eTup (aCons (eVar 3) (aCons (eDix (eVar 2) (eVar 3)) aNil))) (vs := [3])
      (δ := [.val (.list (xs.map PyData.int)), .val (.int n), .val (dictD (kd tb)), .un]) (ds := (sortI (keys tb)).map PyData.int)
      (fun d => match d with
        | .int k => some (DW.pairD (k, val tb k))
        | _ => none)
      (by simp -implicitDefEqProofs [r_bind, r_b1, r_b2, r_b3, r_ret, r_frz1, r_frz2, r_frz3, r_frz4, r_rd1, r_rd2, r_rs1, r_rs2, r_rs3, r_var, r_v1, r_v2, r_v3, r_v4, r_c, r_opnd, r_o1, r_o2, r_rdM, r_opt1, r_lift1, r_eOp, r_eUn, r_boolM, r_tB, r_optB, r_tru, r_and, r_or, r_not, r_bE, r_eAnd, r_eOr, r_eNot, r_eIf, r_condT, r_condF, r_aNil, r_aCons, r_rdsM, r_rdsN, r_rdsC, r_eB, r_nb1, r_nb2, r_vN, r_vC, r_tup, r_lst, r_fits, r_fits0, r_fits1, r_fits2, r_fits3, r_fits4, r_callN, r_callD, r_callM, r_call1, r_argB, r_argB1, r_argB2, r_argV, r_argN, r_back0, r_back0x, r_back1, r_back1x, r_setC, r_set1, r_set2, r_seq, r_s1, r_s2, r_s3, r_s4, r_s5, r_sNil, r_sRet, r_sRetN, r_sExpr, r_sIf, r_sBrk, r_sCont, r_asg, r_asgV, r_a1, r_a2, r_a3, r_a4, r_sFrz, r_fz1, r_fz2, r_fz3, r_raise, r_curL, r_cs1, r_cs2, r_st1, r_storeR, r_stoR, r_stoS, r_mut, r_mutR, r_mutL, r_mutS, r_pApp, r_sFor, r_forN, r_loop, r_forC, r_forR, r_l1, r_l2, r_l3, r_l4, r_l5, r_iRg, r_rg, r_iRg2, r_rg2, r_iSq, r_sq1, r_sq2, r_gN, r_fn, r_f1, r_f2, r_f3, r_f4, r_fin1, r_fin2, r_fin3, r_fin4, r_fb1, r_fb2, r_fin5, r_fin6, r_fin7, r_fc1, r_dAdd, r_dAddL, r_dSub, r_dMul, r_dMod, r_dDiv, r_dPow, r_dNeg, r_dLt, r_dLe, r_dGt, r_dGe, r_nInt, r_nIntB, r_nAbs, r_nLenL, r_nLenT, r_nLenD, r_nMax2, r_nMin2, r_ixL, r_ixT, r_nListL, r_nListT, r_nTupL, r_nDict, r_tru1, r_tru2, r_tru3, r_tru4, r_tru5, r_pExt, r_pIns, r_eqII, r_eqBB, r_neII, r_isN1, r_isN2, r_isN3, r_isN4, r_isN5, r_isN6, r_isi, r_chain, r_ch1, r_ch2, r_rdDict, r_undictD, r_key, r_get2, r_or1, r_or2, r_dix, r_dnew, r_curD, r_ce, r_valOf, r_dput, r_put, r_dictAt, r_dicS, r_eLock, r_sLock, r_lok, r_iDk, r_iDi, r_mapR, r_gT, r_tupT, r_gsN, r_gsC, r_gsR, r_aug, r_aug1, r_addI, r_while, r_sPar, r_oN, r_oS, r_part, r_eSl, r_slTo, r_slFrom, atI, ixN, env0, r_sortKd]) rfl rfl
      (fun d hd => by
        obtain ⟨k, hk, rfl⟩ := List.mem_map.mp hd
        rw [(sortI_perm _).mem_iff] at hk
        have lk := lk_keys hk
        refine ⟨[.val (.list (xs.map PyData.int)), .val (.int n), .val (dictD (kd tb)), .val (.int k)], rfl, .inr ⟨_, [.val (.list (xs.map PyData.int)), .val (.int n), .val (dictD (kd tb)), .val (.int k)], DW.pairD (k, val tb k), rfl, ?_, rfl, rfl⟩⟩
        simp -implicitDefEqProofs [r_bind, r_b1, r_b2, r_b3, r_ret, r_frz1, r_frz2, r_frz3, r_frz4, r_rd1, r_rd2, r_rs1, r_rs2, r_rs3, r_var, r_v1, r_v2, r_v3, r_v4, r_c, r_opnd, r_o1, r_o2, r_rdM, r_opt1, r_lift1, r_eOp, r_eUn, r_boolM, r_tB, r_optB, r_tru, r_and, r_or, r_not, r_bE, r_eAnd, r_eOr, r_eNot, r_eIf, r_condT, r_condF, r_aNil, r_aCons, r_rdsM, r_rdsN, r_rdsC, r_eB, r_nb1, r_nb2, r_vN, r_vC, r_tup, r_lst, r_fits, r_fits0, r_fits1, r_fits2, r_fits3, r_fits4, r_callN, r_callD, r_callM, r_call1, r_argB, r_argB1, r_argB2, r_argV, r_argN, r_back0, r_back0x, r_back1, r_back1x, r_setC, r_set1, r_set2, r_seq, r_s1, r_s2, r_s3, r_s4, r_s5, r_sNil, r_sRet, r_sRetN, r_sExpr, r_sIf, r_sBrk, r_sCont, r_asg, r_asgV, r_a1, r_a2, r_a3, r_a4, r_sFrz, r_fz1, r_fz2, r_fz3, r_raise, r_curL, r_cs1, r_cs2, r_st1, r_storeR, r_stoR, r_stoS, r_mut, r_mutR, r_mutL, r_mutS, r_pApp, r_sFor, r_forN, r_loop, r_forC, r_forR, r_l1, r_l2, r_l3, r_l4, r_l5, r_iRg, r_rg, r_iRg2, r_rg2, r_iSq, r_sq1, r_sq2, r_gN, r_fn, r_f1, r_f2, r_f3, r_f4, r_fin1, r_fin2, r_fin3, r_fin4, r_fb1, r_fb2, r_fin5, r_fin6, r_fin7, r_fc1, r_dAdd, r_dAddL, r_dSub, r_dMul, r_dMod, r_dDiv, r_dPow, r_dNeg, r_dLt, r_dLe, r_dGt, r_dGe, r_nInt, r_nIntB, r_nAbs, r_nLenL, r_nLenT, r_nLenD, r_nMax2, r_nMin2, r_ixL, r_ixT, r_nListL, r_nListT, r_nTupL, r_nDict, r_tru1, r_tru2, r_tru3, r_tru4, r_tru5, r_pExt, r_pIns, r_eqII, r_eqBB, r_neII, r_isN1, r_isN2, r_isN3, r_isN4, r_isN5, r_isN6, r_isi, r_chain, r_ch1, r_ch2, r_rdDict, r_undictD, r_key, r_get2, r_or1, r_or2, r_dix, r_dnew, r_curD, r_ce, r_valOf, r_dput, r_put, r_dictAt, r_dicS, r_eLock, r_sLock, r_lok, r_iDk, r_iDi, r_mapR, r_gT, r_tupT, r_gsN, r_gsC, r_gsR, r_aug, r_aug1, r_addI, r_while, r_sPar, r_oN, r_oS, r_part, r_eSl, r_slTo, r_slFrom, atI, ixN, env0, look_kd, lk, DW.pairD])
      (by rw [List.length_map]; exact hl)
    rw [fm_all PyData.int (fun k => DW.pairD (k, val tb k)) _ _ fun k _ => rfl] at ed
    rw [List.map_map]
    show _ = FR.ok (.own ((sortI (keys tb)).map fun k => DW.pairD (k, val tb k))) none
    simp -implicitDefEqProofs [F_left_over, r_bind, r_b1, r_b2, r_b3, r_ret, r_frz1, r_frz2, r_frz3, r_frz4, r_rd1, r_rd2, r_rs1, r_rs2, r_rs3, r_var, r_v1, r_v2, r_v3, r_v4, r_c, r_opnd, r_o1, r_o2, r_rdM, r_opt1, r_lift1, r_eOp, r_eUn, r_boolM, r_tB, r_optB, r_tru, r_and, r_or, r_not, r_bE, r_eAnd, r_eOr, r_eNot, r_eIf, r_condT, r_condF, r_aNil, r_aCons, r_rdsM, r_rdsN, r_rdsC, r_eB, r_nb1, r_nb2, r_vN, r_vC, r_tup, r_lst, r_fits, r_fits0, r_fits1, r_fits2, r_fits3, r_fits4, r_callN, r_callD, r_callM, r_call1, r_argB, r_argB1, r_argB2, r_argV, r_argN, r_back0, r_back0x, r_back1, r_back1x, r_setC, r_set1, r_set2, r_seq, r_s1, r_s2, r_s3, r_s4, r_s5, r_sNil, r_sRet, r_sRetN, r_sExpr, r_sIf, r_sBrk, r_sCont, r_asg, r_asgV, r_a1, r_a2, r_a3, r_a4, r_sFrz, r_fz1, r_fz2, r_fz3, r_raise, r_curL, r_cs1, r_cs2, r_st1, r_storeR, r_stoR, r_stoS, r_mut, r_mutR, r_mutL, r_mutS, r_pApp, r_sFor, r_forN, r_loop, r_forC, r_forR, r_l1, r_l2, r_l3, r_l4, r_l5, r_iRg, r_rg, r_iRg2, r_rg2, r_iSq, r_sq1, r_sq2, r_gN, r_fn, r_f1, r_f2, r_f3, r_f4, r_fin1, r_fin2, r_fin3, r_fin4, r_fb1, r_fb2, r_fin5, r_fin6, r_fin7, r_fc1, r_dAdd, r_dAddL, r_dSub, r_dMul, r_dMod, r_dDiv, r_dPow, r_dNeg, r_dLt, r_dLe, r_dGt, r_dGe, r_nInt, r_nIntB, r_nAbs, r_nLenL, r_nLenT, r_nLenD, r_nMax2, r_nMin2, r_ixL, r_ixT, r_nListL, r_nListT, r_nTupL, r_nDict, r_tru1, r_tru2, r_tru3, r_tru4, r_tru5, r_pExt, r_pIns, r_eqII, r_eqBB, r_neII, r_isN1, r_isN2, r_isN3, r_isN4, r_isN5, r_isN6, r_isi, r_chain, r_ch1, r_ch2, r_rdDict, r_undictD, r_key, r_get2, r_or1, r_or2, r_dix, r_dnew, r_curD, r_ce, r_valOf, r_dput, r_put, r_dictAt, r_dicS, r_eLock, r_sLock, r_lok, r_iDk, r_iDi, r_mapR, r_gT, r_tupT, r_gsN, r_gsC, r_gsR, r_aug, r_aug1, r_addI, r_while, r_sPar, r_oN, r_oS, r_part, r_eSl, r_slTo, r_slFrom, atI, ixN, env0, cg, og, e1, ed]
  · have hz : ∀ b : Bool, b = (((sortI (keys tb)).map fun k => (k, val tb k)).isEmpty) → F_cancels none [.list (xs.map PyData.int), .int n] = .ok (.val (.bool b)) none := fun b hb => by
      have hb2 : decide (((kd tb).length : Int) = 0) = b := by
        rw [hb, kd_len]
        have p := (sortI_perm (keys tb)).length_eq
        unfold keys at p
        rw [List.length_map] at p
        cases tb with
        | nil => rfl
        | cons q r =>
          cases hs : sortI (keys (q :: r)) with
          | nil => unfold keys at hs; rw [hs] at p; simp at p
          | cons a b => rw [decide_eq_false (by simp; omega)]; rfl
      simp -implicitDefEqProofs [F_cancels, r_bind, r_b1, r_b2, r_b3, r_ret, r_frz1, r_frz2, r_frz3, r_frz4, r_rd1, r_rd2, r_rs1, r_rs2, r_rs3, r_var, r_v1, r_v2, r_v3, r_v4, r_c, r_opnd, r_o1, r_o2, r_rdM, r_opt1, r_lift1, r_eOp, r_eUn, r_boolM, r_tB, r_optB, r_tru, r_and, r_or, r_not, r_bE, r_eAnd, r_eOr, r_eNot, r_eIf, r_condT, r_condF, r_aNil, r_aCons, r_rdsM, r_rdsN, r_rdsC, r_eB, r_nb1, r_nb2, r_vN, r_vC, r_tup, r_lst, r_fits, r_fits0, r_fits1, r_fits2, r_fits3, r_fits4, r_callN, r_callD, r_callM, r_call1, r_argB, r_argB1, r_argB2, r_argV, r_argN, r_back0, r_back0x, r_back1, r_back1x, r_setC, r_set1, r_set2, r_seq, r_s1, r_s2, r_s3, r_s4, r_s5, r_sNil, r_sRet, r_sRetN, r_sExpr, r_sIf, r_sBrk, r_sCont, r_asg, r_asgV, r_a1, r_a2, r_a3, r_a4, r_sFrz, r_fz1, r_fz2, r_fz3, r_raise, r_curL, r_cs1, r_cs2, r_st1, r_storeR, r_stoR, r_stoS, r_mut, r_mutR, r_mutL, r_mutS, r_pApp, r_sFor, r_forN, r_loop, r_forC, r_forR, r_l1, r_l2, r_l3, r_l4, r_l5, r_iRg, r_rg, r_iRg2, r_rg2, r_iSq, r_sq1, r_sq2, r_gN, r_fn, r_f1, r_f2, r_f3, r_f4, r_fin1, r_fin2, r_fin3, r_fin4, r_fb1, r_fb2, r_fin5, r_fin6, r_fin7, r_fc1, r_dAdd, r_dAddL, r_dSub, r_dMul, r_dMod, r_dDiv, r_dPow, r_dNeg, r_dLt, r_dLe, r_dGt, r_dGe, r_nInt, r_nIntB, r_nAbs, r_nLenL, r_nLenT, r_nLenD, r_nMax2, r_nMin2, r_ixL, r_ixT, r_nListL, r_nListT, r_nTupL, r_nDict, r_tru1, r_tru2, r_tru3, r_tru4, r_tru5, r_pExt, r_pIns, r_eqII, r_eqBB, r_neII, r_isN1, r_isN2, r_isN3, r_isN4, r_isN5, r_isN6, r_isi, r_chain, r_ch1, r_ch2, r_rdDict, r_undictD, r_key, r_get2, r_or1, r_or2, r_dix, r_dnew, r_curD, r_ce, r_valOf, r_dput, r_put, r_dictAt, r_dicS, r_eLock, r_sLock, r_lok, r_iDk, r_iDi, r_mapR, r_gT, r_tupT, r_gsN, r_gsC, r_gsR, r_aug, r_aug1, r_addI, r_while, r_sPar, r_oN, r_oS, r_part, r_eSl, r_slTo, r_slFrom, atI, ixN, env0, cg, og, e1]
      simpa using hb2
    exact hz _ rfl
end K61

set_option Elab.async false
set_option linter.all false
set_option maxRecDepth 100000
set_option maxHeartbeats 4000000
namespace K61
open PySem PySem.Spec PyProof.Rows L2 DW
theorem r_sortPd (tb : Tab) : nSortedX (.list (tb.map DW.pairD)) = some (.own ((sortP tb).map DW.pairD)) := by
  have e2 : ∀ tb : Tab, pairsD (tb.map DW.pairD) = some tb := fun tb => by
    induction tb with
    | nil => rfl
    | cons p r ih => show (match pairOf (DW.pairD p), pairsD (r.map DW.pairD) with | some p, some l => some (p :: l) | _, _ => none) = _; rw [ih]; rfl
  cases tb with
  | nil => rfl
  | cons p r =>
    show (match intsD ((p :: r).map DW.pairD) with
      | some ns => some (Sl.own ((sortI ns).map .int))
      | none => match pairsD ((p :: r).map DW.pairD) with
        | some ps => some (.own ((sortP ps).map DW.pairD))
        | none => none) = _
    rw [e2]
    rfl
theorem kd_keys (tb : Tab) : ((kd tb).map fun p => keyD p.1) = (keys tb).map PyData.int := by
  unfold kd keys
  rw [List.map_map, List.map_map]
  rfl
theorem fm_keys {tb : Tab} (nd : (keys tb).Nodup) (g : D → Option D) (hg : ∀ k ∈ keys tb, g (.int k) = if val tb k = 0 then none else some (DW.pairD (k, val tb k))) : ((keys tb).map PyData.int).filterMap g = (nzF tb).map DW.pairD := by
  have go : ∀ l : Tab, (∀ p ∈ l, p ∈ tb) → ((keys l).map PyData.int).filterMap g = (nzF l).map DW.pairD := by
    intro l
    induction l with
    | nil => exact fun _ => rfl
    | cons p r ih =>
      intro h
      have ih := ih fun q hq => h q (List.mem_cons_of_mem _ hq)
      have hp := h p List.mem_cons_self
      have hv : val tb p.1 = p.2 := by unfold val; rw [lk_mem nd hp]; rfl
      have e := hg p.1 (List.mem_map.mpr ⟨p, hp, rfl⟩)
      rw [hv] at e
      show ((.int p.1) :: (keys r).map PyData.int).filterMap g = _
      unfold nzF at ih ⊢
      by_cases z : p.2 = 0
      · rw [if_pos z] at e
        rw [List.filterMap_cons_none e, ih, List.filter_cons_of_neg (by simp [z])]
      · rw [if_neg z] at e
        rw [List.filterMap_cons_some e, ih, List.filter_cons_of_pos (by simp [z])]
        rfl
  exact go tb fun p hp => hp
theorem fm_keys1 {tb : Tab} (nd : (keys tb).Nodup) (g : D → Option D) (hg : ∀ k ∈ keys tb, g (.int k) = some (DW.pairD (k, val tb k))) : ((keys tb).map PyData.int).filterMap g = tb.map DW.pairD := by
  have go : ∀ l : Tab, (∀ p ∈ l, p ∈ tb) → ((keys l).map PyData.int).filterMap g = l.map DW.pairD := by
    intro l
    induction l with
    | nil => exact fun _ => rfl
    | cons p r ih =>
      intro h
      have hp := h p List.mem_cons_self
      have hv : val tb p.1 = p.2 := by unfold val; rw [lk_mem nd hp]; rfl
      have e := hg p.1 (List.mem_map.mpr ⟨p, hp, rfl⟩)
      rw [hv] at e
      show ((.int p.1) :: (keys r).map PyData.int).filterMap g = _
      rw [List.filterMap_cons_some e, ih fun q hq => h q (List.mem_cons_of_mem _ hq)]
      rfl
  exact go tb fun p hp => hp
def pL (l : Tab) : D := .list (l.map DW.pairD)
theorem left_inner {n p : Nat} {l : Tab} {f : Int → Int} {a3 s2 s3 s6 s8 s9 : Sl} {v0 : D} (hN : 1 ≤ n) (hN2 : n ≤ 1000000) (hp : 1 ≤ p) (hp2 : p ≤ 1000000) (h : Is n l f) (per : Per n f) :
    ∃ td s8' s9', forL (gN 8) B_l_left_1 (l.map DW.pairD) [.val v0, .val (.int n), s2, s3, .val (pL l), .val (.int p), s6, .ownD [], s8, s9] = .ok .nx [.val v0, .val (.int n), s2, s3, .val (pL l), .val (.int p), s6, .ownD (kd td), s8', s9'] ∧ TbF n td (Dl ((n : Int) / p) f) := by
  have hn1 : 0 < n := hN
  have d1 : divC n p = true := divC_lt (a := 40) (by omega) (by omega) (by decide)
  obtain ⟨t0, nz⟩ := h.tbF
  obtain ⟨δ', e1, td, s8', s9', rfl, ht, hv⟩ := forL_ix (tgt := gN 8) (s := B_l_left_1) (l.map DW.pairD)
    (fun i δ => ∃ (td : Tab) (s8 s9 : Sl), δ = [.val v0, .val (.int n), s2, s3, .val (pL l), .val (.int p), s6, .ownD (kd td), s8, s9] ∧ Tb n td ∧ ∀ k : Int, 0 ≤ k → k < (n : Int) → val td k = sumAt (fun j => j) (l.take i) k - sumAt (fun j => (j + (n : Int) / p) % n) (l.take i) k)
    (fun δ => ∃ (td : Tab) (s8 s9 : Sl), δ = [.val v0, .val (.int n), s2, s3, .val (pL l), .val (.int p), s6, .ownD (kd td), s8, s9] ∧ Tb n td ∧ ∀ k : Int, 0 ≤ k → k < (n : Int) → val td k = sumAt (fun j => j) l k - sumAt (fun j => (j + (n : Int) / p) % n) l k)
    (fun δ ⟨td, s8, s9, a, b, c⟩ => ⟨td, s8, s9, a, b, by rw [List.length_map, List.take_length] at c; exact c⟩)
    (fun i dd δ ed ⟨td, s8, s9, eδ, a1, a2⟩ => by
      subst eδ
      rw [List.getElem?_map] at ed
      cases eq : l[i]? with
      | none => rw [eq] at ed; cases ed
      | some q =>
        rw [eq] at ed
        cases ed
        obtain ⟨q0, q1, _, _⟩ := (h.mem q).mp (List.mem_of_getElem? eq)
        have tk : l.take (i + 1) = l.take i ++ [q] := by rw [List.take_succ, eq]; rfl
        rw [tk]
        have g0 : 0 ≤ (q.1 + (n : Int) / p) % n := Int.emod_nonneg _ (by omega)
        have g1 : (q.1 + (n : Int) / p) % n < n := Int.emod_lt_of_pos _ (by omega)
        have hl : (kd td).length < 16777216 := by have := a1.len (by omega); rw [kd_len]; omega
        have b1 := a1.put (val td q.1 + q.2) q0 q1
        have pk := put_kd q.1 (val td q.1 + q.2) td a1.nd
        have hl2 : (kd (ptI td q.1 (val td q.1 + q.2))).length < 16777216 := by have := b1.len (by omega); rw [kd_len]; omega
        have pk2 := put_kd ((q.1 + (n : Int) / p) % n) (val (ptI td q.1 (val td q.1 + q.2)) ((q.1 + (n : Int) / p) % n) - q.2) _ b1.nd
        have vp := fun j => val_pt td q.1 (val td q.1 + q.2) j
        refine ⟨_, [.val v0, .val (.int n), s2, s3, .val (pL l), .val (.int p), s6, .ownD (kd (ptI (ptI td q.1 (val td q.1 + q.2)) ((q.1 + (n : Int) / p) % n) (val (ptI td q.1 (val td q.1 + q.2)) ((q.1 + (n : Int) / p) % n) - q.2))), .val (DW.pairD q), .val (.int ((q.1 + (n : Int) / p) % n))], rfl,
          .inl ⟨.inl ?_, _, _, _, rfl, b1.put _ g0 g1, fun k k0 k1 => ?_⟩⟩
        · generalize hz : (q.1 + (n : Int) / p) % n = z at *
          generalize ptI td q.1 (val td q.1 + q.2) = td1 at *
          generalize ((n : Nat) : Int) = m at *
          generalize ((p : Nat) : Int) = pp at *
          have hm : 0 < m := by omega
          simp -implicitDefEqProofs [B_l_left_1, r_bind, r_b1, r_b2, r_b3, r_ret, r_frz1, r_frz2, r_frz3, r_frz4, r_rd1, r_rd2, r_rs1, r_rs2, r_rs3, r_var, r_v1, r_v2, r_v3, r_v4, r_c, r_opnd, r_o1, r_o2, r_rdM, r_opt1, r_lift1, r_eOp, r_eUn, r_boolM, r_tB, r_optB, r_tru, r_and, r_or, r_not, r_bE, r_eAnd, r_eOr, r_eNot, r_eIf, r_condT, r_condF, r_aNil, r_aCons, r_rdsM, r_rdsN, r_rdsC, r_eB, r_nb1, r_nb2, r_vN, r_vC, r_tup, r_lst, r_fits, r_fits0, r_fits1, r_fits2, r_fits3, r_fits4, r_callN, r_callD, r_callM, r_call1, r_argB, r_argB1, r_argB2, r_argV, r_argN, r_back0, r_back0x, r_back1, r_back1x, r_setC, r_set1, r_set2, r_seq, r_s1, r_s2, r_s3, r_s4, r_s5, r_sNil, r_sRet, r_sRetN, r_sExpr, r_sIf, r_sBrk, r_sCont, r_asg, r_asgV, r_a1, r_a2, r_a3, r_a4, r_sFrz, r_fz1, r_fz2, r_fz3, r_raise, r_curL, r_cs1, r_cs2, r_st1, r_storeR, r_stoR, r_stoS, r_mut, r_mutR, r_mutL, r_mutS, r_pApp, r_sFor, r_forN, r_loop, r_forC, r_forR, r_l1, r_l2, r_l3, r_l4, r_l5, r_iRg, r_rg, r_iRg2, r_rg2, r_iSq, r_sq1, r_sq2, r_gN, r_fn, r_f1, r_f2, r_f3, r_f4, r_fin1, r_fin2, r_fin3, r_fin4, r_fb1, r_fb2, r_fin5, r_fin6, r_fin7, r_fc1, r_dAdd, r_dAddL, r_dSub, r_dMul, r_dMod, r_dDiv, r_dPow, r_dNeg, r_dLt, r_dLe, r_dGt, r_dGe, r_nInt, r_nIntB, r_nAbs, r_nLenL, r_nLenT, r_nLenD, r_nMax2, r_nMin2, r_ixL, r_ixT, r_nListL, r_nListT, r_nTupL, r_nDict, r_tru1, r_tru2, r_tru3, r_tru4, r_tru5, r_pExt, r_pIns, r_eqII, r_eqBB, r_neII, r_isN1, r_isN2, r_isN3, r_isN4, r_isN5, r_isN6, r_isi, r_chain, r_ch1, r_ch2, r_rdDict, r_undictD, r_key, r_get2, r_or1, r_or2, r_dix, r_dnew, r_curD, r_ce, r_valOf, r_dput, r_put, r_dictAt, r_dicS, r_eLock, r_sLock, r_lok, r_iDk, r_iDi, r_mapR, r_gT, r_tupT, r_gsN, r_gsC, r_gsR, r_aug, r_aug1, r_addI, r_while, r_sPar, r_oN, r_oS, r_part, r_eSl, r_slTo, r_slFrom, atI, ixN, env0, DW.pairD, d1, hm, hz, look_kd, r_gt0, hl, pk, hl2, pk2]
        · have A := a2 k k0 k1
          have Vk := vp k
          rw [val_pt, sumAt_snoc, sumAt_snoc]
          generalize (q.1 + (n : Int) / p) % n = to at *
          generalize sumAt (fun j => j) (l.take i) k = S1 at *
          generalize sumAt (fun j => (j + (n : Int) / p) % n) (l.take i) k = S2 at *
          by_cases c1 : k = to
          · rw [if_pos c1, if_pos c1.symm, ← c1, Vk]
            by_cases c2 : k = q.1
            · rw [if_pos c2, if_pos c2.symm, ← c2]; omega
            · rw [if_neg c2, if_neg fun z => c2 z.symm]; omega
          · rw [if_neg c1, if_neg (fun z => c1 z.symm : ¬ to = k), Vk]
            by_cases c2 : k = q.1
            · rw [if_pos c2, if_pos c2.symm, ← c2]; omega
            · rw [if_neg c2, if_neg (fun z => c2 z.symm : ¬ q.1 = k)]; omega)
    [.val v0, .val (.int n), s2, s3, .val (pL l), .val (.int p), s6, .ownD (kd []), s8, s9] ⟨[], s8, s9, rfl, ⟨List.nodup_nil, fun k hk => by simp [keys] at hk⟩, fun k _ _ => rfl⟩
  refine ⟨td, s8', s9', e1, ht, fun k k0 k1 => ?_⟩
  rw [hv k k0 k1, sumAt_val (q := k) t0.t.nd fun j _ => Iff.rfl, sumAt_val (q := (k - (n : Int) / p) % n) t0.t.nd fun j hj => sub_iff (by omega) (t0.t.rg j hj).1 (t0.t.rg j hj).2 k0 k1,
    t0.v k k0 k1, t0.v _ (Int.emod_nonneg _ (by omega)) (Int.emod_lt_of_pos _ (by omega)), per]
  rfl
end K61

set_option Elab.async false
set_option linter.all false
set_option maxRecDepth 100000
set_option maxHeartbeats 4000000
namespace K61
open PySem PySem.Spec PyProof.Rows L2 DW
/-- [(at, table[at]) for at in table if table[at] != 0] -/
theorem lc7 {n : Nat} (hN : 1 ≤ n) (hN2 : n ≤ 1000000) {td : Tab} (ht : Tb n td) {v0 v1 : D} {s2 s3 s4 s5 s6 s8 s9 : Sl} (o6 : s6.isOwn = false) :
    eLc (iDk 7) (gN 6) (tB' (eOp dNe (eDix (eVar 7) (eVar 6)) (eC (.int 0)))) (eTup (aCons (eVar 6) (aCons (eDix (eVar 7) (eVar 6)) aNil))) [6] [.val v0, .val v1, s2, s3, s4, s5, s6, .val (dictD (kd td)), s8, s9] = .ok (.own ((nzF td).map DW.pairD)) [.val v0, .val v1, s2, s3, s4, s5, s6, .val (dictD (kd td)), s8, s9] := by
  have ed := eLc_pure (src := iDk 7) (tgt := gN 6) (cond := tB' (eOp dNe (eDix (eVar 7) (eVar 6)) (eC (.int 0)))) (elt := eTup (aCons (eVar 6) (aCons (eDix (eVar 7) (eVar 6)) aNil))) (vs := [6])
    (δ := [.val v0, .val v1, s2, s3, s4, s5, s6, .val (dictD (kd td)), s8, s9]) (ds := (keys td).map PyData.int)
    (fun d => match d with
      | .int k => if val td k = 0 then none else some (DW.pairD (k, val td k))
      | _ => none)
    (by simp -implicitDefEqProofs [r_bind, r_b1, r_b2, r_b3, r_ret, r_frz1, r_frz2, r_frz3, r_frz4, r_rd1, r_rd2, r_rs1, r_rs2, r_rs3, r_var, r_v1, r_v2, r_v3, r_v4, r_c, r_opnd, r_o1, r_o2, r_rdM, r_opt1, r_lift1, r_eOp, r_eUn, r_boolM, r_tB, r_optB, r_tru, r_and, r_or, r_not, r_bE, r_eAnd, r_eOr, r_eNot, r_eIf, r_condT, r_condF, r_aNil, r_aCons, r_rdsM, r_rdsN, r_rdsC, r_eB, r_nb1, r_nb2, r_vN, r_vC, r_tup, r_lst, r_fits, r_fits0, r_fits1, r_fits2, r_fits3, r_fits4, r_callN, r_callD, r_callM, r_call1, r_argB, r_argB1, r_argB2, r_argV, r_argN, r_back0, r_back0x, r_back1, r_back1x, r_setC, r_set1, r_set2, r_seq, r_s1, r_s2, r_s3, r_s4, r_s5, r_sNil, r_sRet, r_sRetN, r_sExpr, r_sIf, r_sBrk, r_sCont, r_asg, r_asgV, r_a1, r_a2, r_a3, r_a4, r_sFrz, r_fz1, r_fz2, r_fz3, r_raise, r_curL, r_cs1, r_cs2, r_st1, r_storeR, r_stoR, r_stoS, r_mut, r_mutR, r_mutL, r_mutS, r_pApp, r_sFor, r_forN, r_loop, r_forC, r_forR, r_l1, r_l2, r_l3, r_l4, r_l5, r_iRg, r_rg, r_iRg2, r_rg2, r_iSq, r_sq1, r_sq2, r_gN, r_fn, r_f1, r_f2, r_f3, r_f4, r_fin1, r_fin2, r_fin3, r_fin4, r_fb1, r_fb2, r_fin5, r_fin6, r_fin7, r_fc1, r_dAdd, r_dAddL, r_dSub, r_dMul, r_dMod, r_dDiv, r_dPow, r_dNeg, r_dLt, r_dLe, r_dGt, r_dGe, r_nInt, r_nIntB, r_nAbs, r_nLenL, r_nLenT, r_nLenD, r_nMax2, r_nMin2, r_ixL, r_ixT, r_nListL, r_nListT, r_nTupL, r_nDict, r_tru1, r_tru2, r_tru3, r_tru4, r_tru5, r_pExt, r_pIns, r_eqII, r_eqBB, r_neII, r_isN1, r_isN2, r_isN3, r_isN4, r_isN5, r_isN6, r_isi, r_chain, r_ch1, r_ch2, r_rdDict, r_undictD, r_key, r_get2, r_or1, r_or2, r_dix, r_dnew, r_curD, r_ce, r_valOf, r_dput, r_put, r_dictAt, r_dicS, r_eLock, r_sLock, r_lok, r_iDk, r_iDi, r_mapR, r_gT, r_tupT, r_gsN, r_gsC, r_gsR, r_aug, r_aug1, r_addI, r_while, r_sPar, r_oN, r_oS, r_part, r_eSl, r_slTo, r_slFrom, atI, ixN, env0]; exact kd_keys td) (by simp [DW.freeOf, o6]) rfl
    (fun d hd => by
      obtain ⟨k, hk, rfl⟩ := List.mem_map.mp hd
      have lk := lk_keys hk
      refine ⟨[.val v0, .val v1, s2, s3, s4, s5, .val (.int k), .val (dictD (kd td)), s8, s9], rfl, ?_⟩
      by_cases z : val td k = 0
      · exact .inl ⟨[.val v0, .val v1, s2, s3, s4, s5, .val (.int k), .val (dictD (kd td)), s8, s9], by simp -implicitDefEqProofs [r_bind, r_b1, r_b2, r_b3, r_ret, r_frz1, r_frz2, r_frz3, r_frz4, r_rd1, r_rd2, r_rs1, r_rs2, r_rs3, r_var, r_v1, r_v2, r_v3, r_v4, r_c, r_opnd, r_o1, r_o2, r_rdM, r_opt1, r_lift1, r_eOp, r_eUn, r_boolM, r_tB, r_optB, r_tru, r_and, r_or, r_not, r_bE, r_eAnd, r_eOr, r_eNot, r_eIf, r_condT, r_condF, r_aNil, r_aCons, r_rdsM, r_rdsN, r_rdsC, r_eB, r_nb1, r_nb2, r_vN, r_vC, r_tup, r_lst, r_fits, r_fits0, r_fits1, r_fits2, r_fits3, r_fits4, r_callN, r_callD, r_callM, r_call1, r_argB, r_argB1, r_argB2, r_argV, r_argN, r_back0, r_back0x, r_back1, r_back1x, r_setC, r_set1, r_set2, r_seq, r_s1, r_s2, r_s3, r_s4, r_s5, r_sNil, r_sRet, r_sRetN, r_sExpr, r_sIf, r_sBrk, r_sCont, r_asg, r_asgV, r_a1, r_a2, r_a3, r_a4, r_sFrz, r_fz1, r_fz2, r_fz3, r_raise, r_curL, r_cs1, r_cs2, r_st1, r_storeR, r_stoR, r_stoS, r_mut, r_mutR, r_mutL, r_mutS, r_pApp, r_sFor, r_forN, r_loop, r_forC, r_forR, r_l1, r_l2, r_l3, r_l4, r_l5, r_iRg, r_rg, r_iRg2, r_rg2, r_iSq, r_sq1, r_sq2, r_gN, r_fn, r_f1, r_f2, r_f3, r_f4, r_fin1, r_fin2, r_fin3, r_fin4, r_fb1, r_fb2, r_fin5, r_fin6, r_fin7, r_fc1, r_dAdd, r_dAddL, r_dSub, r_dMul, r_dMod, r_dDiv, r_dPow, r_dNeg, r_dLt, r_dLe, r_dGt, r_dGe, r_nInt, r_nIntB, r_nAbs, r_nLenL, r_nLenT, r_nLenD, r_nMax2, r_nMin2, r_ixL, r_ixT, r_nListL, r_nListT, r_nTupL, r_nDict, r_tru1, r_tru2, r_tru3, r_tru4, r_tru5, r_pExt, r_pIns, r_eqII, r_eqBB, r_neII, r_isN1, r_isN2, r_isN3, r_isN4, r_isN5, r_isN6, r_isi, r_chain, r_ch1, r_ch2, r_rdDict, r_undictD, r_key, r_get2, r_or1, r_or2, r_dix, r_dnew, r_curD, r_ce, r_valOf, r_dput, r_put, r_dictAt, r_dicS, r_eLock, r_sLock, r_lok, r_iDk, r_iDi, r_mapR, r_gT, r_tupT, r_gsN, r_gsC, r_gsR, r_aug, r_aug1, r_addI, r_while, r_sPar, r_oN, r_oS, r_part, r_eSl, r_slTo, r_slFrom, atI, ixN, env0, look_kd, lk, z], rfl, by simp [z]⟩
      · exact .inr ⟨[.val v0, .val v1, s2, s3, s4, s5, .val (.int k), .val (dictD (kd td)), s8, s9], [.val v0, .val v1, s2, s3, s4, s5, .val (.int k), .val (dictD (kd td)), s8, s9], DW.pairD (k, val td k), by simp -implicitDefEqProofs [r_bind, r_b1, r_b2, r_b3, r_ret, r_frz1, r_frz2, r_frz3, r_frz4, r_rd1, r_rd2, r_rs1, r_rs2, r_rs3, r_var, r_v1, r_v2, r_v3, r_v4, r_c, r_opnd, r_o1, r_o2, r_rdM, r_opt1, r_lift1, r_eOp, r_eUn, r_boolM, r_tB, r_optB, r_tru, r_and, r_or, r_not, r_bE, r_eAnd, r_eOr, r_eNot, r_eIf, r_condT, r_condF, r_aNil, r_aCons, r_rdsM, r_rdsN, r_rdsC, r_eB, r_nb1, r_nb2, r_vN, r_vC, r_tup, r_lst, r_fits, r_fits0, r_fits1, r_fits2, r_fits3, r_fits4, r_callN, r_callD, r_callM, r_call1, r_argB, r_argB1, r_argB2, r_argV, r_argN, r_back0, r_back0x, r_back1, r_back1x, r_setC, r_set1, r_set2, r_seq, r_s1, r_s2, r_s3, r_s4, r_s5, r_sNil, r_sRet, r_sRetN, r_sExpr, r_sIf, r_sBrk, r_sCont, r_asg, r_asgV, r_a1, r_a2, r_a3, r_a4, r_sFrz, r_fz1, r_fz2, r_fz3, r_raise, r_curL, r_cs1, r_cs2, r_st1, r_storeR, r_stoR, r_stoS, r_mut, r_mutR, r_mutL, r_mutS, r_pApp, r_sFor, r_forN, r_loop, r_forC, r_forR, r_l1, r_l2, r_l3, r_l4, r_l5, r_iRg, r_rg, r_iRg2, r_rg2, r_iSq, r_sq1, r_sq2, r_gN, r_fn, r_f1, r_f2, r_f3, r_f4, r_fin1, r_fin2, r_fin3, r_fin4, r_fb1, r_fb2, r_fin5, r_fin6, r_fin7, r_fc1, r_dAdd, r_dAddL, r_dSub, r_dMul, r_dMod, r_dDiv, r_dPow, r_dNeg, r_dLt, r_dLe, r_dGt, r_dGe, r_nInt, r_nIntB, r_nAbs, r_nLenL, r_nLenT, r_nLenD, r_nMax2, r_nMin2, r_ixL, r_ixT, r_nListL, r_nListT, r_nTupL, r_nDict, r_tru1, r_tru2, r_tru3, r_tru4, r_tru5, r_pExt, r_pIns, r_eqII, r_eqBB, r_neII, r_isN1, r_isN2, r_isN3, r_isN4, r_isN5, r_isN6, r_isi, r_chain, r_ch1, r_ch2, r_rdDict, r_undictD, r_key, r_get2, r_or1, r_or2, r_dix, r_dnew, r_curD, r_ce, r_valOf, r_dput, r_put, r_dictAt, r_dicS, r_eLock, r_sLock, r_lok, r_iDk, r_iDi, r_mapR, r_gT, r_tupT, r_gsN, r_gsC, r_gsR, r_aug, r_aug1, r_addI, r_while, r_sPar, r_oN, r_oS, r_part, r_eSl, r_slTo, r_slFrom, atI, ixN, env0, look_kd, lk, z], by simp -implicitDefEqProofs [r_bind, r_b1, r_b2, r_b3, r_ret, r_frz1, r_frz2, r_frz3, r_frz4, r_rd1, r_rd2, r_rs1, r_rs2, r_rs3, r_var, r_v1, r_v2, r_v3, r_v4, r_c, r_opnd, r_o1, r_o2, r_rdM, r_opt1, r_lift1, r_eOp, r_eUn, r_boolM, r_tB, r_optB, r_tru, r_and, r_or, r_not, r_bE, r_eAnd, r_eOr, r_eNot, r_eIf, r_condT, r_condF, r_aNil, r_aCons, r_rdsM, r_rdsN, r_rdsC, r_eB, r_nb1, r_nb2, r_vN, r_vC, r_tup, r_lst, r_fits, r_fits0, r_fits1, r_fits2, r_fits3, r_fits4, r_callN, r_callD, r_callM, r_call1, r_argB, r_argB1, r_argB2, r_argV, r_argN, r_back0, r_back0x, r_back1, r_back1x, r_setC, r_set1, r_set2, r_seq, r_s1, r_s2, r_s3, r_s4, r_s5, r_sNil, r_sRet, r_sRetN, r_sExpr, r_sIf, r_sBrk, r_sCont, r_asg, r_asgV, r_a1, r_a2, r_a3, r_a4, r_sFrz, r_fz1, r_fz2, r_fz3, r_raise, r_curL, r_cs1, r_cs2, r_st1, r_storeR, r_stoR, r_stoS, r_mut, r_mutR, r_mutL, r_mutS, r_pApp, r_sFor, r_forN, r_loop, r_forC, r_forR, r_l1, r_l2, r_l3, r_l4, r_l5, r_iRg, r_rg, r_iRg2, r_rg2, r_iSq, r_sq1, r_sq2, r_gN, r_fn, r_f1, r_f2, r_f3, r_f4, r_fin1, r_fin2, r_fin3, r_fin4, r_fb1, r_fb2, r_fin5, r_fin6, r_fin7, r_fc1, r_dAdd, r_dAddL, r_dSub, r_dMul, r_dMod, r_dDiv, r_dPow, r_dNeg, r_dLt, r_dLe, r_dGt, r_dGe, r_nInt, r_nIntB, r_nAbs, r_nLenL, r_nLenT, r_nLenD, r_nMax2, r_nMin2, r_ixL, r_ixT, r_nListL, r_nListT, r_nTupL, r_nDict, r_tru1, r_tru2, r_tru3, r_tru4, r_tru5, r_pExt, r_pIns, r_eqII, r_eqBB, r_neII, r_isN1, r_isN2, r_isN3, r_isN4, r_isN5, r_isN6, r_isi, r_chain, r_ch1, r_ch2, r_rdDict, r_undictD, r_key, r_get2, r_or1, r_or2, r_dix, r_dnew, r_curD, r_ce, r_valOf, r_dput, r_put, r_dictAt, r_dicS, r_eLock, r_sLock, r_lok, r_iDk, r_iDi, r_mapR, r_gT, r_tupT, r_gsN, r_gsC, r_gsR, r_aug, r_aug1, r_addI, r_while, r_sPar, r_oN, r_oS, r_part, r_eSl, r_slTo, r_slFrom, atI, ixN, env0, look_kd, lk, DW.pairD], rfl, by simp [z]⟩)
    (by rw [List.length_map]; have := ht.len (by omega); unfold keys; rw [List.length_map]; omega)
  rw [fm_keys ht.nd _ fun k _ => rfl] at ed
  exact ed
theorem lc2 {n : Nat} (hN : 1 ≤ n) (hN2 : n ≤ 1000000) {td : Tab} (ht : Tb n td) {v0 v1 : D} {s3 s4 s5 s6 s7 s8 s9 : Sl} (o6 : s6.isOwn = false) :
    eLc (iDk 2) (gN 6) tYes' (eTup (aCons (eVar 6) (aCons (eDix (eVar 2) (eVar 6)) aNil))) [6] [.val v0, .val v1, .val (dictD (kd td)), s3, s4, s5, s6, s7, s8, s9] = .ok (.own (td.map DW.pairD)) [.val v0, .val v1, .val (dictD (kd td)), s3, s4, s5, s6, s7, s8, s9] := by
  have ed := eLc_pure (src := iDk 2) (tgt := gN 6) (cond := tYes') (elt := eTup (aCons (eVar 6) (aCons (eDix (eVar 2) (eVar 6)) aNil))) (vs := [6])
    (δ := [.val v0, .val v1, .val (dictD (kd td)), s3, s4, s5, s6, s7, s8, s9]) (ds := (keys td).map PyData.int)
    (fun d => match d with
      | .int k => some (DW.pairD (k, val td k))
      | _ => none)
    (by simp -implicitDefEqProofs [r_bind, r_b1, r_b2, r_b3, r_ret, r_frz1, r_frz2, r_frz3, r_frz4, r_rd1, r_rd2, r_rs1, r_rs2, r_rs3, r_var, r_v1, r_v2, r_v3, r_v4, r_c, r_opnd, r_o1, r_o2, r_rdM, r_opt1, r_lift1, r_eOp, r_eUn, r_boolM, r_tB, r_optB, r_tru, r_and, r_or, r_not, r_bE, r_eAnd, r_eOr, r_eNot, r_eIf, r_condT, r_condF, r_aNil, r_aCons, r_rdsM, r_rdsN, r_rdsC, r_eB, r_nb1, r_nb2, r_vN, r_vC, r_tup, r_lst, r_fits, r_fits0, r_fits1, r_fits2, r_fits3, r_fits4, r_callN, r_callD, r_callM, r_call1, r_argB, r_argB1, r_argB2, r_argV, r_argN, r_back0, r_back0x, r_back1, r_back1x, r_setC, r_set1, r_set2, r_seq, r_s1, r_s2, r_s3, r_s4, r_s5, r_sNil, r_sRet, r_sRetN, r_sExpr, r_sIf, r_sBrk, r_sCont, r_asg, r_asgV, r_a1, r_a2, r_a3, r_a4, r_sFrz, r_fz1, r_fz2, r_fz3, r_raise, r_curL, r_cs1, r_cs2, r_st1, r_storeR, r_stoR, r_stoS, r_mut, r_mutR, r_mutL, r_mutS, r_pApp, r_sFor, r_forN, r_loop, r_forC, r_forR, r_l1, r_l2, r_l3, r_l4, r_l5, r_iRg, r_rg, r_iRg2, r_rg2, r_iSq, r_sq1, r_sq2, r_gN, r_fn, r_f1, r_f2, r_f3, r_f4, r_fin1, r_fin2, r_fin3, r_fin4, r_fb1, r_fb2, r_fin5, r_fin6, r_fin7, r_fc1, r_dAdd, r_dAddL, r_dSub, r_dMul, r_dMod, r_dDiv, r_dPow, r_dNeg, r_dLt, r_dLe, r_dGt, r_dGe, r_nInt, r_nIntB, r_nAbs, r_nLenL, r_nLenT, r_nLenD, r_nMax2, r_nMin2, r_ixL, r_ixT, r_nListL, r_nListT, r_nTupL, r_nDict, r_tru1, r_tru2, r_tru3, r_tru4, r_tru5, r_pExt, r_pIns, r_eqII, r_eqBB, r_neII, r_isN1, r_isN2, r_isN3, r_isN4, r_isN5, r_isN6, r_isi, r_chain, r_ch1, r_ch2, r_rdDict, r_undictD, r_key, r_get2, r_or1, r_or2, r_dix, r_dnew, r_curD, r_ce, r_valOf, r_dput, r_put, r_dictAt, r_dicS, r_eLock, r_sLock, r_lok, r_iDk, r_iDi, r_mapR, r_gT, r_tupT, r_gsN, r_gsC, r_gsR, r_aug, r_aug1, r_addI, r_while, r_sPar, r_oN, r_oS, r_part, r_eSl, r_slTo, r_slFrom, atI, ixN, env0]; exact kd_keys td) (by simp [DW.freeOf, o6]) rfl
    (fun d hd => by
      obtain ⟨k, hk, rfl⟩ := List.mem_map.mp hd
      have lk := lk_keys hk
      exact ⟨[.val v0, .val v1, .val (dictD (kd td)), s3, s4, s5, .val (.int k), s7, s8, s9], rfl, .inr ⟨[.val v0, .val v1, .val (dictD (kd td)), s3, s4, s5, .val (.int k), s7, s8, s9], [.val v0, .val v1, .val (dictD (kd td)), s3, s4, s5, .val (.int k), s7, s8, s9], DW.pairD (k, val td k), rfl, by simp -implicitDefEqProofs [r_bind, r_b1, r_b2, r_b3, r_ret, r_frz1, r_frz2, r_frz3, r_frz4, r_rd1, r_rd2, r_rs1, r_rs2, r_rs3, r_var, r_v1, r_v2, r_v3, r_v4, r_c, r_opnd, r_o1, r_o2, r_rdM, r_opt1, r_lift1, r_eOp, r_eUn, r_boolM, r_tB, r_optB, r_tru, r_and, r_or, r_not, r_bE, r_eAnd, r_eOr, r_eNot, r_eIf, r_condT, r_condF, r_aNil, r_aCons, r_rdsM, r_rdsN, r_rdsC, r_eB, r_nb1, r_nb2, r_vN, r_vC, r_tup, r_lst, r_fits, r_fits0, r_fits1, r_fits2, r_fits3, r_fits4, r_callN, r_callD, r_callM, r_call1, r_argB, r_argB1, r_argB2, r_argV, r_argN, r_back0, r_back0x, r_back1, r_back1x, r_setC, r_set1, r_set2, r_seq, r_s1, r_s2, r_s3, r_s4, r_s5, r_sNil, r_sRet, r_sRetN, r_sExpr, r_sIf, r_sBrk, r_sCont, r_asg, r_asgV, r_a1, r_a2, r_a3, r_a4, r_sFrz, r_fz1, r_fz2, r_fz3, r_raise, r_curL, r_cs1, r_cs2, r_st1, r_storeR, r_stoR, r_stoS, r_mut, r_mutR, r_mutL, r_mutS, r_pApp, r_sFor, r_forN, r_loop, r_forC, r_forR, r_l1, r_l2, r_l3, r_l4, r_l5, r_iRg, r_rg, r_iRg2, r_rg2, r_iSq, r_sq1, r_sq2, r_gN, r_fn, r_f1, r_f2, r_f3, r_f4, r_fin1, r_fin2, r_fin3, r_fin4, r_fb1, r_fb2, r_fin5, r_fin6, r_fin7, r_fc1, r_dAdd, r_dAddL, r_dSub, r_dMul, r_dMod, r_dDiv, r_dPow, r_dNeg, r_dLt, r_dLe, r_dGt, r_dGe, r_nInt, r_nIntB, r_nAbs, r_nLenL, r_nLenT, r_nLenD, r_nMax2, r_nMin2, r_ixL, r_ixT, r_nListL, r_nListT, r_nTupL, r_nDict, r_tru1, r_tru2, r_tru3, r_tru4, r_tru5, r_pExt, r_pIns, r_eqII, r_eqBB, r_neII, r_isN1, r_isN2, r_isN3, r_isN4, r_isN5, r_isN6, r_isi, r_chain, r_ch1, r_ch2, r_rdDict, r_undictD, r_key, r_get2, r_or1, r_or2, r_dix, r_dnew, r_curD, r_ce, r_valOf, r_dput, r_put, r_dictAt, r_dicS, r_eLock, r_sLock, r_lok, r_iDk, r_iDi, r_mapR, r_gT, r_tupT, r_gsN, r_gsC, r_gsR, r_aug, r_aug1, r_addI, r_while, r_sPar, r_oN, r_oS, r_part, r_eSl, r_slTo, r_slFrom, atI, ixN, env0, look_kd, lk, DW.pairD], rfl, rfl⟩⟩)
    (by rw [List.length_map]; have := ht.len (by omega); unfold keys; rw [List.length_map]; omega)
  rw [fm_keys1 ht.nd _ fun k _ => rfl] at ed
  exact ed
theorem cnt_loop {n : Nat} (hN : 1 ≤ n) (hN2 : n ≤ 1000000) (xs : List Int) : ∃ td sl3 sl6, forL (gN 3) B_l_left_3 (xs.map PyData.int) [.val (iL xs), .val (.int n), .ownD [], .un, .un, .un, .un, .un, .un, .un] = .ok .nx [.val (iL xs), .val (.int n), .ownD (kd td), sl3, .un, .un, sl6, .un, .un, .un] ∧ TbF n td (cnt n xs) ∧ NZ td ∧ sl6.isOwn = false := by
  have hn1 : 0 < n := hN
  obtain ⟨δ1, e1, td, sl3, sl6, rfl, ht, hv, hp, o6⟩ := forL_ix (tgt := gN 3) (s := B_l_left_3) (xs.map PyData.int)
    (fun i δ => ∃ (td : Tab) (sl3 sl6 : Sl), δ = [.val (iL xs), .val (.int n), .ownD (kd td), sl3, .un, .un, sl6, .un, .un, .un] ∧ Tb n td ∧ (∀ k : Int, 0 ≤ k → k < (n : Int) → val td k = cnt n (xs.take i) k) ∧ (∀ p ∈ td, 0 < p.2) ∧ sl6.isOwn = false)
    (fun δ => ∃ (td : Tab) (sl3 sl6 : Sl), δ = [.val (iL xs), .val (.int n), .ownD (kd td), sl3, .un, .un, sl6, .un, .un, .un] ∧ Tb n td ∧ (∀ k : Int, 0 ≤ k → k < (n : Int) → val td k = cnt n xs k) ∧ (∀ p ∈ td, 0 < p.2) ∧ sl6.isOwn = false)
    (fun δ ⟨td, sl3, sl6, a, b, c, d, e⟩ => ⟨td, sl3, sl6, a, b, by rw [List.length_map, List.take_length] at c; exact c, d, e⟩)
    (fun i dd δ ed ⟨td, sl3, sl6, eδ, a1, a2, a3, a4⟩ => by
      subst eδ
      rw [List.getElem?_map] at ed
      cases eq : xs[i]? with
      | none => rw [eq] at ed; cases ed
      | some x =>
        rw [eq] at ed
        cases ed
        have tk : xs.take (i + 1) = xs.take i ++ [x] := by rw [List.take_succ, eq]; rfl
        rw [tk]
        have g0 : 0 ≤ x % (n : Int) := Int.emod_nonneg _ (by omega)
        have g1 : x % (n : Int) < (n : Int) := Int.emod_lt_of_pos _ (by omega)
        have hl : (kd td).length < 16777216 := by have := a1.len (by omega); rw [kd_len]; omega
        have pk := put_kd (x % (n : Int)) (val td (x % (n : Int)) + 1) td a1.nd
        refine ⟨_, [.val (iL xs), .val (.int n), .ownD (kd (ptI td (x % (n : Int)) (val td (x % (n : Int)) + 1))), .val (.int x), .un, .un, .val (.int (x % (n : Int))), .un, .un, .un], rfl,
          .inl ⟨.inl ?_, _, _, _, rfl, a1.put _ g0 g1, fun k k0 k1 => ?_, fun p hp => ?_, rfl⟩⟩
        · simp -implicitDefEqProofs [B_l_left_3, r_bind, r_b1, r_b2, r_b3, r_ret, r_frz1, r_frz2, r_frz3, r_frz4, r_rd1, r_rd2, r_rs1, r_rs2, r_rs3, r_var, r_v1, r_v2, r_v3, r_v4, r_c, r_opnd, r_o1, r_o2, r_rdM, r_opt1, r_lift1, r_eOp, r_eUn, r_boolM, r_tB, r_optB, r_tru, r_and, r_or, r_not, r_bE, r_eAnd, r_eOr, r_eNot, r_eIf, r_condT, r_condF, r_aNil, r_aCons, r_rdsM, r_rdsN, r_rdsC, r_eB, r_nb1, r_nb2, r_vN, r_vC, r_tup, r_lst, r_fits, r_fits0, r_fits1, r_fits2, r_fits3, r_fits4, r_callN, r_callD, r_callM, r_call1, r_argB, r_argB1, r_argB2, r_argV, r_argN, r_back0, r_back0x, r_back1, r_back1x, r_setC, r_set1, r_set2, r_seq, r_s1, r_s2, r_s3, r_s4, r_s5, r_sNil, r_sRet, r_sRetN, r_sExpr, r_sIf, r_sBrk, r_sCont, r_asg, r_asgV, r_a1, r_a2, r_a3, r_a4, r_sFrz, r_fz1, r_fz2, r_fz3, r_raise, r_curL, r_cs1, r_cs2, r_st1, r_storeR, r_stoR, r_stoS, r_mut, r_mutR, r_mutL, r_mutS, r_pApp, r_sFor, r_forN, r_loop, r_forC, r_forR, r_l1, r_l2, r_l3, r_l4, r_l5, r_iRg, r_rg, r_iRg2, r_rg2, r_iSq, r_sq1, r_sq2, r_gN, r_fn, r_f1, r_f2, r_f3, r_f4, r_fin1, r_fin2, r_fin3, r_fin4, r_fb1, r_fb2, r_fin5, r_fin6, r_fin7, r_fc1, r_dAdd, r_dAddL, r_dSub, r_dMul, r_dMod, r_dDiv, r_dPow, r_dNeg, r_dLt, r_dLe, r_dGt, r_dGe, r_nInt, r_nIntB, r_nAbs, r_nLenL, r_nLenT, r_nLenD, r_nMax2, r_nMin2, r_ixL, r_ixT, r_nListL, r_nListT, r_nTupL, r_nDict, r_tru1, r_tru2, r_tru3, r_tru4, r_tru5, r_pExt, r_pIns, r_eqII, r_eqBB, r_neII, r_isN1, r_isN2, r_isN3, r_isN4, r_isN5, r_isN6, r_isi, r_chain, r_ch1, r_ch2, r_rdDict, r_undictD, r_key, r_get2, r_or1, r_or2, r_dix, r_dnew, r_curD, r_ce, r_valOf, r_dput, r_put, r_dictAt, r_dicS, r_eLock, r_sLock, r_lok, r_iDk, r_iDi, r_mapR, r_gT, r_tupT, r_gsN, r_gsC, r_gsR, r_aug, r_aug1, r_addI, r_while, r_sPar, r_oN, r_oS, r_part, r_eSl, r_slTo, r_slFrom, atI, ixN, env0, hn1, look_kd, r_gt0, hl, pk]
        · rw [val_pt, cnt_snoc, Int.emod_eq_of_lt k0 k1, a2 k k0 k1]
          by_cases e : k = x % (n : Int)
          · rw [if_pos e, if_pos e.symm, ← e, a2 k k0 k1]
          · rw [if_neg e, if_neg fun z => e z.symm]; omega
        · rcases mem_pt hp with e | e
          · subst e
            have := cnt_nn n (xs.take i) (x % (n : Int))
            rw [← a2 _ g0 g1] at this
            show 0 < val td (x % (n : Int)) + 1
            omega
          · exact a3 p e)
    [.val (iL xs), .val (.int n), .ownD (kd []), .un, .un, .un, .un, .un, .un, .un] ⟨[], .un, .un, rfl, ⟨List.nodup_nil, fun k hk => by simp [keys] at hk⟩, fun k _ _ => rfl, fun p hp => by simp at hp, rfl⟩
  exact ⟨td, sl3, sl6, e1, ⟨ht, hv⟩, fun p hp' => by have := hp p hp'; omega, o6⟩
theorem left_eq {n : Nat} (hN : 1 ≤ n) (hN2 : n ≤ 1000000) (xs : List Int) : ∃ l ps, PR n ps ∧ Is n l (TT n ps (cnt n xs)) ∧ F_l_left none [iL xs, .int n] = .ok (.val (pL l)) none := by
  obtain ⟨ps, ep, pr⟩ := primes_once_eq hN hN2
  obtain ⟨td, sl3, sl6, e1, t0, nz0, o6⟩ := cnt_loop hN hN2 xs
  have l2 := lc2 hN hN2 t0.t (v0 := iL xs) (v1 := .int n) (s3 := sl3) (s4 := .un) (s5 := .un) (s6 := sl6) (s7 := .un) (s8 := .un) (s9 := .un) o6
  obtain ⟨δ2, e2, l, s3, s5, s6, s7, s8, s9, rfl, hI⟩ := forL_ix (tgt := gN 5) (s := B_l_left_2) (ps.map nD)
    (fun i δ => ∃ (l : Tab) (s3 s5 s6 s7 s8 s9 : Sl), δ = [.val (iL xs), .val (.int n), .val (dictD (kd td)), s3, .val (pL l), s5, s6, s7, s8, s9] ∧ Is n l (TT n (ps.take i) (cnt n xs)) ∧ s6.isOwn = false)
    (fun δ => ∃ (l : Tab) (s3 s5 s6 s7 s8 s9 : Sl), δ = [.val (iL xs), .val (.int n), .val (dictD (kd td)), s3, .val (pL l), s5, s6, s7, s8, s9] ∧ Is n l (TT n ps (cnt n xs)))
    (fun δ ⟨l, s3, s5, s6, s7, s8, s9, a, b, c⟩ => ⟨l, s3, s5, s6, s7, s8, s9, a, by rw [List.length_map, List.take_length] at b; exact b⟩)
    (fun i dd δ ed ⟨l, s3, s5, s6, s7, s8, s9, eδ, a1, o6⟩ => by
      subst eδ
      rw [List.getElem?_map] at ed
      cases eq : ps[i]? with
      | none => rw [eq] at ed; cases ed
      | some p =>
        rw [eq] at ed
        cases ed
        have hp := (pr.mem p).mp (List.mem_of_getElem? eq)
        have hp1 := hp.1.1
        have hp2 := Nat.le_of_dvd (by omega) hp.2
        obtain ⟨t2, s8', s9', e3, ht2⟩ := left_inner (n := n) (p := p) (l := l) (s2 := .val (dictD (kd td))) (s3 := s3) (s6 := s6) (s8 := s8) (s9 := s9) (a3 := .un) (v0 := iL xs) hN hN2 (by omega) (by omega) a1 (TT_per (cnt_per _ _))
        have tk : ps.take (i + 1) = ps.take i ++ [p] := by rw [List.take_succ, eq]; rfl
        have tt : TT n (ps.take (i + 1)) (cnt n xs) = Dl ((n : Int) / (p : Int)) (TT n (ps.take i) (cnt n xs)) := by
          rw [tk]; unfold TT; rw [List.foldl_append]; rfl
        have l7 := lc7 hN hN2 ht2.t (v0 := iL xs) (v1 := .int n) (s2 := .val (dictD (kd td))) (s3 := s3) (s4 := .val (pL l)) (s5 := .val (.int p)) (s6 := s6) (s8 := s8') (s9 := s9') o6
        refine ⟨_, [.val (iL xs), .val (.int n), .val (dictD (kd td)), s3, .val (pL (sortP (nzF t2))), .val (.int p), s6, .val (dictD (kd t2)), s8', s9'], rfl, .inl ⟨.inl ?_, _, _, _, _, _, _, _, rfl, by rw [tt]; exact (nzF_tb ht2).sorted (nzF_nz t2), o6⟩⟩
        generalize iL xs = v0 at *
        unfold pL at e3 l7 ⊢
        simp -implicitDefEqProofs [B_l_left_2, r_bind, r_b1, r_b2, r_b3, r_ret, r_frz1, r_frz2, r_frz3, r_frz4, r_rd1, r_rd2, r_rs1, r_rs2, r_rs3, r_var, r_v1, r_v2, r_v3, r_v4, r_c, r_opnd, r_o1, r_o2, r_rdM, r_opt1, r_lift1, r_eOp, r_eUn, r_boolM, r_tB, r_optB, r_tru, r_and, r_or, r_not, r_bE, r_eAnd, r_eOr, r_eNot, r_eIf, r_condT, r_condF, r_aNil, r_aCons, r_rdsM, r_rdsN, r_rdsC, r_eB, r_nb1, r_nb2, r_vN, r_vC, r_tup, r_lst, r_fits, r_fits0, r_fits1, r_fits2, r_fits3, r_fits4, r_callN, r_callD, r_callM, r_call1, r_argB, r_argB1, r_argB2, r_argV, r_argN, r_back0, r_back0x, r_back1, r_back1x, r_setC, r_set1, r_set2, r_seq, r_s1, r_s2, r_s3, r_s4, r_s5, r_sNil, r_sRet, r_sRetN, r_sExpr, r_sIf, r_sBrk, r_sCont, r_asg, r_asgV, r_a1, r_a2, r_a3, r_a4, r_sFrz, r_fz1, r_fz2, r_fz3, r_raise, r_curL, r_cs1, r_cs2, r_st1, r_storeR, r_stoR, r_stoS, r_mut, r_mutR, r_mutL, r_mutS, r_pApp, r_sFor, r_forN, r_loop, r_forC, r_forR, r_l1, r_l2, r_l3, r_l4, r_l5, r_iRg, r_rg, r_iRg2, r_rg2, r_iSq, r_sq1, r_sq2, r_gN, r_fn, r_f1, r_f2, r_f3, r_f4, r_fin1, r_fin2, r_fin3, r_fin4, r_fb1, r_fb2, r_fin5, r_fin6, r_fin7, r_fc1, r_dAdd, r_dAddL, r_dSub, r_dMul, r_dMod, r_dDiv, r_dPow, r_dNeg, r_dLt, r_dLe, r_dGt, r_dGe, r_nInt, r_nIntB, r_nAbs, r_nLenL, r_nLenT, r_nLenD, r_nMax2, r_nMin2, r_ixL, r_ixT, r_nListL, r_nListT, r_nTupL, r_nDict, r_tru1, r_tru2, r_tru3, r_tru4, r_tru5, r_pExt, r_pIns, r_eqII, r_eqBB, r_neII, r_isN1, r_isN2, r_isN3, r_isN4, r_isN5, r_isN6, r_isi, r_chain, r_ch1, r_ch2, r_rdDict, r_undictD, r_key, r_get2, r_or1, r_or2, r_dix, r_dnew, r_curD, r_ce, r_valOf, r_dput, r_put, r_dictAt, r_dicS, r_eLock, r_sLock, r_lok, r_iDk, r_iDi, r_mapR, r_gT, r_tupT, r_gsN, r_gsC, r_gsR, r_aug, r_aug1, r_addI, r_while, r_sPar, r_oN, r_oS, r_part, r_eSl, r_slTo, r_slFrom, atI, ixN, env0, nD, e3, l7, r_sortPd])
    [.val (iL xs), .val (.int n), .val (dictD (kd td)), sl3, .val (pL (sortP td)), .un, sl6, .un, .un, .un] ⟨_, _, _, _, _, _, _, rfl, t0.sorted nz0, o6⟩
  refine ⟨l, ps, pr, hI, ?_⟩
  unfold iL at e1 e2 l2
  unfold pL at e2
  unfold pL iL
  simp -implicitDefEqProofs [F_l_left, r_bind, r_b1, r_b2, r_b3, r_ret, r_frz1, r_frz2, r_frz3, r_frz4, r_rd1, r_rd2, r_rs1, r_rs2, r_rs3, r_var, r_v1, r_v2, r_v3, r_v4, r_c, r_opnd, r_o1, r_o2, r_rdM, r_opt1, r_lift1, r_eOp, r_eUn, r_boolM, r_tB, r_optB, r_tru, r_and, r_or, r_not, r_bE, r_eAnd, r_eOr, r_eNot, r_eIf, r_condT, r_condF, r_aNil, r_aCons, r_rdsM, r_rdsN, r_rdsC, r_eB, r_nb1, r_nb2, r_vN, r_vC, r_tup, r_lst, r_fits, r_fits0, r_fits1, r_fits2, r_fits3, r_fits4, r_callN, r_callD, r_callM, r_call1, r_argB, r_argB1, r_argB2, r_argV, r_argN, r_back0, r_back0x, r_back1, r_back1x, r_setC, r_set1, r_set2, r_seq, r_s1, r_s2, r_s3, r_s4, r_s5, r_sNil, r_sRet, r_sRetN, r_sExpr, r_sIf, r_sBrk, r_sCont, r_asg, r_asgV, r_a1, r_a2, r_a3, r_a4, r_sFrz, r_fz1, r_fz2, r_fz3, r_raise, r_curL, r_cs1, r_cs2, r_st1, r_storeR, r_stoR, r_stoS, r_mut, r_mutR, r_mutL, r_mutS, r_pApp, r_sFor, r_forN, r_loop, r_forC, r_forR, r_l1, r_l2, r_l3, r_l4, r_l5, r_iRg, r_rg, r_iRg2, r_rg2, r_iSq, r_sq1, r_sq2, r_gN, r_fn, r_f1, r_f2, r_f3, r_f4, r_fin1, r_fin2, r_fin3, r_fin4, r_fb1, r_fb2, r_fin5, r_fin6, r_fin7, r_fc1, r_dAdd, r_dAddL, r_dSub, r_dMul, r_dMod, r_dDiv, r_dPow, r_dNeg, r_dLt, r_dLe, r_dGt, r_dGe, r_nInt, r_nIntB, r_nAbs, r_nLenL, r_nLenT, r_nLenD, r_nMax2, r_nMin2, r_ixL, r_ixT, r_nListL, r_nListT, r_nTupL, r_nDict, r_tru1, r_tru2, r_tru3, r_tru4, r_tru5, r_pExt, r_pIns, r_eqII, r_eqBB, r_neII, r_isN1, r_isN2, r_isN3, r_isN4, r_isN5, r_isN6, r_isi, r_chain, r_ch1, r_ch2, r_rdDict, r_undictD, r_key, r_get2, r_or1, r_or2, r_dix, r_dnew, r_curD, r_ce, r_valOf, r_dput, r_put, r_dictAt, r_dicS, r_eLock, r_sLock, r_lok, r_iDk, r_iDi, r_mapR, r_gT, r_tupT, r_gsN, r_gsC, r_gsR, r_aug, r_aug1, r_addI, r_while, r_sPar, r_oN, r_oS, r_part, r_eSl, r_slTo, r_slFrom, atI, ixN, env0, e1, l2, r_sortPd, ep, e2]
end K61

set_option Elab.async false
set_option linter.all false
set_option maxRecDepth 100000
set_option maxHeartbeats 4000000
namespace K61
open PySem PySem.Spec PyProof.Rows L2 DW
theorem lc24 {n : Nat} (hN : 1 ≤ n) (hN2 : n ≤ 1000000) {td : Tab} (ht : Tb n td) {v0 v1 : D} {s3 s4 : Sl} (o4 : s4.isOwn = false) :
    eLc (iDk 2) (gN 4) (tB' (eOp dNe (eDix (eVar 2) (eVar 4)) (eC (.int 0)))) (eTup (aCons (eVar 4) (aCons (eDix (eVar 2) (eVar 4)) aNil))) [4] [.val v0, .val v1, .val (dictD (kd td)), s3, s4] = .ok (.own ((nzF td).map DW.pairD)) [.val v0, .val v1, .val (dictD (kd td)), s3, s4] := by
  have ed := eLc_pure (src := iDk 2) (tgt := gN 4) (cond := tB' (eOp dNe (eDix (eVar 2) (eVar 4)) (eC (.int 0)))) (elt := eTup (aCons (eVar 4) (aCons (eDix (eVar 2) (eVar 4)) aNil))) (vs := [4])
    (δ := [.val v0, .val v1, .val (dictD (kd td)), s3, s4]) (ds := (keys td).map PyData.int)
    (fun d => match d with
      | .int k => if val td k = 0 then none else some (DW.pairD (k, val td k))
      | _ => none)
    (by simp -implicitDefEqProofs [r_bind, r_b1, r_b2, r_b3, r_ret, r_frz1, r_frz2, r_frz3, r_frz4, r_rd1, r_rd2, r_rs1, r_rs2, r_rs3, r_var, r_v1, r_v2, r_v3, r_v4, r_c, r_opnd, r_o1, r_o2, r_rdM, r_opt1, r_lift1, r_eOp, r_eUn, r_boolM, r_tB, r_optB, r_tru, r_and, r_or, r_not, r_bE, r_eAnd, r_eOr, r_eNot, r_eIf, r_condT, r_condF, r_aNil, r_aCons, r_rdsM, r_rdsN, r_rdsC, r_eB, r_nb1, r_nb2, r_vN, r_vC, r_tup, r_lst, r_fits, r_fits0, r_fits1, r_fits2, r_fits3, r_fits4, r_callN, r_callD, r_callM, r_call1, r_argB, r_argB1, r_argB2, r_argV, r_argN, r_back0, r_back0x, r_back1, r_back1x, r_setC, r_set1, r_set2, r_seq, r_s1, r_s2, r_s3, r_s4, r_s5, r_sNil, r_sRet, r_sRetN, r_sExpr, r_sIf, r_sBrk, r_sCont, r_asg, r_asgV, r_a1, r_a2, r_a3, r_a4, r_sFrz, r_fz1, r_fz2, r_fz3, r_raise, r_curL, r_cs1, r_cs2, r_st1, r_storeR, r_stoR, r_stoS, r_mut, r_mutR, r_mutL, r_mutS, r_pApp, r_sFor, r_forN, r_loop, r_forC, r_forR, r_l1, r_l2, r_l3, r_l4, r_l5, r_iRg, r_rg, r_iRg2, r_rg2, r_iSq, r_sq1, r_sq2, r_gN, r_fn, r_f1, r_f2, r_f3, r_f4, r_fin1, r_fin2, r_fin3, r_fin4, r_fb1, r_fb2, r_fin5, r_fin6, r_fin7, r_fc1, r_dAdd, r_dAddL, r_dSub, r_dMul, r_dMod, r_dDiv, r_dPow, r_dNeg, r_dLt, r_dLe, r_dGt, r_dGe, r_nInt, r_nIntB, r_nAbs, r_nLenL, r_nLenT, r_nLenD, r_nMax2, r_nMin2, r_ixL, r_ixT, r_nListL, r_nListT, r_nTupL, r_nDict, r_tru1, r_tru2, r_tru3, r_tru4, r_tru5, r_pExt, r_pIns, r_eqII, r_eqBB, r_neII, r_isN1, r_isN2, r_isN3, r_isN4, r_isN5, r_isN6, r_isi, r_chain, r_ch1, r_ch2, r_rdDict, r_undictD, r_key, r_get2, r_or1, r_or2, r_dix, r_dnew, r_curD, r_ce, r_valOf, r_dput, r_put, r_dictAt, r_dicS, r_eLock, r_sLock, r_lok, r_iDk, r_iDi, r_mapR, r_gT, r_tupT, r_gsN, r_gsC, r_gsR, r_aug, r_aug1, r_addI, r_while, r_sPar, r_oN, r_oS, r_part, r_eSl, r_slTo, r_slFrom, atI, ixN, env0]; exact kd_keys td) (by simp [DW.freeOf, o4]) rfl
    (fun d hd => by
      obtain ⟨k, hk, rfl⟩ := List.mem_map.mp hd
      have lk := lk_keys hk
      refine ⟨[.val v0, .val v1, .val (dictD (kd td)), s3, .val (.int k)], rfl, ?_⟩
      by_cases z : val td k = 0
      · exact .inl ⟨[.val v0, .val v1, .val (dictD (kd td)), s3, .val (.int k)], by simp -implicitDefEqProofs [r_bind, r_b1, r_b2, r_b3, r_ret, r_frz1, r_frz2, r_frz3, r_frz4, r_rd1, r_rd2, r_rs1, r_rs2, r_rs3, r_var, r_v1, r_v2, r_v3, r_v4, r_c, r_opnd, r_o1, r_o2, r_rdM, r_opt1, r_lift1, r_eOp, r_eUn, r_boolM, r_tB, r_optB, r_tru, r_and, r_or, r_not, r_bE, r_eAnd, r_eOr, r_eNot, r_eIf, r_condT, r_condF, r_aNil, r_aCons, r_rdsM, r_rdsN, r_rdsC, r_eB, r_nb1, r_nb2, r_vN, r_vC, r_tup, r_lst, r_fits, r_fits0, r_fits1, r_fits2, r_fits3, r_fits4, r_callN, r_callD, r_callM, r_call1, r_argB, r_argB1, r_argB2, r_argV, r_argN, r_back0, r_back0x, r_back1, r_back1x, r_setC, r_set1, r_set2, r_seq, r_s1, r_s2, r_s3, r_s4, r_s5, r_sNil, r_sRet, r_sRetN, r_sExpr, r_sIf, r_sBrk, r_sCont, r_asg, r_asgV, r_a1, r_a2, r_a3, r_a4, r_sFrz, r_fz1, r_fz2, r_fz3, r_raise, r_curL, r_cs1, r_cs2, r_st1, r_storeR, r_stoR, r_stoS, r_mut, r_mutR, r_mutL, r_mutS, r_pApp, r_sFor, r_forN, r_loop, r_forC, r_forR, r_l1, r_l2, r_l3, r_l4, r_l5, r_iRg, r_rg, r_iRg2, r_rg2, r_iSq, r_sq1, r_sq2, r_gN, r_fn, r_f1, r_f2, r_f3, r_f4, r_fin1, r_fin2, r_fin3, r_fin4, r_fb1, r_fb2, r_fin5, r_fin6, r_fin7, r_fc1, r_dAdd, r_dAddL, r_dSub, r_dMul, r_dMod, r_dDiv, r_dPow, r_dNeg, r_dLt, r_dLe, r_dGt, r_dGe, r_nInt, r_nIntB, r_nAbs, r_nLenL, r_nLenT, r_nLenD, r_nMax2, r_nMin2, r_ixL, r_ixT, r_nListL, r_nListT, r_nTupL, r_nDict, r_tru1, r_tru2, r_tru3, r_tru4, r_tru5, r_pExt, r_pIns, r_eqII, r_eqBB, r_neII, r_isN1, r_isN2, r_isN3, r_isN4, r_isN5, r_isN6, r_isi, r_chain, r_ch1, r_ch2, r_rdDict, r_undictD, r_key, r_get2, r_or1, r_or2, r_dix, r_dnew, r_curD, r_ce, r_valOf, r_dput, r_put, r_dictAt, r_dicS, r_eLock, r_sLock, r_lok, r_iDk, r_iDi, r_mapR, r_gT, r_tupT, r_gsN, r_gsC, r_gsR, r_aug, r_aug1, r_addI, r_while, r_sPar, r_oN, r_oS, r_part, r_eSl, r_slTo, r_slFrom, atI, ixN, env0, look_kd, lk, z], rfl, by simp [z]⟩
      · exact .inr ⟨[.val v0, .val v1, .val (dictD (kd td)), s3, .val (.int k)], [.val v0, .val v1, .val (dictD (kd td)), s3, .val (.int k)], DW.pairD (k, val td k), by simp -implicitDefEqProofs [r_bind, r_b1, r_b2, r_b3, r_ret, r_frz1, r_frz2, r_frz3, r_frz4, r_rd1, r_rd2, r_rs1, r_rs2, r_rs3, r_var, r_v1, r_v2, r_v3, r_v4, r_c, r_opnd, r_o1, r_o2, r_rdM, r_opt1, r_lift1, r_eOp, r_eUn, r_boolM, r_tB, r_optB, r_tru, r_and, r_or, r_not, r_bE, r_eAnd, r_eOr, r_eNot, r_eIf, r_condT, r_condF, r_aNil, r_aCons, r_rdsM, r_rdsN, r_rdsC, r_eB, r_nb1, r_nb2, r_vN, r_vC, r_tup, r_lst, r_fits, r_fits0, r_fits1, r_fits2, r_fits3, r_fits4, r_callN, r_callD, r_callM, r_call1, r_argB, r_argB1, r_argB2, r_argV, r_argN, r_back0, r_back0x, r_back1, r_back1x, r_setC, r_set1, r_set2, r_seq, r_s1, r_s2, r_s3, r_s4, r_s5, r_sNil, r_sRet, r_sRetN, r_sExpr, r_sIf, r_sBrk, r_sCont, r_asg, r_asgV, r_a1, r_a2, r_a3, r_a4, r_sFrz, r_fz1, r_fz2, r_fz3, r_raise, r_curL, r_cs1, r_cs2, r_st1, r_storeR, r_stoR, r_stoS, r_mut, r_mutR, r_mutL, r_mutS, r_pApp, r_sFor, r_forN, r_loop, r_forC, r_forR, r_l1, r_l2, r_l3, r_l4, r_l5, r_iRg, r_rg, r_iRg2, r_rg2, r_iSq, r_sq1, r_sq2, r_gN, r_fn, r_f1, r_f2, r_f3, r_f4, r_fin1, r_fin2, r_fin3, r_fin4, r_fb1, r_fb2, r_fin5, r_fin6, r_fin7, r_fc1, r_dAdd, r_dAddL, r_dSub, r_dMul, r_dMod, r_dDiv, r_dPow, r_dNeg, r_dLt, r_dLe, r_dGt, r_dGe, r_nInt, r_nIntB, r_nAbs, r_nLenL, r_nLenT, r_nLenD, r_nMax2, r_nMin2, r_ixL, r_ixT, r_nListL, r_nListT, r_nTupL, r_nDict, r_tru1, r_tru2, r_tru3, r_tru4, r_tru5, r_pExt, r_pIns, r_eqII, r_eqBB, r_neII, r_isN1, r_isN2, r_isN3, r_isN4, r_isN5, r_isN6, r_isi, r_chain, r_ch1, r_ch2, r_rdDict, r_undictD, r_key, r_get2, r_or1, r_or2, r_dix, r_dnew, r_curD, r_ce, r_valOf, r_dput, r_put, r_dictAt, r_dicS, r_eLock, r_sLock, r_lok, r_iDk, r_iDi, r_mapR, r_gT, r_tupT, r_gsN, r_gsC, r_gsR, r_aug, r_aug1, r_addI, r_while, r_sPar, r_oN, r_oS, r_part, r_eSl, r_slTo, r_slFrom, atI, ixN, env0, look_kd, lk, z], by simp -implicitDefEqProofs [r_bind, r_b1, r_b2, r_b3, r_ret, r_frz1, r_frz2, r_frz3, r_frz4, r_rd1, r_rd2, r_rs1, r_rs2, r_rs3, r_var, r_v1, r_v2, r_v3, r_v4, r_c, r_opnd, r_o1, r_o2, r_rdM, r_opt1, r_lift1, r_eOp, r_eUn, r_boolM, r_tB, r_optB, r_tru, r_and, r_or, r_not, r_bE, r_eAnd, r_eOr, r_eNot, r_eIf, r_condT, r_condF, r_aNil, r_aCons, r_rdsM, r_rdsN, r_rdsC, r_eB, r_nb1, r_nb2, r_vN, r_vC, r_tup, r_lst, r_fits, r_fits0, r_fits1, r_fits2, r_fits3, r_fits4, r_callN, r_callD, r_callM, r_call1, r_argB, r_argB1, r_argB2, r_argV, r_argN, r_back0, r_back0x, r_back1, r_back1x, r_setC, r_set1, r_set2, r_seq, r_s1, r_s2, r_s3, r_s4, r_s5, r_sNil, r_sRet, r_sRetN, r_sExpr, r_sIf, r_sBrk, r_sCont, r_asg, r_asgV, r_a1, r_a2, r_a3, r_a4, r_sFrz, r_fz1, r_fz2, r_fz3, r_raise, r_curL, r_cs1, r_cs2, r_st1, r_storeR, r_stoR, r_stoS, r_mut, r_mutR, r_mutL, r_mutS, r_pApp, r_sFor, r_forN, r_loop, r_forC, r_forR, r_l1, r_l2, r_l3, r_l4, r_l5, r_iRg, r_rg, r_iRg2, r_rg2, r_iSq, r_sq1, r_sq2, r_gN, r_fn, r_f1, r_f2, r_f3, r_f4, r_fin1, r_fin2, r_fin3, r_fin4, r_fb1, r_fb2, r_fin5, r_fin6, r_fin7, r_fc1, r_dAdd, r_dAddL, r_dSub, r_dMul, r_dMod, r_dDiv, r_dPow, r_dNeg, r_dLt, r_dLe, r_dGt, r_dGe, r_nInt, r_nIntB, r_nAbs, r_nLenL, r_nLenT, r_nLenD, r_nMax2, r_nMin2, r_ixL, r_ixT, r_nListL, r_nListT, r_nTupL, r_nDict, r_tru1, r_tru2, r_tru3, r_tru4, r_tru5, r_pExt, r_pIns, r_eqII, r_eqBB, r_neII, r_isN1, r_isN2, r_isN3, r_isN4, r_isN5, r_isN6, r_isi, r_chain, r_ch1, r_ch2, r_rdDict, r_undictD, r_key, r_get2, r_or1, r_or2, r_dix, r_dnew, r_curD, r_ce, r_valOf, r_dput, r_put, r_dictAt, r_dicS, r_eLock, r_sLock, r_lok, r_iDk, r_iDi, r_mapR, r_gT, r_tupT, r_gsN, r_gsC, r_gsR, r_aug, r_aug1, r_addI, r_while, r_sPar, r_oN, r_oS, r_part, r_eSl, r_slTo, r_slFrom, atI, ixN, env0, look_kd, lk, DW.pairD], rfl, by simp [z]⟩)
    (by rw [List.length_map]; have := ht.len (by omega); unfold keys; rw [List.length_map]; omega)
  rw [fm_keys ht.nd _ fun k _ => rfl] at ed
  exact ed
theorem sumAt_app (g : Int → Int) (l m : Tab) (k : Int) : sumAt g (l ++ m) k = sumAt g l k + sumAt g m k := by
  unfold sumAt; rw [List.map_append, List.sum_append]
theorem joined_eq {n : Nat} (hN : 1 ≤ n) (hN2 : n ≤ 1000000) {l1 l2 : Tab} {f g : Int → Int} (h1 : Is n l1 f) (h2 : Is n l2 g) : ∃ l, Is n l (fun k => f k + g k) ∧ F_l_joined_left none [pL l1, pL l2] = .ok (.own (l.map DW.pairD)) none := by
  obtain ⟨t1, _⟩ := h1.tbF
  obtain ⟨t2, _⟩ := h2.tbF
  obtain ⟨δ', e1, td, s3, rfl, ht, hv⟩ := forL_ix (tgt := gN 3) (s := B_l_joined_left_1) ((l1 ++ l2).map DW.pairD)
    (fun i δ => ∃ (td : Tab) (s3 : Sl), δ = [.val (pL l1), .val (pL l2), .ownD (kd td), s3, .un] ∧ Tb n td ∧ ∀ k : Int, 0 ≤ k → k < (n : Int) → val td k = sumAt (fun j => j) ((l1 ++ l2).take i) k)
    (fun δ => ∃ (td : Tab) (s3 : Sl), δ = [.val (pL l1), .val (pL l2), .ownD (kd td), s3, .un] ∧ Tb n td ∧ ∀ k : Int, 0 ≤ k → k < (n : Int) → val td k = sumAt (fun j => j) (l1 ++ l2) k)
    (fun δ ⟨td, s3, a, b, c⟩ => ⟨td, s3, a, b, by rw [List.length_map, List.take_length] at c; exact c⟩)
    (fun i dd δ ed ⟨td, s3, eδ, a1, a2⟩ => by
      subst eδ
      rw [List.getElem?_map] at ed
      cases eq : (l1 ++ l2)[i]? with
      | none => rw [eq] at ed; cases ed
      | some q =>
        rw [eq] at ed
        cases ed
        have hq : 0 ≤ q.1 ∧ q.1 < (n : Int) := by
          rcases List.mem_append.mp (List.mem_of_getElem? eq) with m | m
          · have := (h1.mem q).mp m; exact ⟨this.1, this.2.1⟩
          · have := (h2.mem q).mp m; exact ⟨this.1, this.2.1⟩
        have tk : (l1 ++ l2).take (i + 1) = (l1 ++ l2).take i ++ [q] := by rw [List.take_succ, eq]; rfl
        have hl : (kd td).length < 16777216 := by have := a1.len (by omega); rw [kd_len]; omega
        have pk := put_kd q.1 (val td q.1 + q.2) td a1.nd
        refine ⟨_, [.val (pL l1), .val (pL l2), .ownD (kd (ptI td q.1 (val td q.1 + q.2))), .val (DW.pairD q), .un], rfl, .inl ⟨.inl ?_, _, _, rfl, a1.put _ hq.1 hq.2, fun k k0 k1 => ?_⟩⟩
        · generalize pL l1 = w1
          generalize pL l2 = w2
          simp -implicitDefEqProofs [B_l_joined_left_1, r_bind, r_b1, r_b2, r_b3, r_ret, r_frz1, r_frz2, r_frz3, r_frz4, r_rd1, r_rd2, r_rs1, r_rs2, r_rs3, r_var, r_v1, r_v2, r_v3, r_v4, r_c, r_opnd, r_o1, r_o2, r_rdM, r_opt1, r_lift1, r_eOp, r_eUn, r_boolM, r_tB, r_optB, r_tru, r_and, r_or, r_not, r_bE, r_eAnd, r_eOr, r_eNot, r_eIf, r_condT, r_condF, r_aNil, r_aCons, r_rdsM, r_rdsN, r_rdsC, r_eB, r_nb1, r_nb2, r_vN, r_vC, r_tup, r_lst, r_fits, r_fits0, r_fits1, r_fits2, r_fits3, r_fits4, r_callN, r_callD, r_callM, r_call1, r_argB, r_argB1, r_argB2, r_argV, r_argN, r_back0, r_back0x, r_back1, r_back1x, r_setC, r_set1, r_set2, r_seq, r_s1, r_s2, r_s3, r_s4, r_s5, r_sNil, r_sRet, r_sRetN, r_sExpr, r_sIf, r_sBrk, r_sCont, r_asg, r_asgV, r_a1, r_a2, r_a3, r_a4, r_sFrz, r_fz1, r_fz2, r_fz3, r_raise, r_curL, r_cs1, r_cs2, r_st1, r_storeR, r_stoR, r_stoS, r_mut, r_mutR, r_mutL, r_mutS, r_pApp, r_sFor, r_forN, r_loop, r_forC, r_forR, r_l1, r_l2, r_l3, r_l4, r_l5, r_iRg, r_rg, r_iRg2, r_rg2, r_iSq, r_sq1, r_sq2, r_gN, r_fn, r_f1, r_f2, r_f3, r_f4, r_fin1, r_fin2, r_fin3, r_fin4, r_fb1, r_fb2, r_fin5, r_fin6, r_fin7, r_fc1, r_dAdd, r_dAddL, r_dSub, r_dMul, r_dMod, r_dDiv, r_dPow, r_dNeg, r_dLt, r_dLe, r_dGt, r_dGe, r_nInt, r_nIntB, r_nAbs, r_nLenL, r_nLenT, r_nLenD, r_nMax2, r_nMin2, r_ixL, r_ixT, r_nListL, r_nListT, r_nTupL, r_nDict, r_tru1, r_tru2, r_tru3, r_tru4, r_tru5, r_pExt, r_pIns, r_eqII, r_eqBB, r_neII, r_isN1, r_isN2, r_isN3, r_isN4, r_isN5, r_isN6, r_isi, r_chain, r_ch1, r_ch2, r_rdDict, r_undictD, r_key, r_get2, r_or1, r_or2, r_dix, r_dnew, r_curD, r_ce, r_valOf, r_dput, r_put, r_dictAt, r_dicS, r_eLock, r_sLock, r_lok, r_iDk, r_iDi, r_mapR, r_gT, r_tupT, r_gsN, r_gsC, r_gsR, r_aug, r_aug1, r_addI, r_while, r_sPar, r_oN, r_oS, r_part, r_eSl, r_slTo, r_slFrom, atI, ixN, env0, DW.pairD, look_kd, r_gt0, hl, pk]
        · rw [tk, sumAt_snoc, val_pt]
          have A := a2 k k0 k1
          by_cases c : k = q.1
          · rw [if_pos c, if_pos c.symm, ← c]; omega
          · rw [if_neg c, if_neg (fun z => c z.symm : ¬ q.1 = k)]; omega)
    [.val (pL l1), .val (pL l2), .ownD (kd []), .un, .un] ⟨[], .un, rfl, ⟨List.nodup_nil, fun k hk => by simp [keys] at hk⟩, fun k _ _ => rfl⟩
  have hf : TbF n td (fun k => f k + g k) := ⟨ht, fun k k0 k1 => by
    rw [hv k k0 k1, sumAt_app, sumAt_val (q := k) t1.t.nd fun j _ => Iff.rfl, sumAt_val (q := k) t2.t.nd fun j _ => Iff.rfl, t1.v k k0 k1, t2.v k k0 k1]⟩
  have l24 := lc24 hN hN2 ht (v0 := pL l1) (v1 := pL l2) (s3 := s3) (s4 := .un) rfl
  refine ⟨_, (nzF_tb hf).sorted (nzF_nz td), ?_⟩
  have hl : (l1.map DW.pairD).length + (l2.map DW.pairD).length ≤ 16777216 := by
    rw [List.length_map, List.length_map]
    have := t1.t.len (by omega)
    have := t2.t.len (by omega)
    omega
  rw [List.map_append] at e1
  unfold pL at e1 l24 ⊢
  have e1 : forL (gN 3) B_l_joined_left_1 (l1.map DW.pairD ++ l2.map DW.pairD) [.val (.list (l1.map DW.pairD)), .val (.list (l2.map DW.pairD)), .ownD [], .un, .un] = _ := e1
  generalize l1.map DW.pairD = w1 at *
  generalize l2.map DW.pairD = w2 at *
  simp -implicitDefEqProofs [F_l_joined_left, r_bind, r_b1, r_b2, r_b3, r_ret, r_frz1, r_frz2, r_frz3, r_frz4, r_rd1, r_rd2, r_rs1, r_rs2, r_rs3, r_var, r_v1, r_v2, r_v3, r_v4, r_c, r_opnd, r_o1, r_o2, r_rdM, r_opt1, r_lift1, r_eOp, r_eUn, r_boolM, r_tB, r_optB, r_tru, r_and, r_or, r_not, r_bE, r_eAnd, r_eOr, r_eNot, r_eIf, r_condT, r_condF, r_aNil, r_aCons, r_rdsM, r_rdsN, r_rdsC, r_eB, r_nb1, r_nb2, r_vN, r_vC, r_tup, r_lst, r_fits, r_fits0, r_fits1, r_fits2, r_fits3, r_fits4, r_callN, r_callD, r_callM, r_call1, r_argB, r_argB1, r_argB2, r_argV, r_argN, r_back0, r_back0x, r_back1, r_back1x, r_setC, r_set1, r_set2, r_seq, r_s1, r_s2, r_s3, r_s4, r_s5, r_sNil, r_sRet, r_sRetN, r_sExpr, r_sIf, r_sBrk, r_sCont, r_asg, r_asgV, r_a1, r_a2, r_a3, r_a4, r_sFrz, r_fz1, r_fz2, r_fz3, r_raise, r_curL, r_cs1, r_cs2, r_st1, r_storeR, r_stoR, r_stoS, r_mut, r_mutR, r_mutL, r_mutS, r_pApp, r_sFor, r_forN, r_loop, r_forC, r_forR, r_l1, r_l2, r_l3, r_l4, r_l5, r_iRg, r_rg, r_iRg2, r_rg2, r_iSq, r_sq1, r_sq2, r_gN, r_fn, r_f1, r_f2, r_f3, r_f4, r_fin1, r_fin2, r_fin3, r_fin4, r_fb1, r_fb2, r_fin5, r_fin6, r_fin7, r_fc1, r_dAdd, r_dAddL, r_dSub, r_dMul, r_dMod, r_dDiv, r_dPow, r_dNeg, r_dLt, r_dLe, r_dGt, r_dGe, r_nInt, r_nIntB, r_nAbs, r_nLenL, r_nLenT, r_nLenD, r_nMax2, r_nMin2, r_ixL, r_ixT, r_nListL, r_nListT, r_nTupL, r_nDict, r_tru1, r_tru2, r_tru3, r_tru4, r_tru5, r_pExt, r_pIns, r_eqII, r_eqBB, r_neII, r_isN1, r_isN2, r_isN3, r_isN4, r_isN5, r_isN6, r_isi, r_chain, r_ch1, r_ch2, r_rdDict, r_undictD, r_key, r_get2, r_or1, r_or2, r_dix, r_dnew, r_curD, r_ce, r_valOf, r_dput, r_put, r_dictAt, r_dicS, r_eLock, r_sLock, r_lok, r_iDk, r_iDi, r_mapR, r_gT, r_tupT, r_gsN, r_gsC, r_gsR, r_aug, r_aug1, r_addI, r_while, r_sPar, r_oN, r_oS, r_part, r_eSl, r_slTo, r_slFrom, atI, ixN, env0, r_dAddL hl, e1, l24, r_sortPd]
/-! ### like -/
def Pl : Nat → D → Prop
  | 0, _ => False
  | k + 1, .int _ => True
  | k + 1, .bool _ => True
  | k + 1, .list ds => ds.length ≤ 1000000 ∧ ∀ d ∈ ds, Pl k d
  | k + 1, .tuple ds => ds.length ≤ 1000000 ∧ ∀ d ∈ ds, Pl k d
  | _, _ => False
theorem r_nAllT : ∀ m : Nat, nAll (.list (List.replicate m (.bool true))) = some (.val (.bool true)) := fun m => by
  have e : boolsD (List.replicate m (.bool true)) = some (List.replicate m true) := by
    induction m with
    | zero => rfl
    | succ m ih => rw [List.replicate_succ, List.replicate_succ]; show (boolsD (List.replicate m (.bool true))).map (true :: ·) = _; rw [ih]; rfl
  show (boolsD (List.replicate m (.bool true))).bind _ = _
  rw [e]
  show some (Sl.val (.bool ((List.replicate m true).all id))) = _
  have z : (List.replicate m true).all id = true := List.all_eq_true.mpr fun x hx => (List.mem_replicate.mp hx).2
  rw [z]
theorem fm_const (c : D) : ∀ l : List D, l.filterMap (fun _ => some c) = List.replicate l.length c
  | [] => rfl
  | x :: l => by
    rw [List.filterMap_cons_some (f := fun _ : D => some c) (a := x) (b := c) rfl, fm_const c l]; rfl
theorem like_seq {kk : Nat} {ds : List D} {w : D} (hw : w = .list ds ∨ w = .tuple ds) (hl : ds.length ≤ 1000000) (h : ∀ d ∈ ds, F_l_like_r kk none [d, d] = .ok (.val (.bool true)) none) : F_l_like_r (kk + 1) none [w, w] = .ok (.val (.bool true)) none := by
  have s1 : small62 (ds.length : Int) = true := small62_of (by omega) (by omega)
  have ix : ∀ i : Nat, ∀ d, ds[i]? = some d → dIx w (.int i) = some (.val d) := fun i d e => by
    have e2 : L2.atI ds (i : Int) = some d := by
      have hi := (List.getElem?_eq_some_iff.mp e).1
      unfold L2.atI ixN
      rw [if_pos (by omega), if_pos (by omega)]
      exact e
    rcases hw with z | z <;> subst z
    · show (L2.atI ds i).map Sl.val = _; rw [e2]; rfl
    · show (L2.atI ds i).map Sl.val = _; rw [e2]; rfl
  have ln : nLenX w = some (.val (.int ds.length)) := by rcases hw with z | z <;> subst z <;> rfl
  have ed := eLc_pure (src := iRg (aCons (eB (DW.b1 nLenX) (aCons (eVar 1) aNil)) aNil)) (tgt := gN 2) (cond := tYes') (elt := eCallN 2 (F_l_like_r kk) (aCons (eOp dIx (eVar 0) (eVar 2)) (aCons (eOp dIx (eVar 1) (eVar 2)) aNil))) (vs := [2])
    (δ := [.val w, .val w, .un]) (ds := rangeD 0 ds.length) (fun _ => some (.bool true)) (by simp -implicitDefEqProofs [r_bind, r_b1, r_b2, r_b3, r_ret, r_frz1, r_frz2, r_frz3, r_frz4, r_rd1, r_rd2, r_rs1, r_rs2, r_rs3, r_var, r_v1, r_v2, r_v3, r_v4, r_c, r_opnd, r_o1, r_o2, r_rdM, r_opt1, r_lift1, r_eOp, r_eUn, r_boolM, r_tB, r_optB, r_tru, r_and, r_or, r_not, r_bE, r_eAnd, r_eOr, r_eNot, r_eIf, r_condT, r_condF, r_aNil, r_aCons, r_rdsM, r_rdsN, r_rdsC, r_eB, r_nb1, r_nb2, r_vN, r_vC, r_tup, r_lst, r_fits, r_fits0, r_fits1, r_fits2, r_fits3, r_fits4, r_callN, r_callD, r_callM, r_call1, r_argB, r_argB1, r_argB2, r_argV, r_argN, r_back0, r_back0x, r_back1, r_back1x, r_setC, r_set1, r_set2, r_seq, r_s1, r_s2, r_s3, r_s4, r_s5, r_sNil, r_sRet, r_sRetN, r_sExpr, r_sIf, r_sBrk, r_sCont, r_asg, r_asgV, r_a1, r_a2, r_a3, r_a4, r_sFrz, r_fz1, r_fz2, r_fz3, r_raise, r_curL, r_cs1, r_cs2, r_st1, r_storeR, r_stoR, r_stoS, r_mut, r_mutR, r_mutL, r_mutS, r_pApp, r_sFor, r_forN, r_loop, r_forC, r_forR, r_l1, r_l2, r_l3, r_l4, r_l5, r_iRg, r_rg, r_iRg2, r_rg2, r_iSq, r_sq1, r_sq2, r_gN, r_fn, r_f1, r_f2, r_f3, r_f4, r_fin1, r_fin2, r_fin3, r_fin4, r_fb1, r_fb2, r_fin5, r_fin6, r_fin7, r_fc1, r_dAdd, r_dAddL, r_dSub, r_dMul, r_dMod, r_dDiv, r_dPow, r_dNeg, r_dLt, r_dLe, r_dGt, r_dGe, r_nInt, r_nIntB, r_nAbs, r_nLenL, r_nLenT, r_nLenD, r_nMax2, r_nMin2, r_ixL, r_ixT, r_nListL, r_nListT, r_nTupL, r_nDict, r_tru1, r_tru2, r_tru3, r_tru4, r_tru5, r_pExt, r_pIns, r_eqII, r_eqBB, r_neII, r_isN1, r_isN2, r_isN3, r_isN4, r_isN5, r_isN6, r_isi, r_chain, r_ch1, r_ch2, r_rdDict, r_undictD, r_key, r_get2, r_or1, r_or2, r_dix, r_dnew, r_curD, r_ce, r_valOf, r_dput, r_put, r_dictAt, r_dicS, r_eLock, r_sLock, r_lok, r_iDk, r_iDi, r_mapR, r_gT, r_tupT, r_gsN, r_gsC, r_gsR, r_aug, r_aug1, r_addI, r_while, r_sPar, r_oN, r_oS, r_part, r_eSl, r_slTo, r_slFrom, atI, ixN, env0, ln, s1]) rfl rfl
    (fun d hd => by
      obtain ⟨i, hi⟩ := List.getElem?_of_mem hd
      obtain ⟨rfl, hi2⟩ := rangeD_at hi
      have hi3 : i < ds.length := by omega
      have x := ix i _ (List.getElem?_eq_getElem hi3)
      have hc := h _ (List.getElem_mem hi3)
      generalize ds[i] = di at x hc
      have ei : (0 : Int) + (i : Int) = i := by omega
      rw [ei]
      refine ⟨[.val w, .val w, .val (.int i)], rfl, .inr ⟨_, [.val w, .val w, .val (.int i)], .bool true, rfl, ?_, rfl, rfl⟩⟩
      simp -implicitDefEqProofs [r_bind, r_b1, r_b2, r_b3, r_ret, r_frz1, r_frz2, r_frz3, r_frz4, r_rd1, r_rd2, r_rs1, r_rs2, r_rs3, r_var, r_v1, r_v2, r_v3, r_v4, r_c, r_opnd, r_o1, r_o2, r_rdM, r_opt1, r_lift1, r_eOp, r_eUn, r_boolM, r_tB, r_optB, r_tru, r_and, r_or, r_not, r_bE, r_eAnd, r_eOr, r_eNot, r_eIf, r_condT, r_condF, r_aNil, r_aCons, r_rdsM, r_rdsN, r_rdsC, r_eB, r_nb1, r_nb2, r_vN, r_vC, r_tup, r_lst, r_fits, r_fits0, r_fits1, r_fits2, r_fits3, r_fits4, r_callN, r_callD, r_callM, r_call1, r_argB, r_argB1, r_argB2, r_argV, r_argN, r_back0, r_back0x, r_back1, r_back1x, r_setC, r_set1, r_set2, r_seq, r_s1, r_s2, r_s3, r_s4, r_s5, r_sNil, r_sRet, r_sRetN, r_sExpr, r_sIf, r_sBrk, r_sCont, r_asg, r_asgV, r_a1, r_a2, r_a3, r_a4, r_sFrz, r_fz1, r_fz2, r_fz3, r_raise, r_curL, r_cs1, r_cs2, r_st1, r_storeR, r_stoR, r_stoS, r_mut, r_mutR, r_mutL, r_mutS, r_pApp, r_sFor, r_forN, r_loop, r_forC, r_forR, r_l1, r_l2, r_l3, r_l4, r_l5, r_iRg, r_rg, r_iRg2, r_rg2, r_iSq, r_sq1, r_sq2, r_gN, r_fn, r_f1, r_f2, r_f3, r_f4, r_fin1, r_fin2, r_fin3, r_fin4, r_fb1, r_fb2, r_fin5, r_fin6, r_fin7, r_fc1, r_dAdd, r_dAddL, r_dSub, r_dMul, r_dMod, r_dDiv, r_dPow, r_dNeg, r_dLt, r_dLe, r_dGt, r_dGe, r_nInt, r_nIntB, r_nAbs, r_nLenL, r_nLenT, r_nLenD, r_nMax2, r_nMin2, r_ixL, r_ixT, r_nListL, r_nListT, r_nTupL, r_nDict, r_tru1, r_tru2, r_tru3, r_tru4, r_tru5, r_pExt, r_pIns, r_eqII, r_eqBB, r_neII, r_isN1, r_isN2, r_isN3, r_isN4, r_isN5, r_isN6, r_isi, r_chain, r_ch1, r_ch2, r_rdDict, r_undictD, r_key, r_get2, r_or1, r_or2, r_dix, r_dnew, r_curD, r_ce, r_valOf, r_dput, r_put, r_dictAt, r_dicS, r_eLock, r_sLock, r_lok, r_iDk, r_iDi, r_mapR, r_gT, r_tupT, r_gsN, r_gsC, r_gsR, r_aug, r_aug1, r_addI, r_while, r_sPar, r_oN, r_oS, r_part, r_eSl, r_slTo, r_slFrom, atI, ixN, env0, x, hc])
    (by rw [rangeD_len]; omega)
  rw [fm_const, rangeD_len] at ed
  have na := r_nAllT ((ds.length : Int) - 0).toNat
  generalize List.replicate ((ds.length : Int) - 0).toNat (PyData.bool true) = ws at ed na
  rcases hw with z | z
  · have a1 : isTy "list" w = true := by subst z; rfl
    have a2 : isTy "tuple" w = false := by subst z; show ("tuple" == "list") = false; decide
    simp -implicitDefEqProofs [F_l_like_r, r_bind, r_b1, r_b2, r_b3, r_ret, r_frz1, r_frz2, r_frz3, r_frz4, r_rd1, r_rd2, r_rs1, r_rs2, r_rs3, r_var, r_v1, r_v2, r_v3, r_v4, r_c, r_opnd, r_o1, r_o2, r_rdM, r_opt1, r_lift1, r_eOp, r_eUn, r_boolM, r_tB, r_optB, r_tru, r_and, r_or, r_not, r_bE, r_eAnd, r_eOr, r_eNot, r_eIf, r_condT, r_condF, r_aNil, r_aCons, r_rdsM, r_rdsN, r_rdsC, r_eB, r_nb1, r_nb2, r_vN, r_vC, r_tup, r_lst, r_fits, r_fits0, r_fits1, r_fits2, r_fits3, r_fits4, r_callN, r_callD, r_callM, r_call1, r_argB, r_argB1, r_argB2, r_argV, r_argN, r_back0, r_back0x, r_back1, r_back1x, r_setC, r_set1, r_set2, r_seq, r_s1, r_s2, r_s3, r_s4, r_s5, r_sNil, r_sRet, r_sRetN, r_sExpr, r_sIf, r_sBrk, r_sCont, r_asg, r_asgV, r_a1, r_a2, r_a3, r_a4, r_sFrz, r_fz1, r_fz2, r_fz3, r_raise, r_curL, r_cs1, r_cs2, r_st1, r_storeR, r_stoR, r_stoS, r_mut, r_mutR, r_mutL, r_mutS, r_pApp, r_sFor, r_forN, r_loop, r_forC, r_forR, r_l1, r_l2, r_l3, r_l4, r_l5, r_iRg, r_rg, r_iRg2, r_rg2, r_iSq, r_sq1, r_sq2, r_gN, r_fn, r_f1, r_f2, r_f3, r_f4, r_fin1, r_fin2, r_fin3, r_fin4, r_fb1, r_fb2, r_fin5, r_fin6, r_fin7, r_fc1, r_dAdd, r_dAddL, r_dSub, r_dMul, r_dMod, r_dDiv, r_dPow, r_dNeg, r_dLt, r_dLe, r_dGt, r_dGe, r_nInt, r_nIntB, r_nAbs, r_nLenL, r_nLenT, r_nLenD, r_nMax2, r_nMin2, r_ixL, r_ixT, r_nListL, r_nListT, r_nTupL, r_nDict, r_tru1, r_tru2, r_tru3, r_tru4, r_tru5, r_pExt, r_pIns, r_eqII, r_eqBB, r_neII, r_isN1, r_isN2, r_isN3, r_isN4, r_isN5, r_isN6, r_isi, r_chain, r_ch1, r_ch2, r_rdDict, r_undictD, r_key, r_get2, r_or1, r_or2, r_dix, r_dnew, r_curD, r_ce, r_valOf, r_dput, r_put, r_dictAt, r_dicS, r_eLock, r_sLock, r_lok, r_iDk, r_iDi, r_mapR, r_gT, r_tupT, r_gsN, r_gsC, r_gsR, r_aug, r_aug1, r_addI, r_while, r_sPar, r_oN, r_oS, r_part, r_eSl, r_slTo, r_slFrom, atI, ixN, env0, a1, a2, ln, ed, na]
  · have a1 : isTy "tuple" w = true := by subst z; rfl
    have a2 : isTy "list" w = false := by subst z; show ("list" == "tuple") = false; decide
    simp -implicitDefEqProofs [F_l_like_r, r_bind, r_b1, r_b2, r_b3, r_ret, r_frz1, r_frz2, r_frz3, r_frz4, r_rd1, r_rd2, r_rs1, r_rs2, r_rs3, r_var, r_v1, r_v2, r_v3, r_v4, r_c, r_opnd, r_o1, r_o2, r_rdM, r_opt1, r_lift1, r_eOp, r_eUn, r_boolM, r_tB, r_optB, r_tru, r_and, r_or, r_not, r_bE, r_eAnd, r_eOr, r_eNot, r_eIf, r_condT, r_condF, r_aNil, r_aCons, r_rdsM, r_rdsN, r_rdsC, r_eB, r_nb1, r_nb2, r_vN, r_vC, r_tup, r_lst, r_fits, r_fits0, r_fits1, r_fits2, r_fits3, r_fits4, r_callN, r_callD, r_callM, r_call1, r_argB, r_argB1, r_argB2, r_argV, r_argN, r_back0, r_back0x, r_back1, r_back1x, r_setC, r_set1, r_set2, r_seq, r_s1, r_s2, r_s3, r_s4, r_s5, r_sNil, r_sRet, r_sRetN, r_sExpr, r_sIf, r_sBrk, r_sCont, r_asg, r_asgV, r_a1, r_a2, r_a3, r_a4, r_sFrz, r_fz1, r_fz2, r_fz3, r_raise, r_curL, r_cs1, r_cs2, r_st1, r_storeR, r_stoR, r_stoS, r_mut, r_mutR, r_mutL, r_mutS, r_pApp, r_sFor, r_forN, r_loop, r_forC, r_forR, r_l1, r_l2, r_l3, r_l4, r_l5, r_iRg, r_rg, r_iRg2, r_rg2, r_iSq, r_sq1, r_sq2, r_gN, r_fn, r_f1, r_f2, r_f3, r_f4, r_fin1, r_fin2, r_fin3, r_fin4, r_fb1, r_fb2, r_fin5, r_fin6, r_fin7, r_fc1, r_dAdd, r_dAddL, r_dSub, r_dMul, r_dMod, r_dDiv, r_dPow, r_dNeg, r_dLt, r_dLe, r_dGt, r_dGe, r_nInt, r_nIntB, r_nAbs, r_nLenL, r_nLenT, r_nLenD, r_nMax2, r_nMin2, r_ixL, r_ixT, r_nListL, r_nListT, r_nTupL, r_nDict, r_tru1, r_tru2, r_tru3, r_tru4, r_tru5, r_pExt, r_pIns, r_eqII, r_eqBB, r_neII, r_isN1, r_isN2, r_isN3, r_isN4, r_isN5, r_isN6, r_isi, r_chain, r_ch1, r_ch2, r_rdDict, r_undictD, r_key, r_get2, r_or1, r_or2, r_dix, r_dnew, r_curD, r_ce, r_valOf, r_dput, r_put, r_dictAt, r_dicS, r_eLock, r_sLock, r_lok, r_iDk, r_iDi, r_mapR, r_gT, r_tupT, r_gsN, r_gsC, r_gsR, r_aug, r_aug1, r_addI, r_while, r_sPar, r_oN, r_oS, r_part, r_eSl, r_slTo, r_slFrom, atI, ixN, env0, a1, a2, ln, ed, na]
theorem like_refl : ∀ (k : Nat) (d : D), Pl k d → F_l_like_r k none [d, d] = .ok (.val (.bool true)) none
  | 0, _, h => h.elim
  | k + 1, .int i, _ => by
    have a1 : isTy "list" (.int i) = false := by show ("list" == "int") = false; decide
    have a2 : isTy "tuple" (.int i) = false := by show ("tuple" == "int") = false; decide
    have a3 : isTy "str" (.int i) = false := by show ("str" == "int") = false; decide
    have a4 : isTy "int" (.int i) = true := rfl
    have a5 : isTy "bool" (.int i) = false := by show ("bool" == "int") = false; decide
    simp -implicitDefEqProofs [F_l_like_r, r_bind, r_b1, r_b2, r_b3, r_ret, r_frz1, r_frz2, r_frz3, r_frz4, r_rd1, r_rd2, r_rs1, r_rs2, r_rs3, r_var, r_v1, r_v2, r_v3, r_v4, r_c, r_opnd, r_o1, r_o2, r_rdM, r_opt1, r_lift1, r_eOp, r_eUn, r_boolM, r_tB, r_optB, r_tru, r_and, r_or, r_not, r_bE, r_eAnd, r_eOr, r_eNot, r_eIf, r_condT, r_condF, r_aNil, r_aCons, r_rdsM, r_rdsN, r_rdsC, r_eB, r_nb1, r_nb2, r_vN, r_vC, r_tup, r_lst, r_fits, r_fits0, r_fits1, r_fits2, r_fits3, r_fits4, r_callN, r_callD, r_callM, r_call1, r_argB, r_argB1, r_argB2, r_argV, r_argN, r_back0, r_back0x, r_back1, r_back1x, r_setC, r_set1, r_set2, r_seq, r_s1, r_s2, r_s3, r_s4, r_s5, r_sNil, r_sRet, r_sRetN, r_sExpr, r_sIf, r_sBrk, r_sCont, r_asg, r_asgV, r_a1, r_a2, r_a3, r_a4, r_sFrz, r_fz1, r_fz2, r_fz3, r_raise, r_curL, r_cs1, r_cs2, r_st1, r_storeR, r_stoR, r_stoS, r_mut, r_mutR, r_mutL, r_mutS, r_pApp, r_sFor, r_forN, r_loop, r_forC, r_forR, r_l1, r_l2, r_l3, r_l4, r_l5, r_iRg, r_rg, r_iRg2, r_rg2, r_iSq, r_sq1, r_sq2, r_gN, r_fn, r_f1, r_f2, r_f3, r_f4, r_fin1, r_fin2, r_fin3, r_fin4, r_fb1, r_fb2, r_fin5, r_fin6, r_fin7, r_fc1, r_dAdd, r_dAddL, r_dSub, r_dMul, r_dMod, r_dDiv, r_dPow, r_dNeg, r_dLt, r_dLe, r_dGt, r_dGe, r_nInt, r_nIntB, r_nAbs, r_nLenL, r_nLenT, r_nLenD, r_nMax2, r_nMin2, r_ixL, r_ixT, r_nListL, r_nListT, r_nTupL, r_nDict, r_tru1, r_tru2, r_tru3, r_tru4, r_tru5, r_pExt, r_pIns, r_eqII, r_eqBB, r_neII, r_isN1, r_isN2, r_isN3, r_isN4, r_isN5, r_isN6, r_isi, r_chain, r_ch1, r_ch2, r_rdDict, r_undictD, r_key, r_get2, r_or1, r_or2, r_dix, r_dnew, r_curD, r_ce, r_valOf, r_dput, r_put, r_dictAt, r_dicS, r_eLock, r_sLock, r_lok, r_iDk, r_iDi, r_mapR, r_gT, r_tupT, r_gsN, r_gsC, r_gsR, r_aug, r_aug1, r_addI, r_while, r_sPar, r_oN, r_oS, r_part, r_eSl, r_slTo, r_slFrom, atI, ixN, env0, a1, a2, a3, a4, a5]
  | k + 1, .bool i, _ => by
    have a1 : isTy "list" (.bool i) = false := by show ("list" == "bool" || "list" == "int") = false; decide
    have a2 : isTy "tuple" (.bool i) = false := by show ("tuple" == "bool" || "tuple" == "int") = false; decide
    have a3 : isTy "str" (.bool i) = false := by show ("str" == "bool" || "str" == "int") = false; decide
    have a4 : isTy "int" (.bool i) = true := by show ("int" == "bool" || "int" == "int") = true; decide
    have a5 : isTy "bool" (.bool i) = true := by show ("bool" == "bool" || "bool" == "int") = true; decide
    simp -implicitDefEqProofs [F_l_like_r, r_bind, r_b1, r_b2, r_b3, r_ret, r_frz1, r_frz2, r_frz3, r_frz4, r_rd1, r_rd2, r_rs1, r_rs2, r_rs3, r_var, r_v1, r_v2, r_v3, r_v4, r_c, r_opnd, r_o1, r_o2, r_rdM, r_opt1, r_lift1, r_eOp, r_eUn, r_boolM, r_tB, r_optB, r_tru, r_and, r_or, r_not, r_bE, r_eAnd, r_eOr, r_eNot, r_eIf, r_condT, r_condF, r_aNil, r_aCons, r_rdsM, r_rdsN, r_rdsC, r_eB, r_nb1, r_nb2, r_vN, r_vC, r_tup, r_lst, r_fits, r_fits0, r_fits1, r_fits2, r_fits3, r_fits4, r_callN, r_callD, r_callM, r_call1, r_argB, r_argB1, r_argB2, r_argV, r_argN, r_back0, r_back0x, r_back1, r_back1x, r_setC, r_set1, r_set2, r_seq, r_s1, r_s2, r_s3, r_s4, r_s5, r_sNil, r_sRet, r_sRetN, r_sExpr, r_sIf, r_sBrk, r_sCont, r_asg, r_asgV, r_a1, r_a2, r_a3, r_a4, r_sFrz, r_fz1, r_fz2, r_fz3, r_raise, r_curL, r_cs1, r_cs2, r_st1, r_storeR, r_stoR, r_stoS, r_mut, r_mutR, r_mutL, r_mutS, r_pApp, r_sFor, r_forN, r_loop, r_forC, r_forR, r_l1, r_l2, r_l3, r_l4, r_l5, r_iRg, r_rg, r_iRg2, r_rg2, r_iSq, r_sq1, r_sq2, r_gN, r_fn, r_f1, r_f2, r_f3, r_f4, r_fin1, r_fin2, r_fin3, r_fin4, r_fb1, r_fb2, r_fin5, r_fin6, r_fin7, r_fc1, r_dAdd, r_dAddL, r_dSub, r_dMul, r_dMod, r_dDiv, r_dPow, r_dNeg, r_dLt, r_dLe, r_dGt, r_dGe, r_nInt, r_nIntB, r_nAbs, r_nLenL, r_nLenT, r_nLenD, r_nMax2, r_nMin2, r_ixL, r_ixT, r_nListL, r_nListT, r_nTupL, r_nDict, r_tru1, r_tru2, r_tru3, r_tru4, r_tru5, r_pExt, r_pIns, r_eqII, r_eqBB, r_neII, r_isN1, r_isN2, r_isN3, r_isN4, r_isN5, r_isN6, r_isi, r_chain, r_ch1, r_ch2, r_rdDict, r_undictD, r_key, r_get2, r_or1, r_or2, r_dix, r_dnew, r_curD, r_ce, r_valOf, r_dput, r_put, r_dictAt, r_dicS, r_eLock, r_sLock, r_lok, r_iDk, r_iDi, r_mapR, r_gT, r_tupT, r_gsN, r_gsC, r_gsR, r_aug, r_aug1, r_addI, r_while, r_sPar, r_oN, r_oS, r_part, r_eSl, r_slTo, r_slFrom, atI, ixN, env0, a1, a2, a3, a4, a5]
  | k + 1, .list ds, h => like_seq (.inl rfl) h.1 fun d hd => like_refl k d (h.2 d hd)
  | k + 1, .tuple ds, h => like_seq (.inr rfl) h.1 fun d hd => like_refl k d (h.2 d hd)
  | k + 1, .none, h => h.elim
  | k + 1, .str _, h => h.elim
  | k + 1, .dict _, h => h.elim
end K61

set_option Elab.async false
set_option linter.all false
set_option maxRecDepth 100000
set_option maxHeartbeats 4000000
namespace K61
open PySem PySem.Spec PyProof.Rows L2 DW
theorem like6 {d : D} (h : Pl 6 d) : F_l_like none [d, d] = .ok (.val (.bool true)) none := like_refl 6 d h
theorem pl_bool (b : Bool) : Pl 6 (.bool b) := trivial
theorem pl_iL {xs : List Int} (h : xs.length ≤ 1000000) : Pl 6 (iL xs) := ⟨by rw [List.length_map]; exact h, fun d hd => by obtain ⟨x, _, rfl⟩ := List.mem_map.mp hd; exact trivial⟩
theorem pl_pL {l : Tab} (h : l.length ≤ 1000000) : Pl 6 (pL l) := ⟨by rw [List.length_map]; exact h, fun d hd => by
  obtain ⟨x, _, rfl⟩ := List.mem_map.mp hd
  exact ⟨by show 2 ≤ 1000000; decide, fun e he => by
    simp only [List.mem_cons, List.not_mem_nil, or_false] at he
    rcases he with rfl | rfl <;> exact trivial⟩⟩
theorem Is.len {n : Nat} {l : Tab} {f : Int → Int} (h : Is n l f) (hN2 : n ≤ 1000000) : l.length ≤ 1000000 := by
  have := h.tbF.1.t.len (by omega)
  omega
theorem okL_len {xs : List Int} (h : okL (iL xs) = true) : xs.length ≤ 400 := by
  obtain ⟨h1, _⟩ := (Bool.and_eq_true _ _ ▸ (show (decide ((xs.map PyData.int).length ≤ 400) && (xs.map PyData.int).all okR) = true from h) : _ ∧ _)
  have := of_decide_eq_true h1
  rwa [List.length_map] at this
/-- the answers at one list -/
structure Sol (n : Nat) (xs : List Int) (l : Tab) : Prop where
  left : F_left_over none [iL xs, .int n] = .ok (.own (l.map DW.pairD)) none
  canc : F_cancels none [iL xs, .int n] = .ok (.val (.bool l.isEmpty)) none
theorem sol_of {n : Nat} (hN : 1 ≤ n) (hN2 : n ≤ 1000000) {xs : List Int} (hx : okL (iL xs) = true) {l : Tab} {ps : List Nat} {f : Int → Int} (pr : PR n ps) (h : Is n l f) (e : ∀ k, 0 ≤ k → k < (n : Int) → f k = TT n ps (cnt n xs) k) : Sol n xs l := by
  obtain ⟨l', ps', pr', h', e1, e2⟩ := solve hN hN2 xs hx
  have ep := pr'.uniq pr
  subst ep
  have el := h'.uniq h fun j a b => (e j a b).symm
  subst el
  exact ⟨e1, e2⟩
theorem told_eq {n : Nat} (hN2 : n ≤ 1000000) {xs : List Int} (hx : okL (iL xs) = true) {l : Tab} {f : Int → Int} (h : Is n l f) (s : Sol n xs l) : F_l_told none [iL xs, .int n, pL l] = .ok (.val (.bool true)) none := by
  have k1 := like6 (pl_bool l.isEmpty)
  have k2 := like6 (pl_iL (xs := xs) (by have := okL_len hx; omega))
  have k3 := like6 (pl_pL (h.len hN2))
  have e1 := s.left
  have e2 := s.canc
  have em : (l.map DW.pairD).isEmpty = l.isEmpty := by cases l <;> rfl
  unfold iL at *
  unfold pL at *
  simp -implicitDefEqProofs [F_l_told, r_bind, r_b1, r_b2, r_b3, r_ret, r_frz1, r_frz2, r_frz3, r_frz4, r_rd1, r_rd2, r_rs1, r_rs2, r_rs3, r_var, r_v1, r_v2, r_v3, r_v4, r_c, r_opnd, r_o1, r_o2, r_rdM, r_opt1, r_lift1, r_eOp, r_eUn, r_boolM, r_tB, r_optB, r_tru, r_and, r_or, r_not, r_bE, r_eAnd, r_eOr, r_eNot, r_eIf, r_condT, r_condF, r_aNil, r_aCons, r_rdsM, r_rdsN, r_rdsC, r_eB, r_nb1, r_nb2, r_vN, r_vC, r_tup, r_lst, r_fits, r_fits0, r_fits1, r_fits2, r_fits3, r_fits4, r_callN, r_callD, r_callM, r_call1, r_argB, r_argB1, r_argB2, r_argV, r_argN, r_back0, r_back0x, r_back1, r_back1x, r_setC, r_set1, r_set2, r_seq, r_s1, r_s2, r_s3, r_s4, r_s5, r_sNil, r_sRet, r_sRetN, r_sExpr, r_sIf, r_sBrk, r_sCont, r_asg, r_asgV, r_a1, r_a2, r_a3, r_a4, r_sFrz, r_fz1, r_fz2, r_fz3, r_raise, r_curL, r_cs1, r_cs2, r_st1, r_storeR, r_stoR, r_stoS, r_mut, r_mutR, r_mutL, r_mutS, r_pApp, r_sFor, r_forN, r_loop, r_forC, r_forR, r_l1, r_l2, r_l3, r_l4, r_l5, r_iRg, r_rg, r_iRg2, r_rg2, r_iSq, r_sq1, r_sq2, r_gN, r_fn, r_f1, r_f2, r_f3, r_f4, r_fin1, r_fin2, r_fin3, r_fin4, r_fb1, r_fb2, r_fin5, r_fin6, r_fin7, r_fc1, r_dAdd, r_dAddL, r_dSub, r_dMul, r_dMod, r_dDiv, r_dPow, r_dNeg, r_dLt, r_dLe, r_dGt, r_dGe, r_nInt, r_nIntB, r_nAbs, r_nLenL, r_nLenT, r_nLenD, r_nMax2, r_nMin2, r_ixL, r_ixT, r_nListL, r_nListT, r_nTupL, r_nDict, r_tru1, r_tru2, r_tru3, r_tru4, r_tru5, r_pExt, r_pIns, r_eqII, r_eqBB, r_neII, r_isN1, r_isN2, r_isN3, r_isN4, r_isN5, r_isN6, r_isi, r_chain, r_ch1, r_ch2, r_rdDict, r_undictD, r_key, r_get2, r_or1, r_or2, r_dix, r_dnew, r_curD, r_ce, r_valOf, r_dput, r_put, r_dictAt, r_dicS, r_eLock, r_sLock, r_lok, r_iDk, r_iDi, r_mapR, r_gT, r_tupT, r_gsN, r_gsC, r_gsR, r_aug, r_aug1, r_addI, r_while, r_sPar, r_oN, r_oS, r_part, r_eSl, r_slTo, r_slFrom, atI, ixN, env0, e1, e2, k2, k3, em, k1]
/-! ### the operators -/
theorem TT_congr {N : Int} : ∀ {ps : List Nat} {f g : Int → Int}, (∀ k, f k = g k) → ∀ k, TT N ps f k = TT N ps g k
  | [], _, _, h => h
  | p :: ps, f, g, h => TT_congr (ps := ps) (f := Dl (N / p) f) (g := Dl (N / p) g) fun k => by simp only [Dl]; rw [h, h]
theorem TT_add {N : Int} : ∀ {ps : List Nat} {f g : Int → Int} (k : Int), TT N ps (fun k => f k + g k) k = TT N ps f k + TT N ps g k
  | [], _, _, _ => rfl
  | p :: ps, f, g, k => by
    show TT N ps (Dl (N / p) fun k => f k + g k) k = TT N ps (Dl (N / p) f) k + TT N ps (Dl (N / p) g) k
    rw [← TT_add]
    refine TT_congr (fun k => ?_) k
    simp only [Dl]
    omega
theorem TT_shift {N c : Int} : ∀ {ps : List Nat} {f : Int → Int} (k : Int), TT N ps (fun k => f (k - c)) k = TT N ps f (k - c)
  | [], _, _ => rfl
  | p :: ps, f, k => by
    show TT N ps (Dl (N / p) fun k => f (k - c)) k = TT N ps (Dl (N / p) f) (k - c)
    rw [← TT_shift]
    refine TT_congr (fun k => ?_) k
    simp only [Dl]
    rw [show k - N / (p : Int) - c = k - c - N / (p : Int) by omega]
theorem cnt_app (N : Int) (xs ys : List Int) (k : Int) : cnt N (xs ++ ys) k = cnt N xs k + cnt N ys k := by
  unfold cnt; rw [List.countP_append]; omega
theorem TT_zero {N : Int} : ∀ {ps : List Nat} {f : Int → Int}, (∀ k, f k = 0) → ∀ k, TT N ps f k = 0
  | [], _, h => h
  | p :: ps, f, h => TT_zero (ps := ps) (f := Dl (N / p) f) fun k => by simp only [Dl]; rw [h, h]; rfl
/-- the order of the shifts is all one -/
theorem TT_comm {N a : Int} : ∀ {ps : List Nat} {f : Int → Int} (k : Int), TT N ps (Dl a f) k = Dl a (TT N ps f) k
  | [], _, _ => rfl
  | p :: ps, f, k => by
    show TT N ps (Dl (N / p) (Dl a f)) k = Dl a (TT N ps (Dl (N / p) f)) k
    rw [← TT_comm]
    refine TT_congr (fun k => ?_) k
    simp only [Dl]
    rw [show k - N / (p : Int) - a = k - a - N / (p : Int) by omega]
    omega
theorem TT_kill {N : Int} {p : Nat} {f : Int → Int} (h : ∀ k, Dl (N / p) f k = 0) : ∀ {ps : List Nat}, p ∈ ps → ∀ k, TT N ps f k = 0
  | q :: ps, hm, k => by
    rcases List.mem_cons.mp hm with e | e
    · subst e; exact TT_zero h k
    · exact TT_kill (f := Dl (N / q) f) (fun k => by
        have a := h k
        have b := h (k - N / (q : Int))
        simp only [Dl] at a b ⊢
        rw [show k - N / (p : Int) - N / (q : Int) = k - N / (q : Int) - N / (p : Int) by omega]
        omega) e k
end K61

set_option Elab.async false
set_option linter.all false
set_option maxRecDepth 100000
set_option maxHeartbeats 4000000
namespace K61
open PySem PySem.Spec PyProof.Rows L2 DW
/-- shifts by any steps -/
def DD (as : List Int) (f : Int → Int) : Int → Int := as.foldl (fun (g : Int → Int) (a : Int) => Dl a g) f
theorem TT_DD (N : Int) : ∀ (ps : List Nat) (f : Int → Int), TT N ps f = DD (ps.map fun (p : Nat) => N / (p : Int)) f
  | [], _ => rfl
  | p :: ps, f => TT_DD N ps (Dl (N / p) f)
theorem DD_congr : ∀ {as : List Int} {f g : Int → Int}, (∀ k, f k = g k) → ∀ k, DD as f k = DD as g k
  | [], _, _, h => h
  | a :: as, f, g, h => DD_congr (as := as) (f := Dl a f) (g := Dl a g) fun k => by simp only [Dl]; rw [h, h]
theorem DD_comm {b : Int} : ∀ {as : List Int} {f : Int → Int} (k : Int), DD as (Dl b f) k = Dl b (DD as f) k
  | [], _, _ => rfl
  | a :: as, f, k => by
    show DD as (Dl a (Dl b f)) k = Dl b (DD as (Dl a f)) k
    rw [← DD_comm]
    refine DD_congr (fun k => ?_) k
    simp only [Dl]
    rw [show k - a - b = k - b - a by omega]
    omega
/-- what does not change by a does not by a times c -/
theorem Dl_nat {a : Int} {h : Int → Int} (z : ∀ k, Dl a h k = 0) : ∀ (c : Nat) (k : Int), h (k - c * a) = h k
  | 0, k => by rw [show k - ((0 : Nat) : Int) * a = k by simp]
  | c + 1, k => by
    have e : k - ((c + 1 : Nat) : Int) * a = k - (c : Int) * a - a := by rw [Int.natCast_add, Int.add_mul]; omega
    have := z (k - (c : Int) * a)
    simp only [Dl] at this
    rw [e, ← Dl_nat z c k]
    omega
theorem Dl_mul {a : Int} {h : Int → Int} (z : ∀ k, Dl a h k = 0) (c : Nat) (k : Int) : Dl ((c : Int) * a) h k = 0 := by
  simp only [Dl]
  rw [Dl_nat z c k]
  omega
/-- each step times c: what was zero stays zero -/
theorem DD_mul (c : Nat) : ∀ {as : List Int} {f : Int → Int}, (∀ k, DD as f k = 0) → ∀ k, DD (as.map fun a => (c : Int) * a) f k = 0
  | [], _, h => h
  | a :: as, f, h => by
    have h1 : ∀ k, Dl a (DD as f) k = 0 := fun k => by rw [← DD_comm]; exact h k
    have h2 : ∀ k, DD as (Dl ((c : Int) * a) f) k = 0 := fun k => by rw [DD_comm]; exact Dl_mul h1 c k
    exact DD_mul c (as := as) (f := Dl ((c : Int) * a) f) h2
/-- f read at G k -/
theorem DD_scale {G : Int} : ∀ {as : List Int} {f : Int → Int} (k : Int), DD as (fun k => f (G * k)) k = DD (as.map fun a => G * a) f (G * k)
  | [], _, _ => rfl
  | a :: as, f, k => by
    show DD as (Dl a fun k => f (G * k)) k = DD (as.map fun a => G * a) (Dl (G * a) f) (G * k)
    rw [← DD_scale]
    refine DD_congr (fun k => ?_) k
    simp only [Dl]
    rw [Int.mul_sub]
theorem DD_per {N : Int} : ∀ {as : List Int} {f : Int → Int}, Per N f → Per N (DD as f)
  | [], _, h => h
  | a :: as, _, h => DD_per (as := as) (Dl_per h)
/-- steps alike mod N -/
theorem DD_mod {N : Int} {u : Int → Int} : ∀ {as : List Int} {f : Int → Int}, Per N f → (∀ a ∈ as, u a % N = a % N) → ∀ k, DD (as.map u) f k = DD as f k
  | [], _, _, _, _ => rfl
  | a :: as, f, pf, h, k => by
    show DD (as.map u) (Dl (u a) f) k = DD as (Dl a f) k
    rw [DD_mod (Dl_per pf) fun b hb => h b (List.mem_cons_of_mem _ hb)]
    refine DD_congr (fun k => ?_) k
    simp only [Dl]
    rw [pf.eq (a := k - u a) (b := k - a) (by rw [Int.sub_emod, h a List.mem_cons_self, ← Int.sub_emod])]
/-- the counts of the readings times F -/
theorem cnt_mul {N F G : Int} (hFG : (F * G) % N = 1 % N) (xs : List Int) (k : Int) : cnt N (xs.map fun x => x % N * F) k = cnt N xs (G * k) := by
  unfold cnt
  rw [List.countP_map]
  congr 1
  refine List.countP_congr fun x _ => ?_
  have key : (x % N * F) % N = k % N ↔ x % N = (G * k) % N := by
    have m1 : ∀ a b c : Int, a % N = b % N → (c * a) % N = (c * b) % N := fun a b c e => by rw [Int.mul_emod, e, ← Int.mul_emod]
    have g1 : ∀ a : Int, (F * G * a) % N = a % N := fun a => by rw [Int.mul_emod, hFG, ← Int.mul_emod, Int.one_mul]
    constructor
    · intro e
      have e2 := m1 _ _ G e
      rw [← e2, show G * (x % N * F) = F * G * (x % N) by rw [Int.mul_comm (x % N) F, ← Int.mul_assoc, Int.mul_comm G F], g1, Int.emod_emod]
    · intro e
      have e2 : (x % N) % N = (G * k) % N := by rw [Int.emod_emod]; exact e
      have e3 := m1 _ _ F e2
      rw [Int.mul_comm (x % N) F, e3, ← Int.mul_assoc, g1]
  show decide ((x % N * F) % N = k % N) = true ↔ decide (x % N = (G * k) % N) = true
  rw [decide_eq_true_eq, decide_eq_true_eq]
  exact key
/-- cancelling is kept by units -/
theorem unit_iff {n F G : Nat} (hN : 1 ≤ n) (hFG : ((F : Int) * G) % n = 1 % n) (ps : List Nat) (xs : List Int) :
    (∀ k, TT n ps (cnt n (xs.map fun x => x % (n : Int) * F)) k = 0) ↔ ∀ k, TT n ps (cnt n xs) k = 0 := by
  have gf : ((G : Int) * F) % n = 1 % n := by rw [Int.mul_comm]; exact hFG
  have e : ∀ k, TT n ps (cnt n (xs.map fun x => x % (n : Int) * F)) k = DD ((ps.map fun (p : Nat) => (n : Int) / (p : Int)).map fun a => (G : Int) * a) (cnt n xs) (G * k) := fun k => by
    rw [TT_DD, ← DD_scale]
    exact DD_congr (fun k => cnt_mul hFG xs k) k
  have pc := cnt_per (n : Int) xs
  constructor
  · intro h
    -- at every place, as k = G (F k)
    have h1 : ∀ k, DD ((ps.map fun (p : Nat) => (n : Int) / (p : Int)).map fun a => (G : Int) * a) (cnt n xs) k = 0 := fun k => by
      have := h (F * k)
      rw [e] at this
      rw [← this]
      refine (DD_per pc).eq ?_
      rw [← Int.mul_assoc, Int.mul_emod, gf, ← Int.mul_emod, Int.one_mul]
    have h2 := DD_mul F h1
    intro k
    rw [TT_DD, ← h2 k, List.map_map]
    refine (DD_mod pc (u := (fun a => (F : Int) * a) ∘ fun a => (G : Int) * a) (fun a _ => ?_) k).symm
    show ((F : Int) * (G * a)) % n = a % n
    rw [← Int.mul_assoc, Int.mul_emod, hFG, ← Int.mul_emod, Int.one_mul]
  · intro h k
    rw [e]
    exact DD_mul G (fun k => by rw [← TT_DD]; exact h k) _
end K61

set_option Elab.async false
set_option linter.all false
set_option maxRecDepth 100000
set_option maxHeartbeats 4000000
namespace K61
open PySem PySem.Spec PyProof.Rows L2 DW
theorem bez (a b : Nat) : ∃ x y : Int, (a : Int) * x + b * y = (Nat.gcd a b : Nat) := by
  induction a, b using Nat.gcd.induction with
  | H0 b => exact ⟨0, 1, by simp⟩
  | H1 a b ha ih =>
    obtain ⟨x, y, e⟩ := ih
    refine ⟨y - (b / a : Nat) * x, x, ?_⟩
    rw [Nat.gcd_rec, ← e]
    have d : (b : Int) = (b % a : Nat) + (a : Int) * (b / a : Nat) := by
      have := Nat.mod_add_div b a
      exact_mod_cast this.symm
    generalize ((b % a : Nat) : Int) = r at *
    generalize ((b / a : Nat) : Int) = q at *
    rw [d, Int.mul_sub, Int.add_mul, Int.mul_assoc]
    omega
theorem inv_of {F n : Nat} (hN : 1 ≤ n) (g : Nat.gcd F n = 1) : ∃ G : Nat, ((F : Int) * G) % n = 1 % n := by
  obtain ⟨x, y, e⟩ := bez F n
  rw [g] at e
  have x0 : 0 ≤ x % (n : Int) := Int.emod_nonneg _ (by omega)
  refine ⟨(x % (n : Int)).toNat, ?_⟩
  rw [Int.toNat_of_nonneg x0, Int.mul_emod, Int.emod_emod, ← Int.mul_emod]
  have : (F : Int) * x = 1 + n * (-y) := by rw [Int.mul_neg]; omega
  rw [this, Int.add_mul_emod_self_left]
/-! ### a set of p readings, n / p apart -/
def ind (n : Int) (y k : Int) : Int := if y % n = k % n then 1 else 0
theorem cnt_cons (n x k : Int) (xs : List Int) : cnt n (x :: xs) k = ind n x k + cnt n xs k := by
  unfold cnt ind
  rw [List.countP_cons]
  by_cases h : x % n = k % n
  · rw [if_pos h, if_pos (decide_eq_true h)]; omega
  · rw [if_neg h, if_neg (by rw [decide_eq_true_eq]; exact h)]; omega
theorem cnt_cong {n k : Int} : ∀ {xs ys : List Int}, xs.map (· % n) = ys.map (· % n) → cnt n xs k = cnt n ys k
  | [], [], _ => rfl
  | [], _ :: _, h => by simp at h
  | _ :: _, [], h => by simp at h
  | x :: xs, y :: ys, h => by
    rw [List.map_cons, List.map_cons] at h
    injection h with h1 h2
    rw [cnt_cons, cnt_cons, cnt_cong h2]
    unfold ind
    have h1 : x % n = y % n := h1
    rw [h1]
theorem steps_tel (n first a k : Int) : ∀ m : Nat, cnt n ((List.range m).map fun (i : Nat) => first + i * a) k - cnt n ((List.range m).map fun (i : Nat) => first + i * a) (k - a) = ind n first k - ind n (first + m * a) k
  | 0 => by simp [cnt]
  | m + 1 => by
    have ih := steps_tel n first a k m
    rw [List.range_succ, List.map_append, cnt_app, cnt_app]
    have e1 : ∀ j, cnt n ([m].map fun (i : Nat) => first + i * a) j = ind n (first + m * a) j := fun j => by
      rw [List.map_singleton, cnt_cons]; simp [cnt]
    rw [e1, e1]
    have e2 : ind n (first + m * a) (k - a) = ind n (first + ((m + 1 : Nat) : Int) * a) k := by
      unfold ind
      have e3 : first + ((m + 1 : Nat) : Int) * a = (first + m * a) + a := by rw [Int.natCast_add, Int.add_mul]; omega
      rw [e3]
      have : (first + m * a) % n = (k - a) % n ↔ (first + m * a + a) % n = k % n := by
        constructor
        · intro h; rw [Int.add_emod, h, ← Int.add_emod, Int.sub_add_cancel]
        · intro h; rw [Int.sub_emod k, ← h, ← Int.sub_emod, Int.add_sub_cancel]
      by_cases h : (first + m * a) % n = (k - a) % n
      · rw [if_pos h, if_pos (this.mp h)]
      · rw [if_neg h, if_neg fun z => h (this.mpr z)]
    omega
theorem set_kill {n p : Nat} {first : Int} {xs : List Int} (hp : 1 ≤ p) (hd : p ∣ n) (hl : xs.length = p) (hs : SetIn n p first xs) (k : Int) : Dl ((n : Int) / p) (cnt n xs) k = 0 := by
  have e : ∀ j, cnt n xs j = cnt n ((List.range p).map fun (i : Nat) => first + i * ((n : Int) / p)) j := fun j => by
    refine cnt_cong (List.ext_getElem? fun i => ?_)
    rw [List.getElem?_map, List.getElem?_map, List.getElem?_map]
    by_cases hi : i < p
    · have h1 : xs[i]? = some (xs[i]'(by omega)) := List.getElem?_eq_getElem (by omega)
      obtain ⟨c, ec, _⟩ := hs i _ h1
      rw [h1, List.getElem?_range hi, ec]
      show some ((first + (i : Int) * ((n : Int) / p) + n * c) % (n : Int)) = some ((first + (i : Int) * ((n : Int) / p)) % (n : Int))
      rw [Int.add_mul_emod_self_left]
    · rw [List.getElem?_eq_none (by omega), List.getElem?_eq_none (by rw [List.length_range]; omega)]
      rfl
  simp only [Dl]
  rw [e, e, steps_tel]
  obtain ⟨q, rfl⟩ := hd
  have ha : ((p * q : Nat) : Int) / (p : Int) = q := by rw [Int.natCast_mul]; exact Int.mul_ediv_cancel_left _ (by omega)
  rw [ha]
  unfold ind
  have : (first + (p : Int) * (q : Int)) % ((p * q : Nat) : Int) = first % ((p * q : Nat) : Int) := by
    rw [Int.natCast_mul]
    have := Int.add_mul_emod_self_left first ((p : Int) * q) 1
    rwa [Int.mul_one] at this
  rw [this]
  omega
/-! ### one reading never cancels -/
theorem nv {n : Nat} (hN : 1 ≤ n) : ∀ (ps : List Nat) (P : Nat) (f : Int → Int), 1 ≤ P → P ∣ n → (∃ k, f k ≠ 0) → (∀ j k, f j ≠ 0 → f k ≠ 0 → ((n / P : Nat) : Int) ∣ j - k) → ps.Pairwise (· < ·) → (∀ p ∈ ps, isP p ∧ p ∣ n ∧ ¬ p ∣ P) → ∃ k, TT n ps f k ≠ 0
  | [], _, _, _, _, h, _, _, _ => h
  | p :: ps, P, f, hP, hPn, ⟨k0, hk0⟩, sup, asc, hp => by
    obtain ⟨a1, a2⟩ := List.pairwise_cons.mp asc
    obtain ⟨ip, pn, np⟩ := hp p List.mem_cons_self
    have p2 := ip.1
    have cop : Nat.Coprime P p := by
      rcases ip.2 _ (Nat.gcd_dvd_right P p) with g | g
      · exact g
      · exact absurd (g ▸ Nat.gcd_dvd_left P p) np
    have hPp : P * p ∣ n := Nat.Coprime.mul_dvd_of_dvd_of_dvd cop hPn pn
    obtain ⟨m, hm⟩ := hPp
    have m0 : 1 ≤ m := Nat.pos_of_ne_zero fun z => by subst z; simp at hm; omega
    have q1 : n / P = p * m := by rw [hm, Nat.mul_assoc, Nat.mul_div_cancel_left _ (by omega)]
    have q2 : n / p = P * m := by rw [hm, Nat.mul_comm P p, Nat.mul_assoc, Nat.mul_div_cancel_left _ (by omega)]
    have q3 : n / (P * p) = m := by rw [hm, Nat.mul_div_cancel_left _ (Nat.mul_pos (by omega) (by omega))]
    have st : (n : Int) / (p : Int) = ((n / p : Nat) : Int) := (Int.natCast_ediv n p).symm
    have dm : ∀ j k, f j ≠ 0 → f k ≠ 0 → (m : Int) ∣ j - k := fun j k hj hk => by
      have := sup j k hj hk
      rw [q1, Int.natCast_mul] at this
      exact Int.dvd_trans (Int.dvd_mul_left _ _) this
    have ds : (m : Int) ∣ ((n / p : Nat) : Int) := by rw [q2, Int.natCast_mul]; exact Int.dvd_mul_left _ _
    refine nv hN ps (P * p) (Dl (n / p) f) (Nat.mul_pos (by omega) (by omega)) ⟨m, hm⟩ ?_ ?_ a2 fun q hq => ?_
    · refine ⟨k0, fun z => ?_⟩
      simp only [Dl] at z
      rw [st] at z
      have h2 : f (k0 - ((n / p : Nat) : Int)) ≠ 0 := fun y => hk0 (by omega)
      have := sup k0 _ hk0 h2
      rw [show k0 - (k0 - ((n / p : Nat) : Int)) = ((n / p : Nat) : Int) by omega, Int.natCast_dvd_natCast, q1, q2] at this
      exact np (Nat.dvd_of_mul_dvd_mul_right m0 this)
    · intro j k hj hk
      rw [q3]
      simp only [Dl] at hj hk
      rw [st] at hj hk
      have pick : ∀ j, f j - f (j - ((n / p : Nat) : Int)) ≠ 0 → ∃ j', f j' ≠ 0 ∧ (m : Int) ∣ j - j' := fun j h => by
        by_cases z : f j = 0
        · exact ⟨j - ((n / p : Nat) : Int), fun y => h (by omega), by rw [show j - (j - ((n / p : Nat) : Int)) = ((n / p : Nat) : Int) by omega]; exact ds⟩
        · exact ⟨j, z, by rw [Int.sub_self]; exact Int.dvd_zero _⟩
      obtain ⟨j', f1, d1⟩ := pick j hj
      obtain ⟨k', f2, d2⟩ := pick k hk
      have := dm j' k' f1 f2
      rw [show j - k = (j - j') + (j' - k') - (k - k') by omega]
      exact Int.dvd_sub (Int.dvd_add d1 this) d2
    · obtain ⟨i1, i2, i3⟩ := hp q (List.mem_cons_of_mem _ hq)
      refine ⟨i1, i2, fun z => ?_⟩
      rcases i1.euc z with z | z
      · exact i3 z
      · rcases ip.2 q z with e | e
        · have := i1.1; omega
        · have := a1 q hq; omega
theorem one_nv {n : Nat} (hN : 1 ≤ n) {ps : List Nat} (pr : PR n ps) (x : Int) : ∃ k, TT n ps (cnt n [x]) k ≠ 0 := by
  have e : ∀ k, cnt n [x] k = ind n x k := fun k => by rw [cnt_cons]; simp [cnt]
  refine nv hN ps 1 (cnt n [x]) (Nat.le_refl _) (Nat.one_dvd _) ⟨x, ?_⟩ (fun j k hj hk => ?_) pr.asc fun p hp => ?_
  · rw [e]; unfold ind; rw [if_pos rfl]; decide
  · rw [e] at hj hk
    unfold ind at hj hk
    by_cases a : x % (n : Int) = j % n
    · by_cases b : x % (n : Int) = k % n
      · rw [Nat.div_one]
        exact Int.dvd_of_emod_eq_zero (Int.emod_eq_emod_iff_emod_sub_eq_zero.mp (a.symm.trans b))
      · rw [if_neg b] at hk; exact absurd rfl hk
    · rw [if_neg a] at hj; exact absurd rfl hj
  · obtain ⟨i1, i2⟩ := (pr.mem p).mp hp
    exact ⟨i1, i2, fun z => by have := Nat.le_of_dvd (by decide) z; have := i1.1; omega⟩
end K61

set_option Elab.async false
set_option linter.all false
set_option maxRecDepth 100000
set_option maxHeartbeats 4000000
namespace K61
open PySem PySem.Spec PyProof.Rows L2 DW
def RC : Int := 999999999999999999999999999999999999999999999999999910000000
/-- a drawn list -/
structure Gd (xs : List Int) : Prop where
  len : xs.length ≤ 60
  rg : ∀ x ∈ xs, -RC ≤ x ∧ x ≤ RC
theorem RB_eq : RB = 999999999999999999999999999999999999999999999999999900000000 := by unfold RB; decide
theorem set_rg {N p first : Int} {xs : List Int} (hN : 1 ≤ N) (hN2 : N ≤ 1000000) (hp : 1 ≤ p) (f0 : -RB ≤ first) (f1 : first ≤ RB) (hl : xs.length = p.toNat) (h : SetIn N p first xs) : ∀ x ∈ xs, -RC ≤ x ∧ x ≤ RC := by
  intro x hx
  obtain ⟨i, hi⟩ := List.getElem?_of_mem hx
  obtain ⟨e, ex, e0, e1⟩ := h i x hi
  have hil := (List.getElem?_eq_some_iff.mp hi).1
  have q0 : 0 ≤ N / p := Int.ediv_nonneg (by omega) (by omega)
  have q1 : N / p * p ≤ N := Int.ediv_mul_le _ (by omega)
  have q2 : (i : Int) * (N / p) ≤ p * (N / p) := Int.mul_le_mul_of_nonneg_right (by omega) q0
  have q3 : 0 ≤ (i : Int) * (N / p) := Int.mul_nonneg (by omega) q0
  rw [Int.mul_comm p] at q2
  have q4 : N * e ≤ N * 1 := Int.mul_le_mul_of_nonneg_left e1 (by omega)
  have q5 : N * (-1) ≤ N * e := Int.mul_le_mul_of_nonneg_left e0 (by omega)
  rw [RB_eq] at f0 f1
  unfold RC
  rw [ex]
  omega
theorem fm_lt (b : Nat) (g : D → Option D) (hg : ∀ q : Nat, g (nD q) = if q < b then some (nD q) else none) : ∀ ps : List Nat, (ps.map nD).filterMap g = (ps.filter fun q => decide (q < b)).map nD
  | [] => rfl
  | q :: ps => by
    rw [List.map_cons]
    by_cases h : q < b
    · rw [List.filterMap_cons_some (by rw [hg, if_pos h]), fm_lt b g hg ps, List.filter_cons_of_pos (by simp [h])]; rfl
    · rw [List.filterMap_cons_none (by rw [hg, if_neg h]), fm_lt b g hg ps, List.filter_cons_of_neg (by simp [h])]
theorem lc_lt {n : Nat} {ps : List Nat} (b : Nat) (j : Nat) (δ : DW.Env) (ep : F_l_primes_once none [.int n] = .ok (.own (ps.map nD)) none) (hl : ps.length ≤ 1000000) (hv : δ[j]? = some (.val (.int n))) (k : Nat) (hf : DW.freeOf [k] δ = true) (hb : backE δ [k] (wipeE [k] δ) = δ) (hk : k < δ.length) :
    eLc (iSq (eCallN 1 F_l_primes_once (aCons (eVar j) aNil))) (gN k) (tB' (eOp dLt (eVar k) (eC (.int b)))) (eVar k) [k] δ = .ok (.own ((ps.filter fun q => decide (q < b)).map nD)) δ := by
  have ed := eLc_pure (src := iSq (eCallN 1 F_l_primes_once (aCons (eVar j) aNil))) (tgt := gN k) (cond := tB' (eOp dLt (eVar k) (eC (.int b)))) (elt := eVar k) (vs := [k]) (δ := δ) (ds := ps.map nD)
    (fun d => match d with
      | .int q => if q < (b : Int) then some (.int q) else none
      | _ => none)
    (by simp -implicitDefEqProofs [r_bind, r_b1, r_b2, r_b3, r_ret, r_frz1, r_frz2, r_frz3, r_frz4, r_rd1, r_rd2, r_rs1, r_rs2, r_rs3, r_var, r_v1, r_v2, r_v3, r_v4, r_c, r_opnd, r_o1, r_o2, r_rdM, r_opt1, r_lift1, r_eOp, r_eUn, r_boolM, r_tB, r_optB, r_tru, r_and, r_or, r_not, r_bE, r_eAnd, r_eOr, r_eNot, r_eIf, r_condT, r_condF, r_aNil, r_aCons, r_rdsM, r_rdsN, r_rdsC, r_eB, r_nb1, r_nb2, r_vN, r_vC, r_tup, r_lst, r_fits, r_fits0, r_fits1, r_fits2, r_fits3, r_fits4, r_callN, r_callD, r_callM, r_call1, r_argB, r_argB1, r_argB2, r_argV, r_argN, r_back0, r_back0x, r_back1, r_back1x, r_setC, r_set1, r_set2, r_seq, r_s1, r_s2, r_s3, r_s4, r_s5, r_sNil, r_sRet, r_sRetN, r_sExpr, r_sIf, r_sBrk, r_sCont, r_asg, r_asgV, r_a1, r_a2, r_a3, r_a4, r_sFrz, r_fz1, r_fz2, r_fz3, r_raise, r_curL, r_cs1, r_cs2, r_st1, r_storeR, r_stoR, r_stoS, r_mut, r_mutR, r_mutL, r_mutS, r_pApp, r_sFor, r_forN, r_loop, r_forC, r_forR, r_l1, r_l2, r_l3, r_l4, r_l5, r_iRg, r_rg, r_iRg2, r_rg2, r_iSq, r_sq1, r_sq2, r_gN, r_fn, r_f1, r_f2, r_f3, r_f4, r_fin1, r_fin2, r_fin3, r_fin4, r_fb1, r_fb2, r_fin5, r_fin6, r_fin7, r_fc1, r_dAdd, r_dAddL, r_dSub, r_dMul, r_dMod, r_dDiv, r_dPow, r_dNeg, r_dLt, r_dLe, r_dGt, r_dGe, r_nInt, r_nIntB, r_nAbs, r_nLenL, r_nLenT, r_nLenD, r_nMax2, r_nMin2, r_ixL, r_ixT, r_nListL, r_nListT, r_nTupL, r_nDict, r_tru1, r_tru2, r_tru3, r_tru4, r_tru5, r_pExt, r_pIns, r_eqII, r_eqBB, r_neII, r_isN1, r_isN2, r_isN3, r_isN4, r_isN5, r_isN6, r_isi, r_chain, r_ch1, r_ch2, r_rdDict, r_undictD, r_key, r_get2, r_or1, r_or2, r_dix, r_dnew, r_curD, r_ce, r_valOf, r_dput, r_put, r_dictAt, r_dicS, r_eLock, r_sLock, r_lok, r_iDk, r_iDi, r_mapR, r_gT, r_tupT, r_gsN, r_gsC, r_gsR, r_aug, r_aug1, r_addI, r_while, r_sPar, r_oN, r_oS, r_part, r_eSl, r_slTo, r_slFrom, atI, ixN, env0, hv, ep]) hf hb
    (fun d hd => by
      obtain ⟨q, _, rfl⟩ := List.mem_map.mp hd
      have hk2 : k < (wipeE [k] δ).length := by show k < (δ.set k .un).length; rw [List.length_set]; exact hk
      have gk : ((wipeE [k] δ).set k (.val (.int (q : Int))))[k]? = some (.val (.int (q : Int))) := List.getElem?_set_self hk2
      have wp : wipeE [k] ((wipeE [k] δ).set k (.val (.int (q : Int)))) = wipeE [k] δ := by show ((δ.set k .un).set k _).set k .un = δ.set k .un; rw [List.set_set, List.set_set]
      refine ⟨(wipeE [k] δ).set k (.val (.int (q : Int))), rfl, ?_⟩
      by_cases h : (q : Int) < (b : Int)
      · refine .inr ⟨(wipeE [k] δ).set k (.val (.int (q : Int))), (wipeE [k] δ).set k (.val (.int (q : Int))), .int q, ?_, ?_, wp, by show (if (q : Int) < (b : Int) then some (PyData.int q) else none) = _; rw [if_pos h]⟩
        · generalize (wipeE [k] δ).set k (.val (.int (q : Int))) = δ1 at gk
          generalize ((q : Nat) : Int) = z at *
          simp -implicitDefEqProofs [r_bind, r_b1, r_b2, r_b3, r_ret, r_frz1, r_frz2, r_frz3, r_frz4, r_rd1, r_rd2, r_rs1, r_rs2, r_rs3, r_var, r_v1, r_v2, r_v3, r_v4, r_c, r_opnd, r_o1, r_o2, r_rdM, r_opt1, r_lift1, r_eOp, r_eUn, r_boolM, r_tB, r_optB, r_tru, r_and, r_or, r_not, r_bE, r_eAnd, r_eOr, r_eNot, r_eIf, r_condT, r_condF, r_aNil, r_aCons, r_rdsM, r_rdsN, r_rdsC, r_eB, r_nb1, r_nb2, r_vN, r_vC, r_tup, r_lst, r_fits, r_fits0, r_fits1, r_fits2, r_fits3, r_fits4, r_callN, r_callD, r_callM, r_call1, r_argB, r_argB1, r_argB2, r_argV, r_argN, r_back0, r_back0x, r_back1, r_back1x, r_setC, r_set1, r_set2, r_seq, r_s1, r_s2, r_s3, r_s4, r_s5, r_sNil, r_sRet, r_sRetN, r_sExpr, r_sIf, r_sBrk, r_sCont, r_asg, r_asgV, r_a1, r_a2, r_a3, r_a4, r_sFrz, r_fz1, r_fz2, r_fz3, r_raise, r_curL, r_cs1, r_cs2, r_st1, r_storeR, r_stoR, r_stoS, r_mut, r_mutR, r_mutL, r_mutS, r_pApp, r_sFor, r_forN, r_loop, r_forC, r_forR, r_l1, r_l2, r_l3, r_l4, r_l5, r_iRg, r_rg, r_iRg2, r_rg2, r_iSq, r_sq1, r_sq2, r_gN, r_fn, r_f1, r_f2, r_f3, r_f4, r_fin1, r_fin2, r_fin3, r_fin4, r_fb1, r_fb2, r_fin5, r_fin6, r_fin7, r_fc1, r_dAdd, r_dAddL, r_dSub, r_dMul, r_dMod, r_dDiv, r_dPow, r_dNeg, r_dLt, r_dLe, r_dGt, r_dGe, r_nInt, r_nIntB, r_nAbs, r_nLenL, r_nLenT, r_nLenD, r_nMax2, r_nMin2, r_ixL, r_ixT, r_nListL, r_nListT, r_nTupL, r_nDict, r_tru1, r_tru2, r_tru3, r_tru4, r_tru5, r_pExt, r_pIns, r_eqII, r_eqBB, r_neII, r_isN1, r_isN2, r_isN3, r_isN4, r_isN5, r_isN6, r_isi, r_chain, r_ch1, r_ch2, r_rdDict, r_undictD, r_key, r_get2, r_or1, r_or2, r_dix, r_dnew, r_curD, r_ce, r_valOf, r_dput, r_put, r_dictAt, r_dicS, r_eLock, r_sLock, r_lok, r_iDk, r_iDi, r_mapR, r_gT, r_tupT, r_gsN, r_gsC, r_gsR, r_aug, r_aug1, r_addI, r_while, r_sPar, r_oN, r_oS, r_part, r_eSl, r_slTo, r_slFrom, atI, ixN, env0, gk, h]
        · generalize (wipeE [k] δ).set k (.val (.int (q : Int))) = δ1 at gk
          generalize ((q : Nat) : Int) = z at *
          simp -implicitDefEqProofs [r_bind, r_b1, r_b2, r_b3, r_ret, r_frz1, r_frz2, r_frz3, r_frz4, r_rd1, r_rd2, r_rs1, r_rs2, r_rs3, r_var, r_v1, r_v2, r_v3, r_v4, r_c, r_opnd, r_o1, r_o2, r_rdM, r_opt1, r_lift1, r_eOp, r_eUn, r_boolM, r_tB, r_optB, r_tru, r_and, r_or, r_not, r_bE, r_eAnd, r_eOr, r_eNot, r_eIf, r_condT, r_condF, r_aNil, r_aCons, r_rdsM, r_rdsN, r_rdsC, r_eB, r_nb1, r_nb2, r_vN, r_vC, r_tup, r_lst, r_fits, r_fits0, r_fits1, r_fits2, r_fits3, r_fits4, r_callN, r_callD, r_callM, r_call1, r_argB, r_argB1, r_argB2, r_argV, r_argN, r_back0, r_back0x, r_back1, r_back1x, r_setC, r_set1, r_set2, r_seq, r_s1, r_s2, r_s3, r_s4, r_s5, r_sNil, r_sRet, r_sRetN, r_sExpr, r_sIf, r_sBrk, r_sCont, r_asg, r_asgV, r_a1, r_a2, r_a3, r_a4, r_sFrz, r_fz1, r_fz2, r_fz3, r_raise, r_curL, r_cs1, r_cs2, r_st1, r_storeR, r_stoR, r_stoS, r_mut, r_mutR, r_mutL, r_mutS, r_pApp, r_sFor, r_forN, r_loop, r_forC, r_forR, r_l1, r_l2, r_l3, r_l4, r_l5, r_iRg, r_rg, r_iRg2, r_rg2, r_iSq, r_sq1, r_sq2, r_gN, r_fn, r_f1, r_f2, r_f3, r_f4, r_fin1, r_fin2, r_fin3, r_fin4, r_fb1, r_fb2, r_fin5, r_fin6, r_fin7, r_fc1, r_dAdd, r_dAddL, r_dSub, r_dMul, r_dMod, r_dDiv, r_dPow, r_dNeg, r_dLt, r_dLe, r_dGt, r_dGe, r_nInt, r_nIntB, r_nAbs, r_nLenL, r_nLenT, r_nLenD, r_nMax2, r_nMin2, r_ixL, r_ixT, r_nListL, r_nListT, r_nTupL, r_nDict, r_tru1, r_tru2, r_tru3, r_tru4, r_tru5, r_pExt, r_pIns, r_eqII, r_eqBB, r_neII, r_isN1, r_isN2, r_isN3, r_isN4, r_isN5, r_isN6, r_isi, r_chain, r_ch1, r_ch2, r_rdDict, r_undictD, r_key, r_get2, r_or1, r_or2, r_dix, r_dnew, r_curD, r_ce, r_valOf, r_dput, r_put, r_dictAt, r_dicS, r_eLock, r_sLock, r_lok, r_iDk, r_iDi, r_mapR, r_gT, r_tupT, r_gsN, r_gsC, r_gsR, r_aug, r_aug1, r_addI, r_while, r_sPar, r_oN, r_oS, r_part, r_eSl, r_slTo, r_slFrom, atI, ixN, env0, gk]
      · refine .inl ⟨(wipeE [k] δ).set k (.val (.int (q : Int))), ?_, wp, by show (if (q : Int) < (b : Int) then some (PyData.int q) else none) = _; rw [if_neg h]⟩
        generalize (wipeE [k] δ).set k (.val (.int (q : Int))) = δ1 at gk
        generalize ((q : Nat) : Int) = z at *
        simp -implicitDefEqProofs [r_bind, r_b1, r_b2, r_b3, r_ret, r_frz1, r_frz2, r_frz3, r_frz4, r_rd1, r_rd2, r_rs1, r_rs2, r_rs3, r_var, r_v1, r_v2, r_v3, r_v4, r_c, r_opnd, r_o1, r_o2, r_rdM, r_opt1, r_lift1, r_eOp, r_eUn, r_boolM, r_tB, r_optB, r_tru, r_and, r_or, r_not, r_bE, r_eAnd, r_eOr, r_eNot, r_eIf, r_condT, r_condF, r_aNil, r_aCons, r_rdsM, r_rdsN, r_rdsC, r_eB, r_nb1, r_nb2, r_vN, r_vC, r_tup, r_lst, r_fits, r_fits0, r_fits1, r_fits2, r_fits3, r_fits4, r_callN, r_callD, r_callM, r_call1, r_argB, r_argB1, r_argB2, r_argV, r_argN, r_back0, r_back0x, r_back1, r_back1x, r_setC, r_set1, r_set2, r_seq, r_s1, r_s2, r_s3, r_s4, r_s5, r_sNil, r_sRet, r_sRetN, r_sExpr, r_sIf, r_sBrk, r_sCont, r_asg, r_asgV, r_a1, r_a2, r_a3, r_a4, r_sFrz, r_fz1, r_fz2, r_fz3, r_raise, r_curL, r_cs1, r_cs2, r_st1, r_storeR, r_stoR, r_stoS, r_mut, r_mutR, r_mutL, r_mutS, r_pApp, r_sFor, r_forN, r_loop, r_forC, r_forR, r_l1, r_l2, r_l3, r_l4, r_l5, r_iRg, r_rg, r_iRg2, r_rg2, r_iSq, r_sq1, r_sq2, r_gN, r_fn, r_f1, r_f2, r_f3, r_f4, r_fin1, r_fin2, r_fin3, r_fin4, r_fb1, r_fb2, r_fin5, r_fin6, r_fin7, r_fc1, r_dAdd, r_dAddL, r_dSub, r_dMul, r_dMod, r_dDiv, r_dPow, r_dNeg, r_dLt, r_dLe, r_dGt, r_dGe, r_nInt, r_nIntB, r_nAbs, r_nLenL, r_nLenT, r_nLenD, r_nMax2, r_nMin2, r_ixL, r_ixT, r_nListL, r_nListT, r_nTupL, r_nDict, r_tru1, r_tru2, r_tru3, r_tru4, r_tru5, r_pExt, r_pIns, r_eqII, r_eqBB, r_neII, r_isN1, r_isN2, r_isN3, r_isN4, r_isN5, r_isN6, r_isi, r_chain, r_ch1, r_ch2, r_rdDict, r_undictD, r_key, r_get2, r_or1, r_or2, r_dix, r_dnew, r_curD, r_ce, r_valOf, r_dput, r_put, r_dictAt, r_dicS, r_eLock, r_sLock, r_lok, r_iDk, r_iDi, r_mapR, r_gT, r_tupT, r_gsN, r_gsC, r_gsR, r_aug, r_aug1, r_addI, r_while, r_sPar, r_oN, r_oS, r_part, r_eSl, r_slTo, r_slFrom, atI, ixN, env0, gk, h])
    (by rw [List.length_map]; omega)
  rw [fm_lt b _ fun q => by
    show (if (q : Int) < (b : Int) then some (PyData.int q) else none) = _
    by_cases h : q < b
    · rw [if_pos h, if_pos (by omega)]; rfl
    · rw [if_neg h, if_neg (by omega)]] at ed
  exact ed
end K61

set_option Elab.async false
set_option linter.all false
set_option maxRecDepth 100000
set_option maxHeartbeats 4000000
namespace K61
open PySem PySem.Spec PyProof.Rows L2 DW
theorem RC_of {x : Int} (h0 : -RB ≤ x) (h1 : x ≤ RB) : -RC ≤ x ∧ x ≤ RC := by rw [RB_eq] at h0 h1; unfold RC; omega
theorem PR.len {n : Nat} {ps : List Nat} (h : PR n ps) (hN : 1 ≤ n) : ps.length ≤ n := by
  have := nodup_len (n + 1) (l := ps.map fun q : Nat => (q : Int)) (by
    rw [List.Nodup, List.pairwise_map]
    exact h.asc.imp fun {a b} z => by omega) (fun k hk => by
      obtain ⟨q, hq, rfl⟩ := List.mem_map.mp hk
      have := Nat.le_of_dvd (by omega) ((h.mem q).mp hq).2
      omega)
  rw [List.length_map] at this
  by_cases h0 : 0 ∈ ps
  · have := ((h.mem 0).mp h0).1.1; omega
  · by_cases e : ps.length ≤ n
    · exact e
    · exfalso
      have := nodup_len n (l := ps.map fun q : Nat => (q : Int) - 1) (by
        rw [List.Nodup, List.pairwise_map]
        exact h.asc.imp fun {a b} z => by omega) (fun k hk => by
          obtain ⟨q, hq, rfl⟩ := List.mem_map.mp hk
          have := Nat.le_of_dvd (by omega) ((h.mem q).mp hq).2
          have := ((h.mem q).mp hq).1.1
          omega)
      rw [List.length_map] at this
      exact e this
theorem list_eq {n m : Nat} {st : List D} (h : StoOk n st) (hn : n + 6000 ≤ 1000000000) (hN : 1 ≤ m) (hN2 : m ≤ 1000000) :
    ∃ xs st', F_l_list (some st) [.int m] = .ok (.own (xs.map PyData.int)) (some st') ∧ StoOk (n + 6000) st' ∧ Gd xs := by
  obtain ⟨ps, ep, pr⟩ := primes_once_eq hN hN2
  have pl := pr.len hN
  have lc := lc_lt (n := m) (ps := ps) 14 1 [.prm st, .val (.int m), .un, .un, .un, .un, .un] ep (by omega) rfl 6 rfl rfl (by simp)
  rw [show ((14 : Nat) : Int) = 14 from rfl] at lc
  obtain ⟨how, s1, e1, h1, w0, w1⟩ := take_eq h (by omega) (many := 4) (by decide) (by decide)
  obtain ⟨T, s2, e2, h2, t0, t1⟩ := take_eq h1 (by omega) (many := 5) (by decide) (by decide)
  generalize hqs : (ps.filter fun q => decide (q < 14)) = qs at lc
  have hq : ∀ q ∈ qs, 2 ≤ q ∧ q < 14 := fun q hq => by
    rw [← hqs] at hq
    obtain ⟨a, b⟩ := List.mem_filter.mp hq
    exact ⟨((pr.mem q).mp a).1.1, of_decide_eq_true b⟩
  have ql : qs.length ≤ 1000000 := by rw [← hqs]; have := List.length_filter_le (fun q => decide (q < 14)) ps; omega
  have em : (qs.map nD).isEmpty = qs.isEmpty := by cases qs <;> rfl
  obtain ⟨δ', e3, xs, s3, sl5, rfl, h3, g1, g2⟩ := forL_ix (tgt := gN 5) (s := B_l_list_1) (rangeD 0 T)
    (fun i δ => ∃ (xs : List Int) (s3 : List D) (sl5 : Sl), δ = [.prm s3, .val (.int m), .val (.list (qs.map nD)), .own (xs.map PyData.int), .val (.int how), sl5, .un] ∧ StoOk (n + 2 + 1010 * i) s3 ∧ xs.length ≤ 14 * i ∧ ∀ x ∈ xs, -RC ≤ x ∧ x ≤ RC)
    (fun δ => ∃ (xs : List Int) (s3 : List D) (sl5 : Sl), δ = [.prm s3, .val (.int m), .val (.list (qs.map nD)), .own (xs.map PyData.int), .val (.int how), sl5, .un] ∧ StoOk (n + 5990) s3 ∧ xs.length ≤ 56 ∧ ∀ x ∈ xs, -RC ≤ x ∧ x ≤ RC)
    (fun δ ⟨xs, s3, sl5, a, b, c, d⟩ => by
      have : (rangeD 0 T).length ≤ 4 := by rw [rangeD_len]; omega
      exact ⟨xs, s3, sl5, a, b.mono (by omega), by omega, d⟩)
    (fun i dd δ ed ⟨xs, s3, sl5, eδ, h3, g1, g2⟩ => by
      obtain ⟨rfl, hi⟩ := rangeD_at ed
      subst eδ
      have hi4 : i < 4 := by omega
      have hz : (xs.map PyData.int).length < 16777216 := by rw [List.length_map]; omega
      by_cases c : how = 0 ∨ qs.isEmpty = true
      · obtain ⟨x, s4, e4, h4, x0, x1⟩ := reading_eq h3 (by omega) (N := (m : Int)) (by omega) (by omega)
        refine ⟨_, [.prm s4, .val (.int m), .val (.list (qs.map nD)), .own ((xs ++ [x]).map PyData.int), .val (.int how), .val (.int (0 + i)), .un], rfl, .inl ⟨.inl ?_, _, _, _, rfl, h4.mono (by omega), by rw [List.length_append, List.length_singleton]; omega, fun y hy => ?_⟩⟩
        · rw [List.map_append]
          generalize xs.map PyData.int = ws at hz
          generalize qs.map nD = us at em
          by_cases c1 : how = 0
          · simp -implicitDefEqProofs [B_l_list_1, r_bind, r_b1, r_b2, r_b3, r_ret, r_frz1, r_frz2, r_frz3, r_frz4, r_rd1, r_rd2, r_rs1, r_rs2, r_rs3, r_var, r_v1, r_v2, r_v3, r_v4, r_c, r_opnd, r_o1, r_o2, r_rdM, r_opt1, r_lift1, r_eOp, r_eUn, r_boolM, r_tB, r_optB, r_tru, r_and, r_or, r_not, r_bE, r_eAnd, r_eOr, r_eNot, r_eIf, r_condT, r_condF, r_aNil, r_aCons, r_rdsM, r_rdsN, r_rdsC, r_eB, r_nb1, r_nb2, r_vN, r_vC, r_tup, r_lst, r_fits, r_fits0, r_fits1, r_fits2, r_fits3, r_fits4, r_callN, r_callD, r_callM, r_call1, r_argB, r_argB1, r_argB2, r_argV, r_argN, r_back0, r_back0x, r_back1, r_back1x, r_setC, r_set1, r_set2, r_seq, r_s1, r_s2, r_s3, r_s4, r_s5, r_sNil, r_sRet, r_sRetN, r_sExpr, r_sIf, r_sBrk, r_sCont, r_asg, r_asgV, r_a1, r_a2, r_a3, r_a4, r_sFrz, r_fz1, r_fz2, r_fz3, r_raise, r_curL, r_cs1, r_cs2, r_st1, r_storeR, r_stoR, r_stoS, r_mut, r_mutR, r_mutL, r_mutS, r_pApp, r_sFor, r_forN, r_loop, r_forC, r_forR, r_l1, r_l2, r_l3, r_l4, r_l5, r_iRg, r_rg, r_iRg2, r_rg2, r_iSq, r_sq1, r_sq2, r_gN, r_fn, r_f1, r_f2, r_f3, r_f4, r_fin1, r_fin2, r_fin3, r_fin4, r_fb1, r_fb2, r_fin5, r_fin6, r_fin7, r_fc1, r_dAdd, r_dAddL, r_dSub, r_dMul, r_dMod, r_dDiv, r_dPow, r_dNeg, r_dLt, r_dLe, r_dGt, r_dGe, r_nInt, r_nIntB, r_nAbs, r_nLenL, r_nLenT, r_nLenD, r_nMax2, r_nMin2, r_ixL, r_ixT, r_nListL, r_nListT, r_nTupL, r_nDict, r_tru1, r_tru2, r_tru3, r_tru4, r_tru5, r_pExt, r_pIns, r_eqII, r_eqBB, r_neII, r_isN1, r_isN2, r_isN3, r_isN4, r_isN5, r_isN6, r_isi, r_chain, r_ch1, r_ch2, r_rdDict, r_undictD, r_key, r_get2, r_or1, r_or2, r_dix, r_dnew, r_curD, r_ce, r_valOf, r_dput, r_put, r_dictAt, r_dicS, r_eLock, r_sLock, r_lok, r_iDk, r_iDi, r_mapR, r_gT, r_tupT, r_gsN, r_gsC, r_gsR, r_aug, r_aug1, r_addI, r_while, r_sPar, r_oN, r_oS, r_part, r_eSl, r_slTo, r_slFrom, atI, ixN, env0, c1, hz, e4]
          · have c2 := c.resolve_left c1
            rw [c2] at em
            simp -implicitDefEqProofs [B_l_list_1, r_bind, r_b1, r_b2, r_b3, r_ret, r_frz1, r_frz2, r_frz3, r_frz4, r_rd1, r_rd2, r_rs1, r_rs2, r_rs3, r_var, r_v1, r_v2, r_v3, r_v4, r_c, r_opnd, r_o1, r_o2, r_rdM, r_opt1, r_lift1, r_eOp, r_eUn, r_boolM, r_tB, r_optB, r_tru, r_and, r_or, r_not, r_bE, r_eAnd, r_eOr, r_eNot, r_eIf, r_condT, r_condF, r_aNil, r_aCons, r_rdsM, r_rdsN, r_rdsC, r_eB, r_nb1, r_nb2, r_vN, r_vC, r_tup, r_lst, r_fits, r_fits0, r_fits1, r_fits2, r_fits3, r_fits4, r_callN, r_callD, r_callM, r_call1, r_argB, r_argB1, r_argB2, r_argV, r_argN, r_back0, r_back0x, r_back1, r_back1x, r_setC, r_set1, r_set2, r_seq, r_s1, r_s2, r_s3, r_s4, r_s5, r_sNil, r_sRet, r_sRetN, r_sExpr, r_sIf, r_sBrk, r_sCont, r_asg, r_asgV, r_a1, r_a2, r_a3, r_a4, r_sFrz, r_fz1, r_fz2, r_fz3, r_raise, r_curL, r_cs1, r_cs2, r_st1, r_storeR, r_stoR, r_stoS, r_mut, r_mutR, r_mutL, r_mutS, r_pApp, r_sFor, r_forN, r_loop, r_forC, r_forR, r_l1, r_l2, r_l3, r_l4, r_l5, r_iRg, r_rg, r_iRg2, r_rg2, r_iSq, r_sq1, r_sq2, r_gN, r_fn, r_f1, r_f2, r_f3, r_f4, r_fin1, r_fin2, r_fin3, r_fin4, r_fb1, r_fb2, r_fin5, r_fin6, r_fin7, r_fc1, r_dAdd, r_dAddL, r_dSub, r_dMul, r_dMod, r_dDiv, r_dPow, r_dNeg, r_dLt, r_dLe, r_dGt, r_dGe, r_nInt, r_nIntB, r_nAbs, r_nLenL, r_nLenT, r_nLenD, r_nMax2, r_nMin2, r_ixL, r_ixT, r_nListL, r_nListT, r_nTupL, r_nDict, r_tru1, r_tru2, r_tru3, r_tru4, r_tru5, r_pExt, r_pIns, r_eqII, r_eqBB, r_neII, r_isN1, r_isN2, r_isN3, r_isN4, r_isN5, r_isN6, r_isi, r_chain, r_ch1, r_ch2, r_rdDict, r_undictD, r_key, r_get2, r_or1, r_or2, r_dix, r_dnew, r_curD, r_ce, r_valOf, r_dput, r_put, r_dictAt, r_dicS, r_eLock, r_sLock, r_lok, r_iDk, r_iDi, r_mapR, r_gT, r_tupT, r_gsN, r_gsC, r_gsR, r_aug, r_aug1, r_addI, r_while, r_sPar, r_oN, r_oS, r_part, r_eSl, r_slTo, r_slFrom, atI, ixN, env0, c1, em, hz, e4]
        · rcases List.mem_append.mp hy with z | z
          · exact g2 y z
          · rw [List.mem_singleton.mp z]; exact RC_of x0 x1
      · have c1 : ¬ how = 0 := fun z => c (.inl z)
        have c2 : qs.isEmpty = false := by cases hh : qs.isEmpty with | false => rfl | true => exact absurd (.inr hh) c
        have hpos : 0 < qs.length := by cases qs with | nil => cases c2 | cons a b => simp
        obtain ⟨d, s4, e4, h4, hd⟩ := pick_eq h3 (by omega) (ds := qs.map nD) (by rw [List.length_map]; exact hpos) (by rw [List.length_map]; exact ql)
        obtain ⟨q, hqm, rfl⟩ := List.mem_map.mp hd
        obtain ⟨q2, q14⟩ := hq q hqm
        obtain ⟨first, ys, s5, e5, h5, f0, f1, yl, ys1⟩ := set_eq h4 (N := (m : Int)) (p := (q : Int)) (by omega) (by omega) (by omega) (by omega) (by omega)
        have hz2 : (xs.map PyData.int).length + (ys.map PyData.int).length ≤ 16777216 := by rw [List.length_map, List.length_map]; omega
        refine ⟨_, [.prm s5, .val (.int m), .val (.list (qs.map nD)), .own ((xs ++ ys).map PyData.int), .val (.int how), .val (.int (0 + i)), .un], rfl, .inl ⟨.inl ?_, _, _, _, rfl, h5.mono (by omega), by rw [List.length_append]; omega, fun y hy => ?_⟩⟩
        · rw [List.map_append]
          rw [c2] at em
          have e4 : F_l_pick (some s3) [.list (qs.map nD)] = .ok (.val (.int (q : Int))) (some s4) := e4
          generalize xs.map PyData.int = ws at hz2
          generalize ys.map PyData.int = zs at hz2 e5
          generalize qs.map nD = us at em e4
          generalize ((q : Nat) : Int) = qq at e4 e5
          simp -implicitDefEqProofs [B_l_list_1, r_bind, r_b1, r_b2, r_b3, r_ret, r_frz1, r_frz2, r_frz3, r_frz4, r_rd1, r_rd2, r_rs1, r_rs2, r_rs3, r_var, r_v1, r_v2, r_v3, r_v4, r_c, r_opnd, r_o1, r_o2, r_rdM, r_opt1, r_lift1, r_eOp, r_eUn, r_boolM, r_tB, r_optB, r_tru, r_and, r_or, r_not, r_bE, r_eAnd, r_eOr, r_eNot, r_eIf, r_condT, r_condF, r_aNil, r_aCons, r_rdsM, r_rdsN, r_rdsC, r_eB, r_nb1, r_nb2, r_vN, r_vC, r_tup, r_lst, r_fits, r_fits0, r_fits1, r_fits2, r_fits3, r_fits4, r_callN, r_callD, r_callM, r_call1, r_argB, r_argB1, r_argB2, r_argV, r_argN, r_back0, r_back0x, r_back1, r_back1x, r_setC, r_set1, r_set2, r_seq, r_s1, r_s2, r_s3, r_s4, r_s5, r_sNil, r_sRet, r_sRetN, r_sExpr, r_sIf, r_sBrk, r_sCont, r_asg, r_asgV, r_a1, r_a2, r_a3, r_a4, r_sFrz, r_fz1, r_fz2, r_fz3, r_raise, r_curL, r_cs1, r_cs2, r_st1, r_storeR, r_stoR, r_stoS, r_mut, r_mutR, r_mutL, r_mutS, r_pApp, r_sFor, r_forN, r_loop, r_forC, r_forR, r_l1, r_l2, r_l3, r_l4, r_l5, r_iRg, r_rg, r_iRg2, r_rg2, r_iSq, r_sq1, r_sq2, r_gN, r_fn, r_f1, r_f2, r_f3, r_f4, r_fin1, r_fin2, r_fin3, r_fin4, r_fb1, r_fb2, r_fin5, r_fin6, r_fin7, r_fc1, r_dAdd, r_dAddL, r_dSub, r_dMul, r_dMod, r_dDiv, r_dPow, r_dNeg, r_dLt, r_dLe, r_dGt, r_dGe, r_nInt, r_nIntB, r_nAbs, r_nLenL, r_nLenT, r_nLenD, r_nMax2, r_nMin2, r_ixL, r_ixT, r_nListL, r_nListT, r_nTupL, r_nDict, r_tru1, r_tru2, r_tru3, r_tru4, r_tru5, r_pExt, r_pIns, r_eqII, r_eqBB, r_neII, r_isN1, r_isN2, r_isN3, r_isN4, r_isN5, r_isN6, r_isi, r_chain, r_ch1, r_ch2, r_rdDict, r_undictD, r_key, r_get2, r_or1, r_or2, r_dix, r_dnew, r_curD, r_ce, r_valOf, r_dput, r_put, r_dictAt, r_dicS, r_eLock, r_sLock, r_lok, r_iDk, r_iDi, r_mapR, r_gT, r_tupT, r_gsN, r_gsC, r_gsR, r_aug, r_aug1, r_addI, r_while, r_sPar, r_oN, r_oS, r_part, r_eSl, r_slTo, r_slFrom, atI, ixN, env0, c1, em, e4, e5, r_pExt hz2]
        · rcases List.mem_append.mp hy with z | z
          · exact g2 y z
          · exact set_rg (by omega) (by omega) (by omega) f0 f1 yl ys1 y z)
    [.prm s2, .val (.int m), .val (.list (qs.map nD)), .own ([].map PyData.int), .val (.int how), .un, .un] ⟨[], s2, .un, rfl, h2, by simp, fun x hx => by simp at hx⟩
  have s5 : small62 T = true := small62_of (by omega) (by omega)
  have e3 : forL (gN 5) B_l_list_1 (rangeD 0 T) [.prm s2, .val (.int m), .val (.list (qs.map nD)), .own [], .val (.int how), .un, .un] = _ := e3
  by_cases c : how = 3
  · obtain ⟨j, s4, e4, h4, j0, j1⟩ := take_eq h3 (by omega) (many := (xs.length : Int) + 1) (by omega) (by omega)
    obtain ⟨x, s6, e6, h6, x0, x1⟩ := reading_eq h4 (by omega) (N := (m : Int)) (by omega) (by omega)
    have hz : (xs.map PyData.int).length < 16777216 := by rw [List.length_map]; omega
    have hz3 : j < 9223372036854775808 := by omega
    refine ⟨xs.take j.toNat ++ [x] ++ xs.drop j.toNat, s6, ?_, h6.mono (by omega), ⟨by simp; omega, fun y hy => ?_⟩⟩
    · rw [List.map_append, List.map_append, List.map_take, List.map_drop]
      have el : ((xs.map PyData.int).length : Int) = (xs.length : Int) := by rw [List.length_map]
      rw [← el] at e4
      generalize xs.map PyData.int = ws at *
      generalize qs.map nD = us at *
      have pi := r_pIns (d := .int x) hz j0 hz3
      subst c
      simp -implicitDefEqProofs [F_l_list, r_bind, r_b1, r_b2, r_b3, r_ret, r_frz1, r_frz2, r_frz3, r_frz4, r_rd1, r_rd2, r_rs1, r_rs2, r_rs3, r_var, r_v1, r_v2, r_v3, r_v4, r_c, r_opnd, r_o1, r_o2, r_rdM, r_opt1, r_lift1, r_eOp, r_eUn, r_boolM, r_tB, r_optB, r_tru, r_and, r_or, r_not, r_bE, r_eAnd, r_eOr, r_eNot, r_eIf, r_condT, r_condF, r_aNil, r_aCons, r_rdsM, r_rdsN, r_rdsC, r_eB, r_nb1, r_nb2, r_vN, r_vC, r_tup, r_lst, r_fits, r_fits0, r_fits1, r_fits2, r_fits3, r_fits4, r_callN, r_callD, r_callM, r_call1, r_argB, r_argB1, r_argB2, r_argV, r_argN, r_back0, r_back0x, r_back1, r_back1x, r_setC, r_set1, r_set2, r_seq, r_s1, r_s2, r_s3, r_s4, r_s5, r_sNil, r_sRet, r_sRetN, r_sExpr, r_sIf, r_sBrk, r_sCont, r_asg, r_asgV, r_a1, r_a2, r_a3, r_a4, r_sFrz, r_fz1, r_fz2, r_fz3, r_raise, r_curL, r_cs1, r_cs2, r_st1, r_storeR, r_stoR, r_stoS, r_mut, r_mutR, r_mutL, r_mutS, r_pApp, r_sFor, r_forN, r_loop, r_forC, r_forR, r_l1, r_l2, r_l3, r_l4, r_l5, r_iRg, r_rg, r_iRg2, r_rg2, r_iSq, r_sq1, r_sq2, r_gN, r_fn, r_f1, r_f2, r_f3, r_f4, r_fin1, r_fin2, r_fin3, r_fin4, r_fb1, r_fb2, r_fin5, r_fin6, r_fin7, r_fc1, r_dAdd, r_dAddL, r_dSub, r_dMul, r_dMod, r_dDiv, r_dPow, r_dNeg, r_dLt, r_dLe, r_dGt, r_dGe, r_nInt, r_nIntB, r_nAbs, r_nLenL, r_nLenT, r_nLenD, r_nMax2, r_nMin2, r_ixL, r_ixT, r_nListL, r_nListT, r_nTupL, r_nDict, r_tru1, r_tru2, r_tru3, r_tru4, r_tru5, r_pExt, r_pIns, r_eqII, r_eqBB, r_neII, r_isN1, r_isN2, r_isN3, r_isN4, r_isN5, r_isN6, r_isi, r_chain, r_ch1, r_ch2, r_rdDict, r_undictD, r_key, r_get2, r_or1, r_or2, r_dix, r_dnew, r_curD, r_ce, r_valOf, r_dput, r_put, r_dictAt, r_dicS, r_eLock, r_sLock, r_lok, r_iDk, r_iDi, r_mapR, r_gT, r_tupT, r_gsN, r_gsC, r_gsR, r_aug, r_aug1, r_addI, r_while, r_sPar, r_oN, r_oS, r_part, r_eSl, r_slTo, r_slFrom, atI, ixN, env0, lc, e1, e2, s5, e3, e4, e6, pi]
    · rcases List.mem_append.mp hy with z | z
      · rcases List.mem_append.mp z with z | z
        · exact g2 y (List.mem_of_mem_take z)
        · rw [List.mem_singleton.mp z]; exact RC_of x0 x1
      · exact g2 y (List.mem_of_mem_drop z)
  · refine ⟨xs, s3, ?_, h3.mono (by omega), ⟨by omega, g2⟩⟩
    generalize xs.map PyData.int = ws at *
    generalize qs.map nD = us at *
    simp -implicitDefEqProofs [F_l_list, r_bind, r_b1, r_b2, r_b3, r_ret, r_frz1, r_frz2, r_frz3, r_frz4, r_rd1, r_rd2, r_rs1, r_rs2, r_rs3, r_var, r_v1, r_v2, r_v3, r_v4, r_c, r_opnd, r_o1, r_o2, r_rdM, r_opt1, r_lift1, r_eOp, r_eUn, r_boolM, r_tB, r_optB, r_tru, r_and, r_or, r_not, r_bE, r_eAnd, r_eOr, r_eNot, r_eIf, r_condT, r_condF, r_aNil, r_aCons, r_rdsM, r_rdsN, r_rdsC, r_eB, r_nb1, r_nb2, r_vN, r_vC, r_tup, r_lst, r_fits, r_fits0, r_fits1, r_fits2, r_fits3, r_fits4, r_callN, r_callD, r_callM, r_call1, r_argB, r_argB1, r_argB2, r_argV, r_argN, r_back0, r_back0x, r_back1, r_back1x, r_setC, r_set1, r_set2, r_seq, r_s1, r_s2, r_s3, r_s4, r_s5, r_sNil, r_sRet, r_sRetN, r_sExpr, r_sIf, r_sBrk, r_sCont, r_asg, r_asgV, r_a1, r_a2, r_a3, r_a4, r_sFrz, r_fz1, r_fz2, r_fz3, r_raise, r_curL, r_cs1, r_cs2, r_st1, r_storeR, r_stoR, r_stoS, r_mut, r_mutR, r_mutL, r_mutS, r_pApp, r_sFor, r_forN, r_loop, r_forC, r_forR, r_l1, r_l2, r_l3, r_l4, r_l5, r_iRg, r_rg, r_iRg2, r_rg2, r_iSq, r_sq1, r_sq2, r_gN, r_fn, r_f1, r_f2, r_f3, r_f4, r_fin1, r_fin2, r_fin3, r_fin4, r_fb1, r_fb2, r_fin5, r_fin6, r_fin7, r_fc1, r_dAdd, r_dAddL, r_dSub, r_dMul, r_dMod, r_dDiv, r_dPow, r_dNeg, r_dLt, r_dLe, r_dGt, r_dGe, r_nInt, r_nIntB, r_nAbs, r_nLenL, r_nLenT, r_nLenD, r_nMax2, r_nMin2, r_ixL, r_ixT, r_nListL, r_nListT, r_nTupL, r_nDict, r_tru1, r_tru2, r_tru3, r_tru4, r_tru5, r_pExt, r_pIns, r_eqII, r_eqBB, r_neII, r_isN1, r_isN2, r_isN3, r_isN4, r_isN5, r_isN6, r_isi, r_chain, r_ch1, r_ch2, r_rdDict, r_undictD, r_key, r_get2, r_or1, r_or2, r_dix, r_dnew, r_curD, r_ce, r_valOf, r_dput, r_put, r_dictAt, r_dicS, r_eLock, r_sLock, r_lok, r_iDk, r_iDi, r_mapR, r_gT, r_tupT, r_gsN, r_gsC, r_gsR, r_aug, r_aug1, r_addI, r_while, r_sPar, r_oN, r_oS, r_part, r_eSl, r_slTo, r_slFrom, atI, ixN, env0, lc, e1, e2, s5, e3, c]
end K61

set_option Elab.async false
set_option linter.all false
set_option maxRecDepth 100000
set_option maxHeartbeats 4000000
namespace K61
open PySem PySem.Spec PyProof.Rows L2 DW
/-! ### what is turned -/
def turnT (n c : Int) (l : Tab) : Tab := l.map fun p => ((p.1 + c) % n, p.2)
theorem turn_tbF {n : Nat} (hN : 1 ≤ n) {c : Int} {l : Tab} {f : Int → Int} (h : Is n l f) (per : Per n f) : TbF n (turnT n c l) (fun k => f (k - c)) ∧ NZ (turnT n c l) := by
  obtain ⟨t, nz⟩ := h.tbF
  have hn0 : (0 : Int) < n := by omega
  have nd : (keys (turnT n c l)).Nodup := by
    unfold keys turnT
    rw [List.map_map, List.Nodup, List.pairwise_map]
    refine (List.pairwise_iff_forall_sublist.mpr fun {p q} s => ?_)
    have lt := List.pairwise_iff_forall_sublist.mp h.asc s
    have hp := (h.mem p).mp (s.subset (by simp))
    have hq := (h.mem q).mp (s.subset (by simp))
    intro e
    have e : (p.1 + c) % n = (q.1 + c) % n := e
    have z := (sub_iff hn0 hp.1 hp.2.1 (Int.emod_nonneg _ (by omega)) (Int.emod_lt_of_pos _ hn0)).mp e
    have z2 := (sub_iff hn0 hq.1 hq.2.1 (Int.emod_nonneg _ (by omega)) (Int.emod_lt_of_pos _ hn0)).mp (rfl : (q.1 + c) % (n : Int) = (q.1 + c) % n)
    omega
  refine ⟨⟨⟨nd, fun k hk => ?_⟩, fun k k0 k1 => ?_⟩, fun p hp => ?_⟩
  · unfold keys turnT at hk
    rw [List.map_map] at hk
    obtain ⟨p, _, rfl⟩ := List.mem_map.mp hk
    exact ⟨Int.emod_nonneg _ (by omega), Int.emod_lt_of_pos _ hn0⟩
  · have key : ∀ p ∈ l, (p.1 + c) % n = k ↔ p.1 = (k - c) % n := fun p hp => by
      have := (h.mem p).mp hp
      exact sub_iff hn0 this.1 this.2.1 k0 k1
    have j0 : 0 ≤ (k - c) % (n : Int) := Int.emod_nonneg _ (by omega)
    have j1 : (k - c) % (n : Int) < n := Int.emod_lt_of_pos _ hn0
    have tv := t.v _ j0 j1
    rw [per] at tv
    rw [← tv]
    unfold val
    cases e : lkI l ((k - c) % n) with
    | some v =>
      have m := mem_lk e
      have : (k, v) ∈ turnT n c l := List.mem_map.mpr ⟨_, m, by rw [(key _ m).mpr rfl]⟩
      rw [lk_mem nd this]
    | none =>
      cases e2 : lkI (turnT n c l) k with
      | none => rfl
      | some v =>
        obtain ⟨p, hp, ep⟩ := List.mem_map.mp (mem_lk e2)
        injection ep with e3 e4
        have := (key p hp).mp e3
        have z := lk_mem t.t.nd hp
        rw [this, e] at z
        cases z
  · obtain ⟨q, hq, rfl⟩ := List.mem_map.mp hp
    exact nz q hq
theorem cnt_shift (n c : Int) (xs : List Int) (k : Int) : cnt n (xs.map fun x => x + c) k = cnt n xs (k - c) := by
  unfold cnt
  rw [List.countP_map]
  congr 1
  refine List.countP_congr fun x _ => ?_
  show decide ((x + c) % n = k % n) = true ↔ decide (x % n = (k - c) % n) = true
  rw [decide_eq_true_eq, decide_eq_true_eq]
  constructor
  · intro e; rw [Int.sub_emod k, ← e, ← Int.sub_emod, Int.add_sub_cancel]
  · intro e; rw [Int.add_emod, e, ← Int.add_emod, Int.sub_add_cancel]
theorem okL_of {xs : List Int} (hl : xs.length ≤ 400) (h : ∀ x ∈ xs, -MOST ≤ x ∧ x ≤ MOST) : okL (iL xs) = true := by
  show (decide ((xs.map PyData.int).length ≤ 400) && (xs.map PyData.int).all okR) = true
  rw [decide_eq_true (by rw [List.length_map]; exact hl), Bool.true_and, List.all_eq_true]
  intro d hd
  obtain ⟨x, hx, rfl⟩ := List.mem_map.mp hd
  obtain ⟨a, b⟩ := h x hx
  show (decide (-MOST ≤ x) && decide (x ≤ MOST)) = true
  rw [decide_eq_true a, decide_eq_true b]; rfl
theorem Gd.ok {xs : List Int} (h : Gd xs) : okL (iL xs) = true := okL_of (by have := h.len; omega) fun x hx => by
  have := h.rg x hx
  unfold RC at this
  unfold MOST
  omega
/-- the turned readings -/
theorem sol_turn {n : Nat} (hN : 1 ≤ n) (hN2 : n ≤ 1000000) {xs : List Int} (g : Gd xs) {l : Tab} {ps : List Nat} (pr : PR n ps) (h : Is n l (TT n ps (cnt n xs))) {c : Int} (c0 : -1000000 ≤ c) (c1 : c ≤ 1000000) :
    Sol n (xs.map fun x => x + c) (sortP (turnT n c l)) := by
  obtain ⟨t, nz⟩ := turn_tbF hN (c := c) h (TT_per (cnt_per _ _))
  refine sol_of hN hN2 (okL_of (by rw [List.length_map]; have := g.len; omega) fun x hx => ?_) pr (t.sorted nz) fun k _ _ => ?_
  · obtain ⟨y, hy, rfl⟩ := List.mem_map.mp hx
    have := g.rg y hy
    unfold RC at this
    unfold MOST
    omega
  · show TT n ps (cnt n xs) (k - c) = _
    rw [← TT_shift]
    exact TT_congr (fun j => (cnt_shift n c xs j).symm) k
/-- readings times a unit -/
theorem canc_unit {n : Nat} (hN : 1 ≤ n) (hN2 : n ≤ 1000000) {xs : List Int} (g : Gd xs) {l : Tab} {ps : List Nat} (pr : PR n ps) (h : Is n l (TT n ps (cnt n xs))) {F : Nat} (hF : F ≤ 1000) (hg : Nat.gcd F n = 1) :
    F_cancels none [iL (xs.map fun x => x % (n : Int) * F), .int n] = .ok (.val (.bool l.isEmpty)) none := by
  have ok : okL (iL (xs.map fun x => x % (n : Int) * F)) = true := okL_of (by rw [List.length_map]; have := g.len; omega) fun x hx => by
    obtain ⟨y, hy, rfl⟩ := List.mem_map.mp hx
    have a0 : 0 ≤ y % (n : Int) := Int.emod_nonneg _ (by omega)
    have a1 : y % (n : Int) < n := Int.emod_lt_of_pos _ (by omega)
    have b0 : 0 ≤ y % (n : Int) * F := Int.mul_nonneg a0 (by omega)
    have b1 : y % (n : Int) * F ≤ 1000000 * 1000 := Int.mul_le_mul (by omega) (by omega) (by omega) (by omega)
    unfold MOST
    omega
  obtain ⟨l', ps', pr', h', e1, e2⟩ := solve hN hN2 _ ok
  have ep := pr'.uniq pr
  subst ep
  obtain ⟨G, hFG⟩ := inv_of hN hg
  have pf : ∀ {f : Int → Int}, Per n f → ((∀ k, 0 ≤ k → k < (n : Int) → f k = 0) ↔ ∀ k, f k = 0) := fun {f} pf => ⟨fun h k => by
    rw [← pf k]; exact h _ (Int.emod_nonneg _ (by omega)) (Int.emod_lt_of_pos _ (by omega)), fun h k _ _ => h k⟩
  have iff : l' = [] ↔ l = [] := by
    rw [h'.nil_iff, h.nil_iff, pf (TT_per (cnt_per _ _)), pf (TT_per (cnt_per _ _))]
    exact unit_iff hN hFG ps' xs
  have : l'.isEmpty = l.isEmpty := by
    rw [Bool.eq_iff_iff, List.isEmpty_iff, List.isEmpty_iff]
    exact iff
  rw [e2, this]
end K61

set_option Elab.async false
set_option linter.all false
set_option maxRecDepth 100000
set_option maxHeartbeats 4000000
namespace K61
open PySem PySem.Spec PyProof.Rows L2 DW
/-- a set of p readings put in changes nothing -/
theorem sol_filled {n p : Nat} (hN : 1 ≤ n) (hN2 : n ≤ 1000000) {xs ys : List Int} (g : Gd xs) {l : Tab} {ps : List Nat} (pr : PR n ps) (h : Is n l (TT n ps (cnt n xs))) (hp : p ∈ ps) (hp2 : p < 340) {first : Int} (f0 : -RB ≤ first) (f1 : first ≤ RB) (yl : ys.length = p) (hs : SetIn n p first ys) (a : Nat) :
    Sol n (xs.take a ++ ys ++ xs.drop a) l := by
  obtain ⟨ip, pn⟩ := (pr.mem p).mp hp
  have p2 := ip.1
  have rg := set_rg (N := (n : Int)) (p := (p : Int)) (by omega) (by omega) (by omega) f0 f1 (by omega) hs
  refine sol_of hN hN2 (okL_of ?_ fun x hx => ?_) pr h fun k _ _ => ?_
  · have := g.len
    have : (xs.take a ++ ys ++ xs.drop a).length = xs.length + ys.length := by
      rw [List.length_append, List.length_append, List.length_take, List.length_drop]; omega
    omega
  · have : -RC ≤ x ∧ x ≤ RC := by
      rcases List.mem_append.mp hx with z | z
      · rcases List.mem_append.mp z with z | z
        · exact g.rg x (List.mem_of_mem_take z)
        · exact rg x z
      · exact g.rg x (List.mem_of_mem_drop z)
    unfold RC at this
    unfold MOST
    omega
  · have e : ∀ j, cnt n (xs.take a ++ ys ++ xs.drop a) j = cnt n xs j + cnt n ys j := fun j => by
      rw [cnt_app, cnt_app]
      have := cnt_app n (xs.take a) (xs.drop a) j
      rw [List.take_append_drop] at this
      omega
    rw [TT_congr e k, TT_add, TT_kill (p := p) (f := cnt n ys) (set_kill (by omega) pn yl hs) hp k]
    omega
/-- two lists joined -/
theorem joined_sol {n : Nat} (hN : 1 ≤ n) (hN2 : n ≤ 1000000) {xs ys : List Int} (g1 : Gd xs) (g2 : Gd ys) {ps : List Nat} (pr : PR n ps) {l : Tab} (h : Is n l (fun k => TT n ps (cnt n xs) k + TT n ps (cnt n ys) k)) : Sol n (xs ++ ys) l := by
  refine sol_of hN hN2 (okL_of (by rw [List.length_append]; have := g1.len; have := g2.len; omega) fun x hx => ?_) pr h fun k _ _ => ?_
  · have : -RC ≤ x ∧ x ≤ RC := by
      rcases List.mem_append.mp hx with z | z
      · exact g1.rg x z
      · exact g2.rg x z
    unfold RC at this
    unfold MOST
    omega
  · rw [← TT_add]
    exact TT_congr (fun j => (cnt_app n xs ys j).symm) k
/-- one reading -/
theorem one_canc {n : Nat} (hN : 1 ≤ n) (hN2 : n ≤ 1000000) {x : Int} (h0 : -RC ≤ x) (h1 : x ≤ RC) : F_cancels none [iL [x], .int n] = .ok (.val (.bool false)) none := by
  have ok : okL (iL [x]) = true := okL_of (by simp) fun y hy => by
    rw [List.mem_singleton.mp hy]
    unfold RC at h0 h1
    unfold MOST
    omega
  obtain ⟨l, ps, pr, h, e1, e2⟩ := solve hN hN2 _ ok
  obtain ⟨k, hk⟩ := one_nv hN pr x
  have : l.isEmpty = false := by
    cases hl : l.isEmpty with
    | false => rfl
    | true =>
      exfalso
      have z := h.nil_iff.mp (List.isEmpty_iff.mp hl) (k % n) (Int.emod_nonneg _ (by omega)) (Int.emod_lt_of_pos _ (by omega))
      rw [TT_per (cnt_per _ _)] at z
      exact hk z
  rw [e2, this]
/-- the loop that looks for a unit -/
theorem unit_loop {m : Nat} (hN : 1 ≤ m) (hN2 : m ≤ 1000000) {a0 a1 a3 a4 a5 : Sl} {rest : List Sl} : ∀ (ks : List Nat) (F : Nat) (sl : Sl), 1 ≤ F → F + ks.length ≤ 500 → (∀ i (h : i < ks.length), ks[i] < 59 ∨ i + 1 = ks.length) → (ks = [] → Nat.gcd F m = 1) → (∀ i (h : i < ks.length), i + 1 = ks.length → ks[i] = 59) →
    ∃ F' sl', forL (gN 7) B_l_changes_hold_1 (ks.map fun k => PyData.int (k : Nat)) (a0 :: a1 :: .val (.int m) :: a3 :: a4 :: a5 :: .val (.int F) :: sl :: rest) = .ok .nx (a0 :: a1 :: .val (.int m) :: a3 :: a4 :: a5 :: .val (.int (F' : Nat)) :: sl' :: rest) ∧ 1 ≤ F' ∧ F' ≤ 500 ∧ Nat.gcd F' m = 1 := by
  intro ks
  induction ks with
  | nil => exact fun F sl h1 h2 _ h3 _ => ⟨F, sl, rfl, h1, by simpa using h2, h3 rfl⟩
  | cons k ks ih =>
    intro F sl h1 h2 h3 _ h5
    have hl : F + (ks.length + 1) ≤ 500 := h2
    have ge := gcd_eq F m (by omega)
    rw [List.map_cons, r_forC, r_gN, r_forR]
    by_cases g : Nat.gcd F m = 1
    · refine ⟨F, .val (.int k), ?_, h1, by omega, g⟩
      rw [g] at ge
      have ge : F_l_gcd none [.int F, .int m] = .ok (.val (.int 1)) none := ge
      simp -implicitDefEqProofs [B_l_changes_hold_1, r_bind, r_b1, r_b2, r_b3, r_ret, r_frz1, r_frz2, r_frz3, r_frz4, r_rd1, r_rd2, r_rs1, r_rs2, r_rs3, r_var, r_v1, r_v2, r_v3, r_v4, r_c, r_opnd, r_o1, r_o2, r_rdM, r_opt1, r_lift1, r_eOp, r_eUn, r_boolM, r_tB, r_optB, r_tru, r_and, r_or, r_not, r_bE, r_eAnd, r_eOr, r_eNot, r_eIf, r_condT, r_condF, r_aNil, r_aCons, r_rdsM, r_rdsN, r_rdsC, r_eB, r_nb1, r_nb2, r_vN, r_vC, r_tup, r_lst, r_fits, r_fits0, r_fits1, r_fits2, r_fits3, r_fits4, r_callN, r_callD, r_callM, r_call1, r_argB, r_argB1, r_argB2, r_argV, r_argN, r_back0, r_back0x, r_back1, r_back1x, r_setC, r_set1, r_set2, r_seq, r_s1, r_s2, r_s3, r_s4, r_s5, r_sNil, r_sRet, r_sRetN, r_sExpr, r_sIf, r_sBrk, r_sCont, r_asg, r_asgV, r_a1, r_a2, r_a3, r_a4, r_sFrz, r_fz1, r_fz2, r_fz3, r_raise, r_curL, r_cs1, r_cs2, r_st1, r_storeR, r_stoR, r_stoS, r_mut, r_mutR, r_mutL, r_mutS, r_pApp, r_sFor, r_forN, r_loop, r_forC, r_forR, r_l1, r_l2, r_l3, r_l4, r_l5, r_iRg, r_rg, r_iRg2, r_rg2, r_iSq, r_sq1, r_sq2, r_gN, r_fn, r_f1, r_f2, r_f3, r_f4, r_fin1, r_fin2, r_fin3, r_fin4, r_fb1, r_fb2, r_fin5, r_fin6, r_fin7, r_fc1, r_dAdd, r_dAddL, r_dSub, r_dMul, r_dMod, r_dDiv, r_dPow, r_dNeg, r_dLt, r_dLe, r_dGt, r_dGe, r_nInt, r_nIntB, r_nAbs, r_nLenL, r_nLenT, r_nLenD, r_nMax2, r_nMin2, r_ixL, r_ixT, r_nListL, r_nListT, r_nTupL, r_nDict, r_tru1, r_tru2, r_tru3, r_tru4, r_tru5, r_pExt, r_pIns, r_eqII, r_eqBB, r_neII, r_isN1, r_isN2, r_isN3, r_isN4, r_isN5, r_isN6, r_isi, r_chain, r_ch1, r_ch2, r_rdDict, r_undictD, r_key, r_get2, r_or1, r_or2, r_dix, r_dnew, r_curD, r_ce, r_valOf, r_dput, r_put, r_dictAt, r_dicS, r_eLock, r_sLock, r_lok, r_iDk, r_iDi, r_mapR, r_gT, r_tupT, r_gsN, r_gsC, r_gsR, r_aug, r_aug1, r_addI, r_while, r_sPar, r_oN, r_oS, r_part, r_eSl, r_slTo, r_slFrom, atI, ixN, env0, ge]
    · have g2 : ¬ ((Nat.gcd F m : Nat) : Int) = 1 := by omega
      cases ks with
      | nil =>
        have k59 : k = 59 := h5 0 (by simp) rfl
        subst k59
        refine ⟨1, .val (.int 59), ?_, by omega, by omega, Nat.gcd_one_left m⟩
        generalize ((Nat.gcd F m : Nat) : Int) = z at ge g2
        simp -implicitDefEqProofs [B_l_changes_hold_1, r_bind, r_b1, r_b2, r_b3, r_ret, r_frz1, r_frz2, r_frz3, r_frz4, r_rd1, r_rd2, r_rs1, r_rs2, r_rs3, r_var, r_v1, r_v2, r_v3, r_v4, r_c, r_opnd, r_o1, r_o2, r_rdM, r_opt1, r_lift1, r_eOp, r_eUn, r_boolM, r_tB, r_optB, r_tru, r_and, r_or, r_not, r_bE, r_eAnd, r_eOr, r_eNot, r_eIf, r_condT, r_condF, r_aNil, r_aCons, r_rdsM, r_rdsN, r_rdsC, r_eB, r_nb1, r_nb2, r_vN, r_vC, r_tup, r_lst, r_fits, r_fits0, r_fits1, r_fits2, r_fits3, r_fits4, r_callN, r_callD, r_callM, r_call1, r_argB, r_argB1, r_argB2, r_argV, r_argN, r_back0, r_back0x, r_back1, r_back1x, r_setC, r_set1, r_set2, r_seq, r_s1, r_s2, r_s3, r_s4, r_s5, r_sNil, r_sRet, r_sRetN, r_sExpr, r_sIf, r_sBrk, r_sCont, r_asg, r_asgV, r_a1, r_a2, r_a3, r_a4, r_sFrz, r_fz1, r_fz2, r_fz3, r_raise, r_curL, r_cs1, r_cs2, r_st1, r_storeR, r_stoR, r_stoS, r_mut, r_mutR, r_mutL, r_mutS, r_pApp, r_sFor, r_forN, r_loop, r_forC, r_forR, r_l1, r_l2, r_l3, r_l4, r_l5, r_iRg, r_rg, r_iRg2, r_rg2, r_iSq, r_sq1, r_sq2, r_gN, r_fn, r_f1, r_f2, r_f3, r_f4, r_fin1, r_fin2, r_fin3, r_fin4, r_fb1, r_fb2, r_fin5, r_fin6, r_fin7, r_fc1, r_dAdd, r_dAddL, r_dSub, r_dMul, r_dMod, r_dDiv, r_dPow, r_dNeg, r_dLt, r_dLe, r_dGt, r_dGe, r_nInt, r_nIntB, r_nAbs, r_nLenL, r_nLenT, r_nLenD, r_nMax2, r_nMin2, r_ixL, r_ixT, r_nListL, r_nListT, r_nTupL, r_nDict, r_tru1, r_tru2, r_tru3, r_tru4, r_tru5, r_pExt, r_pIns, r_eqII, r_eqBB, r_neII, r_isN1, r_isN2, r_isN3, r_isN4, r_isN5, r_isN6, r_isi, r_chain, r_ch1, r_ch2, r_rdDict, r_undictD, r_key, r_get2, r_or1, r_or2, r_dix, r_dnew, r_curD, r_ce, r_valOf, r_dput, r_put, r_dictAt, r_dicS, r_eLock, r_sLock, r_lok, r_iDk, r_iDi, r_mapR, r_gT, r_tupT, r_gsN, r_gsC, r_gsR, r_aug, r_aug1, r_addI, r_while, r_sPar, r_oN, r_oS, r_part, r_eSl, r_slTo, r_slFrom, atI, ixN, env0, ge, g2]
      | cons k2 ks2 =>
        have k58 : k < 59 := (h3 0 (by simp)).resolve_right (by simp)
        have k58' : (k : Int) < 59 := by omega
        obtain ⟨F', sl', e, q⟩ := ih (F + 1) (.val (.int k)) (by omega) (by omega) (fun i hi => by
            have := h3 (i + 1) (by simpa using hi)
            simpa using this) (fun z => by cases z) (fun i hi hh => by
            have := h5 (i + 1) (by simpa using hi) (by simpa using hh)
            simpa using this)
        refine ⟨F', sl', ?_, q⟩
        rw [← e]
        generalize ((Nat.gcd F m : Nat) : Int) = z at ge g2
        simp -implicitDefEqProofs [B_l_changes_hold_1, r_bind, r_b1, r_b2, r_b3, r_ret, r_frz1, r_frz2, r_frz3, r_frz4, r_rd1, r_rd2, r_rs1, r_rs2, r_rs3, r_var, r_v1, r_v2, r_v3, r_v4, r_c, r_opnd, r_o1, r_o2, r_rdM, r_opt1, r_lift1, r_eOp, r_eUn, r_boolM, r_tB, r_optB, r_tru, r_and, r_or, r_not, r_bE, r_eAnd, r_eOr, r_eNot, r_eIf, r_condT, r_condF, r_aNil, r_aCons, r_rdsM, r_rdsN, r_rdsC, r_eB, r_nb1, r_nb2, r_vN, r_vC, r_tup, r_lst, r_fits, r_fits0, r_fits1, r_fits2, r_fits3, r_fits4, r_callN, r_callD, r_callM, r_call1, r_argB, r_argB1, r_argB2, r_argV, r_argN, r_back0, r_back0x, r_back1, r_back1x, r_setC, r_set1, r_set2, r_seq, r_s1, r_s2, r_s3, r_s4, r_s5, r_sNil, r_sRet, r_sRetN, r_sExpr, r_sIf, r_sBrk, r_sCont, r_asg, r_asgV, r_a1, r_a2, r_a3, r_a4, r_sFrz, r_fz1, r_fz2, r_fz3, r_raise, r_curL, r_cs1, r_cs2, r_st1, r_storeR, r_stoR, r_stoS, r_mut, r_mutR, r_mutL, r_mutS, r_pApp, r_sFor, r_forN, r_loop, r_forC, r_forR, r_l1, r_l2, r_l3, r_l4, r_l5, r_iRg, r_rg, r_iRg2, r_rg2, r_iSq, r_sq1, r_sq2, r_gN, r_fn, r_f1, r_f2, r_f3, r_f4, r_fin1, r_fin2, r_fin3, r_fin4, r_fb1, r_fb2, r_fin5, r_fin6, r_fin7, r_fc1, r_dAdd, r_dAddL, r_dSub, r_dMul, r_dMod, r_dDiv, r_dPow, r_dNeg, r_dLt, r_dLe, r_dGt, r_dGe, r_nInt, r_nIntB, r_nAbs, r_nLenL, r_nLenT, r_nLenD, r_nMax2, r_nMin2, r_ixL, r_ixT, r_nListL, r_nListT, r_nTupL, r_nDict, r_tru1, r_tru2, r_tru3, r_tru4, r_tru5, r_pExt, r_pIns, r_eqII, r_eqBB, r_neII, r_isN1, r_isN2, r_isN3, r_isN4, r_isN5, r_isN6, r_isi, r_chain, r_ch1, r_ch2, r_rdDict, r_undictD, r_key, r_get2, r_or1, r_or2, r_dix, r_dnew, r_curD, r_ce, r_valOf, r_dput, r_put, r_dictAt, r_dicS, r_eLock, r_sLock, r_lok, r_iDk, r_iDi, r_mapR, r_gT, r_tupT, r_gsN, r_gsC, r_gsR, r_aug, r_aug1, r_addI, r_while, r_sPar, r_oN, r_oS, r_part, r_eSl, r_slTo, r_slFrom, atI, ixN, env0, ge, g2, k58']
end K61

set_option Elab.async false
set_option linter.all false
set_option maxRecDepth 100000
set_option maxHeartbeats 4000000
namespace K61
open PySem PySem.Spec PyProof.Rows L2 DW
theorem fm_map {α : Type} (f : α → D) (h : α → D) (g : D → Option D) (e : ∀ x, g (f x) = some (h x)) (l : List α) : (l.map f).filterMap g = l.map h := fm_all f h g l fun x _ => e x
section
variable {m : Nat} {st : List D} {xs : List Int} {l : Tab} {c F : Int} {s4 s5 s6 s7 s8 s9 s10 s11 s12 s13 : Sl}
theorem ch_turn (hN : 1 ≤ m) (hl : l.length ≤ 1000000) (o : s12.isOwn = false) :
    eLc (iSq (eVar 3)) (gN 12) tYes' (eTup (aCons (eOp dMod (eB (DW.b1 nInt) (aCons (eOp dAdd (eOp dIx (eVar 12) (eC (.int 0))) (eVar 4)) aNil)) (eVar 2)) (aCons (eOp dIx (eVar 12) (eC (.int 1))) aNil))) [12]
      [.prm st, .val (iL xs), .val (.int m), .val (pL l), .val (.int c), s5, s6, s7, s8, s9, s10, s11, s12, s13] = .ok (.own ((turnT m c l).map DW.pairD)) [.prm st, .val (iL xs), .val (.int m), .val (pL l), .val (.int c), s5, s6, s7, s8, s9, s10, s11, s12, s13] := by
  have ed := eLc_pure (src := iSq (eVar 3)) (tgt := gN 12) (cond := tYes') (elt := eTup (aCons (eOp dMod (eB (DW.b1 nInt) (aCons (eOp dAdd (eOp dIx (eVar 12) (eC (.int 0))) (eVar 4)) aNil)) (eVar 2)) (aCons (eOp dIx (eVar 12) (eC (.int 1))) aNil))) (vs := [12])
    (δ := [.prm st, .val (iL xs), .val (.int m), .val (pL l), .val (.int c), s5, s6, s7, s8, s9, s10, s11, s12, s13]) (ds := l.map DW.pairD)
    (fun d => match d with
      | .tuple [.int k, .int v] => some (DW.pairD ((k + c) % m, v))
      | _ => none)
    (by unfold pL; simp -implicitDefEqProofs [r_bind, r_b1, r_b2, r_b3, r_ret, r_frz1, r_frz2, r_frz3, r_frz4, r_rd1, r_rd2, r_rs1, r_rs2, r_rs3, r_var, r_v1, r_v2, r_v3, r_v4, r_c, r_opnd, r_o1, r_o2, r_rdM, r_opt1, r_lift1, r_eOp, r_eUn, r_boolM, r_tB, r_optB, r_tru, r_and, r_or, r_not, r_bE, r_eAnd, r_eOr, r_eNot, r_eIf, r_condT, r_condF, r_aNil, r_aCons, r_rdsM, r_rdsN, r_rdsC, r_eB, r_nb1, r_nb2, r_vN, r_vC, r_tup, r_lst, r_fits, r_fits0, r_fits1, r_fits2, r_fits3, r_fits4, r_callN, r_callD, r_callM, r_call1, r_argB, r_argB1, r_argB2, r_argV, r_argN, r_back0, r_back0x, r_back1, r_back1x, r_setC, r_set1, r_set2, r_seq, r_s1, r_s2, r_s3, r_s4, r_s5, r_sNil, r_sRet, r_sRetN, r_sExpr, r_sIf, r_sBrk, r_sCont, r_asg, r_asgV, r_a1, r_a2, r_a3, r_a4, r_sFrz, r_fz1, r_fz2, r_fz3, r_raise, r_curL, r_cs1, r_cs2, r_st1, r_storeR, r_stoR, r_stoS, r_mut, r_mutR, r_mutL, r_mutS, r_pApp, r_sFor, r_forN, r_loop, r_forC, r_forR, r_l1, r_l2, r_l3, r_l4, r_l5, r_iRg, r_rg, r_iRg2, r_rg2, r_iSq, r_sq1, r_sq2, r_gN, r_fn, r_f1, r_f2, r_f3, r_f4, r_fin1, r_fin2, r_fin3, r_fin4, r_fb1, r_fb2, r_fin5, r_fin6, r_fin7, r_fc1, r_dAdd, r_dAddL, r_dSub, r_dMul, r_dMod, r_dDiv, r_dPow, r_dNeg, r_dLt, r_dLe, r_dGt, r_dGe, r_nInt, r_nIntB, r_nAbs, r_nLenL, r_nLenT, r_nLenD, r_nMax2, r_nMin2, r_ixL, r_ixT, r_nListL, r_nListT, r_nTupL, r_nDict, r_tru1, r_tru2, r_tru3, r_tru4, r_tru5, r_pExt, r_pIns, r_eqII, r_eqBB, r_neII, r_isN1, r_isN2, r_isN3, r_isN4, r_isN5, r_isN6, r_isi, r_chain, r_ch1, r_ch2, r_rdDict, r_undictD, r_key, r_get2, r_or1, r_or2, r_dix, r_dnew, r_curD, r_ce, r_valOf, r_dput, r_put, r_dictAt, r_dicS, r_eLock, r_sLock, r_lok, r_iDk, r_iDi, r_mapR, r_gT, r_tupT, r_gsN, r_gsC, r_gsR, r_aug, r_aug1, r_addI, r_while, r_sPar, r_oN, r_oS, r_part, r_eSl, r_slTo, r_slFrom, atI, ixN, env0]) (by simp [DW.freeOf, o]) rfl
    (fun d hd => by
      obtain ⟨p, _, rfl⟩ := List.mem_map.mp hd
      refine ⟨[.prm st, .val (iL xs), .val (.int m), .val (pL l), .val (.int c), s5, s6, s7, s8, s9, s10, s11, .val (DW.pairD p), s13], rfl, .inr ⟨_, [.prm st, .val (iL xs), .val (.int m), .val (pL l), .val (.int c), s5, s6, s7, s8, s9, s10, s11, .val (DW.pairD p), s13], DW.pairD ((p.1 + c) % m, p.2), rfl, ?_, rfl, rfl⟩⟩
      generalize iL xs = w
      generalize pL l = w2
      have hm : (0 : Int) < m := by omega
      generalize ((m : Nat) : Int) = mm at hm
      simp -implicitDefEqProofs [r_bind, r_b1, r_b2, r_b3, r_ret, r_frz1, r_frz2, r_frz3, r_frz4, r_rd1, r_rd2, r_rs1, r_rs2, r_rs3, r_var, r_v1, r_v2, r_v3, r_v4, r_c, r_opnd, r_o1, r_o2, r_rdM, r_opt1, r_lift1, r_eOp, r_eUn, r_boolM, r_tB, r_optB, r_tru, r_and, r_or, r_not, r_bE, r_eAnd, r_eOr, r_eNot, r_eIf, r_condT, r_condF, r_aNil, r_aCons, r_rdsM, r_rdsN, r_rdsC, r_eB, r_nb1, r_nb2, r_vN, r_vC, r_tup, r_lst, r_fits, r_fits0, r_fits1, r_fits2, r_fits3, r_fits4, r_callN, r_callD, r_callM, r_call1, r_argB, r_argB1, r_argB2, r_argV, r_argN, r_back0, r_back0x, r_back1, r_back1x, r_setC, r_set1, r_set2, r_seq, r_s1, r_s2, r_s3, r_s4, r_s5, r_sNil, r_sRet, r_sRetN, r_sExpr, r_sIf, r_sBrk, r_sCont, r_asg, r_asgV, r_a1, r_a2, r_a3, r_a4, r_sFrz, r_fz1, r_fz2, r_fz3, r_raise, r_curL, r_cs1, r_cs2, r_st1, r_storeR, r_stoR, r_stoS, r_mut, r_mutR, r_mutL, r_mutS, r_pApp, r_sFor, r_forN, r_loop, r_forC, r_forR, r_l1, r_l2, r_l3, r_l4, r_l5, r_iRg, r_rg, r_iRg2, r_rg2, r_iSq, r_sq1, r_sq2, r_gN, r_fn, r_f1, r_f2, r_f3, r_f4, r_fin1, r_fin2, r_fin3, r_fin4, r_fb1, r_fb2, r_fin5, r_fin6, r_fin7, r_fc1, r_dAdd, r_dAddL, r_dSub, r_dMul, r_dMod, r_dDiv, r_dPow, r_dNeg, r_dLt, r_dLe, r_dGt, r_dGe, r_nInt, r_nIntB, r_nAbs, r_nLenL, r_nLenT, r_nLenD, r_nMax2, r_nMin2, r_ixL, r_ixT, r_nListL, r_nListT, r_nTupL, r_nDict, r_tru1, r_tru2, r_tru3, r_tru4, r_tru5, r_pExt, r_pIns, r_eqII, r_eqBB, r_neII, r_isN1, r_isN2, r_isN3, r_isN4, r_isN5, r_isN6, r_isi, r_chain, r_ch1, r_ch2, r_rdDict, r_undictD, r_key, r_get2, r_or1, r_or2, r_dix, r_dnew, r_curD, r_ce, r_valOf, r_dput, r_put, r_dictAt, r_dicS, r_eLock, r_sLock, r_lok, r_iDk, r_iDi, r_mapR, r_gT, r_tupT, r_gsN, r_gsC, r_gsR, r_aug, r_aug1, r_addI, r_while, r_sPar, r_oN, r_oS, r_part, r_eSl, r_slTo, r_slFrom, atI, ixN, env0, DW.pairD, hm])
    (by rw [List.length_map]; omega)
  rw [fm_map DW.pairD (fun p => DW.pairD ((p.1 + c) % m, p.2)) _ fun p => rfl] at ed
  unfold turnT
  rw [List.map_map]
  exact ed
theorem ch_add (hl : xs.length ≤ 1000000) (o : s13.isOwn = false) {v3 : D} :
    eLc (iSq (eVar 1)) (gN 13) tYes' (eOp dAdd (eVar 13) (eVar 4)) [13]
      [.prm st, .val (iL xs), .val (.int m), .val v3, .val (.int c), s5, s6, s7, s8, s9, s10, s11, s12, s13] = .ok (.own ((xs.map fun x => x + c).map PyData.int)) [.prm st, .val (iL xs), .val (.int m), .val v3, .val (.int c), s5, s6, s7, s8, s9, s10, s11, s12, s13] := by
  have ed := eLc_pure (src := iSq (eVar 1)) (tgt := gN 13) (cond := tYes') (elt := eOp dAdd (eVar 13) (eVar 4)) (vs := [13])
    (δ := [.prm st, .val (iL xs), .val (.int m), .val v3, .val (.int c), s5, s6, s7, s8, s9, s10, s11, s12, s13]) (ds := xs.map PyData.int)
    (fun d => match d with
      | .int x => some (.int (x + c))
      | _ => none)
    (by unfold iL; simp -implicitDefEqProofs [r_bind, r_b1, r_b2, r_b3, r_ret, r_frz1, r_frz2, r_frz3, r_frz4, r_rd1, r_rd2, r_rs1, r_rs2, r_rs3, r_var, r_v1, r_v2, r_v3, r_v4, r_c, r_opnd, r_o1, r_o2, r_rdM, r_opt1, r_lift1, r_eOp, r_eUn, r_boolM, r_tB, r_optB, r_tru, r_and, r_or, r_not, r_bE, r_eAnd, r_eOr, r_eNot, r_eIf, r_condT, r_condF, r_aNil, r_aCons, r_rdsM, r_rdsN, r_rdsC, r_eB, r_nb1, r_nb2, r_vN, r_vC, r_tup, r_lst, r_fits, r_fits0, r_fits1, r_fits2, r_fits3, r_fits4, r_callN, r_callD, r_callM, r_call1, r_argB, r_argB1, r_argB2, r_argV, r_argN, r_back0, r_back0x, r_back1, r_back1x, r_setC, r_set1, r_set2, r_seq, r_s1, r_s2, r_s3, r_s4, r_s5, r_sNil, r_sRet, r_sRetN, r_sExpr, r_sIf, r_sBrk, r_sCont, r_asg, r_asgV, r_a1, r_a2, r_a3, r_a4, r_sFrz, r_fz1, r_fz2, r_fz3, r_raise, r_curL, r_cs1, r_cs2, r_st1, r_storeR, r_stoR, r_stoS, r_mut, r_mutR, r_mutL, r_mutS, r_pApp, r_sFor, r_forN, r_loop, r_forC, r_forR, r_l1, r_l2, r_l3, r_l4, r_l5, r_iRg, r_rg, r_iRg2, r_rg2, r_iSq, r_sq1, r_sq2, r_gN, r_fn, r_f1, r_f2, r_f3, r_f4, r_fin1, r_fin2, r_fin3, r_fin4, r_fb1, r_fb2, r_fin5, r_fin6, r_fin7, r_fc1, r_dAdd, r_dAddL, r_dSub, r_dMul, r_dMod, r_dDiv, r_dPow, r_dNeg, r_dLt, r_dLe, r_dGt, r_dGe, r_nInt, r_nIntB, r_nAbs, r_nLenL, r_nLenT, r_nLenD, r_nMax2, r_nMin2, r_ixL, r_ixT, r_nListL, r_nListT, r_nTupL, r_nDict, r_tru1, r_tru2, r_tru3, r_tru4, r_tru5, r_pExt, r_pIns, r_eqII, r_eqBB, r_neII, r_isN1, r_isN2, r_isN3, r_isN4, r_isN5, r_isN6, r_isi, r_chain, r_ch1, r_ch2, r_rdDict, r_undictD, r_key, r_get2, r_or1, r_or2, r_dix, r_dnew, r_curD, r_ce, r_valOf, r_dput, r_put, r_dictAt, r_dicS, r_eLock, r_sLock, r_lok, r_iDk, r_iDi, r_mapR, r_gT, r_tupT, r_gsN, r_gsC, r_gsR, r_aug, r_aug1, r_addI, r_while, r_sPar, r_oN, r_oS, r_part, r_eSl, r_slTo, r_slFrom, atI, ixN, env0]) (by simp [DW.freeOf, o]) rfl
    (fun d hd => by
      obtain ⟨x, _, rfl⟩ := List.mem_map.mp hd
      refine ⟨[.prm st, .val (iL xs), .val (.int m), .val v3, .val (.int c), s5, s6, s7, s8, s9, s10, s11, s12, .val (.int x)], rfl, .inr ⟨_, [.prm st, .val (iL xs), .val (.int m), .val v3, .val (.int c), s5, s6, s7, s8, s9, s10, s11, s12, .val (.int x)], .int (x + c), rfl, ?_, rfl, rfl⟩⟩
      generalize iL xs = w
      simp -implicitDefEqProofs [r_bind, r_b1, r_b2, r_b3, r_ret, r_frz1, r_frz2, r_frz3, r_frz4, r_rd1, r_rd2, r_rs1, r_rs2, r_rs3, r_var, r_v1, r_v2, r_v3, r_v4, r_c, r_opnd, r_o1, r_o2, r_rdM, r_opt1, r_lift1, r_eOp, r_eUn, r_boolM, r_tB, r_optB, r_tru, r_and, r_or, r_not, r_bE, r_eAnd, r_eOr, r_eNot, r_eIf, r_condT, r_condF, r_aNil, r_aCons, r_rdsM, r_rdsN, r_rdsC, r_eB, r_nb1, r_nb2, r_vN, r_vC, r_tup, r_lst, r_fits, r_fits0, r_fits1, r_fits2, r_fits3, r_fits4, r_callN, r_callD, r_callM, r_call1, r_argB, r_argB1, r_argB2, r_argV, r_argN, r_back0, r_back0x, r_back1, r_back1x, r_setC, r_set1, r_set2, r_seq, r_s1, r_s2, r_s3, r_s4, r_s5, r_sNil, r_sRet, r_sRetN, r_sExpr, r_sIf, r_sBrk, r_sCont, r_asg, r_asgV, r_a1, r_a2, r_a3, r_a4, r_sFrz, r_fz1, r_fz2, r_fz3, r_raise, r_curL, r_cs1, r_cs2, r_st1, r_storeR, r_stoR, r_stoS, r_mut, r_mutR, r_mutL, r_mutS, r_pApp, r_sFor, r_forN, r_loop, r_forC, r_forR, r_l1, r_l2, r_l3, r_l4, r_l5, r_iRg, r_rg, r_iRg2, r_rg2, r_iSq, r_sq1, r_sq2, r_gN, r_fn, r_f1, r_f2, r_f3, r_f4, r_fin1, r_fin2, r_fin3, r_fin4, r_fb1, r_fb2, r_fin5, r_fin6, r_fin7, r_fc1, r_dAdd, r_dAddL, r_dSub, r_dMul, r_dMod, r_dDiv, r_dPow, r_dNeg, r_dLt, r_dLe, r_dGt, r_dGe, r_nInt, r_nIntB, r_nAbs, r_nLenL, r_nLenT, r_nLenD, r_nMax2, r_nMin2, r_ixL, r_ixT, r_nListL, r_nListT, r_nTupL, r_nDict, r_tru1, r_tru2, r_tru3, r_tru4, r_tru5, r_pExt, r_pIns, r_eqII, r_eqBB, r_neII, r_isN1, r_isN2, r_isN3, r_isN4, r_isN5, r_isN6, r_isi, r_chain, r_ch1, r_ch2, r_rdDict, r_undictD, r_key, r_get2, r_or1, r_or2, r_dix, r_dnew, r_curD, r_ce, r_valOf, r_dput, r_put, r_dictAt, r_dicS, r_eLock, r_sLock, r_lok, r_iDk, r_iDi, r_mapR, r_gT, r_tupT, r_gsN, r_gsC, r_gsR, r_aug, r_aug1, r_addI, r_while, r_sPar, r_oN, r_oS, r_part, r_eSl, r_slTo, r_slFrom, atI, ixN, env0])
    (by rw [List.length_map]; omega)
  rw [fm_map PyData.int (fun x => .int (x + c)) _ fun p => rfl] at ed
  rw [List.map_map]
  exact ed
theorem ch_mul (hN : 1 ≤ m) (hN2 : m ≤ 1000000) (hF : 0 ≤ F) (hF2 : F ≤ 1000) (hl : xs.length ≤ 1000000) (o : s13.isOwn = false) {v3 : D} :
    eLc (iSq (eVar 1)) (gN 13) tYes' (eOp dMul (eOp dMod (eB (DW.b1 nInt) (aCons (eVar 13) aNil)) (eVar 2)) (eVar 6)) [13]
      [.prm st, .val (iL xs), .val (.int m), .val v3, s4, s5, .val (.int F), s7, s8, s9, s10, s11, s12, s13] = .ok (.own ((xs.map fun x => x % (m : Int) * F).map PyData.int)) [.prm st, .val (iL xs), .val (.int m), .val v3, s4, s5, .val (.int F), s7, s8, s9, s10, s11, s12, s13] := by
  have ed := eLc_pure (src := iSq (eVar 1)) (tgt := gN 13) (cond := tYes') (elt := eOp dMul (eOp dMod (eB (DW.b1 nInt) (aCons (eVar 13) aNil)) (eVar 2)) (eVar 6)) (vs := [13])
    (δ := [.prm st, .val (iL xs), .val (.int m), .val v3, s4, s5, .val (.int F), s7, s8, s9, s10, s11, s12, s13]) (ds := xs.map PyData.int)
    (fun d => match d with
      | .int x => some (.int (x % (m : Int) * F))
      | _ => none)
    (by unfold iL; simp -implicitDefEqProofs [r_bind, r_b1, r_b2, r_b3, r_ret, r_frz1, r_frz2, r_frz3, r_frz4, r_rd1, r_rd2, r_rs1, r_rs2, r_rs3, r_var, r_v1, r_v2, r_v3, r_v4, r_c, r_opnd, r_o1, r_o2, r_rdM, r_opt1, r_lift1, r_eOp, r_eUn, r_boolM, r_tB, r_optB, r_tru, r_and, r_or, r_not, r_bE, r_eAnd, r_eOr, r_eNot, r_eIf, r_condT, r_condF, r_aNil, r_aCons, r_rdsM, r_rdsN, r_rdsC, r_eB, r_nb1, r_nb2, r_vN, r_vC, r_tup, r_lst, r_fits, r_fits0, r_fits1, r_fits2, r_fits3, r_fits4, r_callN, r_callD, r_callM, r_call1, r_argB, r_argB1, r_argB2, r_argV, r_argN, r_back0, r_back0x, r_back1, r_back1x, r_setC, r_set1, r_set2, r_seq, r_s1, r_s2, r_s3, r_s4, r_s5, r_sNil, r_sRet, r_sRetN, r_sExpr, r_sIf, r_sBrk, r_sCont, r_asg, r_asgV, r_a1, r_a2, r_a3, r_a4, r_sFrz, r_fz1, r_fz2, r_fz3, r_raise, r_curL, r_cs1, r_cs2, r_st1, r_storeR, r_stoR, r_stoS, r_mut, r_mutR, r_mutL, r_mutS, r_pApp, r_sFor, r_forN, r_loop, r_forC, r_forR, r_l1, r_l2, r_l3, r_l4, r_l5, r_iRg, r_rg, r_iRg2, r_rg2, r_iSq, r_sq1, r_sq2, r_gN, r_fn, r_f1, r_f2, r_f3, r_f4, r_fin1, r_fin2, r_fin3, r_fin4, r_fb1, r_fb2, r_fin5, r_fin6, r_fin7, r_fc1, r_dAdd, r_dAddL, r_dSub, r_dMul, r_dMod, r_dDiv, r_dPow, r_dNeg, r_dLt, r_dLe, r_dGt, r_dGe, r_nInt, r_nIntB, r_nAbs, r_nLenL, r_nLenT, r_nLenD, r_nMax2, r_nMin2, r_ixL, r_ixT, r_nListL, r_nListT, r_nTupL, r_nDict, r_tru1, r_tru2, r_tru3, r_tru4, r_tru5, r_pExt, r_pIns, r_eqII, r_eqBB, r_neII, r_isN1, r_isN2, r_isN3, r_isN4, r_isN5, r_isN6, r_isi, r_chain, r_ch1, r_ch2, r_rdDict, r_undictD, r_key, r_get2, r_or1, r_or2, r_dix, r_dnew, r_curD, r_ce, r_valOf, r_dput, r_put, r_dictAt, r_dicS, r_eLock, r_sLock, r_lok, r_iDk, r_iDi, r_mapR, r_gT, r_tupT, r_gsN, r_gsC, r_gsR, r_aug, r_aug1, r_addI, r_while, r_sPar, r_oN, r_oS, r_part, r_eSl, r_slTo, r_slFrom, atI, ixN, env0]) (by simp [DW.freeOf, o]) rfl
    (fun d hd => by
      obtain ⟨x, _, rfl⟩ := List.mem_map.mp hd
      refine ⟨[.prm st, .val (iL xs), .val (.int m), .val v3, s4, s5, .val (.int F), s7, s8, s9, s10, s11, s12, .val (.int x)], rfl, .inr ⟨_, [.prm st, .val (iL xs), .val (.int m), .val v3, s4, s5, .val (.int F), s7, s8, s9, s10, s11, s12, .val (.int x)], .int (x % (m : Int) * F), rfl, ?_, rfl, rfl⟩⟩
      have a0 : 0 ≤ x % (m : Int) := Int.emod_nonneg _ (by omega)
      have a1 : x % (m : Int) < m := Int.emod_lt_of_pos _ (by omega)
      have mc : mulC (x % (m : Int)) F = true := mulC_lt (a := 40) (b := 40) (by omega) (by omega) (by decide)
      generalize iL xs = w
      have hm : (0 : Int) < m := by omega
      generalize ((m : Nat) : Int) = mm at hm mc
      simp -implicitDefEqProofs [r_bind, r_b1, r_b2, r_b3, r_ret, r_frz1, r_frz2, r_frz3, r_frz4, r_rd1, r_rd2, r_rs1, r_rs2, r_rs3, r_var, r_v1, r_v2, r_v3, r_v4, r_c, r_opnd, r_o1, r_o2, r_rdM, r_opt1, r_lift1, r_eOp, r_eUn, r_boolM, r_tB, r_optB, r_tru, r_and, r_or, r_not, r_bE, r_eAnd, r_eOr, r_eNot, r_eIf, r_condT, r_condF, r_aNil, r_aCons, r_rdsM, r_rdsN, r_rdsC, r_eB, r_nb1, r_nb2, r_vN, r_vC, r_tup, r_lst, r_fits, r_fits0, r_fits1, r_fits2, r_fits3, r_fits4, r_callN, r_callD, r_callM, r_call1, r_argB, r_argB1, r_argB2, r_argV, r_argN, r_back0, r_back0x, r_back1, r_back1x, r_setC, r_set1, r_set2, r_seq, r_s1, r_s2, r_s3, r_s4, r_s5, r_sNil, r_sRet, r_sRetN, r_sExpr, r_sIf, r_sBrk, r_sCont, r_asg, r_asgV, r_a1, r_a2, r_a3, r_a4, r_sFrz, r_fz1, r_fz2, r_fz3, r_raise, r_curL, r_cs1, r_cs2, r_st1, r_storeR, r_stoR, r_stoS, r_mut, r_mutR, r_mutL, r_mutS, r_pApp, r_sFor, r_forN, r_loop, r_forC, r_forR, r_l1, r_l2, r_l3, r_l4, r_l5, r_iRg, r_rg, r_iRg2, r_rg2, r_iSq, r_sq1, r_sq2, r_gN, r_fn, r_f1, r_f2, r_f3, r_f4, r_fin1, r_fin2, r_fin3, r_fin4, r_fb1, r_fb2, r_fin5, r_fin6, r_fin7, r_fc1, r_dAdd, r_dAddL, r_dSub, r_dMul, r_dMod, r_dDiv, r_dPow, r_dNeg, r_dLt, r_dLe, r_dGt, r_dGe, r_nInt, r_nIntB, r_nAbs, r_nLenL, r_nLenT, r_nLenD, r_nMax2, r_nMin2, r_ixL, r_ixT, r_nListL, r_nListT, r_nTupL, r_nDict, r_tru1, r_tru2, r_tru3, r_tru4, r_tru5, r_pExt, r_pIns, r_eqII, r_eqBB, r_neII, r_isN1, r_isN2, r_isN3, r_isN4, r_isN5, r_isN6, r_isi, r_chain, r_ch1, r_ch2, r_rdDict, r_undictD, r_key, r_get2, r_or1, r_or2, r_dix, r_dnew, r_curD, r_ce, r_valOf, r_dput, r_put, r_dictAt, r_dicS, r_eLock, r_sLock, r_lok, r_iDk, r_iDi, r_mapR, r_gT, r_tupT, r_gsN, r_gsC, r_gsR, r_aug, r_aug1, r_addI, r_while, r_sPar, r_oN, r_oS, r_part, r_eSl, r_slTo, r_slFrom, atI, ixN, env0, hm, mc])
    (by rw [List.length_map]; omega)
  rw [fm_map PyData.int (fun x => .int (x % (m : Int) * F)) _ fun p => rfl] at ed
  rw [List.map_map]
  exact ed
end
end K61

set_option Elab.async false
set_option linter.all false
set_option maxRecDepth 100000
set_option maxHeartbeats 8000000
namespace K61
open PySem PySem.Spec PyProof.Rows L2 DW
theorem unit60 {m : Nat} (hN : 1 ≤ m) (hN2 : m ≤ 1000000) {a0 a1 a3 a4 a5 sl : Sl} {rest : List Sl} {F : Nat} (h1 : 1 ≤ F) (h2 : F ≤ 100) :
    ∃ F' sl', forL (gN 7) B_l_changes_hold_1 (rangeD 0 60) (a0 :: a1 :: .val (.int m) :: a3 :: a4 :: a5 :: .val (.int F) :: sl :: rest) = .ok .nx (a0 :: a1 :: .val (.int m) :: a3 :: a4 :: a5 :: .val (.int (F' : Nat)) :: sl' :: rest) ∧ 1 ≤ F' ∧ F' ≤ 500 ∧ Nat.gcd F' m = 1 := by
  have e : rangeD 0 60 = (List.range 60).map fun k => PyData.int (k : Nat) := by
    unfold rangeD
    refine List.map_congr_left fun k _ => ?_
    rw [Int.zero_add]
  rw [e]
  exact unit_loop hN hN2 (List.range 60) F sl h1 (by rw [List.length_range]; omega) (fun i hi => by
    rw [List.length_range] at hi
    rw [List.getElem_range, List.length_range]; omega) (fun z => by simp at z) (fun i hi hh => by
    rw [List.length_range] at hh
    rw [List.getElem_range]; omega)
end K61

set_option Elab.async false
set_option linter.all false
set_option maxRecDepth 100000
set_option maxHeartbeats 8000000
namespace K61
open PySem PySem.Spec PyProof.Rows L2 DW
theorem changes_eq {n m : Nat} {st : List D} (h : StoOk n st) (hn : n + 3000 ≤ 1000000000) (hN : 1 ≤ m) (hN2 : m ≤ 1000000) {xs : List Int} (g : Gd xs) {l : Tab} {ps : List Nat} (pr : PR m ps) (hI : Is m l (TT m ps (cnt m xs))) :
    ∃ st', F_l_changes_hold (some st) [iL xs, .int m, pL l] = .ok (.val (.bool true)) (some st') ∧ StoOk (n + 3000) st' := by
  obtain ⟨t1, s1, e1, h1, a0, a1⟩ := take_eq h (by omega) (many := (m : Int)) (by omega) (by omega)
  obtain ⟨t2, s2, e2, h2, b0, b1⟩ := take_eq h1 (by omega) (many := 1000000) (by decide) (by decide)
  obtain ⟨d, s3, e3, h3, hd⟩ := pick_eq h2 (by omega) (ds := [.int t1, .int (-t2), .int m, .int 1]) (by simp) (by simp)
  have hc : ∃ c : Int, d = .int c ∧ -1000000 ≤ c ∧ c ≤ 1000000 := by
    simp only [List.mem_cons, List.not_mem_nil, or_false] at hd
    rcases hd with rfl | rfl | rfl | rfl
    · exact ⟨_, rfl, by omega, by omega⟩
    · exact ⟨_, rfl, by omega, by omega⟩
    · exact ⟨_, rfl, by omega, by omega⟩
    · exact ⟨_, rfl, by decide, by decide⟩
  obtain ⟨c, rfl, c0, c1⟩ := hc
  have p6 : powC 10 6 = true := by decide
  have ll := hI.len hN2
  have gl := g.len
  have xl : xs.length ≤ 1000000 := by omega
  have ct := ch_turn (m := m) (st := s3) (xs := xs) (l := l) (c := c) (s5 := .un) (s6 := .un) (s7 := .un) (s8 := .un) (s9 := .un) (s10 := .un) (s11 := .un) (s12 := .un) (s13 := .un) hN ll rfl
  have srt := r_sortPd (turnT m c l)
  have st1 := (sol_turn hN hN2 g pr hI c0 c1).left
  have tl : (sortP (turnT m c l)).length ≤ 1000000 := by rw [(sortP_perm _).length_eq]; unfold turnT; rw [List.length_map]; exact ll
  have lk1 := like6 (pl_pL tl)
  generalize hT : sortP (turnT m c l) = T at *
  have ca := ch_add (m := m) (st := s3) (xs := xs) (c := c) (v3 := pL l) (s5 := .val (pL T)) (s6 := .un) (s7 := .un) (s8 := .un) (s9 := .un) (s10 := .un) (s11 := .un) (s12 := .un) (s13 := .un) xl rfl
  obtain ⟨t4, s4, e4, h4, u0, u1⟩ := take_eq h3 (by omega) (many := 60) (by decide) (by decide)
  obtain ⟨F0, hF0⟩ : ∃ F0 : Nat, (1 : Int) + t4 = (F0 : Nat) := ⟨(1 + t4).toNat, by omega⟩
  obtain ⟨F, sl7, el, f1, f2, fg⟩ := unit60 (m := m) hN hN2 (F := F0) (a0 := .prm s4) (a1 := .val (iL xs)) (a3 := .val (pL l)) (a4 := .val (.int c)) (a5 := .val (pL T)) (sl := .un) (rest := [.un, .un, .un, .un, .un, .un]) (by omega) (by omega)
  have cm := ch_mul (m := m) (st := s4) (xs := xs) (F := (F : Int)) (v3 := pL l) (s4 := .val (.int c)) (s5 := .val (pL T)) (s7 := sl7) (s8 := .un) (s9 := .un) (s10 := .un) (s11 := .un) (s12 := .un) (s13 := .un) hN hN2 (by omega) (by omega) xl rfl
  have cu := canc_unit hN hN2 g pr hI (F := F) (by omega) fg
  have lk2 := like6 (pl_bool l.isEmpty)
  have em : (l.map DW.pairD).isEmpty = l.isEmpty := by cases l <;> rfl
  obtain ⟨ps2, ep, pr2⟩ := primes_once_eq hN hN2
  have eps := pr2.uniq pr
  subst eps
  have pl := pr2.len hN
  have lc := lc_lt (n := m) (ps := ps2) 340 2 [.prm s4, .val (iL xs), .val (.int m), .val (pL l), .val (.int c), .val (pL T), .val (.int F), sl7, .un, .un, .un, .un, .un, .un] ep (by omega) rfl 11 rfl rfl (by simp)
  rw [show ((340 : Nat) : Int) = 340 from rfl] at lc
  generalize hqs : (ps2.filter fun q => decide (q < 340)) = qs at lc
  have emq : (qs.map nD).isEmpty = qs.isEmpty := by cases qs <;> rfl
  have s60 : small62 60 = true := by decide
  by_cases hq : qs.isEmpty = true
  · refine ⟨s4, ?_, h4.mono (by omega)⟩
    rw [hq] at emq
    unfold iL at *
    unfold pL at *
    generalize (xs.map fun x => x + c).map PyData.int = w1 at *
    generalize (xs.map fun x => x % (m : Int) * (F : Int)).map PyData.int = w2 at *
    generalize xs.map PyData.int = w3 at *
    generalize T.map DW.pairD = w4 at *
    generalize (turnT m c l).map DW.pairD = w5 at *
    generalize l.map DW.pairD = w6 at *
    generalize qs.map nD = w7 at *
    simp -implicitDefEqProofs [F_l_changes_hold, r_bind, r_b1, r_b2, r_b3, r_ret, r_frz1, r_frz2, r_frz3, r_frz4, r_rd1, r_rd2, r_rs1, r_rs2, r_rs3, r_var, r_v1, r_v2, r_v3, r_v4, r_c, r_opnd, r_o1, r_o2, r_rdM, r_opt1, r_lift1, r_eOp, r_eUn, r_boolM, r_tB, r_optB, r_tru, r_and, r_or, r_not, r_bE, r_eAnd, r_eOr, r_eNot, r_eIf, r_condT, r_condF, r_aNil, r_aCons, r_rdsM, r_rdsN, r_rdsC, r_eB, r_nb1, r_nb2, r_vN, r_vC, r_tup, r_lst, r_fits, r_fits0, r_fits1, r_fits2, r_fits3, r_fits4, r_callN, r_callD, r_callM, r_call1, r_argB, r_argB1, r_argB2, r_argV, r_argN, r_back0, r_back0x, r_back1, r_back1x, r_setC, r_set1, r_set2, r_seq, r_s1, r_s2, r_s3, r_s4, r_s5, r_sNil, r_sRet, r_sRetN, r_sExpr, r_sIf, r_sBrk, r_sCont, r_asg, r_asgV, r_a1, r_a2, r_a3, r_a4, r_sFrz, r_fz1, r_fz2, r_fz3, r_raise, r_curL, r_cs1, r_cs2, r_st1, r_storeR, r_stoR, r_stoS, r_mut, r_mutR, r_mutL, r_mutS, r_pApp, r_sFor, r_forN, r_loop, r_forC, r_forR, r_l1, r_l2, r_l3, r_l4, r_l5, r_iRg, r_rg, r_iRg2, r_rg2, r_iSq, r_sq1, r_sq2, r_gN, r_fn, r_f1, r_f2, r_f3, r_f4, r_fin1, r_fin2, r_fin3, r_fin4, r_fb1, r_fb2, r_fin5, r_fin6, r_fin7, r_fc1, r_dAdd, r_dAddL, r_dSub, r_dMul, r_dMod, r_dDiv, r_dPow, r_dNeg, r_dLt, r_dLe, r_dGt, r_dGe, r_nInt, r_nIntB, r_nAbs, r_nLenL, r_nLenT, r_nLenD, r_nMax2, r_nMin2, r_ixL, r_ixT, r_nListL, r_nListT, r_nTupL, r_nDict, r_tru1, r_tru2, r_tru3, r_tru4, r_tru5, r_pExt, r_pIns, r_eqII, r_eqBB, r_neII, r_isN1, r_isN2, r_isN3, r_isN4, r_isN5, r_isN6, r_isi, r_chain, r_ch1, r_ch2, r_rdDict, r_undictD, r_key, r_get2, r_or1, r_or2, r_dix, r_dnew, r_curD, r_ce, r_valOf, r_dput, r_put, r_dictAt, r_dicS, r_eLock, r_sLock, r_lok, r_iDk, r_iDi, r_mapR, r_gT, r_tupT, r_gsN, r_gsC, r_gsR, r_aug, r_aug1, r_addI, r_while, r_sPar, r_oN, r_oS, r_part, r_eSl, r_slTo, r_slFrom, atI, ixN, env0, p6, e1, e2, e3, ct, srt, ca, st1, lk1, e4, hF0, el, cm, cu, em, lk2, lc, emq, s60]
  · have hq : qs.isEmpty = false := by cases hh : qs.isEmpty with | false => rfl | true => exact absurd hh hq
    have hpos : 0 < qs.length := by cases qs with | nil => cases hq | cons a b => simp
    have ql : qs.length ≤ 1000000 := by rw [← hqs]; have := List.length_filter_le (fun q => decide (q < 340)) ps2; omega
    obtain ⟨j, s5, e5, h5, j0, j1⟩ := take_eq h4 (by omega) (many := (xs.length : Int) + 1) (by omega) (by omega)
    obtain ⟨d, s6, e6, h6, hd⟩ := pick_eq h5 (by omega) (ds := qs.map nD) (by rw [List.length_map]; exact hpos) (by rw [List.length_map]; exact ql)
    obtain ⟨p, hpm, rfl⟩ := List.mem_map.mp hd
    rw [← hqs] at hpm
    obtain ⟨pm, p340⟩ := List.mem_filter.mp hpm
    have p340 : p < 340 := of_decide_eq_true p340
    have p2 := ((pr2.mem p).mp pm).1.1
    obtain ⟨first, ys, s7, e7, h7, f0, f1', yl, ys1⟩ := set_eq h6 (N := (m : Int)) (p := (p : Int)) (by omega) (by omega) (by omega) (by omega) (by omega)
    have sf := sol_filled hN hN2 g pr2 hI pm p340 f0 f1' (by omega) ys1 j.toNat
    have sfl := sf.left
    have sfc := sf.canc
    have lk3 := like6 (d := .list [pL l, .bool l.isEmpty]) ⟨by show 2 ≤ 1000000; decide, fun e he => by
      simp only [List.mem_cons, List.not_mem_nil, or_false] at he
      rcases he with rfl | rfl
      · exact ⟨by rw [List.length_map]; exact ll, fun d hd => by
          obtain ⟨x, _, rfl⟩ := List.mem_map.mp hd
          exact ⟨by show 2 ≤ 1000000; decide, fun e he => by
            simp only [List.mem_cons, List.not_mem_nil, or_false] at he
            rcases he with rfl | rfl <;> exact trivial⟩⟩
      · exact trivial⟩
    refine ⟨s7, ?_, h7.mono (by omega)⟩
    rw [hq] at emq
    have e6 : F_l_pick (some s5) [.list (qs.map nD)] = .ok (.val (.int (p : Int))) (some s6) := e6
    have len3 : ((xs.map PyData.int).length : Int) = (xs.length : Int) := by rw [List.length_map]
    rw [← len3] at e5
    have sl1 := r_slTo (ds := xs.map PyData.int) j0
    have sl2 := r_slFrom (ds := xs.map PyData.int) j0
    have ad1 := r_dAddL (a := (xs.map PyData.int).take j.toNat) (b := ys.map PyData.int) (by rw [List.length_take, List.length_map, List.length_map]; omega)
    have ad2 := r_dAddL (a := (xs.map PyData.int).take j.toNat ++ ys.map PyData.int) (b := (xs.map PyData.int).drop j.toNat) (by rw [List.length_append, List.length_take, List.length_drop, List.length_map, List.length_map]; omega)
    unfold iL at *
    unfold pL at *
    rw [List.map_append, List.map_append, List.map_take, List.map_drop] at sfl sfc
    generalize (xs.map fun x => x + c).map PyData.int = w1 at *
    generalize (xs.map fun x => x % (m : Int) * (F : Int)).map PyData.int = w2 at *
    generalize (xs.map PyData.int).take j.toNat ++ ys.map PyData.int ++ (xs.map PyData.int).drop j.toNat = w8 at *
    generalize (xs.map PyData.int).take j.toNat ++ ys.map PyData.int = w9 at *
    generalize (xs.map PyData.int).take j.toNat = w10 at *
    generalize (xs.map PyData.int).drop j.toNat = w11 at *
    generalize xs.map PyData.int = w3 at *
    generalize ys.map PyData.int = w12 at *
    generalize T.map DW.pairD = w4 at *
    generalize (turnT m c l).map DW.pairD = w5 at *
    generalize l.map DW.pairD = w6 at *
    generalize qs.map nD = w7 at *
    generalize ((p : Nat) : Int) = pp at *
    simp -implicitDefEqProofs [F_l_changes_hold, r_bind, r_b1, r_b2, r_b3, r_ret, r_frz1, r_frz2, r_frz3, r_frz4, r_rd1, r_rd2, r_rs1, r_rs2, r_rs3, r_var, r_v1, r_v2, r_v3, r_v4, r_c, r_opnd, r_o1, r_o2, r_rdM, r_opt1, r_lift1, r_eOp, r_eUn, r_boolM, r_tB, r_optB, r_tru, r_and, r_or, r_not, r_bE, r_eAnd, r_eOr, r_eNot, r_eIf, r_condT, r_condF, r_aNil, r_aCons, r_rdsM, r_rdsN, r_rdsC, r_eB, r_nb1, r_nb2, r_vN, r_vC, r_tup, r_lst, r_fits, r_fits0, r_fits1, r_fits2, r_fits3, r_fits4, r_callN, r_callD, r_callM, r_call1, r_argB, r_argB1, r_argB2, r_argV, r_argN, r_back0, r_back0x, r_back1, r_back1x, r_setC, r_set1, r_set2, r_seq, r_s1, r_s2, r_s3, r_s4, r_s5, r_sNil, r_sRet, r_sRetN, r_sExpr, r_sIf, r_sBrk, r_sCont, r_asg, r_asgV, r_a1, r_a2, r_a3, r_a4, r_sFrz, r_fz1, r_fz2, r_fz3, r_raise, r_curL, r_cs1, r_cs2, r_st1, r_storeR, r_stoR, r_stoS, r_mut, r_mutR, r_mutL, r_mutS, r_pApp, r_sFor, r_forN, r_loop, r_forC, r_forR, r_l1, r_l2, r_l3, r_l4, r_l5, r_iRg, r_rg, r_iRg2, r_rg2, r_iSq, r_sq1, r_sq2, r_gN, r_fn, r_f1, r_f2, r_f3, r_f4, r_fin1, r_fin2, r_fin3, r_fin4, r_fb1, r_fb2, r_fin5, r_fin6, r_fin7, r_fc1, r_dAdd, r_dAddL, r_dSub, r_dMul, r_dMod, r_dDiv, r_dPow, r_dNeg, r_dLt, r_dLe, r_dGt, r_dGe, r_nInt, r_nIntB, r_nAbs, r_nLenL, r_nLenT, r_nLenD, r_nMax2, r_nMin2, r_ixL, r_ixT, r_nListL, r_nListT, r_nTupL, r_nDict, r_tru1, r_tru2, r_tru3, r_tru4, r_tru5, r_pExt, r_pIns, r_eqII, r_eqBB, r_neII, r_isN1, r_isN2, r_isN3, r_isN4, r_isN5, r_isN6, r_isi, r_chain, r_ch1, r_ch2, r_rdDict, r_undictD, r_key, r_get2, r_or1, r_or2, r_dix, r_dnew, r_curD, r_ce, r_valOf, r_dput, r_put, r_dictAt, r_dicS, r_eLock, r_sLock, r_lok, r_iDk, r_iDi, r_mapR, r_gT, r_tupT, r_gsN, r_gsC, r_gsR, r_aug, r_aug1, r_addI, r_while, r_sPar, r_oN, r_oS, r_part, r_eSl, r_slTo, r_slFrom, atI, ixN, env0, p6, e1, e2, e3, ct, srt, ca, st1, lk1, e4, hF0, el, cm, cu, em, lk2, lc, emq, s60, e5, e6, e7, sl1, sl2, ad1, ad2, sfl, sfc, lk3]
end K61

set_option Elab.async false
set_option linter.all false
set_option maxRecDepth 100000
set_option maxHeartbeats 8000000
namespace K61
open PySem PySem.Spec PyProof.Rows L2 DW
def tryR (hs : List Hdl) : R Out → R Out
  | .ok o δ' => .ok o δ'
  | .ex e δ' => hdM hs e δ'
  | .bad => .bad
theorem r_try (b : SM) (hs : List Hdl) (δ : DW.Env) : sTry b hs δ = tryR hs (b δ) := by
  unfold sTry tryR
  cases b δ <;> rfl
theorem r_try1 (hs : List Hdl) (o : Out) (δ : DW.Env) : tryR hs (.ok o δ) = .ok o δ := rfl
theorem r_try2 (hs : List Hdl) (e : Exn) (δ : DW.Env) : tryR hs (.ex e δ) = hdM hs e δ := rfl
theorem hd_ok (hs : List Hdl) (a b c d : Sl) : hdM (⟨some 3, isA_BadNumber, isEM [isA_BadCell, isA_BadRows, isA_TooLong] true⟩ :: hs) badN [a, b, c, d] = .ok (.rt (.val (.bool true))) [a, b, c, .un] := by rfl
theorem refuses_eq {v o : D} {b : Int} (hc : F_cancels none [v, o] = .ex badN none) (hl : F_left_over none [v, o] = .ex badN none) : F_l_refuses none [.int b, v, o] = .ok (.val (.bool true)) none := by
  by_cases h : b = 0
  · subst h
    simp -implicitDefEqProofs [F_l_refuses, r_bind, r_b1, r_b2, r_b3, r_ret, r_frz1, r_frz2, r_frz3, r_frz4, r_rd1, r_rd2, r_rs1, r_rs2, r_rs3, r_var, r_v1, r_v2, r_v3, r_v4, r_c, r_opnd, r_o1, r_o2, r_rdM, r_opt1, r_lift1, r_eOp, r_eUn, r_boolM, r_tB, r_optB, r_tru, r_and, r_or, r_not, r_bE, r_eAnd, r_eOr, r_eNot, r_eIf, r_condT, r_condF, r_aNil, r_aCons, r_rdsM, r_rdsN, r_rdsC, r_eB, r_nb1, r_nb2, r_vN, r_vC, r_tup, r_lst, r_fits, r_fits0, r_fits1, r_fits2, r_fits3, r_fits4, r_callN, r_callD, r_callM, r_call1, r_argB, r_argB1, r_argB2, r_argV, r_argN, r_back0, r_back0x, r_back1, r_back1x, r_setC, r_set1, r_set2, r_seq, r_s1, r_s2, r_s3, r_s4, r_s5, r_sNil, r_sRet, r_sRetN, r_sExpr, r_sIf, r_sBrk, r_sCont, r_asg, r_asgV, r_a1, r_a2, r_a3, r_a4, r_sFrz, r_fz1, r_fz2, r_fz3, r_raise, r_curL, r_cs1, r_cs2, r_st1, r_storeR, r_stoR, r_stoS, r_mut, r_mutR, r_mutL, r_mutS, r_pApp, r_sFor, r_forN, r_loop, r_forC, r_forR, r_l1, r_l2, r_l3, r_l4, r_l5, r_iRg, r_rg, r_iRg2, r_rg2, r_iSq, r_sq1, r_sq2, r_gN, r_fn, r_f1, r_f2, r_f3, r_f4, r_fin1, r_fin2, r_fin3, r_fin4, r_fb1, r_fb2, r_fin5, r_fin6, r_fin7, r_fc1, r_dAdd, r_dAddL, r_dSub, r_dMul, r_dMod, r_dDiv, r_dPow, r_dNeg, r_dLt, r_dLe, r_dGt, r_dGe, r_nInt, r_nIntB, r_nAbs, r_nLenL, r_nLenT, r_nLenD, r_nMax2, r_nMin2, r_ixL, r_ixT, r_nListL, r_nListT, r_nTupL, r_nDict, r_tru1, r_tru2, r_tru3, r_tru4, r_tru5, r_pExt, r_pIns, r_eqII, r_eqBB, r_neII, r_isN1, r_isN2, r_isN3, r_isN4, r_isN5, r_isN6, r_isi, r_chain, r_ch1, r_ch2, r_rdDict, r_undictD, r_key, r_get2, r_or1, r_or2, r_dix, r_dnew, r_curD, r_ce, r_valOf, r_dput, r_put, r_dictAt, r_dicS, r_eLock, r_sLock, r_lok, r_iDk, r_iDi, r_mapR, r_gT, r_tupT, r_gsN, r_gsC, r_gsR, r_aug, r_aug1, r_addI, r_while, r_sPar, r_oN, r_oS, r_part, r_eSl, r_slTo, r_slFrom, atI, ixN, env0, r_try, r_try1, r_try2, hc, hd_ok]
  · simp -implicitDefEqProofs [F_l_refuses, r_bind, r_b1, r_b2, r_b3, r_ret, r_frz1, r_frz2, r_frz3, r_frz4, r_rd1, r_rd2, r_rs1, r_rs2, r_rs3, r_var, r_v1, r_v2, r_v3, r_v4, r_c, r_opnd, r_o1, r_o2, r_rdM, r_opt1, r_lift1, r_eOp, r_eUn, r_boolM, r_tB, r_optB, r_tru, r_and, r_or, r_not, r_bE, r_eAnd, r_eOr, r_eNot, r_eIf, r_condT, r_condF, r_aNil, r_aCons, r_rdsM, r_rdsN, r_rdsC, r_eB, r_nb1, r_nb2, r_vN, r_vC, r_tup, r_lst, r_fits, r_fits0, r_fits1, r_fits2, r_fits3, r_fits4, r_callN, r_callD, r_callM, r_call1, r_argB, r_argB1, r_argB2, r_argV, r_argN, r_back0, r_back0x, r_back1, r_back1x, r_setC, r_set1, r_set2, r_seq, r_s1, r_s2, r_s3, r_s4, r_s5, r_sNil, r_sRet, r_sRetN, r_sExpr, r_sIf, r_sBrk, r_sCont, r_asg, r_asgV, r_a1, r_a2, r_a3, r_a4, r_sFrz, r_fz1, r_fz2, r_fz3, r_raise, r_curL, r_cs1, r_cs2, r_st1, r_storeR, r_stoR, r_stoS, r_mut, r_mutR, r_mutL, r_mutS, r_pApp, r_sFor, r_forN, r_loop, r_forC, r_forR, r_l1, r_l2, r_l3, r_l4, r_l5, r_iRg, r_rg, r_iRg2, r_rg2, r_iSq, r_sq1, r_sq2, r_gN, r_fn, r_f1, r_f2, r_f3, r_f4, r_fin1, r_fin2, r_fin3, r_fin4, r_fb1, r_fb2, r_fin5, r_fin6, r_fin7, r_fc1, r_dAdd, r_dAddL, r_dSub, r_dMul, r_dMod, r_dDiv, r_dPow, r_dNeg, r_dLt, r_dLe, r_dGt, r_dGe, r_nInt, r_nIntB, r_nAbs, r_nLenL, r_nLenT, r_nLenD, r_nMax2, r_nMin2, r_ixL, r_ixT, r_nListL, r_nListT, r_nTupL, r_nDict, r_tru1, r_tru2, r_tru3, r_tru4, r_tru5, r_pExt, r_pIns, r_eqII, r_eqBB, r_neII, r_isN1, r_isN2, r_isN3, r_isN4, r_isN5, r_isN6, r_isi, r_chain, r_ch1, r_ch2, r_rdDict, r_undictD, r_key, r_get2, r_or1, r_or2, r_dix, r_dnew, r_curD, r_ce, r_valOf, r_dput, r_put, r_dictAt, r_dicS, r_eLock, r_sLock, r_lok, r_iDk, r_iDi, r_mapR, r_gT, r_tupT, r_gsN, r_gsC, r_gsR, r_aug, r_aug1, r_addI, r_while, r_sPar, r_oN, r_oS, r_part, r_eSl, r_slTo, r_slFrom, atI, ixN, env0, r_try, r_try1, r_try2, hl, hd_ok, h]
end K61

set_option Elab.async false
set_option linter.all false
set_option maxRecDepth 100000
set_option maxHeartbeats 8000000
namespace K61
open PySem PySem.Spec PyProof.Rows L2 DW
theorem okL_odd {xs : List Int} {d : D} (h : okR d = false) (a : Nat) : okL (.list ((xs.map PyData.int).take a ++ [d] ++ (xs.map PyData.int).drop a)) = false := by
  show (decide (_ ≤ 400) && List.all _ okR) = false
  rw [List.all_append, List.all_append]
  have : [d].all okR = false := by simp [h]
  rw [this]
  simp
theorem mul401 : dMul (.list [.int 0]) (.int 401) = some (.own (List.replicate 401 (.int 0))) := by
  show (bif decide (-(2 ^ 62) ≤ (401 : Int)) && decide ((401 : Int) < 2 ^ 62) && decide ([PyData.int 0].length * (401 : Int).toNat ≤ 16777216) then some (Sl.own (List.replicate (401 : Int).toNat [PyData.int 0]).flatten) else none) = _
  rfl
theorem bad401 : okL (.list (List.replicate 401 (.int 0))) = false := by
  show (decide ((List.replicate 401 (PyData.int 0)).length ≤ 400) && (List.replicate 401 (PyData.int 0)).all okR) = false
  rw [List.length_replicate]
  rfl
theorem odd_bad {d : D} (h : d ∈ [.bool true, .none, .str "1", .list [.int 1], .tuple [.int 1], .int 1000000000000000000000000000000000000000000000000000000000001, .int (-1000000000000000000000000000000000000000000000000000000000001), .bool false]) : okR d = false := by
  simp only [List.mem_cons, List.not_mem_nil, or_false] at h
  rcases h with rfl | rfl | rfl | rfl | rfl | rfl | rfl | rfl <;> first | rfl | decide
theorem part_bad {d : D} {ds : List D} (h : d ∈ [.none, .tuple ds, .int 1, .str "", .tuple []]) : okL d = false := by
  simp only [List.mem_cons, List.not_mem_nil, or_false] at h
  rcases h with rfl | rfl | rfl | rfl | rfl <;> rfl
theorem ord_odd {d : D} (h : d ∈ [.int 0, .int (-1), .int 1000001, .bool true, .none, .str "6", .list [.int 6]]) : okO d = false := by
  simp only [List.mem_cons, List.not_mem_nil, or_false] at h
  rcases h with rfl | rfl | rfl | rfl | rfl | rfl | rfl <;> first | rfl | decide
end K61

set_option Elab.async false
set_option linter.all false
set_option maxRecDepth 100000
set_option maxHeartbeats 8000000
namespace K61
open PySem PySem.Spec PyProof.Rows L2 DW
def longL (j : Int) : List Int := (List.range 397).map fun (k : Nat) => ((k : Int) * k + j) % 97 - 40
theorem fm_range (n : Nat) (g : D → Option D) (h : Int → D) (e : ∀ k : Nat, g (.int (0 + (k : Int))) = some (h k)) : (rangeD 0 n).filterMap g = (List.range n).map fun (k : Nat) => h k := by
  unfold rangeD
  rw [fm_map (fun (i : Nat) => PyData.int (0 + (i : Int))) (fun (k : Nat) => h k) g e]
  rfl
theorem ref_long {st : List D} {v1 v2 : D} {j : Int} {s4 s5 s6 s7 s8 : Sl} (o : s8.isOwn = false) :
    eLc (iRg (aCons (eC (.int 397)) aNil)) (gN 8) tYes' (eOp dSub (eOp dMod (eB (DW.b1 nInt) (aCons (eOp dAdd (eOp dMul (eVar 8) (eVar 8)) (eVar 3)) aNil)) (eC (.int 97))) (eC (.int 40))) [8]
      [.prm st, .val v1, .val v2, .val (.int j), s4, s5, s6, s7, s8] = .ok (.own ((longL j).map PyData.int)) [.prm st, .val v1, .val v2, .val (.int j), s4, s5, s6, s7, s8] := by
  have s397 : small62 397 = true := by decide
  have ed := eLc_pure (src := iRg (aCons (eC (.int 397)) aNil)) (tgt := gN 8) (cond := tYes') (elt := eOp dSub (eOp dMod (eB (DW.b1 nInt) (aCons (eOp dAdd (eOp dMul (eVar 8) (eVar 8)) (eVar 3)) aNil)) (eC (.int 97))) (eC (.int 40))) (vs := [8])
    (δ := [.prm st, .val v1, .val v2, .val (.int j), s4, s5, s6, s7, s8]) (ds := rangeD 0 397)
    (fun d => match d with
      | .int x => some (.int ((x * x + j) % 97 - 40))
      | _ => none)
    (by simp -implicitDefEqProofs [r_bind, r_b1, r_b2, r_b3, r_ret, r_frz1, r_frz2, r_frz3, r_frz4, r_rd1, r_rd2, r_rs1, r_rs2, r_rs3, r_var, r_v1, r_v2, r_v3, r_v4, r_c, r_opnd, r_o1, r_o2, r_rdM, r_opt1, r_lift1, r_eOp, r_eUn, r_boolM, r_tB, r_optB, r_tru, r_and, r_or, r_not, r_bE, r_eAnd, r_eOr, r_eNot, r_eIf, r_condT, r_condF, r_aNil, r_aCons, r_rdsM, r_rdsN, r_rdsC, r_eB, r_nb1, r_nb2, r_vN, r_vC, r_tup, r_lst, r_fits, r_fits0, r_fits1, r_fits2, r_fits3, r_fits4, r_callN, r_callD, r_callM, r_call1, r_argB, r_argB1, r_argB2, r_argV, r_argN, r_back0, r_back0x, r_back1, r_back1x, r_setC, r_set1, r_set2, r_seq, r_s1, r_s2, r_s3, r_s4, r_s5, r_sNil, r_sRet, r_sRetN, r_sExpr, r_sIf, r_sBrk, r_sCont, r_asg, r_asgV, r_a1, r_a2, r_a3, r_a4, r_sFrz, r_fz1, r_fz2, r_fz3, r_raise, r_curL, r_cs1, r_cs2, r_st1, r_storeR, r_stoR, r_stoS, r_mut, r_mutR, r_mutL, r_mutS, r_pApp, r_sFor, r_forN, r_loop, r_forC, r_forR, r_l1, r_l2, r_l3, r_l4, r_l5, r_iRg, r_rg, r_iRg2, r_rg2, r_iSq, r_sq1, r_sq2, r_gN, r_fn, r_f1, r_f2, r_f3, r_f4, r_fin1, r_fin2, r_fin3, r_fin4, r_fb1, r_fb2, r_fin5, r_fin6, r_fin7, r_fc1, r_dAdd, r_dAddL, r_dSub, r_dMul, r_dMod, r_dDiv, r_dPow, r_dNeg, r_dLt, r_dLe, r_dGt, r_dGe, r_nInt, r_nIntB, r_nAbs, r_nLenL, r_nLenT, r_nLenD, r_nMax2, r_nMin2, r_ixL, r_ixT, r_nListL, r_nListT, r_nTupL, r_nDict, r_tru1, r_tru2, r_tru3, r_tru4, r_tru5, r_pExt, r_pIns, r_eqII, r_eqBB, r_neII, r_isN1, r_isN2, r_isN3, r_isN4, r_isN5, r_isN6, r_isi, r_chain, r_ch1, r_ch2, r_rdDict, r_undictD, r_key, r_get2, r_or1, r_or2, r_dix, r_dnew, r_curD, r_ce, r_valOf, r_dput, r_put, r_dictAt, r_dicS, r_eLock, r_sLock, r_lok, r_iDk, r_iDi, r_mapR, r_gT, r_tupT, r_gsN, r_gsC, r_gsR, r_aug, r_aug1, r_addI, r_while, r_sPar, r_oN, r_oS, r_part, r_eSl, r_slTo, r_slFrom, atI, ixN, env0, s397]) (by simp [DW.freeOf, o]) rfl
    (fun d hd => by
      obtain ⟨i, hi⟩ := List.getElem?_of_mem hd
      obtain ⟨rfl, hi2⟩ := rangeD_at hi
      have hi3 : i < 397 := hi2
      generalize hx : (0 : Int) + (i : Int) = x
      refine ⟨[.prm st, .val v1, .val v2, .val (.int j), s4, s5, s6, s7, .val (.int x)], rfl, .inr ⟨_, [.prm st, .val v1, .val v2, .val (.int j), s4, s5, s6, s7, .val (.int x)], .int ((x * x + j) % 97 - 40), rfl, ?_, rfl, rfl⟩⟩
      have mc : mulC x x = true := mulC_lt (a := 20) (b := 20) (by omega) (by omega) (by decide)
      simp -implicitDefEqProofs [r_bind, r_b1, r_b2, r_b3, r_ret, r_frz1, r_frz2, r_frz3, r_frz4, r_rd1, r_rd2, r_rs1, r_rs2, r_rs3, r_var, r_v1, r_v2, r_v3, r_v4, r_c, r_opnd, r_o1, r_o2, r_rdM, r_opt1, r_lift1, r_eOp, r_eUn, r_boolM, r_tB, r_optB, r_tru, r_and, r_or, r_not, r_bE, r_eAnd, r_eOr, r_eNot, r_eIf, r_condT, r_condF, r_aNil, r_aCons, r_rdsM, r_rdsN, r_rdsC, r_eB, r_nb1, r_nb2, r_vN, r_vC, r_tup, r_lst, r_fits, r_fits0, r_fits1, r_fits2, r_fits3, r_fits4, r_callN, r_callD, r_callM, r_call1, r_argB, r_argB1, r_argB2, r_argV, r_argN, r_back0, r_back0x, r_back1, r_back1x, r_setC, r_set1, r_set2, r_seq, r_s1, r_s2, r_s3, r_s4, r_s5, r_sNil, r_sRet, r_sRetN, r_sExpr, r_sIf, r_sBrk, r_sCont, r_asg, r_asgV, r_a1, r_a2, r_a3, r_a4, r_sFrz, r_fz1, r_fz2, r_fz3, r_raise, r_curL, r_cs1, r_cs2, r_st1, r_storeR, r_stoR, r_stoS, r_mut, r_mutR, r_mutL, r_mutS, r_pApp, r_sFor, r_forN, r_loop, r_forC, r_forR, r_l1, r_l2, r_l3, r_l4, r_l5, r_iRg, r_rg, r_iRg2, r_rg2, r_iSq, r_sq1, r_sq2, r_gN, r_fn, r_f1, r_f2, r_f3, r_f4, r_fin1, r_fin2, r_fin3, r_fin4, r_fb1, r_fb2, r_fin5, r_fin6, r_fin7, r_fc1, r_dAdd, r_dAddL, r_dSub, r_dMul, r_dMod, r_dDiv, r_dPow, r_dNeg, r_dLt, r_dLe, r_dGt, r_dGe, r_nInt, r_nIntB, r_nAbs, r_nLenL, r_nLenT, r_nLenD, r_nMax2, r_nMin2, r_ixL, r_ixT, r_nListL, r_nListT, r_nTupL, r_nDict, r_tru1, r_tru2, r_tru3, r_tru4, r_tru5, r_pExt, r_pIns, r_eqII, r_eqBB, r_neII, r_isN1, r_isN2, r_isN3, r_isN4, r_isN5, r_isN6, r_isi, r_chain, r_ch1, r_ch2, r_rdDict, r_undictD, r_key, r_get2, r_or1, r_or2, r_dix, r_dnew, r_curD, r_ce, r_valOf, r_dput, r_put, r_dictAt, r_dicS, r_eLock, r_sLock, r_lok, r_iDk, r_iDi, r_mapR, r_gT, r_tupT, r_gsN, r_gsC, r_gsR, r_aug, r_aug1, r_addI, r_while, r_sPar, r_oN, r_oS, r_part, r_eSl, r_slTo, r_slFrom, atI, ixN, env0, mc])
    (by rw [rangeD_len]; decide)
  have e := fm_range 397 (fun d => match d with
      | .int x => some (.int ((x * x + j) % 97 - 40))
      | _ => none) (fun x => .int ((x * x + j) % 97 - 40)) (fun k => by rw [Int.zero_add])
  rw [show ((397 : Nat) : Int) = 397 from rfl] at e
  rw [e] at ed
  unfold longL
  rw [List.map_map]
  exact ed
end K61

set_option Elab.async false
set_option linter.all false
set_option maxRecDepth 100000
set_option maxHeartbeats 8000000
namespace K61
open PySem PySem.Spec PyProof.Rows L2 DW
theorem ref_loop {st : List D} {xs : List Int} {m : Nat} {s3 s4 s7 s8 : Sl} {v5 : D} : ∀ (ds : List D) (s6 : Sl), (∀ d ∈ ds, okL d = false) →
    ∃ s6', forL (gN 6) B_l_refused_1 ds [.prm st, .val (iL xs), .val (.int m), s3, s4, .val v5, s6, s7, s8] = .ok .nx [.prm st, .val (iL xs), .val (.int m), s3, s4, .val v5, s6', s7, s8]
  | [], s6, _ => ⟨s6, rfl⟩
  | d :: ds, s6, h => by
    have hd := h d List.mem_cons_self
    obtain ⟨s6', e⟩ := ref_loop (st := st) (xs := xs) (m := m) (s3 := s3) (s4 := s4) (s7 := s7) (s8 := s8) (v5 := v5) ds (.val d) fun x hx => h x (List.mem_cons_of_mem _ hx)
    refine ⟨s6', ?_⟩
    rw [r_forC, r_gN, r_forR, ← e]
    have r0 := refuses_eq (b := 0) (canc_bad1 (o := .int m) hd) (left_bad1 hd)
    have r1 := refuses_eq (b := 1) (canc_bad1 (o := .int m) hd) (left_bad1 hd)
    generalize iL xs = w
    simp -implicitDefEqProofs [B_l_refused_1, r_bind, r_b1, r_b2, r_b3, r_ret, r_frz1, r_frz2, r_frz3, r_frz4, r_rd1, r_rd2, r_rs1, r_rs2, r_rs3, r_var, r_v1, r_v2, r_v3, r_v4, r_c, r_opnd, r_o1, r_o2, r_rdM, r_opt1, r_lift1, r_eOp, r_eUn, r_boolM, r_tB, r_optB, r_tru, r_and, r_or, r_not, r_bE, r_eAnd, r_eOr, r_eNot, r_eIf, r_condT, r_condF, r_aNil, r_aCons, r_rdsM, r_rdsN, r_rdsC, r_eB, r_nb1, r_nb2, r_vN, r_vC, r_tup, r_lst, r_fits, r_fits0, r_fits1, r_fits2, r_fits3, r_fits4, r_callN, r_callD, r_callM, r_call1, r_argB, r_argB1, r_argB2, r_argV, r_argN, r_back0, r_back0x, r_back1, r_back1x, r_setC, r_set1, r_set2, r_seq, r_s1, r_s2, r_s3, r_s4, r_s5, r_sNil, r_sRet, r_sRetN, r_sExpr, r_sIf, r_sBrk, r_sCont, r_asg, r_asgV, r_a1, r_a2, r_a3, r_a4, r_sFrz, r_fz1, r_fz2, r_fz3, r_raise, r_curL, r_cs1, r_cs2, r_st1, r_storeR, r_stoR, r_stoS, r_mut, r_mutR, r_mutL, r_mutS, r_pApp, r_sFor, r_forN, r_loop, r_forC, r_forR, r_l1, r_l2, r_l3, r_l4, r_l5, r_iRg, r_rg, r_iRg2, r_rg2, r_iSq, r_sq1, r_sq2, r_gN, r_fn, r_f1, r_f2, r_f3, r_f4, r_fin1, r_fin2, r_fin3, r_fin4, r_fb1, r_fb2, r_fin5, r_fin6, r_fin7, r_fc1, r_dAdd, r_dAddL, r_dSub, r_dMul, r_dMod, r_dDiv, r_dPow, r_dNeg, r_dLt, r_dLe, r_dGt, r_dGe, r_nInt, r_nIntB, r_nAbs, r_nLenL, r_nLenT, r_nLenD, r_nMax2, r_nMin2, r_ixL, r_ixT, r_nListL, r_nListT, r_nTupL, r_nDict, r_tru1, r_tru2, r_tru3, r_tru4, r_tru5, r_pExt, r_pIns, r_eqII, r_eqBB, r_neII, r_isN1, r_isN2, r_isN3, r_isN4, r_isN5, r_isN6, r_isi, r_chain, r_ch1, r_ch2, r_rdDict, r_undictD, r_key, r_get2, r_or1, r_or2, r_dix, r_dnew, r_curD, r_ce, r_valOf, r_dput, r_put, r_dictAt, r_dicS, r_eLock, r_sLock, r_lok, r_iDk, r_iDi, r_mapR, r_gT, r_tupT, r_gsN, r_gsC, r_gsR, r_aug, r_aug1, r_addI, r_while, r_sPar, r_oN, r_oS, r_part, r_eSl, r_slTo, r_slFrom, atI, ixN, env0, r0, r1]
end K61

set_option Elab.async false
set_option linter.all false
set_option maxRecDepth 100000
set_option maxHeartbeats 8000000
namespace K61
open PySem PySem.Spec PyProof.Rows L2 DW
theorem long_ok (j : Int) : okL (iL (longL j ++ [1000000000000000000000000000000000000000000000000000000000000, -1000000000000000000000000000000000000000000000000000000000000, 0])) = true := okL_of (by unfold longL; simp) fun x hx => by
  rcases List.mem_append.mp hx with z | z
  · obtain ⟨k, _, rfl⟩ := List.mem_map.mp z
    generalize (k : Int) * k + j = q
    unfold MOST
    omega
  · simp only [List.mem_cons, List.not_mem_nil, or_false] at z
    unfold MOST
    omega
theorem refused_eq {n m : Nat} {st : List D} (h : StoOk n st) (hn : n + 100 ≤ 1000000000) (hN : 1 ≤ m) (hN2 : m ≤ 1000000) {xs : List Int} (g : Gd xs) :
    ∃ st', F_l_refused (some st) [iL xs, .int m] = .ok (.val (.bool true)) (some st') ∧ StoOk (n + 100) st' := by
  have gl := g.len
  obtain ⟨j, s1, e1, h1, j0, j1⟩ := take_eq h (by omega) (many := (xs.length : Int) + 1) (by omega) (by omega)
  obtain ⟨d1, s2, e2, h2, hd1⟩ := pick_eq h1 (by omega) (ds := [.bool true, .none, .str "1", .list [.int 1], .tuple [.int 1], .int 1000000000000000000000000000000000000000000000000000000000001, .int (-1000000000000000000000000000000000000000000000000000000000001), .bool false]) (by decide) (by decide)
  have o1 := odd_bad hd1
  obtain ⟨d2, s3, e3, h3, hd2⟩ := pick_eq h2 (by omega) (ds := [.none, .tuple (xs.map PyData.int), .int 1, .str "", .tuple []]) (by simp) (by simp)
  have o2 := part_bad hd2
  have ob := okL_odd (xs := xs) o1 j.toNat
  have p60 : powC 10 60 = true := by decide
  have len3 : ((xs.map PyData.int).length : Int) = (xs.length : Int) := by rw [List.length_map]
  rw [← len3] at e1
  have sl1 := r_slTo (ds := xs.map PyData.int) j0
  have sl2 := r_slFrom (ds := xs.map PyData.int) j0
  have ad1 := r_dAddL (a := (xs.map PyData.int).take j.toNat) (b := [d1]) (by rw [List.length_take, List.length_map, List.length_singleton]; omega)
  have ad2 := r_dAddL (a := (xs.map PyData.int).take j.toNat ++ [d1]) (b := (xs.map PyData.int).drop j.toNat) (by rw [List.length_append, List.length_take, List.length_drop, List.length_map, List.length_singleton]; omega)
  generalize hB : PyData.list ((xs.map PyData.int).take j.toNat ++ [d1] ++ (xs.map PyData.int).drop j.toNat) = b1 at ob
  obtain ⟨s6', e4⟩ := ref_loop (st := s3) (xs := xs) (m := m) (s3 := .val (.int j)) (s4 := .val d1) (s7 := .un) (s8 := .un) (v5 := .list [b1, d2, .list (List.replicate 401 (.int 0))]) [b1, d2, .list (List.replicate 401 (.int 0))] .un (fun d hd => by
    simp only [List.mem_cons, List.not_mem_nil, or_false] at hd
    rcases hd with rfl | rfl | rfl
    · exact ob
    · exact o2
    · exact bad401)
  obtain ⟨d3, s5, e5, h5, hd3⟩ := pick_eq h3 (by omega) (ds := [.int 0, .int (-1), .int 1000001, .bool true, .none, .str "6", .list [.int 6]]) (by decide) (by decide)
  have o3 := ord_odd hd3
  have p6 : powC 10 6 = true := by decide
  have gok := g.ok
  have r0 := refuses_eq (b := 0) (canc_bad2 (ds := xs.map PyData.int) gok o3) (left_bad2 gok o3)
  have r1 := refuses_eq (b := 1) (canc_bad2 (ds := xs.map PyData.int) gok o3) (left_bad2 gok o3)
  obtain ⟨bb, s7, e6, h7⟩ := rare_eq h5 (by omega) (many := 4) (by decide) (by decide)
  refine ⟨s7, ?_, h7.mono (by omega)⟩
  cases bb with
  | false =>
    subst hB
    unfold iL at *
    clear ob len3 gl gok g
    generalize xs.map PyData.int = w at *
    rw [List.append_assoc, List.singleton_append] at e4
    have m4 := mul401
    generalize List.replicate 401 (PyData.int 0) = R at *
    simp -implicitDefEqProofs [F_l_refused, r_bind, r_b1, r_b2, r_b3, r_ret, r_frz1, r_frz2, r_frz3, r_frz4, r_rd1, r_rd2, r_rs1, r_rs2, r_rs3, r_var, r_v1, r_v2, r_v3, r_v4, r_c, r_opnd, r_o1, r_o2, r_rdM, r_opt1, r_lift1, r_eOp, r_eUn, r_boolM, r_tB, r_optB, r_tru, r_and, r_or, r_not, r_bE, r_eAnd, r_eOr, r_eNot, r_eIf, r_condT, r_condF, r_aNil, r_aCons, r_rdsM, r_rdsN, r_rdsC, r_eB, r_nb1, r_nb2, r_vN, r_vC, r_tup, r_lst, r_fits, r_fits0, r_fits1, r_fits2, r_fits3, r_fits4, r_callN, r_callD, r_callM, r_call1, r_argB, r_argB1, r_argB2, r_argV, r_argN, r_back0, r_back0x, r_back1, r_back1x, r_setC, r_set1, r_set2, r_seq, r_s1, r_s2, r_s3, r_s4, r_s5, r_sNil, r_sRet, r_sRetN, r_sExpr, r_sIf, r_sBrk, r_sCont, r_asg, r_asgV, r_a1, r_a2, r_a3, r_a4, r_sFrz, r_fz1, r_fz2, r_fz3, r_raise, r_curL, r_cs1, r_cs2, r_st1, r_storeR, r_stoR, r_stoS, r_mut, r_mutR, r_mutL, r_mutS, r_pApp, r_sFor, r_forN, r_loop, r_forR, r_l1, r_l2, r_l3, r_l4, r_l5, r_iRg, r_rg, r_iRg2, r_rg2, r_iSq, r_sq1, r_sq2, r_gN, r_fn, r_f1, r_f2, r_f3, r_f4, r_fin1, r_fin2, r_fin3, r_fin4, r_fb1, r_fb2, r_fin5, r_fin6, r_fin7, r_fc1, r_dAdd, r_dAddL, r_dSub, r_dMul, r_dMod, r_dDiv, r_dPow, r_dNeg, r_dLt, r_dLe, r_dGt, r_dGe, r_nInt, r_nIntB, r_nAbs, r_nLenL, r_nLenT, r_nLenD, r_nMax2, r_nMin2, r_ixL, r_ixT, r_nListL, r_nListT, r_nTupL, r_nDict, r_tru1, r_tru2, r_tru3, r_tru4, r_tru5, r_pExt, r_pIns, r_eqII, r_eqBB, r_neII, r_isN1, r_isN2, r_isN3, r_isN4, r_isN5, r_isN6, r_isi, r_chain, r_ch1, r_ch2, r_rdDict, r_undictD, r_key, r_get2, r_or1, r_or2, r_dix, r_dnew, r_curD, r_ce, r_valOf, r_dput, r_put, r_dictAt, r_dicS, r_eLock, r_sLock, r_lok, r_iDk, r_iDi, r_mapR, r_gT, r_tupT, r_gsN, r_gsC, r_gsR, r_aug, r_aug1, r_addI, r_while, r_sPar, r_oN, r_oS, r_part, r_eSl, r_slTo, r_slFrom, atI, ixN, env0, e1, e2, e3, sl1, sl2, ad1, ad2, m4, e4, e5, p60, p6, r0, r1, e6]
  | true =>
    obtain ⟨m', hm, hm1, hm2⟩ : ∃ m' : Nat, (if (60 : Int) < m then (60 : Int) else m) = (m' : Nat) ∧ 1 ≤ m' ∧ m' ≤ 1000000 := by
      by_cases c : (60 : Int) < m
      · exact ⟨60, by rw [if_pos c]; rfl, by decide, by decide⟩
      · exact ⟨m, by rw [if_neg c], hN, hN2⟩
    obtain ⟨l', ps', pr', hI', el⟩ := left_eq hm1 hm2 (longL j ++ [1000000000000000000000000000000000000000000000000000000000000, -1000000000000000000000000000000000000000000000000000000000000, 0])
    have td := told_eq hm2 (long_ok j) hI' (sol_of hm1 hm2 (long_ok j) pr' hI' fun k _ _ => rfl)
    have lc := ref_long (st := s7) (v1 := iL xs) (v2 := .int m) (j := j) (s4 := .val d3) (s5 := .val (.list [b1, d2, .list (List.replicate 401 (.int 0))])) (s6 := s6') (s7 := .un) (s8 := .un) rfl
    have ad3 := r_dAddL (a := (longL j).map PyData.int) (b := [.int 1000000000000000000000000000000000000000000000000000000000000, .int (-1000000000000000000000000000000000000000000000000000000000000), .int 0]) (by unfold longL; simp)
    subst hB
    unfold iL at *
    rw [List.map_append] at el td
    have el : F_l_left none [.list ((longL j).map PyData.int ++ [.int 1000000000000000000000000000000000000000000000000000000000000, .int (-1000000000000000000000000000000000000000000000000000000000000), .int 0]), .int m'] = _ := el
    have td : F_l_told none [.list ((longL j).map PyData.int ++ [.int 1000000000000000000000000000000000000000000000000000000000000, .int (-1000000000000000000000000000000000000000000000000000000000000), .int 0]), .int m', pL l'] = _ := td
    clear ob len3 gl gok g
    generalize (longL j).map PyData.int = wl at *
    generalize xs.map PyData.int = w at *
    rw [List.append_assoc, List.singleton_append] at e4 lc
    have m4 := mul401
    generalize List.replicate 401 (PyData.int 0) = R at *
    generalize pL l' = pl at *
    simp -implicitDefEqProofs [F_l_refused, r_bind, r_b1, r_b2, r_b3, r_ret, r_frz1, r_frz2, r_frz3, r_frz4, r_rd1, r_rd2, r_rs1, r_rs2, r_rs3, r_var, r_v1, r_v2, r_v3, r_v4, r_c, r_opnd, r_o1, r_o2, r_rdM, r_opt1, r_lift1, r_eOp, r_eUn, r_boolM, r_tB, r_optB, r_tru, r_and, r_or, r_not, r_bE, r_eAnd, r_eOr, r_eNot, r_eIf, r_condT, r_condF, r_aNil, r_aCons, r_rdsM, r_rdsN, r_rdsC, r_eB, r_nb1, r_nb2, r_vN, r_vC, r_tup, r_lst, r_fits, r_fits0, r_fits1, r_fits2, r_fits3, r_fits4, r_callN, r_callD, r_callM, r_call1, r_argB, r_argB1, r_argB2, r_argV, r_argN, r_back0, r_back0x, r_back1, r_back1x, r_setC, r_set1, r_set2, r_seq, r_s1, r_s2, r_s3, r_s4, r_s5, r_sNil, r_sRet, r_sRetN, r_sExpr, r_sIf, r_sBrk, r_sCont, r_asg, r_asgV, r_a1, r_a2, r_a3, r_a4, r_sFrz, r_fz1, r_fz2, r_fz3, r_raise, r_curL, r_cs1, r_cs2, r_st1, r_storeR, r_stoR, r_stoS, r_mut, r_mutR, r_mutL, r_mutS, r_pApp, r_sFor, r_forN, r_loop, r_forR, r_l1, r_l2, r_l3, r_l4, r_l5, r_iRg, r_rg, r_iRg2, r_rg2, r_iSq, r_sq1, r_sq2, r_gN, r_fn, r_f1, r_f2, r_f3, r_f4, r_fin1, r_fin2, r_fin3, r_fin4, r_fb1, r_fb2, r_fin5, r_fin6, r_fin7, r_fc1, r_dAdd, r_dAddL, r_dSub, r_dMul, r_dMod, r_dDiv, r_dPow, r_dNeg, r_dLt, r_dLe, r_dGt, r_dGe, r_nInt, r_nIntB, r_nAbs, r_nLenL, r_nLenT, r_nLenD, r_nMax2, r_nMin2, r_ixL, r_ixT, r_nListL, r_nListT, r_nTupL, r_nDict, r_tru1, r_tru2, r_tru3, r_tru4, r_tru5, r_pExt, r_pIns, r_eqII, r_eqBB, r_neII, r_isN1, r_isN2, r_isN3, r_isN4, r_isN5, r_isN6, r_isi, r_chain, r_ch1, r_ch2, r_rdDict, r_undictD, r_key, r_get2, r_or1, r_or2, r_dix, r_dnew, r_curD, r_ce, r_valOf, r_dput, r_put, r_dictAt, r_dicS, r_eLock, r_sLock, r_lok, r_iDk, r_iDi, r_mapR, r_gT, r_tupT, r_gsN, r_gsC, r_gsR, r_aug, r_aug1, r_addI, r_while, r_sPar, r_oN, r_oS, r_part, r_eSl, r_slTo, r_slFrom, atI, ixN, env0, e1, e2, e3, sl1, sl2, ad1, ad2, m4, e4, e5, p60, p6, r0, r1, e6, lc, ad3, hm, el, td]
end K61

set_option Elab.async false
set_option linter.all false
set_option maxRecDepth 100000
set_option maxHeartbeats 8000000
namespace K61
open PySem PySem.Spec PyProof.Rows L2 DW
theorem start_eq (cs : List Int) : F_l_start none [iL cs] = .ok (.own (sto (cs.map PyData.int) 0 0 0 7 0)) none := by
  unfold iL
  generalize cs.map PyData.int = w
  simp -implicitDefEqProofs [F_l_start, r_bind, r_b1, r_b2, r_b3, r_ret, r_frz1, r_frz2, r_frz3, r_frz4, r_rd1, r_rd2, r_rs1, r_rs2, r_rs3, r_var, r_v1, r_v2, r_v3, r_v4, r_c, r_opnd, r_o1, r_o2, r_rdM, r_opt1, r_lift1, r_eOp, r_eUn, r_boolM, r_tB, r_optB, r_tru, r_and, r_or, r_not, r_bE, r_eAnd, r_eOr, r_eNot, r_eIf, r_condT, r_condF, r_aNil, r_aCons, r_rdsM, r_rdsN, r_rdsC, r_eB, r_nb1, r_nb2, r_vN, r_vC, r_tup, r_lst, r_fits, r_fits0, r_fits1, r_fits2, r_fits3, r_fits4, r_callN, r_callD, r_callM, r_call1, r_argB, r_argB1, r_argB2, r_argV, r_argN, r_back0, r_back0x, r_back1, r_back1x, r_setC, r_set1, r_set2, r_seq, r_s1, r_s2, r_s3, r_s4, r_s5, r_sNil, r_sRet, r_sRetN, r_sExpr, r_sIf, r_sBrk, r_sCont, r_asg, r_asgV, r_a1, r_a2, r_a3, r_a4, r_sFrz, r_fz1, r_fz2, r_fz3, r_raise, r_curL, r_cs1, r_cs2, r_st1, r_storeR, r_stoR, r_stoS, r_mut, r_mutR, r_mutL, r_mutS, r_pApp, r_sFor, r_forN, r_loop, r_forC, r_forR, r_l1, r_l2, r_l3, r_l4, r_l5, r_iRg, r_rg, r_iRg2, r_rg2, r_iSq, r_sq1, r_sq2, r_gN, r_fn, r_f1, r_f2, r_f3, r_f4, r_fin1, r_fin2, r_fin3, r_fin4, r_fb1, r_fb2, r_fin5, r_fin6, r_fin7, r_fc1, r_dAdd, r_dAddL, r_dSub, r_dMul, r_dMod, r_dDiv, r_dPow, r_dNeg, r_dLt, r_dLe, r_dGt, r_dGe, r_nInt, r_nIntB, r_nAbs, r_nLenL, r_nLenT, r_nLenD, r_nMax2, r_nMin2, r_ixL, r_ixT, r_nListL, r_nListT, r_nTupL, r_nDict, r_tru1, r_tru2, r_tru3, r_tru4, r_tru5, r_pExt, r_pIns, r_eqII, r_eqBB, r_neII, r_isN1, r_isN2, r_isN3, r_isN4, r_isN5, r_isN6, r_isi, r_chain, r_ch1, r_ch2, r_rdDict, r_undictD, r_key, r_get2, r_or1, r_or2, r_dix, r_dnew, r_curD, r_ce, r_valOf, r_dput, r_put, r_dictAt, r_dicS, r_eLock, r_sLock, r_lok, r_iDk, r_iDi, r_mapR, r_gT, r_tupT, r_gsN, r_gsC, r_gsR, r_aug, r_aug1, r_addI, r_while, r_sPar, r_oN, r_oS, r_part, r_eSl, r_slTo, r_slFrom, atI, ixN, env0, sto]
theorem start_ok (cs : List Int) (h : cs.length ≤ 63) : StoOk 0 (sto (cs.map PyData.int) 0 0 0 7 0) :=
  ⟨_, _, _, _, _, _, rfl, ⟨fun d hd => by obtain ⟨x, _, rfl⟩ := List.mem_map.mp hd; exact ⟨x, rfl⟩, by rw [List.length_map]; exact h, by decide, by omega, by decide, by decide, by decide, by decide, by decide, by decide⟩⟩
theorem law_eq {cs : List Int} (h : cs.length ≤ 63) : isT (B_law (envL 8 cs [0, 0, 0, 7, 0])) = true := by
  have e0 : envL 8 cs [0, 0, 0, 7, 0] = [.un, .own (sto (cs.map PyData.int) 0 0 0 7 0), .un, .un, .un, .un, .un, .un] := rfl
  rw [e0]
  obtain ⟨mi, s1, e1, h1, m0, m1⟩ := order_of_eq (start_ok cs h) (by omega)
  obtain ⟨m, rfl⟩ : ∃ m : Nat, mi = (m : Nat) := ⟨mi.toNat, by omega⟩
  have hN : 1 ≤ m := by omega
  have hN2 : m ≤ 1000000 := by omega
  obtain ⟨xs, s2, e2, h2, g1⟩ := list_eq h1 (by omega) hN hN2
  obtain ⟨ys, s3, e3, h3, g2⟩ := list_eq h2 (by omega) hN hN2
  obtain ⟨l1, ps, pr, i1, e4⟩ := left_eq hN hN2 xs
  obtain ⟨l2, ps2, pr2, i2, e5⟩ := left_eq hN hN2 ys
  have ep := pr2.uniq pr
  subst ep
  obtain ⟨l3, i3, e6⟩ := joined_eq hN hN2 i1 i2
  have j3 := joined_sol hN hN2 g1 g2 pr i3
  have x1 := sol_of hN hN2 g1.ok pr i1 fun k _ _ => rfl
  have x2 := sol_of hN hN2 g2.ok pr i2 fun k _ _ => rfl
  have gl1 := g1.len
  have gl2 := g2.len
  have jok : okL (iL (xs ++ ys)) = true := okL_of (by rw [List.length_append]; omega) fun x hx => by
    have : -RC ≤ x ∧ x ≤ RC := (List.mem_append.mp hx).elim (g1.rg x) (g2.rg x)
    unfold RC at this
    unfold MOST
    omega
  have t3 := told_eq hN2 jok i3 j3
  have t1 := told_eq hN2 g1.ok i1 x1
  have t2 := told_eq hN2 g2.ok i2 x2
  have adx := r_dAddL (a := xs.map PyData.int) (b := ys.map PyData.int) (by rw [List.length_map, List.length_map]; omega)
  by_cases big : (20000 : Int) < m
  · unfold iL at *
    unfold pL at *
    rw [List.map_append] at t3
    generalize xs.map PyData.int = w1 at *
    generalize ys.map PyData.int = w2 at *
    generalize cs.map PyData.int = w0 at *
    generalize l1.map DW.pairD = u1 at *
    generalize l2.map DW.pairD = u2 at *
    generalize l3.map DW.pairD = u3 at *
    simp -implicitDefEqProofs [B_law, r_bind, r_b1, r_b2, r_b3, r_ret, r_frz1, r_frz2, r_frz3, r_frz4, r_rd1, r_rd2, r_rs1, r_rs2, r_rs3, r_var, r_v1, r_v2, r_v3, r_v4, r_c, r_opnd, r_o1, r_o2, r_rdM, r_opt1, r_lift1, r_eOp, r_eUn, r_boolM, r_tB, r_optB, r_tru, r_and, r_or, r_not, r_bE, r_eAnd, r_eOr, r_eNot, r_eIf, r_condT, r_condF, r_aNil, r_aCons, r_rdsM, r_rdsN, r_rdsC, r_eB, r_nb1, r_nb2, r_vN, r_vC, r_tup, r_lst, r_fits, r_fits0, r_fits1, r_fits2, r_fits3, r_fits4, r_callN, r_callD, r_callM, r_call1, r_argB, r_argB1, r_argB2, r_argV, r_argN, r_back0, r_back0x, r_back1, r_back1x, r_setC, r_set1, r_set2, r_seq, r_s1, r_s2, r_s3, r_s4, r_s5, r_sNil, r_sRet, r_sRetN, r_sExpr, r_sIf, r_sBrk, r_sCont, r_asg, r_asgV, r_a1, r_a2, r_a3, r_a4, r_sFrz, r_fz1, r_fz2, r_fz3, r_raise, r_curL, r_cs1, r_cs2, r_st1, r_storeR, r_stoR, r_stoS, r_mut, r_mutR, r_mutL, r_mutS, r_pApp, r_sFor, r_forN, r_loop, r_forC, r_forR, r_l1, r_l2, r_l3, r_l4, r_l5, r_iRg, r_rg, r_iRg2, r_rg2, r_iSq, r_sq1, r_sq2, r_gN, r_fn, r_f1, r_f2, r_f3, r_f4, r_fin1, r_fin2, r_fin3, r_fin4, r_fb1, r_fb2, r_fin5, r_fin6, r_fin7, r_fc1, r_dAdd, r_dAddL, r_dSub, r_dMul, r_dMod, r_dDiv, r_dPow, r_dNeg, r_dLt, r_dLe, r_dGt, r_dGe, r_nInt, r_nIntB, r_nAbs, r_nLenL, r_nLenT, r_nLenD, r_nMax2, r_nMin2, r_ixL, r_ixT, r_nListL, r_nListT, r_nTupL, r_nDict, r_tru1, r_tru2, r_tru3, r_tru4, r_tru5, r_pExt, r_pIns, r_eqII, r_eqBB, r_neII, r_isN1, r_isN2, r_isN3, r_isN4, r_isN5, r_isN6, r_isi, r_chain, r_ch1, r_ch2, r_rdDict, r_undictD, r_key, r_get2, r_or1, r_or2, r_dix, r_dnew, r_curD, r_ce, r_valOf, r_dput, r_put, r_dictAt, r_dicS, r_eLock, r_sLock, r_lok, r_iDk, r_iDi, r_mapR, r_gT, r_tupT, r_gsN, r_gsC, r_gsR, r_aug, r_aug1, r_addI, r_while, r_sPar, r_oN, r_oS, r_part, r_eSl, r_slTo, r_slFrom, atI, ixN, env0, r_isT, e1, e2, e3, e4, e5, e6, big, adx, t3]
  · obtain ⟨r, s4, e7, h4, r0, r1⟩ := reading_eq h3 (by omega) (N := (m : Int)) (by omega) (by omega)
    have rc := RC_of r0 r1
    have e8 := one_canc hN hN2 rc.1 rc.2
    have lkf := like6 (pl_bool false)
    obtain ⟨s5, e9, h5⟩ := changes_eq h4 (by omega) hN hN2 g1 pr i1
    obtain ⟨s6, e10, h6⟩ := changes_eq h5 (by omega) hN hN2 g2 pr i2
    obtain ⟨s7, e11, h7⟩ := refused_eq h6 (by omega) hN hN2 g1
    have lo := x1.left
    have i0 : Is m [] (TT m ps2 (cnt m [])) := ⟨.nil, fun p => ⟨fun z => by simp at z, fun ⟨_, _, a, b⟩ => absurd (a.trans (TT_zero (fun k => rfl) _)) b⟩⟩
    have t0 := told_eq (xs := []) hN2 (okL_of (by simp) fun x hx => by simp at hx) i0 (sol_of hN hN2 (okL_of (by simp) fun x hx => by simp at hx) pr i0 fun k _ _ => rfl)
    have hz : (l1.map DW.pairD).length < 16777216 := by rw [List.length_map]; have := i1.len hN2; omega
    have ady := r_dAddL (a := ys.map PyData.int) (b := xs.map PyData.int) (by rw [List.length_map, List.length_map]; omega)
    have em1 : (l1.map DW.pairD).isEmpty = l1.isEmpty := by cases l1 <;> rfl
    have em2 : (l2.map DW.pairD).isEmpty = l2.isEmpty := by cases l2 <;> rfl
    have cy : l1.isEmpty = true → F_cancels none [iL (ys ++ xs), .int m] = .ok (.val (.bool l2.isEmpty)) none := fun z => by
      have z1 := i1.nil_iff.mp (List.isEmpty_iff.mp z)
      refine (sol_of hN hN2 (okL_of (by rw [List.length_append]; omega) fun x hx => ?_) pr i2 fun k k0 k1 => ?_).canc
      · have : -RC ≤ x ∧ x ≤ RC := (List.mem_append.mp hx).elim (g2.rg x) (g1.rg x)
        unfold RC at this
        unfold MOST
        omega
      · rw [TT_congr (fun j => cnt_app m ys xs j) k, TT_add, z1 k k0 k1, Int.add_zero]
    unfold iL at *
    unfold pL at *
    rw [List.map_append] at t3 cy
    have e8 : F_cancels none [.list [.int r], .int m] = _ := e8
    have t0 : F_l_told none [.list [], .int m, .list []] = _ := t0
    generalize xs.map PyData.int = w1 at *
    generalize ys.map PyData.int = w2 at *
    generalize cs.map PyData.int = w0 at *
    generalize l1.map DW.pairD = u1 at *
    generalize l2.map DW.pairD = u2 at *
    generalize l3.map DW.pairD = u3 at *
    cases c1 : l1.isEmpty with
    | false =>
      rw [c1] at em1
      simp -implicitDefEqProofs [B_law, r_bind, r_b1, r_b2, r_b3, r_ret, r_frz1, r_frz2, r_frz3, r_frz4, r_rd1, r_rd2, r_rs1, r_rs2, r_rs3, r_var, r_v1, r_v2, r_v3, r_v4, r_c, r_opnd, r_o1, r_o2, r_rdM, r_opt1, r_lift1, r_eOp, r_eUn, r_boolM, r_tB, r_optB, r_tru, r_and, r_or, r_not, r_bE, r_eAnd, r_eOr, r_eNot, r_eIf, r_condT, r_condF, r_aNil, r_aCons, r_rdsM, r_rdsN, r_rdsC, r_eB, r_nb1, r_nb2, r_vN, r_vC, r_tup, r_lst, r_fits, r_fits0, r_fits1, r_fits2, r_fits3, r_fits4, r_callN, r_callD, r_callM, r_call1, r_argB, r_argB1, r_argB2, r_argV, r_argN, r_back0, r_back0x, r_back1, r_back1x, r_setC, r_set1, r_set2, r_seq, r_s1, r_s2, r_s3, r_s4, r_s5, r_sNil, r_sRet, r_sRetN, r_sExpr, r_sIf, r_sBrk, r_sCont, r_asg, r_asgV, r_a1, r_a2, r_a3, r_a4, r_sFrz, r_fz1, r_fz2, r_fz3, r_raise, r_curL, r_cs1, r_cs2, r_st1, r_storeR, r_stoR, r_stoS, r_mut, r_mutR, r_mutL, r_mutS, r_pApp, r_sFor, r_forN, r_loop, r_forC, r_forR, r_l1, r_l2, r_l3, r_l4, r_l5, r_iRg, r_rg, r_iRg2, r_rg2, r_iSq, r_sq1, r_sq2, r_gN, r_fn, r_f1, r_f2, r_f3, r_f4, r_fin1, r_fin2, r_fin3, r_fin4, r_fb1, r_fb2, r_fin5, r_fin6, r_fin7, r_fc1, r_dAdd, r_dAddL, r_dSub, r_dMul, r_dMod, r_dDiv, r_dPow, r_dNeg, r_dLt, r_dLe, r_dGt, r_dGe, r_nInt, r_nIntB, r_nAbs, r_nLenL, r_nLenT, r_nLenD, r_nMax2, r_nMin2, r_ixL, r_ixT, r_nListL, r_nListT, r_nTupL, r_nDict, r_tru1, r_tru2, r_tru3, r_tru4, r_tru5, r_pExt, r_pIns, r_eqII, r_eqBB, r_neII, r_isN1, r_isN2, r_isN3, r_isN4, r_isN5, r_isN6, r_isi, r_chain, r_ch1, r_ch2, r_rdDict, r_undictD, r_key, r_get2, r_or1, r_or2, r_dix, r_dnew, r_curD, r_ce, r_valOf, r_dput, r_put, r_dictAt, r_dicS, r_eLock, r_sLock, r_lok, r_iDk, r_iDi, r_mapR, r_gT, r_tupT, r_gsN, r_gsC, r_gsR, r_aug, r_aug1, r_addI, r_while, r_sPar, r_oN, r_oS, r_part, r_eSl, r_slTo, r_slFrom, atI, ixN, env0, r_isT, e1, e2, e3, e4, e5, e6, big, adx, t3, t1, t2, em1, t0, e7, e8, lkf, e9, e10, lo, hz, e11]
    | true =>
      have cy := cy c1
      rw [c1] at em1
      cases c2 : l2.isEmpty with
      | true =>
        rw [c2] at em2
        simp -implicitDefEqProofs [B_law, r_bind, r_b1, r_b2, r_b3, r_ret, r_frz1, r_frz2, r_frz3, r_frz4, r_rd1, r_rd2, r_rs1, r_rs2, r_rs3, r_var, r_v1, r_v2, r_v3, r_v4, r_c, r_opnd, r_o1, r_o2, r_rdM, r_opt1, r_lift1, r_eOp, r_eUn, r_boolM, r_tB, r_optB, r_tru, r_and, r_or, r_not, r_bE, r_eAnd, r_eOr, r_eNot, r_eIf, r_condT, r_condF, r_aNil, r_aCons, r_rdsM, r_rdsN, r_rdsC, r_eB, r_nb1, r_nb2, r_vN, r_vC, r_tup, r_lst, r_fits, r_fits0, r_fits1, r_fits2, r_fits3, r_fits4, r_callN, r_callD, r_callM, r_call1, r_argB, r_argB1, r_argB2, r_argV, r_argN, r_back0, r_back0x, r_back1, r_back1x, r_setC, r_set1, r_set2, r_seq, r_s1, r_s2, r_s3, r_s4, r_s5, r_sNil, r_sRet, r_sRetN, r_sExpr, r_sIf, r_sBrk, r_sCont, r_asg, r_asgV, r_a1, r_a2, r_a3, r_a4, r_sFrz, r_fz1, r_fz2, r_fz3, r_raise, r_curL, r_cs1, r_cs2, r_st1, r_storeR, r_stoR, r_stoS, r_mut, r_mutR, r_mutL, r_mutS, r_pApp, r_sFor, r_forN, r_loop, r_forC, r_forR, r_l1, r_l2, r_l3, r_l4, r_l5, r_iRg, r_rg, r_iRg2, r_rg2, r_iSq, r_sq1, r_sq2, r_gN, r_fn, r_f1, r_f2, r_f3, r_f4, r_fin1, r_fin2, r_fin3, r_fin4, r_fb1, r_fb2, r_fin5, r_fin6, r_fin7, r_fc1, r_dAdd, r_dAddL, r_dSub, r_dMul, r_dMod, r_dDiv, r_dPow, r_dNeg, r_dLt, r_dLe, r_dGt, r_dGe, r_nInt, r_nIntB, r_nAbs, r_nLenL, r_nLenT, r_nLenD, r_nMax2, r_nMin2, r_ixL, r_ixT, r_nListL, r_nListT, r_nTupL, r_nDict, r_tru1, r_tru2, r_tru3, r_tru4, r_tru5, r_pExt, r_pIns, r_eqII, r_eqBB, r_neII, r_isN1, r_isN2, r_isN3, r_isN4, r_isN5, r_isN6, r_isi, r_chain, r_ch1, r_ch2, r_rdDict, r_undictD, r_key, r_get2, r_or1, r_or2, r_dix, r_dnew, r_curD, r_ce, r_valOf, r_dput, r_put, r_dictAt, r_dicS, r_eLock, r_sLock, r_lok, r_iDk, r_iDi, r_mapR, r_gT, r_tupT, r_gsN, r_gsC, r_gsR, r_aug, r_aug1, r_addI, r_while, r_sPar, r_oN, r_oS, r_part, r_eSl, r_slTo, r_slFrom, atI, ixN, env0, r_isT, e1, e2, e3, e4, e5, e6, big, adx, t3, t1, t2, em1, em2, t0, e7, e8, lkf, e9, e10, lo, hz, e11]
      | false =>
        rw [c2] at em2 cy
        simp -implicitDefEqProofs [B_law, r_bind, r_b1, r_b2, r_b3, r_ret, r_frz1, r_frz2, r_frz3, r_frz4, r_rd1, r_rd2, r_rs1, r_rs2, r_rs3, r_var, r_v1, r_v2, r_v3, r_v4, r_c, r_opnd, r_o1, r_o2, r_rdM, r_opt1, r_lift1, r_eOp, r_eUn, r_boolM, r_tB, r_optB, r_tru, r_and, r_or, r_not, r_bE, r_eAnd, r_eOr, r_eNot, r_eIf, r_condT, r_condF, r_aNil, r_aCons, r_rdsM, r_rdsN, r_rdsC, r_eB, r_nb1, r_nb2, r_vN, r_vC, r_tup, r_lst, r_fits, r_fits0, r_fits1, r_fits2, r_fits3, r_fits4, r_callN, r_callD, r_callM, r_call1, r_argB, r_argB1, r_argB2, r_argV, r_argN, r_back0, r_back0x, r_back1, r_back1x, r_setC, r_set1, r_set2, r_seq, r_s1, r_s2, r_s3, r_s4, r_s5, r_sNil, r_sRet, r_sRetN, r_sExpr, r_sIf, r_sBrk, r_sCont, r_asg, r_asgV, r_a1, r_a2, r_a3, r_a4, r_sFrz, r_fz1, r_fz2, r_fz3, r_raise, r_curL, r_cs1, r_cs2, r_st1, r_storeR, r_stoR, r_stoS, r_mut, r_mutR, r_mutL, r_mutS, r_pApp, r_sFor, r_forN, r_loop, r_forC, r_forR, r_l1, r_l2, r_l3, r_l4, r_l5, r_iRg, r_rg, r_iRg2, r_rg2, r_iSq, r_sq1, r_sq2, r_gN, r_fn, r_f1, r_f2, r_f3, r_f4, r_fin1, r_fin2, r_fin3, r_fin4, r_fb1, r_fb2, r_fin5, r_fin6, r_fin7, r_fc1, r_dAdd, r_dAddL, r_dSub, r_dMul, r_dMod, r_dDiv, r_dPow, r_dNeg, r_dLt, r_dLe, r_dGt, r_dGe, r_nInt, r_nIntB, r_nAbs, r_nLenL, r_nLenT, r_nLenD, r_nMax2, r_nMin2, r_ixL, r_ixT, r_nListL, r_nListT, r_nTupL, r_nDict, r_tru1, r_tru2, r_tru3, r_tru4, r_tru5, r_pExt, r_pIns, r_eqII, r_eqBB, r_neII, r_isN1, r_isN2, r_isN3, r_isN4, r_isN5, r_isN6, r_isi, r_chain, r_ch1, r_ch2, r_rdDict, r_undictD, r_key, r_get2, r_or1, r_or2, r_dix, r_dnew, r_curD, r_ce, r_valOf, r_dput, r_put, r_dictAt, r_dicS, r_eLock, r_sLock, r_lok, r_iDk, r_iDi, r_mapR, r_gT, r_tupT, r_gsN, r_gsC, r_gsR, r_aug, r_aug1, r_addI, r_while, r_sPar, r_oN, r_oS, r_part, r_eSl, r_slTo, r_slFrom, atI, ixN, env0, r_isT, e1, e2, e3, e4, e5, e6, big, adx, ady, cy, t3, t1, t2, em1, em2, t0, e7, e8, lkf, e9, e10, lo, hz, e11]
theorem law_holds (cs : List Int) (h : cs.length ≤ 63) : ∃ δ', B_law (envL 8 cs [0, 0, 0, 7, 0]) = .ok (.rt (.val (.bool true))) δ' := isT_ok (law_eq h)
end K61

set_option Elab.async false
set_option linter.all false
set_option maxRecDepth 100000
set_option maxHeartbeats 2000000
namespace K61
open PySem PySem.Spec PyProof.Rows L2 DW
/-! the head -/
def d_is_whole : He.DefD := ⟨("is_whole", none), "is_whole", "is_whole", defArgs s_is_whole, defBody s_is_whole, defScope s_is_whole, [], []⟩
def d_subtracted : He.DefD := ⟨("subtracted", none), "subtracted", "subtracted", defArgs s_subtracted, defBody s_subtracted, defScope s_subtracted, [], []⟩
def d_l_start : He.DefD := ⟨("_law_start", none), "_law_start", "_law_start", defArgs s_l_start, defBody s_l_start, defScope s_l_start, [], []⟩
def d_l_mixed : He.DefD := ⟨("_law_mixed", none), "_law_mixed", "_law_mixed", defArgs s_l_mixed, defBody s_l_mixed, defScope s_l_mixed, [], []⟩
def d_l_gcd : He.DefD := ⟨("_law_gcd", none), "_law_gcd", "_law_gcd", defArgs s_l_gcd, defBody s_l_gcd, defScope s_l_gcd, [], []⟩
def d_l_primes_of : He.DefD := ⟨("_law_primes_of", none), "_law_primes_of", "_law_primes_of", defArgs s_l_primes_of, defBody s_l_primes_of, defScope s_l_primes_of, [], []⟩
def d_l_joined_left : He.DefD := ⟨("_law_joined_left", none), "_law_joined_left", "_law_joined_left", defArgs s_l_joined_left, defBody s_l_joined_left, defScope s_l_joined_left, [], []⟩
def d_is_within : He.DefD := ⟨("is_within", none), "is_within", "is_within", defArgs s_is_within, defBody s_is_within, defScope s_is_within, [], []⟩
def d_l_wide : He.DefD := ⟨("_law_wide", none), "_law_wide", "_law_wide", defArgs s_l_wide, defBody s_l_wide, defScope s_l_wide, [], []⟩
def d_l_move : He.DefD := ⟨("_law_move", none), "_law_move", "_law_move", defArgs s_l_move, defBody s_l_move, defScope s_l_move, [], []⟩
def d_l_primes_once : He.DefD := ⟨("_law_primes_once", none), "_law_primes_once", "_law_primes_once", defArgs s_l_primes_once, defBody s_l_primes_once, defScope s_l_primes_once, [], []⟩
def d_check_bounds : He.DefD := ⟨("check_bounds", none), "check_bounds", "check_bounds", defArgs s_check_bounds, defBody s_check_bounds, defScope s_check_bounds, [], []⟩
def d_l_take : He.DefD := ⟨("_law_take", none), "_law_take", "_law_take", defArgs s_l_take, defBody s_l_take, defScope s_l_take, [], []⟩
def d_l_left : He.DefD := ⟨("_law_left", none), "_law_left", "_law_left", defArgs s_l_left, defBody s_l_left, defScope s_l_left, [], []⟩
def d_is_number : He.DefD := ⟨("is_number", none), "is_number", "is_number", defArgs s_is_number, defBody s_is_number, defScope s_is_number, [.int (-1000000000000000000000000000000000000000000000000000000000000), .int (1000000000000000000000000000000000000000000000000000000000000)], []⟩
def d_l_from : He.DefD := ⟨("_law_from", none), "_law_from", "_law_from", defArgs s_l_from, defBody s_l_from, defScope s_l_from, [], []⟩
def d_l_pick : He.DefD := ⟨("_law_pick", none), "_law_pick", "_law_pick", defArgs s_l_pick, defBody s_l_pick, defScope s_l_pick, [], []⟩
def d_l_rare : He.DefD := ⟨("_law_rare", none), "_law_rare", "_law_rare", defArgs s_l_rare, defBody s_l_rare, defScope s_l_rare, [], []⟩
def d_check_number : He.DefD := ⟨("check_number", none), "check_number", "check_number", defArgs s_check_number, defBody s_check_number, defScope s_check_number, [.int (-1000000000000000000000000000000000000000000000000000000000000), .int (1000000000000000000000000000000000000000000000000000000000000)], []⟩
def d_check_readings : He.DefD := ⟨("check_readings", none), "check_readings", "check_readings", defArgs s_check_readings, defBody s_check_readings, defScope s_check_readings, [], []⟩
def d_l_order_of : He.DefD := ⟨("_law_order_of", none), "_law_order_of", "_law_order_of", defArgs s_l_order_of, defBody s_l_order_of, defScope s_l_order_of, [], []⟩
def d_l_reading : He.DefD := ⟨("_law_reading", none), "_law_reading", "_law_reading", defArgs s_l_reading, defBody s_l_reading, defScope s_l_reading, [], []⟩
def d_factors : He.DefD := ⟨("factors", none), "factors", "factors", defArgs s_factors, defBody s_factors, defScope s_factors, [], []⟩
def d_l_set : He.DefD := ⟨("_law_set", none), "_law_set", "_law_set", defArgs s_l_set, defBody s_l_set, defScope s_l_set, [], []⟩
def d_folded : He.DefD := ⟨("folded", none), "folded", "folded", defArgs s_folded, defBody s_folded, defScope s_folded, [], []⟩
def d_l_like : He.DefD := ⟨("_law_like", none), "_law_like", "_law_like", defArgs s_l_like, defBody s_l_like, defScope s_l_like, [], []⟩
def d_l_list : He.DefD := ⟨("_law_list", none), "_law_list", "_law_list", defArgs s_l_list, defBody s_l_list, defScope s_l_list, [], []⟩
def d_cancels : He.DefD := ⟨("cancels", none), "cancels", "cancels", defArgs s_cancels, defBody s_cancels, defScope s_cancels, [], []⟩
def d_left_over : He.DefD := ⟨("left_over", none), "left_over", "left_over", defArgs s_left_over, defBody s_left_over, defScope s_left_over, [], []⟩
def d_l_told : He.DefD := ⟨("_law_told", none), "_law_told", "_law_told", defArgs s_l_told, defBody s_l_told, defScope s_l_told, [], []⟩
def d_l_changes_hold : He.DefD := ⟨("_law_changes_hold", none), "_law_changes_hold", "_law_changes_hold", defArgs s_l_changes_hold, defBody s_l_changes_hold, defScope s_l_changes_hold, [], []⟩
def d_l_refuses : He.DefD := ⟨("_law_refuses", none), "_law_refuses", "_law_refuses", defArgs s_l_refuses, defBody s_l_refuses, defScope s_l_refuses, [], []⟩
def d_l_refused : He.DefD := ⟨("_law_refused", none), "_law_refused", "_law_refused", defArgs s_l_refused, defBody s_l_refused, defScope s_l_refused, [], []⟩
def d_law : He.DefD := ⟨("law", none), "law", "law", defArgs s_law, defBody s_law, defScope s_law, [], []⟩
def hfn_0 : List He.DefD := [d_is_whole, d_subtracted, d_l_start, d_l_mixed, d_l_gcd, d_l_primes_of, d_l_joined_left, d_is_within, d_l_wide, d_l_move, d_l_primes_once, d_check_bounds, d_l_take, d_l_left, d_is_number, d_l_from, d_l_pick, d_l_rare, d_check_number, d_check_readings, d_l_order_of, d_l_reading, d_factors, d_l_set, d_folded]
def hfn_1 : List He.DefD := [d_l_like, d_l_list, d_cancels, d_left_over, d_l_told, d_l_changes_hold, d_l_refuses, d_l_refused, d_law]
def hfn : List He.DefD := hfn_0 ++ hfn_1
def hfa_0 : List He.Fa := [.glo "is_whole", .glo "subtracted", .glo "_law_start", .glo "_law_mixed", .glo "_law_gcd", .glo "_law_primes_of", .glo "_law_joined_left", .glo "is_within", .glo "_law_wide", .glo "_law_move", .glo "_law_primes_once", .glo "check_bounds", .glo "_law_take", .glo "_law_left", .glo "is_number", .glo "_law_from", .glo "_law_pick", .glo "_law_rare", .glo "check_number", .glo "check_readings", .glo "_law_order_of", .glo "_law_reading", .glo "factors", .glo "_law_set", .glo "folded"]
def hfa_1 : List He.Fa := [.glo "_law_like", .glo "_law_list", .glo "cancels", .glo "left_over", .glo "_law_told", .glo "_law_changes_hold", .glo "_law_refuses", .glo "_law_refused", .glo "law", .glo "BadCell", .glo "BadNumber", .glo "BadRows", .glo "ShiftError", .glo "TooLong", .free "abs", .free "all", .free "bool", .free "dict", .free "int", .free "isinstance", .free "len", .free "list", .free "max", .free "min", .free "range"]
def hfa_2 : List He.Fa := [.free "sorted", .free "str", .free "tuple", .int "CIRCLE" (1000000), .int "LARGEST" (100000000), .int "MANY" (400), .int "MOST" (1000000000000000000000000000000000000000000000000000000000000), .exc "BadNumber"]
def hfa : List He.Fa := hfa_0 ++ hfa_1 ++ hfa_2
def hex (K : PySem.W.Frag) : Bool := clzB K "BadNumber" [("BadNumber", true)] && (clzB K "ShiftError" [("BadNumber", true)] && (clzNB K "BadCell" [("BadNumber", false)] && (clzNB K "BadRows" [("BadNumber", false)] && (clzNB K "TooLong" [("BadNumber", false)]))))
abbrev R : PySem.W.OpenRow := PySem.W.OpenLaw.row PySem.Challenge.rw_everyshift_k61_readings_turned_and_joine
abbrev hk : PySem.W.Hook := He.hookX 4 hfa hfn [] [] hex
def ob (s : PySem.W.SharedT) : He.AlX := He.obsX 4 hfa hfn [] [] hex (HandSHeadRun.getT s)
theorem ob_eq (s : PySem.W.SharedT) : ob s = hk.obs s.abs := He.obsX_eq (HandSHeadRun.getT_eq s)
def loose_0 : List PySem.Str := ["ShiftError", "BadNumber", "BadCell", "BadRows", "TooLong", "MANY", "MOST", "is_whole", "is_within", "check_bounds", "is_number", "check_number", "LARGEST", "factors", "CIRCLE", "cancels", "left_over", "check_readings", "folded", "subtracted", "_law_start", "_law_mixed", "_law_wide", "_law_move", "_law_take"]
def loose_1 : List PySem.Str := ["_law_from", "_law_pick", "_law_rare", "_law_gcd", "_law_primes_of", "_law_primes_once", "_law_like", "_law_order_of", "_law_reading", "_law_set", "_law_list", "_law_left", "_law_joined_left", "_law_told", "_law_changes_hold", "_law_refuses", "_law_refused"]
def loose : List PySem.Str := loose_0 ++ loose_1
theorem run (w : World) : HandSHeadRun.RunEq R (PySem.W.view R.prog [47]) hk ob 20000 loose w := by
  intro os
  kernel_rfl
theorem facts {P : Program} {w : World} {K : PySem.W.Frag} {h : Heap} {mg : Str → Option Value} {f : Addr} (X : K.In h) (G : h.Ns mainGlobals mg) (hfl : mg ("law" : Str) = some (.ref f)) (c : He.SaysX hfa hfn [] [] hex w h K) :
    ∃ fd : FuncData, (∀ (s : Shared) (v : Value), BindsTo s fd ⟨[v], []⟩ [("script", v)]) ∧ ∀ base : Heap, K.In base → base.Ns mainGlobals mg → FnOk P w K mg base (L2.CX P w) 11 f fd ["script"] (spLaw K fun ns => ∃ δ', B_law (envL 8 ns [0, 0, 0, 7, 0]) = .ok (.rt (.val (.bool true))) δ') := by
  have cd := c.t.d
  have g_BadCell : mg "BadCell" = some (.ref (He.ga K "BadCell")) := He.glo_ok X G (cd.fact 34 (f := .glo "BadCell") rfl)
  have g_BadNumber : mg "BadNumber" = some (.ref (He.ga K "BadNumber")) := He.glo_ok X G (cd.fact 35 (f := .glo "BadNumber") rfl)
  have g_BadRows : mg "BadRows" = some (.ref (He.ga K "BadRows")) := He.glo_ok X G (cd.fact 36 (f := .glo "BadRows") rfl)
  have g_ShiftError : mg "ShiftError" = some (.ref (He.ga K "ShiftError")) := He.glo_ok X G (cd.fact 37 (f := .glo "ShiftError") rfl)
  have g_TooLong : mg "TooLong" = some (.ref (He.ga K "TooLong")) := He.glo_ok X G (cd.fact 38 (f := .glo "TooLong") rfl)
  obtain ⟨t_CIRCLE, c_CIRCLE⟩ := He.int_ok X G (cd.fact 53 (f := .int "CIRCLE" (1000000)) rfl)
  obtain ⟨t_LARGEST, c_LARGEST⟩ := He.int_ok X G (cd.fact 54 (f := .int "LARGEST" (100000000)) rfl)
  obtain ⟨t_MANY, c_MANY⟩ := He.int_ok X G (cd.fact 55 (f := .int "MANY" (400)) rfl)
  obtain ⟨t_MOST, c_MOST⟩ := He.int_ok X G (cd.fact 56 (f := .int "MOST" (1000000000000000000000000000000000000000000000000000000000000)) rfl)
  have cx : hex K = true := c.more
  unfold hex at cx
  obtain ⟨x_BadNumber, cx⟩ := He.ba cx
  obtain ⟨x_ShiftError, cx⟩ := He.ba cx
  obtain ⟨xn_BadCell, cx⟩ := He.ba cx
  obtain ⟨xn_BadRows, cx⟩ := He.ba cx
  have xn_TooLong := cx
  have T : Tx K mg := {
    b_abs := He.free_ok X G (cd.fact 39 (f := .free "abs") rfl),
    b_all := He.free_ok X G (cd.fact 40 (f := .free "all") rfl),
    b_bool := He.free_ok X G (cd.fact 41 (f := .free "bool") rfl),
    b_dict := He.free_ok X G (cd.fact 42 (f := .free "dict") rfl),
    b_int := He.free_ok X G (cd.fact 43 (f := .free "int") rfl),
    b_isinstance := He.free_ok X G (cd.fact 44 (f := .free "isinstance") rfl),
    b_len := He.free_ok X G (cd.fact 45 (f := .free "len") rfl),
    b_list := He.free_ok X G (cd.fact 46 (f := .free "list") rfl),
    b_max := He.free_ok X G (cd.fact 47 (f := .free "max") rfl),
    b_min := He.free_ok X G (cd.fact 48 (f := .free "min") rfl),
    b_range := He.free_ok X G (cd.fact 49 (f := .free "range") rfl),
    b_sorted := He.free_ok X G (cd.fact 50 (f := .free "sorted") rfl),
    b_str := He.free_ok X G (cd.fact 51 (f := .free "str") rfl),
    b_tuple := He.free_ok X G (cd.fact 52 (f := .free "tuple") rfl),
    z_BadNumber := clz_ok x_BadNumber g_BadNumber (fun r hr => by simp only [List.mem_cons, List.not_mem_nil, or_false] at hr; rcases hr with rfl; all_goals assumption),
    z_ShiftError := clz_ok x_ShiftError g_ShiftError (fun r hr => by simp only [List.mem_cons, List.not_mem_nil, or_false] at hr; rcases hr with rfl; all_goals assumption),
    zn_BadCell := clzN_ok xn_BadCell g_BadCell (fun r hr => by simp only [List.mem_cons, List.not_mem_nil, or_false] at hr; rcases hr with rfl; all_goals assumption),
    zn_BadRows := clzN_ok xn_BadRows g_BadRows (fun r hr => by simp only [List.mem_cons, List.not_mem_nil, or_false] at hr; rcases hr with rfl; all_goals assumption),
    zn_TooLong := clzN_ok xn_TooLong g_TooLong (fun r hr => by simp only [List.mem_cons, List.not_mem_nil, or_false] at hr; rcases hr with rfl; all_goals assumption),
    t_CIRCLE := t_CIRCLE,
    c_CIRCLE := c_CIRCLE,
    t_LARGEST := t_LARGEST,
    c_LARGEST := c_LARGEST,
    t_MANY := t_MANY,
    c_MANY := c_MANY,
    t_MOST := t_MOST,
    c_MOST := c_MOST,
    C_BadNumber := _,
    e_BadNumber := er_ok X G (cd.fact 35 (f := .glo "BadNumber") rfl) (cd.fact 57 (f := .exc "BadNumber") rfl) }
  obtain ⟨fd_is_whole, F_is_whole'⟩ := cd.def_ 0 (d := d_is_whole) rfl
  have F_is_whole' : FnP K "is_whole" s_is_whole [] (He.ga K "is_whole") fd_is_whole := F_is_whole'
  have m_is_whole : mg "is_whole" = some (.ref (He.ga K "is_whole")) := He.glo_ok X G (cd.fact 0 (f := .glo "is_whole") rfl)
  obtain ⟨fd_subtracted, F_subtracted'⟩ := cd.def_ 1 (d := d_subtracted) rfl
  have F_subtracted' : FnP K "subtracted" s_subtracted [] (He.ga K "subtracted") fd_subtracted := F_subtracted'
  have m_subtracted : mg "subtracted" = some (.ref (He.ga K "subtracted")) := He.glo_ok X G (cd.fact 1 (f := .glo "subtracted") rfl)
  obtain ⟨fd_l_start, F_l_start'⟩ := cd.def_ 2 (d := d_l_start) rfl
  have F_l_start' : FnP K "_law_start" s_l_start [] (He.ga K "_law_start") fd_l_start := F_l_start'
  have m_l_start : mg "_law_start" = some (.ref (He.ga K "_law_start")) := He.glo_ok X G (cd.fact 2 (f := .glo "_law_start") rfl)
  obtain ⟨fd_l_mixed, F_l_mixed'⟩ := cd.def_ 3 (d := d_l_mixed) rfl
  have F_l_mixed' : FnP K "_law_mixed" s_l_mixed [] (He.ga K "_law_mixed") fd_l_mixed := F_l_mixed'
  have m_l_mixed : mg "_law_mixed" = some (.ref (He.ga K "_law_mixed")) := He.glo_ok X G (cd.fact 3 (f := .glo "_law_mixed") rfl)
  obtain ⟨fd_l_gcd, F_l_gcd'⟩ := cd.def_ 4 (d := d_l_gcd) rfl
  have F_l_gcd' : FnP K "_law_gcd" s_l_gcd [] (He.ga K "_law_gcd") fd_l_gcd := F_l_gcd'
  have m_l_gcd : mg "_law_gcd" = some (.ref (He.ga K "_law_gcd")) := He.glo_ok X G (cd.fact 4 (f := .glo "_law_gcd") rfl)
  obtain ⟨fd_l_primes_of, F_l_primes_of'⟩ := cd.def_ 5 (d := d_l_primes_of) rfl
  have F_l_primes_of' : FnP K "_law_primes_of" s_l_primes_of [] (He.ga K "_law_primes_of") fd_l_primes_of := F_l_primes_of'
  have m_l_primes_of : mg "_law_primes_of" = some (.ref (He.ga K "_law_primes_of")) := He.glo_ok X G (cd.fact 5 (f := .glo "_law_primes_of") rfl)
  obtain ⟨fd_l_joined_left, F_l_joined_left'⟩ := cd.def_ 6 (d := d_l_joined_left) rfl
  have F_l_joined_left' : FnP K "_law_joined_left" s_l_joined_left [] (He.ga K "_law_joined_left") fd_l_joined_left := F_l_joined_left'
  have m_l_joined_left : mg "_law_joined_left" = some (.ref (He.ga K "_law_joined_left")) := He.glo_ok X G (cd.fact 6 (f := .glo "_law_joined_left") rfl)
  obtain ⟨fd_is_within, F_is_within'⟩ := cd.def_ 7 (d := d_is_within) rfl
  have F_is_within' : FnP K "is_within" s_is_within [] (He.ga K "is_within") fd_is_within := F_is_within'
  have m_is_within : mg "is_within" = some (.ref (He.ga K "is_within")) := He.glo_ok X G (cd.fact 7 (f := .glo "is_within") rfl)
  obtain ⟨fd_l_wide, F_l_wide'⟩ := cd.def_ 8 (d := d_l_wide) rfl
  have F_l_wide' : FnP K "_law_wide" s_l_wide [] (He.ga K "_law_wide") fd_l_wide := F_l_wide'
  have m_l_wide : mg "_law_wide" = some (.ref (He.ga K "_law_wide")) := He.glo_ok X G (cd.fact 8 (f := .glo "_law_wide") rfl)
  obtain ⟨fd_l_move, F_l_move'⟩ := cd.def_ 9 (d := d_l_move) rfl
  have F_l_move' : FnP K "_law_move" s_l_move [] (He.ga K "_law_move") fd_l_move := F_l_move'
  have m_l_move : mg "_law_move" = some (.ref (He.ga K "_law_move")) := He.glo_ok X G (cd.fact 9 (f := .glo "_law_move") rfl)
  obtain ⟨fd_l_primes_once, F_l_primes_once'⟩ := cd.def_ 10 (d := d_l_primes_once) rfl
  have F_l_primes_once' : FnP K "_law_primes_once" s_l_primes_once [] (He.ga K "_law_primes_once") fd_l_primes_once := F_l_primes_once'
  have m_l_primes_once : mg "_law_primes_once" = some (.ref (He.ga K "_law_primes_once")) := He.glo_ok X G (cd.fact 10 (f := .glo "_law_primes_once") rfl)
  obtain ⟨fd_check_bounds, F_check_bounds'⟩ := cd.def_ 11 (d := d_check_bounds) rfl
  have F_check_bounds' : FnP K "check_bounds" s_check_bounds [] (He.ga K "check_bounds") fd_check_bounds := F_check_bounds'
  have m_check_bounds : mg "check_bounds" = some (.ref (He.ga K "check_bounds")) := He.glo_ok X G (cd.fact 11 (f := .glo "check_bounds") rfl)
  obtain ⟨fd_l_take, F_l_take'⟩ := cd.def_ 12 (d := d_l_take) rfl
  have F_l_take' : FnP K "_law_take" s_l_take [] (He.ga K "_law_take") fd_l_take := F_l_take'
  have m_l_take : mg "_law_take" = some (.ref (He.ga K "_law_take")) := He.glo_ok X G (cd.fact 12 (f := .glo "_law_take") rfl)
  obtain ⟨fd_l_left, F_l_left'⟩ := cd.def_ 13 (d := d_l_left) rfl
  have F_l_left' : FnP K "_law_left" s_l_left [] (He.ga K "_law_left") fd_l_left := F_l_left'
  have m_l_left : mg "_law_left" = some (.ref (He.ga K "_law_left")) := He.glo_ok X G (cd.fact 13 (f := .glo "_law_left") rfl)
  obtain ⟨fd_is_number, F_is_number'⟩ := cd.def_ 14 (d := d_is_number) rfl
  have F_is_number' : FnP K "is_number" s_is_number (([.int (-1000000000000000000000000000000000000000000000000000000000000), .int (1000000000000000000000000000000000000000000000000000000000000)] : List DW.D).map vD) (He.ga K "is_number") fd_is_number := F_is_number'
  have m_is_number : mg "is_number" = some (.ref (He.ga K "is_number")) := He.glo_ok X G (cd.fact 14 (f := .glo "is_number") rfl)
  obtain ⟨fd_l_from, F_l_from'⟩ := cd.def_ 15 (d := d_l_from) rfl
  have F_l_from' : FnP K "_law_from" s_l_from [] (He.ga K "_law_from") fd_l_from := F_l_from'
  have m_l_from : mg "_law_from" = some (.ref (He.ga K "_law_from")) := He.glo_ok X G (cd.fact 15 (f := .glo "_law_from") rfl)
  obtain ⟨fd_l_pick, F_l_pick'⟩ := cd.def_ 16 (d := d_l_pick) rfl
  have F_l_pick' : FnP K "_law_pick" s_l_pick [] (He.ga K "_law_pick") fd_l_pick := F_l_pick'
  have m_l_pick : mg "_law_pick" = some (.ref (He.ga K "_law_pick")) := He.glo_ok X G (cd.fact 16 (f := .glo "_law_pick") rfl)
  obtain ⟨fd_l_rare, F_l_rare'⟩ := cd.def_ 17 (d := d_l_rare) rfl
  have F_l_rare' : FnP K "_law_rare" s_l_rare [] (He.ga K "_law_rare") fd_l_rare := F_l_rare'
  have m_l_rare : mg "_law_rare" = some (.ref (He.ga K "_law_rare")) := He.glo_ok X G (cd.fact 17 (f := .glo "_law_rare") rfl)
  obtain ⟨fd_check_number, F_check_number'⟩ := cd.def_ 18 (d := d_check_number) rfl
  have F_check_number' : FnP K "check_number" s_check_number (([.int (-1000000000000000000000000000000000000000000000000000000000000), .int (1000000000000000000000000000000000000000000000000000000000000)] : List DW.D).map vD) (He.ga K "check_number") fd_check_number := F_check_number'
  have m_check_number : mg "check_number" = some (.ref (He.ga K "check_number")) := He.glo_ok X G (cd.fact 18 (f := .glo "check_number") rfl)
  obtain ⟨fd_check_readings, F_check_readings'⟩ := cd.def_ 19 (d := d_check_readings) rfl
  have F_check_readings' : FnP K "check_readings" s_check_readings [] (He.ga K "check_readings") fd_check_readings := F_check_readings'
  have m_check_readings : mg "check_readings" = some (.ref (He.ga K "check_readings")) := He.glo_ok X G (cd.fact 19 (f := .glo "check_readings") rfl)
  obtain ⟨fd_l_order_of, F_l_order_of'⟩ := cd.def_ 20 (d := d_l_order_of) rfl
  have F_l_order_of' : FnP K "_law_order_of" s_l_order_of [] (He.ga K "_law_order_of") fd_l_order_of := F_l_order_of'
  have m_l_order_of : mg "_law_order_of" = some (.ref (He.ga K "_law_order_of")) := He.glo_ok X G (cd.fact 20 (f := .glo "_law_order_of") rfl)
  obtain ⟨fd_l_reading, F_l_reading'⟩ := cd.def_ 21 (d := d_l_reading) rfl
  have F_l_reading' : FnP K "_law_reading" s_l_reading [] (He.ga K "_law_reading") fd_l_reading := F_l_reading'
  have m_l_reading : mg "_law_reading" = some (.ref (He.ga K "_law_reading")) := He.glo_ok X G (cd.fact 21 (f := .glo "_law_reading") rfl)
  obtain ⟨fd_factors, F_factors'⟩ := cd.def_ 22 (d := d_factors) rfl
  have F_factors' : FnP K "factors" s_factors [] (He.ga K "factors") fd_factors := F_factors'
  have m_factors : mg "factors" = some (.ref (He.ga K "factors")) := He.glo_ok X G (cd.fact 22 (f := .glo "factors") rfl)
  obtain ⟨fd_l_set, F_l_set'⟩ := cd.def_ 23 (d := d_l_set) rfl
  have F_l_set' : FnP K "_law_set" s_l_set [] (He.ga K "_law_set") fd_l_set := F_l_set'
  have m_l_set : mg "_law_set" = some (.ref (He.ga K "_law_set")) := He.glo_ok X G (cd.fact 23 (f := .glo "_law_set") rfl)
  obtain ⟨fd_folded, F_folded'⟩ := cd.def_ 24 (d := d_folded) rfl
  have F_folded' : FnP K "folded" s_folded [] (He.ga K "folded") fd_folded := F_folded'
  have m_folded : mg "folded" = some (.ref (He.ga K "folded")) := He.glo_ok X G (cd.fact 24 (f := .glo "folded") rfl)
  obtain ⟨fd_l_like, F_l_like'⟩ := cd.def_ 25 (d := d_l_like) rfl
  have F_l_like' : FnP K "_law_like" s_l_like [] (He.ga K "_law_like") fd_l_like := F_l_like'
  have m_l_like : mg "_law_like" = some (.ref (He.ga K "_law_like")) := He.glo_ok X G (cd.fact 25 (f := .glo "_law_like") rfl)
  obtain ⟨fd_l_list, F_l_list'⟩ := cd.def_ 26 (d := d_l_list) rfl
  have F_l_list' : FnP K "_law_list" s_l_list [] (He.ga K "_law_list") fd_l_list := F_l_list'
  have m_l_list : mg "_law_list" = some (.ref (He.ga K "_law_list")) := He.glo_ok X G (cd.fact 26 (f := .glo "_law_list") rfl)
  obtain ⟨fd_cancels, F_cancels'⟩ := cd.def_ 27 (d := d_cancels) rfl
  have F_cancels' : FnP K "cancels" s_cancels [] (He.ga K "cancels") fd_cancels := F_cancels'
  have m_cancels : mg "cancels" = some (.ref (He.ga K "cancels")) := He.glo_ok X G (cd.fact 27 (f := .glo "cancels") rfl)
  obtain ⟨fd_left_over, F_left_over'⟩ := cd.def_ 28 (d := d_left_over) rfl
  have F_left_over' : FnP K "left_over" s_left_over [] (He.ga K "left_over") fd_left_over := F_left_over'
  have m_left_over : mg "left_over" = some (.ref (He.ga K "left_over")) := He.glo_ok X G (cd.fact 28 (f := .glo "left_over") rfl)
  obtain ⟨fd_l_told, F_l_told'⟩ := cd.def_ 29 (d := d_l_told) rfl
  have F_l_told' : FnP K "_law_told" s_l_told [] (He.ga K "_law_told") fd_l_told := F_l_told'
  have m_l_told : mg "_law_told" = some (.ref (He.ga K "_law_told")) := He.glo_ok X G (cd.fact 29 (f := .glo "_law_told") rfl)
  obtain ⟨fd_l_changes_hold, F_l_changes_hold'⟩ := cd.def_ 30 (d := d_l_changes_hold) rfl
  have F_l_changes_hold' : FnP K "_law_changes_hold" s_l_changes_hold [] (He.ga K "_law_changes_hold") fd_l_changes_hold := F_l_changes_hold'
  have m_l_changes_hold : mg "_law_changes_hold" = some (.ref (He.ga K "_law_changes_hold")) := He.glo_ok X G (cd.fact 30 (f := .glo "_law_changes_hold") rfl)
  obtain ⟨fd_l_refuses, F_l_refuses'⟩ := cd.def_ 31 (d := d_l_refuses) rfl
  have F_l_refuses' : FnP K "_law_refuses" s_l_refuses [] (He.ga K "_law_refuses") fd_l_refuses := F_l_refuses'
  have m_l_refuses : mg "_law_refuses" = some (.ref (He.ga K "_law_refuses")) := He.glo_ok X G (cd.fact 31 (f := .glo "_law_refuses") rfl)
  obtain ⟨fd_l_refused, F_l_refused'⟩ := cd.def_ 32 (d := d_l_refused) rfl
  have F_l_refused' : FnP K "_law_refused" s_l_refused [] (He.ga K "_law_refused") fd_l_refused := F_l_refused'
  have m_l_refused : mg "_law_refused" = some (.ref (He.ga K "_law_refused")) := He.glo_ok X G (cd.fact 32 (f := .glo "_law_refused") rfl)
  obtain ⟨fd_law, F_law'⟩ := cd.def_ 33 (d := d_law) rfl
  have F_law' : FnP K "law" s_law [] (He.ga K "law") fd_law := F_law'
  have m_law : mg "law" = some (.ref (He.ga K "law")) := He.glo_ok X G (cd.fact 33 (f := .glo "law") rfl)
  have ef := hfl.symm.trans m_law
  cases ef
  refine ⟨fd_law, fun s v => FunD.bindsA (ps := ["script"]) F_law' (fun _ _ _ _ _ _ us hl => match us, hl with | [_], _ => rfl) s [v] rfl, fun base _ _ => ?_⟩
  have G_is_whole : Df P w K mg base "is_whole" 1 1 F_is_whole := df_of F_is_whole' (ok_is_whole (P := P) (w := w) (base := base) T  F_is_whole') m_is_whole (fun _ _ _ _ _ _ us hl => match us, hl with | [_], _ => rfl)
  have G_subtracted : Df P w K mg base "subtracted" 1 3 F_subtracted := df_of F_subtracted' (ok_subtracted (P := P) (w := w) (base := base) T  F_subtracted') m_subtracted (fun _ _ _ _ _ _ us hl => match us, hl with | [_, _, _], _ => rfl)
  have G_l_start : Df P w K mg base "_law_start" 1 1 F_l_start := df_of F_l_start' (ok_l_start (P := P) (w := w) (base := base) T  F_l_start') m_l_start (fun _ _ _ _ _ _ us hl => match us, hl with | [_], _ => rfl)
  have G_l_mixed : Df P w K mg base "_law_mixed" 1 2 F_l_mixed := df_of F_l_mixed' (ok_l_mixed (P := P) (w := w) (base := base) T  F_l_mixed') m_l_mixed (fun _ _ _ _ _ _ us hl => match us, hl with | [_, _], _ => rfl)
  have G_l_gcd : Df P w K mg base "_law_gcd" 1 2 F_l_gcd := df_of F_l_gcd' (ok_l_gcd (P := P) (w := w) (base := base) T  F_l_gcd') m_l_gcd (fun _ _ _ _ _ _ us hl => match us, hl with | [_, _], _ => rfl)
  have G_l_primes_of : Df P w K mg base "_law_primes_of" 1 1 F_l_primes_of := df_of F_l_primes_of' (ok_l_primes_of (P := P) (w := w) (base := base) T  F_l_primes_of') m_l_primes_of (fun _ _ _ _ _ _ us hl => match us, hl with | [_], _ => rfl)
  have G_l_joined_left : Df P w K mg base "_law_joined_left" 1 2 F_l_joined_left := df_of F_l_joined_left' (ok_l_joined_left (P := P) (w := w) (base := base) T  F_l_joined_left') m_l_joined_left (fun _ _ _ _ _ _ us hl => match us, hl with | [_, _], _ => rfl)
  have G_is_within : Df P w K mg base "is_within" 2 3 F_is_within := df_of F_is_within' (ok_is_within (P := P) (w := w) (base := base) T G_is_whole F_is_within') m_is_within (fun _ _ _ _ _ _ us hl => match us, hl with | [_, _, _], _ => rfl)
  have G_l_wide : Df P w K mg base "_law_wide" 2 3 F_l_wide := df_of F_l_wide' (ok_l_wide (P := P) (w := w) (base := base) T G_l_mixed F_l_wide') m_l_wide (fun _ _ _ _ _ _ us hl => match us, hl with | [_, _, _], _ => rfl)
  have G_l_move : Df P w K mg base "_law_move" 2 1 F_l_move := df_of F_l_move' (ok_l_move (P := P) (w := w) (base := base) T G_l_mixed F_l_move') m_l_move (fun _ _ _ _ _ _ us hl => match us, hl with | [_], _ => rfl)
  have G_l_primes_once : Df P w K mg base "_law_primes_once" 2 1 F_l_primes_once := df_of F_l_primes_once' (ok_l_primes_once (P := P) (w := w) (base := base) T G_l_primes_of F_l_primes_once') m_l_primes_once (fun _ _ _ _ _ _ us hl => match us, hl with | [_], _ => rfl)
  have G_check_bounds : Df P w K mg base "check_bounds" 3 2 F_check_bounds := df_of F_check_bounds' (ok_check_bounds (P := P) (w := w) (base := base) T G_is_within F_check_bounds') m_check_bounds (fun _ _ _ _ _ _ us hl => match us, hl with | [_, _], _ => rfl)
  have G_l_take : Df P w K mg base "_law_take" 3 2 F_l_take := df_of F_l_take' (ok_l_take (P := P) (w := w) (base := base) T G_l_wide G_l_move F_l_take') m_l_take (fun _ _ _ _ _ _ us hl => match us, hl with | [_, _], _ => rfl)
  have G_l_left : Df P w K mg base "_law_left" 3 2 F_l_left := df_of F_l_left' (ok_l_left (P := P) (w := w) (base := base) T G_l_primes_once F_l_left') m_l_left (fun _ _ _ _ _ _ us hl => match us, hl with | [_, _], _ => rfl)
  have G_is_number : Df P w K mg base "is_number" 4 3 F_is_number := df_all F_is_number' (ok_is_number (P := P) (w := w) (base := base) T G_is_within G_check_bounds F_is_number') m_is_number (by decide) (fun _ _ _ _ _ _ _ us its h1 h2 => match us, h1, its, h2 with | [_, _, _], _, [_, _], _ => ⟨_, rfl, rfl⟩)
  have G_is_number_1 : DfD P w K mg base "is_number" 4 3 F_is_number [.int (-1000000000000000000000000000000000000000000000000000000000000), .int (1000000000000000000000000000000000000000000000000000000000000)] := df_dfl 1 0 F_is_number' (ok_is_number (P := P) (w := w) (base := base) T G_is_within G_check_bounds F_is_number') m_is_number (by decide) (by decide) rfl (fun _ _ _ _ _ _ _ us its h1 h2 => match us, h1, its, h2 with | [_], _, [_, _], _ => ⟨_, rfl, rfl⟩)
  have G_l_from : Df P w K mg base "_law_from" 4 3 F_l_from := df_of F_l_from' (ok_l_from (P := P) (w := w) (base := base) T G_l_take F_l_from') m_l_from (fun _ _ _ _ _ _ us hl => match us, hl with | [_, _, _], _ => rfl)
  have G_l_pick : Df P w K mg base "_law_pick" 4 2 F_l_pick := df_of F_l_pick' (ok_l_pick (P := P) (w := w) (base := base) T G_l_take F_l_pick') m_l_pick (fun _ _ _ _ _ _ us hl => match us, hl with | [_, _], _ => rfl)
  have G_l_rare : Df P w K mg base "_law_rare" 4 2 F_l_rare := df_of F_l_rare' (ok_l_rare (P := P) (w := w) (base := base) T G_l_take F_l_rare') m_l_rare (fun _ _ _ _ _ _ us hl => match us, hl with | [_, _], _ => rfl)
  have G_check_number : Df P w K mg base "check_number" 5 3 F_check_number := df_all F_check_number' (ok_check_number (P := P) (w := w) (base := base) T G_is_number F_check_number') m_check_number (by decide) (fun _ _ _ _ _ _ _ us its h1 h2 => match us, h1, its, h2 with | [_, _, _], _, [_, _], _ => ⟨_, rfl, rfl⟩)
  have G_check_readings : Df P w K mg base "check_readings" 5 1 F_check_readings := df_of F_check_readings' (ok_check_readings (P := P) (w := w) (base := base) T G_is_number_1 F_check_readings') m_check_readings (fun _ _ _ _ _ _ us hl => match us, hl with | [_], _ => rfl)
  have G_l_order_of : Df P w K mg base "_law_order_of" 5 1 F_l_order_of := df_of F_l_order_of' (ok_l_order_of (P := P) (w := w) (base := base) T G_l_take G_l_rare G_l_pick F_l_order_of') m_l_order_of (fun _ _ _ _ _ _ us hl => match us, hl with | [_], _ => rfl)
  have G_l_reading : Df P w K mg base "_law_reading" 5 2 F_l_reading := df_of F_l_reading' (ok_l_reading (P := P) (w := w) (base := base) T G_l_take G_l_rare G_l_from F_l_reading') m_l_reading (fun _ _ _ _ _ _ us hl => match us, hl with | [_, _], _ => rfl)
  have G_factors : Df P w K mg base "factors" 6 1 F_factors := df_of F_factors' (ok_factors (P := P) (w := w) (base := base) T G_check_number F_factors') m_factors (fun _ _ _ _ _ _ us hl => match us, hl with | [_], _ => rfl)
  have G_l_set : Df P w K mg base "_law_set" 6 3 F_l_set := df_of F_l_set' (ok_l_set (P := P) (w := w) (base := base) T G_l_take G_l_reading F_l_set') m_l_set (fun _ _ _ _ _ _ us hl => match us, hl with | [_, _, _], _ => rfl)
  have G_folded : Df P w K mg base "folded" 7 2 F_folded := df_of F_folded' (ok_folded (P := P) (w := w) (base := base) T G_factors G_subtracted F_folded') m_folded (fun _ _ _ _ _ _ us hl => match us, hl with | [_, _], _ => rfl)
  have G_l_like : Df P w K mg base "_law_like" 7 2 F_l_like := df_of F_l_like' ((ok_l_like (P := P) (w := w) (base := base) T  F_l_like' (fun ok => df_of F_l_like' ok m_l_like (fun _ _ _ _ _ _ us hl => match us, hl with | [_, _], _ => rfl)) 6)) m_l_like (fun _ _ _ _ _ _ us hl => match us, hl with | [_, _], _ => rfl)
  have G_l_list : Df P w K mg base "_law_list" 7 2 F_l_list := df_of F_l_list' (ok_l_list (P := P) (w := w) (base := base) T G_l_reading G_l_take G_l_set G_l_pick G_l_primes_once F_l_list') m_l_list (fun _ _ _ _ _ _ us hl => match us, hl with | [_, _], _ => rfl)
  have G_cancels : Df P w K mg base "cancels" 8 2 F_cancels := df_of F_cancels' (ok_cancels (P := P) (w := w) (base := base) T G_folded G_check_number G_check_readings F_cancels') m_cancels (fun _ _ _ _ _ _ us hl => match us, hl with | [_, _], _ => rfl)
  have G_left_over : Df P w K mg base "left_over" 8 2 F_left_over := df_of F_left_over' (ok_left_over (P := P) (w := w) (base := base) T G_folded G_check_number G_check_readings F_left_over') m_left_over (fun _ _ _ _ _ _ us hl => match us, hl with | [_, _], _ => rfl)
  have G_l_told : Df P w K mg base "_law_told" 9 3 F_l_told := df_of F_l_told' (ok_l_told (P := P) (w := w) (base := base) T G_l_like G_left_over G_cancels F_l_told') m_l_told (fun _ _ _ _ _ _ us hl => match us, hl with | [_, _, _], _ => rfl)
  have G_l_changes_hold : Df P w K mg base "_law_changes_hold" 9 4 F_l_changes_hold := df_of F_l_changes_hold' (ok_l_changes_hold (P := P) (w := w) (base := base) T G_l_like G_cancels G_left_over G_l_set G_l_pick G_l_take G_l_primes_once G_l_gcd F_l_changes_hold') m_l_changes_hold (fun _ _ _ _ _ _ us hl => match us, hl with | [_, _, _, _], _ => rfl)
  have G_l_refuses : Df P w K mg base "_law_refuses" 9 3 F_l_refuses := df_of F_l_refuses' (ok_l_refuses (P := P) (w := w) (base := base) T G_cancels G_left_over F_l_refuses') m_l_refuses (fun _ _ _ _ _ _ us hl => match us, hl with | [_, _, _], _ => rfl)
  have G_l_refused : Df P w K mg base "_law_refused" 10 3 F_l_refused := df_of F_l_refused' (ok_l_refused (P := P) (w := w) (base := base) T G_l_told G_l_left G_l_rare G_l_refuses G_l_pick G_l_take F_l_refused') m_l_refused (fun _ _ _ _ _ _ us hl => match us, hl with | [_, _, _], _ => rfl)
  exact ok_lawS T G_l_told G_l_refused G_left_over G_l_changes_hold G_l_like G_cancels G_l_reading G_l_joined_left G_l_left G_l_list G_l_order_of (ok_start T F_l_start') m_l_start F_l_start'.kp (F_l_start'.bindsN fun _ _ _ _ _ _ us hl => match us, hl with | [_], _ => rfl) F_law'
end K61
open PySem PySem.W PySem.Calls PyProof.Rows
set_option maxRecDepth 100000 in
set_option maxHeartbeats 0 in
theorem PySem.Challenge.cw_everyshift_k61_readings_turned_and_joine_holds : PySem.Challenge.rw_everyshift_k61_readings_turned_and_joine.Holds := by
  w_on; o_law
  refine HandSHeadRun.head_any (r := OpenLaw.row PySem.Challenge.rw_everyshift_k61_readings_turned_and_joine) (q := view (OpenLaw.row PySem.Challenge.rw_everyshift_k61_readings_turned_and_joine).prog [47]) (H := K61.hk) (ob := K61.ob) (M := 20000) (loose := K61.loose) (d := HandSHeadRun.topDef (OpenLaw.row PySem.Challenge.rw_everyshift_k61_readings_turned_and_joine).prog 47) (kwd := []) K61.ob_eq
    (by kernel_rfl) (fun s => by kernel_rfl) K61.run (by kernel_rfl) (by kernel_rfl) (by kernel_rfl) (by rfl) (by first | assumption | decide +kernel) (by decide +kernel) ⟨rfl, rfl, rfl, rfl, rfl, by decide +kernel⟩ ?hw ?hc
  case hw => w_witness2
  case hc =>
    refine DW.walkW (ol := PySem.Challenge.rw_everyshift_k61_readings_turned_and_joine) (most := 63) (lev := 11) (par := "script") rfl (by decide) (by kernel_rfl) ⟨rfl, by decide, by decide⟩ ?F
    intro w mg fa h Y G hmg0
    obtain ⟨K, KX, c⟩ := Y
    have hmg : mg ("law" : PySem.Str) = some (.ref fa) := by
      have e : (HandSHeadRun.topDef (OpenLaw.row PySem.Challenge.rw_everyshift_k61_readings_turned_and_joine).prog 47).name = ("law" : PySem.Str) := by kernel_rfl
      rw [← e]
      exact hmg0
    obtain ⟨fd, hb, hF⟩ := K61.facts (P := (PySem.Challenge.rw_everyshift_k61_readings_turned_and_joine).prog) (w := w) KX G hmg c
    exact ⟨K, fd, _, KX, hb, fun H a ns hl hS => ⟨a, ns, rfl, hS, K61.law_holds ns hl, fun _ => rfl⟩, hF⟩
