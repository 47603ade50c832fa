import PyProof.Rows.All
import Wide.All
import OpenK.AllK
import Wide.FinOn
import KE.KStateDown
import Lean
import HandS.ForMost
import HandS.Exc
import HandS.Star
import HandS.TupAny
import HandS.IsInst
import HandS.RaiseMore
import HandS.WordsExc
import HandS.Defaults
import HandS.Style
import HandS.Small
import HandS.Zip
import HandS.ListItems
import KE.KDictZip
import HandS.Head0
import HandS.Head1
import HandS.Head2
import HandS.HeadEnd
import HandS.HeadHook1
import HandS.HeadHook2
import PySem.Challenge.RW_poisonruns_k44_orders_that_stand_near
set_option Elab.async false
set_option linter.all false
set_option maxRecDepth 100000
set_option maxHeartbeats 0
/-! A functional reading of Python over the hand layer: data trees, environments, a store; what a reading must keep. -/
namespace Ev
open PySem PySem.Spec PyProof.Rows L2
abbrev St := L2.St

/-- a value as a tree; a dict by its keys and values; an instance by its class's number, its attributes' names and values; loc n: the n-th object of the store; frz: a list that no one changes (the script) -/
inductive D where
  | non | bl (b : Bool) | int (i : Int) | str (x : Str)
  | lst (xs : List D) | tup (xs : List D)
  | dic (ks vs : List D)
  | ins (c : Nat) (ns : List Str) (vs : List D)
  | loc (n : Nat)
  | frz (xs : List D)

/-- an exception of an own class: its class's number, its attributes -/
structure Xc where
  c : Nat
  ns : List Str
  vs : List D
abbrev Sto := List D
inductive Res (α : Type) where
  | ok (a : α) (g : Sto)
  | exc (x : Xc) (g : Sto)
  | stuck
def Res.bind {α β : Type} (r : Res α) (f : α → Sto → Res β) : Res β := match r with
  | .ok a g => f a g
  | .exc x g => .exc x g
  | .stuck => .stuck
inductive Slot where
  | no | sh (d : D) | ow (d : D)
abbrev Env := List Slot
/-- an expression's reading -/
abbrev En (α : Type) := Env → Sto → Res α
abbrev E1 := En D

/-! ### addresses -/
/-- what does not change: the written part, the own classes' addresses -/
structure Stat where
  K : PySem.W.Frag
  kc : List Addr
/-- mu: the store's addresses; W: what this frame may write (the store, its own lists); B: what others own -/
structure Mv where
  mu : List Addr
  W : List Addr
  B : List Addr
def Mv.fr (m : Mv) (a : Addr) : Prop := a ∉ m.W ∧ a ∉ m.B
/-- a list that is no one's own, of any kind -/
def Sql (S : Stat) (m : Mv) (H : Hp) (a : Addr) (vs : List V) : Prop :=
  (L2.Rd H a (.lst vs) ∧ m.fr a) ∨ ∃ (o : Obj) (its : Array Value) (n : Nat), S.K.lookup a = some o ∧ o.cls = .type "list" ∧ o.dict = none ∧ o.data = .seq its n ∧ its.size ≤ sizeLine ∧ Vals vs its.toList
theorem Sql.sq {S : Stat} {m : Mv} {H : Hp} {a : Addr} {vs : List V} (h : Sql S m H a vs) : SqL S.K H a vs := by
  rcases h with h | h
  · exact .inl h.1
  · exact .inr h
def kD : Key → D
  | .inl i => .int i
  | .inr x => .str x
/-- what a dict's object is, by keys and values -/
def DicO (ks : List D) (vs : List V) (o : HO) : Prop :=
  (∃ kvs, o = .dK kvs ∧ ks = kvs.map (fun p => kD p.1) ∧ vs = kvs.map (·.2)) ∨ (∃ kvs, o = .dT kvs ∧ ks = kvs.map (fun p => D.tup (p.1.map kD)) ∧ vs = kvs.map (·.2))
mutual
inductive Rr (S : Stat) (m : Mv) (H : Hp) : D → V → Prop where
  | non : Rr S m H .non .non
  | bl (b : Bool) : Rr S m H (.bl b) (.bl b)
  | int (i : Int) : Rr S m H (.int i) (.int i)
  | str (x : Str) : Rr S m H (.str x) (.str x)
  | lst {a : Addr} {vs : List V} {ds : List D} : H a = some (.lst vs) → m.fr a → Rl S m H ds vs → Rr S m H (.lst ds) (.ref a)
  | frz {a : Addr} {vs : List V} {ds : List D} : Sql S m H a vs → Rl S m H ds vs → Rr S m H (.frz ds) (.ref a)
  | tup {a : Addr} {vs : List V} {ds : List D} : SqT S.K H a vs → Rl S m H ds vs → Rr S m H (.tup ds) (.ref a)
  | dic {a : Addr} {o : HO} {ks : List D} {vs : List V} {ds : List D} : L2.Rd H a o → m.fr a → DicO ks vs o → Rl S m H ds vs → Rr S m H (.dic ks ds) (.ref a)
  | ins {a C dx : Addr} {fs : List (Str × V)} {c : Nat} {ds : List D} {ns : List Str} : H a = some (.ins C dx fs) → m.fr a → S.kc[c]? = some C → ns = fs.map (·.1) → Rl S m H ds (fs.map (·.2)) → Rr S m H (.ins c ns ds) (.ref a)
  | loc {n : Nat} {a : Addr} : m.mu[n]? = some a → Rr S m H (.loc n) (.ref a)
inductive Rl (S : Stat) (m : Mv) (H : Hp) : List D → List V → Prop where
  | nil : Rl S m H [] []
  | cons {d : D} {v : V} {ds : List D} {vs : List V} : Rr S m H d v → Rl S m H ds vs → Rl S m H (d :: ds) (v :: vs)
end
/-- the content of an object that is someone's own -/
inductive Root (S : Stat) (m : Mv) (H : Hp) (a : Addr) : D → Prop where
  | lst {vs : List V} {ds : List D} : H a = some (.lst vs) → Rl S m H ds vs → Root S m H a (.lst ds)
  | dic {o : HO} {ks : List D} {vs : List V} {ds : List D} : H a = some o → DicO ks vs o → Rl S m H ds vs → Root S m H a (.dic ks ds)
  | ins {C dx : Addr} {fs : List (Str × V)} {c : Nat} {ds : List D} {ns : List Str} : H a = some (.ins C dx fs) → S.kc[c]? = some C → ns = fs.map (·.1) → Rl S m H ds (fs.map (·.2)) → Root S m H a (.ins c ns ds)
/-- the memory is as told -/
structure MOk (S : Stat) (H : Hp) (g : Sto) (m : Mv) : Prop where
  len : g.length = m.mu.length
  sto : ∀ (n : Nat) (d : D) (a : Addr), g[n]? = some d → m.mu[n]? = some a → Root S m H a d
  nd : m.mu.Nodup
  muW : ∀ a ∈ m.mu, a ∈ m.W
  trk : ∀ a, a ∈ m.W ∨ a ∈ m.B → Mut (H a)
  dis : ∀ a ∈ m.B, a ∉ m.W
/-- a slot -/
def SlotOk (S : Stat) (m : Mv) (H : Hp) : Slot → Option V → Prop
  | .no, _ => True
  | .sh d, ov => ∃ v, ov = some v ∧ Rr S m H d v
  | .ow d, ov => ∃ a, ov = some (.ref a) ∧ a ∈ m.W ∧ a ∉ m.mu ∧ Root S m H a d
structure Rel (S : Stat) (H : Hp) (σ : St) (env : Env) (g : Sto) (m : Mv) : Prop where
  mem : MOk S H g m
  len : σ.length = env.length
  slot : ∀ (i : Nat) (s : Slot) (ov : Option V), env[i]? = some s → σ[i]? = some ov → SlotOk S m H s ov
  own : ∀ (i j : Nat) (d d' : D) (a : Addr), env[i]? = some (.ow d) → env[j]? = some (.ow d') → σ[i]? = some (some (.ref a)) → σ[j]? = some (some (.ref a)) → i = j

/-- what an expression may do -/
structure Grow (m : Mv) (H : Hp) (m' : Mv) (H' : Hp) : Prop where
  keep : ∀ a o, H a = some o → a ∉ m.mu → H' a = some o
  liv : ∀ a, H' a = none → H a = none
  mu : ∃ t, m'.mu = m.mu ++ t
  mun : ∀ a ∈ m'.mu, a ∈ m.mu ∨ H a = none
  wk : ∀ a ∈ m.W, a ∈ m'.W
  wn : ∀ a ∈ m'.W, a ∈ m.W ∨ H a = none
  b : m'.B = m.B
/-- what a statement may do -/
structure GrowS (m : Mv) (H : Hp) (m' : Mv) (H' : Hp) : Prop where
  keep : ∀ a o, H a = some o → a ∉ m.W → H' a = some o
  liv : ∀ a, H' a = none → H a = none
  mu : ∃ t, m'.mu = m.mu ++ t
  mun : ∀ a ∈ m'.mu, a ∈ m.mu ∨ H a = none
  wn : ∀ a ∈ m'.W, a ∈ m.W ∨ H a = none
  b : m'.B = m.B
theorem Grow.refl (m : Mv) (H : Hp) : Grow m H m H := ⟨fun _ _ h _ => h, fun _ h => h, ⟨[], by simp⟩, fun _ h => .inl h, fun _ h => h, fun _ h => .inl h, rfl⟩
theorem GrowS.refl (m : Mv) (H : Hp) : GrowS m H m H := ⟨fun _ _ h _ => h, fun _ h => h, ⟨[], by simp⟩, fun _ h => .inl h, fun _ h => .inl h, rfl⟩
theorem Grow.s {m m' : Mv} {H H' : Hp} (g : Grow m H m' H') (hm : ∀ a ∈ m.mu, a ∈ m.W) : GrowS m H m' H' :=
  ⟨fun a o h n => g.keep a o h fun z => n (hm a z), g.liv, g.mu, g.mun, g.wn, g.b⟩
theorem none_of_keep {H H' : Hp} {a : Addr} (k : ∀ o, H a = some o → H' a = some o) (h : H' a = none) : H a = none := by
  cases q : H a with
  | none => rfl
  | some o => rw [k o q] at h; cases h
theorem Grow.trans {m m1 m2 : Mv} {H H1 H2 : Hp} (a : Grow m H m1 H1) (b : Grow m1 H1 m2 H2) : Grow m H m2 H2 := by
  have back := a.liv
  refine ⟨fun x o h n => ?_, fun x h => back x (b.liv x h), ?_, fun x hx => ?_, fun x hx => b.wk x (a.wk x hx), fun x hx => ?_, b.b.trans a.b⟩
  · refine b.keep x o (a.keep x o h n) fun z => ?_
    rcases a.mun x z with z | z
    · exact n z
    · rw [h] at z; cases z
  · obtain ⟨t, e⟩ := a.mu
    obtain ⟨t', e'⟩ := b.mu
    exact ⟨t ++ t', by rw [e', e, List.append_assoc]⟩
  · rcases b.mun x hx with z | z
    · exact a.mun x z
    · exact .inr (back x z)
  · rcases b.wn x hx with z | z
    · exact a.wn x z
    · exact .inr (back x z)
/-- an address that was free is not in W or B -/
theorem MOk.free {S : Stat} {H : Hp} {g : Sto} {m : Mv} (h : MOk S H g m) {a : Addr} (n : H a = none) : a ∉ m.W ∧ a ∉ m.B :=
  ⟨fun z => by have := h.trk a (.inl z); rw [n] at this; exact this, fun z => by have := h.trk a (.inr z); rw [n] at this; exact this⟩
/-- trees stay -/
theorem fr_grow {m m' : Mv} {H H' : Hp} (q : GrowS m H m' H') {a : Addr} (f : m.fr a) (h : H a ≠ none) : m'.fr a :=
  ⟨fun z => (q.wn a z).elim f.1 h, fun z => f.2 (q.b ▸ z)⟩
theorem rd_grow {m m' : Mv} {H H' : Hp} (q : GrowS m H m' H') {a : Addr} {o : HO} (f : m.fr a) (h : L2.Rd H a o) : L2.Rd H' a o ∧ m'.fr a := by
  rcases h with h | ⟨u, h⟩
  · exact ⟨.inl (q.keep a _ h f.1), fr_grow q f (by rw [h]; simp)⟩
  · exact ⟨.inr ⟨u, q.keep a _ h f.1⟩, fr_grow q f (by rw [h]; simp)⟩
/-- no tuple is anyone's own -/
theorem tup_fr {S : Stat} {H : Hp} {g : Sto} {m : Mv} (ok : MOk S H g m) {a : Addr} {vs : List V} (h : L2.Rd H a (.tup vs)) : m.fr a := by
  rcases h with h | ⟨u, h⟩
  · exact ⟨fun z => by have := ok.trk a (.inl z); rw [h] at this; exact this, fun z => by have := ok.trk a (.inr z); rw [h] at this; exact this⟩
  · exact ⟨fun z => by have := ok.trk a (.inl z); rw [h] at this; exact this, fun z => by have := ok.trk a (.inr z); rw [h] at this; exact this⟩
theorem sqt_grow {S : Stat} {m m' : Mv} {H H' : Hp} {g : Sto} (ok : MOk S H g m) (q : GrowS m H m' H') {a : Addr} {vs : List V} (h : SqT S.K H a vs) : SqT S.K H' a vs := by
  rcases h with h | h
  · exact .inl (rd_grow q (tup_fr ok h) h).1
  · exact .inr h
theorem mu_grow {m m' : Mv} {n : Nat} {a : Addr} (h : ∃ t, m'.mu = m.mu ++ t) (e : m.mu[n]? = some a) : m'.mu[n]? = some a := by
  obtain ⟨t, h⟩ := h
  rw [h, List.getElem?_append_left (List.getElem?_eq_some_iff.mp e).1]
  exact e
mutual
theorem Rr.grow {S : Stat} {m m' : Mv} {H H' : Hp} {g : Sto} (ok : MOk S H g m) (q : GrowS m H m' H') : ∀ {d : D} {v : V}, Rr S m H d v → Rr S m' H' d v
  | _, _, .non => .non
  | _, _, .bl b => .bl b
  | _, _, .int i => .int i
  | _, _, .str x => .str x
  | _, _, .lst h f r => .lst (q.keep _ _ h f.1) (fr_grow q f (by rw [h]; simp)) (Rl.grow ok q r)
  | _, _, .frz h r => .frz (by
      rcases h with ⟨h, f⟩ | h
      · exact .inl (rd_grow q f h)
      · exact .inr h) (Rl.grow ok q r)
  | _, _, .tup h r => .tup (sqt_grow ok q h) (Rl.grow ok q r)
  | _, _, .dic h f d r => .dic (rd_grow q f h).1 (rd_grow q f h).2 d (Rl.grow ok q r)
  | _, _, .ins h f c e r => .ins (q.keep _ _ h f.1) (fr_grow q f (by rw [h]; simp)) c e (Rl.grow ok q r)
  | _, _, .loc e => .loc (mu_grow q.mu e)
theorem Rl.grow {S : Stat} {m m' : Mv} {H H' : Hp} {g : Sto} (ok : MOk S H g m) (q : GrowS m H m' H') : ∀ {ds : List D} {vs : List V}, Rl S m H ds vs → Rl S m' H' ds vs
  | _, _, .nil => .nil
  | _, _, .cons r t => .cons (Rr.grow ok q r) (Rl.grow ok q t)
end
/-- what is one's own and is not written stays -/
theorem Root.grow {S : Stat} {m m' : Mv} {H H' : Hp} {g : Sto} (ok : MOk S H g m) (q : GrowS m H m' H') {a : Addr} {d : D} (h : Root S m H a d) (k : ∀ o, H a = some o → H' a = some o) : Root S m' H' a d := by
  cases h with
  | lst e r => exact .lst (k _ e) (r.grow ok q)
  | dic e f r => exact .dic (k _ e) f (r.grow ok q)
  | ins e c n r => exact .ins (k _ e) c n (r.grow ok q)
theorem Rel.grow {S : Stat} {m m' : Mv} {H H' : Hp} {g g' : Sto} {σ : St} {env : Env} (r : Rel S H σ env g m) (q : Grow m H m' H') (ok' : MOk S H' g' m') : Rel S H' σ env g' m' := by
  have qs := q.s r.mem.muW
  refine ⟨ok', r.len, fun i s ov he hs => ?_, r.own⟩
  have h := r.slot i s ov he hs
  cases s with
  | no => trivial
  | sh d =>
    obtain ⟨v, e, h⟩ := h
    exact ⟨v, e, h.grow r.mem qs⟩
  | ow d =>
    obtain ⟨a, e, hw, hm, h⟩ := h
    refine ⟨a, e, q.wk a hw, fun z => ?_, h.grow r.mem qs fun o e => q.keep a o e hm⟩
    rcases q.mun a z with z | z
    · exact hm z
    · have := r.mem.trk a (.inl hw); rw [z] at this; exact this
theorem GrowS.trans {m m1 m2 : Mv} {H H1 H2 : Hp} (a : GrowS m H m1 H1) (b : GrowS m1 H1 m2 H2) : GrowS m H m2 H2 := by
  have back := a.liv
  refine ⟨fun x o h n => ?_, fun x h => back x (b.liv x h), ?_, fun x hx => ?_, fun x hx => ?_, b.b.trans a.b⟩
  · refine b.keep x o (a.keep x o h n) fun z => ?_
    rcases a.wn x z with z | z
    · exact n z
    · rw [h] at z; cases z
  · obtain ⟨t, e⟩ := a.mu
    obtain ⟨t', e'⟩ := b.mu
    exact ⟨t ++ t', by rw [e', e, List.append_assoc]⟩
  · rcases b.mun x hx with z | z
    · exact a.mun x z
    · exact .inr (back x z)
  · rcases b.wn x hx with z | z
    · exact a.wn x z
    · exact .inr (back x z)
end Ev
namespace Ev
open PySem PySem.Spec PyProof.Rows L2
/-! ### weaker claims -/
mutual
theorem Rr.weak {S : Stat} {m m' : Mv} {H : Hp} (f : ∀ a, m.fr a → m'.fr a) (e : ∀ (n : Nat) (a : Addr), m.mu[n]? = some a → m'.mu[n]? = some a) : ∀ {d : D} {v : V}, Rr S m H d v → Rr S m' H d v
  | _, _, .non => .non
  | _, _, .bl b => .bl b
  | _, _, .int i => .int i
  | _, _, .str x => .str x
  | _, _, .lst h z r => .lst h (f _ z) (Rl.weak f e r)
  | _, _, .frz h r => .frz (by
      rcases h with ⟨h, z⟩ | h
      · exact .inl ⟨h, f _ z⟩
      · exact .inr h) (Rl.weak f e r)
  | _, _, .tup h r => .tup h (Rl.weak f e r)
  | _, _, .dic h z d r => .dic h (f _ z) d (Rl.weak f e r)
  | _, _, .ins h z c n r => .ins h (f _ z) c n (Rl.weak f e r)
  | _, _, .loc h => .loc (e _ _ h)
theorem Rl.weak {S : Stat} {m m' : Mv} {H : Hp} (f : ∀ a, m.fr a → m'.fr a) (e : ∀ (n : Nat) (a : Addr), m.mu[n]? = some a → m'.mu[n]? = some a) : ∀ {ds : List D} {vs : List V}, Rl S m H ds vs → Rl S m' H ds vs
  | _, _, .nil => .nil
  | _, _, .cons r t => .cons (Rr.weak f e r) (Rl.weak f e t)
end
theorem Root.weak {S : Stat} {m m' : Mv} {H : Hp} {a : Addr} {d : D} (h : Root S m H a d) (f : ∀ a, m.fr a → m'.fr a) (e : ∀ (n : Nat) (a : Addr), m.mu[n]? = some a → m'.mu[n]? = some a) : Root S m' H a d := by
  cases h with
  | lst h r => exact .lst h (r.weak f e)
  | dic h d r => exact .dic h d (r.weak f e)
  | ins h c n r => exact .ins h c n (r.weak f e)
theorem Rl.length {S : Stat} {m : Mv} {H : Hp} : ∀ {ds : List D} {vs : List V}, Rl S m H ds vs → ds.length = vs.length
  | _, _, .nil => rfl
  | _, _, .cons _ t => by simp [Rl.length t]
theorem Rl.append {S : Stat} {m : Mv} {H : Hp} : ∀ {ds ds' : List D} {vs vs' : List V}, Rl S m H ds vs → Rl S m H ds' vs' → Rl S m H (ds ++ ds') (vs ++ vs')
  | _, _, _, _, .nil, h => h
  | _, _, _, _, .cons r t, h => .cons r (Rl.append t h)
theorem Rl.get {S : Stat} {m : Mv} {H : Hp} : ∀ {ds : List D} {vs : List V} {i : Nat} {d : D}, Rl S m H ds vs → ds[i]? = some d → ∃ v, vs[i]? = some v ∧ Rr S m H d v
  | _, _, _, _, .nil, h => by simp at h
  | _, _, 0, _, .cons r t, h => by simp at h; subst h; exact ⟨_, rfl, r⟩
  | _, _, i + 1, _, .cons r t, h => by
    obtain ⟨v, e, q⟩ := Rl.get (i := i) t (by simpa using h)
    exact ⟨v, by simpa using e, q⟩
theorem Rl.getV {S : Stat} {m : Mv} {H : Hp} : ∀ {ds : List D} {vs : List V} {i : Nat} {v : V}, Rl S m H ds vs → vs[i]? = some v → ∃ d, ds[i]? = some d ∧ Rr S m H d v
  | _, _, _, _, .nil, h => by simp at h
  | _, _, 0, _, .cons r t, h => by simp at h; subst h; exact ⟨_, rfl, r⟩
  | _, _, i + 1, _, .cons r t, h => by
    obtain ⟨v, e, q⟩ := Rl.getV (i := i) t (by simpa using h)
    exact ⟨v, by simpa using e, q⟩
theorem Rl.take {S : Stat} {m : Mv} {H : Hp} : ∀ {ds : List D} {vs : List V} (n : Nat), Rl S m H ds vs → Rl S m H (ds.take n) (vs.take n)
  | _, _, 0, _ => .nil
  | _, _, _ + 1, .nil => .nil
  | _, _, n + 1, .cons r t => .cons r (Rl.take n t)
theorem Rl.drop {S : Stat} {m : Mv} {H : Hp} : ∀ {ds : List D} {vs : List V} (n : Nat), Rl S m H ds vs → Rl S m H (ds.drop n) (vs.drop n)
  | _, _, 0, r => r
  | _, _, _ + 1, .nil => .nil
  | _, _, n + 1, .cons _ t => Rl.drop n t
theorem Rl.set {S : Stat} {m : Mv} {H : Hp} {d : D} {v : V} (r : Rr S m H d v) : ∀ {ds : List D} {vs : List V} (i : Nat), Rl S m H ds vs → Rl S m H (ds.set i d) (vs.set i v)
  | _, _, _, .nil => .nil
  | _, _, 0, .cons _ t => .cons r t
  | _, _, i + 1, .cons q t => .cons q (Rl.set r i t)

/-! ### what an expression's reading wants -/
abbrev WX := Value → Option Addr → St → Hp → Prop
def XRd (S : Stat) (m : Mv) (H : Hp) (x : Xc) (cl : Value) (dx : Option Addr) : Prop :=
  ∃ C, S.kc[x.c]? = some C ∧ cl = .ref C ∧ ((dx = none ∧ x.ns = [] ∧ x.vs = []) ∨ ∃ a fs, dx = some a ∧ H a = some (.xd fs) ∧ x.ns = fs.map (·.1) ∧ Rl S m H x.vs (fs.map (·.2)))
section
variable {α β γ δ : Type}
/-- H0: the heap at the start; R tells how the value lies -/
def Post (S : Stat) (R : Hp → Mv → Hp → α → β → Prop) (W : WX) (σ : St) (H0 : Hp) (r : Res α) (m : Mv) (H : Hp) (Q : β → Hp → Prop) : Prop := match r with
  | .ok a g' => ∀ b H' m', Grow m H m' H' → MOk S H' g' m' → R H0 m' H' a b → Q b H'
  | .exc x g' => ∀ cl dx H' m', Grow m H m' H' → MOk S H' g' m' → XRd S m' H' x cl dx → W cl dx σ H'
  | .stuck => False
def Tv (S : Stat) (R : Hp → Mv → Hp → α → β → Prop) (W : WX) (f : En α) : St → Hp → (β → Hp → Prop) → Prop := fun σ H Q => ∃ env g m, Rel S H σ env g m ∧ Post S R W σ H (f env g) m H Q
/-- as a tree; .. as a tree, or one's own that is only looked at; .. new and one's own -/
def RT (S : Stat) : Hp → Mv → Hp → D → V → Prop := fun _ m H d v => Rr S m H d v
def RL (S : Stat) : Hp → Mv → Hp → List D → List V → Prop := fun _ m H d v => Rl S m H d v
def Rb (S : Stat) (m : Mv) (H : Hp) (d : D) (v : V) : Prop := Rr S m H d v ∨ ∃ a, v = .ref a ∧ a ∈ m.W ∧ a ∉ m.mu ∧ Root S m H a d
def RB (S : Stat) : Hp → Mv → Hp → D → V → Prop := fun _ m H d v => Rb S m H d v
def RF (S : Stat) : Hp → Mv → Hp → D → V → Prop := fun H0 m H d v => ∃ a, v = .ref a ∧ a ∈ m.W ∧ a ∉ m.mu ∧ H0 a = none ∧ Root S m H a d
def RQ : Hp → Mv → Hp → Bool → Bool → Prop := fun _ _ _ a b => a = b
theorem Rb.grow {S : Stat} {m m' : Mv} {H H' : Hp} {g g' : Sto} (ok : MOk S H g m) (q : Grow m H m' H') (ok' : MOk S H' g' m') {d : D} {v : V} (h : Rb S m H d v) : Rb S m' H' d v := by
  rcases h with h | ⟨a, e, hw, hm, h⟩
  · exact .inl (h.grow ok (q.s ok.muW))
  · refine .inr ⟨a, e, q.wk a hw, fun z => ?_, h.grow ok (q.s ok.muW) fun o e => q.keep a o e hm⟩
    rcases q.mun a z with z | z
    · exact hm z
    · have := ok.trk a (.inl hw); rw [z] at this; exact this
theorem Post.mono {S : Stat} {R : Hp → Mv → Hp → α → β → Prop} {W : WX} {σ : St} {H0 : Hp} {r : Res α} {m m1 : Mv} {H H1 : Hp} {Q : β → Hp → Prop} (q : Grow m H m1 H1) (h : Post S R W σ H0 r m H Q) : Post S R W σ H0 r m1 H1 Q := by
  cases r with
  | ok a g => exact fun b H' m' q' ok r => h b H' m' (q.trans q') ok r
  | exc x g => exact fun cl dx H' m' q' ok r => h cl dx H' m' (q.trans q') ok r
  | stuck => exact h
theorem Post.bind {S : Stat} {R : Hp → Mv → Hp → α → β → Prop} {R' : Hp → Mv → Hp → γ → δ → Prop} {W : WX} {σ : St} {H0 H0' : Hp} {r : Res α} {k : α → Sto → Res γ} {m : Mv} {H : Hp} {Q : δ → Hp → Prop} (h : Post S R' W σ H0' (r.bind k) m H Q) :
    Post S R W σ H0 r m H (fun b H1 => ∃ a g1 m1, Grow m H m1 H1 ∧ MOk S H1 g1 m1 ∧ R H0 m1 H1 a b ∧ Post S R' W σ H0' (k a g1) m1 H1 Q) := by
  cases r with
  | ok a g => exact fun b H' m' q ok r => ⟨a, g, m', q, ok, r, Post.mono q h⟩
  | exc x g => exact h
  | stuck => exact h
theorem Post.imp {S : Stat} {R R' : Hp → Mv → Hp → α → β → Prop} {W : WX} {σ : St} {H0 : Hp} {r : Res α} {m : Mv} {H : Hp} {Q : β → Hp → Prop} (h : Post S R W σ H0 r m H Q) (hR : ∀ m' H' a b, R' H0 m' H' a b → R H0 m' H' a b) : Post S R' W σ H0 r m H Q := by
  cases r with
  | ok a g => exact fun b H' m' q ok r => h b H' m' q ok (hR _ _ _ _ r)
  | exc x g => exact h
  | stuck => exact h
/-- the value at once -/
theorem Post.now {S : Stat} {R : Hp → Mv → Hp → α → β → Prop} {W : WX} {σ : St} {H0 : Hp} {a : α} {g : Sto} {m : Mv} {H : Hp} {Q : β → Hp → Prop} (h : Post S R W σ H0 (.ok a g) m H Q) (ok : MOk S H g m) {b : β} (r : R H0 m H a b) : Q b H := h b H m (.refl m H) ok r
end
section
variable {X : Cx} {S : Stat} {W : WX}
theorem PE.to {e : Expr} {t t' : TE} (h : PE X e t) (i : ∀ σ H Q, t' σ H Q → t σ H Q) : PE X e t' := ⟨fun pins s σ H Q I q => h.run pins s σ H Q I (i σ H Q q)⟩
theorem PT.to {e : Expr} {t t' : TT} (h : PT X e t) (i : ∀ σ H Q, t' σ H Q → t σ H Q) : PT X e t' := ⟨fun pins s σ H Q I q => h.run pins s σ H Q I (i σ H Q q)⟩
theorem PW.to {e : Expr} {t t' : TT} (h : PW X e t) (i : ∀ σ H Q, t' σ H Q → t σ H Q) : PW X e t' := ⟨fun wh pins s σ H Q I q => h.run wh pins s σ H Q I (i σ H Q q)⟩
theorem PA.to {e : List Expr} {t t' : TA} (h : PA X e t) (i : ∀ σ H Q, t' σ H Q → t σ H Q) : PA X e t' := ⟨fun p pins s σ H Q I q => h.run p pins s σ H Q I (i σ H Q q)⟩
theorem PS.to {e : Stmt} {t t' : TS} (h : PS X e t) (i : ∀ D σ H, t' D σ H → t D σ H) : PS X e t' := ⟨fun pins s σ H D I q => h.run pins s σ H D I (i D σ H q)⟩
theorem PSs.to {e : List Stmt} {t t' : TS} (h : PSs X e t) (i : ∀ D σ H, t' D σ H → t D σ H) : PSs X e t' := ⟨fun pins s σ H D I q => h.run pins s σ H D I (i D σ H q)⟩
/-- an expression's judgement: a tree; looked at; new -/
abbrev Pe (X : Cx) (S : Stat) (W : WX) (e : Expr) (f : E1) : Prop := PE X e (Tv S (RT S) W f)
abbrev Pb (X : Cx) (S : Stat) (W : WX) (e : Expr) (f : E1) : Prop := PE X e (Tv S (RB S) W f)
abbrev Pf (X : Cx) (S : Stat) (W : WX) (e : Expr) (f : E1) : Prop := PE X e (Tv S (RF S) W f)
abbrev Pt (X : Cx) (S : Stat) (W : WX) (e : Expr) (f : En Bool) : Prop := PT X e (Tv S RQ W f)
abbrev Pas (X : Cx) (S : Stat) (W : WX) (es : List Expr) (f : En (List D)) : Prop := PA X es (Tv S (RL S) W f)

theorem Tv.imp {α β : Type} {R R' : Hp → Mv → Hp → α → β → Prop} {f : En α} {σ : St} {H : Hp} {Q : β → Hp → Prop} (hR : ∀ H0 m' H' a b, R' H0 m' H' a b → R H0 m' H' a b) (h : Tv S R W f σ H Q) : Tv S R' W f σ H Q := by
  obtain ⟨env, g, m, r, p⟩ := h
  exact ⟨env, g, m, r, p.imp (hR H)⟩
theorem b_of {e : Expr} {f : E1} (h : Pe X S W e f) : Pb X S W e f := PE.to h fun _ _ _ q => Tv.imp (fun _ _ _ _ _ r => .inl r) q
/-! ### ownership is given up -/
def Mv.drop (m : Mv) (a : Addr) : Mv := { m with W := m.W.filter fun b => decide (b ≠ a) }
theorem mem_drop {m : Mv} {a b : Addr} : b ∈ (m.drop a).W ↔ b ∈ m.W ∧ b ≠ a := by simp [Mv.drop]
theorem fr_drop {m : Mv} {a b : Addr} (h : m.fr b) : (m.drop a).fr b := ⟨fun z => h.1 (mem_drop.mp z).1, h.2⟩
theorem MOk.drop {H : Hp} {g : Sto} {m : Mv} (ok : MOk S H g m) {a : Addr} (hm : a ∉ m.mu) : MOk S H g (m.drop a) :=
  ⟨ok.len, fun n d b e e' => (ok.sto n d b e e').weak (fun _ => fr_drop) fun _ _ h => h, ok.nd, fun b hb => mem_drop.mpr ⟨ok.muW b hb, fun e => hm (e ▸ hb)⟩,
   fun b hb => ok.trk b (hb.imp (fun z => (mem_drop.mp z).1) id), fun b hb z => ok.dis b hb (mem_drop.mp z).1⟩
theorem Root.rr {H : Hp} {m : Mv} {a : Addr} {d : D} (h : Root S m H a d) (f : m.fr a) : Rr S m H d (.ref a) := by
  cases h with
  | lst e r => exact .lst e f r
  | dic e d r => exact .dic (.inl e) f d r
  | ins e c n r => exact .ins e f c n r
theorem drop_rr {H : Hp} {g : Sto} {m : Mv} (ok : MOk S H g m) {a : Addr} {d : D} (hw : a ∈ m.W) (h : Root S m H a d) : Rr S (m.drop a) H d (.ref a) :=
  (h.weak (m' := m.drop a) (fun _ => fr_drop) fun _ _ h => h).rr ⟨fun z => (mem_drop.mp z).2 rfl, fun z => ok.dis a z hw⟩
/-- a new thing as a tree -/
theorem e_of {e : Expr} {f : E1} (h : Pf X S W e f) : Pe X S W e f := PE.to h fun σ H Q ⟨env, g, m, r, p⟩ => by
  refine ⟨env, g, m, r, ?_⟩
  cases q : f env g with
  | stuck => rw [q] at p; exact p
  | exc x g' => rw [q] at p; exact p
  | ok d g' =>
    rw [q] at p
    intro v H' m' gr ok ⟨a, e, hw, hm, hn, ro⟩
    subst e
    refine p _ H' (m'.drop a) ⟨gr.keep, gr.liv, gr.mu, gr.mun, fun b hb => mem_drop.mpr ⟨gr.wk b hb, fun z => ?_⟩, fun b hb => gr.wn b (mem_drop.mp hb).1, gr.b⟩ (ok.drop hm) (drop_rr ok hw ro)
    subst z
    have := r.mem.trk b (.inl hb); rw [hn] at this; exact this
/-! ### names and constants -/
def eVar (i : Nat) : E1 := fun env g => match env[i]? with
  | some (.sh d) => .ok d g
  | _ => .stuck
/-- .. looked at -/
def eVarB (i : Nat) : E1 := fun env g => match env[i]? with
  | some (.sh d) => .ok d g
  | some (.ow d) => .ok d g
  | _ => .stuck
def eC (d : D) : E1 := fun _ g => .ok d g
theorem Rel.at {H : Hp} {σ : St} {env : Env} {g : Sto} {m : Mv} (r : Rel S H σ env g m) {i : Nat} {s : Slot} (e : env[i]? = some s) : ∃ ov, σ[i]? = some ov ∧ SlotOk S m H s ov := by
  have hi : i < σ.length := by rw [r.len]; exact (List.getElem?_eq_some_iff.mp e).1
  exact ⟨σ[i], by simp [hi], r.slot i s _ e (by simp [hi])⟩
theorem e_var {i : Nat} {e : Expr} (h : PE X e (tVar i)) : Pe X S W e (eVar i) := PE.to h fun σ H Q ⟨env, g, m, r, p⟩ => by
  unfold eVar at p
  cases q : env[i]? with
  | none => rw [q] at p; exact p.elim
  | some s =>
    rw [q] at p
    obtain ⟨ov, e1, e2⟩ := r.at q
    cases s with
    | no => exact p.elim
    | ow d => exact p.elim
    | sh d =>
      obtain ⟨v, rfl, e2⟩ := e2
      exact ⟨v, e1, p.now r.mem e2⟩
theorem b_var {i : Nat} {e : Expr} (h : PE X e (tVar i)) : Pb X S W e (eVarB i) := PE.to h fun σ H Q ⟨env, g, m, r, p⟩ => by
  unfold eVarB at p
  cases q : env[i]? with
  | none => rw [q] at p; exact p.elim
  | some s =>
    rw [q] at p
    obtain ⟨ov, e1, e2⟩ := r.at q
    cases s with
    | no => exact p.elim
    | ow d =>
      obtain ⟨a, rfl, hw, hm, e2⟩ := e2
      exact ⟨.ref a, e1, p.now r.mem (.inr ⟨a, rfl, hw, hm, e2⟩)⟩
    | sh d =>
      obtain ⟨v, rfl, e2⟩ := e2
      exact ⟨v, e1, p.now r.mem (.inl e2)⟩
theorem e_c {e : Expr} {v : V} {d : D} (h : PE X e (tC v)) (hd : ∀ m H, Rr S m H d v) : Pe X S W e (eC d) := PE.to h fun σ H Q ⟨env, g, m, r, p⟩ => p.now r.mem (hd m H)
theorem e_int {i j pos} : Pe X S W (.Constant (.int i) j pos) (eC (.int i)) := e_c pe_int fun _ _ => .int i
theorem e_bl {b j pos} : Pe X S W (.Constant (.bool b) j pos) (eC (.bl b)) := e_c pe_bl fun _ _ => .bl b
theorem e_non {j pos} : Pe X S W (.Constant .none j pos) (eC .non) := e_c pe_non fun _ _ => .non
theorem e_str {x j pos} : Pe X S W (.Constant (.str x) j pos) (eC (.str x)) := e_c pe_str fun _ _ => .str x
/-! ### two parts, one after another -/
def eB {α β γ : Type} (sem : α → β → Sto → Res γ) (fa : En α) (fb : En β) : En γ := fun env g => (fa env g).bind fun a g1 => (fb env g1).bind fun b g2 => sem a b g2
def eU {α γ : Type} (sem : α → Sto → Res γ) (fa : En α) : En γ := fun env g => (fa env g).bind fun a g1 => sem a g1
/-- relations that stay -/
def Stays {α β : Type} (S : Stat) (R : Hp → Mv → Hp → α → β → Prop) : Prop := ∀ H0 m H g m' H' g' a b, MOk S H g m → Grow m H m' H' → MOk S H' g' m' → R H0 m H a b → R H0 m' H' a b
theorem rt_stays : Stays S (RT S) := fun _ _ _ _ _ _ _ _ _ ok q _ h => Rr.grow ok (q.s ok.muW) h
theorem rl_stays : Stays S (RL S) := fun _ _ _ _ _ _ _ _ _ ok q _ h => Rl.grow ok (q.s ok.muW) h
theorem rb_stays : Stays S (RB S) := fun _ _ _ _ _ _ _ _ _ ok q ok' h => Rb.grow ok q ok' h
/-- both parts are read: what is left is asked of the values -/
theorem Tv.two {α β γ α' β' γ' : Type} {Ra : Hp → Mv → Hp → α → α' → Prop} {Rb : Hp → Mv → Hp → β → β' → Prop} {Rc : Hp → Mv → Hp → γ → γ' → Prop} {sem : α → β → Sto → Res γ} {fa : En α} {fb : En β} {σ : St} {H : Hp} {Q : γ' → Hp → Prop}
    (sa : Stays S Ra) (h : Tv S Rc W (eB sem fa fb) σ H Q) {R : α' → β' → Hp → Prop}
    (k : ∀ env m g H1 a b x y, Rel S H1 σ env g m → (∀ z, H1 z = none → H z = none) → (∃ H0, Ra H0 m H1 a x) → (∃ H0, Rb H0 m H1 b y) → Post S Rc W σ H (sem a b g) m H1 Q → R x y H1) :
    Tv S Ra W fa σ H fun x H1 => Tv S Rb W fb σ H1 fun y H2 => R x y H2 := by
  obtain ⟨env, g, m, r, p⟩ := h
  refine ⟨env, g, m, r, ?_⟩
  have p1 := Post.bind (R := Ra) (H0 := H) p
  cases q : fa env g with
  | stuck => rw [q] at p1; exact p1
  | exc x g' => rw [q] at p1; exact p1
  | ok a g1 =>
    rw [q] at p1
    intro x H1 m1 gr ok ra
    obtain ⟨a', g1', m1', gr', ok', ra', p2⟩ := p1 x H1 m1 gr ok ra
    have r1 := r.grow gr' ok'
    refine ⟨env, g1', m1', r1, ?_⟩
    have p3 := Post.bind (R := Rb) (H0 := H1) p2
    cases q2 : fb env g1' with
    | stuck => rw [q2] at p3; exact p3
    | exc x g' => rw [q2] at p3; exact p3
    | ok b g2 =>
      rw [q2] at p3
      intro y H2 m2 gr2 ok2 rb
      obtain ⟨b', g2', m2', gr2', ok2', rb', p4⟩ := p3 y H2 m2 gr2 ok2 rb
      exact k env m2' g2' H2 a' b' x y (r1.grow gr2' ok2') (fun z hz => gr'.liv z (gr2'.liv z hz)) ⟨_, sa _ _ _ _ _ _ _ _ _ ok' gr2' ok2' ra'⟩ ⟨_, rb'⟩ p4
theorem Tv.one {α γ α' γ' : Type} {Ra : Hp → Mv → Hp → α → α' → Prop} {Rc : Hp → Mv → Hp → γ → γ' → Prop} {sem : α → Sto → Res γ} {fa : En α} {σ : St} {H : Hp} {Q : γ' → Hp → Prop}
    (h : Tv S Rc W (eU sem fa) σ H Q) {R : α' → Hp → Prop}
    (k : ∀ env m g H1 a x, Rel S H1 σ env g m → (∀ z, H1 z = none → H z = none) → (∃ H0, Ra H0 m H1 a x) → Post S Rc W σ H (sem a g) m H1 Q → R x H1) :
    Tv S Ra W fa σ H fun x H1 => R x H1 := by
  obtain ⟨env, g, m, r, p⟩ := h
  refine ⟨env, g, m, r, ?_⟩
  have p1 := Post.bind (R := Ra) (H0 := H) p
  cases q : fa env g with
  | stuck => rw [q] at p1; exact p1
  | exc x g' => rw [q] at p1; exact p1
  | ok a g1 =>
    rw [q] at p1
    intro x H1 m1 gr ok ra
    obtain ⟨a', g1', m1', gr', ok', ra', p2⟩ := p1 x H1 m1 gr ok ra
    exact k env m1' g1' H1 a' x (r.grow gr' ok') gr'.liv ⟨_, ra'⟩ p2
end
end Ev
namespace Ev
open PySem PySem.Spec PyProof.Rows L2
/-! ### == of trees -/
mutual
/-- a == b; none: not told. n: how deep -/
def deq : Nat → D → D → Option Bool
  | _, .non, .non => some true
  | _, .non, .bl _ => some false
  | _, .non, .int _ => some false
  | _, .non, .str _ => some false
  | _, .bl _, .non => some false
  | _, .bl a, .bl b => some (a == b)
  | _, .bl a, .int b => some ((if a then 1 else 0) == b)
  | _, .bl _, .str _ => some false
  | _, .int _, .non => some false
  | _, .int a, .bl b => some (a == (if b then 1 else 0))
  | _, .int a, .int b => some (a == b)
  | _, .int _, .str _ => some false
  | _, .str _, .non => some false
  | _, .str _, .bl _ => some false
  | _, .str _, .int _ => some false
  | _, .str a, .str b => some (a == b)
  | _, .lst _, .non => some false
  | _, .lst _, .bl _ => some false
  | _, .lst _, .int _ => some false
  | _, .lst _, .str _ => some false
  | _, .tup _, .non => some false
  | _, .tup _, .bl _ => some false
  | _, .tup _, .int _ => some false
  | _, .tup _, .str _ => some false
  | _, .non, .lst _ => some false
  | _, .bl _, .lst _ => some false
  | _, .int _, .lst _ => some false
  | _, .str _, .lst _ => some false
  | _, .non, .tup _ => some false
  | _, .bl _, .tup _ => some false
  | _, .int _, .tup _ => some false
  | _, .str _, .tup _ => some false
  | _, .lst _, .tup _ => some false
  | _, .tup _, .lst _ => some false
  | n + 1, .lst xs, .lst ys => if xs.length = ys.length then deqL n xs ys else some false
  | n + 1, .tup xs, .tup ys => match deqL n xs ys with
    | some b => some (b && xs.length == ys.length)
    | none => none
  | _, _, _ => none
/-- of the places that both have -/
def deqL : Nat → List D → List D → Option Bool
  | n, x :: xs, y :: ys => match deq n x y, deqL n xs ys with
    | some a, some b => some (a && b)
    | _, _ => none
  | _, _, _ => some true
end
section
variable {X : Cx} {S : Stat} {pins : List (Addr × Obj)} {σ : St} {H : Hp} {s : Shared} {m : Mv}
theorem Rr.lst_inv {ds : List D} {v : V} (h : Rr S m H (.lst ds) v) : ∃ a vs, v = .ref a ∧ SqL S.K H a vs ∧ Rl S m H ds vs := by
  cases h with
  | lst h f r => exact ⟨_, _, rfl, SqL.of h, r⟩
theorem Rr.tup_inv {ds : List D} {v : V} (h : Rr S m H (.tup ds) v) : ∃ a vs, v = .ref a ∧ SqT S.K H a vs ∧ Rl S m H ds vs := by
  cases h with
  | tup h r => exact ⟨_, _, rfl, h, r⟩
theorem Rr.int_inv {i : Int} {v : V} (h : Rr S m H (.int i) v) : v = .int i := by cases h; rfl
theorem Rr.bl_inv {i : Bool} {v : V} (h : Rr S m H (.bl i) v) : v = .bl i := by cases h; rfl
theorem Rr.str_inv {i : Str} {v : V} (h : Rr S m H (.str i) v) : v = .str i := by cases h; rfl
theorem Rr.non_inv {v : V} (h : Rr S m H .non v) : v = .non := by cases h; rfl
theorem lt_not_tup (I : Inv X pins σ H s) {a : Addr} {vs ws : List V} (h : SqL X.K H a vs) (h' : SqT X.K H a ws) : False := by
  obtain ⟨its, _, ⟨o, n, e, c, _, _⟩, _⟩ := I.list h
  obtain ⟨its', _, ⟨o', e', c', _⟩, _⟩ := I.tuple h'
  rw [e] at e'; cases e'
  rw [c] at c'
  exact absurd (Value.type.inj c') (by decide)
mutual
/-- one thing is equal to itself -/
theorem deq_same (I : Inv X pins σ H s) (hK : S.K = X.K) : ∀ (n : Nat) (d e : D) (b : Bool) (v : V), deq n d e = some b → Rr S m H d v → Rr S m H e v → b = true
  | n, .non, e, b, v, h, r, q => by cases r; cases q; simp [deq] at h; exact h
  | n, .bl x, e, b, v, h, r, q => by cases r; cases q; simp [deq] at h; exact h
  | n, .int x, e, b, v, h, r, q => by cases r; cases q; simp [deq] at h; exact h
  | n, .str x, e, b, v, h, r, q => by cases r; cases q; simp [deq] at h; exact h
  | 0, .lst xs, e, b, v, h, r, q => by
    obtain ⟨a, vs, rfl, hs, rl⟩ := r.lst_inv
    cases q with
    | tup hs' _ => exact (lt_not_tup I (hK ▸ hs) (hK ▸ hs')).elim
    | _ => simp [deq] at h
  | n + 1, .lst xs, e, b, v, h, r, q => by
    obtain ⟨a, vs, rfl, hs, rl⟩ := r.lst_inv
    cases q with
    | tup hs' _ => exact (lt_not_tup I (hK ▸ hs) (hK ▸ hs')).elim
    | lst hs' hf' rl' =>
      have e := I.list_inj (hK ▸ hs) (SqL.of hs')
      subst e
      have hl := rl.length.trans rl'.length.symm
      simp only [deq, hl, if_true] at h
      exact deqL_same I hK n _ _ b _ h rl rl'
    | _ => simp [deq] at h
  | 0, .tup xs, e, b, v, h, r, q => by
    obtain ⟨a, vs, rfl, hs, rl⟩ := r.tup_inv
    cases q with
    | lst hs' _ _ => exact (lt_not_tup I (SqL.of hs') (hK ▸ hs)).elim
    | _ => simp [deq] at h
  | n + 1, .tup xs, e, b, v, h, r, q => by
    obtain ⟨a, vs, rfl, hs, rl⟩ := r.tup_inv
    cases q with
    | lst hs' _ _ => exact (lt_not_tup I (SqL.of hs') (hK ▸ hs)).elim
    | tup hs' rl' =>
      have e := I.tuple_inj (hK ▸ hs) (hK ▸ hs')
      subst e
      have hl := rl.length.trans rl'.length.symm
      simp only [deq] at h
      cases q : deqL n xs _ with
      | none => rw [q] at h; cases h
      | some c =>
        rw [q] at h
        simp only [hl, beq_self_eq_true, Bool.and_true, Option.some.injEq] at h
        subst h
        exact deqL_same I hK n _ _ c _ q rl rl'
    | _ => simp [deq] at h
  | n, .dic ks vs, e, b, v, h, r, q => by cases e <;> cases n <;> simp [deq] at h
  | n, .ins c ns vs, e, b, v, h, r, q => by cases e <;> cases n <;> simp [deq] at h
  | n, .loc k, e, b, v, h, r, q => by cases e <;> cases n <;> simp [deq] at h
  | n, .frz k, e, b, v, h, r, q => by cases e <;> cases n <;> simp [deq] at h
theorem deqL_same (I : Inv X pins σ H s) (hK : S.K = X.K) : ∀ (n : Nat) (ds es : List D) (b : Bool) (vs : List V), deqL n ds es = some b → Rl S m H ds vs → Rl S m H es vs → b = true
  | n, [], es, b, vs, h, r, q => by cases r; cases q; simp [deqL] at h; exact h
  | n, d :: ds, es, b, vs, h, r, q => by
    cases r with
    | cons r1 r2 =>
      cases q with
      | cons q1 q2 =>
        simp only [deqL] at h
        split at h
        · rename_i x y hx hy
          have e1 := deq_same I hK n _ _ _ _ hx r1 q1
          have e2 := deqL_same I hK n _ _ _ _ hy r2 q2
          subst e1 e2
          simpa using h.symm
        · cases h
end
theorem rng_all {e : Nat → Bool} {n : Nat} {b : Bool} {c : Bool} (h : ((List.range n).all fun j => e (j + 1)) = b) (h0 : e 0 = c) : (List.range (n + 1)).all e = (c && b) := by
  rw [List.range_succ_eq_map, List.all_cons, List.all_map, h0]
  congr 1
open SeqAt in
mutual
theorem deq_ok (I : Inv X pins σ H s) (hK : S.K = X.K) : ∀ (n : Nat) (d e : D) (b : Bool) (A : Around) (v w : V) (u z : Value), A.units + n < cLine → deq n d e = some b → Rr S m H d v → Rr S m H e w → RelV v u → RelV w z →
    RcAt A s u z b ∧ EqAt A s u z b
  | n, .non, e, b, A, v, w, u, z, hu, h, r, q, ru, rz => by
    cases r; cases ru
    have hu : A.units < cLine := by omega
    cases q with
    | non => cases rz; simp [deq] at h; subst h; exact ⟨.none_none, .same _⟩
    | bl x => cases rz; simp [deq] at h; subst h; exact ⟨.none_bool _, .none_bool _⟩
    | int x => obtain ⟨t, rfl⟩ := rz; simp [deq] at h; subst h; exact ⟨.none_int _ _, .none_int _ _⟩
    | str x => obtain ⟨t, rfl⟩ := rz; simp [deq] at h; subst h; exact ⟨.none_str _ _, .none_str _ _⟩
    | lst hs hf rl =>
      cases rz; simp [deq] at h; subst h
      obtain ⟨its, _, p, _⟩ := I.list (SqL.of hs)
      exact ⟨.none_list p.isList hu, .none_list p.isList hu⟩
    | tup hs rl =>
      cases rz; simp [deq] at h; subst h
      obtain ⟨its, _, p, _⟩ := I.tuple (hK ▸ hs)
      exact ⟨.none_tuple p hu, .none_tuple p hu⟩
    | _ => cases n <;> simp [deq] at h
  | n, .bl y, e, b, A, v, w, u, z, hu, h, r, q, ru, rz => by
    cases r; cases ru
    have hu : A.units < cLine := by omega
    cases q with
    | non => cases rz; simp [deq] at h; subst h; exact ⟨.bool_none _, .bool_none _⟩
    | bl x => cases rz; simp only [deq, Option.some.injEq] at h; subst h; exact ⟨.bool_bool _ _, .bool_bool _ _⟩
    | int x => obtain ⟨t, rfl⟩ := rz; simp only [deq, Option.some.injEq] at h; subst h; exact ⟨.bool_int _ _ _, .bool_int _ _ _⟩
    | str x => obtain ⟨t, rfl⟩ := rz; simp [deq] at h; subst h; exact ⟨.bool_str _ _ _, .bool_str _ _ _⟩
    | lst hs hf rl =>
      cases rz; simp [deq] at h; subst h
      obtain ⟨its, _, p, _⟩ := I.list (SqL.of hs)
      exact ⟨.bool_list _ p.isList hu, .bool_list _ p.isList hu⟩
    | tup hs rl =>
      cases rz; simp [deq] at h; subst h
      obtain ⟨its, _, p, _⟩ := I.tuple (hK ▸ hs)
      exact ⟨.bool_tuple _ p hu, .bool_tuple _ p hu⟩
    | _ => cases n <;> simp [deq] at h
  | n, .int y, e, b, A, v, w, u, z, hu, h, r, q, ru, rz => by
    cases r; obtain ⟨t', rfl⟩ := ru
    have hu : A.units < cLine := by omega
    cases q with
    | non => cases rz; simp [deq] at h; subst h; exact ⟨.int_none _ _, .int_none _ _⟩
    | bl x => cases rz; simp only [deq, Option.some.injEq] at h; subst h; exact ⟨.int_bool _ _ _, .int_bool _ _ _⟩
    | int x => obtain ⟨t, rfl⟩ := rz; simp only [deq, Option.some.injEq] at h; subst h; exact ⟨.int_int _ _ _ _, .int_int _ _ _ _⟩
    | str x => obtain ⟨t, rfl⟩ := rz; simp [deq] at h; subst h; exact ⟨.int_str _ _ _ _, .int_str _ _ _ _⟩
    | lst hs hf rl =>
      cases rz; simp [deq] at h; subst h
      obtain ⟨its, _, p, _⟩ := I.list (SqL.of hs)
      exact ⟨.int_list _ _ p.isList hu, .int_list _ _ p.isList hu⟩
    | tup hs rl =>
      cases rz; simp [deq] at h; subst h
      obtain ⟨its, _, p, _⟩ := I.tuple (hK ▸ hs)
      exact ⟨.int_tuple _ _ p hu, .int_tuple _ _ p hu⟩
    | _ => cases n <;> simp [deq] at h
  | n, .str y, e, b, A, v, w, u, z, hu, h, r, q, ru, rz => by
    cases r; obtain ⟨t', rfl⟩ := ru
    have hu : A.units < cLine := by omega
    cases q with
    | non => cases rz; simp [deq] at h; subst h; exact ⟨.str_none _ _, .str_none _ _⟩
    | bl x => cases rz; simp [deq] at h; subst h; exact ⟨.str_bool _ _ _, .str_bool _ _ _⟩
    | int x => obtain ⟨t, rfl⟩ := rz; simp [deq] at h; subst h; exact ⟨.str_int _ _ _ _, .str_int _ _ _ _⟩
    | str x => obtain ⟨t, rfl⟩ := rz; simp only [deq, Option.some.injEq] at h; subst h; exact ⟨.str_str _ _ _ _, .str_str _ _ _ _⟩
    | lst hs hf rl =>
      cases rz; simp [deq] at h; subst h
      obtain ⟨its, _, p, _⟩ := I.list (SqL.of hs)
      exact ⟨.str_list _ _ p.isList hu, .str_list _ _ p.isList hu⟩
    | tup hs rl =>
      cases rz; simp [deq] at h; subst h
      obtain ⟨its, _, p, _⟩ := I.tuple (hK ▸ hs)
      exact ⟨.str_tuple _ _ p hu, .str_tuple _ _ p hu⟩
    | _ => cases n <;> simp [deq] at h
  | n, .lst xs, e, b, A, v, w, u, z, hu0, h, r, q, ru, rz => by
    have r0 := r
    have q0 := q
    obtain ⟨a, vs, rfl, hs, rl⟩ := r.lst_inv
    cases ru
    have hu : A.units < cLine := by omega
    obtain ⟨its, va, p, _⟩ := I.list (hK ▸ hs)
    cases q with
    | non => cases rz; simp [deq] at h; subst h; exact ⟨.list_none p.isList hu, .list_none p.isList hu⟩
    | bl x => cases rz; simp [deq] at h; subst h; exact ⟨.list_bool _ p.isList hu, .list_bool _ p.isList hu⟩
    | int x => obtain ⟨t, rfl⟩ := rz; simp [deq] at h; subst h; exact ⟨.list_int _ _ p.isList hu, .list_int _ _ p.isList hu⟩
    | str x => obtain ⟨t, rfl⟩ := rz; simp [deq] at h; subst h; exact ⟨.list_str _ _ p.isList hu, .list_str _ _ p.isList hu⟩
    | tup hs' rl' =>
      cases rz; simp [deq] at h; subst h
      obtain ⟨its', _, p', _⟩ := I.tuple (hK ▸ hs')
      exact ⟨.list_tuple p.isList p' hu, .list_tuple p.isList p' hu⟩
    | @lst a' vs' ys hs' hf' rl' =>
      cases rz
      obtain ⟨its', va', p', _⟩ := I.list (SqL.of hs')
      have sz : its.toArray.size = xs.length := by rw [List.size_toArray, ← va.length, rl.length]
      have sz' : its'.toArray.size = ys.length := by rw [List.size_toArray, ← va'.length, rl'.length]
      have rc : RcAt A s (.ref a) (.ref a') b := by
        cases n with
        | zero => simp [deq] at h
        | succ n =>
          simp only [deq] at h
          by_cases hl : xs.length = ys.length
          · rw [if_pos hl] at h
            obtain ⟨ef, h1, h2⟩ := deqL_ok I hK n xs ys b A.in1 vs vs' its its' (by show A.units + 1 + n < cLine; omega) h rl rl' va va'
            have h3 : (List.range its.toArray.size).all ef = b := by rw [sz]; rw [← hl, Nat.min_self] at h1; exact h1
            rw [← h3]
            exact .lists p.isList p'.isList (by rw [sz, sz', hl]) hu fun j h1 h2' => by
              have k1 : j < its.length := by simpa using h1
              have k2 : j < its'.length := by simpa using h2'
              simpa using h2 j its[j] its'[j] (by simp [k1]) (by simp [k2])
          · rw [if_neg hl] at h
            cases h
            exact .lists_lengths p.isList p'.isList (by rw [sz, sz']; simpa using hl) hu
      refine ⟨rc, ?_⟩
      by_cases ha : a = a'
      · subst ha
        have e := deq_same I hK n _ _ _ _ h r0 q0
        subst e
        exact .same _
      · exact .of_refs ha rc
    | _ => cases n <;> simp [deq] at h
  | n, .tup xs, e, b, A, v, w, u, z, hu0, h, r, q, ru, rz => by
    have r0 := r
    have q0 := q
    obtain ⟨a, vs, rfl, hs, rl⟩ := r.tup_inv
    cases ru
    have hu : A.units < cLine := by omega
    obtain ⟨its, va, p, _⟩ := I.tuple (hK ▸ hs)
    cases q with
    | non => cases rz; simp [deq] at h; subst h; exact ⟨.tuple_none p hu, .tuple_none p hu⟩
    | bl x => cases rz; simp [deq] at h; subst h; exact ⟨.tuple_bool _ p hu, .tuple_bool _ p hu⟩
    | int x => obtain ⟨t, rfl⟩ := rz; simp [deq] at h; subst h; exact ⟨.tuple_int _ _ p hu, .tuple_int _ _ p hu⟩
    | str x => obtain ⟨t, rfl⟩ := rz; simp [deq] at h; subst h; exact ⟨.tuple_str _ _ p hu, .tuple_str _ _ p hu⟩
    | lst hs' hf' rl' =>
      cases rz; simp [deq] at h; subst h
      obtain ⟨its', _, p', _⟩ := I.list (SqL.of hs')
      exact ⟨.tuple_list p p'.isList hu, .tuple_list p p'.isList hu⟩
    | @tup a' vs' ys hs' rl' =>
      cases rz
      obtain ⟨its', va', p', _⟩ := I.tuple (hK ▸ hs')
      have sz : its.toArray.size = xs.length := by rw [List.size_toArray, ← va.length, rl.length]
      have sz' : its'.toArray.size = ys.length := by rw [List.size_toArray, ← va'.length, rl'.length]
      have rc : RcAt A s (.ref a) (.ref a') b := by
        cases n with
        | zero => simp [deq] at h
        | succ n =>
          simp only [deq] at h
          cases q2 : deqL n xs ys with
          | none => rw [q2] at h; cases h
          | some c =>
            rw [q2] at h
            obtain ⟨ef, h1, h2⟩ := deqL_ok I hK n xs ys c A.in1 vs vs' its its' (by show A.units + 1 + n < cLine; omega) q2 rl rl' va va'
            have h3 : ((List.range (min its.toArray.size its'.toArray.size)).all ef && its.toArray.size == its'.toArray.size) = b := by rw [sz, sz', h1]; exact Option.some.inj h
            rw [← h3]
            exact .tuples p p' hu fun j h1 h2' => by
              have k1 : j < its.length := by simpa using h1
              have k2 : j < its'.length := by simpa using h2'
              simpa using h2 j its[j] its'[j] (by simp [k1]) (by simp [k2])
      refine ⟨rc, ?_⟩
      by_cases ha : a = a'
      · subst ha
        have e := deq_same I hK n _ _ _ _ h r0 q0
        subst e
        exact .same _
      · exact .of_refs ha rc
    | _ => cases n <;> simp [deq] at h
  | n, .dic ks vs, e, b, A, v, w, u, z, hu, h, r, q, ru, rz => by cases e <;> cases n <;> simp [deq] at h
  | n, .ins c ns vs, e, b, A, v, w, u, z, hu, h, r, q, ru, rz => by cases e <;> cases n <;> simp [deq] at h
  | n, .loc k, e, b, A, v, w, u, z, hu, h, r, q, ru, rz => by cases e <;> cases n <;> simp [deq] at h
  | n, .frz k, e, b, A, v, w, u, z, hu, h, r, q, ru, rz => by cases e <;> cases n <;> simp [deq] at h
theorem deqL_ok (I : Inv X pins σ H s) (hK : S.K = X.K) : ∀ (n : Nat) (ds es : List D) (b : Bool) (A : Around) (vs ws : List V) (us zs : List Value), A.units + n < cLine → deqL n ds es = some b → Rl S m H ds vs → Rl S m H es ws → Vals vs us → Vals ws zs →
    ∃ ef : Nat → Bool, (List.range (min ds.length es.length)).all ef = b ∧ ∀ (j : Nat) (u z : Value), us[j]? = some u → zs[j]? = some z → EqAt A s u z (ef j)
  | n, [], es, b, A, vs, ws, us, zs, hu, h, r, q, ru, rz => by
    cases r; cases ru
    simp [deqL] at h
    subst h
    exact ⟨fun _ => true, by simp, fun j u z e => by simp at e⟩
  | n, d :: ds, [], b, A, vs, ws, us, zs, hu, h, r, q, ru, rz => by
    cases q; cases rz
    simp [deqL] at h
    subst h
    exact ⟨fun _ => true, by simp, fun j u z _ e => by simp at e⟩
  | n, d :: ds, e :: es, b, A, vs, ws, us, zs, hu, h, r, q, ru, rz => by
    cases r with
    | cons r1 r2 =>
      cases q with
      | cons q1 q2 =>
        cases ru with
        | cons u1 u2 =>
          cases rz with
          | cons z1 z2 =>
            simp only [deqL] at h
            split at h
            · rename_i x y hx hy
              have e1 := (deq_ok I hK n _ _ _ A _ _ _ _ hu hx r1 q1 u1 z1).2
              obtain ⟨ef, h1, h2⟩ := deqL_ok I hK n _ _ _ A _ _ _ _ hu hy r2 q2 u2 z2
              refine ⟨fun j => match j with | 0 => x | j + 1 => ef j, ?_, fun j u z hu' hz' => ?_⟩
              · have hm : min (d :: ds).length (e :: es).length = min ds.length es.length + 1 := by simp only [List.length_cons]; omega
                rw [hm]
                rw [rng_all (e := fun j => match j with | 0 => x | j + 1 => ef j) (b := y) (c := x) h1 rfl]
                exact Option.some.inj h
              · cases j with
                | zero => simp at hu' hz'; subst hu' hz'; exact e1
                | succ j => exact h2 j u z (by simpa using hu') (by simpa using hz')
            · cases h
end
open SeqAt in
theorem dne_ok (I : Inv X pins σ H s) (hK : S.K = X.K) {n : Nat} {d e : D} {b : Bool} {A : Around} {v w : V} {u z : Value} (hu0 : A.units + n < cLine) (h : deq n d e = some b) (r : Rr S m H d v) (q : Rr S m H e w) (ru : RelV v u) (rz : RelV w z) : RcNeAt A s u z (!b) := by
  have hu : A.units < cLine := by omega
  cases r with
  | non =>
    cases ru
    cases q with
    | non => cases rz; simp only [deq, Option.some.injEq] at h; subst h; exact .none_none 
    | bl x => cases rz; simp only [deq, Option.some.injEq] at h; subst h; exact .none_bool _
    | int x => obtain ⟨t, rfl⟩ := rz; simp only [deq, Option.some.injEq] at h; subst h; exact .none_int _ _
    | str x => obtain ⟨t, rfl⟩ := rz; simp only [deq, Option.some.injEq] at h; subst h; exact .none_str _ _
    | lst hs hf rl =>
      cases rz; simp only [deq, Option.some.injEq] at h; subst h
      obtain ⟨its, _, p, _⟩ := I.list (SqL.of hs)
      exact .none_list  p.isList hu
    | tup hs rl =>
      cases rz; simp only [deq, Option.some.injEq] at h; subst h
      obtain ⟨its, _, p, _⟩ := I.tuple (hK ▸ hs)
      exact .none_tuple  p hu
    | _ => cases n <;> simp [deq] at h
  | bl y =>
    cases ru
    cases q with
    | non => cases rz; simp only [deq, Option.some.injEq] at h; subst h; exact .bool_none _
    | bl x => cases rz; simp only [deq, Option.some.injEq] at h; subst h; exact .bool_bool _ _
    | int x => obtain ⟨t, rfl⟩ := rz; simp only [deq, Option.some.injEq] at h; subst h; exact .bool_int _ _ _
    | str x => obtain ⟨t, rfl⟩ := rz; simp only [deq, Option.some.injEq] at h; subst h; exact .bool_str _ _ _
    | lst hs hf rl =>
      cases rz; simp only [deq, Option.some.injEq] at h; subst h
      obtain ⟨its, _, p, _⟩ := I.list (SqL.of hs)
      exact .bool_list _ p.isList hu
    | tup hs rl =>
      cases rz; simp only [deq, Option.some.injEq] at h; subst h
      obtain ⟨its, _, p, _⟩ := I.tuple (hK ▸ hs)
      exact .bool_tuple _ p hu
    | _ => cases n <;> simp [deq] at h
  | int y =>
    obtain ⟨t', rfl⟩ := ru
    cases q with
    | non => cases rz; simp only [deq, Option.some.injEq] at h; subst h; exact .int_none _ _
    | bl x => cases rz; simp only [deq, Option.some.injEq] at h; subst h; exact .int_bool _ _ _
    | int x => obtain ⟨t, rfl⟩ := rz; simp only [deq, Option.some.injEq] at h; subst h; exact .int_int _ _ _ _
    | str x => obtain ⟨t, rfl⟩ := rz; simp only [deq, Option.some.injEq] at h; subst h; exact .int_str _ _ _ _
    | lst hs hf rl =>
      cases rz; simp only [deq, Option.some.injEq] at h; subst h
      obtain ⟨its, _, p, _⟩ := I.list (SqL.of hs)
      exact .int_list _ _ p.isList hu
    | tup hs rl =>
      cases rz; simp only [deq, Option.some.injEq] at h; subst h
      obtain ⟨its, _, p, _⟩ := I.tuple (hK ▸ hs)
      exact .int_tuple _ _ p hu
    | _ => cases n <;> simp [deq] at h
  | str y =>
    obtain ⟨t', rfl⟩ := ru
    cases q with
    | non => cases rz; simp only [deq, Option.some.injEq] at h; subst h; exact .str_none _ _
    | bl x => cases rz; simp only [deq, Option.some.injEq] at h; subst h; exact .str_bool _ _ _
    | int x => obtain ⟨t, rfl⟩ := rz; simp only [deq, Option.some.injEq] at h; subst h; exact .str_int _ _ _ _
    | str x => obtain ⟨t, rfl⟩ := rz; simp only [deq, Option.some.injEq] at h; subst h; exact .str_str _ _ _ _
    | lst hs hf rl =>
      cases rz; simp only [deq, Option.some.injEq] at h; subst h
      obtain ⟨its, _, p, _⟩ := I.list (SqL.of hs)
      exact .str_list _ _ p.isList hu
    | tup hs rl =>
      cases rz; simp only [deq, Option.some.injEq] at h; subst h
      obtain ⟨its, _, p, _⟩ := I.tuple (hK ▸ hs)
      exact .str_tuple _ _ p hu
    | _ => cases n <;> simp [deq] at h
  | @lst a vs xs hs hf rl =>
    cases ru
    obtain ⟨its, va, p, _⟩ := I.list (SqL.of hs)
    cases q with
    | non => cases rz; simp only [deq, Option.some.injEq] at h; subst h; exact .list_none  p.isList hu
    | bl x => cases rz; simp only [deq, Option.some.injEq] at h; subst h; exact .list_bool _ p.isList hu
    | int x => obtain ⟨t, rfl⟩ := rz; simp only [deq, Option.some.injEq] at h; subst h; exact .list_int _ _ p.isList hu
    | str x => obtain ⟨t, rfl⟩ := rz; simp only [deq, Option.some.injEq] at h; subst h; exact .list_str _ _ p.isList hu
    | tup hs' rl' =>
      cases rz; simp only [deq, Option.some.injEq] at h; subst h
      obtain ⟨its', _, p', _⟩ := I.tuple (hK ▸ hs')
      exact .list_tuple p.isList p' hu
    | @lst a' vs' ys hs' hf' rl' =>
      cases rz
      obtain ⟨its', va', p', _⟩ := I.list (SqL.of hs')
      have sz : its.toArray.size = xs.length := by rw [List.size_toArray, ← va.length, rl.length]
      have sz' : its'.toArray.size = ys.length := by rw [List.size_toArray, ← va'.length, rl'.length]
      cases n with
      | zero => simp [deq] at h
      | succ n =>
        simp only [deq] at h
        by_cases hl : xs.length = ys.length
        · rw [if_pos hl] at h
          obtain ⟨ef, h1, h2⟩ := deqL_ok I hK n xs ys b A.in1 vs vs' its its' (by show A.units + 1 + n < cLine; omega) h rl rl' va va'
          have h3 : (List.range its.toArray.size).all ef = b := by rw [sz]; rw [← hl, Nat.min_self] at h1; exact h1
          rw [← h3]
          exact .lists p.isList p'.isList (by rw [sz, sz', hl]) hu fun j h1 h2' => by
            have k1 : j < its.length := by simpa using h1
            have k2 : j < its'.length := by simpa using h2'
            simpa using h2 j its[j] its'[j] (by simp [k1]) (by simp [k2])
        · rw [if_neg hl] at h
          cases h
          exact .lists_lengths p.isList p'.isList (by rw [sz, sz']; simpa using hl) hu
    | _ => cases n <;> simp [deq] at h
  | @tup a vs xs hs rl =>
    cases ru
    obtain ⟨its, va, p, _⟩ := I.tuple (hK ▸ hs)
    cases q with
    | non => cases rz; simp only [deq, Option.some.injEq] at h; subst h; exact .tuple_none  p hu
    | bl x => cases rz; simp only [deq, Option.some.injEq] at h; subst h; exact .tuple_bool _ p hu
    | int x => obtain ⟨t, rfl⟩ := rz; simp only [deq, Option.some.injEq] at h; subst h; exact .tuple_int _ _ p hu
    | str x => obtain ⟨t, rfl⟩ := rz; simp only [deq, Option.some.injEq] at h; subst h; exact .tuple_str _ _ p hu
    | lst hs' hf' rl' =>
      cases rz; simp only [deq, Option.some.injEq] at h; subst h
      obtain ⟨its', _, p', _⟩ := I.list (SqL.of hs')
      exact .tuple_list p p'.isList hu
    | @tup a' vs' ys hs' rl' =>
      cases rz
      obtain ⟨its', va', p', _⟩ := I.tuple (hK ▸ hs')
      have sz : its.toArray.size = xs.length := by rw [List.size_toArray, ← va.length, rl.length]
      have sz' : its'.toArray.size = ys.length := by rw [List.size_toArray, ← va'.length, rl'.length]
      cases n with
      | zero => simp [deq] at h
      | succ n =>
        simp only [deq] at h
        cases q2 : deqL n xs ys with
        | none => rw [q2] at h; cases h
        | some c =>
          rw [q2] at h
          obtain ⟨ef, h1, h2⟩ := deqL_ok I hK n xs ys c A.in1 vs vs' its its' (by show A.units + 1 + n < cLine; omega) q2 rl rl' va va'
          have h3 : ((List.range (min its.toArray.size its'.toArray.size)).all ef && its.toArray.size == its'.toArray.size) = b := by rw [sz, sz', h1]; exact Option.some.inj h
          rw [← h3]
          exact .tuples p p' hu fun j h1 h2' => by
            have k1 : j < its.length := by simpa using h1
            have k2 : j < its'.length := by simpa using h2'
            simpa using h2 j its[j] its'[j] (by simp [k1]) (by simp [k2])
    | _ => cases n <;> simp [deq] at h
  | _ => cases e <;> cases n <;> simp [deq] at h
end
end Ev
namespace Ev
open PySem PySem.Spec PyProof.Rows L2
section
variable {X : Cx} {S : Stat} {W : WX} {H H0 : Hp} {g : Sto} {m : Mv} {σ : St} {p : Addr} {o : HO}
/-! ### a new object -/
theorem grow_new (h : H p = none) : Grow m H m (upd H p o) :=
  ⟨fun a u e _ => by rw [upd_ne (ne_of_none e h)]; exact e, fun a e => by
    by_cases ha : a = p
    · subst ha; rw [upd_same] at e; cases e
    · rw [upd_ne ha] at e; exact e, ⟨[], by simp⟩, fun _ h => .inl h, fun _ h => h, fun _ h => .inl h, rfl⟩
theorem MOk.of_grow {m' : Mv} {H' : Hp} (ok : MOk S H g m) (q : Grow m H m' H') (hmu : m'.mu = m.mu) (keep : ∀ a ∈ m.mu, ∀ u, H a = some u → H' a = some u) (trk : ∀ a ∈ m'.W, a ∉ m.W → Mut (H' a)) (dis : ∀ a ∈ m'.W, a ∉ m.W → a ∉ m.B) : MOk S H' g m' := by
  have kp : ∀ a u, H a = some u → H' a = some u := fun a u e => by
    by_cases ha : a ∈ m.mu
    · exact keep a ha u e
    · exact q.keep a u e ha
  have mt : ∀ a, Mut (H a) → Mut (H' a) := fun a h => by
    cases e : H a with
    | none => rw [e] at h; exact h.elim
    | some u => rw [kp a u e]; rw [e] at h; exact h
  refine ⟨by rw [hmu]; exact ok.len, fun n d a e1 e2 => ?_, by rw [hmu]; exact ok.nd, fun a ha => q.wk a (ok.muW a (hmu ▸ ha)), fun a ha => ?_, fun a ha hw => ?_⟩
  · rw [hmu] at e2
    exact (ok.sto n d a e1 e2).grow ok (q.s ok.muW) fun u e => kp a u e
  · rcases ha with ha | ha
    · by_cases hw : a ∈ m.W
      · exact mt a (ok.trk a (.inl hw))
      · exact trk a ha hw
    · rw [q.b] at ha
      exact mt a (ok.trk a (.inr ha))
  · rw [q.b] at ha
    by_cases hw' : a ∈ m.W
    · exact ok.dis a ha hw'
    · exact dis a hw hw' ha
theorem MOk.new (ok : MOk S H g m) (h : H p = none) : MOk S (upd H p o) g m :=
  ok.of_grow (grow_new h) rfl (fun a ha u e => by rw [upd_ne (ne_of_none e h)]; exact e) (fun a h1 h2 => absurd h1 h2) fun a h1 h2 => absurd h1 h2
theorem MOk.fr_new (ok : MOk S H g m) (h : H p = none) : m.fr p := ok.free h
def Mv.own (m : Mv) (p : Addr) : Mv := { m with W := p :: m.W }
theorem grow_own (h : H p = none) : Grow m H (m.own p) (upd H p o) :=
  ⟨(grow_new (m := m) (o := o) h).keep, (grow_new (m := m) (o := o) h).liv, ⟨[], by simp [Mv.own]⟩, fun _ h => .inl h, fun a ha => List.mem_cons_of_mem _ ha, fun a ha => by
    rcases List.mem_cons.mp ha with rfl | ha
    · exact .inr h
    · exact .inl ha, rfl⟩
theorem MOk.own (ok : MOk S H g m) (h : H p = none) (mu : Mut (some o)) : MOk S (upd H p o) g (m.own p) :=
  ok.of_grow (grow_own h) rfl (fun a ha u e => by rw [upd_ne (ne_of_none e h)]; exact e) (fun a h1 h2 => by
    rcases List.mem_cons.mp h1 with rfl | h1
    · rw [upd_same]; exact mu
    · exact absurd h1 h2) fun a h1 h2 => by
    rcases List.mem_cons.mp h1 with rfl | h1
    · exact (ok.free h).2
    · exact absurd h1 h2
/-- a new list, a new tuple as a tree -/
theorem Post.newL {ds : List D} {vs : List V} {Q : VK} (h : Post S (RT S) W σ H0 (.ok (.lst ds) g) m H Q) (ok : MOk S H g m) (r : Rl S m H ds vs) (hp : H p = none) : Q (.ref p) (upd H p (.lst vs)) :=
  h _ _ m (grow_new hp) (ok.new hp) (.lst upd_same (ok.free hp) (r.grow ok ((grow_new hp).s ok.muW)))
theorem Post.newT {ds : List D} {vs : List V} {Q : VK} (h : Post S (RT S) W σ H0 (.ok (.tup ds) g) m H Q) (ok : MOk S H g m) (r : Rl S m H ds vs) (hp : H p = none) : Q (.ref p) (upd H p (.tup vs)) :=
  h _ _ m (grow_new hp) (ok.new hp) (.tup (.inl (.inl upd_same)) (r.grow ok ((grow_new hp).s ok.muW)))
/-- a new list that is one's own -/
theorem Post.ownL {ds : List D} {vs : List V} {Q : VK} (h : Post S (RF S) W σ H0 (.ok (.lst ds) g) m H Q) (ok : MOk S H g m) (r : Rl S m H ds vs) (hp : H p = none) (h0 : ∀ z, H z = none → H0 z = none) : Q (.ref p) (upd H p (.lst vs)) :=
  h _ _ (m.own p) (grow_own hp) (ok.own hp trivial) ⟨p, rfl, List.mem_cons_self, fun z => (ok.free hp).1 (ok.muW p z), h0 p hp, .lst upd_same (r.grow ok ((grow_own hp).s ok.muW))⟩
/-! ### nothing owned: for what is only read -/
def Mv.bare (m : Mv) : Mv := ⟨m.mu, [], []⟩
theorem bare_fr (a : Addr) : m.bare.fr a := ⟨fun z => absurd (show a ∈ ([] : List Addr) from z) (by simp), fun z => absurd (show a ∈ ([] : List Addr) from z) (by simp)⟩
theorem Rr.bare {d : D} {v : V} (h : Rr S m H d v) : Rr S m.bare H d v := Rr.weak (m := m) (fun a _ => bare_fr a) (fun _ _ e => e) h
theorem Rl.bare {d : List D} {v : List V} (h : Rl S m H d v) : Rl S m.bare H d v := Rl.weak (m := m) (fun a _ => bare_fr a) (fun _ _ e => e) h
/-- a value that is read at once: a tree, or the content of what someone owns -/
def Rv (S : Stat) (m : Mv) (H : Hp) (d : D) (v : V) : Prop := Rr S m H d v ∨ ∃ a, v = .ref a ∧ Root S m H a d
theorem Rb.v {d : D} {v : V} (h : Rb S m H d v) : Rv S m H d v := h.imp id fun ⟨a, e, _, _, r⟩ => ⟨a, e, r⟩
theorem Rv.bare {d : D} {v : V} (h : Rv S m H d v) : Rr S m.bare H d v := by
  rcases h with h | ⟨a, rfl, h⟩
  · exact h.bare
  · exact (h.weak (m' := m.bare) (fun a _ => bare_fr a) fun _ _ e => e).rr (bare_fr a)
/-- a list that is looked at: its items are trees -/
theorem Rv.lst {ds : List D} {v : V} (h : Rv S m H (.lst ds) v) : ∃ a vs, v = .ref a ∧ SqL S.K H a vs ∧ Rl S m H ds vs := by
  rcases h with h | ⟨a, rfl, h⟩
  · exact h.lst_inv
  · cases h with
    | lst e r => exact ⟨a, _, rfl, .inl (.inl e), r⟩
theorem Rv.frz {ds : List D} {v : V} (h : Rv S m H (.frz ds) v) : ∃ a vs, v = .ref a ∧ SqL S.K H a vs ∧ Rl S m H ds vs := by
  rcases h with h | ⟨a, rfl, h⟩
  · cases h with
    | frz h r => exact ⟨_, _, rfl, h.sq, r⟩
  · cases h
theorem Rv.tup {ds : List D} {v : V} (h : Rv S m H (.tup ds) v) : ∃ a vs, v = .ref a ∧ SqT S.K H a vs ∧ Rl S m H ds vs := by
  rcases h with h | ⟨a, rfl, h⟩
  · exact h.tup_inv
  · cases h
theorem Rv.int {i : Int} {v : V} (h : Rv S m H (.int i) v) : v = .int i := by
  rcases h with h | ⟨a, rfl, h⟩
  · exact h.int_inv
  · cases h
theorem Rv.str {i : Str} {v : V} (h : Rv S m H (.str i) v) : v = .str i := by
  rcases h with h | ⟨a, rfl, h⟩
  · exact h.str_inv
  · cases h
theorem Rv.bl {i : Bool} {v : V} (h : Rv S m H (.bl i) v) : v = .bl i := by
  rcases h with h | ⟨a, rfl, h⟩
  · exact h.bl_inv
  · cases h
theorem Rv.non {v : V} (h : Rv S m H .non v) : v = .non := by
  rcases h with h | ⟨a, rfl, h⟩
  · exact h.non_inv
  · cases h
theorem Rb.bare {d : D} {v : V} (h : Rb S m H d v) : Rr S m.bare H d v := h.v.bare
theorem Rb.lst {ds : List D} {v : V} (h : Rb S m H (.lst ds) v) : ∃ a vs, v = .ref a ∧ SqL S.K H a vs ∧ Rl S m H ds vs := h.v.lst
theorem Rb.tup {ds : List D} {v : V} (h : Rb S m H (.tup ds) v) : ∃ a vs, v = .ref a ∧ SqT S.K H a vs ∧ Rl S m H ds vs := h.v.tup
theorem Rb.int {i : Int} {v : V} (h : Rb S m H (.int i) v) : v = .int i := h.v.int
theorem Rb.str {i : Str} {v : V} (h : Rb S m H (.str i) v) : v = .str i := h.v.str
theorem Rb.bl {i : Bool} {v : V} (h : Rb S m H (.bl i) v) : v = .bl i := h.v.bl
theorem Rb.non {v : V} (h : Rb S m H .non v) : v = .non := h.v.non
/-! ### the store's things are read -/
def dr (g : Sto) (d : D) : D := match d with
  | .loc n => (g[n]?).getD d
  | d => d
theorem Rv.dr (ok : MOk S H g m) {d : D} {v : V} (h : Rv S m H d v) : Rv S m H (dr g d) v := by
  cases d with
  | loc n =>
    simp only [Ev.dr]
    cases q : g[n]? with
    | none => exact h
    | some d' =>
      rcases h with h | ⟨a, rfl, h⟩
      · cases h with
        | loc e => exact .inr ⟨_, rfl, ok.sto n d' _ q e⟩
      · cases h
  | _ => exact h
/-! ### operators by values -/
/-- the reading r serves the function sem; both operands looked at -/
def Sem2 (S : Stat) (W : WX) {γ : Type} {δ : Type} (Rc : Hp → Mv → Hp → γ → δ → Prop) (r : V → V → Hp → (δ → Hp → Prop) → Prop) (sem : D → D → Sto → Res γ) : Prop :=
  ∀ (σ : St) (H0 : Hp) (m : Mv) (g : Sto) (H : Hp) (a b : D) (x y : V) (Q : δ → Hp → Prop), MOk S H g m → (∀ z, H z = none → H0 z = none) → Rv S m H a x → Rv S m H b y → Post S Rc W σ H0 (sem a b g) m H Q → r x y H Q
theorem two {α : Type} {Rc : Hp → Mv → Hp → α → V → Prop} {a b : Expr} {fa fb : E1} {sem : D → D → Sto → Res α} {r : R2} (hs : Sem2 S W Rc r sem) {σ : St} {H : Hp} {Q : VK} (h : Tv S Rc W (eB sem fa fb) σ H Q) : tOp r (Tv S (RB S) W fa) (Tv S (RB S) W fb) σ H Q :=
  Tv.two rb_stays h fun env m g H1 a b x y rel fz ⟨_, ra⟩ ⟨_, rb⟩ p => hs σ H m g H1 a b x y Q rel.mem fz ra.v rb.v p
def dr2 {γ : Type} (sem : D → D → Sto → Res γ) : D → D → Sto → Res γ := fun a b g => sem (dr g a) (dr g b) g
def dr1 {γ : Type} (sem : D → Sto → Res γ) : D → Sto → Res γ := fun a g => sem (dr g a) g
theorem Sem2.dr {γ δ : Type} {Rc : Hp → Mv → Hp → γ → δ → Prop} {r : V → V → Hp → (δ → Hp → Prop) → Prop} {sem : D → D → Sto → Res γ} (h : Sem2 S W Rc r sem) : Sem2 S W Rc r (dr2 sem) := fun σ H0 m g H a b x y Q ok fz ra rb p => h σ H0 m g H _ _ x y Q ok fz (ra.dr ok) (rb.dr ok) p
theorem e_op {a b : Expr} {fa fb : E1} {op : Operator} {r : R2} {sem : D → D → Sto → Res D} {Rc : Hp → Mv → Hp → D → V → Prop} {pos : Pos} (ho : OpR X (binaryOp op) r) (hs : Sem2 S W Rc r sem) (ha : Pb X S W a fa) (hb : Pb X S W b fb) : PE X (.BinOp a op b pos) (Tv S Rc W (eB sem fa fb)) :=
  PE.to (pe_op ho ha hb) fun σ H Q h => two (a := a) (b := b) hs h
theorem e_cmp {a b : Expr} {fa fb : E1} {op : CmpOp} {r : R2} {sem : D → D → Sto → Res D} {pos : Pos} (ho : OpR X (compareOp op) r) (hs : Sem2 S W (RT S) r sem) (ha : Pb X S W a fa) (hb : Pb X S W b fb) (hm : behindInMarks op b = false) : Pe X S W (.Compare a [op] [b] pos) (eB sem fa fb) :=
  PE.to (pe_cmpR ho ha hb hm) fun σ H Q h => two (a := a) (b := b) hs h
/-- a value that must be a bool -/
def asB : D → Sto → Res Bool
  | .bl b, g => .ok b g
  | _, _ => .stuck
theorem t_cmp {a b : Expr} {fa fb : E1} {op : CmpOp} {r : R2} {sem : D → D → Sto → Res D} {pos : Pos} (ho : OpR X (compareOp op) r) (hs : Sem2 S W (RT S) r sem) (ha : Pb X S W a fa) (hb : Pb X S W b fb) (hm : behindInMarks op b = false) : Pt X S W (.Compare a [op] [b] pos) (eU asB (eB sem fa fb)) :=
  PT.to (pt_cmpR ho ha hb hm) fun σ H Q h => by
    have h1 : Tv S (RT S) W (eB sem fa fb) σ H fun x H' => ∃ k, x = .bl k ∧ Q k H' := Tv.one (Ra := RT S) h fun env m g H1 a x rel _ ⟨_, ra⟩ p => by
      cases a with
      | bl k => exact ⟨k, ra.bl_inv, p.now rel.mem rfl⟩
      | _ => exact p.elim
    exact two (a := a) (b := b) hs h1
theorem t_val {e : Expr} {f : E1} (h : Pe X S W e f) (he : ∀ whole, isTrue e X.env whole = (do let v ← whole; standAt e.pos; holding [v] (truthy v)) := by intro _; rfl) : Pt X S W e (eU asB f) :=
  PT.to (pt_val h he) fun σ H Q q => Tv.one (Ra := RT S) q fun env m g H1 a x rel _ ⟨_, ra⟩ p => by
    cases a with
    | bl k => exact ⟨k, ra.bl_inv, p.now rel.mem rfl⟩
    | _ => exact p.elim
/-! ### and, or, not; a if t else b -/
def tAndF (f h : En Bool) : En Bool := fun env g => (f env g).bind fun c g1 => if c = true then h env g1 else .ok false g1
def tOrF (f h : En Bool) : En Bool := fun env g => (f env g).bind fun c g1 => if c = true then .ok true g1 else h env g1
def tNotF (f : En Bool) : En Bool := eU (fun c g => .ok (!c) g) f
def eIf {α : Type} (t : En Bool) (f h : En α) : En α := fun env g => (t env g).bind fun c g1 => if c = true then f env g1 else h env g1
/-- the first part is read, the rest goes on -/
theorem Tv.go {α γ α' γ' : Type} {Ra : Hp → Mv → Hp → α → α' → Prop} {Rc : Hp → Mv → Hp → γ → γ' → Prop} {fa : En α} {k : α → En γ} {σ : St} {H : Hp} {Q : γ' → Hp → Prop}
    (h : Tv S Rc W (fun env g => (fa env g).bind fun a g1 => k a env g1) σ H Q) {R : α' → Hp → Prop}
    (hk : ∀ env m g H1 a x, Rel S H1 σ env g m → (∀ z, H1 z = none → H z = none) → Ra H m H1 a x → Post S Rc W σ H (k a env g) m H1 Q → R x H1) :
    Tv S Ra W fa σ H fun x H1 => R x H1 := by
  obtain ⟨env, g, m, r, p⟩ := h
  refine ⟨env, g, m, r, ?_⟩
  have p1 := Post.bind (R := Ra) (H0 := H) p
  cases q : fa env g with
  | stuck => rw [q] at p1; exact p1
  | exc x g' => rw [q] at p1; exact p1
  | ok a g1 =>
    rw [q] at p1
    intro x H1 m1 gr ok ra
    obtain ⟨a', g1', m1', gr', ok', ra', p2⟩ := p1 x H1 m1 gr ok ra
    exact hk env m1' g1' H1 a' x (r.grow gr' ok') gr'.liv ra' p2
theorem Post.from {α β : Type} {R : Hp → Mv → Hp → α → β → Prop} {H1 Hc : Hp} {r : Res α} {Q : β → Hp → Prop} (hR : ∀ m' H' a b, R H1 m' H' a b → R H0 m' H' a b) (h : Post S R W σ H0 r m Hc Q) : Post S R W σ H1 r m Hc Q := by
  cases r with
  | ok a g => exact fun b H' m' q ok r => h b H' m' q ok (hR _ _ _ _ r)
  | exc x g => exact h
  | stuck => exact h
theorem rq_any {H0 H0' : Hp} {m : Mv} {H : Hp} {a b : Bool} (_ : ∀ z, H0' z = none → H0 z = none) (h : RQ H0' m H a b) : RQ H0 m H a b := h
theorem rt_any {H0 H0' : Hp} {m : Mv} {H : Hp} {a : D} {b : V} (_ : ∀ z, H0' z = none → H0 z = none) (h : RT S H0' m H a b) : RT S H0 m H a b := h
theorem rf_any {H0 H0' : Hp} {m : Mv} {H : Hp} {a : D} {b : V} (f : ∀ z, H0' z = none → H0 z = none) (h : RF S H0' m H a b) : RF S H0 m H a b := by
  obtain ⟨a, e, h1, h2, h3, h4⟩ := h
  exact ⟨a, e, h1, h2, f a h3, h4⟩
abbrev Pw (X : Cx) (S : Stat) (W : WX) (e : Expr) (f : En Bool) : Prop := PW X e (Tv S RQ W f)
theorem w_and1 {a : Expr} {f : En Bool} {pos : Pos} (h : Pt X S W a f) : Pw X S W (.BoolOp .And [a] pos) f := pw_and1 h
theorem w_or1 {a : Expr} {f : En Bool} {pos : Pos} (h : Pt X S W a f) : Pw X S W (.BoolOp .Or [a] pos) f := pw_or1 h
theorem w_and {a b : Expr} {rest : List Expr} {f h : En Bool} {pos : Pos} (ha : Pt X S W a f) (hb : Pw X S W (.BoolOp .And (b :: rest) pos) h) : Pw X S W (.BoolOp .And (a :: b :: rest) pos) (tAndF f h) :=
  PW.to (pw_and ha hb) fun σ H Q q => Tv.go (Ra := RQ) (k := fun c env g1 => if c = true then h env g1 else .ok false g1) q fun env m g H1 c x rel fz ra p => by
    have e : c = x := ra
    subst e
    cases c with
    | true => exact ⟨env, g, m, rel, p⟩
    | false => exact p.now rel.mem rfl
theorem w_or {a b : Expr} {rest : List Expr} {f h : En Bool} {pos : Pos} (ha : Pt X S W a f) (hb : Pw X S W (.BoolOp .Or (b :: rest) pos) h) : Pw X S W (.BoolOp .Or (a :: b :: rest) pos) (tOrF f h) :=
  PW.to (pw_or ha hb) fun σ H Q q => Tv.go (Ra := RQ) (k := fun c env g1 => if c = true then .ok true g1 else h env g1) q fun env m g H1 c x rel fz ra p => by
    have e : c = x := ra
    subst e
    cases c with
    | true => exact p.now rel.mem rfl
    | false => exact ⟨env, g, m, rel, p⟩
theorem t_not {a : Expr} {f : En Bool} {pos : Pos} (h : Pt X S W a f) : Pt X S W (.UnaryOp .Not a pos) (tNotF f) :=
  PT.to (pt_not h) fun σ H Q q => Tv.one (Ra := RQ) q fun env m g H1 a x rel _ ⟨_, ra⟩ p => by
    have e : a = x := ra
    subst e
    exact p.now rel.mem rfl
theorem e_if {c a b : Expr} {t : En Bool} {f h : E1} {pos : Pos} (hc : Pt X S W c t) (ha : Pe X S W a f) (hb : Pe X S W b h) : Pe X S W (.IfExp c a b pos) (eIf t f h) :=
  PE.to (pe_ifExp hc ha hb) fun σ H Q q => Tv.go (Ra := RQ) (k := fun c env g1 => if c = true then f env g1 else h env g1) q fun env m g H1 c x rel fz ra p => by
    have e : c = x := ra
    subst e
    cases c with
    | true => exact ⟨env, g, m, rel, p⟩
    | false => exact ⟨env, g, m, rel, p⟩
theorem f_if {c a b : Expr} {t : En Bool} {f h : E1} {pos : Pos} (hc : Pt X S W c t) (ha : Pf X S W a f) (hb : Pf X S W b h) : Pf X S W (.IfExp c a b pos) (eIf t f h) :=
  PE.to (pe_ifExp hc ha hb) fun σ H Q q => Tv.go (Ra := RQ) (k := fun c env g1 => if c = true then f env g1 else h env g1) q fun env m g H1 c x rel fz ra p => by
    have e : c = x := ra
    subst e
    cases c with
    | true => exact ⟨env, g, m, rel, p.from fun _ _ _ _ r => rf_any fz r⟩
    | false => exact ⟨env, g, m, rel, p.from fun _ _ _ _ r => rf_any fz r⟩
/-! ### and, or, not as values: bools -/
def vAndF (f h : E1) : E1 := fun env g => (f env g).bind fun c g1 => match c with
  | .bl true => h env g1
  | .bl false => .ok (.bl false) g1
  | _ => .stuck
def vOrF (f h : E1) : E1 := fun env g => (f env g).bind fun c g1 => match c with
  | .bl true => .ok (.bl true) g1
  | .bl false => h env g1
  | _ => .stuck
def vNotF (f : E1) : E1 := eU (fun c g => match c with
  | .bl b => .ok (.bl (!b)) g
  | _ => .stuck) f
theorem v_one {a : Expr} {op} {f : E1} {pos : Pos} (h : Pe X S W a f) : Pe X S W (.BoolOp op [a] pos) f := pe_one h
theorem v_and {a b : Expr} {rest : List Expr} {f h : E1} {pos : Pos} (ha : Pe X S W a f) (hb : Pe X S W (.BoolOp .And (b :: rest) pos) h) : Pe X S W (.BoolOp .And (a :: b :: rest) pos) (vAndF f h) :=
  PE.to (pe_and ha hb) fun σ H Q q => Tv.go (Ra := RT S) (k := fun c env g1 => match c with
    | .bl true => h env g1
    | .bl false => .ok (.bl false) g1
    | _ => .stuck) q fun env m g H1 a x rel fz ra p => by
    cases a with
    | bl k =>
      refine ⟨k, ra.bl_inv, ?_⟩
      cases k with
      | true => exact ⟨env, g, m, rel, p⟩
      | false => exact p.now rel.mem (.bl false)
    | _ => exact p.elim
theorem v_or {a b : Expr} {rest : List Expr} {f h : E1} {pos : Pos} (ha : Pe X S W a f) (hb : Pe X S W (.BoolOp .Or (b :: rest) pos) h) : Pe X S W (.BoolOp .Or (a :: b :: rest) pos) (vOrF f h) :=
  PE.to (pe_or ha hb) fun σ H Q q => Tv.go (Ra := RT S) (k := fun c env g1 => match c with
    | .bl true => .ok (.bl true) g1
    | .bl false => h env g1
    | _ => .stuck) q fun env m g H1 a x rel fz ra p => by
    cases a with
    | bl k =>
      refine ⟨k, ra.bl_inv, ?_⟩
      cases k with
      | false => exact ⟨env, g, m, rel, p⟩
      | true => exact p.now rel.mem (.bl true)
    | _ => exact p.elim
theorem v_not {a : Expr} {f : E1} {pos : Pos} (h : Pe X S W a f) : Pe X S W (.UnaryOp .Not a pos) (vNotF f) :=
  PE.to (pe_not h) fun σ H Q q => Tv.one (Ra := RT S) q fun env m g H1 a x rel _ ⟨_, ra⟩ p => by
    cases a with
    | bl k => exact ⟨k, ra.bl_inv, p.now rel.mem (.bl _)⟩
    | _ => exact p.elim
end
end Ev
namespace Ev
open PySem PySem.Spec PyProof.Rows L2
section
variable {X : Cx} {S : Stat} {W : WX}
/-! ### arithmetic -/
def big : Nat := 1000000
theorem big_line {n : Nat} (h : n ≤ big) : n ≤ sizeLine := Nat.le_trans h (by unfold big; decide)
theorem big_lt {n : Nat} (h : n < big) : n < sizeLine := Nat.lt_of_lt_of_le h (by unfold big; decide)
def sSub : D → D → Sto → Res D
  | .int i, .int j, g => .ok (.int (i - j)) g
  | _, _, _ => .stuck
def sFdiv : D → D → Sto → Res D
  | .int i, .int j, g => if 0 < j ∧ j < 1073741824 then .ok (.int (i / j)) g else .stuck
  | _, _, _ => .stuck
def sMod : D → D → Sto → Res D
  | .int i, .int j, g => if 0 < j then .ok (.int (i % j)) g else .stuck
  | _, _, _ => .stuck
def sPow : D → D → Sto → Res D
  | .int i, .int j, g => if 0 ≤ j ∧ j ≤ 1000000 ∧ i.natAbs < 2 ^ 64 then .ok (.int (i ^ j.toNat)) g else .stuck
  | _, _, _ => .stuck
/-- +: ints, texts, tuples (the left one not empty), lists -/
def sAdd : D → D → Sto → Res D
  | .int i, .int j, g => .ok (.int (i + j)) g
  | .str x, .str y, g => if x.length + y.length ≤ big then .ok (.str (x ++ y)) g else .stuck
  | .lst xs, .lst ys, g => if xs.length + ys.length ≤ big then .ok (.lst (xs ++ ys)) g else .stuck
  | _, _, _ => .stuck
/-- *: ints, a list by an int -/
def sMul : D → D → Sto → Res D
  | .int i, .int j, g => if (-(2 ^ 64) < i ∧ i < 2 ^ 64) ∨ (-(2 ^ 64) < j ∧ j < 2 ^ 64) then .ok (.int (i * j)) g else .stuck
  | .lst xs, .int k, g => if -1000 ≤ k ∧ k ≤ 1000 ∧ xs.length ≤ 1000 then .ok (.lst (List.replicate k.toNat xs).flatten) g else .stuck
  | _, _, _ => .stuck
theorem sem_int {r : R2} {sem : D → D → Sto → Res D} (h : ∀ (σ : St) (H0 : Hp) (m : Mv) (g : Sto) (H : Hp) (i j : Int) (Q : VK), MOk S H g m → Post S (RT S) W σ H0 (sem (.int i) (.int j) g) m H Q → r (.int i) (.int j) H Q)
    (hs : ∀ a b g, (∀ i j, ¬ (a = .int i ∧ b = .int j)) → sem a b g = .stuck) : Sem2 S W (RT S) r sem := fun σ H0 m g H a b x y Q ok fz ra rb p => by
  by_cases e : ∃ i j, a = .int i ∧ b = .int j
  · obtain ⟨i, j, rfl, rfl⟩ := e
    rw [ra.int, rb.int]
    exact h σ H0 m g H i j Q ok p
  · rw [hs a b g fun i j z => e ⟨i, j, z⟩] at p
    exact p.elim
theorem e_sub {a b : Expr} {fa fb : E1} {pos : Pos} (ha : Pb X S W a fa) (hb : Pb X S W b fb) : Pe X S W (.BinOp a .Sub b pos) (eB sSub fa fb) :=
  e_op op_sub (sem_int (fun σ H0 m g H i j Q ok p => ⟨i, j, rfl, rfl, p.now ok (.int _)⟩) fun a b g n => by
    cases a <;> cases b <;> first | rfl | exact absurd ⟨rfl, rfl⟩ (n _ _)) ha hb
theorem e_fdiv {a b : Expr} {fa fb : E1} {pos : Pos} (ha : Pb X S W a fa) (hb : Pb X S W b fb) : Pe X S W (.BinOp a .FloorDiv b pos) (eB sFdiv fa fb) :=
  e_op op_fdiv (sem_int (fun σ H0 m g H i j Q ok p => by
    simp only [sFdiv] at p
    split at p
    · rename_i c; exact ⟨i, j, rfl, rfl, c, p.now ok (.int _)⟩
    · exact p.elim) fun a b g n => by
    cases a <;> cases b <;> first | rfl | exact absurd ⟨rfl, rfl⟩ (n _ _)) ha hb
theorem e_mod {a b : Expr} {fa fb : E1} {pos : Pos} (ha : Pb X S W a fa) (hb : Pb X S W b fb) : Pe X S W (.BinOp a .Mod b pos) (eB sMod fa fb) :=
  e_op op_mod (sem_int (fun σ H0 m g H i j Q ok p => by
    simp only [sMod] at p
    split at p
    · rename_i c; exact ⟨i, j, rfl, rfl, c, p.now ok (.int _)⟩
    · exact p.elim) fun a b g n => by
    cases a <;> cases b <;> first | rfl | exact absurd ⟨rfl, rfl⟩ (n _ _)) ha hb
theorem e_pow {a b : Expr} {fa fb : E1} {pos : Pos} (ha : Pb X S W a fa) (hb : Pb X S W b fb) : Pe X S W (.BinOp a .Pow b pos) (eB sPow fa fb) :=
  e_op op_pow (sem_int (fun σ H0 m g H i j Q ok p => by
    simp only [sPow] at p
    split at p
    · rename_i c; exact ⟨i, j, rfl, rfl, c, p.now ok (.int _)⟩
    · exact p.elim) fun a b g n => by
    cases a <;> cases b <;> first | rfl | exact absurd ⟨rfl, rfl⟩ (n _ _)) ha hb
/-- list + list of any kind -/
def rCatX (K : PySem.W.Frag) : R2 := fun x y H Q => ∃ l b xs zs, x = .ref l ∧ y = .ref b ∧ SqL K H l xs ∧ SqL K H b zs ∧ xs.length + zs.length ≤ sizeLine ∧ ∀ p, H p = none → Q (.ref p) (upd H p (.lst (xs ++ zs)))
theorem op_catX : OpR X (binaryOp .Add) (rCatX X.K) := by
  intro pins s σ H x y v u Q I rx ry h
  obtain ⟨l, b, xs, zs, rfl, rfl, hH, hB, hz, q⟩ := h
  cases rx
  cases ry
  obtain ⟨its, r, ⟨o, n, e, c, d, dt⟩, z⟩ := I.list hH
  obtain ⟨its2, r2, ⟨o2, n2, e2, c2, d2, dt2⟩, z2⟩ := I.list hB
  obtain ⟨oc, od, odt, osl⟩ := o
  obtain ⟨oc2, od2, odt2, osl2⟩ := o2
  simp only at c d dt c2 d2 dt2
  subst c d dt c2 d2 dt2
  have h1 := r.length
  have h2 := r2.length
  have ea : its.toArray ++ its2.toArray = (its ++ its2).toArray := by simp
  refine concat_meets ⟨_, e, rfl⟩ ⟨_, e2, rfl⟩ noFill_list_add seq_list_add PySem.F.slot_list_add PySem.F.entry_list_add (PySem.F.args_list_add_2 _ _) (list_addW l b its.toArray its2.toArray n n2 none none osl osl2 (by simp; omega)) ⟨e, e2, ?_⟩
  rw [ea]
  exact ⟨.ref _, _, I.lnew (t' := s.toks) (r.append r2) (by rw [List.length_append]; omega), rfl, q _ I.fresh⟩
/-- tuples: one that is empty gives the other -/
def sAddT : D → D → Sto → Res D
  | .tup xs, .tup ys, g => if xs.length + ys.length ≤ big then .ok (.tup (xs ++ ys)) g else .stuck
  | _, _, _ => .stuck
theorem Rl.nil_iff {m : Mv} {H : Hp} {ds : List D} {vs : List V} (r : Rl S m H ds vs) : ds = [] ↔ vs = [] := by
  cases r with
  | nil => simp
  | cons _ _ => simp
theorem e_add {a b : Expr} {fa fb : E1} {pos : Pos} (hK : S.K = X.K) (ha : Pb X S W a fa) (hb : Pb X S W b fb) : Pe X S W (.BinOp a .Add b pos) (eB sAdd fa fb) :=
  e_op (op_add.or (op_add_str.or op_catX)) (fun σ H0 m g H a b x y Q ok fz ra rb p => by
    cases a with
    | int i =>
      cases b with
      | int j => rw [ra.int, rb.int]; exact .inl ⟨i, j, rfl, rfl, p.now ok (.int _)⟩
      | _ => exact p.elim
    | str i =>
      cases b with
      | str j =>
        rw [ra.str, rb.str]
        simp only [sAdd] at p
        split at p
        · rename_i c; exact .inr (.inl ⟨i, j, rfl, rfl, big_line c, p.now ok (.str _)⟩)
        · exact p.elim
      | _ => exact p.elim
    | lst xs =>
      cases b with
      | lst ys =>
        obtain ⟨l, vs, rfl, h1, r1⟩ := ra.lst
        obtain ⟨l', vs', rfl, h2, r2⟩ := rb.lst
        simp only [sAdd] at p
        split at p
        · rename_i c
          exact .inr (.inr ⟨l, l', vs, vs', rfl, rfl, hK ▸ h1, hK ▸ h2, by rw [← r1.length, ← r2.length]; exact big_line c, fun q hq => p.newL ok (r1.append r2) hq⟩)
        · exact p.elim
      | _ => exact p.elim
    | _ => exact p.elim) ha hb
theorem e_addT {a b : Expr} {fa fb : E1} {pos : Pos} (hK : S.K = X.K) (ha : Pb X S W a fa) (hb : Pb X S W b fb) : Pe X S W (.BinOp a .Add b pos) (eB sAddT fa fb) :=
  e_op op_catA (fun σ H0 m g H a b x y Q ok fz ra rb p => by
    cases a with
    | tup xs =>
      cases b with
      | tup ys =>
        obtain ⟨l, vs, rfl, h1, r1⟩ := ra.tup
        obtain ⟨l', vs', rfl, h2, r2⟩ := rb.tup
        simp only [sAddT] at p
        split at p
        · rename_i c
          refine ⟨l, l', vs, vs', rfl, rfl, hK ▸ h1, hK ▸ h2, by rw [← r1.length, ← r2.length]; exact big_line c, fun e => ?_, fun e e' => ?_, fun e e' q hq => p.newT ok (r1.append r2) hq⟩
          · have e1 := r1.nil_iff.mpr e
            subst e1
            exact p.now ok (.tup h2 r2)
          · have e1 := r2.nil_iff.mpr e'
            subst e1
            rw [List.append_nil] at p
            exact p.now ok (.tup h1 r1)
        · exact p.elim
      | _ => exact p.elim
    | _ => exact p.elim) ha hb
/-- list + list, one's own -/
def sCat : D → D → Sto → Res D
  | .lst xs, .lst ys, g => if xs.length + ys.length ≤ big then .ok (.lst (xs ++ ys)) g else .stuck
  | _, _, _ => .stuck
theorem f_cat {a b : Expr} {fa fb : E1} {pos : Pos} (hK : S.K = X.K) (ha : Pb X S W a fa) (hb : Pb X S W b fb) : Pf X S W (.BinOp a .Add b pos) (eB sCat fa fb) :=
  e_op op_catX (fun σ H0 m g H a b x y Q ok fz ra rb p => by
    cases a with
    | lst xs =>
      cases b with
      | lst ys =>
        obtain ⟨l, vs, rfl, h1, r1⟩ := ra.lst
        obtain ⟨l', vs', rfl, h2, r2⟩ := rb.lst
        simp only [sCat] at p
        split at p
        · rename_i c
          exact ⟨l, l', vs, vs', rfl, rfl, hK ▸ h1, hK ▸ h2, by rw [← r1.length, ← r2.length]; exact big_line c, fun q hq => p.ownL ok (r1.append r2) hq fz⟩
        · exact p.elim
      | _ => exact p.elim
    | _ => exact p.elim) ha hb
def sMulI : D → D → Sto → Res D
  | .int i, .int j, g => if (-(2 ^ 64) < i ∧ i < 2 ^ 64) ∨ (-(2 ^ 64) < j ∧ j < 2 ^ 64) then .ok (.int (i * j)) g else .stuck
  | _, _, _ => .stuck
theorem e_mul {a b : Expr} {fa fb : E1} {pos : Pos} (ha : Pb X S W a fa) (hb : Pb X S W b fb) : Pe X S W (.BinOp a .Mult b pos) (eB sMulI fa fb) :=
  e_op op_mul (sem_int (fun σ H0 m g H i j Q ok p => by
    simp only [sMulI] at p
    split at p
    · rename_i c; exact ⟨i, j, rfl, rfl, c, p.now ok (.int _)⟩
    · exact p.elim) fun a b g n => by
    cases a <;> cases b <;> first | rfl | exact absurd ⟨rfl, rfl⟩ (n _ _)) ha hb
/-! ### comparisons -/
def sEq : D → D → Sto → Res D := fun a b g => match deq 40 a b with
  | some k => .ok (.bl k) g
  | none => .stuck
def sNe : D → D → Sto → Res D := fun a b g => match deq 40 a b with
  | some k => .ok (.bl (!k)) g
  | none => .stuck
def rEqX (S : Stat) : R2 := fun x y H Q => ∃ m d e b, Rr S m H d x ∧ Rr S m H e y ∧ deq 40 d e = some b ∧ Q (.bl b) H
def rNeX (S : Stat) : R2 := fun x y H Q => ∃ m d e b, Rr S m H d x ∧ Rr S m H e y ∧ deq 40 d e = some b ∧ Q (.bl (!b)) H
theorem op_eqX (hK : S.K = X.K) (hu : X.A.units + 64 < cLine) : OpR X (compareOp .Eq) (rEqX S) := by
  intro pins s σ H x y v u Q I rx ry h
  obtain ⟨m, d, e, b, h1, h2, h3, q⟩ := h
  exact (deq_ok I hK 40 d e b X.A x y v u (by omega) h3 h1 h2 rx ry).1 _ _ _ _ ⟨.bl b, H, I, rfl, q⟩
theorem op_neX (hK : S.K = X.K) (hu : X.A.units + 64 < cLine) : OpR X (compareOp .NotEq) (rNeX S) := by
  intro pins s σ H x y v u Q I rx ry h
  obtain ⟨m, d, e, b, h1, h2, h3, q⟩ := h
  exact dne_ok I hK (n := 40) (by omega) h3 h1 h2 rx ry _ _ _ _ ⟨.bl (!b), H, I, rfl, q⟩
theorem sem_eq : Sem2 S W (RT S) (rEqX S) sEq := fun σ H0 m g H a b x y Q ok fz ra rb p => by
  unfold sEq at p
  cases q : deq 40 a b with
  | none => rw [q] at p; exact p.elim
  | some k => rw [q] at p; exact ⟨m.bare, a, b, k, ra.bare, rb.bare, q, p.now ok (.bl k)⟩
theorem sem_ne : Sem2 S W (RT S) (rNeX S) sNe := fun σ H0 m g H a b x y Q ok fz ra rb p => by
  unfold sNe at p
  cases q : deq 40 a b with
  | none => rw [q] at p; exact p.elim
  | some k => rw [q] at p; exact ⟨m.bare, a, b, k, ra.bare, rb.bare, q, p.now ok (.bl (!k))⟩
/-- <, <=, >, >= of ints -/
def sCmp (p : Int → Int → Bool) : D → D → Sto → Res D
  | .int i, .int j, g => .ok (.bl (p i j)) g
  | _, _, _ => .stuck
theorem sem_cmp (p : Int → Int → Bool) : Sem2 S W (RT S) (rI0 fun i j => .bl (p i j)) (sCmp p) :=
  sem_int (fun σ H0 m g H i j Q ok q => ⟨i, j, rfl, rfl, q.now ok (.bl _)⟩) fun a b g n => by
    cases a <;> cases b <;> first | rfl | exact absurd ⟨rfl, rfl⟩ (n _ _)
abbrev sLt := sCmp fun i j => decide (i < j)
abbrev sLe := sCmp fun i j => decide (i ≤ j)
abbrev sGt := sCmp fun i j => decide (j < i)
abbrev sGe := sCmp fun i j => decide (j ≤ i)
/-- texts -/
def sLtS : D → D → Sto → Res D
  | .str i, .str j, g => .ok (.bl (decide (i.cps.toList < j.cps.toList))) g
  | _, _, _ => .stuck
theorem sem_ltS : Sem2 S W (RT S) (fun x y H Q => ∃ i j, x = .str i ∧ y = .str j ∧ Q (.bl (decide (i.cps.toList < j.cps.toList))) H) sLtS := fun σ H0 m g H a b x y Q ok fz ra rb p => by
  cases a with
  | str i =>
    cases b with
    | str j => exact ⟨i, j, ra.str, rb.str, p.now ok (.bl _)⟩
    | _ => exact p.elim
  | _ => exact p.elim
/-! ### is None -/
def isNon : D → Bool
  | .non => true
  | _ => false
theorem Rv.isNon {m : Mv} {H : Hp} {d : D} {v : V} (h : Rv S m H d v) : decide (v = .non) = isNon d := by
  rcases h with h | ⟨a, rfl, h⟩
  · cases h <;> rfl
  · cases h <;> rfl
def sIsN : D → D → Sto → Res D
  | a, .non, g => .ok (.bl (isNon a)) g
  | _, _, _ => .stuck
def sNotN : D → D → Sto → Res D
  | a, .non, g => .ok (.bl (!isNon a)) g
  | _, _, _ => .stuck
theorem sem_isN : Sem2 S W (RT S) (fun x y H Q => y = .non ∧ Q (.bl (decide (x = .non))) H) sIsN := fun σ H0 m g H a b x y Q ok fz ra rb p => by
  cases b with
  | non => exact ⟨rb.non, by rw [ra.isNon]; exact p.now ok (.bl _)⟩
  | _ => exact p.elim
theorem sem_notN : Sem2 S W (RT S) (fun x y H Q => y = .non ∧ Q (.bl (!decide (x = .non))) H) sNotN := fun σ H0 m g H a b x y Q ok fz ra rb p => by
  cases b with
  | non => exact ⟨rb.non, by rw [ra.isNon]; exact p.now ok (.bl _)⟩
  | _ => exact p.elim
/-! ### in, not in -/
def inL (d : D) : List D → Option Bool
  | [] => some false
  | x :: xs => match deq 38 x d, inL d xs with
    | some a, some b => some (a || b)
    | _, _ => none
/-- in a list, a tuple; a sign in a text -/
def isIn : D → D → Option Bool
  | d, .lst xs => inL d xs
  | d, .tup xs => inL d xs
  | .str c, .str z => match c.cps.toList with
    | [n] => some (decide (n ∈ z.cps.toList))
    | _ => some (!(Builtin.Str.occurrences z c 0 z.length 1).isEmpty)
  | _, _ => none
def sIn : D → D → Sto → Res D := fun a b g => match isIn a b with
  | some k => .ok (.bl k) g
  | none => .stuck
def sNotIn : D → D → Sto → Res D := fun a b g => match isIn a b with
  | some k => .ok (.bl (!k)) g
  | none => .stuck
theorem dne_kind {n : Nat} {d : D} {b : Bool} {m : Mv} {H : Hp} {v : V} {x : D} (h : deq n x d = some b) (r : Rr S m H x v) :
    x = .non ∨ (∃ y, x = .bl y) ∨ (∃ y, x = .int y) ∨ (∃ y, x = .str y) ∨ (∃ y, x = .lst y) ∨ ∃ y, x = .tup y := by
  cases x with
  | non => exact .inl rfl
  | bl y => exact .inr (.inl ⟨y, rfl⟩)
  | int y => exact .inr (.inr (.inl ⟨y, rfl⟩))
  | str y => exact .inr (.inr (.inr (.inl ⟨y, rfl⟩)))
  | lst y => exact .inr (.inr (.inr (.inr (.inl ⟨y, rfl⟩))))
  | tup y => exact .inr (.inr (.inr (.inr (.inr ⟨y, rfl⟩))))
  | dic _ _ => cases d <;> cases n <;> simp [deq] at h
  | ins _ _ _ => cases d <;> cases n <;> simp [deq] at h
  | loc _ => cases d <;> cases n <;> simp [deq] at h
  | frz _ => cases d <;> cases n <;> simp [deq] at h
mutual
/-- one thing has one answer -/
theorem deq_det {pins : List (Addr × Obj)} {σ : St} {H : Hp} {s : Shared} {m : Mv} (I : Inv X pins σ H s) (hK : S.K = X.K) : ∀ (n : Nat) (x y d : D) (a b : Bool) (v : V), deq n x d = some a → deq n y d = some b → Rr S m H x v → Rr S m H y v → a = b
  | n, .non, y, d, a, b, v, h1, h2, r1, r2 => by cases r1; cases r2; rw [h1] at h2; exact Option.some.inj h2
  | n, .bl _, y, d, a, b, v, h1, h2, r1, r2 => by cases r1; cases r2; rw [h1] at h2; exact Option.some.inj h2
  | n, .int _, y, d, a, b, v, h1, h2, r1, r2 => by cases r1; cases r2; rw [h1] at h2; exact Option.some.inj h2
  | n, .str _, y, d, a, b, v, h1, h2, r1, r2 => by cases r1; cases r2; rw [h1] at h2; exact Option.some.inj h2
  | n, .lst xs, y, d, a, b, v, h1, h2, r1, r2 => by
    obtain ⟨p, vs, rfl, hs, rl⟩ := r1.lst_inv
    rcases dne_kind h2 r2 with rfl | ⟨z, rfl⟩ | ⟨z, rfl⟩ | ⟨z, rfl⟩ | ⟨ys, rfl⟩ | ⟨z, rfl⟩
    · cases r2
    · cases r2
    · cases r2
    · cases r2
    · obtain ⟨p', vs', e, hs', rl'⟩ := r2.lst_inv
      cases e
      have e := I.list_inj (hK ▸ hs) (hK ▸ hs')
      subst e
      have hl := rl.length.trans rl'.length.symm
      cases d with
      | lst zs =>
        cases n with
        | zero => simp [deq] at h1
        | succ n =>
          simp only [deq] at h1 h2
          rw [hl] at h1
          by_cases c : ys.length = zs.length
          · rw [if_pos c] at h1 h2
            exact deqL_det I hK n _ _ _ a b _ h1 h2 rl rl'
          · rw [if_neg c] at h1 h2
            rw [h1] at h2; exact Option.some.inj h2
      | _ => cases n <;> simp [deq] at h1 h2 <;> rw [h1, h2]
    · obtain ⟨p', vs', e, hs', rl'⟩ := r2.tup_inv
      cases e
      exact (lt_not_tup I (hK ▸ hs) (hK ▸ hs')).elim
  | n, .tup xs, y, d, a, b, v, h1, h2, r1, r2 => by
    obtain ⟨p, vs, rfl, hs, rl⟩ := r1.tup_inv
    rcases dne_kind h2 r2 with rfl | ⟨z, rfl⟩ | ⟨z, rfl⟩ | ⟨z, rfl⟩ | ⟨z, rfl⟩ | ⟨ys, rfl⟩
    · cases r2
    · cases r2
    · cases r2
    · cases r2
    · obtain ⟨p', vs', e, hs', rl'⟩ := r2.lst_inv
      cases e
      exact (lt_not_tup I (hK ▸ hs') (hK ▸ hs)).elim
    · obtain ⟨p', vs', e, hs', rl'⟩ := r2.tup_inv
      cases e
      have e := I.tuple_inj (hK ▸ hs) (hK ▸ hs')
      subst e
      have hl := rl.length.trans rl'.length.symm
      cases d with
      | tup zs =>
        cases n with
        | zero => simp [deq] at h1
        | succ n =>
          simp only [deq] at h1 h2
          cases q1 : deqL n xs zs with
          | none => rw [q1] at h1; cases h1
          | some k1 =>
            cases q2 : deqL n ys zs with
            | none => rw [q2] at h2; cases h2
            | some k2 =>
              rw [q1, hl] at h1
              rw [q2] at h2
              have e := deqL_det I hK n _ _ _ k1 k2 _ q1 q2 rl rl'
              subst e
              rw [h1] at h2; exact Option.some.inj h2
      | _ => cases n <;> simp [deq] at h1 h2 <;> rw [h1, h2]
  | n, .dic _ _, y, d, a, b, v, h1, h2, r1, r2 => by cases d <;> cases n <;> simp [deq] at h1
  | n, .ins _ _ _, y, d, a, b, v, h1, h2, r1, r2 => by cases d <;> cases n <;> simp [deq] at h1
  | n, .loc _, y, d, a, b, v, h1, h2, r1, r2 => by cases d <;> cases n <;> simp [deq] at h1
  | n, .frz _, y, d, a, b, v, h1, h2, r1, r2 => by cases d <;> cases n <;> simp [deq] at h1
theorem deqL_det {pins : List (Addr × Obj)} {σ : St} {H : Hp} {s : Shared} {m : Mv} (I : Inv X pins σ H s) (hK : S.K = X.K) : ∀ (n : Nat) (xs ys ds : List D) (a b : Bool) (vs : List V), deqL n xs ds = some a → deqL n ys ds = some b → Rl S m H xs vs → Rl S m H ys vs → a = b
  | n, [], ys, ds, a, b, vs, h1, h2, r1, r2 => by cases r1; cases r2; rw [h1] at h2; exact Option.some.inj h2
  | n, x :: xs, ys, [], a, b, vs, h1, h2, r1, r2 => by
    cases r1; cases r2
    simp [deqL] at h1 h2
    rw [h1, h2]
  | n, x :: xs, ys, d :: ds, a, b, vs, h1, h2, r1, r2 => by
    cases r1 with
    | cons p1 p2 =>
      cases r2 with
      | cons q1 q2 =>
        simp only [deqL] at h1 h2
        split at h1
        · rename_i k1 k2 e1 e2
          split at h2
          · rename_i k3 k4 e3 e4
            have z1 := deq_det I hK n _ _ _ _ _ _ e1 e3 p1 q1
            have z2 := deqL_det I hK n _ _ _ _ _ _ e2 e4 p2 q2
            subst z1 z2
            rw [h1] at h2; exact Option.some.inj h2
          · cases h2
        · cases h1
end
open Classical in
/-- what an item is worth, as a function of its value -/
noncomputable def fIn (S : Stat) (m : Mv) (H : Hp) (d : D) (u : Value) : Bool := if h : ∃ k x v, Rr S m H x v ∧ RelV v u ∧ deq 38 x d = some k then h.choose else false
theorem fIn_eq {pins : List (Addr × Obj)} {σ : St} {H : Hp} {s : Shared} {m : Mv} (I : Inv X pins σ H s) (hK : S.K = X.K) {d x : D} {u : Value} {v : V} {k : Bool} (r : Rr S m H x v) (q : RelV v u) (e : deq 38 x d = some k) : fIn S m H d u = k := by
  have h : ∃ k x v, Rr S m H x v ∧ RelV v u ∧ deq 38 x d = some k := ⟨k, x, v, r, q, e⟩
  unfold fIn
  rw [dif_pos h]
  obtain ⟨x', v', r', q', e'⟩ := h.choose_spec
  have ev := q.inj q'
  subst ev
  exact deq_det I hK 38 _ _ _ _ _ _ e' e r' r
theorem inL_any {pins : List (Addr × Obj)} {σ : St} {H : Hp} {s : Shared} {m : Mv} (I : Inv X pins σ H s) (hK : S.K = X.K) {A : Around} (hu : A.units + 38 < cLine) {d : D} {v : V} {z : Value} (r : Rr S m H d v) (rz : RelV v z) :
    ∀ (xs : List D) (b : Bool) (vs : List V) (us : List Value), inL d xs = some b → Rl S m H xs vs → Vals vs us → (∀ u, u ∈ us → SeqAt.EqAt A s u z (fIn S m H d u)) ∧ us.any (fIn S m H d) = b
  | [], b, _, _, h, .nil, .nil => by
    simp [inL] at h
    subst h
    exact ⟨fun u hu => by simp at hu, rfl⟩
  | x :: xs, b, _, _, h, .cons r1 r2, .cons (b := u1) q1 q2 => by
    simp only [inL] at h
    split at h
    · rename_i k1 k2 e1 e2
      obtain ⟨h1, h2⟩ := inL_any I hK hu r rz xs k2 _ _ e2 r2 q2
      have e0 := (deq_ok I hK 38 x d k1 A _ v u1 z hu e1 r1 r q1 rz).2
      have ef := fIn_eq I hK r1 q1 e1
      refine ⟨fun u hm => ?_, ?_⟩
      · rcases List.mem_cons.mp hm with rfl | hm
        · rw [ef]; exact e0
        · exact h1 u hm
      · rw [List.any_cons, ef, h2]
        exact Option.some.inj h
    · cases h
def rInX (S : Stat) (neg : Bool) : R2 := fun x y H Q => ∃ m d e b, Rr S m H d x ∧ Rr S m H e y ∧ isIn d e = some b ∧ Q (.bl (if neg then !b else b)) H
theorem one_sign {c : Str} {n : Nat} (h : c.cps.toList = [n]) : c = ⟨#[n]⟩ := by
  obtain ⟨a⟩ := c
  have e : a = #[n] := by
    apply Array.ext'
    exact h
  rw [e]
theorem op_inX (hK : S.K = X.K) (hu : X.A.units + 64 < cLine) : OpR X (compareOp .In) (rInX S false) := by
  intro pins s σ H x y v u Q I rx ry h
  obtain ⟨m, d, e, b, h1, h2, h3, q⟩ := h
  have hu1 : X.A.in1.units + 38 < cLine := by show X.A.units + 1 + 38 < cLine; omega
  cases e with
  | lst xs =>
    obtain ⟨a, vs, rfl, hs, rl⟩ := h2.lst_inv
    cases ry
    obtain ⟨its, va, p, _⟩ := I.list (hK ▸ hs)
    obtain ⟨g1, g2⟩ := inL_any I hK hu1 h1 rx xs b vs its h3 rl va
    refine SeqAt.in_listAt (fIn S m H d) p.isList (fun y hy => g1 y (by simpa using hy)) ?_
    have e : its.toArray.any (fIn S m H d) = b := by simpa using g2
    rw [e]
    exact ⟨.bl b, H, I, rfl, q⟩
  | tup xs =>
    obtain ⟨a, vs, rfl, hs, rl⟩ := h2.tup_inv
    cases ry
    obtain ⟨its, va, p, _⟩ := I.tuple (hK ▸ hs)
    obtain ⟨g1, g2⟩ := inL_any I hK hu1 h1 rx xs b vs its h3 rl va
    refine SeqAt.in_tupleAt (fIn S m H d) p (fun y hy => g1 y (by simpa using hy)) ?_
    have e : its.toArray.any (fIn S m H d) = b := by simpa using g2
    rw [e]
    exact ⟨.bl b, H, I, rfl, q⟩
  | str z =>
    cases d with
    | str c =>
      have e1 := h1.str_inv
      have e2 := h2.str_inv
      subst e1 e2
      simp only [isIn] at h3
      split at h3
      · rename_i n hn
        rw [one_sign hn] at rx
        exact op_in_sign pins s σ H _ _ v u Q I rx ry ⟨n, z, rfl, rfl, by rw [Option.some.inj h3]; exact q⟩
      · exact op_in_str pins s σ H _ _ v u Q I rx ry ⟨c, z, rfl, rfl, by rw [Option.some.inj h3]; exact q⟩
    | _ => simp [isIn] at h3
  | _ => cases d <;> simp [isIn] at h3
theorem op_notInX (hK : S.K = X.K) (hu : X.A.units + 64 < cLine) : OpR X (compareOp .NotIn) (rInX S true) := by
  intro pins s σ H x y v u Q I rx ry h
  obtain ⟨m, d, e, b, h1, h2, h3, q⟩ := h
  have hu1 : X.A.in1.units + 38 < cLine := by show X.A.units + 1 + 38 < cLine; omega
  cases e with
  | lst xs =>
    obtain ⟨a, vs, rfl, hs, rl⟩ := h2.lst_inv
    cases ry
    obtain ⟨its, va, p, _⟩ := I.list (hK ▸ hs)
    obtain ⟨g1, g2⟩ := inL_any I hK hu1 h1 rx xs b vs its h3 rl va
    refine SeqAt.notIn_listAt (fIn S m H d) p.isList (fun y hy => g1 y (by simpa using hy)) ?_
    have e : its.toArray.any (fIn S m H d) = b := by simpa using g2
    rw [e]
    exact ⟨.bl (!b), H, I, rfl, q⟩
  | tup xs =>
    obtain ⟨a, vs, rfl, hs, rl⟩ := h2.tup_inv
    cases ry
    obtain ⟨its, va, p, _⟩ := I.tuple (hK ▸ hs)
    obtain ⟨g1, g2⟩ := inL_any I hK hu1 h1 rx xs b vs its h3 rl va
    refine SeqAt.notIn_tupleAt (fIn S m H d) p (fun y hy => g1 y (by simpa using hy)) ?_
    have e : its.toArray.any (fIn S m H d) = b := by simpa using g2
    rw [e]
    exact ⟨.bl (!b), H, I, rfl, q⟩
  | str z =>
    cases d with
    | str c =>
      have e1 := h1.str_inv
      have e2 := h2.str_inv
      subst e1 e2
      simp only [isIn] at h3
      split at h3
      · rename_i n hn
        rw [one_sign hn] at rx
        exact op_notIn_sign pins s σ H _ _ v u Q I rx ry ⟨n, z, rfl, rfl, by rw [Option.some.inj h3]; exact q⟩
      · exact op_notin_str pins s σ H _ _ v u Q I rx ry ⟨c, z, rfl, rfl, by rw [Option.some.inj h3]; exact q⟩
    | _ => simp [isIn] at h3
  | _ => cases d <;> simp [isIn] at h3
theorem sem_in : Sem2 S W (RT S) (rInX S false) sIn := fun σ H0 m g H a b x y Q ok fz ra rb p => by
  unfold sIn at p
  cases q : isIn a b with
  | none => rw [q] at p; exact p.elim
  | some k => rw [q] at p; exact ⟨m.bare, a, b, k, ra.bare, rb.bare, q, p.now ok (.bl k)⟩
theorem sem_notIn : Sem2 S W (RT S) (rInX S true) sNotIn := fun σ H0 m g H a b x y Q ok fz ra rb p => by
  unfold sNotIn at p
  cases q : isIn a b with
  | none => rw [q] at p; exact p.elim
  | some k => rw [q] at p; exact ⟨m.bare, a, b, k, ra.bare, rb.bare, q, p.now ok (.bl (!k))⟩
theorem Post.q {α β : Type} {R : Hp → Mv → Hp → α → β → Prop} {σ : St} {H0 H : Hp} {r : Res α} {m : Mv} {Q Q' : β → Hp → Prop} (h : Post S R W σ H0 r m H Q) (hq : ∀ b H', Q b H' → Q' b H') : Post S R W σ H0 r m H Q' := by
  cases r with
  | ok a g => exact fun b H' m' q ok r => hq _ _ (h b H' m' q ok r)
  | exc x g => exact h
  | stuck => exact h
/-! ### arguments, displays -/
def eNil : En (List D) := fun _ g => .ok [] g
def eCons (f : E1) (fs : En (List D)) : En (List D) := eB (fun a as g => .ok (a :: as) g) f fs
def eStar (f : E1) (fs : En (List D)) : En (List D) := fun env g => (f env g).bind fun a g1 => match a with
  | .lst xs => (fs env g1).bind fun as g2 => .ok (xs ++ as) g2
  | .tup xs => (fs env g1).bind fun as g2 => .ok (xs ++ as) g2
  | _ => .stuck
theorem a_nil : Pas X S W [] eNil := PA.to pa_nil fun σ H Q ⟨env, g, m, r, p⟩ => p.now r.mem Rl.nil
theorem a_cons {e : Expr} {es : List Expr} {f : E1} {fs : En (List D)} (he : Pe X S W e f) (hr : Pas X S W es fs) (hs : starEach (e :: es) X.env = (false, eval e X.env) :: starEach es X.env := by rfl) : Pas X S W (e :: es) (eCons f fs) :=
  PA.to (pa_cons he hr hs) fun σ H Q h => Tv.two (Ra := RT S) (Rb := RL S) rt_stays h fun env m g H1 a b x y rel fz ⟨_, ra⟩ ⟨_, rb⟩ p => p.now rel.mem (Rl.cons ra rb)
theorem a_star {e : Expr} {es : List Expr} {f : E1} {fs : En (List D)} {p0 : Pos} (hK : S.K = X.K) (he : Pb X S W e f) (hr : Pas X S W es fs) (hs : starEach (.Starred e p0 :: es) X.env = (true, eval e X.env) :: starEach es X.env := by rfl) : Pas X S W (.Starred e p0 :: es) (eStar f fs) :=
  PA.to (StX.pa_star he hr hs) fun σ H Q h => Tv.go (Ra := RB S) (k := fun a env g1 => match a with
    | .lst xs => (fs env g1).bind fun as g2 => .ok (xs ++ as) g2
    | .tup xs => (fs env g1).bind fun as g2 => .ok (xs ++ as) g2
    | _ => .stuck) h fun env m g H1 a x rel fz ra p => by
    have fin : ∀ (ds : List D) (vs : List V), Rl S m H1 ds vs → Post S (RL S) W σ H ((fs env g).bind fun as g2 => .ok (ds ++ as) g2) m H1 Q → Tv S (RL S) W fs σ H1 fun ys H2 => Q (vs ++ ys) H2 := fun ds vs rl p => by
      exact ⟨env, g, m, rel, (Post.bind (R := RL S) (H0 := H1) p).q fun b H2 ⟨a, g1, m1, gr, ok, ra, p2⟩ => p2.now ok (Rl.append (Rl.grow rel.mem (gr.s rel.mem.muW) rl) ra)⟩
    cases a with
    | lst xs =>
      obtain ⟨l, vs, rfl, h1, rl⟩ := ra.lst
      exact ⟨l, vs, rfl, .inr (hK ▸ h1), fin xs vs rl p⟩
    | tup xs =>
      obtain ⟨l, vs, rfl, h1, rl⟩ := ra.tup
      exact ⟨l, vs, rfl, .inl (hK ▸ h1), fin xs vs rl p⟩
    | _ => exact p.elim
def eLst (fs : En (List D)) : E1 := eU (fun ds g => if ds.length ≤ big then .ok (.lst ds) g else .stuck) fs
def eTup (fs : En (List D)) : E1 := eU (fun ds g => if ds.length ≤ big then .ok (.tup ds) g else .stuck) fs
theorem f_lst {es : List Expr} {fs : En (List D)} {pos : Pos} (h : Pas X S W es fs) : Pf X S W (.List es pos) (eLst fs) :=
  PE.to (pe_lst h) fun σ H Q q => Tv.one (Ra := RL S) q fun env m g H1 a x rel fz ⟨_, ra⟩ p => by
    split at p
    · rename_i c
      have ra : Rl S m H1 a x := ra
      exact ⟨by rw [← ra.length]; exact big_line c, fun l hl => p.ownL rel.mem ra hl fz⟩
    · exact p.elim
theorem e_tup {es : List Expr} {fs : En (List D)} {pos : Pos} {x1} (h : Pas X S W es fs) : Pe X S W (.Tuple es x1 pos) (eTup fs) :=
  PE.to (pe_tup h) fun σ H Q q => Tv.one (Ra := RL S) q fun env m g H1 a x rel fz ⟨_, ra⟩ p => by
    split at p
    · rename_i c
      have ra : Rl S m H1 a x := ra
      exact ⟨by rw [← ra.length]; exact big_line c, fun l hl => p.newT rel.mem ra hl⟩
    · exact p.elim
end
end Ev
namespace Ev
open PySem PySem.Spec PyProof.Rows L2
section
variable {X : Cx} {S : Stat} {W : WX}
/-! ### items -/
theorem Rl.atI {m : Mv} {H : Hp} {ds : List D} {vs : List V} {i : Int} {d : D} (r : Rl S m H ds vs) (h : atI ds i = some d) : ∃ v, L2.atI vs i = some v ∧ Rr S m H d v := by
  unfold L2.atI at h ⊢
  rw [← r.length]
  cases e : ixN ds.length i with
  | none => rw [e] at h; cases h
  | some j =>
    rw [e] at h
    obtain ⟨v, e1, q⟩ := r.get h
    exact ⟨v, e1, q⟩
def sIx : D → D → Sto → Res D
  | .lst xs, .int i, g => match atI xs i with
    | some d => .ok d g
    | none => .stuck
  | .tup xs, .int i, g => match atI xs i with
    | some d => .ok d g
    | none => .stuck
  | .frz xs, .int i, g => match atI xs i with
    | some d => .ok d g
    | none => .stuck
  | .str z, .int i, g => if z.length ≤ big then (match atI z.cps.toList i with
    | some c => .ok (.str ⟨#[c]⟩) g
    | none => .stuck) else .stuck
  | _, _, _ => .stuck
theorem e_ix {a b : Expr} {fa fb : E1} {pos : Pos} (hK : S.K = X.K) (ha : Pb X S W a fa) (hb : Pb X S W b fb) (hs : PlainIx b) : Pe X S W (.Subscript a b pos) (eB (dr2 sIx) fa fb) :=
  PE.to (pe_ix ix_seq ha hb hs) fun σ H Q h => two (a := a) (b := b) (Sem2.dr fun σ H0 m g H a b x y Q ok fz ra rb p => by
    cases b with
    | int i =>
      have e := rb.int
      subst e
      cases a with
      | lst xs =>
        obtain ⟨l, vs, rfl, h1, r1⟩ := ra.lst
        simp only [sIx] at p
        cases q : atI xs i with
        | none => rw [q] at p; exact p.elim
        | some d =>
          rw [q] at p
          obtain ⟨v, e1, e2⟩ := r1.atI q
          exact .inl ⟨l, vs, i, v, rfl, rfl, hK ▸ h1, e1, p.now ok e2⟩
      | frz xs =>
        obtain ⟨l, vs, rfl, h1, r1⟩ := ra.frz
        simp only [sIx] at p
        cases q : atI xs i with
        | none => rw [q] at p; exact p.elim
        | some d =>
          rw [q] at p
          obtain ⟨v, e1, e2⟩ := r1.atI q
          exact .inl ⟨l, vs, i, v, rfl, rfl, hK ▸ h1, e1, p.now ok e2⟩
      | tup xs =>
        obtain ⟨l, vs, rfl, h1, r1⟩ := ra.tup
        simp only [sIx] at p
        cases q : atI xs i with
        | none => rw [q] at p; exact p.elim
        | some d =>
          rw [q] at p
          obtain ⟨v, e1, e2⟩ := r1.atI q
          exact .inr (.inl ⟨l, vs, i, v, rfl, rfl, hK ▸ h1, e1, p.now ok e2⟩)
      | str z =>
        have e := ra.str
        subst e
        simp only [sIx] at p
        split at p
        · rename_i c
          cases q : atI z.cps.toList i with
          | none => rw [q] at p; exact p.elim
          | some d =>
            rw [q] at p
            exact .inr (.inr ⟨z, i, d, rfl, rfl, big_line c, q, p.now ok (.str _)⟩)
        · exact p.elim
      | _ => exact p.elim
    | _ => cases a <;> exact p.elim) h
/-! ### slices -/
def RO : Hp → Mv → Hp → Option Int → Option Int → Prop := fun _ _ _ a b => a = b
theorem PO.to {e : Option Expr} {t t' : TO} (h : PO X e t) (i : ∀ σ H Q, t' σ H Q → t σ H Q) : PO X e t' := ⟨fun pins s σ H Q I q => h.run pins s σ H Q I (i σ H Q q)⟩
abbrev Po (X : Cx) (S : Stat) (W : WX) (e : Option Expr) (f : En (Option Int)) : Prop := PO X e (Tv S RO W f)
def oNo : En (Option Int) := fun _ g => .ok none g
def oSo (f : E1) : En (Option Int) := eU (fun d g => match d with
  | .int i => .ok (some i) g
  | _ => .stuck) f
theorem o_no : Po X S W none oNo := PO.to po_none fun σ H Q ⟨env, g, m, r, p⟩ => p.now r.mem rfl
theorem o_so {e : Expr} {f : E1} (h : Pe X S W e f) : Po X S W (some e) (oSo f) := PO.to (po_some h) fun σ H Q q => Tv.one (Ra := RT S) q fun env m g H1 a x rel _ ⟨_, ra⟩ p => by
  cases a with
  | int i => exact ⟨i, ra.int_inv, p.now rel.mem rfl⟩
  | _ => exact p.elim
def cutL {α : Type} (xs : List α) (lo hi : Option Int) : List α := (xs.drop (HT.sIx xs.length 0 lo)).take (HT.sIx xs.length xs.length hi - HT.sIx xs.length 0 lo)
theorem Rl.cut {m : Mv} {H : Hp} {ds : List D} {vs : List V} (r : Rl S m H ds vs) (lo hi : Option Int) : Rl S m H (cutL ds lo hi) (cutV vs lo hi) := by
  unfold cutL cutV
  rw [r.length]
  exact (r.drop _).take _
theorem cut_whole {α : Type} {xs : List α} {lo hi : Option Int} (h : HT.sIx xs.length 0 lo = 0 ∧ HT.sIx xs.length xs.length hi = xs.length) : cutL xs lo hi = xs := by
  unfold cutL
  rw [h.1, h.2]
  simp
def eSl (sem : D → Option Int → Option Int → Sto → Res D) (f : E1) (lo hi : En (Option Int)) : E1 := fun env g => (f env g).bind fun d g1 => (lo env g1).bind fun l g2 => (hi env g2).bind fun h g3 => sem d l h g3
/-- as a tree: lists, tuples, texts -/
def sSl : D → Option Int → Option Int → Sto → Res D
  | .lst xs, lo, hi, g => .ok (.lst (cutL xs lo hi)) g
  | .tup xs, lo, hi, g => .ok (.tup (cutL xs lo hi)) g
  | .str z, lo, hi, g => if z.length ≤ big then .ok (.str ⟨(cutL z.cps.toList lo hi).toArray⟩) g else .stuck
  | _, _, _, _ => .stuck
def sSlL : D → Option Int → Option Int → Sto → Res D
  | .lst xs, lo, hi, g => .ok (.lst (cutL xs lo hi)) g
  | .frz xs, lo, hi, g => .ok (.lst (cutL xs lo hi)) g
  | _, _, _, _ => .stuck
theorem slice_any {e : Expr} {f : E1} {lo hi : Option Expr} {fl fh : En (Option Int)} {p2 pos : Pos} {sem : D → Option Int → Option Int → Sto → Res D} {Rc : Hp → Mv → Hp → D → V → Prop} {r : V → Option Int → Option Int → Hp → VK → Prop} (hr : SlR X r)
    (hs : ∀ (σ : St) (H0 : Hp) (m : Mv) (g : Sto) (H : Hp) (d : D) (l h : Option Int) (x : V) (Q : VK), MOk S H g m → (∀ z, H z = none → H0 z = none) → Rv S m H d x → Post S Rc W σ H0 (sem d l h g) m H Q → r x l h H Q)
    (he : Pb X S W e f) (hl : Po X S W lo fl) (hh : Po X S W hi fh) : PE X (.Subscript e (.Slice lo hi none p2) pos) (Tv S Rc W (eSl (fun d l h g => sem (dr g d) l h g) f fl fh)) :=
  PE.to (pe_slice hr he hl hh) fun σ H Q q => Tv.go (Ra := RB S) (k := fun d env g1 => (fl env g1).bind fun l g2 => (fh env g2).bind fun h g3 => sem (dr g3 d) l h g3) q fun env m g H1 a x rel fz ra p => by
    refine ⟨env, g, m, rel, (Post.bind (R := RO) (H0 := H1) p).q fun l H2 ⟨l', g2, m2, gr2, ok2, rl, p2⟩ => ?_⟩
    have e : l' = l := rl
    subst e
    have rel2 := rel.grow gr2 ok2
    refine ⟨env, g2, m2, rel2, (Post.bind (R := RO) (H0 := H2) p2).q fun h H3 ⟨h', g3, m3, gr3, ok3, rh, p3⟩ => ?_⟩
    have e : h' = h := rh
    subst e
    exact hs σ H m3 g3 H3 _ _ _ x Q ok3 (fun z hz => fz z (gr2.liv z (gr3.liv z hz))) (Rv.dr ok3 (Rb.grow ok2 gr3 ok3 (Rb.grow rel.mem gr2 ok2 ra)).v) p3
theorem cutS_eq {z : Str} {lo hi : Option Int} : True := trivial
theorem f_sl {e : Expr} {f : E1} {lo hi : Option Expr} {fl fh : En (Option Int)} {p2 pos : Pos} (hK : S.K = X.K) (he : Pb X S W e f) (hl : Po X S W lo fl) (hh : Po X S W hi fh) : Pf X S W (.Subscript e (.Slice lo hi none p2) pos) (eSl (fun d l h g => sSlL (dr g d) l h g) f fl fh) :=
  slice_any sl_list (fun σ H0 m g H d l h x Q ok fz ra p => by
    cases d with
    | lst xs =>
      obtain ⟨a, vs, rfl, h1, r1⟩ := ra.lst
      exact ⟨a, vs, rfl, hK ▸ h1, fun q hq => p.ownL ok (r1.cut l h) hq fz⟩
    | frz xs =>
      obtain ⟨a, vs, rfl, h1, r1⟩ := ra.frz
      exact ⟨a, vs, rfl, hK ▸ h1, fun q hq => p.ownL ok (r1.cut l h) hq fz⟩
    | _ => exact p.elim) he hl hh
/-! ### calls of built-ins -/
def Sem1 (S : Stat) (W : WX) (Rc : Hp → Mv → Hp → D → V → Prop) (r : V → Hp → VK → Prop) (sem : D → Sto → Res D) : Prop :=
  ∀ (σ : St) (H0 : Hp) (m : Mv) (g : Sto) (H : Hp) (a : D) (x : V) (Q : VK), MOk S H g m → (∀ z, H z = none → H0 z = none) → Rv S m H a x → Post S Rc W σ H0 (sem a g) m H Q → r x H Q
theorem Sem1.dr {Rc : Hp → Mv → Hp → D → V → Prop} {r : V → Hp → VK → Prop} {sem : D → Sto → Res D} (h : Sem1 S W Rc r sem) : Sem1 S W Rc r (dr1 sem) := fun σ H0 m g H a x Q ok fz ra p => h σ H0 m g H _ x Q ok fz (ra.dr ok) p
theorem call1 {x : Str} {id : String} {r : List V → Hp → VK → Prop} {e : Expr} {f : E1} {sem : D → Sto → Res D} {Rc : Hp → Mv → Hp → D → V → Prop} {p pos : Pos} (hc : CallR X (.builtin id) r) (hg : Gl X x) (hm : X.mg x = none) (hv : bootBuiltins x = some (.builtin id)) (hs : Sem1 S W Rc (fun x => r [x]) sem) (he : Pb X S W e f)
    (hn : x ≠ "__name__" := by decide) (hdb : (x == ("__debug__" : Str)) = false := by decide) (hst : starEach [e] X.env = (false, eval e X.env) :: starEach [] X.env := by rfl) : PE X (.Call (.Name x p) [e] [] pos) (Tv S Rc W (eU (dr1 sem) f)) :=
  PE.to (pe_callB hc hg hm hv (pa_cons he pa_nil hst) hn hdb hst) fun σ H Q q => Tv.one (Ra := RB S) q fun env m g H1 a x rel fz ⟨_, ra⟩ p => hs.dr σ H m g H1 a x Q rel.mem fz ra.v p
theorem callT1 {x : Str} {T : String} {r : List V → Hp → VK → Prop} {e : Expr} {f : E1} {sem : D → Sto → Res D} {Rc : Hp → Mv → Hp → D → V → Prop} {p pos : Pos} (hc : CallR X (.type T) r) (hg : Gl X x) (hm : X.mg x = none) (hv : bootBuiltins x = some (.type T)) (hs : Sem1 S W Rc (fun x => r [x]) sem) (he : Pb X S W e f)
    (hn : x ≠ "__name__" := by decide) (hdb : (x == ("__debug__" : Str)) = false := by decide) (hst : starEach [e] X.env = (false, eval e X.env) :: starEach [] X.env := by rfl) : PE X (.Call (.Name x p) [e] [] pos) (Tv S Rc W (eU (dr1 sem) f)) :=
  PE.to (pe_callTy hc hg hm hv (pa_cons he pa_nil hst) hn hdb hst) fun σ H Q q => Tv.one (Ra := RB S) q fun env m g H1 a x rel fz ⟨_, ra⟩ p => hs.dr σ H m g H1 a x Q rel.mem fz ra.v p
theorem call2 {x : Str} {id : String} {r : List V → Hp → VK → Prop} {e1 e2 : Expr} {f1 f2 : E1} {sem : D → D → Sto → Res D} {Rc : Hp → Mv → Hp → D → V → Prop} {p pos : Pos} (hc : CallR X (.builtin id) r) (hg : Gl X x) (hm : X.mg x = none) (hv : bootBuiltins x = some (.builtin id)) (hs : Sem2 S W Rc (fun x y => r [x, y]) sem) (h1 : Pb X S W e1 f1) (h2 : Pb X S W e2 f2)
    (hn : x ≠ "__name__" := by decide) (hdb : (x == ("__debug__" : Str)) = false := by decide) (hst : starEach [e1, e2] X.env = (false, eval e1 X.env) :: starEach [e2] X.env := by rfl) (hst2 : starEach [e2] X.env = (false, eval e2 X.env) :: starEach [] X.env := by rfl) : PE X (.Call (.Name x p) [e1, e2] [] pos) (Tv S Rc W (eB sem f1 f2)) :=
  PE.to (pe_callB hc hg hm hv (pa_cons h1 (pa_cons h2 pa_nil hst2) hst) hn hdb hst (by rw [hst2]; rfl)) fun σ H Q q => two (a := e1) (b := e2) (r := fun x y => r [x, y]) hs q
theorem CallR.or {f : Value} {r r' : List V → Hp → VK → Prop} (h : CallR X f r) (h' : CallR X f r') : CallR X f (fun xs H Q => r xs H Q ∨ r' xs H Q) := by
  intro pins s σ H xs us Q I rs q
  rcases q with q | q
  · exact h pins s σ H xs us Q I rs q
  · exact h' pins s σ H xs us Q I rs q
/-- len -/
def sLen : D → Sto → Res D
  | .lst xs, g => .ok (.int xs.length) g
  | .frz xs, g => .ok (.int xs.length) g
  | .tup xs, g => .ok (.int xs.length) g
  | .str z, g => if z.length ≤ big then .ok (.int z.length) g else .stuck
  | _, _ => .stuck
theorem e_len {e : Expr} {f : E1} {p pos : Pos} (hK : S.K = X.K) (hg : Gl X "len") (hm : X.mg "len" = none) (he : Pb X S W e f) (hst : starEach [e] X.env = (false, eval e X.env) :: starEach [] X.env := by rfl) : Pe X S W (.Call (.Name "len" p) [e] [] pos) (eU (dr1 sLen) f) :=
  call1 (Ev.CallR.or call_len_seq call_len_str) hg hm PySem.boot_len (fun σ H0 m g H a x Q ok fz ra q => by
    cases a with
    | lst xs =>
      obtain ⟨l, vs, rfl, h1, r1⟩ := ra.lst
      exact .inl ⟨l, vs, rfl, .inl (hK ▸ h1), by rw [← r1.length]; exact q.now ok (.int _)⟩
    | frz xs =>
      obtain ⟨l, vs, rfl, h1, r1⟩ := ra.frz
      exact .inl ⟨l, vs, rfl, .inl (hK ▸ h1), by rw [← r1.length]; exact q.now ok (.int _)⟩
    | tup xs =>
      obtain ⟨l, vs, rfl, h1, r1⟩ := ra.tup
      exact .inl ⟨l, vs, rfl, .inr (hK ▸ h1), by rw [← r1.length]; exact q.now ok (.int _)⟩
    | str z =>
      have e := ra.str
      subst e
      simp only [sLen] at q
      split at q
      · rename_i c; exact .inr ⟨z, rfl, big_line c, q.now ok (.int _)⟩
      · exact q.elim
    | _ => exact q.elim) he (by decide) (by decide) hst
/-- abs; max and min of two -/
def sAbs : D → Sto → Res D
  | .int i, g => .ok (.int (if i < 0 then -i else i)) g
  | _, _ => .stuck
theorem e_abs {e : Expr} {f : E1} {p pos : Pos} (hg : Gl X "abs") (hm : X.mg "abs" = none) (he : Pb X S W e f) (hst : starEach [e] X.env = (false, eval e X.env) :: starEach [] X.env := by rfl) : Pe X S W (.Call (.Name "abs" p) [e] [] pos) (eU (dr1 sAbs) f) :=
  call1 call_abs hg hm (by decide +kernel) (fun σ H0 m g H a x Q ok fz ra q => by
    cases a with
    | int i => exact ⟨i, by rw [ra.int], q.now ok (.int _)⟩
    | _ => exact q.elim) he (by decide) (by decide) hst
def sMax2 : D → D → Sto → Res D
  | .int i, .int j, g => .ok (.int (if j > i then j else i)) g
  | _, _, _ => .stuck
def sMin2 : D → D → Sto → Res D
  | .int i, .int j, g => .ok (.int (if j < i then j else i)) g
  | _, _, _ => .stuck
theorem e_max2 {e1 e2 : Expr} {f1 f2 : E1} {p pos : Pos} (hc : X.calm = true) (hg : Gl X "max") (hm : X.mg "max" = none) (h1 : Pb X S W e1 f1) (h2 : Pb X S W e2 f2) (hst : starEach [e1, e2] X.env = (false, eval e1 X.env) :: starEach [e2] X.env := by rfl) (hst2 : starEach [e2] X.env = (false, eval e2 X.env) :: starEach [] X.env := by rfl) :
    Pe X S W (.Call (.Name "max" p) [e1, e2] [] pos) (eB sMax2 f1 f2) :=
  call2 (call_max2 hc) hg hm (by decide +kernel) (sem_int (fun σ H0 m g H i j Q ok q => ⟨i, j, rfl, q.now ok (.int _)⟩) fun a b g n => by
    cases a <;> cases b <;> first | rfl | exact absurd ⟨rfl, rfl⟩ (n _ _)) h1 h2 (by decide) (by decide) hst hst2
theorem e_min2 {e1 e2 : Expr} {f1 f2 : E1} {p pos : Pos} (hc : X.calm = true) (hg : Gl X "min") (hm : X.mg "min" = none) (h1 : Pb X S W e1 f1) (h2 : Pb X S W e2 f2) (hst : starEach [e1, e2] X.env = (false, eval e1 X.env) :: starEach [e2] X.env := by rfl) (hst2 : starEach [e2] X.env = (false, eval e2 X.env) :: starEach [] X.env := by rfl) :
    Pe X S W (.Call (.Name "min" p) [e1, e2] [] pos) (eB sMin2 f1 f2) :=
  call2 (call_min2 hc) hg hm (by decide +kernel) (sem_int (fun σ H0 m g H i j Q ok q => ⟨i, j, rfl, q.now ok (.int _)⟩) fun a b g n => by
    cases a <;> cases b <;> first | rfl | exact absurd ⟨rfl, rfl⟩ (n _ _)) h1 h2 (by decide) (by decide) hst hst2
/-- int(..) of an int, a bool, a text -/
def sInt : D → Sto → Res D
  | .int i, g => .ok (.int i) g
  | .bl b, g => .ok (.int (if b then 1 else 0)) g
  | .str z, g => if z.length ≤ 640 then (match PySem.intText? z with
    | some n => .ok (.int n) g
    | none => .stuck) else .stuck
  | _, _ => .stuck
theorem e_int1 {e : Expr} {f : E1} {p pos : Pos} (hg : Gl X "int") (hm : X.mg "int" = none) (he : Pb X S W e f) (hst : starEach [e] X.env = (false, eval e X.env) :: starEach [] X.env := by rfl) : Pe X S W (.Call (.Name "int" p) [e] [] pos) (eU (dr1 sInt) f) :=
  callT1 (Ev.CallR.or call_int1 call_int_str) hg hm (by decide +kernel) (fun σ H0 m g H a x Q ok fz ra q => by
    cases a with
    | int i => exact .inl (.inl ⟨i, by rw [ra.int], q.now ok (.int _)⟩)
    | bl b => exact .inl (.inr ⟨b, by rw [ra.bl], q.now ok (.int _)⟩)
    | str z =>
      have e := ra.str
      subst e
      simp only [sInt] at q
      split at q
      · rename_i c
        cases e : PySem.intText? z with
        | none => rw [e] at q; exact q.elim
        | some n => rw [e] at q; exact .inr ⟨z, n, rfl, e, c, q.now ok (.int _)⟩
      · exact q.elim
    | _ => exact q.elim) he (by decide) (by decide) hst
/-- str(..) of a text, of an int below 10 ^ 18 -/
def sStr : D → Sto → Res D
  | .str z, g => .ok (.str z) g
  | .int i, g => if i.natAbs < 10 ^ 18 then .ok (.str (toString i)) g else .stuck
  | _, _ => .stuck
theorem log_small {n : Nat} (h : n < 10 ^ 18) : n.log2 < 1920 := by
  by_cases h0 : n = 0
  · subst h0; decide
  · have h1 : n.log2 < 60 := (Nat.log2_lt h0).mpr (Nat.lt_of_lt_of_le h (by decide))
    omega
theorem e_str1 {e : Expr} {f : E1} {p pos : Pos} (hg : Gl X "str") (hm : X.mg "str" = none) (he : Pb X S W e f) (hst : starEach [e] X.env = (false, eval e X.env) :: starEach [] X.env := by rfl) : Pe X S W (.Call (.Name "str" p) [e] [] pos) (eU (dr1 sStr) f) :=
  callT1 (Ev.CallR.or SkE.call_str_str call_str_int) hg hm (by decide +kernel) (fun σ H0 m g H a x Q ok fz ra q => by
    cases a with
    | str z => exact .inl ⟨z, by rw [ra.str], q.now ok (.str _)⟩
    | int i =>
      have e := ra.int
      subst e
      simp only [sStr] at q
      split at q
      · rename_i c; exact .inr ⟨i, rfl, log_small c, q.now ok (.str _)⟩
      · exact q.elim
    | _ => exact q.elim) he (by decide) (by decide) hst
/-- tuple(..), list(..) -/
def sTuple : D → Sto → Res D
  | .lst xs, g => .ok (.tup xs) g
  | .tup xs, g => .ok (.tup xs) g
  | _, _ => .stuck
def sList : D → Sto → Res D
  | .lst xs, g => .ok (.lst xs) g
  | .frz xs, g => .ok (.lst xs) g
  | .tup xs, g => .ok (.lst xs) g
  | _, _ => .stuck
theorem e_tuple {e : Expr} {f : E1} {p pos : Pos} (hK : S.K = X.K) (hg : Gl X "tuple") (hm : X.mg "tuple" = none) (he : Pb X S W e f) (hst : starEach [e] X.env = (false, eval e X.env) :: starEach [] X.env := by rfl) : Pe X S W (.Call (.Name "tuple" p) [e] [] pos) (eU (dr1 sTuple) f) :=
  callT1 call_tuple_of hg hm (by decide +kernel) (fun σ H0 m g H a x Q ok fz ra q => by
    cases a with
    | lst xs =>
      obtain ⟨l, vs, rfl, h1, r1⟩ := ra.lst
      exact ⟨l, vs, rfl, .inl ⟨hK ▸ h1, fun p hp => q.newT ok r1 hp⟩⟩
    | tup xs =>
      obtain ⟨l, vs, rfl, h1, r1⟩ := ra.tup
      exact ⟨l, vs, rfl, .inr ⟨hK ▸ h1, q.now ok (.tup h1 r1)⟩⟩
    | _ => exact q.elim) he (by decide) (by decide) hst
theorem f_list {e : Expr} {f : E1} {p pos : Pos} (hK : S.K = X.K) (hg : Gl X "list") (hm : X.mg "list" = none) (he : Pb X S W e f) (hst : starEach [e] X.env = (false, eval e X.env) :: starEach [] X.env := by rfl) : Pf X S W (.Call (.Name "list" p) [e] [] pos) (eU (dr1 sList) f) :=
  callT1 call_list_of hg hm (by decide +kernel) (fun σ H0 m g H a x Q ok fz ra q => by
    cases a with
    | lst xs =>
      obtain ⟨l, vs, rfl, h1, r1⟩ := ra.lst
      exact ⟨l, vs, rfl, .inl (hK ▸ h1), fun p hp => q.ownL ok r1 hp fz⟩
    | frz xs =>
      obtain ⟨l, vs, rfl, h1, r1⟩ := ra.frz
      exact ⟨l, vs, rfl, .inl (hK ▸ h1), fun p hp => q.ownL ok r1 hp fz⟩
    | tup xs =>
      obtain ⟨l, vs, rfl, h1, r1⟩ := ra.tup
      exact ⟨l, vs, rfl, .inr (hK ▸ h1), fun p hp => q.ownL ok r1 hp fz⟩
    | _ => exact q.elim) he (by decide) (by decide) hst
/-! ### any, all, sum, max of a list -/
def blsOf : List D → Option (List Bool)
  | [] => some []
  | .bl b :: r => (blsOf r).map (b :: ·)
  | _ => none
def intsOf : List D → Option (List Int)
  | [] => some []
  | .int b :: r => (intsOf r).map (b :: ·)
  | _ => none
def strsOf : List D → Option (List Str)
  | [] => some []
  | .str b :: r => (strsOf r).map (b :: ·)
  | _ => none
theorem blsOf_ok {m : Mv} {H : Hp} : ∀ {ds : List D} {bs : List Bool} {vs : List V}, blsOf ds = some bs → Rl S m H ds vs → vs = bs.map V.bl
  | [], bs, _, h, .nil => by simp [blsOf] at h; subst h; rfl
  | .bl b :: r, bs, _, h, .cons q t => by
    simp only [blsOf] at h
    obtain ⟨cs, e, rfl⟩ := Option.map_eq_some_iff.mp h
    rw [blsOf_ok e t, q.bl_inv]; rfl
  | .non :: r, bs, _, h, _ => by simp [blsOf] at h
  | .int _ :: r, bs, _, h, _ => by simp [blsOf] at h
  | .str _ :: r, bs, _, h, _ => by simp [blsOf] at h
  | .lst _ :: r, bs, _, h, _ => by simp [blsOf] at h
  | .tup _ :: r, bs, _, h, _ => by simp [blsOf] at h
  | .dic _ _ :: r, bs, _, h, _ => by simp [blsOf] at h
  | .ins _ _ _ :: r, bs, _, h, _ => by simp [blsOf] at h
  | .loc _ :: r, bs, _, h, _ => by simp [blsOf] at h
  | .frz _ :: r, bs, _, h, _ => by simp [blsOf] at h
theorem intsOf_ok {m : Mv} {H : Hp} : ∀ {ds : List D} {bs : List Int} {vs : List V}, intsOf ds = some bs → Rl S m H ds vs → vs = bs.map V.int
  | [], bs, _, h, .nil => by simp [intsOf] at h; subst h; rfl
  | .int b :: r, bs, _, h, .cons q t => by
    simp only [intsOf] at h
    obtain ⟨cs, e, rfl⟩ := Option.map_eq_some_iff.mp h
    rw [intsOf_ok e t, q.int_inv]; rfl
  | .non :: r, bs, _, h, _ => by simp [intsOf] at h
  | .bl _ :: r, bs, _, h, _ => by simp [intsOf] at h
  | .str _ :: r, bs, _, h, _ => by simp [intsOf] at h
  | .lst _ :: r, bs, _, h, _ => by simp [intsOf] at h
  | .tup _ :: r, bs, _, h, _ => by simp [intsOf] at h
  | .dic _ _ :: r, bs, _, h, _ => by simp [intsOf] at h
  | .ins _ _ _ :: r, bs, _, h, _ => by simp [intsOf] at h
  | .loc _ :: r, bs, _, h, _ => by simp [intsOf] at h
  | .frz _ :: r, bs, _, h, _ => by simp [intsOf] at h
theorem strsOf_ok {m : Mv} {H : Hp} : ∀ {ds : List D} {bs : List Str} {vs : List V}, strsOf ds = some bs → Rl S m H ds vs → vs = bs.map V.str
  | [], bs, _, h, .nil => by simp [strsOf] at h; subst h; rfl
  | .str b :: r, bs, _, h, .cons q t => by
    simp only [strsOf] at h
    obtain ⟨cs, e, rfl⟩ := Option.map_eq_some_iff.mp h
    rw [strsOf_ok e t, q.str_inv]; rfl
  | .non :: r, bs, _, h, _ => by simp [strsOf] at h
  | .bl _ :: r, bs, _, h, _ => by simp [strsOf] at h
  | .int _ :: r, bs, _, h, _ => by simp [strsOf] at h
  | .lst _ :: r, bs, _, h, _ => by simp [strsOf] at h
  | .tup _ :: r, bs, _, h, _ => by simp [strsOf] at h
  | .dic _ _ :: r, bs, _, h, _ => by simp [strsOf] at h
  | .ins _ _ _ :: r, bs, _, h, _ => by simp [strsOf] at h
  | .loc _ :: r, bs, _, h, _ => by simp [strsOf] at h
  | .frz _ :: r, bs, _, h, _ => by simp [strsOf] at h
def sAny : D → Sto → Res D
  | .lst xs, g => match blsOf xs with
    | some bs => .ok (.bl (bs.any id)) g
    | none => .stuck
  | _, _ => .stuck
def sAll : D → Sto → Res D
  | .lst xs, g => match blsOf xs with
    | some bs => .ok (.bl (bs.all id)) g
    | none => .stuck
  | _, _ => .stuck
def sSum : D → Sto → Res D
  | .lst xs, g => match intsOf xs with
    | some bs => .ok (.int bs.sum) g
    | none => .stuck
  | _, _ => .stuck
theorem e_any {e : Expr} {f : E1} {p pos : Pos} (hK : S.K = X.K) (hc : X.calm = true) (hg : Gl X "any") (hm : X.mg "any" = none) (he : Pb X S W e f) (hst : starEach [e] X.env = (false, eval e X.env) :: starEach [] X.env := by rfl) : Pe X S W (.Call (.Name "any" p) [e] [] pos) (eU (dr1 sAny) f) :=
  call1 (cr_any hc) hg hm (by decide +kernel) (fun σ H0 m g H a x Q ok fz ra q => by
    cases a with
    | lst xs =>
      obtain ⟨l, vs, rfl, h1, r1⟩ := ra.lst
      simp only [sAny] at q
      cases e : blsOf xs with
      | none => rw [e] at q; exact q.elim
      | some bs =>
        rw [e] at q
        have e2 := blsOf_ok e r1
        subst e2
        exact ⟨l, bs, rfl, hK ▸ h1, q.now ok (.bl _)⟩
    | _ => exact q.elim) he (by decide) (by decide) hst
theorem e_all {e : Expr} {f : E1} {p pos : Pos} (hK : S.K = X.K) (hc : X.calm = true) (hg : Gl X "all") (hm : X.mg "all" = none) (he : Pb X S W e f) (hst : starEach [e] X.env = (false, eval e X.env) :: starEach [] X.env := by rfl) : Pe X S W (.Call (.Name "all" p) [e] [] pos) (eU (dr1 sAll) f) :=
  call1 (cr_all hc) hg hm (by decide +kernel) (fun σ H0 m g H a x Q ok fz ra q => by
    cases a with
    | lst xs =>
      obtain ⟨l, vs, rfl, h1, r1⟩ := ra.lst
      simp only [sAll] at q
      cases e : blsOf xs with
      | none => rw [e] at q; exact q.elim
      | some bs =>
        rw [e] at q
        have e2 := blsOf_ok e r1
        subst e2
        exact ⟨l, bs, rfl, hK ▸ h1, q.now ok (.bl _)⟩
    | _ => exact q.elim) he (by decide) (by decide) hst
theorem e_sum {e : Expr} {f : E1} {p pos : Pos} (hK : S.K = X.K) (hc : X.calm = true) (hg : Gl X "sum") (hm : X.mg "sum" = none) (he : Pb X S W e f) (hst : starEach [e] X.env = (false, eval e X.env) :: starEach [] X.env := by rfl) : Pe X S W (.Call (.Name "sum" p) [e] [] pos) (eU (dr1 sSum) f) :=
  call1 (cr_sum hc) hg hm (by decide +kernel) (fun σ H0 m g H a x Q ok fz ra q => by
    cases a with
    | lst xs =>
      obtain ⟨l, vs, rfl, h1, r1⟩ := ra.lst
      simp only [sSum] at q
      cases e : intsOf xs with
      | none => rw [e] at q; exact q.elim
      | some bs =>
        rw [e] at q
        have e2 := intsOf_ok e r1
        subst e2
        exact ⟨l, bs, rfl, hK ▸ h1, q.now ok (.int _)⟩
    | _ => exact q.elim) he (by decide) (by decide) hst
def maxOf : List Int → Option Int
  | [] => none
  | x :: r => match maxOf r with
    | none => some x
    | some y => some (if x < y then y else x)
theorem maxOf_ok : ∀ {xs : List Int} {m k : Int}, maxOf xs = some m → k ∈ xs → (∀ y, y ∈ xs → y ≤ k) → k = m
  | [], _, _, h, _, _ => by cases h
  | x :: r, m, k, h, hk, hy => by
    simp only [maxOf] at h
    cases e : maxOf r with
    | none =>
      rw [e] at h
      cases r with
      | nil => simp at hk; rw [hk]; exact Option.some.inj h
      | cons z t => simp only [maxOf] at e; split at e <;> cases e
    | some y =>
      rw [e] at h
      have hx := hy x List.mem_cons_self
      have key : ∀ (xs : List Int) (y : Int), maxOf xs = some y → y ∈ xs ∧ ∀ z, z ∈ xs → z ≤ y := by
        intro xs
        induction xs with
        | nil => intro y h; cases h
        | cons a t ih =>
          intro y h
          simp only [maxOf] at h
          cases e : maxOf t with
          | none =>
            rw [e] at h
            cases t with
            | nil => cases h; simp
            | cons z t => simp only [maxOf] at e; split at e <;> cases e
          | some w =>
            rw [e] at h
            obtain ⟨h1, h2⟩ := ih w e
            have h3 := Option.some.inj h
            by_cases c : a < w
            · rw [if_pos c] at h3
              subst h3
              exact ⟨List.mem_cons_of_mem _ h1, fun z hz => by
                rcases List.mem_cons.mp hz with rfl | hz
                · omega
                · exact h2 z hz⟩
            · rw [if_neg c] at h3
              subst h3
              exact ⟨List.mem_cons_self, fun z hz => by
                rcases List.mem_cons.mp hz with rfl | hz
                · omega
                · have := h2 z hz; omega⟩
      obtain ⟨h1, h2⟩ := key r y e
      have hy1 := hy y (List.mem_cons_of_mem _ h1)
      have h3 := Option.some.inj h
      rcases List.mem_cons.mp hk with rfl | hk
      · by_cases c : k < y
        · omega
        · rw [if_neg c] at h3; exact h3
      · have := h2 k hk
        by_cases c : x < y
        · rw [if_pos c] at h3; omega
        · rw [if_neg c] at h3; omega
def sMaxL : D → Sto → Res D
  | .lst xs, g => match (intsOf xs).bind maxOf with
    | some m => .ok (.int m) g
    | none => .stuck
  | _, _ => .stuck
theorem e_maxL {e : Expr} {f : E1} {p pos : Pos} (hK : S.K = X.K) (hc : X.calm = true) (hg : Gl X "max") (hm : X.mg "max" = none) (he : Pb X S W e f) (hst : starEach [e] X.env = (false, eval e X.env) :: starEach [] X.env := by rfl) : Pe X S W (.Call (.Name "max" p) [e] [] pos) (eU (dr1 sMaxL) f) :=
  call1 (cr_max hc) hg hm (by decide +kernel) (fun σ H0 m g H a x Q ok fz ra q => by
    cases a with
    | lst xs =>
      obtain ⟨l, vs, rfl, h1, r1⟩ := ra.lst
      simp only [sMaxL] at q
      cases e : intsOf xs with
      | none => rw [e] at q; exact q.elim
      | some bs =>
        rw [e] at q
        have e2 := intsOf_ok e r1
        subst e2
        simp only [Option.bind_some] at q
        cases e3 : maxOf bs with
        | none => rw [e3] at q; exact q.elim
        | some mx =>
          rw [e3] at q
          refine ⟨l, bs, rfl, hK ▸ h1, ?_, fun k hk hy => ?_⟩
          · cases bs with
            | nil => cases e3
            | cons _ _ => simp
          · rw [maxOf_ok e3 hk hy]; exact q.now ok (.int _)
    | _ => exact q.elim) he (by decide) (by decide) hst
end
end Ev
namespace Ev
open PySem PySem.Spec PyProof.Rows L2
/-- where a statement ends -/
inductive SRes where
  | nx (env : Env) (g : Sto) | rt (d : D) (g : Sto) | rtO (d : D) (g : Sto) | bk (env : Env) (g : Sto) | ct (env : Env) (g : Sto) | exc (x : Xc) (env : Env) (g : Sto) | stuck
abbrev Sd := Env → Sto → SRes
section
variable {X : Cx} {S : Stat} {W : WX}
def SPost (S : Stat) (W : WX) (E : Ends) (r : SRes) (m : Mv) (H : Hp) : Prop := match r with
  | .nx env' g' => ∀ σ' H' m', GrowS m H m' H' → Rel S H' σ' env' g' m' → E.nx σ' H'
  | .rt d g' => ∀ v H' m', GrowS m H m' H' → MOk S H' g' m' → Rr S m' H' d v → E.rt v H'
  | .rtO d g' => ∀ a H' m', GrowS m H m' H' → MOk S H' g' m' → a ∈ m'.W → a ∉ m'.mu → Root S m' H' a d → E.rt (.ref a) H'
  | .bk env' g' => ∀ σ' H' m', GrowS m H m' H' → Rel S H' σ' env' g' m' → E.bk σ' H'
  | .ct env' g' => ∀ σ' H' m', GrowS m H m' H' → Rel S H' σ' env' g' m' → E.ct σ' H'
  | .exc x env' g' => ∀ cl dx σ' H' m', GrowS m H m' H' → Rel S H' σ' env' g' m' → XRd S m' H' x cl dx → W cl dx σ' H'
  | .stuck => False
def TSv (S : Stat) (W : WX) (f : Sd) : TS := fun E σ H => ∃ env g m, Rel S H σ env g m ∧ SPost S W E (f env g) m H
abbrev Ps (X : Cx) (S : Stat) (W : WX) (st : Stmt) (f : Sd) : Prop := PS X st (TSv S W f)
abbrev Pss (X : Cx) (S : Stat) (W : WX) (st : List Stmt) (f : Sd) : Prop := PSs X st (TSv S W f)
theorem SPost.mono {E : Ends} {r : SRes} {m m1 : Mv} {H H1 : Hp} (q : GrowS m H m1 H1) (h : SPost S W E r m H) : SPost S W E r m1 H1 := by
  cases r with
  | nx env g => exact fun σ' H' m' q' r => h σ' H' m' (q.trans q') r
  | rt d g => exact fun v H' m' q' ok r => h v H' m' (q.trans q') ok r
  | rtO d g => exact fun a H' m' q' ok h1 h2 r => h a H' m' (q.trans q') ok h1 h2 r
  | bk env g => exact fun σ' H' m' q' r => h σ' H' m' (q.trans q') r
  | ct env g => exact fun σ' H' m' q' r => h σ' H' m' (q.trans q') r
  | exc x env g => exact fun cl dx σ' H' m' q' r z => h cl dx σ' H' m' (q.trans q') r z
  | stuck => exact h
theorem SPost.ends {E E' : Ends} {r : SRes} {m : Mv} {H : Hp} (h : SPost S W E r m H) (h1 : ∀ σ H, E.nx σ H → E'.nx σ H) (h2 : ∀ v H, E.rt v H → E'.rt v H) (h3 : ∀ σ H, E.bk σ H → E'.bk σ H) (h4 : ∀ σ H, E.ct σ H → E'.ct σ H) : SPost S W E' r m H := by
  cases r with
  | nx env g => exact fun σ' H' m' q' r => h1 _ _ (h σ' H' m' q' r)
  | rt d g => exact fun v H' m' q' ok r => h2 _ _ (h v H' m' q' ok r)
  | rtO d g => exact fun a H' m' q' ok z1 z2 r => h2 _ _ (h a H' m' q' ok z1 z2 r)
  | bk env g => exact fun σ' H' m' q' r => h3 _ _ (h σ' H' m' q' r)
  | ct env g => exact fun σ' H' m' q' r => h4 _ _ (h σ' H' m' q' r)
  | exc x env g => exact h
  | stuck => exact h
/-! ### blocks -/
def sNil : Sd := fun env g => .nx env g
def sSeq (f h : Sd) : Sd := fun env g => match f env g with
  | .nx env' g' => h env' g'
  | r => r
theorem ss_nil : Pss X S W [] sNil := PSs.to pss_nil fun E σ H ⟨env, g, m, r, p⟩ => p σ H m (.refl m H) r
theorem SPost.seq {E : Ends} {f h : Sd} {env : Env} {g : Sto} {m : Mv} {H : Hp} (p : SPost S W E (sSeq f h env g) m H) : SPost S W { E with nx := TSv S W h E } (f env g) m H := by
  unfold sSeq at p
  cases q : f env g with
  | nx env' g' => rw [q] at p; exact fun σ' H' m' gr r => ⟨env', g', m', r, SPost.mono gr p⟩
  | rt d g' => rw [q] at p; exact p
  | rtO d g' => rw [q] at p; exact p
  | bk env' g' => rw [q] at p; exact p
  | ct env' g' => rw [q] at p; exact p
  | exc x env' g' => rw [q] at p; exact p
  | stuck => rw [q] at p; exact p
theorem ss_cons {st : Stmt} {rest : List Stmt} {f h : Sd} (h1 : Ps X S W st f) (h2 : Pss X S W rest h) : Pss X S W (st :: rest) (sSeq f h) :=
  PSs.to (pss_cons h1 h2) fun E σ H ⟨env, g, m, r, p⟩ => ⟨env, g, m, r, p.seq⟩
theorem ss_one {st : Stmt} {f : Sd} (h1 : Ps X S W st f) : Pss X S W [st] f := pss_one h1
theorem s_pass {pos : Pos} : Ps X S W (.Pass pos) sNil := PS.to ps_pass fun E σ H ⟨env, g, m, r, p⟩ => p σ H m (.refl m H) r
def sBreak : Sd := fun env g => .bk env g
def sCont : Sd := fun env g => .ct env g
theorem s_break {pos : Pos} : Ps X S W (.Break pos) sBreak := PS.to ps_break fun E σ H ⟨env, g, m, r, p⟩ => p σ H m (.refl m H) r
theorem s_cont {pos : Pos} : Ps X S W (.Continue pos) sCont := PS.to ps_continue fun E σ H ⟨env, g, m, r, p⟩ => p σ H m (.refl m H) r
/-! ### from an expression to a statement -/
def thenS {α : Type} (f : En α) (k : α → Env → Sto → SRes) : Sd := fun env g => match f env g with
  | .ok a g1 => k a env g1
  | .exc x g1 => .exc x env g1
  | .stuck => .stuck
/-- the value is there: what is left -/
theorem Tv.st {α α' : Type} {R : Hp → Mv → Hp → α → α' → Prop} {f : En α} {k : α → Env → Sto → SRes} {E : Ends} {σ : St} {H : Hp} (h : TSv S W (thenS f k) E σ H) {P : α' → Hp → Prop}
    (hk : ∀ env g0 g m0 m H1 a x, Rel S H σ env g0 m0 → Grow m0 H m H1 → Rel S H1 σ env g m → R H m H1 a x → SPost S W E (k a env g) m H1 → P x H1) : Tv S R W f σ H P := by
  obtain ⟨env, g, m, r, p⟩ := h
  refine ⟨env, g, m, r, ?_⟩
  unfold thenS at p
  cases q : f env g with
  | stuck => rw [q] at p; exact p
  | exc x g' =>
    rw [q] at p
    exact fun cl dx H' m' gr ok z => p cl dx σ H' m' (gr.s r.mem.muW) (r.grow gr ok) z
  | ok a g1 =>
    rw [q] at p
    intro x H1 m1 gr ok ra
    exact hk env g g1 m m1 H1 a x r gr (r.grow gr ok) ra (SPost.mono (gr.s r.mem.muW) p)
def sDo (f : E1) : Sd := thenS f fun _ env g => .nx env g
def sRet (f : E1) : Sd := thenS f fun d _ g => .rt d g
def sRetN : Sd := fun _ g => .rt .non g
def sIf (t : En Bool) (a b : Sd) : Sd := thenS t fun c env g => if c = true then a env g else b env g
theorem s_do {e : Expr} {f : E1} {pos : Pos} (he : Pe X S W e f) (hs : swapsWith e none pos.line X.env = pure false := by rfl) : Ps X S W (.Expr e pos) (sDo f) :=
  PS.to (ps_expr he hs) fun E σ H h => Tv.st (R := RT S) h fun env g0 g m0 m H1 a x r0 gr r1 ra p => p σ H1 m (.refl m H1) r1
theorem s_ret {e : Expr} {f : E1} {pos : Pos} (he : Pe X S W e f) : Ps X S W (.Return (some e) pos) (sRet f) :=
  PS.to (ps_ret he) fun E σ H h => Tv.st (R := RT S) h fun env g0 g m0 m H1 a x r0 gr r1 ra p => p x H1 m (.refl m H1) r1.mem ra
theorem s_retN {pos : Pos} : Ps X S W (.Return none pos) sRetN := PS.to ps_retN fun E σ H ⟨env, g, m, r, p⟩ => p .non H m (.refl m H) r.mem .non
theorem s_if {c : Expr} {a b : List Stmt} {t : En Bool} {f h : Sd} {pos : Pos} (hc : Pt X S W c t) (ha : Pss X S W a f) (hb : Pss X S W b h) : Ps X S W (.If c a b pos) (sIf t f h) :=
  PS.to (ps_if hc ha hb) fun E σ H q => Tv.st (R := RQ) q fun env g0 g m0 m H1 a x r0 gr r1 ra p => by
    have e : a = x := ra
    subst e
    cases a with
    | true => exact ⟨env, g, m, r1, p⟩
    | false => exact ⟨env, g, m, r1, p⟩
/-! ### names are stored -/
theorem Rel.set {H : Hp} {σ : St} {env : Env} {g : Sto} {m : Mv} (r : Rel S H σ env g m) (i : Nat) {d : D} {v : V} (h : Rr S m H d v) : Rel S H (σ.set i (some v)) (env.set i (.sh d)) g m := by
  refine ⟨r.mem, by simp [r.len], fun j s ov e1 e2 => ?_, fun j k d1 d2 a e1 e2 e3 e4 => ?_⟩
  · by_cases hj : i = j
    · subst hj
      have hl : i < env.length := by have := (List.getElem?_eq_some_iff.mp e1).1; simpa using this
      rw [List.getElem?_set_self hl] at e1
      rw [List.getElem?_set_self (by rw [r.len]; exact hl)] at e2
      cases e1; cases e2
      exact ⟨v, rfl, h⟩
    · rw [List.getElem?_set_ne hj] at e1 e2
      exact r.slot j s ov e1 e2
  · have hj : i ≠ j := fun z => by
      subst z
      have hl : i < env.length := by have := (List.getElem?_eq_some_iff.mp e1).1; simpa using this
      rw [List.getElem?_set_self hl] at e1
      cases e1
    have hk : i ≠ k := fun z => by
      subst z
      have hl : i < env.length := by have := (List.getElem?_eq_some_iff.mp e2).1; simpa using this
      rw [List.getElem?_set_self hl] at e2
      cases e2
    rw [List.getElem?_set_ne hj] at e1 e3
    rw [List.getElem?_set_ne hk] at e2 e4
    exact r.own j k d1 d2 a e1 e2 e3 e4
/-- .. with what is new and one's own -/
theorem Rel.setO {H : Hp} {σ : St} {env : Env} {g : Sto} {m : Mv} (r : Rel S H σ env g m) (i : Nat) {d : D} {a : Addr} (hw : a ∈ m.W) (hm : a ∉ m.mu) (h : Root S m H a d) (hn : ∀ (j : Nat) (d' : D), env[j]? = some (Slot.ow d') → σ[j]? = some (some (V.ref a)) → False) :
    Rel S H (σ.set i (some (.ref a))) (env.set i (.ow d)) g m := by
  refine ⟨r.mem, by simp [r.len], fun j s ov e1 e2 => ?_, fun j k d1 d2 b e1 e2 e3 e4 => ?_⟩
  · by_cases hj : i = j
    · subst hj
      have hl : i < env.length := by have := (List.getElem?_eq_some_iff.mp e1).1; simpa using this
      rw [List.getElem?_set_self hl] at e1
      rw [List.getElem?_set_self (by rw [r.len]; exact hl)] at e2
      cases e1; cases e2
      exact ⟨a, rfl, hw, hm, h⟩
    · rw [List.getElem?_set_ne hj] at e1 e2
      exact r.slot j s ov e1 e2
  · by_cases hj : i = j
    · subst hj
      have hl : i < env.length := by have := (List.getElem?_eq_some_iff.mp e1).1; simpa using this
      rw [List.getElem?_set_self (by rw [r.len]; exact hl)] at e3
      cases e3
      by_cases hk : i = k
      · exact hk
      · rw [List.getElem?_set_ne hk] at e2 e4
        exact (hn k d2 e2 e4).elim
    · rw [List.getElem?_set_ne hj] at e1 e3
      by_cases hk : i = k
      · subst hk
        have hl : i < env.length := by have := (List.getElem?_eq_some_iff.mp e2).1; simpa using this
        rw [List.getElem?_set_self (by rw [r.len]; exact hl)] at e4
        cases e4
        exact (hn j d1 e1 e3).elim
      · rw [List.getElem?_set_ne hk] at e2 e4
        exact r.own j k d1 d2 b e1 e2 e3 e4
/-- new things are no one's -/
theorem Rel.newO {H0 : Hp} {σ : St} {env : Env} {g0 : Sto} {m0 : Mv} (r : Rel S H0 σ env g0 m0) {a : Addr} (h : H0 a = none) : ∀ (j : Nat) (d' : D), env[j]? = some (Slot.ow d') → σ[j]? = some (some (V.ref a)) → False := fun j d' e1 e2 => by
  obtain ⟨b, e, hw, _, _⟩ := r.slot j _ _ e1 e2
  cases e
  have := r.mem.trk a (.inl hw); rw [h] at this; exact this
def sSet (i : Nat) (f : E1) : Sd := thenS f fun d env g => .nx (env.set i (.sh d)) g
def sSetO (i : Nat) (f : E1) : Sd := thenS f fun d env g => .nx (env.set i (.ow d)) g
theorem s_set {i : Nat} {x : Str} {e : Expr} {f : E1} {pos pos' : Pos} (hN : X.N.Nodup) (hi : X.N[i]? = some x) (hx : Loc X.env.scope x) (he : Pe X S W e f) (hs : swapsWith e (some (.Name x pos')) pos.line X.env = pure false := by rfl) (hf : X.fn x = true ∨ X.env.scope.names.lookup x = some .local := by first | exact .inl rfl | exact .inr rfl | assumption) :
    Ps X S W (.Assign [.Name x pos'] e pos) (sSet i f) :=
  PS.to (ps_set hN hi hx he hs hf) fun E σ H h => Tv.st (R := RT S) h fun env g0 g m0 m H1 a v r0 gr r1 ra p => p _ H1 m (.refl m H1) (r1.set i ra)
theorem s_setO {i : Nat} {x : Str} {e : Expr} {f : E1} {pos pos' : Pos} (hN : X.N.Nodup) (hi : X.N[i]? = some x) (hx : Loc X.env.scope x) (he : Pf X S W e f) (hs : swapsWith e (some (.Name x pos')) pos.line X.env = pure false := by rfl) (hf : X.fn x = true ∨ X.env.scope.names.lookup x = some .local := by first | exact .inl rfl | exact .inr rfl | assumption) :
    Ps X S W (.Assign [.Name x pos'] e pos) (sSetO i f) :=
  PS.to (ps_set hN hi hx he hs hf) fun E σ H h => Tv.st (R := RF S) h fun env g0 g m0 m H1 a v r0 gr r1 ⟨b, ev, hw, hm, hn, ro⟩ p => by
    subst ev
    exact p _ H1 m (.refl m H1) (r1.setO i hw hm ro (r0.newO hn))
/-! ### ownership of a name is given up -/
def unown1 (env : Env) (i : Nat) : Env := match env[i]? with
  | some (.ow d) => env.set i (.sh d)
  | _ => env
def unown : List Nat → Env → Env
  | [], env => env
  | i :: is, env => unown is (unown1 env i)
theorem Rel.un1 {H : Hp} {σ : St} {env : Env} {g : Sto} {m : Mv} (r : Rel S H σ env g m) (i : Nat) : ∃ m', GrowS m H m' H ∧ Rel S H σ (unown1 env i) g m' := by
  unfold unown1
  split
  · rename_i d e
    obtain ⟨ov, e1, a, rfl, hw, hm, ro⟩ := r.at e
    refine ⟨m.drop a, ⟨fun _ _ h _ => h, fun _ h => h, ⟨[], by simp [Mv.drop]⟩, fun _ h => .inl h, fun b hb => .inl (mem_drop.mp hb).1, rfl⟩, r.mem.drop hm, by simp [r.len], fun j s ov e2 e3 => ?_, fun j k d1 d2 b e2 e3 e4 e5 => ?_⟩
    · by_cases hj : i = j
      · subst hj
        have hl : i < env.length := (List.getElem?_eq_some_iff.mp e).1
        rw [List.getElem?_set_self hl] at e2
        rw [e1] at e3
        cases e2; cases e3
        exact ⟨.ref a, rfl, drop_rr r.mem hw ro⟩
      · rw [List.getElem?_set_ne hj] at e2
        have h := r.slot j s ov e2 e3
        cases s with
        | no => trivial
        | sh d' =>
          obtain ⟨v, e4, q⟩ := h
          exact ⟨v, e4, q.weak (fun _ => fr_drop) fun _ _ z => z⟩
        | ow d' =>
          obtain ⟨b, e4, q1, q2, q3⟩ := h
          refine ⟨b, e4, mem_drop.mpr ⟨q1, fun z => ?_⟩, q2, q3.weak (fun _ => fr_drop) fun _ _ z => z⟩
          subst z e4
          exact hj (r.own i j d d' b e e2 e1 e3)
    · have hj : i ≠ j := fun z => by
        subst z
        rw [List.getElem?_set_self (List.getElem?_eq_some_iff.mp e).1] at e2
        cases e2
      have hk : i ≠ k := fun z => by
        subst z
        rw [List.getElem?_set_self (List.getElem?_eq_some_iff.mp e).1] at e3
        cases e3
      rw [List.getElem?_set_ne hj] at e2
      rw [List.getElem?_set_ne hk] at e3
      exact r.own j k d1 d2 b e2 e3 e4 e5
  · exact ⟨m, .refl m H, r⟩
theorem Rel.un {H : Hp} {σ : St} {g : Sto} : ∀ (is : List Nat) {env : Env} {m : Mv}, Rel S H σ env g m → ∃ m', GrowS m H m' H ∧ Rel S H σ (unown is env) g m'
  | [], _, m, r => ⟨m, .refl m H, r⟩
  | i :: is, _, _, r => by
    obtain ⟨m1, q1, r1⟩ := r.un1 i
    obtain ⟨m2, q2, r2⟩ := Rel.un is r1
    exact ⟨m2, q1.trans q2, r2⟩
def sUn (is : List Nat) (f : Sd) : Sd := fun env g => f (unown is env) g
theorem s_un {st : Stmt} {f : Sd} (is : List Nat) (h : Ps X S W st f) : Ps X S W st (sUn is f) :=
  PS.to h fun E σ H ⟨env, g, m, r, p⟩ => by
    obtain ⟨m', q, r'⟩ := r.un is
    exact ⟨_, g, m', r', SPost.mono q p⟩
/-! ### what is one's own is changed -/
theorem grow_put {H : Hp} {m : Mv} {a : Addr} {o : HO} (hw : a ∈ m.W) : GrowS m H m (upd H a o) :=
  ⟨fun b u e n => by rw [upd_ne fun z => n (by rw [z]; exact hw)]; exact e, fun b e => by
    by_cases hb : b = a
    · subst hb; rw [upd_same] at e; cases e
    · rw [upd_ne hb] at e; exact e, ⟨[], by simp⟩, fun _ h => .inl h, fun _ h => .inl h, rfl⟩
theorem Rel.put {H : Hp} {σ : St} {env : Env} {g : Sto} {m : Mv} (r : Rel S H σ env g m) {i : Nat} {d d' : D} {a : Addr} {o : HO} (e : env[i]? = some (.ow d)) (es : σ[i]? = some (some (.ref a))) (mu : Mut (some o)) (ro : Root S m (upd H a o) a d') : Rel S (upd H a o) σ (env.set i (.ow d')) g m := by
  obtain ⟨a', ea, hw, hm, _⟩ := r.slot i _ _ e es
  cases ea
  have q : GrowS m H m (upd H a o) := grow_put hw
  have hl : i < env.length := (List.getElem?_eq_some_iff.mp e).1
  have ne : ∀ b, b ≠ a → ∀ u, H b = some u → upd H a o b = some u := fun b hb u h => by rw [upd_ne hb]; exact h
  have mt : ∀ b, Mut (H b) → Mut (upd H a o b) := fun b h => by
    by_cases hb : b = a
    · subst hb; rw [upd_same]; exact mu
    · rw [upd_ne hb]; exact h
  refine ⟨⟨r.mem.len, fun n d b e1 e2 => (r.mem.sto n d b e1 e2).grow r.mem q (ne b fun z => hm (z ▸ List.mem_of_getElem? e2)), r.mem.nd, r.mem.muW, fun b hb => mt b (r.mem.trk b hb), r.mem.dis⟩, by simp [r.len], fun j s ov e1 e2 => ?_, fun j k d1 d2 b e1 e2 e3 e4 => ?_⟩
  · by_cases hj : i = j
    · subst hj
      rw [List.getElem?_set_self hl] at e1
      rw [es] at e2
      cases e1; cases e2
      exact ⟨a, rfl, hw, hm, ro⟩
    · rw [List.getElem?_set_ne hj] at e1
      have h := r.slot j s ov e1 e2
      cases s with
      | no => trivial
      | sh d'' =>
        obtain ⟨v, e3, h⟩ := h
        exact ⟨v, e3, h.grow r.mem q⟩
      | ow d'' =>
        obtain ⟨b, e3, h1, h2, h3⟩ := h
        subst e3
        exact ⟨b, rfl, h1, h2, h3.grow r.mem q (ne b fun z => by subst z; exact hj (r.own i j d d'' b e e1 es e2))⟩
  · have z : ∀ (j : Nat) (d1 : D), (env.set i (.ow d'))[j]? = some (.ow d1) → ∃ d2, env[j]? = some (.ow d2) := fun j d1 h => by
      by_cases hj : i = j
      · subst hj; exact ⟨d, e⟩
      · rw [List.getElem?_set_ne hj] at h; exact ⟨d1, h⟩
    obtain ⟨x1, y1⟩ := z j d1 e1
    obtain ⟨x2, y2⟩ := z k d2 e2
    exact r.own j k x1 x2 b y1 y2 e3 e4
/-- x.append(e) -/
def putApp (i : Nat) (d : D) (env : Env) (g : Sto) : SRes := match env[i]? with
  | some (.ow (.lst xs)) => if xs.length < big then .nx (env.set i (.ow (.lst (xs ++ [d])))) g else .stuck
  | _ => .stuck
def isOwL (env : Env) (i : Nat) : Bool := match env[i]? with
  | some (.ow (.lst _)) => true
  | _ => false
def sAppend (i : Nat) (f : E1) : Sd := fun env g => if isOwL env i = true then thenS f (putApp i) env g else .stuck
theorem ow_lst {H : Hp} {σ : St} {env : Env} {g : Sto} {m : Mv} (r : Rel S H σ env g m) {i : Nat} {xs : List D} (e : env[i]? = some (.ow (.lst xs))) : ∃ a vs, σ[i]? = some (some (.ref a)) ∧ a ∈ m.W ∧ a ∉ m.mu ∧ H a = some (.lst vs) ∧ Rl S m H xs vs := by
  obtain ⟨ov, e1, a, rfl, hw, hm, ro⟩ := r.at e
  cases ro with
  | lst h rl => exact ⟨a, _, e1, hw, hm, h, rl⟩
theorem isOwL_ok {env : Env} {i : Nat} (h : isOwL env i = true) : ∃ xs, env[i]? = some (Slot.ow (.lst xs)) := by
  unfold isOwL at h
  split at h
  · rename_i xs e; exact ⟨xs, e⟩
  · cases h
theorem s_append {i : Nat} {o e : Expr} {f : E1} {apos cpos pos : Pos} (hv : PE X o (tVar i)) (he : Pe X S W e f) (hst : starEach [e] X.env = (false, eval e X.env) :: starEach [] X.env := by rfl)
    (hbase : attributeBase o "append" X.env (eval o X.env) = eval o X.env := by rfl) (hline : (apos.endLine == cpos.line) = true := by rfl) (hs : swapsWith (.Call (.Attribute o "append" apos) [e] [] cpos) none pos.line X.env = pure false := by rfl)
    (hfew : ((backTo cpos (starEach [e] X.env)).all (fun x => !x.1) && (backToKw cpos (keywordEach [] X.env)).all (fun x => x.1.isSome) && decide (([e] : List Expr).length + ([] : List Keyword).length + (if ([] : List Keyword).isEmpty then 0 else 1) < 30)) = true := by rfl) :
    Ps X S W (.Expr (.Call (.Attribute o "append" apos) [e] [] cpos) pos) (sAppend i f) :=
  PS.to (ps_expr (pe_bm PySem.F.plainAttrs_list PySem.F.slot_list_append PySem.F.type_list_append mt_append hv (pa_cons he pa_nil hst) hbase hfew hline hst) hs) fun E σ H ⟨env, g, m, r, p⟩ => by
    unfold sAppend at p
    split at p
    · rename_i hL
      obtain ⟨xs, e1⟩ := isOwL_ok hL
      obtain ⟨a, vs, es, hw, hm, hH, rl⟩ := ow_lst r e1
      refine ⟨.ref a, es, .inl ⟨rfl, _, SqL.of hH⟩, ?_⟩
      refine Tv.st (R := RT S) (k := putApp i) ⟨env, g, m, r, p⟩ fun env g0 g m0 m H1 d y r0 gr r1 ra p => ?_
      unfold putApp at p
      split at p
      · rename_i ys e2
        obtain ⟨a', vs', es', hw', hm', hH', rl'⟩ := ow_lst r1 e2
        rw [es] at es'
        cases es'
        split at p
        · rename_i c
          have q : GrowS m H1 m (upd H1 a (.lst (vs' ++ [y]))) := grow_put hw'
          refine ⟨a, vs', y, rfl, rfl, hH', by rw [← rl'.length]; exact big_lt c, p _ _ m q (r1.put e2 es trivial (.lst upd_same ?_))⟩
          exact Rl.append (Rl.grow r1.mem q rl') (.cons (Rr.grow r1.mem q ra) .nil)
        · exact p.elim
      · exact p.elim
    · exact p.elim
/-- x.extend(e), e a list -/
def putExt (i : Nat) (d : D) (env : Env) (g : Sto) : SRes := match env[i]?, d with
  | some (.ow (.lst xs)), .lst ys => if xs.length + ys.length ≤ big then .nx (env.set i (.ow (.lst (xs ++ ys)))) g else .stuck
  | _, _ => .stuck
def sExtend (i : Nat) (f : E1) : Sd := fun env g => if isOwL env i = true then thenS f (putExt i) env g else .stuck
theorem s_extend {i : Nat} {o e : Expr} {f : E1} {apos cpos pos : Pos} (hv : PE X o (tVar i)) (he : Pe X S W e f) (hst : starEach [e] X.env = (false, eval e X.env) :: starEach [] X.env := by rfl)
    (hbase : attributeBase o "extend" X.env (eval o X.env) = eval o X.env := by rfl) (hline : (apos.endLine == cpos.line) = true := by rfl) (hs : swapsWith (.Call (.Attribute o "extend" apos) [e] [] cpos) none pos.line X.env = pure false := by rfl)
    (hfew : ((backTo cpos (starEach [e] X.env)).all (fun x => !x.1) && (backToKw cpos (keywordEach [] X.env)).all (fun x => x.1.isSome) && decide (([e] : List Expr).length + ([] : List Keyword).length + (if ([] : List Keyword).isEmpty then 0 else 1) < 30)) = true := by rfl) :
    Ps X S W (.Expr (.Call (.Attribute o "extend" apos) [e] [] cpos) pos) (sExtend i f) :=
  PS.to (ps_expr (pe_bm PySem.F.plainAttrs_list PySem.F.slot_list_extend PySem.F.type_list_extend mt_extend hv (pa_cons he pa_nil hst) hbase hfew hline hst) hs) fun E σ H ⟨env, g, m, r, p⟩ => by
    unfold sExtend at p
    split at p
    · rename_i hL
      obtain ⟨xs, e1⟩ := isOwL_ok hL
      obtain ⟨a, vs, es, hw, hm, hH, rl⟩ := ow_lst r e1
      refine ⟨.ref a, es, .inl ⟨rfl, _, SqL.of hH⟩, ?_⟩
      refine Tv.st (R := RT S) (k := putExt i) ⟨env, g, m, r, p⟩ fun env g0 g m0 m H1 d y r0 gr r1 ra p => ?_
      unfold putExt at p
      split at p
      · rename_i ys zs e2
        obtain ⟨a', vs', es', hw', hm', hH', rl'⟩ := ow_lst r1 e2
        rw [es] at es'
        cases es'
        cases ra with
        | @lst b ws _ hb fb rb =>
          split at p
          · rename_i c
            have q : GrowS m H1 m (upd H1 a (.lst (vs' ++ ws))) := grow_put hw'
            refine ⟨a, b, vs', ws, rfl, rfl, hH', hb, by rw [← rl'.length, ← rb.length]; exact big_line c, p _ _ m q (r1.put e2 es trivial (.lst upd_same ?_))⟩
            exact Rl.append (Rl.grow r1.mem q rl') (Rl.grow r1.mem q rb)
          · exact p.elim
      · exact p.elim
    · exact p.elim
/-! ### targets -/
abbrev Tg := D → Env → Option Env
/-- but for the places ws the slots are as they were -/
def But (ws : List Nat) (σ σ' : St) : Prop := σ'.length = σ.length ∧ ∀ j, j ∉ ws → σ'[j]? = σ[j]?
def TGv (S : Stat) (ws : List Nat) (f : Tg) : TG := fun v σ H Q => ∃ env g m d, Rel S H σ env g m ∧ Rr S m H d v ∧ match f d env with
  | some env' => ∀ σ', Rel S H σ' env' g m → But ws σ σ' → Q σ' H
  | none => False
abbrev Pg (X : Cx) (S : Stat) (ws : List Nat) (e : Expr) (f : Tg) : Prop := PG X e (TGv S ws f)
theorem PG.to {e : Expr} {t t' : TG} (h : PG X e t) (i : ∀ v σ H Q, t' v σ H Q → t v σ H Q) : PG X e t' := ⟨fun pins s σ H v u Q I r q => h.run pins s σ H v u Q I r (i v σ H Q q)⟩
def tgN (i : Nat) : Tg := fun d env => some (env.set i (.sh d))
theorem g_name {i : Nat} {x : Str} {pos : Pos} (hN : X.N.Nodup) (hi : X.N[i]? = some x) (hx : Loc X.env.scope x) (hf : X.fn x = true ∨ X.env.scope.names.lookup x = some .local := by first | exact .inl rfl | exact .inr rfl | assumption) : Pg X S [i] (.Name x pos) (tgN i) :=
  PG.to (pg_name hN hi hx hf) fun v σ H Q ⟨env, g, m, d, r, rd, p⟩ => p _ (r.set i rd) ⟨by simp, fun j hj => List.getElem?_set_ne fun z => hj (by simp [z])⟩
/-- several targets, one after another -/
abbrev Tgs := List D → Env → Option Env
def TGsv (S : Stat) (ws : List Nat) (f : Tgs) : TGs := fun vs σ H Q => ∃ env g m ds, Rel S H σ env g m ∧ Rl S m H ds vs ∧ match f ds env with
  | some env' => ∀ σ', Rel S H σ' env' g m → But ws σ σ' → Q σ' H
  | none => False
abbrev Pgs (X : Cx) (S : Stat) (ws : List Nat) (e : List Expr) (f : Tgs) : Prop := PGs X e (TGsv S ws f)
theorem PGs.to {e : List Expr} {t t' : TGs} (h : PGs X e t) (i : ∀ v σ H Q, t' v σ H Q → t v σ H Q) : PGs X e t' := ⟨fun pins s σ H v u Q I r q => h.run pins s σ H v u Q I r (i v σ H Q q)⟩
def tgNil : Tgs := fun ds env => match ds with
  | [] => some env
  | _ => none
def tgCons (f : Tg) (fs : Tgs) : Tgs := fun ds env => match ds with
  | d :: r => match f d env with
    | some env' => fs r env'
    | none => none
  | [] => none
theorem gs_nil : Pgs X S [] [] tgNil := PGs.to pgs_nil fun vs σ H Q ⟨env, g, m, ds, r, rl, p⟩ => by
  cases rl with
  | nil => exact ⟨rfl, p σ r ⟨rfl, fun _ _ => rfl⟩⟩
  | cons _ _ => exact p.elim
theorem gs_cons {e : Expr} {es : List Expr} {f : Tg} {fs : Tgs} {ws vs : List Nat} (h1 : Pg X S ws e f) (h2 : Pgs X S vs es fs) (hs : (assignEach (e :: es) X.env).map (·.2) = assign e X.env :: (assignEach es X.env).map (·.2) := by rfl) : Pgs X S (ws ++ vs) (e :: es) (tgCons f fs) :=
  PGs.to (pgs_cons h1 h2 hs) fun vs σ H Q ⟨env, g, m, ds, r, rl, p⟩ => by
    cases rl with
    | nil => exact p.elim
    | @cons d v ds vs rd rt =>
      refine ⟨v, vs, rfl, env, g, m, d, r, rd, ?_⟩
      simp only [tgCons] at p
      cases q : f d env with
      | none => rw [q] at p; exact p.elim
      | some env' =>
        rw [q] at p
        refine fun σ' r' b => ⟨env', g, m, ds, r', rt, ?_⟩
        dsimp only at p
        cases q2 : fs ds env' with
        | none => rw [q2] at p; exact p
        | some env2 =>
          rw [q2] at p
          exact fun σ2 r2 b2 => p σ2 r2 ⟨b2.1.trans b.1, fun j hj => (b2.2 j fun z => hj (List.mem_append_right _ z)).trans (b.2 j fun z => hj (List.mem_append_left _ z))⟩
def tgT (n : Nat) (fs : Tgs) : Tg := fun d env => match d with
  | .tup ds => if ds.length = n then fs ds env else none
  | _ => none
theorem g_tup {es : List Expr} {k n : Nat} {fs : Tgs} {ws : List Nat} {pos : Pos} (hK : S.K = X.K) (hc : X.calm = true) (h : Pgs X S ws es fs) (hn : (assignEach es X.env).length = n := by rfl) (hst : (assignEach es X.env).findIdx? (·.1) = none := by rfl) : Pg X S ws (.Tuple es k pos) (tgT n fs) :=
  PG.to (pg_tup hc h hn hst) fun v σ H Q ⟨env, g, m, d, r, rd, p⟩ => by
    cases rd with
    | @tup a vs ds hs rl =>
      simp only [tgT] at p
      by_cases c : ds.length = n
      · rw [if_pos c] at p
        exact ⟨a, vs, rfl, hK ▸ hs, by rw [← rl.length]; exact c, env, g, m, ds, r, rl, p⟩
      · rw [if_neg c] at p; exact p.elim
    | _ => exact p.elim
/-- target = e -/
def sAsg (f : E1) (tg : Tg) : Sd := thenS f fun d env g => match tg d env with
  | some env' => .nx env' g
  | none => .stuck
theorem s_asg {tg e : Expr} {f : E1} {t : Tg} {ws : List Nat} {pos : Pos} (he : Pe X S W e f) (hg : Pg X S ws tg t) (hs : swapsWithSole [tg] e pos.line X.env = pure false := by rfl) (hw : swappedStores [tg] e X.env = pure none := by rfl)
    (h1 : (assignEach [tg] X.env).map (·.2) = [assign tg X.env] := by rfl) : Ps X S W (.Assign [tg] e pos) (sAsg f t) :=
  PS.to (ps_asg he hg hs hw h1) fun E σ H h => Tv.st (R := RT S) h fun env g0 g m0 m H1 a v r0 gr r1 ra p => by
    refine ⟨env, g, m, a, r1, ra, ?_⟩
    cases q : t a env with
    | none => simp only [q] at p; exact p.elim
    | some env' => simp only [q] at p; exact fun σ' r' _ => p σ' H1 m (.refl m H1) r'
/-- a, b = e1, e2 -/
def sPar (i j : Nat) (f h : E1) : Sd := thenS (eCons f (eCons h eNil)) fun ds env g => match ds with
  | [a, b] => .nx ((env.set i (.sh a)).set j (.sh b)) g
  | _ => .stuck
theorem s_par {i j : Nat} {x y : Str} {a b : Expr} {f h : E1} {px py pt pos : Pos} {kt k2 pt2} (hc : X.calm = true) (hN : X.N.Nodup) (hi : X.N[i]? = some x) (hj : X.N[j]? = some y) (hij : i ≠ j)
    (hx : X.env.scope.names.lookup x = some .local) (hy : X.env.scope.names.lookup y = some .local) (ha : Pe X S W a f) (hb : Pe X S W b h)
    (hw : swappedStores [.Tuple [.Name x px, .Name y py] kt pt] (.Tuple [a, b] k2 pt2) X.env = pure (some [x, y]))
    (hst : starEach [a, b] X.env = (false, eval a X.env) :: starEach [b] X.env := by rfl) (hst2 : starEach [b] X.env = (false, eval b X.env) :: starEach [] X.env := by rfl)
    (hs : swapsWithSole [.Tuple [.Name x px, .Name y py] kt pt] (.Tuple [a, b] k2 pt2) pos.line X.env = pure false := by rfl) :
    Ps X S W (.Assign [.Tuple [.Name x px, .Name y py] kt pt] (.Tuple [a, b] k2 pt2) pos) (sPar i j f h) :=
  PS.to (ps_par hc hN hi hj hij hx hy (a_cons ha (a_cons hb a_nil hst2) hst) hw hs) fun E σ H q => Tv.st (R := RL S) q fun env g0 g m0 m H1 ds vs r0 gr r1 ra p => by
    have ra : Rl S m H1 ds vs := ra
    cases ra with
    | nil => exact p.elim
    | cons r2 rt =>
      cases rt with
      | nil => exact p.elim
      | cons r3 rt =>
        cases rt with
        | nil => exact ⟨_, _, rfl, p _ H1 m (.refl m H1) ((r1.set i r2).set j r3)⟩
        | cons _ _ => exact p.elim
/-! ### while -/
def whileL (t : En Bool) (body : Sd) : Nat → Env → Sto → SRes
  | 0, _, _ => .stuck
  | n + 1, env, g => thenS t (fun c env g => if c = true then (match body env g with
      | .nx env' g' => whileL t body n env' g'
      | .ct env' g' => whileL t body n env' g'
      | .bk env' g' => .nx env' g'
      | r => r) else .nx env g) env g
def sWhile (n : Nat) (t : En Bool) (body : Sd) : Sd := whileL t body n
theorem s_while {c : Expr} {b : List Stmt} {t : En Bool} {body : Sd} {pos : Pos} (n : Nat) (hp : PassesOwn (model X.prog X.w) X.A X.env X.xe) (hc : Pt X S W c t) (hb : Pss X S W b body) : Ps X S W (.While c b [] pos) (sWhile n t body) :=
  PS.to (ps_while hp hc hb) fun E σ H ⟨env, g, m, r, p⟩ => by
    refine ⟨fun k σ H => ∃ env g m, Rel S H σ env g m ∧ SPost S W E (whileL t body k env g) m H, ⟨n, env, g, m, r, p⟩, fun k σ H ⟨env, g, m, r, p⟩ => ?_⟩
    cases k with
    | zero => exact p.elim
    | succ k =>
      refine Tv.st (R := RQ) ⟨env, g, m, r, p⟩ fun env g0 g m0 m H1 a x r0 gr r1 ra p => ?_
      have e : a = x := ra
      subst e
      cases a with
      | false => exact p σ H1 m (.refl m H1) r1
      | true =>
        refine ⟨fun σ H => ∃ env g m, Rel S H σ env g m ∧ SPost S W E (whileL t body k env g) m H, fun σ' H' h => ⟨k, Nat.lt_succ_self k, h⟩, env, g, m, r1, ?_⟩
        simp only [if_true] at p
        cases q : body env g with
        | nx env' g' => rw [q] at p; exact fun σ' H' m' gr' r' => ⟨env', g', m', r', SPost.mono gr' p⟩
        | ct env' g' => rw [q] at p; exact fun σ' H' m' gr' r' => ⟨env', g', m', r', SPost.mono gr' p⟩
        | bk env' g' => rw [q] at p; exact p
        | rt d g' => rw [q] at p; exact p
        | rtO d g' => rw [q] at p; exact p
        | exc x env' g' => rw [q] at p; exact p
        | stuck => rw [q] at p; exact p
/-! ### what a for, a comprehension walks -/
/-- the iterator gives the items ds, one after another, whatever others do meanwhile -/
def Yields (S : Stat) (J : It) (m : Mv) (H : Hp) (ds : List D) : Prop := ∀ (m1 : Mv) (H1 : Hp) (g1 : Sto), GrowS m H m1 H1 → MOk S H1 g1 m1 →
  (∀ (i : Nat) (d : D), ds[i]? = some d → J.go i H1 ∧ ∀ x H2, J.yld i H1 x H2 → Grow m1 H1 m1 H2 ∧ MOk S H2 g1 m1 ∧ Rr S m1 H2 d x) ∧ J.stop ds.length H1
def TIv (S : Stat) (W : WX) (f : En (List D)) : TI := fun σ H R => ∃ env g m, Rel S H σ env g m ∧ match f env g with
  | .ok ds g' => ∀ J H' m', Grow m H m' H' → MOk S H' g' m' → Yields S J m' H' ds → R J H'
  | .exc x g' => ∀ cl dx H' m', Grow m H m' H' → MOk S H' g' m' → XRd S m' H' x cl dx → W cl dx σ H'
  | .stuck => False
abbrev Pi (X : Cx) (S : Stat) (W : WX) (tg e : Expr) (f : En (List D)) : Prop := PI X tg e (TIv S W f)
theorem PI.to {tg e : Expr} {t t' : TI} (h : PI X tg e t) (i : ∀ σ H R, t' σ H R → t σ H R) : PI X tg e t' := ⟨fun pins s σ H R I q => h.run pins s σ H R I (i σ H R q)⟩
theorem PI.or {tg e : Expr} {t t' : TI} (h : PI X tg e t) (h' : PI X tg e t') : PI X tg e (fun σ H R => t σ H R ∨ t' σ H R) := ⟨fun pins s σ H R I q => q.elim (h.run pins s σ H R I) (h'.run pins s σ H R I)⟩
/-- for target in it: body -/
def forL (tg : Tg) (body : Sd) : List D → Env → Sto → SRes
  | [], env, g => .nx env g
  | d :: ds, env, g => match tg d env with
    | none => .stuck
    | some env1 => match body env1 g with
      | .nx env' g' => forL tg body ds env' g'
      | .ct env' g' => forL tg body ds env' g'
      | .bk env' g' => .nx env' g'
      | r => r
def sFor (it : En (List D)) (tg : Tg) (body : Sd) : Sd := thenS it (forL tg body)
theorem s_for {tg iter : Expr} {ws : List Nat} {b : List Stmt} {it : En (List D)} {t : Tg} {body : Sd} {pos : Pos} (hp : PassesOwn (model X.prog X.w) X.A X.env X.xe) (hc : X.calm = true) (hi : Pi X S W tg iter it) (hg : Pg X S ws tg t) (hb : Pss X S W b body)
    (hs : ∀ x, foldedSetIterable iter X.env x = pure x := by intro _; rfl) : Ps X S W (.For tg iter b [] pos) (sFor it t body) :=
  PS.to (ps_for hp hc hi hg hb hs) fun E σ H ⟨env, g, m, r, p⟩ => by
    refine ⟨env, g, m, r, ?_⟩
    unfold sFor thenS at p
    cases q : it env g with
    | stuck => rw [q] at p; exact p
    | exc x g' =>
      rw [q] at p
      exact fun cl dx H' m' gr ok z => p cl dx σ H' m' (gr.s r.mem.muW) (r.grow gr ok) z
    | ok ds g1 =>
      rw [q] at p
      intro J H1 m1 gr ok yl
      have r1 := r.grow gr ok
      have p1 : SPost S W E (forL t body ds env g1) m1 H1 := SPost.mono (gr.s r.mem.muW) p
      refine ⟨fun i k σ H => k = ds.length - i ∧ i ≤ ds.length ∧ ∃ env g m, Rel S H σ env g m ∧ GrowS m1 H1 m H ∧ SPost S W E (forL t body (ds.drop i) env g) m H, ⟨ds.length, by simp, Nat.zero_le _, env, g1, m1, r1, .refl _ _, by simpa using p1⟩, ?_⟩
      rintro i k σ H ⟨rfl, hi, env, g, m, r, gr0, p⟩
      obtain ⟨y1, y2⟩ := yl m H g gr0 r.mem
      by_cases hlt : i < ds.length
      · have hd : ds[i]? = some ds[i] := by simp [hlt]
        obtain ⟨go, yd⟩ := y1 i _ hd
        have ed : ds.drop i = ds[i] :: ds.drop (i + 1) := List.drop_eq_getElem_cons hlt
        rw [ed] at p
        refine .inr ⟨go, fun σ H => ∃ env g m, Rel S H σ env g m ∧ GrowS m1 H1 m H ∧ SPost S W E (forL t body (ds.drop (i + 1)) env g) m H, fun σ' H' h => ⟨ds.length - (i + 1), by omega, rfl, hlt, h⟩, fun x H' hy => ?_⟩
        obtain ⟨gr2, ok2, rx⟩ := yd x H' hy
        have r2 := r.grow gr2 ok2
        refine ⟨env, g, m, ds[i], r2, rx, ?_⟩
        simp only [forL] at p
        cases q2 : t ds[i] env with
        | none => rw [q2] at p; exact p.elim
        | some env1 =>
          rw [q2] at p
          intro σ' r3 _
          have g3 : GrowS m1 H1 m H' := gr0.trans (gr2.s r.mem.muW)
          have p3 := SPost.mono (gr2.s r.mem.muW) p
          refine ⟨env1, g, m, r3, ?_⟩
          dsimp only at p3
          cases q3 : body env1 g with
          | nx env' g' => rw [q3] at p3; exact fun σ' H' m' gr' r' => ⟨env', g', m', r', g3.trans gr', SPost.mono gr' p3⟩
          | ct env' g' => rw [q3] at p3; exact fun σ' H' m' gr' r' => ⟨env', g', m', r', g3.trans gr', SPost.mono gr' p3⟩
          | bk env' g' => rw [q3] at p3; exact p3
          | rt d g' => rw [q3] at p3; exact p3
          | rtO d g' => rw [q3] at p3; exact p3
          | exc x env' g' => rw [q3] at p3; exact p3
          | stuck => rw [q3] at p3; exact p3
      · have e : i = ds.length := by omega
        subst e
        rw [List.drop_length] at p
        exact .inl ⟨y2, p σ H m (.refl m H) r⟩
end
end Ev
namespace Ev
open PySem PySem.Spec PyProof.Rows L2
section
variable {X : Cx} {S : Stat} {W : WX}
/-! ### lists, tuples, texts, ranges are walked -/
def signs (z : Str) : List D := z.cps.toList.map fun c => .str ⟨#[c]⟩
def itemsOf : D → Option (List D)
  | .lst xs => some xs
  | .tup xs => some xs
  | .frz xs => some xs
  | .str z => some (signs z)
  | _ => none
def sIter : D → Sto → Res (List D) := fun d g => match itemsOf d with
  | some ds => .ok ds g
  | none => .stuck
theorem yields_list {a : Addr} {m : Mv} {H : Hp} {ds : List D} (h : ∀ (m1 : Mv) (H1 : Hp) (g1 : Sto), GrowS m H m1 H1 → MOk S H1 g1 m1 → ∃ vs, SqL S.K H1 a vs ∧ Rl S m1 H1 ds vs) : Yields S (Itl S.K a) m H ds := fun m1 H1 g1 q ok => by
  obtain ⟨vs, hs, rl⟩ := h m1 H1 g1 q ok
  refine ⟨fun i d hd => ?_, vs, hs, by rw [rl.length]; exact Nat.le_refl _⟩
  obtain ⟨v, e1, e2⟩ := rl.get hd
  refine ⟨⟨vs, v, hs, e1⟩, fun x H2 ⟨e, f⟩ => ?_⟩
  subst e
  have e3 := f vs hs
  rw [e1] at e3
  cases e3
  exact ⟨.refl _ _, ok, e2⟩
theorem yields_tup {a : Addr} {m : Mv} {H : Hp} {ds : List D} (h : ∀ (m1 : Mv) (H1 : Hp) (g1 : Sto), GrowS m H m1 H1 → MOk S H1 g1 m1 → ∃ vs, SqT S.K H1 a vs ∧ Rl S m1 H1 ds vs) : Yields S (Itt S.K a) m H ds := fun m1 H1 g1 q ok => by
  obtain ⟨vs, hs, rl⟩ := h m1 H1 g1 q ok
  refine ⟨fun i d hd => ?_, vs, hs, by rw [rl.length]; exact Nat.le_refl _⟩
  obtain ⟨v, e1, e2⟩ := rl.get hd
  refine ⟨⟨vs, v, hs, e1⟩, fun x H2 ⟨e, f⟩ => ?_⟩
  subst e
  have e3 := f vs hs
  rw [e1] at e3
  cases e3
  exact ⟨.refl _ _, ok, e2⟩
theorem yields_str {z : Str} {m : Mv} {H : Hp} : Yields S (Its z) m H (signs z) := fun m1 H1 g1 q ok => by
  refine ⟨fun i d hd => ?_, by show z.cps.size ≤ (signs z).length; simp [signs]⟩
  unfold signs at hd
  rw [List.getElem?_map] at hd
  obtain ⟨c, hc, rfl⟩ := Option.map_eq_some_iff.mp hd
  have hc' : z.cps[i]? = some c := by simpa using hc
  refine ⟨(Array.getElem?_eq_some_iff.mp hc').1, fun x H2 ⟨e, c', e1, e2⟩ => ?_⟩
  subst e e2
  rw [hc'] at e1
  cases e1
  exact ⟨.refl _ _, ok, .str _⟩
theorem yields_rng {lo : Int} {n : Nat} {m : Mv} {H : Hp} : Yields S (Itr lo n) m H ((List.range n).map fun i => D.int (lo + (i : Nat))) := fun m1 H1 g1 q ok => by
  refine ⟨fun i d hd => ?_, by show n ≤ _; simp⟩
  rw [List.getElem?_map] at hd
  obtain ⟨c, hc, rfl⟩ := Option.map_eq_some_iff.mp hd
  obtain ⟨h1, h2⟩ := List.getElem?_eq_some_iff.mp hc
  have h1' : i < n := by simpa using h1
  have e : c = i := by rw [← h2]; simp
  subst e
  refine ⟨h1', fun x H2 ⟨e, e2⟩ => ?_⟩
  subst e e2
  exact ⟨.refl _ _, ok, .int _⟩
theorem i_seq {tg e : Expr} {f : E1} (hK : S.K = X.K) (he : Pe X S W e f) : Pi X S W tg e (eU sIter f) :=
  PI.to (PI.or (pi_list he) (PI.or (pi_tup he) (pi_str he))) fun σ H R ⟨env, g, m, r, p⟩ => by
    unfold eU at p
    cases q : f env g with
    | stuck => rw [q] at p; exact p.elim
    | exc x g' => rw [q] at p; exact .inl ⟨env, g, m, r, by rw [q]; exact p⟩
    | ok d g1 =>
      rw [q] at p
      cases d with
      | lst xs =>
        refine .inl ⟨env, g, m, r, ?_⟩
        rw [q]
        intro v H1 m1 gr ok ra
        obtain ⟨a, vs, rfl, hs, rl⟩ := Rr.lst_inv ra
        refine ⟨a, rfl, ⟨vs, hK ▸ hs⟩, hK ▸ p _ H1 m1 gr ok (yields_list fun m2 H2 g2 q2 ok2 => ?_)⟩
        have ra2 := Rr.grow ok q2 ra
        obtain ⟨a2, vs2, e, hs2, rl2⟩ := ra2.lst_inv
        cases e
        exact ⟨vs2, hs2, rl2⟩
      | frz xs =>
        refine .inl ⟨env, g, m, r, ?_⟩
        rw [q]
        intro v H1 m1 gr ok ra
        have ra : Rr S m1 H1 (.frz xs) v := ra
        cases ra with
        | @frz a vs _ hs rl =>
          refine ⟨a, rfl, ⟨vs, hK ▸ hs.sq⟩, hK ▸ p _ H1 m1 gr ok (yields_list fun m2 H2 g2 q2 ok2 => ?_)⟩
          have ra2 := Rr.grow ok q2 (Rr.frz hs rl)
          cases ra2 with
          | frz hs2 rl2 => exact ⟨_, hs2.sq, rl2⟩
      | tup xs =>
        refine .inr (.inl ⟨env, g, m, r, ?_⟩)
        rw [q]
        intro v H1 m1 gr ok ra
        obtain ⟨a, vs, rfl, hs, rl⟩ := Rr.tup_inv ra
        refine ⟨a, rfl, ⟨vs, hK ▸ hs⟩, hK ▸ p _ H1 m1 gr ok (yields_tup fun m2 H2 g2 q2 ok2 => ?_)⟩
        have ra2 := Rr.grow ok q2 ra
        obtain ⟨a2, vs2, e, hs2, rl2⟩ := ra2.tup_inv
        cases e
        exact ⟨vs2, hs2, rl2⟩
      | str z =>
        refine .inr (.inr ⟨env, g, m, r, ?_⟩)
        rw [q]
        intro v H1 m1 gr ok ra
        have ra : Rr S m1 H1 (.str z) v := ra
        exact ⟨z, ra.str_inv, p _ H1 m1 gr ok yields_str⟩
      | _ => exact p.elim
def sRng : D → D → Sto → Res (List D)
  | .int i, .int j, g => if -1000000 ≤ i ∧ i ≤ 1000000 ∧ -1000000 ≤ j ∧ j ≤ 1000000 then .ok ((List.range (j - i).toNat).map fun k => D.int (i + (k : Nat))) g else .stuck
  | _, _, _ => .stuck
theorem i_range1 {tg a : Expr} {f : E1} {p pos : Pos} (hg : Gl X "range") (hm : X.mg "range" = none) (ha : Pe X S W a f) (hs : starEach [a] X.env = [(false, eval a X.env)] := by rfl) : Pi X S W tg (.Call (.Name "range" p) [a] [] pos) (eU (fun d g => sRng (.int 0) d g) f) :=
  PI.to (pi_range1 hg hm (pa_cons ha pa_nil hs) hs) fun σ H R ⟨env, g, m, r, p⟩ => by
    refine ⟨env, g, m, r, ?_⟩
    unfold eU at p
    cases q : f env g with
    | stuck => rw [q] at p; exact p.elim
    | exc x g' => rw [q] at p; exact p
    | ok d g1 =>
      rw [q] at p
      intro v H1 m1 gr ok ra
      have ra : Rr S m1 H1 d v := ra
      cases d with
      | int j =>
        have e := ra.int_inv
        subst e
        simp only [Res.bind, sRng] at p
        by_cases c : -1000000 ≤ (0 : Int) ∧ (0 : Int) ≤ 1000000 ∧ -1000000 ≤ j ∧ j ≤ 1000000
        · rw [if_pos c] at p
          refine ⟨j, rfl, by omega, by omega, p _ H1 m1 gr ok ?_⟩
          have e : j - 0 = j := by omega
          rw [e]
          exact yields_rng
        · rw [if_neg c] at p; exact p.elim
      | _ => exact p.elim
theorem i_range2 {tg a b : Expr} {f h : E1} {p pos : Pos} (hg : Gl X "range") (hm : X.mg "range" = none) (ha : Pe X S W a f) (hb : Pe X S W b h) (hs : starEach [a, b] X.env = [(false, eval a X.env), (false, eval b X.env)] := by rfl) (hs2 : starEach [b] X.env = [(false, eval b X.env)] := by rfl) (hs3 : starEach [a, b] X.env = (false, eval a X.env) :: starEach [b] X.env := by rfl) :
    Pi X S W tg (.Call (.Name "range" p) [a, b] [] pos) (eB sRng f h) :=
  PI.to (pi_range2 hg hm (a_cons ha (a_cons hb a_nil hs2) hs3) hs hs2) fun σ H R ⟨env, g, m, r, p⟩ => by
    refine ⟨env, g, m, r, ?_⟩
    unfold eB at p
    unfold eCons eB
    cases q : f env g with
    | stuck => rw [q] at p; exact p.elim
    | exc x g' => rw [q] at p; exact p
    | ok d g1 =>
      rw [q] at p
      simp only [Res.bind] at p ⊢
      cases q2 : h env g1 with
      | stuck => rw [q2] at p; exact p.elim
      | exc x g' => rw [q2] at p; exact p
      | ok d2 g2 =>
        rw [q2] at p
        simp only [Res.bind, eNil] at p ⊢
        intro vs H1 m1 gr ok ra
        have ra : Rl S m1 H1 [d, d2] vs := ra
        cases ra with
        | cons r1 rt =>
          cases rt with
          | cons r2 rt2 =>
            cases rt2
            cases d with
            | int i =>
              cases d2 with
              | int j =>
                rw [r1.int_inv, r2.int_inv]
                simp only [sRng] at p
                by_cases c : -1000000 ≤ i ∧ i ≤ 1000000 ∧ -1000000 ≤ j ∧ j ≤ 1000000
                · rw [if_pos c] at p
                  exact ⟨i, j, rfl, ⟨by omega, by omega, by omega, by omega⟩, p _ H1 m1 gr ok yields_rng⟩
                · rw [if_neg c] at p; exact p.elim
              | _ => exact p.elim
            | _ => cases d2 <;> exact p.elim
/-! ### comprehensions -/
def wipeE (env : Env) : List Nat → Env
  | [] => env
  | v :: vs => (wipeE env vs).set v .no
theorem Rel.no {H : Hp} {σ : St} {env : Env} {g : Sto} {m : Mv} (r : Rel S H σ env g m) (i : Nat) : Rel S H (σ.set i none) (env.set i .no) g m := by
  refine ⟨r.mem, by simp [r.len], fun j s ov e1 e2 => ?_, fun j k d1 d2 a e1 e2 e3 e4 => ?_⟩
  · by_cases hj : i = j
    · subst hj
      have hl : i < env.length := by have := (List.getElem?_eq_some_iff.mp e1).1; simpa using this
      rw [List.getElem?_set_self hl] at e1
      cases e1
      trivial
    · rw [List.getElem?_set_ne hj] at e1 e2
      exact r.slot j s ov e1 e2
  · have z : ∀ (j : Nat) (d1 : D), (env.set i .no)[j]? = some (Slot.ow d1) → i ≠ j := fun j d1 h z => by
      subst z
      have hl : i < env.length := by have := (List.getElem?_eq_some_iff.mp h).1; simpa using this
      rw [List.getElem?_set_self hl] at h
      cases h
    have hj := z j d1 e1
    have hk := z k d2 e2
    rw [List.getElem?_set_ne hj] at e1 e3
    rw [List.getElem?_set_ne hk] at e2 e4
    exact r.own j k d1 d2 a e1 e2 e3 e4
theorem Rel.wipe {H : Hp} {σ : St} {env : Env} {g : Sto} {m : Mv} (r : Rel S H σ env g m) : ∀ vs : List Nat, Rel S H (L2.wipe σ vs) (wipeE env vs) g m
  | [] => r
  | v :: vs => (Rel.wipe r vs).no v
theorem wipe_get (σ : St) (j : Nat) : ∀ vs : List Nat, (L2.wipe σ vs)[j]? = if j ∈ vs then (if j < σ.length then some none else none) else σ[j]?
  | [] => by simp [L2.wipe]
  | v :: vs => by
    unfold L2.wipe
    by_cases hv : v = j
    · subst hv
      by_cases hl : v < σ.length
      · rw [List.getElem?_set_self (by rw [wipe_length]; exact hl)]; simp [hl]
      · rw [List.getElem?_eq_none (by simp [wipe_length]; omega)]; simp [hl]
    · rw [List.getElem?_set_ne hv, wipe_get σ j vs]
      have : j ∈ v :: vs ↔ j ∈ vs := by simp [Ne.symm hv]
      simp only [this]
theorem wipe_but {σ σ' : St} {ws vs : List Nat} (b : But ws (L2.wipe σ vs) σ') (hw : ∀ i ∈ ws, i ∈ vs) : L2.wipe σ' vs = L2.wipe σ vs := by
  have hl : σ'.length = σ.length := by rw [b.1, wipe_length]
  apply List.ext_getElem?
  intro j
  rw [wipe_get, wipe_get]
  by_cases hj : j ∈ vs
  · simp [hj, hl]
  · rw [if_neg hj, if_neg hj, b.2 j fun z => hj (hw j z), wipe_get, if_neg hj]
/-- no exception leaves a comprehension -/
abbrev W0 : WX := fun _ _ _ _ => False
/-- the items made, one after another -/
def compL (tg : Tg) (t : En Bool) (e : E1) (env : Env) : List D → Sto → Option (List D × Sto)
  | [], g => some ([], g)
  | d :: ds, g => match tg d env with
    | none => none
    | some env1 => match t env1 g with
      | .ok true g1 => match e env1 g1 with
        | .ok y g2 => match compL tg t e env ds g2 with
          | some (ys, g3) => some (y :: ys, g3)
          | none => none
        | _ => none
      | .ok false g1 => compL tg t e env ds g1
      | _ => none
def eLc (it : En (List D)) (tg : Tg) (t : En Bool) (e : E1) (vs : List Nat) : E1 := fun env g => (it env g).bind fun ds g1 => match compL tg t e (wipeE env vs) ds g1 with
  | some (ys, g2) => if ys.length ≤ big then .ok (.lst ys) g2 else .stuck
  | none => .stuck
def tYesF : En Bool := fun _ g => .ok true g
abbrev Pts (X : Cx) (S : Stat) (W : WX) (ifs : List Expr) (f : En Bool) : Prop := PTs X ifs (Tv S RQ W f)
theorem PTs.to {e : List Expr} {t t' : TT} (h : PTs X e t) (i : ∀ σ H Q, t' σ H Q → t σ H Q) : PTs X e t' := ⟨fun pins s σ H Q I q => h.run pins s σ H Q I (i σ H Q q)⟩
theorem ts_nil : Pts X S W [] tYesF := PTs.to pts_nil fun σ H Q ⟨env, g, m, r, p⟩ => p.now r.mem rfl
theorem ts_one {c : Expr} {f : En Bool} (h : Pt X S W c f) : Pts X S W [c] f := pts_one h
/-- an own thing that is no slot's is changed -/
theorem Rel.put2 {H : Hp} {σ : St} {env : Env} {g : Sto} {m : Mv} (r : Rel S H σ env g m) {a : Addr} {o : HO} (hw : a ∈ m.W) (hm : a ∉ m.mu) (hn : ∀ (j : Nat) (d' : D), env[j]? = some (Slot.ow d') → σ[j]? = some (some (V.ref a)) → False) (mu : Mut (some o)) : Rel S (upd H a o) σ env g m := by
  have q : GrowS m H m (upd H a o) := grow_put hw
  have ne : ∀ b, b ≠ a → ∀ u, H b = some u → upd H a o b = some u := fun b hb u h => by rw [upd_ne hb]; exact h
  have mt : ∀ b, Mut (H b) → Mut (upd H a o b) := fun b h => by
    by_cases hb : b = a
    · subst hb; rw [upd_same]; exact mu
    · rw [upd_ne hb]; exact h
  refine ⟨⟨r.mem.len, fun n d b e1 e2 => (r.mem.sto n d b e1 e2).grow r.mem q (ne b fun z => hm (z ▸ List.mem_of_getElem? e2)), r.mem.nd, r.mem.muW, fun b hb => mt b (r.mem.trk b hb), r.mem.dis⟩, r.len, fun j s ov e1 e2 => ?_, r.own⟩
  have h := r.slot j s ov e1 e2
  cases s with
  | no => trivial
  | sh d'' =>
    obtain ⟨v, e3, h⟩ := h
    exact ⟨v, e3, h.grow r.mem q⟩
  | ow d'' =>
    obtain ⟨b, e3, h1, h2, h3⟩ := h
    subst e3
    exact ⟨b, rfl, h1, h2, h3.grow r.mem q (ne b fun z => by subst z; exact hn j d'' e1 e2)⟩
theorem newO_wipe {env : Env} {σ : St} {a : Addr} (hn : ∀ (j : Nat) (d' : D), env[j]? = some (Slot.ow d') → σ[j]? = some (some (V.ref a)) → False) (hl : σ.length = env.length) : ∀ vs : List Nat, ∀ (j : Nat) (d' : D), (wipeE env vs)[j]? = some (Slot.ow d') → (L2.wipe σ vs)[j]? = some (some (V.ref a)) → False
  | [], j, d', h1, h2 => hn j d' h1 h2
  | v :: vs, j, d', h1, h2 => by
    have z := (wipe_some h2).1
    by_cases hv : v = j
    · subst hv
      exact (wipe_some h2).2 List.mem_cons_self
    · have h1' : (wipeE env vs)[j]? = some (Slot.ow d') := by
        unfold wipeE at h1
        rw [List.getElem?_set_ne hv] at h1
        exact h1
      have h2' : (L2.wipe σ vs)[j]? = some (some (V.ref a)) := by
        unfold L2.wipe at h2
        rw [List.getElem?_set_ne hv] at h2
        exact h2
      exact newO_wipe hn hl vs j d' h1' h2'
/-- no name holds the thing at a -/
def NoSlot (σ : St) (env : Env) (a : Addr) : Prop := ∀ (j : Nat) (d' : D), env[j]? = some (Slot.ow d') → σ[j]? = some (some (V.ref a)) → False
/-- what a comprehension's list bears: m1, H1 stand ahead of it -/
structure CompOk (S : Stat) (σ : St) (env : Env) (σo : St) (envo : Env) (m1 : Mv) (H1 : Hp) (Da : Addr) (acc : List D) (Hc : Hp) (gc : Sto) (mc : Mv) : Prop where
  rel : Rel S Hc σ env gc mc
  rel2 : Rel S Hc σo envo gc mc
  grow : Grow m1 H1 mc Hc
  dw : Da ∈ mc.W
  dm : Da ∉ mc.mu
  root : Root S mc Hc Da (.lst acc)
theorem CompOk.step {σ σo : St} {env envo : Env} {m1 mc m' : Mv} {H1 Hc H' : Hp} {Da : Addr} {acc : List D} {gc g' : Sto} (c : CompOk S σ env σo envo m1 H1 Da acc Hc gc mc) (q : Grow mc Hc m' H') (ok : MOk S H' g' m') : CompOk S σ env σo envo m1 H1 Da acc H' g' m' := by
  have ne : Hc Da ≠ none := by
    cases c.root with
    | lst e _ => rw [e]; simp
  refine ⟨c.rel.grow q ok, c.rel2.grow q ok, c.grow.trans q, q.wk _ c.dw, fun z => ?_, c.root.grow c.rel.mem (q.s c.rel.mem.muW) fun o e => q.keep Da o e c.dm⟩
  rcases q.mun Da z with z | z
  · exact c.dm z
  · exact ne z
/-- one more item -/
theorem CompOk.add {σ σo : St} {env envo : Env} {m1 mc : Mv} {H1 Hc : Hp} {Da : Addr} {acc : List D} {gc : Sto} {yd : D} {yv : V} (c : CompOk S σ env σo envo m1 H1 Da acc Hc gc mc) (hD : H1 Da = none) (hn : NoSlot σ env Da) (hno : NoSlot σo envo Da) (r : Rr S mc Hc yd yv) :
    ∃ vs, Hc Da = some (.lst vs) ∧ vs.length = acc.length ∧ CompOk S σ env σo envo m1 H1 Da (acc ++ [yd]) (upd Hc Da (.lst (vs ++ [yv]))) gc mc ∧ GrowS mc Hc mc (upd Hc Da (.lst (vs ++ [yv]))) := by
  cases c.root with
  | @lst vs _ e rl =>
    have q : GrowS mc Hc mc (upd Hc Da (.lst (vs ++ [yv]))) := grow_put c.dw
    refine ⟨vs, e, rl.length.symm, ⟨c.rel.put2 c.dw c.dm hn trivial, c.rel2.put2 c.dw c.dm hno trivial, ⟨fun a o ha hm => ?_, fun a ha => ?_, c.grow.mu, c.grow.mun, c.grow.wk, c.grow.wn, c.grow.b⟩, c.dw, c.dm, .lst upd_same (Rl.append (Rl.grow c.rel.mem q rl) (.cons (Rr.grow c.rel.mem q r) .nil))⟩, q⟩
    · rw [upd_ne (ne_of_none ha hD)]; exact c.grow.keep a o ha hm
    · by_cases hx : a = Da
      · subst hx; exact hD
      · rw [upd_ne hx] at ha; exact c.grow.liv a ha
/-- the loop of a comprehension, from acc on -/
theorem lc_loop {J : It} {ds : List D} {tg : Tg} {t : En Bool} {e : E1} {vs ws : List Nat} {σ σo : St} {env envo : Env} {m1 : Mv} {H1 : Hp} {Da : Addr} {acc zs : List D} {Hs : Hp} {gs gE : Sto} {ms : Mv} {Fin : Hp → Prop} (hw : ∀ i ∈ ws, i ∈ vs) (hD : H1 Da = none)
    (hn : NoSlot (L2.wipe σ vs) (wipeE env vs) Da) (hno : NoSlot σo envo Da) (c0 : CompOk S (L2.wipe σ vs) (wipeE env vs) σo envo m1 H1 Da acc Hs gs ms) (yl : Yields S J ms Hs ds) (ec : compL tg t e (wipeE env vs) ds gs = some (zs, gE)) (hb : (acc ++ zs).length ≤ big)
    (fin : ∀ Hc mc, CompOk S (L2.wipe σ vs) (wipeE env vs) σo envo m1 H1 Da (acc ++ zs) Hc gE mc → GrowS ms Hs mc Hc → Fin Hc) :
    ∃ Wx : Nat → Nat → Hp → Prop, (∃ m, Wx 0 m Hs) ∧ ∀ i m H, Wx i m H → (J.stop i H ∧ Fin H) ∨ (J.go i H ∧ ∃ Nx : Hp → Prop, (∀ H', Nx H' → ∃ m', m' < m ∧ Wx (i + 1) m' H') ∧ ∀ x H', J.yld i H x H' → TGv S ws tg x (L2.wipe σ vs) H' fun σ2 H2 => L2.wipe σ2 vs = L2.wipe σ vs ∧ Tv S RQ W0 t σ2 H2 fun b H3 =>
      if b = true then Tv S (RT S) W0 e σ2 H3 fun y H4 => ∃ ac, H4 Da = some (.lst ac) ∧ ac.length < sizeLine ∧ Nx (upd H4 Da (.lst (ac ++ [y]))) else Nx H3) := by
  let Inv0 : Nat → Hp → Prop := fun i Hc => ∃ gc mc a' z', CompOk S (L2.wipe σ vs) (wipeE env vs) σo envo m1 H1 Da a' Hc gc mc ∧ GrowS ms Hs mc Hc ∧ compL tg t e (wipeE env vs) (ds.drop i) gc = some (z', gE) ∧ acc ++ zs = a' ++ z'
  refine ⟨fun i k Hc => k = ds.length - i ∧ i ≤ ds.length ∧ Inv0 i Hc, ⟨ds.length, by simp, Nat.zero_le _, gs, ms, acc, zs, c0, .refl _ _, by simpa using ec, rfl⟩, ?_⟩
  rintro i k Hc ⟨rfl, hi, gc, mc, a', z', cc, gsc, ec, ey⟩
  obtain ⟨y1, y2⟩ := yl mc Hc gc gsc cc.rel.mem
  by_cases hlt : i < ds.length
  · have hd : ds[i]? = some ds[i] := by simp [hlt]
    obtain ⟨go, yd⟩ := y1 i _ hd
    have ed : ds.drop i = ds[i] :: ds.drop (i + 1) := List.drop_eq_getElem_cons hlt
    rw [ed] at ec
    simp only [compL] at ec
    refine .inr ⟨go, Inv0 (i + 1), fun H' h => ⟨ds.length - (i + 1), by omega, rfl, hlt, h⟩, fun x H' hy => ?_⟩
    obtain ⟨gr2, ok2, rx⟩ := yd x H' hy
    have c2 := cc.step gr2 ok2
    have s2 := gsc.trans (gr2.s cc.rel.mem.muW)
    refine ⟨_, gc, mc, ds[i], c2.rel, rx, ?_⟩
    cases qt : tg ds[i] (wipeE env vs) with
    | none => rw [qt] at ec; cases ec
    | some env1 =>
      rw [qt] at ec
      dsimp only at ec
      intro σ2 r3 b3
      refine ⟨wipe_but b3 hw, env1, gc, mc, r3, ?_⟩
      cases qb : t env1 gc with
      | stuck => rw [qb] at ec; cases ec
      | exc x g' => rw [qb] at ec; cases ec
      | ok b gb =>
        rw [qb] at ec
        intro b' H3 m3 gr3 ok3 eb
        have eb : b = b' := eb
        subst eb
        have r4 := r3.grow gr3 ok3
        have c3 := c2.step gr3 ok3
        have s3 := s2.trans (gr3.s c2.rel.mem.muW)
        cases b with
        | false => exact ⟨gb, m3, a', z', c3, s3, ec, ey⟩
        | true =>
          dsimp only at ec
          refine ⟨env1, gb, m3, r4, ?_⟩
          cases qe : e env1 gb with
          | stuck => rw [qe] at ec; cases ec
          | exc x g' => rw [qe] at ec; cases ec
          | ok yd ge =>
            rw [qe] at ec
            dsimp only at ec
            intro yv H5 m5 gr5 ok5 ry
            have c5 := c3.step gr5 ok5
            have s5 := s3.trans (gr5.s c3.rel.mem.muW)
            cases qz : compL tg t e (wipeE env vs) (ds.drop (i + 1)) ge with
            | none => rw [qz] at ec; cases ec
            | some zz =>
              obtain ⟨zs', g9⟩ := zz
              rw [qz] at ec
              simp only [Option.some.injEq, Prod.mk.injEq] at ec
              obtain ⟨ez, eg⟩ := ec
              subst ez eg
              obtain ⟨ac, e1, e2, c6, s6⟩ := c5.add hD hn hno ry
              refine ⟨ac, e1, ?_, ge, m5, a' ++ [yd], zs', c6, s5.trans s6, qz, by rw [ey]; simp⟩
              have h2 : (acc ++ zs).length = a'.length + (zs'.length + 1) := by rw [ey]; simp
              exact big_lt (by omega)
  · have ei : i = ds.length := by omega
    subst ei
    rw [List.drop_length] at ec
    simp only [compL, Option.some.injEq, Prod.mk.injEq] at ec
    obtain ⟨ez, eg⟩ := ec
    subst ez eg
    rw [List.append_nil] at ey
    exact .inl ⟨y2, fin Hc mc (by rw [ey]; exact cc) gsc⟩
theorem comp_start {σ : St} {env : Env} {m1 : Mv} {H1 : Hp} {g1 : Sto} {Da : Addr} (r1 : Rel S H1 σ env g1 m1) (hD : H1 Da = none) (vs : List Nat) : CompOk S (L2.wipe σ vs) (wipeE env vs) (L2.wipe σ vs) (wipeE env vs) m1 H1 Da [] (upd H1 Da (.lst [])) g1 (m1.own Da) :=
  ⟨(r1.wipe vs).grow (grow_own hD) (r1.mem.own hD trivial), (r1.wipe vs).grow (grow_own hD) (r1.mem.own hD trivial), grow_own hD, List.mem_cons_self, fun z => (r1.mem.free hD).1 (r1.mem.muW Da z), .lst upd_same .nil⟩
theorem Yields.later {J : It} {m m' : Mv} {H H' : Hp} {ds : List D} (y : Yields S J m H ds) (q : GrowS m H m' H') : Yields S J m' H' ds := fun m1 H1 g1 q1 ok => y m1 H1 g1 (q.trans q1) ok
/-- the reading of a comprehension -/
theorem lc_read {it : En (List D)} {tg : Tg} {t : En Bool} {e : E1} {vs ws : List Nat} {σ : St} {H : Hp} {Q : VK} (hw : ∀ i ∈ ws, i ∈ vs) (h : Tv S (RF S) W (eLc it tg t e vs) σ H Q) : tLc (TIv S W it) (TGv S ws tg) (Tv S RQ W0 t) (Tv S (RT S) W0 e) vs σ H Q := by
  obtain ⟨env, g, m, r, p⟩ := h
  refine ⟨env, g, m, r, ?_⟩
  unfold eLc at p
  cases q : it env g with
  | stuck => rw [q] at p; exact p.elim
  | exc x g' => rw [q] at p; exact p
  | ok ds g1 =>
    rw [q] at p
    simp only [Res.bind] at p
    intro J H1 m1 gr ok yl Da hDa
    have r1 := r.grow gr ok
    cases qc : compL tg t e (wipeE env vs) ds g1 with
    | none => rw [qc] at p; exact p.elim
    | some yg =>
      obtain ⟨ys, g2⟩ := yg
      rw [qc] at p
      dsimp only at p
      split at p
      · rename_i hbig
        exact lc_loop hw hDa (newO_wipe (r1.newO hDa) r1.len vs) (newO_wipe (r1.newO hDa) r1.len vs) (comp_start r1 hDa vs) (yl.later ((grow_own hDa).s ok.muW)) qc (by simpa using hbig) fun Hc mc cc _ => p _ Hc mc (gr.trans cc.grow) cc.rel.mem ⟨Da, rfl, cc.dw, cc.dm, gr.liv Da hDa, cc.root⟩
      · exact p.elim
/-! ### two fors -/
/-- a target stores trees, at ws alone -/
def TgOk (ws : List Nat) (t : Tg) : Prop := ∀ d env env', t d env = some env' → ∀ (j : Nat), (j ∉ ws → env'[j]? = env[j]?) ∧ (j ∈ ws → ∀ d', env'[j]? ≠ some (Slot.ow d'))
theorem tgOk_n (i : Nat) : TgOk [i] (tgN i) := fun d env env' h j => by
  simp only [tgN, Option.some.injEq] at h
  subst h
  refine ⟨fun hj => List.getElem?_set_ne fun z => hj (by simp [z]), fun hj d' e => ?_⟩
  have e1 : j = i := by simpa using hj
  subst e1
  have hl : j < env.length := by have := (List.getElem?_eq_some_iff.mp e).1; simpa using this
  rw [List.getElem?_set_self hl] at e
  cases e

def comp2L (t1 : Tg) (c1 : En Bool) (it2 : En (List D)) (t2 : Tg) (c2 : En Bool) (e : E1) (vs1 : List Nat) (env : Env) : List D → Sto → Option (List D × Sto)
  | [], g => some ([], g)
  | d :: ds, g => match t1 d env with
    | none => none
    | some env1 => match c1 env1 g with
      | .ok true g1 => match it2 env1 g1 with
        | .ok ds2 g2 => match compL t2 c2 e (wipeE env1 vs1) ds2 g2 with
          | some (ys, g3) => match comp2L t1 c1 it2 t2 c2 e vs1 env ds g3 with
            | some (zs, g4) => some (ys ++ zs, g4)
            | none => none
          | none => none
        | _ => none
      | .ok false g1 => comp2L t1 c1 it2 t2 c2 e vs1 env ds g1
      | _ => none
def eLc2 (it : En (List D)) (t1 : Tg) (c1 : En Bool) (it2 : En (List D)) (t2 : Tg) (c2 : En Bool) (e : E1) (vs vs1 : List Nat) : E1 := fun env g => (it env g).bind fun ds g1 => match comp2L t1 c1 it2 t2 c2 e vs1 (wipeE env vs) ds g1 with
  | some (ys, g2) => if ys.length ≤ big then .ok (.lst ys) g2 else .stuck
  | none => .stuck
theorem lc2_read {it it2 : En (List D)} {t1 t2 : Tg} {c1 c2 : En Bool} {e : E1} {vs vs1 ws ws2 : List Nat} {σ : St} {H : Hp} {Q : VK} (hw : ∀ i ∈ ws, i ∈ vs) (hw2 : ∀ i ∈ ws2, i ∈ vs1) (hok : TgOk ws t1) (h : Tv S (RF S) W (eLc2 it t1 c1 it2 t2 c2 e vs vs1) σ H Q) :
    tLc2 (TIv S W it) (TGv S ws t1) (Tv S RQ W0 c1) (TIv S W0 it2) (TGv S ws2 t2) (Tv S RQ W0 c2) (Tv S (RT S) W0 e) vs vs1 σ H Q := by
  obtain ⟨env, g, m, r, p⟩ := h
  refine ⟨env, g, m, r, ?_⟩
  unfold eLc2 at p
  cases q : it env g with
  | stuck => rw [q] at p; exact p.elim
  | exc x g' => rw [q] at p; exact p
  | ok ds g1 =>
    rw [q] at p
    simp only [Res.bind] at p
    intro J H1 m1 gr ok yl Da hDa
    have r1 := r.grow gr ok
    cases qc : comp2L t1 c1 it2 t2 c2 e vs1 (wipeE env vs) ds g1 with
    | none => rw [qc] at p; exact p.elim
    | some yg =>
      obtain ⟨ys, g2⟩ := yg
      rw [qc] at p
      dsimp only at p
      split at p
      · rename_i hbig
        have no2 := newO_wipe (r1.newO hDa) r1.len vs
        have c0 := comp_start r1 hDa vs
        have yl0 := yl.later ((grow_own (o := .lst []) hDa).s ok.muW)
        let Inv0 : Nat → Hp → Prop := fun i Hc => ∃ gc mc a' z', CompOk S (L2.wipe σ vs) (wipeE env vs) (L2.wipe σ vs) (wipeE env vs) m1 H1 Da a' Hc gc mc ∧ GrowS (m1.own Da) (upd H1 Da (.lst [])) mc Hc ∧ comp2L t1 c1 it2 t2 c2 e vs1 (wipeE env vs) (ds.drop i) gc = some (z', g2) ∧ ys = a' ++ z'
        refine ⟨fun i k Hc => k = ds.length - i ∧ i ≤ ds.length ∧ Inv0 i Hc, ⟨ds.length, by simp, Nat.zero_le _, g1, m1.own Da, [], ys, c0, .refl _ _, by simpa using qc, rfl⟩, ?_⟩
        rintro i k Hc ⟨rfl, hi, gc, mc, a', z', cc, gsc, ec, ey⟩
        obtain ⟨y1, y2⟩ := yl0 mc Hc gc gsc cc.rel.mem
        by_cases hlt : i < ds.length
        · have hd : ds[i]? = some ds[i] := by simp [hlt]
          obtain ⟨go, yd⟩ := y1 i _ hd
          have ed : ds.drop i = ds[i] :: ds.drop (i + 1) := List.drop_eq_getElem_cons hlt
          rw [ed] at ec
          simp only [comp2L] at ec
          refine .inr ⟨go, Inv0 (i + 1), fun H' h => ⟨ds.length - (i + 1), by omega, rfl, hlt, h⟩, fun x H' hy => ?_⟩
          obtain ⟨gr2, ok2, rx⟩ := yd x H' hy
          have c2' := cc.step gr2 ok2
          have s2 := gsc.trans (gr2.s cc.rel.mem.muW)
          refine ⟨_, gc, mc, ds[i], c2'.rel, rx, ?_⟩
          cases qt : t1 ds[i] (wipeE env vs) with
          | none => rw [qt] at ec; cases ec
          | some env1 =>
            rw [qt] at ec
            dsimp only at ec
            intro σ2 r3 b3
            refine ⟨wipe_but b3 hw, env1, gc, mc, r3, ?_⟩
            cases qb : c1 env1 gc with
            | stuck => rw [qb] at ec; cases ec
            | exc x g' => rw [qb] at ec; cases ec
            | ok b gb =>
              rw [qb] at ec
              intro b' H3 m3 gr3 ok3 eb
              have eb : b = b' := eb
              subst eb
              have r4 := r3.grow gr3 ok3
              have c3 := c2'.step gr3 ok3
              have s3 := s2.trans (gr3.s c2'.rel.mem.muW)
              cases b with
              | false => exact ⟨gb, m3, a', z', c3, s3, ec, ey⟩
              | true =>
                dsimp only at ec
                refine ⟨env1, gb, m3, r4, ?_⟩
                cases qi : it2 env1 gb with
                | stuck => rw [qi] at ec; cases ec
                | exc x g' => rw [qi] at ec; cases ec
                | ok ds2 gi =>
                  rw [qi] at ec
                  dsimp only at ec
                  intro J2 H5 m5 gr5 ok5 yl5
                  have c5 := c3.step gr5 ok5
                  have s5 := s3.trans (gr5.s c3.rel.mem.muW)
                  have r5 := r4.grow gr5 ok5
                  cases qz : compL t2 c2 e (wipeE env1 vs1) ds2 gi with
                  | none => rw [qz] at ec; cases ec
                  | some zz =>
                    obtain ⟨y2s, g9⟩ := zz
                    rw [qz] at ec
                    dsimp only at ec
                    cases qr : comp2L t1 c1 it2 t2 c2 e vs1 (wipeE env vs) (ds.drop (i + 1)) g9 with
                    | none => rw [qr] at ec; cases ec
                    | some zr =>
                      obtain ⟨z9, g10⟩ := zr
                      rw [qr] at ec
                      simp only [Option.some.injEq, Prod.mk.injEq] at ec
                      obtain ⟨ez, eg⟩ := ec
                      subst ez eg
                      have no3 : NoSlot (L2.wipe σ2 vs1) (wipeE env1 vs1) Da := by
                        refine newO_wipe (fun j d' e1 e2 => ?_) r5.len vs1
                        obtain ⟨z1, z2⟩ := hok _ _ _ qt j
                        by_cases hj : j ∈ ws
                        · exact z2 hj d' e1
                        · rw [z1 hj] at e1
                          rw [b3.2 j hj] at e2
                          exact no2 j d' e1 e2
                      have c5' : CompOk S (L2.wipe σ2 vs1) (wipeE env1 vs1) (L2.wipe σ vs) (wipeE env vs) m1 H1 Da a' H5 gi m5 := ⟨r5.wipe vs1, c5.rel, c5.grow, c5.dw, c5.dm, c5.root⟩
                      have hlen : (a' ++ y2s).length ≤ big := by
                        have : ys.length = a'.length + (y2s.length + z9.length) := by rw [ey]; simp
                        rw [List.length_append]; omega
                      exact lc_loop hw2 hDa no3 no2 c5' yl5 qz hlen fun Hc mc c9 s9 => ⟨g9, mc, a' ++ y2s, z9, ⟨c9.rel2, c9.rel2, c9.grow, c9.dw, c9.dm, c9.root⟩, s5.trans s9, qr, by rw [ey]; simp⟩
        · have ei : i = ds.length := by omega
          subst ei
          rw [List.drop_length] at ec
          simp only [comp2L, Option.some.injEq, Prod.mk.injEq] at ec
          obtain ⟨ez, eg⟩ := ec
          subst ez eg
          rw [List.append_nil] at ey
          subst ey
          exact .inl ⟨y2, p _ Hc mc (gr.trans cc.grow) cc.rel.mem ⟨Da, rfl, cc.dw, cc.dm, gr.liv Da hDa, cc.root⟩⟩
      · exact p.elim
theorem f_lc {elt tg iter : Expr} {ifs : List Expr} {scope : Scope} {own : List (Str × Nat)} {ws : List Nat} {pos : Pos} {it : En (List D)} {t : Tg} {tt : En Bool} {e : E1} (hc : X.calm = true) (hN : X.N.Nodup) (hi : Pi X S W tg iter it) (ok : BlkOk X.N X.env.scope scope own)
    (hg : ∀ (s : Shared) (H : Hp) (C : Addr) (cl : List (Str × Addr)) (fp : List Addr), Pg (X.blk s H scope (compEnvC scope cl C X.env) fp) S ws tg t) (ht : ∀ (s : Shared) (H : Hp) (C : Addr) (cl : List (Str × Addr)) (fp : List Addr), Pts (X.blk s H scope (compEnvC scope cl C X.env) fp) S W0 ifs tt)
    (he : ∀ (s : Shared) (H : Hp) (C : Addr) (cl : List (Str × Addr)) (fp : List Addr), Pe (X.blk s H scope (compEnvC scope cl C X.env) fp) S W0 elt e) (hw : ∀ i ∈ ws, i ∈ own.map (·.2)) (hs : ∀ x, foldedSetIterable iter X.env x = pure x := by intro _; rfl) :
    Pf X S W (.ListComp elt [⟨tg, iter, ifs, 0⟩] scope pos) (eLc it t tt e (own.map (·.2))) :=
  PE.to (pe_lc hc hN hi ok hg ht he hs) fun σ H Q h => lc_read hw h
/-- y = [..] -/
theorem s_lc {i : Nat} {y : Str} {py : Pos} {elt tg iter : Expr} {ifs : List Expr} {scope : Scope} {own : List (Str × Nat)} {ws : List Nat} {pos spos : Pos} {it : En (List D)} {t : Tg} {tt : En Bool} {e : E1} (hc : X.calm = true) (hN : X.N.Nodup) (hy : X.N[i]? = some y) (hyl : X.env.scope.names.lookup y = some .local)
    (hsw : swapsWith (.ListComp elt [⟨tg, iter, ifs, 0⟩] scope pos) (some (.Name y py)) spos.line X.env = pure true) (hi : Pi X S W tg iter it) (ok : BlkOk X.N X.env.scope scope own)
    (hg : ∀ (s : Shared) (H : Hp) (C : Addr) (cl : List (Str × Addr)) (fp : List Addr), Pg (X.blk s H scope (compEnvC scope cl C X.env) fp) S ws tg t) (ht : ∀ (s : Shared) (H : Hp) (C : Addr) (cl : List (Str × Addr)) (fp : List Addr), Pts (X.blk s H scope (compEnvC scope cl C X.env) fp) S W0 ifs tt)
    (he : ∀ (s : Shared) (H : Hp) (C : Addr) (cl : List (Str × Addr)) (fp : List Addr), Pe (X.blk s H scope (compEnvC scope cl C X.env) fp) S W0 elt e) (hw : ∀ i ∈ ws, i ∈ own.map (·.2)) (hs : ∀ x, foldedSetIterable iter X.env x = pure x := by intro _; rfl) :
    Ps X S W (.Assign [.Name y py] (.ListComp elt [⟨tg, iter, ifs, 0⟩] scope pos) spos) (sSetO i (eLc it t tt e (own.map (·.2)))) :=
  PS.to (ps_setLc hc hN hy hyl hsw hi ok hg ht he hs) fun E σ H h => lc_read hw (Tv.st (R := RF S) h fun env g0 g m0 m H1 a v r0 gr r1 ⟨b, ev, hw, hm, hn, ro⟩ p => by
    subst ev
    exact p _ H1 m (.refl m H1) (r1.setO i hw hm ro (r0.newO hn)))
theorem f_lc2 {elt tg iter tg1 iter1 : Expr} {ifs ifs1 : List Expr} {scope : Scope} {own : List (Str × Nat)} {vs1 ws ws2 : List Nat} {pos : Pos} {it it2 : En (List D)} {t1 t2 : Tg} {c1 c2 : En Bool} {e : E1} (hc : X.calm = true) (hN : X.N.Nodup) (hi : Pi X S W tg iter it) (ok : BlkOk X.N X.env.scope scope own) (hv : ∀ i ∈ vs1, i ∈ own.map (·.2))
    (hg : ∀ (s : Shared) (H : Hp) (C : Addr) (cl : List (Str × Addr)) (fp : List Addr), Pg (X.blk s H scope (compEnvC scope cl C X.env) fp) S ws tg t1) (ht : ∀ (s : Shared) (H : Hp) (C : Addr) (cl : List (Str × Addr)) (fp : List Addr), Pts (X.blk s H scope (compEnvC scope cl C X.env) fp) S W0 ifs c1)
    (hi1 : ∀ (s : Shared) (H : Hp) (C : Addr) (cl : List (Str × Addr)) (fp : List Addr), Pi (X.blk s H scope (compEnvC scope cl C X.env) fp) S W0 tg1 iter1 it2)
    (hg1 : ∀ (s : Shared) (H : Hp) (C : Addr) (cl : List (Str × Addr)) (fp : List Addr), Pg (X.blk s H scope (compEnvC scope cl C X.env) fp) S ws2 tg1 t2) (ht1 : ∀ (s : Shared) (H : Hp) (C : Addr) (cl : List (Str × Addr)) (fp : List Addr), Pts (X.blk s H scope (compEnvC scope cl C X.env) fp) S W0 ifs1 c2)
    (he : ∀ (s : Shared) (H : Hp) (C : Addr) (cl : List (Str × Addr)) (fp : List Addr), Pe (X.blk s H scope (compEnvC scope cl C X.env) fp) S W0 elt e) (hw : ∀ i ∈ ws, i ∈ own.map (·.2)) (hw2 : ∀ i ∈ ws2, i ∈ vs1) (hok : TgOk ws t1)
    (hs : ∀ x, foldedSetIterable iter X.env x = pure x := by intro _; rfl) (hs1 : ∀ env x, foldedSetIterable iter1 env x = pure x := by intro _ _; rfl) :
    Pf X S W (.ListComp elt [⟨tg, iter, ifs, 0⟩, ⟨tg1, iter1, ifs1, 0⟩] scope pos) (eLc2 it t1 c1 it2 t2 c2 e (own.map (·.2)) vs1) :=
  PE.to (pe_lc2 hc hN hi ok hv hg ht hi1 hg1 ht1 he hs hs1) fun σ H Q h => lc2_read hw hw2 hok h
theorem s_lc2 {i : Nat} {y : Str} {py : Pos} {elt tg iter tg1 iter1 : Expr} {ifs ifs1 : List Expr} {scope : Scope} {own : List (Str × Nat)} {vs1 ws ws2 : List Nat} {pos spos : Pos} {it it2 : En (List D)} {t1 t2 : Tg} {c1 c2 : En Bool} {e : E1} (hc : X.calm = true) (hN : X.N.Nodup) (hy : X.N[i]? = some y) (hyl : X.env.scope.names.lookup y = some .local)
    (hsw : swapsWith (.ListComp elt [⟨tg, iter, ifs, 0⟩, ⟨tg1, iter1, ifs1, 0⟩] scope pos) (some (.Name y py)) spos.line X.env = pure true) (hi : Pi X S W tg iter it) (ok : BlkOk X.N X.env.scope scope own) (hv : ∀ i ∈ vs1, i ∈ own.map (·.2))
    (hg : ∀ (s : Shared) (H : Hp) (C : Addr) (cl : List (Str × Addr)) (fp : List Addr), Pg (X.blk s H scope (compEnvC scope cl C X.env) fp) S ws tg t1) (ht : ∀ (s : Shared) (H : Hp) (C : Addr) (cl : List (Str × Addr)) (fp : List Addr), Pts (X.blk s H scope (compEnvC scope cl C X.env) fp) S W0 ifs c1)
    (hi1 : ∀ (s : Shared) (H : Hp) (C : Addr) (cl : List (Str × Addr)) (fp : List Addr), Pi (X.blk s H scope (compEnvC scope cl C X.env) fp) S W0 tg1 iter1 it2)
    (hg1 : ∀ (s : Shared) (H : Hp) (C : Addr) (cl : List (Str × Addr)) (fp : List Addr), Pg (X.blk s H scope (compEnvC scope cl C X.env) fp) S ws2 tg1 t2) (ht1 : ∀ (s : Shared) (H : Hp) (C : Addr) (cl : List (Str × Addr)) (fp : List Addr), Pts (X.blk s H scope (compEnvC scope cl C X.env) fp) S W0 ifs1 c2)
    (he : ∀ (s : Shared) (H : Hp) (C : Addr) (cl : List (Str × Addr)) (fp : List Addr), Pe (X.blk s H scope (compEnvC scope cl C X.env) fp) S W0 elt e) (hw : ∀ i ∈ ws, i ∈ own.map (·.2)) (hw2 : ∀ i ∈ ws2, i ∈ vs1) (hok : TgOk ws t1)
    (hs : ∀ x, foldedSetIterable iter X.env x = pure x := by intro _; rfl) (hs1 : ∀ env x, foldedSetIterable iter1 env x = pure x := by intro _ _; rfl) :
    Ps X S W (.Assign [.Name y py] (.ListComp elt [⟨tg, iter, ifs, 0⟩, ⟨tg1, iter1, ifs1, 0⟩] scope pos) spos) (sSetO i (eLc2 it t1 c1 it2 t2 c2 e (own.map (·.2)) vs1)) :=
  PS.to (ps_setLc2 hc hN hy hyl hsw hi ok hv hg ht hi1 hg1 ht1 he hs hs1) fun E σ H h => lc2_read hw hw2 hok (Tv.st (R := RF S) h fun env g0 g m0 m H1 a v r0 gr r1 ⟨b, ev, hw, hm, hn, ro⟩ p => by
    subst ev
    exact p _ H1 m (.refl m H1) (r1.setO i hw hm ro (r0.newO hn)))
end
end Ev
namespace Ev
open PySem PySem.Spec PyProof.Rows L2
section
variable {X : Cx} {S : Stat} {W : WX}
/-! ### what a def promises: it is the function F -/
abbrev Fn := List D → Sto → Res D
def Spec (S : Stat) (n : Nat) (F : Fn) : Sp := fun vs H Q _ => ∃ ds g m, MOk S H g m ∧ (∀ a ∈ m.W, a ∈ m.mu) ∧ Rl S m H ds vs ∧ ds.length = n ∧ match F ds g with
  | .ok d g' => ∀ v H' m', GrowS m H m' H' → MOk S H' g' m' → (∀ a ∈ m'.W, a ∈ m'.mu) → Rr S m' H' d v → Q v H'
  | _ => False
/-- a def's own function: its body over the parameters -/
def fnOf (N : Nat) (body : Sd) : Fn := fun ds g => match body (ds.map Slot.sh ++ List.replicate (N - ds.length) .no) g with
  | .rt d g' => .ok d g'
  | .rtO d g' => .ok d g'
  | .nx _ g' => .ok .non g'
  | .exc x _ g' => .exc x g'
  | _ => .stuck
/-- the store alone may be written -/
def Mv.shut (m : Mv) : Mv := ⟨m.mu, m.mu, m.B⟩
theorem MOk.shut {H : Hp} {g : Sto} {m : Mv} (ok : MOk S H g m) : MOk S H g m.shut :=
  ⟨ok.len, fun n d a e1 e2 => (ok.sto n d a e1 e2).weak (fun b h => ⟨fun z => h.1 (ok.muW b z), h.2⟩) fun _ _ z => z, ok.nd, fun _ z => z, fun a h => ok.trk a (h.imp (ok.muW a) id), fun a h z => ok.dis a h (ok.muW a z)⟩
theorem Rr.shut {H : Hp} {g : Sto} {m : Mv} {d : D} {v : V} (ok : MOk S H g m) (r : Rr S m H d v) : Rr S m.shut H d v := Rr.weak (m := m) (m' := m.shut) (fun b h => ⟨fun z => h.1 (ok.muW b z), h.2⟩) (fun _ _ z => z) r
theorem rel_start {H : Hp} {g : Sto} {m : Mv} {ds : List D} {vs : List V} {N : List Str} (ok : MOk S H g m) (rl : Rl S m H ds vs) : Rel S H (L2.start N vs) (ds.map Slot.sh ++ List.replicate (N.length - ds.length) .no) g m := by
  have hl := rl.length
  have ns : ∀ (j : Nat) (d : D), (ds.map Slot.sh ++ List.replicate (N.length - ds.length) .no)[j]? ≠ some (Slot.ow d) := fun j d e => by
    by_cases hj : j < ds.length
    · rw [List.getElem?_append_left (by simpa using hj), List.getElem?_map] at e
      obtain ⟨x, _, hx⟩ := Option.map_eq_some_iff.mp e
      cases hx
    · rw [List.getElem?_append_right (by simpa using hj), List.getElem?_replicate] at e
      split at e <;> cases e
  refine ⟨ok, ?_, fun j s ov e1 e2 => ?_, fun j k d1 d2 a e1 _ _ _ => (ns j d1 e1).elim⟩
  · unfold L2.start; simp [hl]
  · by_cases hj : j < ds.length
    · rw [List.getElem?_append_left (by simpa using hj), List.getElem?_map] at e1
      obtain ⟨d, hd, rfl⟩ := Option.map_eq_some_iff.mp e1
      obtain ⟨v, hv, rv⟩ := rl.get hd
      unfold L2.start at e2
      rw [List.getElem?_append_left (by simp; omega), List.getElem?_map, hv] at e2
      cases e2
      exact ⟨v, rfl, rv⟩
    · rw [List.getElem?_append_right (by simpa using hj), List.getElem?_replicate] at e1
      split at e1
      · cases e1; trivial
      · cases e1
/-- a def keeps its promise -/
theorem fn_ok {P : Program} {w : World} {K : PySem.W.Frag} {mg : Str → Option Value} {base : Heap} {x qual : Str} {params : Arguments} {body : List Stmt} {scope : Scope} {dvs : List V} {kws : List (Str × V)} {f : Addr} {fd : FuncData} {N ps : List Str} {k : Nat} {sd : Sd}
    (F : FunD K x qual params body scope dvs kws f fd) (C : FnScope N ps scope)
    (hb : ∀ (cdv : Value) (A : Around) (outer : List PySem.Env) (s : Shared) (H : Hp) (E : XK), Room k (A.deeper (envOfC qual scope s.heap.objs.size f cdv)) → Pss ((cxOf CX0 P w K mg base N qual scope f cdv A outer s H E).nox) S W0 body sd) :
    FnOk P w K mg base CX0 (k + 1) f fd ps (Spec S ps.length (fnOf N.length sd)) := by
  refine F.ok C (fun vs H Q E ⟨ds, g, m, _, _, rl, hl, _⟩ => by rw [← rl.length, hl]) (fun cdv A outer s H vs Q E hr ⟨ds, g, m, ok, hW, rl, hl, p⟩ => ⟨_, PSs.nox (hb cdv A outer s H E hr), _, g, m, rel_start ok rl, ?_⟩)
  have gs : ∀ {m' : Mv} {H' : Hp}, GrowS m H m' H' → MOk S H' g m' ∨ True → GrowS m H m'.shut H' := fun q _ => ⟨q.keep, q.liv, q.mu, q.mun, fun a ha => (q.mun a ha).imp (fun z => ok.muW a z) id, q.b⟩
  unfold fnOf at p
  cases q : sd (ds.map Slot.sh ++ List.replicate (N.length - ds.length) .no) g with
  | rt d g' => rw [q] at p; exact fun v H' m' gr ok' r => p v H' m'.shut (gs gr (.inr trivial)) ok'.shut (fun _ z => z) (Rr.shut ok' r)
  | rtO d g' =>
    rw [q] at p
    refine fun a H' m' gr ok' hw hm ro => p (.ref a) H' m'.shut (gs gr (.inr trivial)) ok'.shut (fun _ z => z) ?_
    exact (ro.weak (m' := m'.shut) (fun b h => ⟨fun z => h.1 (ok'.muW b z), h.2⟩) fun _ _ z => z).rr ⟨hm, fun z => ok'.dis a z hw⟩
  | nx env' g' => rw [q] at p; exact fun σ' H' m' gr r => p .non H' m'.shut (gs gr (.inr trivial)) r.mem.shut (fun _ z => z) .non
  | bk env' g' => rw [q] at p; exact p.elim
  | ct env' g' => rw [q] at p; exact p.elim
  | exc x env' g' => rw [q] at p; exact p.elim
  | stuck => rw [q] at p; exact p.elim
/-! ### a call -/
/-- for the callee all that is ours is another's -/
def Mv.callee (m : Mv) : Mv := ⟨m.mu, m.mu, m.B ++ m.W.filter fun a => decide (a ∉ m.mu)⟩
theorem callee_fr {m : Mv} {a : Addr} (hm : ∀ a ∈ m.mu, a ∈ m.W) (h : m.fr a) : m.callee.fr a :=
  ⟨fun z => h.1 (hm a z), fun z => (List.mem_append.mp z).elim h.2 fun z => h.1 (List.mem_filter.mp z).1⟩
theorem MOk.callee {H : Hp} {g : Sto} {m : Mv} (ok : MOk S H g m) : MOk S H g m.callee :=
  ⟨ok.len, fun n d a e1 e2 => (ok.sto n d a e1 e2).weak (fun b h => callee_fr ok.muW h) fun _ _ z => z, ok.nd, fun _ z => z,
   fun a h => ok.trk a (by
    rcases h with h | h
    · exact .inl (ok.muW a h)
    · rcases List.mem_append.mp h with h | h
      · exact .inr h
      · exact .inl (List.mem_filter.mp h).1),
   fun a h z => by
    rcases List.mem_append.mp h with h | h
    · exact ok.dis a h (ok.muW a z)
    · exact (of_decide_eq_true (List.mem_filter.mp h).2) z⟩
/-- behind the call: our own again -/
def Mv.back (m m' : Mv) : Mv := ⟨m'.mu, m.W ++ m'.mu, m.B⟩
theorem back_ok {H H' : Hp} {g g' : Sto} {m m' : Mv} (ok : MOk S H g m) (q : GrowS m.callee H m' H') (ok' : MOk S H' g' m') (hW : ∀ a ∈ m'.W, a ∈ m'.mu) : Grow m H (m.back m') H' ∧ MOk S H' g' (m.back m') ∧ ∀ d v, Rr S m' H' d v → Rr S (m.back m') H' d v := by
  have hB : m'.B = m.B ++ m.W.filter fun a => decide (a ∉ m.mu) := q.b
  have pre : ∀ a ∈ m.mu, a ∈ m'.mu := fun a ha => by
    obtain ⟨t, e⟩ := q.mu
    rw [e]; exact List.mem_append_left _ ha
  have fr : ∀ a, m'.fr a → (m.back m').fr a := fun a h => by
    refine ⟨fun z => ?_, fun z => h.2 (by rw [hB]; exact List.mem_append_left _ z)⟩
    rcases List.mem_append.mp z with z | z
    · by_cases hm : a ∈ m.mu
      · exact h.1 (ok'.muW a (pre a hm))
      · exact h.2 (by rw [hB]; exact List.mem_append_right _ (List.mem_filter.mpr ⟨z, decide_eq_true hm⟩))
    · exact h.1 (ok'.muW a z)
  have mk : ∀ a, a ∉ m.mu → Mut (H a) → Mut (H' a) := fun a hm h => by
    cases e : H a with
    | none => rw [e] at h; exact h.elim
    | some o => rw [q.keep a o e hm]; rw [e] at h; exact h
  refine ⟨⟨fun a o h n => q.keep a o h n, q.liv, q.mu, q.mun, fun a ha => List.mem_append_left _ ha, fun a ha => ?_, rfl⟩, ⟨ok'.len, fun n d a e1 e2 => (ok'.sto n d a e1 e2).weak fr fun _ _ z => z, ok'.nd, fun a ha => List.mem_append_right _ ha, fun a ha => ?_, fun a ha z => ?_⟩, fun d v r => Rr.weak fr (fun _ _ z => z) r⟩
  · rcases List.mem_append.mp ha with z | z
    · exact .inl z
    · exact (q.mun a z).imp (fun y => ok.muW a y) id
  · rcases ha with ha | ha
    · rcases List.mem_append.mp ha with z | z
      · by_cases hm : a ∈ m.mu
        · exact ok'.trk a (.inl (ok'.muW a (pre a hm)))
        · exact mk a hm (ok.trk a (.inl z))
      · exact ok'.trk a (.inl (ok'.muW a z))
    · exact mk a (fun z => ok.dis a ha (ok.muW a z)) (ok.trk a (.inr ha))
  · rcases List.mem_append.mp z with z | z
    · exact ok.dis a ha z
    · exact ok'.dis a (by rw [hB]; exact List.mem_append_left _ ha) (ok'.muW a z)
theorem call_spec {σ : St} {H H0 : Hp} {g : Sto} {m : Mv} {ds : List D} {vs : List V} {n : Nat} {F : Fn} {Q : VK} {E : XK} (ok : MOk S H g m) (rl : Rl S m H ds vs) (hn : ds.length = n) (hx : ∀ x g', F ds g ≠ .exc x g') (p : Post S (RT S) W σ H0 (F ds g) m H Q) : Spec S n F vs H Q E := by
  refine ⟨ds, g, m.callee, ok.callee, fun _ z => z, Rl.weak (m := m) (fun b h => callee_fr ok.muW h) (fun _ _ z => z) rl, hn, ?_⟩
  cases q : F ds g with
  | stuck => rw [q] at p; exact p
  | exc x g' => exact (hx x g' q).elim
  | ok d g' =>
    rw [q] at p
    intro v H' m' gr ok' hW r
    obtain ⟨h1, h2, h3⟩ := back_ok ok gr ok' hW
    exact p v H' (m.back m') h1 h2 (h3 d v r)
/-- f(e, ..); an exception of it is not served here -/
def eCall (n : Nat) (F : Fn) (fs : En (List D)) : E1 := fun env g => (fs env g).bind fun ds g1 => if ds.length = n then (match F ds g1 with
  | .exc _ _ => .stuck
  | r => r) else .stuck
/-- the def x is the function F -/
structure Def (P : Program) (w : World) (K : PySem.W.Frag) (mg : Str → Option Value) (base : Heap) (S : Stat) (x : Str) (k : Nat) (ps : List Str) (F : Fn) : Prop where
  ex : ∃ f fd, mg x = some (.ref f) ∧ PySem.W.keepIn K (.ref f) = true ∧ Binds K fd ps [] ∧ FnOk P w K mg base CX0 k f fd ps (Spec S ps.length F)
theorem e_call {x : Str} {k : Nat} {ps : List Str} {F : Fn} {e : Expr} {es : List Expr} {fs : En (List D)} {p pos : Pos} (d : Def X.prog X.w X.K X.mg X.base S x k ps F) (hr : Room k X.A) (hg : Gl X x) (ha : Pas X S W (e :: es) fs)
    (hdb : (x == ("__debug__" : Str)) = false := by decide) (he : starEach (e :: es) X.env = (false, eval e X.env) :: starEach es X.env := by rfl) (hpl : (backTo pos (starEach es X.env)).any (·.1) = false := by rfl) :
    Pe X S W (.Call (.Name x p) (e :: es) [] pos) (eCall ps.length F fs) := by
  obtain ⟨f, fd, hm, hk, hb, G⟩ := d.ex
  refine PE.to (pe_call G hr hg hm hk hb .nil pass0 ha hdb he hpl) fun σ H Q q => Tv.go (Ra := RL S) (k := fun ds _ g1 => if ds.length = ps.length then (match F ds g1 with
    | .exc _ _ => .stuck
    | r => r) else .stuck) q fun env m g H1 ds vs rel fz ra p => ?_
  rw [List.append_nil]
  split at p
  · rename_i hn
    refine call_spec (W := W) (σ := σ) (H0 := H) rel.mem ra hn (fun x g' z => ?_) ?_
    · rw [z] at p; exact p
    · cases q : F ds g with
      | stuck => rw [q] at p; exact p
      | exc x g' => rw [q] at p; exact p.elim
      | ok d g' => rw [q] at p; exact p
  · exact p.elim
end
end Ev
namespace Ev
open PySem PySem.Spec PyProof.Rows L2
section
variable {X : Cx} {S : Stat} {W : WX}
/-! ### the store -/
def eNew (f : E1) : E1 := eU (fun d g => .ok (.loc g.length) (g ++ [d])) f
/-- a new thing is put into the store -/
theorem l_of {e : Expr} {f : E1} (h : Pf X S W e f) : Pe X S W e (eNew f) := PE.to h fun σ H Q ⟨env, g, m, r, p⟩ => by
  refine ⟨env, g, m, r, ?_⟩
  unfold eNew eU at p
  cases q : f env g with
  | stuck => rw [q] at p; exact p
  | exc x g' => rw [q] at p; exact p
  | ok d g' =>
    rw [q] at p
    intro v H' m' gr ok ⟨a, e, hw, hm, hn, ro⟩
    subst e
    have pre : ∀ (n : Nat) (b : Addr), m'.mu[n]? = some b → (m'.mu ++ [a])[n]? = some b := fun n b e => by
      rw [List.getElem?_append_left (List.getElem?_eq_some_iff.mp e).1]; exact e
    have nw : (m'.mu ++ [a])[g'.length]? = some a := by rw [ok.len]; simp
    refine p _ H' ⟨m'.mu ++ [a], m'.W, m'.B⟩ ⟨gr.keep, gr.liv, ?_, fun b hb => ?_, gr.wk, gr.wn, gr.b⟩ ⟨by simp [ok.len], fun n d b e1 e2 => ?_, ?_, fun b hb => ?_, ok.trk, ok.dis⟩ (.loc nw)
    · obtain ⟨t, e⟩ := gr.mu
      exact ⟨t ++ [a], by rw [e, List.append_assoc]⟩
    · rcases List.mem_append.mp hb with hb | hb
      · exact gr.mun b hb
      · exact .inr (by simp at hb; rw [hb]; exact hn)
    · by_cases hl : n < g'.length
      · rw [List.getElem?_append_left hl] at e1
        rw [List.getElem?_append_left (by rw [← ok.len]; exact hl)] at e2
        exact (ok.sto n d b e1 e2).weak (fun _ h => h) pre
      · have e3 := (List.getElem?_eq_some_iff.mp e1).1
        have e4 : n = g'.length := by simp at e3; omega
        subst e4
        rw [nw] at e2
        cases e2
        simp at e1
        subst e1
        exact ro.weak (fun _ h => h) pre
    · rw [List.nodup_append]
      exact ⟨ok.nd, by simp, fun x hx y hy => by simp at hy; rw [hy]; intro z; rw [z] at hx; exact hm hx⟩
    · rcases List.mem_append.mp hb with hb | hb
      · exact ok.muW b hb
      · simp at hb; rw [hb]; exact hw
/-- a thing of the store is changed -/
theorem MOk.put {H : Hp} {g : Sto} {m : Mv} (ok : MOk S H g m) {n : Nat} {a : Addr} {o : HO} {d' : D} (hn : m.mu[n]? = some a) (mt : Mut (some o)) (ro : Root S m (upd H a o) a d') : Grow m H m (upd H a o) ∧ MOk S (upd H a o) (g.set n d') m := by
  have ha : a ∈ m.mu := List.mem_of_getElem? hn
  have q : Grow m H m (upd H a o) := ⟨fun b u e n => by rw [upd_ne fun z => n (by rw [z]; exact ha)]; exact e, fun b e => by
    by_cases hb : b = a
    · subst hb; rw [upd_same] at e; cases e
    · rw [upd_ne hb] at e; exact e, ⟨[], by simp⟩, fun _ h => .inl h, fun _ h => h, fun _ h => .inl h, rfl⟩
  refine ⟨q, by simp [ok.len], fun k d b e1 e2 => ?_, ok.nd, ok.muW, fun b hb => ?_, ok.dis⟩
  · by_cases hk : n = k
    · subst hk
      rw [hn] at e2
      cases e2
      have hl := (List.getElem?_eq_some_iff.mp e1).1
      rw [List.getElem?_set_self (by simpa using hl)] at e1
      cases e1
      exact ro
    · rw [List.getElem?_set_ne hk] at e1
      refine (ok.sto k d b e1 e2).grow ok (q.s ok.muW) fun u e => ?_
      rw [upd_ne fun z => ?_]
      · exact e
      · subst z
        obtain ⟨l1, h1⟩ := List.getElem?_eq_some_iff.mp hn
        obtain ⟨l2, h2⟩ := List.getElem?_eq_some_iff.mp e2
        exact hk ((List.getElem_inj ok.nd).mp (h1.trans h2.symm))
  · by_cases hb' : b = a
    · subst hb'; rw [upd_same]; exact mt
    · rw [upd_ne hb']; exact ok.trk b hb
/-- the list at a place of the store -/
def lstAt (g : Sto) : D → Option (Nat × List D)
  | .loc n => match g[n]? with
    | some (.lst xs) => some (n, xs)
    | _ => none
  | _ => none
theorem lstAt_ok {H : Hp} {g : Sto} {m : Mv} (ok : MOk S H g m) {d : D} {v : V} {n : Nat} {xs : List D} (h : lstAt g d = some (n, xs)) (r : Rr S m H d v) : ∃ a vs, v = .ref a ∧ m.mu[n]? = some a ∧ H a = some (.lst vs) ∧ Rl S m H xs vs := by
  cases r with
  | @loc k a e =>
    simp only [lstAt] at h
    split at h
    · rename_i ys e1
      cases h
      have ro := ok.sto _ _ _ e1 e
      cases ro with
      | lst e2 rl => exact ⟨a, _, rfl, e, e2, rl⟩
    · cases h
  | _ => simp [lstAt] at h
theorem put_lst {H : Hp} {g : Sto} {m : Mv} (ok : MOk S H g m) {n : Nat} {a : Addr} {ys : List D} {ws : List V} (hn : m.mu[n]? = some a) (rl : Rl S m H ys ws) : Grow m H m (upd H a (.lst ws)) ∧ MOk S (upd H a (.lst ws)) (g.set n (.lst ys)) m := by
  have ha : a ∈ m.mu := List.mem_of_getElem? hn
  have q : GrowS m H m (upd H a (.lst ws)) := grow_put (ok.muW a ha)
  exact ok.put hn trivial (.lst upd_same (rl.grow ok q))
/-- o.pop() -/
def sPop : D → Sto → Res D := fun d g => match lstAt g d with
  | some (n, xs) => match xs[xs.length - 1]? with
    | some y => .ok y (g.set n (.lst xs.dropLast))
    | none => .stuck
  | none => .stuck
theorem Rl.dropLast {m : Mv} {H : Hp} {ds : List D} {vs : List V} (r : Rl S m H ds vs) : Rl S m H ds.dropLast vs.dropLast := by
  rw [List.dropLast_eq_take, List.dropLast_eq_take, r.length]
  exact r.take _
theorem e_popS {o : Expr} {f : E1} {apos cpos : Pos} (ho : Pe X S W o f)
    (hbase : attributeBase o "pop" X.env (eval o X.env) = eval o X.env := by rfl) (hline : (apos.endLine == cpos.line) = true := by rfl) :
    Pe X S W (.Call (.Attribute o "pop" apos) [] [] cpos) (eU sPop f) :=
  PE.to (pe_bm0 PySem.F.plainAttrs_list PySem.F.slot_list_pop PySem.F.type_list_pop mt_pop ho hbase hline) fun σ H Q q => Tv.one (Ra := RT S) q fun env m g H1 d x rel _ ⟨_, ra⟩ p => by
    unfold sPop at p
    split at p
    · rename_i n xs e1
      obtain ⟨a, vs, rfl, hn, hH, rl⟩ := lstAt_ok rel.mem e1 ra
      refine ⟨.inl ⟨rfl, _, SqL.of hH⟩, ?_⟩
      split at p
      · rename_i y e2
        obtain ⟨v, ev, rv⟩ := rl.get e2
        rw [rl.length] at ev
        obtain ⟨gr, ok⟩ := put_lst rel.mem hn rl.dropLast
        exact ⟨a, vs, v, rfl, rfl, hH, ev, p v _ m gr ok (rv.grow rel.mem (gr.s rel.mem.muW))⟩
      · exact p.elim
    · exact p.elim
/-- o.append(e) -/
def sApp : D → D → Sto → Res D := fun d b g => match lstAt g d with
  | some (n, xs) => if xs.length < big then .ok .non (g.set n (.lst (xs ++ [b]))) else .stuck
  | none => .stuck
def eApp (f h : E1) : E1 := fun env g => (f env g).bind fun a g1 => if (lstAt g1 a).isSome = true then (h env g1).bind fun b g2 => sApp a b g2 else .stuck
theorem e_appS {o e : Expr} {f h : E1} {apos cpos : Pos} (ho : Pe X S W o f) (he : Pe X S W e h) (hst : starEach [e] X.env = (false, eval e X.env) :: starEach [] X.env := by rfl)
    (hbase : attributeBase o "append" X.env (eval o X.env) = eval o X.env := by rfl) (hline : (apos.endLine == cpos.line) = true := by rfl)
    (hfew : ((backTo cpos (starEach [e] X.env)).all (fun x => !x.1) && (backToKw cpos (keywordEach [] X.env)).all (fun x => x.1.isSome) && decide (([e] : List Expr).length + ([] : List Keyword).length + (if ([] : List Keyword).isEmpty then 0 else 1) < 30)) = true := by rfl) :
    Pe X S W (.Call (.Attribute o "append" apos) [e] [] cpos) (eApp f h) :=
  PE.to (pe_bm PySem.F.plainAttrs_list PySem.F.slot_list_append PySem.F.type_list_append mt_append ho (pa_cons he pa_nil hst) hbase hfew hline hst) fun σ H Q q =>
    Tv.go (Ra := RT S) (k := fun a env g1 => if (lstAt g1 a).isSome = true then (h env g1).bind fun b g2 => sApp a b g2 else .stuck) q fun env m g H1 d x rel fz ra p => by
      split at p
      · rename_i hi
        obtain ⟨⟨n, xs⟩, e1⟩ := Option.isSome_iff_exists.mp hi
        obtain ⟨a, vs, rfl, hn, hH, rl⟩ := lstAt_ok rel.mem e1 ra
        refine ⟨.inl ⟨rfl, _, SqL.of hH⟩, env, g, m, rel, (Post.bind (R := RT S) (H0 := H1) p).q fun y H2 ⟨b, g2, m2, gr2, ok2, rb, p2⟩ => ?_⟩
        unfold sApp at p2
        split at p2
        · rename_i n' ys e2
          obtain ⟨a', vs', e', hn', hH', rl'⟩ := lstAt_ok ok2 e2 (ra.grow rel.mem (gr2.s rel.mem.muW))
          cases e'
          split at p2
          · rename_i c
            obtain ⟨gr, ok⟩ := put_lst ok2 hn' (Rl.append rl' (.cons rb .nil))
            exact ⟨a, vs', y, rfl, rfl, hH', by rw [← rl'.length]; exact big_lt c, p2 .non _ m2 gr ok .non⟩
          · exact p2.elim
        · exact p2.elim
      · exact p.elim
/-- o[i] = e, a list of the store -/
def sPut : D → D → D → Sto → Res D := fun v o i g => match lstAt g o, i with
  | some (n, xs), .int k => match ixN xs.length k with
    | some j => .ok .non (g.set n (.lst (xs.set j v)))
    | none => .stuck
  | _, _ => .stuck
def eSet3 (sem : D → D → D → Sto → Res D) (fe fo fi : E1) : E1 := fun env g => (fe env g).bind fun v g1 => (fo env g1).bind fun o g2 => (fi env g2).bind fun i g3 => sem v o i g3
theorem set_any {e o i : Expr} {fe fo fi : E1} {sem : D → D → D → Sto → Res D} {t : TSet} {p1 pos : Pos} (ht : PSet X t)
    (hs : ∀ (σ : St) (H0 : Hp) (m : Mv) (g : Sto) (H : Hp) (v o i : D) (x y z : V) (Q : Hp → Prop), MOk S H g m → Rr S m H v x → Rr S m H o y → Rr S m H i z → Post S (RT S) W σ H0 (sem v o i g) m H (fun _ => Q) → t y z x H Q)
    (he : Pe X S W e fe) (ho : Pe X S W o fo) (hi : Pe X S W i fi)
    (ha : ∀ v, assign (.Subscript o i p1) X.env v = (do
      let ov ← holding [v] (eval o X.env)
      let iv ← holding [v, ov] (eval i X.env)
      standAt p1
      holding [v, ov, iv] (setItem ov iv v)
      release [v, ov, iv] []) := by intro _; rfl)
    (hsw : swapsWithSole [.Subscript o i p1] e pos.line X.env = pure false := by rfl) (hw : swappedStores [.Subscript o i p1] e X.env = pure none := by rfl)
    (h1 : (assignEach [.Subscript o i p1] X.env).map (·.2) = [assign (.Subscript o i p1) X.env] := by rfl) : Ps X S W (.Assign [.Subscript o i p1] e pos) (sDo (eSet3 sem fe fo fi)) :=
  PS.to (ps_asg he (pg_sub ho hi ht ha) hsw hw h1) fun E σ H h => by
    have h1 : Tv S (RT S) W (eSet3 sem fe fo fi) σ H (fun _ H1 => E.nx σ H1) := Tv.st (R := RT S) h fun env g0 g m0 m H1 a x r0 gr r1 ra p => p σ H1 m (.refl m H1) r1
    refine Tv.go (Ra := RT S) (k := fun v env g1 => (fo env g1).bind fun o g2 => (fi env g2).bind fun i g3 => sem v o i g3) h1 fun env m g H1 v x rel fz ra p => ?_
    refine ⟨env, g, m, rel, (Post.bind (R := RT S) (H0 := H1) p).q fun y H2 ⟨o', g2, m2, gr2, ok2, ro, p2⟩ => ?_⟩
    have rel2 := rel.grow gr2 ok2
    refine ⟨env, g2, m2, rel2, (Post.bind (R := RT S) (H0 := H2) p2).q fun z H3 ⟨i', g3, m3, gr3, ok3, ri, p3⟩ => ?_⟩
    exact hs σ H m3 g3 H3 v o' i' x y z _ ok3 ((ra.grow rel.mem (gr2.s rel.mem.muW)).grow ok2 (gr3.s ok2.muW)) (Rr.grow ok2 (gr3.s ok2.muW) ro) ri p3
theorem s_putS {e o i : Expr} {fe fo fi : E1} {p1 pos : Pos} (he : Pe X S W e fe) (ho : Pe X S W o fo) (hi : Pe X S W i fi)
    (ha : ∀ v, assign (.Subscript o i p1) X.env v = (do
      let ov ← holding [v] (eval o X.env)
      let iv ← holding [v, ov] (eval i X.env)
      standAt p1
      holding [v, ov, iv] (setItem ov iv v)
      release [v, ov, iv] []) := by intro _; rfl)
    (hsw : swapsWithSole [.Subscript o i p1] e pos.line X.env = pure false := by rfl) (hw : swappedStores [.Subscript o i p1] e X.env = pure none := by rfl)
    (h1 : (assignEach [.Subscript o i p1] X.env).map (·.2) = [assign (.Subscript o i p1) X.env] := by rfl) : Ps X S W (.Assign [.Subscript o i p1] e pos) (sDo (eSet3 sPut fe fo fi)) :=
  set_any set_list (fun σ H0 m g H v o i x y z Q ok rv ro ri p => by
    unfold sPut at p
    split at p
    · rename_i n xs k e1
      obtain ⟨a, vs, rfl, hn, hH, rl⟩ := lstAt_ok ok e1 ro
      have ez := ri.int_inv
      subst ez
      split at p
      · rename_i j e2
        obtain ⟨gr, ok'⟩ := put_lst ok hn (Rl.set rv j rl)
        exact ⟨a, vs, k, j, rfl, rfl, hH, by rw [← rl.length]; exact e2, p .non _ m gr ok' .non⟩
      · exact p.elim
    · exact p.elim) he ho hi ha hsw hw h1
/-! ### xs[::-1] -/
def sRev : D → Sto → Res D
  | .lst xs, g => .ok (.lst xs.reverse) g
  | _, _ => .stuck
theorem Rl.reverse {m : Mv} {H : Hp} : ∀ {ds : List D} {vs : List V}, Rl S m H ds vs → Rl S m H ds.reverse vs.reverse
  | _, _, .nil => .nil
  | _, _, .cons r t => by simp only [List.reverse_cons]; exact Rl.append (Rl.reverse t) (.cons r .nil)
theorem f_rev {e : Expr} {f : E1} {k : Nat} {p1 p2 p3 pos : Pos} (hK : S.K = X.K) (he : Pb X S W e f) : Pf X S W (.Subscript e (.Slice none none (some (.UnaryOp .USub (.Constant (.int 1) k p1) p2)) p3) pos) (eU sRev f) :=
  PE.to (pe_revL he) fun σ H Q q => Tv.one (Ra := RB S) q fun env m g H1 d x rel fz ⟨_, ra⟩ p => by
    cases d with
    | lst xs =>
      obtain ⟨a, vs, rfl, hs, rl⟩ := ra.lst
      exact ⟨a, vs, rfl, hK ▸ hs, fun q hq => p.ownL rel.mem rl.reverse hq fz⟩
    | _ => exact p.elim
/-! ### found.append(left.pop(e)), both one's own -/
def putAppPop (i j : Nat) (d : D) (env : Env) (g : Sto) : SRes := match env[i]?, env[j]?, d with
  | some (.ow (.lst xs)), some (.ow (.lst ys)), .int k => if xs.length < big ∧ -(2 ^ 63) ≤ k ∧ k < 2 ^ 63 then (match seqIndex? k ys.length with
    | some n => match ys[n]? with
      | some y => .nx ((env.set j (.ow (.lst (ys.eraseIdx n)))).set i (.ow (.lst (xs ++ [y])))) g
      | none => .stuck
    | none => .stuck) else .stuck
  | _, _, _ => .stuck
def sAppPop (i j : Nat) (f : E1) : Sd := fun env g => if isOwL env i = true ∧ isOwL env j = true then thenS f (putAppPop i j) env g else .stuck
theorem Rl.erase {m : Mv} {H : Hp} : ∀ {ds : List D} {vs : List V} (n : Nat), Rl S m H ds vs → Rl S m H (ds.eraseIdx n) (vs.eraseIdx n)
  | _, _, _, .nil => by simp only [List.eraseIdx_nil]; exact .nil
  | _, _, 0, .cons _ t => t
  | _, _, n + 1, .cons r t => .cons r (Rl.erase n t)
theorem s_appPop {i j : Nat} {o l e : Expr} {f : E1} {ap1 cp1 apos cpos pos : Pos} (hij : i ≠ j) (hv : PE X o (tVar i)) (hl : PE X l (tVar j)) (he : Pe X S W e f)
    (hst : starEach [e] X.env = (false, eval e X.env) :: starEach [] X.env := by rfl)
    (hbase1 : attributeBase l "pop" X.env (eval l X.env) = eval l X.env := by rfl) (hline1 : (ap1.endLine == cp1.line) = true := by rfl)
    (hfew1 : ((backTo cp1 (starEach [e] X.env)).all (fun x => !x.1) && (backToKw cp1 (keywordEach [] X.env)).all (fun x => x.1.isSome) && decide (([e] : List Expr).length + ([] : List Keyword).length + (if ([] : List Keyword).isEmpty then 0 else 1) < 30)) = true := by rfl)
    (hst2 : starEach [.Call (.Attribute l "pop" ap1) [e] [] cp1] X.env = (false, eval (.Call (.Attribute l "pop" ap1) [e] [] cp1) X.env) :: starEach [] X.env := by rfl)
    (hbase : attributeBase o "append" X.env (eval o X.env) = eval o X.env := by rfl) (hline : (apos.endLine == cpos.line) = true := by rfl)
    (hs : swapsWith (.Call (.Attribute o "append" apos) [.Call (.Attribute l "pop" ap1) [e] [] cp1] [] cpos) none pos.line X.env = pure false := by rfl)
    (hfew : ((backTo cpos (starEach [.Call (.Attribute l "pop" ap1) [e] [] cp1] X.env)).all (fun x => !x.1) && (backToKw cpos (keywordEach [] X.env)).all (fun x => x.1.isSome) && decide (([.Call (.Attribute l "pop" ap1) [e] [] cp1] : List Expr).length + ([] : List Keyword).length + (if ([] : List Keyword).isEmpty then 0 else 1) < 30)) = true := by rfl) :
    Ps X S W (.Expr (.Call (.Attribute o "append" apos) [.Call (.Attribute l "pop" ap1) [e] [] cp1] [] cpos) pos) (sAppPop i j f) :=
  PS.to (ps_expr (pe_bm PySem.F.plainAttrs_list PySem.F.slot_list_append PySem.F.type_list_append mt_append hv (pa_cons (pe_bm PySem.F.plainAttrs_list PySem.F.slot_list_pop PySem.F.type_list_pop mt_popAt hl (pa_cons he pa_nil hst) hbase1 hfew1 hline1 hst) pa_nil hst2) hbase hfew hline hst2) hs) fun E σ H ⟨env, g, m, r, p⟩ => by
    unfold sAppPop at p
    split at p
    · rename_i hL
      obtain ⟨xs, e1⟩ := isOwL_ok hL.1
      obtain ⟨ys, e2⟩ := isOwL_ok hL.2
      obtain ⟨a, vs, es, hw, hm, hH, rl⟩ := ow_lst r e1
      obtain ⟨b, us, es2, hw2, hm2, hH2, rl2⟩ := ow_lst r e2
      refine ⟨.ref a, es, .inl ⟨rfl, _, SqL.of hH⟩, .ref b, es2, .inl ⟨rfl, _, SqL.of hH2⟩, ?_⟩
      refine Tv.st (R := RT S) (k := putAppPop i j) ⟨env, g, m, r, p⟩ fun env g0 g m0 m H1 d y r0 gr r1 ra p => ?_
      unfold putAppPop at p
      split at p
      · rename_i xs' ys' k e3 e4
        obtain ⟨a', vs', es', hw', hm', hH', rl'⟩ := ow_lst r1 e3
        obtain ⟨b', us', es2', hw2', hm2', hH2', rl2'⟩ := ow_lst r1 e4
        rw [es] at es'
        cases es'
        rw [es2] at es2'
        cases es2'
        have ey := ra.int_inv
        subst ey
        split at p
        · rename_i c
          split at p
          · rename_i n e5
            split at p
            · rename_i z e6
              obtain ⟨v, e7, rv⟩ := rl2'.get e6
              have hab : a ≠ b := fun q => hij (r1.own i j _ _ a e3 e4 es (by rw [q]; exact es2))
              refine ⟨b, us', k, n, v, rfl, rfl, hH2', c.2.1, c.2.2, by rw [← rl2'.length]; exact e5, e7, ?_⟩
              have q1 : GrowS m H1 m (upd H1 b (.lst (us'.eraseIdx n))) := grow_put hw2'
              have r2 := r1.put e4 es2 (o := .lst (us'.eraseIdx n)) (d' := .lst (ys'.eraseIdx n)) trivial (.lst upd_same (Rl.grow r1.mem q1 (rl2'.erase n)))
              have e3' : (env.set j (.ow (.lst (ys'.eraseIdx n))))[i]? = some (.ow (.lst xs')) := by rw [List.getElem?_set_ne (Ne.symm hij)]; exact e3
              have hH3 : upd H1 b (.lst (us'.eraseIdx n)) a = some (.lst vs') := by rw [upd_ne hab]; exact hH'
              have q2 : GrowS m (upd H1 b (.lst (us'.eraseIdx n))) m (upd (upd H1 b (.lst (us'.eraseIdx n))) a (.lst (vs' ++ [v]))) := grow_put hw'
              refine ⟨a, vs', v, rfl, rfl, hH3, by rw [← rl'.length]; exact big_lt c.1, p _ _ m (q1.trans q2) (r2.put e3' es trivial (.lst upd_same ?_))⟩
              exact Rl.append (Rl.grow r2.mem q2 (Rl.grow r1.mem q1 rl')) (.cons (Rr.grow r2.mem q2 (Rr.grow r1.mem q1 rv)) .nil)
            · exact p.elim
          · exact p.elim
        · exact p.elim
      · exact p.elim
    · exact p.elim
/-! ### x += e, ints -/
def sAugI (i : Nat) (p : Int → Int → Int) (f : E1) : Sd := fun env g => match env[i]? with
  | some (.sh (.int a)) => thenS f (fun d env g => match d with
    | .int b => .nx (env.set i (.sh (.int (p a b)))) g
    | _ => .stuck) env g
  | _ => .stuck
theorem s_augI {i : Nat} {x : Str} {e : Expr} {f : E1} {op : Operator} {q : Int → Int → Int} {pos pos' : Pos} (ho : PIp X op (ipI q)) (hN : X.N.Nodup) (hi : X.N[i]? = some x) (hx : Loc X.env.scope x) (he : Pe X S W e f) (hf : X.fn x = true ∨ X.env.scope.names.lookup x = some .local := by first | exact .inl rfl | exact .inr rfl | assumption) :
    Ps X S W (.AugAssign (.Name x pos') op e pos) (sAugI i q f) :=
  PS.to (ps_aug hN hi hx he ho hf) fun E σ H ⟨env, g, m, r, p⟩ => by
    unfold sAugI at p
    split at p
    · rename_i a e1
      obtain ⟨ov, e2, v, rfl, rv⟩ := r.at e1
      have ev := rv.int_inv
      subst ev
      refine ⟨.int a, e2, ?_⟩
      refine Tv.st (R := RT S) (k := fun d env g => match d with
        | .int b => .nx (env.set i (.sh (.int (q a b)))) g
        | _ => .stuck) ⟨env, g, m, r, p⟩ fun env g0 g m0 m H1 d y r0 gr r1 ra p => ?_
      cases d with
      | int b => exact ⟨a, b, rfl, ra.int_inv, p _ H1 m (.refl m H1) (r1.set i (.int _))⟩
      | _ => exact p.elim
    · exact p.elim
end
end Ev
/-! list(zip(x, y)) of two tuples. -/
namespace Ev
open PySem PySem.Spec PyProof.Rows L2
section
variable {prog : Program} {w : World} {A : Around} {s : Shared}
/-- the zip's next pair while an elder pair is out -/
theorem zh_item {E : Value → Shared → Prop} {z p q T c d l r : Addr} {fl : Bool} {oT : Obj} {j k : Nat} {us ws : Array Value} {u v : Value} {Q : Option Value → Shared → Prop} (ap : ZipApart z p q c d l r)
    (kz : IsZipHeld s.heap z p q T fl) (kT : s.heap.get? T = some oT) (kp : IsPair s.heap p (.ref c) (.ref d)) (kc : s.heap.IsTupleIter c l j) (kd : s.heap.IsTupleIter d r k)
    (kl : s.heap.IsTuple l us) (kr : s.heap.IsTuple r ws) (hu : us[j]? = some u) (hv : ws[k]? = some v)
    (fin : ∀ h', IsZipHeld h' z p q T true → h'.IsTupleIter c l (j + 1) → h'.IsTupleIter d r (k + 1) → IsPair h' s.heap.objs.size u v → h'.objs.size = s.heap.objs.size + 1 →
      (∀ b o, b ≠ z → b ≠ c → b ≠ d → s.heap.get? b = some o → h'.get? b = some o) → Q (some (.ref s.heap.objs.size)) { s with heap := h' }) :
    wpAny (model prog w) A (pyNext (.ref z)) Q E s := by
  have ty : s.TypeIs (.ref z) "zip" := ⟨_, kz, rfl⟩
  unfold pyNext
  refine wpAny_bind (wpAny_attempt (wpAny_callSpecial?_slot (name := Str.ofString "__next__") ty F.slot_zip_next (wpAny_call_entry F.slot_zip_next ty F.entry_zip_next ?_ (F.args_zip_next_1 _))))
  show wpAny _ _ (field (.ref z) 2 >>= _) _ _ s
  refine wpAny_bind (wpAny_field kz rfl (x := .bool false) rfl ?_)
  show wpAny _ _ (field (.ref z) 3 >>= _) _ _ s
  refine wpAny_bind (wpAny_field kz rfl (x := .ref p) rfl (wpAny_bind (wpAny_seqItems kp rfl ?_)))
  show wpAny _ _ (Builtin.SmallTypes.ownedTupleIsFree (.ref z) >>= _) _ _ s
  refine wpAny_bind (wpAny_tupleHeld_zip kz kT fun g1 z1 b1 => ?_)
  simp only [Bool.false_eq_true, if_false]
  refine wpAny_bind ?_
  rw [← Array.forIn_toList]
  simp only [List.forIn_cons, List.forIn_nil]
  refine wpAny_bind (wpAny_bind (wpAny_holding ?_))
  show wpAny _ _ (Builtin.SmallTypes.nextOf (.ref c) >>= _) _ _ _
  refine wpAny_bind (RZ.nextOf_tuple_item (s := { s with heap := g1 }) (kc.extBut b1.extBut ap.i1z) (kl.extBut b1.extBut ap.l1z) hu fun g2 c2 b2 => wpAny_pure (wpAny_pure ?_))
  refine wpAny_bind (wpAny_bind (wpAny_holding ?_))
  show wpAny _ _ (Builtin.SmallTypes.nextOf (.ref d) >>= _) _ _ _
  refine wpAny_bind (RZ.nextOf_tuple_item (s := { s with heap := g2 }) ((kd.extBut b1.extBut ap.i2z).extBut b2.extBut ap.i12.symm) ((kr.extBut b1.extBut ap.l2z).extBut b2.extBut ap.l2i1) hv fun g3 d3 b3 => wpAny_pure (wpAny_pure (wpAny_pure ?_)))
  show wpAny _ _ (newTuple [u, v] >>= _) _ _ _
  refine wpAny_bind (wpAny_newTuple (wpAny_pure ⟨_, rfl, wpAny_pure ?_⟩))
  have sz : g3.objs.size = s.heap.objs.size := by rw [b3.1, b2.1, b1.1]
  have z3 : IsZipHeld g3 z p q T true := b3.extBut _ _ ap.i2z.symm (b2.extBut _ _ ap.i1z.symm z1)
  have kk : ∀ b o, b ≠ z → b ≠ c → b ≠ d → s.heap.get? b = some o → g3.get? b = some o := fun b o n1 n2 n3 e => b3.extBut _ _ n3 (b2.extBut _ _ n2 (b1.extBut _ _ n1 e))
  have c3 : g3.IsTupleIter c l (j + 1) := c2.extBut b3.extBut ap.i12
  show Q (some (.ref g3.objs.size)) _
  have np : IsPair (g3.push { cls := .type "tuple", data := .seq #[u, v] }) g3.objs.size u v := Heap.get?_push_size _ rfl
  have ns : (g3.push { cls := .type "tuple", data := .seq #[u, v] }).objs.size = g3.objs.size + 1 := Heap.size_push ..
  rw [sz] at np ns ⊢
  exact fin _ (Heap.get?_push_of_some _ z3) (c3.at fun _ e => Heap.get?_push_of_some _ e) (d3.at fun _ e => Heap.get?_push_of_some _ e) np ns fun b o n1 n2 n3 e => Heap.get?_push_of_some _ (kk b o n1 n2 n3 e)
theorem zh_end {E : Value → Shared → Prop} {z p q T c d l r : Addr} {fl : Bool} {oT : Obj} {j k : Nat} {us ws : Array Value} {Q : Option Value → Shared → Prop} (hh : A.handled = none) (ap : ZipApart z p q c d l r)
    (kz : IsZipHeld s.heap z p q T fl) (kT : s.heap.get? T = some oT) (kp : IsPair s.heap p (.ref c) (.ref d)) (kc : s.heap.IsTupleIter c l j) (kd : s.heap.IsTupleIter d r k)
    (kl : s.heap.IsTuple l us) (kr : s.heap.IsTuple r ws) (no : us[j]? = none ∨ ws[k]? = none)
    (fin : ∀ h', (∀ b o, b ≠ z → b ≠ c → b ≠ d → s.heap.get? b = some o → h'.get? b = some o) → Q none { s with heap := h' }) :
    wpAny (model prog w) A (pyNext (.ref z)) Q E s := by
  have ty : s.TypeIs (.ref z) "zip" := ⟨_, kz, rfl⟩
  have last : ∀ h' e, (∀ b o, b ≠ z → b ≠ c → b ≠ d → s.heap.get? b = some o → h'.get? b = some o) → (∃ o, h'.get? e = some o ∧ o.cls = .type "StopIteration") → wpAny (model prog w) A (isInstance (.ref e) (.type "StopIteration") >>= fun b => if b = true then pure none else throw (.ref e)) Q E { s with heap := h' } := fun h' e k1 ⟨o, k2, k3⟩ =>
    wpAny_bind (wpAny_isInstance (T := "StopIteration") (b := true) ⟨o, k2, k3⟩ isSubtype_stop (wpAny_pure (fin _ k1)))
  unfold pyNext
  refine wpAny_bind (wpAny_attempt (wpAny_callSpecial?_slot (name := Str.ofString "__next__") ty F.slot_zip_next (wpAny_call_entry F.slot_zip_next ty F.entry_zip_next ?_ (F.args_zip_next_1 _))))
  show wpAny _ _ (field (.ref z) 2 >>= _) _ _ s
  refine wpAny_bind (wpAny_field kz rfl (x := .bool false) rfl ?_)
  show wpAny _ _ (field (.ref z) 3 >>= _) _ _ s
  refine wpAny_bind (wpAny_field kz rfl (x := .ref p) rfl (wpAny_bind (wpAny_seqItems kp rfl ?_)))
  show wpAny _ _ (Builtin.SmallTypes.ownedTupleIsFree (.ref z) >>= _) _ _ s
  refine wpAny_bind (wpAny_tupleHeld_zip kz kT fun g1 z1 b1 => ?_)
  simp only [Bool.false_eq_true, if_false]
  refine wpAny_bind ?_
  rw [← Array.forIn_toList]
  simp only [List.forIn_cons, List.forIn_nil]
  refine wpAny_bind (wpAny_bind (wpAny_holding ?_))
  show wpAny _ _ (Builtin.SmallTypes.nextOf (.ref c) >>= _) _ _ _
  cases hu : us[j]? with
  | none => exact wpAny_bind (RZ.nextOf_tuple_end (s := { s with heap := g1 }) hh (kc.extBut b1.extBut ap.i1z) (kl.extBut b1.extBut ap.l1z) hu fun g2 e b2 he => last g2 e (fun b o n1 n2 _ y => b2 _ _ n2 (b1.extBut _ _ n1 y)) he)
  | some u =>
    have hv : ws[k]? = none := no.elim (fun y => by rw [hu] at y; cases y) id
    refine wpAny_bind (RZ.nextOf_tuple_item (s := { s with heap := g1 }) (kc.extBut b1.extBut ap.i1z) (kl.extBut b1.extBut ap.l1z) hu fun g2 c2 b2 => wpAny_pure (wpAny_pure ?_))
    refine wpAny_bind (wpAny_bind (wpAny_holding ?_))
    show wpAny _ _ (Builtin.SmallTypes.nextOf (.ref d) >>= _) _ _ _
    exact wpAny_bind (RZ.nextOf_tuple_end (s := { s with heap := g2 }) hh ((kd.extBut b1.extBut ap.i2z).extBut b2.extBut ap.i12.symm) ((kr.extBut b1.extBut ap.l2z).extBut b2.extBut ap.l2i1) hv fun g3 e b3 he => last g3 e (fun b o n1 n2 n3 y => b3 _ _ n3 (b2.extBut _ _ n2 (b1.extBut _ _ n1 y))) he)
/-- the zip over the tuples at l, r: the next pair is the i-th -/
structure Zs (z p q c d l r S : Addr) (us ws : Array Value) (i : Nat) (h : Heap) : Prop where
  kp : IsPair h p (.ref c) (.ref d)
  kc : h.IsTupleIter c l i
  kd : h.IsTupleIter d r i
  kl : h.IsTuple l us
  kr : h.IsTuple r ws
  out : (IsZip h z p q .none ∧ ∃ x y, IsPair h q x y) ∨ ∃ T f oT, IsZipHeld h z p q T f ∧ h.get? T = some oT ∧ T ≠ z ∧ T ≠ c ∧ T ≠ d ∧ T ≠ S
theorem Zs.stay {z p q c d l r S : Addr} {us ws : Array Value} {i : Nat} {h h' : Heap} (k : Zs z p q c d l r S us ws i h) (n : z ≠ S ∧ p ≠ S ∧ q ≠ S ∧ c ≠ S ∧ d ≠ S ∧ l ≠ S ∧ r ≠ S) (e : ∀ b o, b ≠ S → h.get? b = some o → h'.get? b = some o) : Zs z p q c d l r S us ws i h' := by
  obtain ⟨n1, n2, n3, n4, n5, n6, n7⟩ := n
  obtain ⟨x1, x2, x3, ⟨ol, el, yl⟩, ⟨or', er, yr⟩, x6⟩ := k
  refine ⟨e _ _ n2 x1, x2.at fun o => e _ o n4, x3.at fun o => e _ o n5, ⟨ol, e _ _ n6 el, yl⟩, ⟨or', e _ _ n7 er, yr⟩, ?_⟩
  rcases x6 with ⟨y1, x, y, y2⟩ | ⟨T, f, oT, y1, y2, y3, y4, y5, y6⟩
  · exact .inl ⟨e _ _ n1 y1, x, y, e _ _ n3 y2⟩
  · exact .inr ⟨T, f, oT, e _ _ n1 y1, e _ _ y6 y2, y3, y4, y5, y6⟩
theorem Zs.step {E : Value → Shared → Prop} {z p q c d l r S : Addr} {us ws : Array Value} {i : Nat} {Q : Option Value → Shared → Prop} (ap : ZipApart z p q c d l r) (k : Zs z p q c d l r S us ws i s.heap) (kS : S < s.heap.objs.size) (hz : z < s.heap.objs.size) {u v : Value} (hu : us[i]? = some u) (hv : ws[i]? = some v)
    (fin : ∀ h', Zs z p q c d l r S us ws (i + 1) h' → IsPair h' s.heap.objs.size u v → h'.objs.size = s.heap.objs.size + 1 → (∀ b o, b ≠ z → b ≠ q → b ≠ c → b ≠ d → s.heap.get? b = some o → h'.get? b = some o) → Q (some (.ref s.heap.objs.size)) { s with heap := h' }) :
    wpAny (model prog w) A (pyNext (.ref z)) Q E s := by
  obtain ⟨x1, x2, x3, x4, x5, x6⟩ := k
  obtain ⟨_, ec, _⟩ := id x2
  obtain ⟨_, ed, _⟩ := id x3
  obtain ⟨ol, el, yl⟩ := id x4
  obtain ⟨or', er, yr⟩ := id x5
  have lc := Heap.lt_size ec
  have ld := Heap.lt_size ed
  rcases x6 with ⟨y1, x, y, y2⟩ | ⟨T, f, oT, y1, y2, y3, y4, y5, y6⟩
  · refine RZ.pyNext_zipT_item ap y1 x1 y2 x2 x3 x4 x5 hu hv fun h' a1 a2 a3 a4 a5 a6 a7 => fin h' ⟨a7 _ _ ap.TIz ap.TITO ap.TIi1 ap.TIi2 x1, a3, a4, ⟨ol, a7 _ _ ap.l1z ap.l1TO ap.l1i1 ap.l1i2 el, yl⟩, ⟨or', a7 _ _ ap.l2z ap.l2TO ap.l2i1 ap.l2i2 er, yr⟩, .inr ⟨_, false, _, a1, a5, ?_, ?_, ?_, ?_⟩⟩ a5 a6 a7
    · exact Nat.ne_of_gt hz
    · exact Nat.ne_of_gt lc
    · exact Nat.ne_of_gt ld
    · exact Nat.ne_of_gt kS
  · exact zh_item ap y1 y2 x1 x2 x3 x4 x5 hu hv fun h' a1 a3 a4 a5 a6 a7 => fin h' ⟨a7 _ _ ap.TIz ap.TIi1 ap.TIi2 x1, a3, a4, ⟨ol, a7 _ _ ap.l1z ap.l1i1 ap.l1i2 el, yl⟩, ⟨or', a7 _ _ ap.l2z ap.l2i1 ap.l2i2 er, yr⟩, .inr ⟨T, true, oT, a1, a7 _ _ y3 y4 y5 y2, y3, y4, y5, y6⟩⟩ a5 a6 fun b o n1 _ n3 n4 e => a7 b o n1 n3 n4 e
theorem Zs.halt {E : Value → Shared → Prop} {z p q c d l r S : Addr} {us ws : Array Value} {i : Nat} {Q : Option Value → Shared → Prop} (hh : A.handled = none) (ap : ZipApart z p q c d l r) (k : Zs z p q c d l r S us ws i s.heap) (no : us[i]? = none ∨ ws[i]? = none)
    (fin : ∀ h', (∀ b o, b ≠ z → b ≠ q → b ≠ c → b ≠ d → s.heap.get? b = some o → h'.get? b = some o) → Q none { s with heap := h' }) :
    wpAny (model prog w) A (pyNext (.ref z)) Q E s := by
  obtain ⟨x1, x2, x3, x4, x5, x6⟩ := k
  rcases x6 with ⟨y1, x, y, y2⟩ | ⟨T, f, oT, y1, y2, y3, y4, y5, y6⟩
  · exact RZ.pyNext_zipT_end hh ap y1 x1 y2 x2 x3 x4 x5 no fin
  · exact zh_end hh ap y1 y2 x1 x2 x3 x4 x5 no fun h' k => fin h' fun b o n1 _ n3 n4 e => k b o n1 n3 n4 e
/-- what was gathered: the pairs' addresses -/
structure Zg (us ws : Array Value) (S : Addr) (h : Heap) (ts : List Addr) : Prop where
  rise : ts.Pairwise (· < ·)
  room : ∀ t ∈ ts, S < t ∧ t < h.objs.size
  pair : ∀ (j : Nat) (t : Addr), ts[j]? = some t → ∃ u v, us[j]? = some u ∧ ws[j]? = some v ∧ IsPair h t u v
theorem zl_loop {R : Result → Shared → Prop} {z p q c d l r S : Addr} {us ws : Array Value} (hh : A.handled = none) (ap : ZipApart z p q c d l r) (ns : z < S ∧ p < S ∧ q < S ∧ c < S ∧ d < S ∧ l < S ∧ r < S) (fit : us.size ≤ sizeLine) (res : Value) {h0 : Heap}
    (old : ∀ b o, h0.get? b = some o → b < z ∧ b ≠ z ∧ b ≠ q ∧ b ≠ c ∧ b ≠ d)
    (fin : ∀ h' tk acc k ts, (∀ b o, h0.get? b = some o → h'.get? b = some o) → h'.get? S = some { cls := .type "list", dict := none, data := .seq acc k, slots := #[] } → ts.length = min us.size ws.size → Zg us ws S h' ts → acc.toList = ts.map Value.ref → R (.ok (.ret res)) { s with heap := h', toks := tk }) :
    ∀ (m i : Nat) (h : Heap) (tk k : Nat) (acc : Array Value) (ts : List Addr), min us.size ws.size - i = m → i ≤ min us.size ws.size → Zs z p q c d l r S us ws i h → (∀ b o, h0.get? b = some o → h.get? b = some o) → h.get? S = some { cls := .type "list", dict := none, data := .seq acc k, slots := #[] } → acc.toList = ts.map Value.ref → ts.length = i → Zg us ws S h ts →
      codeAny (model prog w) A (.builtin "list.extend.loop" ⟨[.ref S, .ref z, res], []⟩) R { s with heap := h, toks := tk } := by
  intro m
  induction m with
  | zero =>
    intro i h tk k acc ts hm hi st kb kS ka kt g
    have ei : i = min us.size ws.size := by omega
    refine codeAny_builtin PySem.F.entry_extend_loop ?_
    rw [Around.under_plainId PySem.F.plain_extend_loop _]
    show wpAny _ A.in1 (pyNext (.ref z) >>= _) _ _ _
    refine wpAny_bind (Zs.halt (s := { s with heap := h, toks := tk }) (A := A.in1) hh ap st ?_ fun h' kk => wpAny_pure (fin h' tk acc k ts (fun b o e => ?_) ?_ (by omega) ⟨g.rise, fun t ht => ?_, fun j t hj => ?_⟩ ka))
    · by_cases y : us.size ≤ i
      · exact .inl (by simp; omega)
      · exact .inr (by simp; omega)
    · obtain ⟨_, n1, n2, n3, n4⟩ := old b o e
      exact kk b o n1 n2 n3 n4 (kb b o e)
    · exact kk S _ (Nat.ne_of_gt ns.1) (Nat.ne_of_gt ns.2.2.1) (Nat.ne_of_gt ns.2.2.2.1) (Nat.ne_of_gt ns.2.2.2.2.1) kS
    · obtain ⟨r1, _⟩ := g.room t ht
      obtain ⟨j, hj⟩ := List.mem_iff_getElem?.mp ht
      obtain ⟨_, _, _, _, pp⟩ := g.pair j t hj
      exact ⟨r1, Heap.lt_size (kk t _ (Nat.ne_of_gt (Nat.lt_trans ns.1 r1)) (Nat.ne_of_gt (Nat.lt_trans ns.2.2.1 r1)) (Nat.ne_of_gt (Nat.lt_trans ns.2.2.2.1 r1)) (Nat.ne_of_gt (Nat.lt_trans ns.2.2.2.2.1 r1)) pp)⟩
    · obtain ⟨u, v, e1, e2, pp⟩ := g.pair j t hj
      obtain ⟨r1, _⟩ := g.room t (List.mem_of_getElem? hj)
      exact ⟨u, v, e1, e2, kk t _ (Nat.ne_of_gt (Nat.lt_trans ns.1 r1)) (Nat.ne_of_gt (Nat.lt_trans ns.2.2.1 r1)) (Nat.ne_of_gt (Nat.lt_trans ns.2.2.2.1 r1)) (Nat.ne_of_gt (Nat.lt_trans ns.2.2.2.2.1 r1)) pp⟩
  | succ m ih =>
    intro i h tk k acc ts hm hi st kb kS ka kt g
    have il : i < min us.size ws.size := by omega
    have i1 : i < us.size := by omega
    have i2 : i < ws.size := by omega
    have as : acc.size = i := by rw [← Array.length_toList, ka, List.length_map, kt]
    have Sl : S < h.objs.size := Heap.lt_size kS
    refine codeAny_builtin PySem.F.entry_extend_loop ?_
    rw [Around.under_plainId PySem.F.plain_extend_loop _]
    show wpAny _ A.in1 (pyNext (.ref z) >>= _) _ _ _
    refine wpAny_bind (Zs.step (s := { s with heap := h, toks := tk }) (A := A.in1) (u := us[i]) (v := ws[i]) ap st Sl (Nat.lt_trans ns.1 Sl) (by simp [i1]) (by simp [i2]) fun h' st' np sz kk => ?_)
    dsimp only at np sz kk ⊢
    have kS' := kk S _ (Nat.ne_of_gt ns.1) (Nat.ne_of_gt ns.2.2.1) (Nat.ne_of_gt ns.2.2.2.1) (Nat.ne_of_gt ns.2.2.2.2.1) kS
    have up : ∀ b o, b ≠ S → h'.get? b = some o → (h'.update S (Obj.mapSeq (·.push (Value.ref h.objs.size)))).get? b = some o := fun b o hb e => (Heap.get?_update_other _ _ (Ne.symm hb)).trans e
    show wpAny _ A.in1 (updateSeq S (·.push (Value.ref h.objs.size)) >>= _) _ _ _
    refine wpAny_bind (wpAny_updateSeq kS' rfl (wpAny_pure ⟨plainId_quiet PySem.F.plain_extend_loop _, ih (i + 1) _ tk _ (acc.push (Value.ref h.objs.size)) (ts ++ [h.objs.size]) (by omega) il
      (st'.stay ⟨Nat.ne_of_lt ns.1, Nat.ne_of_lt ns.2.1, Nat.ne_of_lt ns.2.2.1, Nat.ne_of_lt ns.2.2.2.1, Nat.ne_of_lt ns.2.2.2.2.1, Nat.ne_of_lt ns.2.2.2.2.2.1, Nat.ne_of_lt ns.2.2.2.2.2.2⟩ up) (fun b o e => ?_) (Heap.get?_update_self _ kS' rfl)
      (by rw [Array.toList_push, ka, List.map_append]; rfl) (by rw [List.length_append, kt]; rfl) ⟨?_, fun t ht => ?_, fun j t hj => ?_⟩⟩) (by rw [as]; omega) (by show (acc.push _).size ≤ sizeLine + 1; rw [Array.size_push, as]; omega))
    · obtain ⟨n0, n1, n2, n3, n4⟩ := old b o e
      exact up b o (Nat.ne_of_lt (Nat.lt_trans n0 ns.1)) (kk b o n1 n2 n3 n4 (kb b o e))
    · exact List.pairwise_append.mpr ⟨g.rise, List.pairwise_singleton _ _, fun a ha b hb => by rw [List.mem_singleton.mp hb]; exact (g.room a ha).2⟩
    · have en : (h'.update S (Obj.mapSeq (·.push (Value.ref h.objs.size)))).objs.size = h'.objs.size := by simp [Heap.update]
      rw [en, sz]
      rcases List.mem_append.mp ht with ht | ht
      · exact ⟨(g.room t ht).1, Nat.lt_succ_of_lt (g.room t ht).2⟩
      · rw [List.mem_singleton.mp ht]; exact ⟨Sl, Nat.lt_succ_self _⟩
    · rcases Nat.lt_trichotomy j ts.length with y | y | y
      · rw [List.getElem?_append_left y] at hj
        obtain ⟨u, v, e1, e2, pp⟩ := g.pair j t hj
        obtain ⟨r1, _⟩ := g.room t (List.mem_of_getElem? hj)
        exact ⟨u, v, e1, e2, up t _ (Nat.ne_of_gt r1) (kk t _ (Nat.ne_of_gt (Nat.lt_trans ns.1 r1)) (Nat.ne_of_gt (Nat.lt_trans ns.2.2.1 r1)) (Nat.ne_of_gt (Nat.lt_trans ns.2.2.2.1 r1)) (Nat.ne_of_gt (Nat.lt_trans ns.2.2.2.2.1 r1)) pp)⟩
      · subst y
        have et : h.objs.size = t := by simpa using hj
        subst et
        exact ⟨us[i], ws[i], by rw [kt]; simp [i1], by rw [kt]; simp [i2], up _ _ (Nat.ne_of_gt Sl) np⟩
      · rw [List.getElem?_eq_none (by rw [List.length_append, List.length_singleton]; omega)] at hj; cases hj
end
theorem zip_len0 : typeLookup (.type "zip") "__len__" = pure none := am_miss_of_fast (by decide +kernel)
theorem zip_hint0 : typeLookup (.type "zip") "__length_hint__" = pure none := am_miss_of_fast (by decide +kernel)
section
variable {prog : Program} {w : World} {A : Around} {E : Value → Shared → Prop} {s : Shared}
/-- list(zip(x, y)), x and y tuples -/
theorem zl_call {l r : Addr} {us ws : Array Value} {Q : Value → Shared → Prop} (hh : A.handled = none) (kl : s.heap.IsTuple l us) (kr : s.heap.IsTuple r ws) (fit : us.size ≤ sizeLine)
    (fin : ∀ h' tk acc k ts p, s.heap.objs.size ≤ p → (∀ b o, s.heap.get? b = some o → h'.get? b = some o) → h'.get? p = some { cls := .type "list", dict := none, data := .seq acc k, slots := #[] } → ts.length = min us.size ws.size → Zg us ws p h' ts → acc.toList = ts.map Value.ref → Q (.ref p) { s with heap := h', toks := tk }) :
    wpAny (model prog w) A (call (.type "zip") [.ref l, .ref r]) (fun z s' => wpAny (model prog w) A (call (.type "list") [z]) Q E s') E s := by
  obtain ⟨ol, el, yl⟩ := id kl
  obtain ⟨or', er, yr⟩ := id kr
  have ll := Heap.lt_size el
  have lr := Heap.lt_size er
  refine RZ.call_zipT kl kr fun h1 kz kp kq kc kd sz kk => ?_
  have ap := PySem.W.ktu_apart s.heap.objs.size l r ll lr
  refine callType_codes (Q₁ := fun obj s2 => obj = .ref h1.objs.size ∧ s2 = { s with heap := h1.push { cls := .type "list", data := .seq #[] } }) PySem.F.called_list (PySem.F.typeCall_list_1 _) PySem.F.entry_list_init (code_list_new _ ⟨rfl, rfl⟩) fun obj s2 y => ?_
  obtain ⟨rfl, rfl⟩ := y
  have kS : (h1.push { cls := .type "list", data := .seq #[] }).get? h1.objs.size = some { cls := .type "list", data := .seq #[] } := Heap.get?_push_size _ rfl
  refine ⟨⟨_, kS, rfl⟩, PySem.F.args_list_init_2 _ _, ?_⟩
  have ns : s.heap.objs.size + 4 < h1.objs.size ∧ s.heap.objs.size + 2 < h1.objs.size ∧ s.heap.objs.size + 3 < h1.objs.size ∧ s.heap.objs.size < h1.objs.size ∧ s.heap.objs.size + 1 < h1.objs.size ∧ l < h1.objs.size ∧ r < h1.objs.size := by
    rw [sz]
    refine ⟨Nat.lt_succ_self _, Nat.add_lt_add_left (by decide) _, Nat.add_lt_add_left (by decide) _, Nat.lt_add_of_pos_right (by decide), Nat.add_lt_add_left (by decide) _, Nat.lt_of_lt_of_le ll (Nat.le_add_right _ _), Nat.lt_of_lt_of_le lr (Nat.le_add_right _ _)⟩
  have zs0 : Zs (s.heap.objs.size + 4) (s.heap.objs.size + 2) (s.heap.objs.size + 3) s.heap.objs.size (s.heap.objs.size + 1) l r h1.objs.size us ws 0 h1 := ⟨kp, kc, kd, ⟨ol, kk _ _ el, yl⟩, ⟨or', kk _ _ er, yr⟩, .inl ⟨kz, _, _, kq⟩⟩
  have nS : s.heap.objs.size + 4 ≠ h1.objs.size ∧ s.heap.objs.size + 2 ≠ h1.objs.size ∧ s.heap.objs.size + 3 ≠ h1.objs.size ∧ s.heap.objs.size ≠ h1.objs.size ∧ s.heap.objs.size + 1 ≠ h1.objs.size ∧ l ≠ h1.objs.size ∧ r ≠ h1.objs.size :=
    ⟨Nat.ne_of_lt ns.1, Nat.ne_of_lt ns.2.1, Nat.ne_of_lt ns.2.2.1, Nat.ne_of_lt ns.2.2.2.1, Nat.ne_of_lt ns.2.2.2.2.1, Nat.ne_of_lt ns.2.2.2.2.2.1, Nat.ne_of_lt ns.2.2.2.2.2.2⟩
  -- the loop, from any heap that is h1 but for the list
  have key : ∀ (g : Heap) (k tk : Nat) (R : Result → Shared → Prop), (∀ b o, b ≠ h1.objs.size → h1.get? b = some o → g.get? b = some o) → g.get? h1.objs.size = some { cls := .type "list", data := .seq #[] k } →
      (∀ h' tk acc k ts, (∀ b o, s.heap.get? b = some o → h'.get? b = some o) → h'.get? h1.objs.size = some { cls := .type "list", dict := none, data := .seq acc k, slots := #[] } → ts.length = min us.size ws.size → Zg us ws h1.objs.size h' ts → acc.toList = ts.map Value.ref → R (.ok (.ret .none)) { s with heap := h', toks := tk }) →
      codeAny (model prog w) A.in1 (.builtin "list.extend.loop" ⟨[.ref h1.objs.size, .ref (s.heap.objs.size + 4), .none], []⟩) R { s with heap := g, toks := tk } := fun g k tk R kg kS2 fr => by
    refine zl_loop (s := s) (h0 := s.heap) (A := A.in1) hh ap ns fit .none (fun b o e => ?_) fr _ 0 g tk k #[] [] rfl (Nat.zero_le _) (zs0.stay nS kg) (fun b o e => kg b o (Nat.ne_of_lt (Nat.lt_of_lt_of_le (Heap.lt_size e) (by rw [sz]; exact Nat.le_add_right _ _))) (kk b o e)) kS2 rfl rfl ⟨List.Pairwise.nil, fun t ht => by simp at ht, fun j t hj => by simp at hj⟩
    have lb := Heap.lt_size e
    exact ⟨Nat.lt_of_lt_of_le lb (Nat.le_add_right _ _), Nat.ne_of_lt (Nat.lt_of_lt_of_le lb (Nat.le_add_right _ _)), Nat.ne_of_lt (Nat.lt_of_lt_of_le lb (Nat.le_add_right _ _)), Nat.ne_of_lt lb, Nat.ne_of_lt (Nat.lt_of_lt_of_le lb (Nat.le_add_right _ _))⟩
  show wpAny _ _ (do let old ← Builtin.List.listItems (.ref h1.objs.size); Builtin.List.listUpdate (.ref h1.objs.size) (fun _ => #[]); letGo old.toList.reverse; Builtin.List.listExtendWith (.ref h1.objs.size) (.ref (s.heap.objs.size + 4)) .none) _ _ _
  refine wpAny_bind ?_
  unfold Builtin.List.listItems
  refine wpAny_bind (wpAny_seqItems kS rfl (wpAny_pure ?_))
  show wpAny _ _ (updateSeq h1.objs.size (fun _ => #[]) >>= fun _ => letGo (#[] : Array Value).toList.reverse >>= fun _ => Builtin.List.listExtendWith (.ref h1.objs.size) (.ref (s.heap.objs.size + 4)) .none) _ _ _
  refine wpAny_bind (wpAny_updateSeq kS rfl (wpAny_bind (wpAny_letGo ?_)))
  have kS1 := Heap.get?_update_self (Obj.mapSeq (fun _ => (#[] : Array Value))) kS rfl
  have ot1 : ∀ b o, b ≠ h1.objs.size → h1.get? b = some o → ((h1.push { cls := .type "list", data := .seq #[] }).update h1.objs.size (Obj.mapSeq (fun _ => (#[] : Array Value)))).get? b = some o :=
    fun b o hb e => (Heap.get?_update_other _ _ (Ne.symm hb)).trans (Heap.get?_push_of_some _ e)
  have kz1 := ot1 _ _ nS.1 kz
  unfold Builtin.List.listExtendWith
  refine wpAny_bind (wpAny_typeOf (T := "zip") ⟨_, kz1, rfl⟩ ?_)
  have t1 : Builtin.List.listSameRef (.ref h1.objs.size) (.ref (s.heap.objs.size + 4)) = false := by simp [Builtin.List.listSameRef, Ne.symm nS.1]
  have t2 : (Value.type "zip" == Value.type "list") = false := by decide
  have t3 : (Value.type "zip" == Value.type "tuple") = false := by decide
  simp only [t1, t2, t3, Bool.or_false, Bool.false_eq_true, if_false]
  refine wpAny_bind (wpAny_pyIter_zip kz1 (wpAny_bind (wpAny_holding ?_)))
  unfold Builtin.List.listLengthHint
  refine wpAny_bind (wpAny_specialOf ⟨_, kz1, rfl⟩ zip_len0 ?_)
  show wpAny _ _ (specialOf (Value.ref (s.heap.objs.size + 4)) (Str.ofString "__length_hint__") >>= _) _ _ _
  refine wpAny_bind (wpAny_specialOf ⟨_, kz1, rfl⟩ zip_hint0 (wpAny_pure ?_))
  show wpAny _ _ (rule "list.extend.makes-room" >>= fun _ => Builtin.List.listTouch (.ref h1.objs.size) >>= fun _ => again (.builtin "list.extend.loop" ⟨[.ref h1.objs.size, .ref (s.heap.objs.size + 4), .none], []⟩)) _ _ _
  refine wpAny_bind (wpAny_rule (wpAny_bind ?_))
  show wpAny _ _ (updateSeq h1.objs.size (·.push .none) >>= fun _ => updateSeq h1.objs.size (·.pop)) _ _ _
  refine wpAny_bind (wpAny_updateSeq kS1 rfl ?_)
  have kS2 := Heap.get?_update_self (Obj.mapSeq (·.push Value.none)) kS1 rfl
  refine wpAny_updateSeq (hz := by seq_fits) kS2 rfl ?_
  have kS3 := Heap.get?_update_self (Obj.mapSeq (·.pop)) kS2 rfl
  refine wpAny_pure ⟨plainId_quiet PySem.F.plain_extend_loop _, key _ _ _ _ (fun b o hb e => ?_) kS3 fun h' tk acc k ts a1 a2 a3 a4 a5 => ⟨rfl, fin h' tk acc k ts _ (by rw [sz]; exact Nat.le_add_right _ _) a1 a2 a3 a4 a5⟩⟩
  exact (Heap.get?_update_other _ _ (Ne.symm hb)).trans ((Heap.get?_update_other _ _ (Ne.symm hb)).trans (ot1 b o hb e))
end
/-! ### the pairs as tracked things -/
def putP : Hp → List Addr → List (V × V) → Hp
  | H, t :: ts, p :: ps => putP (upd H t (.tup [p.1, p.2])) ts ps
  | H, _, _ => H
theorem putP_off {b : Addr} : ∀ (ts : List Addr) (ps : List (V × V)) (H : Hp), b ∉ ts → putP H ts ps b = H b
  | [], _, _, _ => rfl
  | _ :: _, [], _, _ => rfl
  | t :: ts, p :: ps, H, n => (putP_off ts ps _ fun y => n (List.mem_cons_of_mem _ y)).trans (upd_ne fun y => n (by rw [y]; exact List.mem_cons_self))
theorem putP_at : ∀ (ts : List Addr) (ps : List (V × V)) (H : Hp), ts.Nodup → ∀ (j : Nat) (t : Addr) (p : V × V), ts[j]? = some t → ps[j]? = some p → putP H ts ps t = some (.tup [p.1, p.2])
  | [], _, _, _, j, _, _, h, _ => by simp at h
  | _ :: _, [], _, _, j, _, _, _, h => by simp at h
  | a :: ts, q :: ps, H, nd, 0, t, p, h1, h2 => by
    cases h1; cases h2
    exact (putP_off ts ps _ (List.nodup_cons.mp nd).1).trans upd_same
  | a :: ts, q :: ps, H, nd, j + 1, t, p, h1, h2 => putP_at ts ps _ (List.nodup_cons.mp nd).2 j t p (by simpa using h1) (by simpa using h2)
section
variable {X : Cx}
theorem zl_laid {pins : List (Addr × Obj)} {σ : St} {H : Hp} {s : Shared} {h' : Heap} {tk k : Nat} {xs ys : List V} {us ws : List Value} {acc : Array Value} {ts : List Addr} {p : Addr} (I : Inv X pins σ H s) (fit : xs.length ≤ sizeLine) (rx : Vals xs us) (ry : Vals ys ws)
    (hp : s.heap.objs.size ≤ p) (kk : ∀ b o, s.heap.get? b = some o → h'.get? b = some o) (kS : h'.get? p = some { cls := .type "list", dict := none, data := .seq acc k, slots := #[] }) (lt : ts.length = min us.length ws.length) (G : Zg us.toArray ws.toArray p h' ts) (ka : acc.toList = ts.map Value.ref) :
    Inv X pins σ (putP (upd H p (.lst (ts.map V.ref))) ts (xs.zip ys)) { s with heap := h', toks := tk } ∧ ts.Nodup ∧ p ∉ ts ∧ (∀ t ∈ ts, H t = none) ∧ H p = none ∧ ts.length = (xs.zip ys).length := by
  have lx := rx.length
  have ly := ry.length
  have pn : p ∉ ts := fun y => Nat.lt_irrefl _ (G.room p y).1
  have nd : ts.Nodup := List.Pairwise.imp (fun {a b} (y : a < b) => Nat.ne_of_lt y) G.rise
  have new : ∀ t ∈ ts, H t = none := fun t y => I.hok.fresh (Nat.le_trans hp (Nat.le_of_lt (G.room t y).1))
  have newp : H p = none := I.hok.fresh hp
  have lz : ts.length = (xs.zip ys).length := by rw [List.length_zip, lt, lx, ly]
  refine ⟨?_, nd, pn, new, newp, lz⟩
  have off : ∀ b, b ∉ ts → b ≠ p → putP (upd H p (.lst (ts.map V.ref))) ts (xs.zip ys) b = H b := fun b n1 n2 => (putP_off ts _ _ n1).trans (upd_ne n2)
  have kp : ∀ b u, H b = some u → putP (upd H p (.lst (ts.map V.ref))) ts (xs.zip ys) b = some u := fun b u e => by
    rw [off b (fun y => by rw [new b y] at e; cases e) (fun y => by rw [y, newp] at e; cases e)]; exact e
  have eS : putP (upd H p (.lst (ts.map V.ref))) ts (xs.zip ys) p = some (.lst (ts.map V.ref)) := (putP_off ts _ _ pn).trans upd_same
  refine I.call' (ch := []) rfl ⟨fun b o e _ _ _ => kk b o e, fun b o e _ _ _ => ⟨o.slots, kk b o e⟩, fun b o e n _ => ?_, fun b o e _ => ⟨o, kk b o e⟩, fun b _ e => kp b _ e, fun b _ _ e => kp b _ e, fun b _ e => ⟨#[], by rw [kp b _ e]; simp⟩⟩ (fun b u e => ?_) I.bare fun b y => by simp at y
  · have lb := Heap.lt_size e
    rw [off b (fun y => Nat.lt_irrefl _ (Nat.lt_of_lt_of_le lb (Nat.le_trans hp (Nat.le_of_lt (G.room b y).1)))) (fun y => Nat.lt_irrefl _ (Nat.lt_of_lt_of_le lb (y ▸ hp)))]
    exact n
  · by_cases hb : b ∈ ts
    · obtain ⟨j, hj⟩ := List.mem_iff_getElem?.mp hb
      have jl := (List.getElem?_eq_some_iff.mp hj).1
      have jz : j < (xs.zip ys).length := by rw [← lz]; exact jl
      have ej : (xs.zip ys)[j]? = some (xs.zip ys)[j] := List.getElem?_eq_getElem jz
      rw [putP_at ts _ _ nd j b _ hj ej] at e
      cases e
      obtain ⟨u, v, e1, e2, pp⟩ := G.pair j b hj
      have j1 : j < xs.length := by rw [List.length_zip] at jz; omega
      have j2 : j < ys.length := by rw [List.length_zip] at jz; omega
      obtain ⟨u', f1, g1⟩ := rx.get (show xs[j]? = some xs[j] by simp [j1])
      obtain ⟨v', f2, g2⟩ := ry.get (show ys[j]? = some ys[j] by simp [j2])
      have e1' : us[j]? = some u := by simpa using e1
      have e2' : ws[j]? = some v := by simpa using e2
      rw [f1] at e1'
      rw [f2] at e2'
      cases e1'; cases e2'
      have ez : (xs.zip ys)[j] = (xs[j], ys[j]) := by simp
      rw [ez]
      exact ⟨by show 2 ≤ sizeLine; decide, [u, v], .cons g1 (.cons g2 .nil), ⟨_, pp, rfl, _, rfl⟩⟩
    · by_cases hb2 : b = p
      · rw [hb2] at e ⊢
        rw [eS] at e
        cases e
        refine ⟨by rw [List.length_map]; omega, acc.toList, k, by rw [ka]; exact LiI.vals_refs ts, ?_⟩
        rw [Array.toArray_toList]
        exact kS
      · rw [off b hb hb2] at e
        exact (I.hok b u e).stay (fun d v _ y => kk d v y) (fun d y => kp d _ y) fun d _ y => kp d _ y
/-- list(zip(x, y)) -/
def rZipL (K : PySem.W.Frag) : List V → Hp → VK → Prop := fun vs H Q => ∃ a b xs ys, vs = [.ref a, .ref b] ∧ SqT K H a xs ∧ SqT K H b ys ∧ xs.length ≤ sizeLine ∧
  ∀ (p : Addr) (ts : List Addr), ts.Nodup → p ∉ ts → (∀ t ∈ ts, H t = none) → H p = none → ts.length = (xs.zip ys).length → Q (.ref p) (putP (upd H p (.lst (ts.map V.ref))) ts (xs.zip ys))
theorem pe_listZip {e e2 : Expr} {ta : TA} {p1 p2 pos1 pos2 : Pos} (hc : X.calm = true) (hg : Gl X "list") (hm : X.mg "list" = none) (hg2 : Gl X "zip") (hm2 : X.mg "zip" = none) (hv : bootBuiltins "list" = some (.type "list")) (ha : PA X [e, e2] ta)
    (hs : starEach [e, e2] X.env = (false, eval e X.env) :: starEach [e2] X.env := by rfl) (hpl : (backTo pos2 (starEach [e2] X.env)).any (·.1) = false := by rfl)
    (hst : starEach [.Call (.Name "zip" p2) [e, e2] [] pos2] X.env = (false, eval (.Call (.Name "zip" p2) [e, e2] [] pos2) X.env) :: starEach [] X.env := by rfl) :
    PE X (.Call (.Name "list" p1) [.Call (.Name "zip" p2) [e, e2] [] pos2] [] pos1) (fun σ H Q => ta σ H fun vs H1 => rZipL X.K vs H1 Q) := by
  refine ⟨fun pins s σ H Q I hq => ?_⟩
  refine wpAny_Call_Name_kw (ld_blt I hg hm hv ?_)
  refine PyProof.Rows.callWith_type1 ?_ hst rfl
  rw [hst]
  show wpAny _ _ (spliced ((false, eval (.Call (.Name "zip" p2) [e, e2] [] pos2) X.env) :: backTo pos1 (starEach [] X.env))) _ _ s
  refine Calls.spliced_cons ?_
  refine Call_ (ld_blt I hg2 hm2 PyProof.Rows.boot_zip (PyProof.Rows.callWith_type1 (thn (ha.run pos2 pins s σ H _ I hq) fun us s1 ⟨vs, H1, I1, r1, q1⟩ => ?_) hs hpl))
  obtain ⟨a, b, xs, ys, rfl, ka, kb, fit, q⟩ := q1
  obtain ⟨u1, u2, rfl, c1, c2⟩ := vals2 r1
  cases c1
  cases c2
  obtain ⟨i1, v1, t1, _⟩ := I1.tuple ka
  obtain ⟨i2, v2, t2, _⟩ := I1.tuple kb
  have hl1 := v1.length
  refine wpAny_mono (zl_call (us := i1.toArray) (ws := i2.toArray) (E := X.xe) (Q := EP X pins σ Q) (I1.ok.hd hc) t1 t2 (by simp; omega) fun h' tk acc k ts p hp kk kS lt G kc => ?_) (fun z s' y => Calls.spliced_nil y) fun _ _ y => y
  obtain ⟨J, nd, pn, nw, np, lz⟩ := zl_laid (tk := tk) I1 fit v1 v2 hp kk kS (by simpa using lt) G kc
  exact ⟨.ref p, _, J, rfl, q p ts nd pn nw np lz⟩
end
section
variable {X : Cx} {S : Stat} {W : WX}
def pairsD (xs ys : List D) : List D := (xs.zip ys).map fun p => .tup [p.1, p.2]
def sZip : List D → Sto → Res D
  | [.tup xs, .tup ys], g => if xs.length ≤ big then .ok (.lst (pairsD xs ys)) g else .stuck
  | _, _ => .stuck
theorem Rl.zip {m : Mv} {H : Hp} {H' : Hp} : ∀ {xs ys : List D} {us ws : List V} {ts : List Addr}, Rl S m H' xs us → Rl S m H' ys ws → ts.length = (us.zip ws).length → (∀ (j : Nat) (t : Addr) (p : V × V), ts[j]? = some t → (us.zip ws)[j]? = some p → H' t = some (.tup [p.1, p.2])) → Rl S m H' (pairsD xs ys) (ts.map V.ref)
  | _, _, _, _, ts, .nil, _, l, _ => by
    simp at l
    subst l
    exact .nil
  | _, _, _, _, ts, .cons _ _, .nil, l, _ => by
    simp at l
    subst l
    exact .nil
  | _, _, _, _, ts, .cons (v := u) r1 t1, .cons (v := w) r2 t2, l, h => by
    cases ts with
    | nil => simp at l
    | cons t ts =>
      refine .cons (.tup (.inl (.inl (h 0 t (u, w) rfl rfl))) (.cons r1 (.cons r2 .nil))) ?_
      exact Rl.zip (H := H) t1 t2 (by simpa using l) fun j t p e1 e2 => h (j + 1) t p (by simpa using e1) (by simpa using e2)
theorem f_listZip {e e2 : Expr} {fs : En (List D)} {p1 p2 pos1 pos2 : Pos} (hK : S.K = X.K) (hc : X.calm = true) (hg : Gl X "list") (hm : X.mg "list" = none) (hg2 : Gl X "zip") (hm2 : X.mg "zip" = none) (ha : Pas X S W [e, e2] fs)
    (hs : starEach [e, e2] X.env = (false, eval e X.env) :: starEach [e2] X.env := by rfl) (hpl : (backTo pos2 (starEach [e2] X.env)).any (·.1) = false := by rfl)
    (hst : starEach [.Call (.Name "zip" p2) [e, e2] [] pos2] X.env = (false, eval (.Call (.Name "zip" p2) [e, e2] [] pos2) X.env) :: starEach [] X.env := by rfl) :
    Pf X S W (.Call (.Name "list" p1) [.Call (.Name "zip" p2) [e, e2] [] pos2] [] pos1) (eU sZip fs) :=
  PE.to (pe_listZip hc hg hm hg2 hm2 (by decide +kernel) ha hs hpl hst) fun σ H Q q => Tv.one (Ra := RL S) q fun env m g H1 ds vs rel fz ⟨_, ra⟩ p => by
    have ra : Rl S m H1 ds vs := ra
    unfold sZip at p
    split at p
    · rename_i xs ys
      cases ra with
      | cons r1 ra =>
        cases ra with
        | cons r2 ra =>
          cases ra
          obtain ⟨a, us, rfl, k1, l1⟩ := r1.tup_inv
          obtain ⟨b, ws, rfl, k2, l2⟩ := r2.tup_inv
          split at p
          · rename_i c
            refine ⟨a, b, us, ws, rfl, hK ▸ k1, hK ▸ k2, by rw [← l1.length]; exact big_line c, fun q ts nd pn nw np lz => ?_⟩
            have keep : ∀ b o, H1 b = some o → putP (upd H1 q (.lst (ts.map V.ref))) ts (us.zip ws) b = some o := fun b o e => by
              rw [putP_off ts _ _ (fun y => by rw [nw b y] at e; cases e), upd_ne (fun y => by rw [y, np] at e; cases e)]; exact e
            have eq : putP (upd H1 q (.lst (ts.map V.ref))) ts (us.zip ws) q = some (.lst (ts.map V.ref)) := (putP_off ts _ _ pn).trans upd_same
            have gr : Grow m H1 (m.own q) (putP (upd H1 q (.lst (ts.map V.ref))) ts (us.zip ws)) :=
              ⟨fun b o e _ => keep b o e, fun b e => none_of_keep (keep b) e, ⟨[], by simp [Mv.own]⟩, fun _ h => .inl h, fun a ha => List.mem_cons_of_mem _ ha, fun a ha => by
                rcases List.mem_cons.mp ha with rfl | ha
                · exact .inr np
                · exact .inl ha, rfl⟩
            have ok : MOk S (putP (upd H1 q (.lst (ts.map V.ref))) ts (us.zip ws)) g (m.own q) := rel.mem.of_grow gr rfl (fun a _ u e => keep a u e) (fun a h1 h2 => by
              rcases List.mem_cons.mp h1 with rfl | h1
              · rw [eq]; trivial
              · exact absurd h1 h2) fun a h1 h2 => by
              rcases List.mem_cons.mp h1 with rfl | h1
              · exact (rel.mem.free np).2
              · exact absurd h1 h2
            exact p _ _ _ gr ok ⟨q, rfl, List.mem_cons_self, fun y => (rel.mem.free np).1 (rel.mem.muW q y), fz q np, .lst eq (Rl.zip (H := H1) (Rl.grow rel.mem (gr.s rel.mem.muW) l1) (Rl.grow rel.mem (gr.s rel.mem.muW) l2) lz fun j t p e1 e2 => putP_at ts _ _ nd j t p e1 e2)⟩
          · exact p.elim
    · exact p.elim
end
end Ev
namespace Ev
open PySem PySem.Spec PyProof.Rows L2
section
variable {X : Cx} {S : Stat} {W : WX}
/-! ### slices of tuples and texts -/
def sSlT : D → Option Int → Option Int → Sto → Res D
  | .tup xs, lo, hi, g => .ok (.tup (cutL xs lo hi)) g
  | .str z, lo, hi, g => if z.length ≤ big then .ok (.str (cutS z lo hi)) g else .stuck
  | _, _, _, _ => .stuck
theorem SlR.or {r r' : V → Option Int → Option Int → Hp → VK → Prop} (h : SlR X r) (h' : SlR X r') : SlR X (fun x lo hi H Q => r x lo hi H Q ∨ r' x lo hi H Q) := by
  intro pins s σ H x v vl vu lo hi sl Q I rx hs pl pu q
  rcases q with q | q
  · exact h pins s σ H x v vl vu lo hi sl Q I rx hs pl pu q
  · exact h' pins s σ H x v vl vu lo hi sl Q I rx hs pl pu q
theorem e_sl {e : Expr} {f : E1} {lo hi : Option Expr} {fl fh : En (Option Int)} {p2 pos : Pos} (hK : S.K = X.K) (he : Pb X S W e f) (hl : Po X S W lo fl) (hh : Po X S W hi fh) : Pe X S W (.Subscript e (.Slice lo hi none p2) pos) (eSl (fun d l h g => sSlT (dr g d) l h g) f fl fh) :=
  slice_any (Ev.SlR.or sl_tupA sl_str) (fun σ H0 m g H d l h x Q ok fz ra p => by
    cases d with
    | tup xs =>
      obtain ⟨a, vs, rfl, h1, r1⟩ := ra.tup
      refine .inl ⟨a, vs, rfl, hK ▸ h1, fun e => ?_, fun _ q hq => p.newT ok (r1.cut l h) hq⟩
      have e1 : cutL xs l h = xs := cut_whole (by rw [r1.length]; exact e)
      simp only [sSlT] at p
      rw [e1] at p
      exact p.now ok (.tup h1 r1)
    | str z =>
      have ez := ra.str
      subst ez
      simp only [sSlT] at p
      split at p
      · rename_i c; exact .inr ⟨z, rfl, big_line c, p.now ok (.str _)⟩
      · exact p.elim
    | _ => exact p.elim) he hl hh
/-! ### isinstance with a built-in type -/
def kindOf : D → Option String
  | .non => some "NoneType"
  | .bl _ => some "bool"
  | .int _ => some "int"
  | .str _ => some "str"
  | .lst _ => some "list"
  | .frz _ => some "list"
  | .tup _ => some "tuple"
  | _ => none
def tySub (a b : String) : Bool := a == b || (a == "bool" && b == "int")
def isTypes : List String := ["bool", "int", "str", "list", "tuple", "dict"]
theorem kit_all (K : PySem.W.Frag) : ((["NoneType", "bool", "int", "str", "list", "tuple"] : List String).all fun a => isTypes.all fun b => PySem.W.kitOne K (.type a) (.type b) == some (tySub a b)) = true := by rfl
theorem kit_one (K : PySem.W.Frag) {a b : String} (ha : a ∈ (["NoneType", "bool", "int", "str", "list", "tuple"] : List String)) (hb : b ∈ isTypes) : PySem.W.kitOne K (.type a) (.type b) = some (tySub a b) := by
  have h := List.all_eq_true.mp (List.all_eq_true.mp (kit_all K) a ha) b hb
  simpa using h
theorem kind_ty {m : Mv} {H : Hp} {d : D} {v : V} {k : String} (h : kindOf d = some k) (r : Rv S m H d v) : TyX S.K H v (.type k) ∧ k ∈ (["NoneType", "bool", "int", "str", "list", "tuple"] : List String) := by
  cases d with
  | non => cases h; rw [r.non]; exact ⟨.base .non, by decide⟩
  | bl b => cases h; rw [r.bl]; exact ⟨.base (.bl b), by decide⟩
  | int i => cases h; rw [r.int]; exact ⟨.base (.int i), by decide⟩
  | str x => cases h; rw [r.str]; exact ⟨.base (.str x), by decide⟩
  | lst xs =>
    cases h
    obtain ⟨a, vs, rfl, hs, _⟩ := r.lst
    refine ⟨?_, by decide⟩
    rcases hs with (hs | ⟨u, hs⟩) | ⟨o, its, n, e1, e2, _⟩
    · exact .base (.lst hs)
    · exact .base (.frz hs)
    · exact .kList e1 e2
  | frz xs =>
    cases h
    obtain ⟨a, vs, rfl, hs, _⟩ := r.frz
    refine ⟨?_, by decide⟩
    rcases hs with (hs | ⟨u, hs⟩) | ⟨o, its, n, e1, e2, _⟩
    · exact .base (.lst hs)
    · exact .base (.frz hs)
    · exact .kList e1 e2
  | tup xs =>
    cases h
    obtain ⟨a, vs, rfl, hs, _⟩ := r.tup
    refine ⟨?_, by decide⟩
    rcases hs with (hs | ⟨u, hs⟩) | ⟨o, its, n, e1, e2, _⟩
    · exact .base (.tup hs)
    · exact .fTuple hs
    · exact .kTuple e1 e2
  | _ => cases h
def sIsi (T : String) : D → Sto → Res D := fun d g => match kindOf d with
  | some k => .ok (.bl (tySub k T)) g
  | none => .stuck
theorem e_isi {T : String} {x : Str} {e : Expr} {f : E1} {p p2 pos : Pos} (hK : S.K = X.K) (hT : T ∈ isTypes) (hg : Gl X "isinstance") (hm : X.mg "isinstance" = none) (hg2 : Gl X x) (hm2 : X.mg x = none) (hv : bootBuiltins x = some (.type T)) (he : Pb X S W e f)
    (hn : x ≠ "__name__" := by decide) (hdb : (x == ("__debug__" : Str)) = false := by decide) (hst : starEach [e, .Name x p2] X.env = (false, eval e X.env) :: starEach [.Name x p2] X.env := by rfl) :
    Pe X S W (.Call (.Name "isinstance" p) [e, .Name x p2] [] pos) (eU (dr1 (sIsi T)) f) :=
  PE.to (pe_callB call_isi hg hm (by decide +kernel) (pa_cons he (pa_cons (pe_bltn (v := .ty T) hg2 hm2 hv rfl hn hdb) pa_nil) hst) (by decide) (by decide) hst) fun σ H Q q => Tv.one (Ra := RB S) q fun env m g H1 d x rel fz ⟨_, ra⟩ p => by
    have ra : Rb S m H1 d x := ra
    simp only [dr1, sIsi] at p
    cases e : kindOf (dr g d) with
    | none => rw [e] at p; exact p.elim
    | some k =>
      rw [e] at p
      obtain ⟨ty, hk⟩ := kind_ty e (ra.v.dr rel.mem)
      exact ⟨x, .ty T, .type k, .type T, _, rfl, .ty T, hK ▸ ty, kit_one _ hk hT, p.now rel.mem (.bl _)⟩
/-! ### sorted texts -/
def insS (x : Str) : List Str → List Str
  | [] => [x]
  | y :: r => if ltCps y.cps.toList x.cps.toList = true then y :: insS x r else x :: y :: r
def sortS : List Str → List Str
  | [] => []
  | x :: r => insS x (sortS r)
def leS (a b : Str) : Prop := a.cps.toList ≤ b.cps.toList
theorem leS_of {a b : Str} (h : ltCps b.cps.toList a.cps.toList = false) : leS a b := by
  rw [ltCps_eq] at h
  exact of_decide_eq_false h
theorem insS_perm (x : Str) : ∀ l : List Str, (insS x l).Perm (x :: l)
  | [] => .refl _
  | y :: r => by
    unfold insS
    split
    · exact ((insS_perm x r).cons y).trans (.swap x y r)
    · exact .refl _
theorem sortS_perm : ∀ l : List Str, (sortS l).Perm l
  | [] => .refl _
  | x :: r => (insS_perm x (sortS r)).trans ((sortS_perm r).cons x)
theorem insS_sorted (x : Str) : ∀ l : List Str, l.Pairwise leS → (insS x l).Pairwise leS
  | [], _ => List.pairwise_singleton _ _
  | y :: r, h => by
    unfold insS
    have h' := List.pairwise_cons.mp h
    split
    · rename_i c
      refine List.pairwise_cons.mpr ⟨fun z hz => ?_, insS_sorted x r h'.2⟩
      rcases List.mem_cons.mp ((insS_perm x r).mem_iff.mp hz) with rfl | hz
      · rw [ltCps_eq] at c
        exact List.le_of_lt (of_decide_eq_true c)
      · exact h'.1 z hz
    · rename_i c
      have hxy : leS x y := leS_of (by simpa using c)
      refine List.pairwise_cons.mpr ⟨fun z hz => ?_, h⟩
      rcases List.mem_cons.mp hz with rfl | hz
      · exact hxy
      · exact List.le_trans hxy (h'.1 z hz)
theorem sortS_sorted : ∀ l : List Str, (sortS l).Pairwise leS
  | [] => List.Pairwise.nil
  | x :: r => insS_sorted x _ (sortS_sorted r)
theorem rising_pw : ∀ (p : Str) (l : List Str), risingS p l = true → (p :: l).Pairwise leS
  | p, [], _ => List.pairwise_singleton _ _
  | p, x :: r, h => by
    have h1 := (Bool.and_eq_true_iff.mp (show (!ltCps x.cps.toList p.cps.toList && risingS x r) = true from h))
    have ih := rising_pw x r h1.2
    have hpx : leS p x := leS_of (by simpa using h1.1)
    refine List.pairwise_cons.mpr ⟨fun z hz => ?_, ih⟩
    rcases List.mem_cons.mp hz with rfl | hz
    · exact hpx
    · exact List.le_trans hpx ((List.pairwise_cons.mp ih).1 z hz)
theorem sorted_pw {l : List Str} (h : sortedS l = true) : l.Pairwise leS := by
  cases l with
  | nil => exact List.Pairwise.nil
  | cons x r => exact rising_pw x r h
theorem leS_anti {a b : Str} (h1 : leS a b) (h2 : leS b a) : a = b := by
  have e := List.le_antisymm h1 h2
  obtain ⟨a⟩ := a
  obtain ⟨b⟩ := b
  congr
  exact Array.ext' e
theorem sortS_eq {l ys : List Str} (hp : ys.Perm l) (hs : sortedS ys = true) : ys = sortS l :=
  List.Perm.eq_of_pairwise (fun a b _ _ => leS_anti) (sorted_pw hs) (sortS_sorted l) (hp.trans (sortS_perm l).symm)
def sSorted : D → Sto → Res D
  | .lst xs, g => match strsOf xs with
    | some ss => if ss.length < 64 then .ok (.lst ((sortS ss).map .str)) g else .stuck
    | none => .stuck
  | _, _ => .stuck
theorem rl_strs {m : Mv} {H : Hp} : ∀ ss : List Str, Rl S m H (ss.map .str) (ss.map V.str)
  | [] => .nil
  | x :: r => .cons (.str x) (rl_strs r)
theorem f_sorted {e : Expr} {f : E1} {p pos : Pos} (hK : S.K = X.K) (hg : Gl X "sorted") (hm : X.mg "sorted" = none) (he : Pb X S W e f) (hst : starEach [e] X.env = (false, eval e X.env) :: starEach [] X.env := by rfl) : Pf X S W (.Call (.Name "sorted" p) [e] [] pos) (eU (dr1 sSorted) f) :=
  call1 cr_sortedS hg hm (by decide +kernel) (fun σ H0 m g H a x Q ok fz ra q => by
    cases a with
    | lst xs =>
      obtain ⟨l, vs, rfl, h1, r1⟩ := ra.lst
      simp only [sSorted] at q
      cases e : strsOf xs with
      | none => rw [e] at q; exact q.elim
      | some ss =>
        rw [e] at q
        dsimp only at q
        split at q
        · rename_i c
          have e2 := strsOf_ok e r1
          subst e2
          refine ⟨l, ss, rfl, hK ▸ h1, c, fun ys p hp hs hn => ?_⟩
          rw [sortS_eq hp hs]
          exact q.ownL ok (rl_strs _) hn fz
        · exact q.elim
    | _ => exact q.elim) he (by decide) (by decide) hst
/-! ### what is one's own is returned -/
def sRetO (i : Nat) : Sd := fun env g => match env[i]? with
  | some (.ow d) => .rtO d g
  | _ => .stuck
theorem s_retO {i : Nat} {e : Expr} {pos : Pos} (he : PE X e (tVar i)) : Ps X S W (.Return (some e) pos) (sRetO i) :=
  PS.to (ps_ret he) fun E σ H ⟨env, g, m, r, p⟩ => by
    unfold sRetO at p
    split at p
    · rename_i d e1
      obtain ⟨ov, e2, a, rfl, hw, hm, ro⟩ := r.at e1
      exact ⟨.ref a, e2, p a H m (.refl m H) r.mem hw hm ro⟩
    · exact p.elim
def sRetF (f : E1) : Sd := thenS f fun d _ g => .rtO d g
theorem s_retF {e : Expr} {f : E1} {pos : Pos} (he : Pf X S W e f) : Ps X S W (.Return (some e) pos) (sRetF f) :=
  PS.to (ps_ret he) fun E σ H h => Tv.st (R := RF S) h fun env g0 g m0 m H1 a x r0 gr r1 ⟨b, ev, hw, hm, hn, ro⟩ p => by
    subst ev
    exact p b H1 m (.refl m H1) r1.mem hw hm ro
theorem Tv.st1 {α α' : Type} {R : Hp → Mv → Hp → α → α' → Prop} {f : En α} {k : α → Env → Sto → SRes} {E : Ends} {σ : St} {H : Hp} {env : Env} {g : Sto} {m : Mv} (r : Rel S H σ env g m) (p : SPost S W E (thenS f k env g) m H) {P : α' → Hp → Prop}
    (hk : ∀ g' m' H1 a x, Grow m H m' H1 → Rel S H1 σ env g' m' → R H m' H1 a x → SPost S W E (k a env g') m' H1 → P x H1) : Tv S R W f σ H P := by
  refine ⟨env, g, m, r, ?_⟩
  unfold thenS at p
  cases q : f env g with
  | stuck => rw [q] at p; exact p
  | exc x g' =>
    rw [q] at p
    exact fun cl dx H' m' gr ok z => p cl dx σ H' m' (gr.s r.mem.muW) (r.grow gr ok) z
  | ok a g1 =>
    rw [q] at p
    intro x H1 m1 gr ok ra
    exact hk g1 m1 H1 a x gr (r.grow gr ok) ra (SPost.mono (gr.s r.mem.muW) p)
/-- a, b = e1, e2, both new -/
def sParO (i j : Nat) (f h : E1) : Sd := thenS f fun a env g => thenS h (fun b env g => .nx ((env.set i (.ow a)).set j (.ow b)) g) env g
theorem s_parO {i j : Nat} {x y : Str} {a b : Expr} {f h : E1} {px py pt pos : Pos} {kt k2 pt2} (hc : X.calm = true) (hN : X.N.Nodup) (hi : X.N[i]? = some x) (hj : X.N[j]? = some y) (hij : i ≠ j)
    (hx : X.env.scope.names.lookup x = some .local) (hy : X.env.scope.names.lookup y = some .local) (ha : Pf X S W a f) (hb : Pf X S W b h)
    (hw : swappedStores [.Tuple [.Name x px, .Name y py] kt pt] (.Tuple [a, b] k2 pt2) X.env = pure (some [x, y]))
    (hst : starEach [a, b] X.env = (false, eval a X.env) :: starEach [b] X.env := by rfl) (hst2 : starEach [b] X.env = (false, eval b X.env) :: starEach [] X.env := by rfl)
    (hs : swapsWithSole [.Tuple [.Name x px, .Name y py] kt pt] (.Tuple [a, b] k2 pt2) pos.line X.env = pure false := by rfl) :
    Ps X S W (.Assign [.Tuple [.Name x px, .Name y py] kt pt] (.Tuple [a, b] k2 pt2) pos) (sParO i j f h) :=
  PS.to (ps_par hc hN hi hj hij hx hy (pa_cons ha (pa_cons hb pa_nil hst2) hst) hw hs) fun E σ H q => Tv.st (R := RF S) q fun env g0 g m0 m H1 da va r0 gr r1 ⟨p1, ev, w1, u1, n1, o1⟩ p => by
    subst ev
    refine Tv.st1 (R := RF S) r1 p fun g' m' H2 db vb gr' r1' ⟨p2, ev2, w2, u2, n2, o2⟩ p' => ?_
    subst ev2
    have live : H1 p1 ≠ none := fun z => by have := r1.mem.trk p1 (.inl w1); rw [z] at this; exact this
    have w1' := gr'.wk p1 w1
    have u1' : p1 ∉ m'.mu := fun z => (gr'.mun p1 z).elim u1 live
    have o1' : Root S m' H2 p1 da := o1.grow r1.mem (gr'.s r1.mem.muW) fun o e => gr'.keep p1 o e u1
    have z1 : ∀ (k : Nat) (d' : D), env[k]? = some (Slot.ow d') → σ[k]? = some (some (V.ref p1)) → False := r0.newO n1
    have z2 : ∀ (k : Nat) (d' : D), env[k]? = some (Slot.ow d') → σ[k]? = some (some (V.ref p2)) → False := r1.newO n2
    have r2 := r1'.setO i w1' u1' o1' z1
    refine ⟨.ref p1, .ref p2, rfl, p' _ H2 m' (.refl m' H2) (r2.setO j w2 u2 o2 fun k d' e1 e2 => ?_)⟩
    by_cases hk : i = k
    · subst hk
      have hl : i < env.length := by have := (List.getElem?_eq_some_iff.mp e1).1; simpa using this
      rw [List.getElem?_set_self (by rw [r1'.len]; exact hl)] at e2
      cases e2
      exact live n2
    · rw [List.getElem?_set_ne hk] at e1 e2
      exact z2 k d' e1 e2
/-! ### defs that give what is new -/
def SpecO (S : Stat) (n : Nat) (F : Fn) : Sp := fun vs H Q _ => ∃ ds g m, MOk S H g m ∧ (∀ a ∈ m.W, a ∈ m.mu) ∧ Rl S m H ds vs ∧ ds.length = n ∧ match F ds g with
  | .ok d g' => ∀ a H' m', GrowS m H m' H' → MOk S H' g' m' → (∀ b ∈ m'.W, b ∈ m'.mu ∨ b = a) → a ∈ m'.W → a ∉ m'.mu → Root S m' H' a d → Q (.ref a) H'
  | _ => False
def fnOfO (N : Nat) (body : Sd) : Fn := fun ds g => match body (ds.map Slot.sh ++ List.replicate (N - ds.length) .no) g with
  | .rtO d g' => .ok d g'
  | _ => .stuck
/-- but for the store a alone may be written -/
def Mv.shutO (m : Mv) (a : Addr) : Mv := ⟨m.mu, a :: m.mu, m.B⟩
theorem shutO_fr {H : Hp} {g : Sto} {m : Mv} {a b : Addr} (ok : MOk S H g m) (hw : a ∈ m.W) (h : m.fr b) : (m.shutO a).fr b := ⟨fun z => by
  rcases List.mem_cons.mp z with rfl | z
  · exact h.1 hw
  · exact h.1 (ok.muW b z), h.2⟩
theorem MOk.shutO {H : Hp} {g : Sto} {m : Mv} {a : Addr} (ok : MOk S H g m) (hw : a ∈ m.W) : MOk S H g (m.shutO a) :=
  have sub : ∀ b ∈ (m.shutO a).W, b ∈ m.W := fun b z => by
    rcases List.mem_cons.mp z with rfl | z
    · exact hw
    · exact ok.muW b z
  ⟨ok.len, fun n d b e1 e2 => (ok.sto n d b e1 e2).weak (fun c h => shutO_fr ok hw h) fun _ _ z => z, ok.nd, fun b z => List.mem_cons_of_mem _ z, fun b h => ok.trk b (h.imp (sub b) id), fun b h z => ok.dis b h (sub b z)⟩
theorem fnO_ok {P : Program} {w : World} {K : PySem.W.Frag} {mg : Str → Option Value} {base : Heap} {x qual : Str} {params : Arguments} {body : List Stmt} {scope : Scope} {dvs : List V} {kws : List (Str × V)} {f : Addr} {fd : FuncData} {N ps : List Str} {k : Nat} {sd : Sd}
    (F : FunD K x qual params body scope dvs kws f fd) (C : FnScope N ps scope)
    (hb : ∀ (cdv : Value) (A : Around) (outer : List PySem.Env) (s : Shared) (H : Hp) (E : XK), Room k (A.deeper (envOfC qual scope s.heap.objs.size f cdv)) → Pss ((cxOf CX0 P w K mg base N qual scope f cdv A outer s H E).nox) S W0 body sd) :
    FnOk P w K mg base CX0 (k + 1) f fd ps (SpecO S ps.length (fnOfO N.length sd)) := by
  refine F.ok C (fun vs H Q E ⟨ds, g, m, _, _, rl, hl, _⟩ => by rw [← rl.length, hl]) (fun cdv A outer s H vs Q E hr ⟨ds, g, m, ok, hW, rl, hl, p⟩ => ⟨_, PSs.nox (hb cdv A outer s H E hr), _, g, m, rel_start ok rl, ?_⟩)
  unfold fnOfO at p
  cases q : sd (ds.map Slot.sh ++ List.replicate (N.length - ds.length) .no) g with
  | rtO d g' =>
    rw [q] at p
    refine fun a H' m' gr ok' hw hm ro => p a H' (m'.shutO a) ⟨gr.keep, gr.liv, gr.mu, gr.mun, fun b hb => ?_, gr.b⟩ (ok'.shutO hw) (fun b hb => (List.mem_cons.mp hb).symm) List.mem_cons_self hm (ro.weak (fun c h => shutO_fr ok' hw h) fun _ _ z => z)
    rcases List.mem_cons.mp hb with rfl | hb
    · exact gr.wn b hw
    · exact (gr.mun b hb).imp (fun z => ok.muW b z) id
  | rt d g' => rw [q] at p; exact p.elim
  | nx env' g' => rw [q] at p; exact p.elim
  | bk env' g' => rw [q] at p; exact p.elim
  | ct env' g' => rw [q] at p; exact p.elim
  | exc x env' g' => rw [q] at p; exact p.elim
  | stuck => rw [q] at p; exact p.elim
structure DefO (P : Program) (w : World) (K : PySem.W.Frag) (mg : Str → Option Value) (base : Heap) (S : Stat) (x : Str) (k : Nat) (ps : List Str) (F : Fn) : Prop where
  ex : ∃ f fd, mg x = some (.ref f) ∧ PySem.W.keepIn K (.ref f) = true ∧ Binds K fd ps [] ∧ FnOk P w K mg base CX0 k f fd ps (SpecO S ps.length F)
def Mv.backO (m m' : Mv) (a : Addr) : Mv := ⟨m'.mu, a :: (m.W ++ m'.mu), m.B⟩
theorem backO_ok {H H' : Hp} {g g' : Sto} {m m' : Mv} {a : Addr} {d : D} (ok : MOk S H g m) (q : GrowS m.callee H m' H') (ok' : MOk S H' g' m') (hW : ∀ b ∈ m'.W, b ∈ m'.mu ∨ b = a) (hw : a ∈ m'.W) (hm : a ∉ m'.mu) (ro : Root S m' H' a d) :
    Grow m H (m.backO m' a) H' ∧ MOk S H' g' (m.backO m' a) ∧ H a = none ∧ Root S (m.backO m' a) H' a d := by
  have hB : m'.B = m.B ++ m.W.filter fun a => decide (a ∉ m.mu) := q.b
  have pre : ∀ b ∈ m.mu, b ∈ m'.mu := fun b hb => by
    obtain ⟨t, e⟩ := q.mu
    rw [e]; exact List.mem_append_left _ hb
  have ha : H a = none := (q.wn a hw).elim (fun z => absurd (pre a z) hm) id
  have fr : ∀ b, m'.fr b → (m.backO m' a).fr b := fun b h => by
    refine ⟨fun z => ?_, fun z => h.2 (by rw [hB]; exact List.mem_append_left _ z)⟩
    rcases List.mem_cons.mp z with rfl | z
    · exact h.1 hw
    · rcases List.mem_append.mp z with z | z
      · by_cases hm : b ∈ m.mu
        · exact h.1 (ok'.muW b (pre b hm))
        · exact h.2 (by rw [hB]; exact List.mem_append_right _ (List.mem_filter.mpr ⟨z, decide_eq_true hm⟩))
      · exact h.1 (ok'.muW b z)
  have mk : ∀ b, b ∉ m.mu → Mut (H b) → Mut (H' b) := fun b hb h => by
    cases e : H b with
    | none => rw [e] at h; exact h.elim
    | some o => rw [q.keep b o e hb]; rw [e] at h; exact h
  refine ⟨⟨fun b o h n => q.keep b o h n, q.liv, q.mu, q.mun, fun b hb => List.mem_cons_of_mem _ (List.mem_append_left _ hb), fun b hb => ?_, rfl⟩, ⟨ok'.len, fun n d b e1 e2 => (ok'.sto n d b e1 e2).weak fr fun _ _ z => z, ok'.nd, fun b hb => List.mem_cons_of_mem _ (List.mem_append_right _ hb), fun b hb => ?_, fun b hb z => ?_⟩, ha, ro.weak fr fun _ _ z => z⟩
  · rcases List.mem_cons.mp hb with rfl | z
    · exact .inr ha
    · rcases List.mem_append.mp z with z | z
      · exact .inl z
      · exact (q.mun b z).imp (fun y => ok.muW b y) id
  · rcases hb with hb | hb
    · rcases List.mem_cons.mp hb with rfl | z
      · exact ok'.trk b (.inl hw)
      · rcases List.mem_append.mp z with z | z
        · by_cases hm : b ∈ m.mu
          · exact ok'.trk b (.inl (ok'.muW b (pre b hm)))
          · exact mk b hm (ok.trk b (.inl z))
        · exact ok'.trk b (.inl (ok'.muW b z))
    · exact mk b (fun z => ok.dis b hb (ok.muW b z)) (ok.trk b (.inr hb))
  · rcases List.mem_cons.mp z with rfl | z
    · have := ok.trk b (.inr hb); rw [ha] at this; exact this
    · rcases List.mem_append.mp z with z | z
      · exact ok.dis b hb z
      · exact ok'.dis b (by rw [hB]; exact List.mem_append_left _ hb) (ok'.muW b z)
theorem f_callO {x : Str} {k : Nat} {ps : List Str} {F : Fn} {e : Expr} {es : List Expr} {fs : En (List D)} {p pos : Pos} (d : DefO X.prog X.w X.K X.mg X.base S x k ps F) (hr : Room k X.A) (hg : Gl X x) (ha : Pas X S W (e :: es) fs)
    (hdb : (x == ("__debug__" : Str)) = false := by decide) (he : starEach (e :: es) X.env = (false, eval e X.env) :: starEach es X.env := by rfl) (hpl : (backTo pos (starEach es X.env)).any (·.1) = false := by rfl) :
    Pf X S W (.Call (.Name x p) (e :: es) [] pos) (eCall ps.length F fs) := by
  obtain ⟨f, fd, hm, hk, hb, G⟩ := d.ex
  refine PE.to (pe_call G hr hg hm hk hb .nil pass0 ha hdb he hpl) fun σ H Q q => Tv.go (Ra := RL S) (k := fun ds _ g1 => if ds.length = ps.length then (match F ds g1 with
    | .exc _ _ => .stuck
    | r => r) else .stuck) q fun env m g H1 ds vs rel fz ra p => ?_
  rw [List.append_nil]
  split at p
  · rename_i hn
    refine ⟨ds, g, m.callee, rel.mem.callee, fun _ z => z, Rl.weak (m := m) (fun b h => callee_fr rel.mem.muW h) (fun _ _ z => z) ra, hn, ?_⟩
    cases q : F ds g with
    | stuck => rw [q] at p; exact p
    | exc x g' => rw [q] at p; exact p.elim
    | ok d g' =>
      rw [q] at p
      intro a H' m' gr ok' hW hw hm ro
      obtain ⟨h1, h2, h3, h4⟩ := backO_ok rel.mem gr ok' hW hw hm ro
      exact p (.ref a) H' (m.backO m' a) h1 h2 ⟨a, rfl, List.mem_cons_self, hm, fz a h3, h4⟩
  · exact p.elim
/-! ### calls that look at what is one's own; they leave no trace, give nothing that can be changed -/
mutual
def flat : D → Bool
  | .non => true
  | .bl _ => true
  | .int _ => true
  | .str _ => true
  | .tup xs => flatL xs
  | _ => false
def flatL : List D → Bool
  | [] => true
  | x :: r => flat x && flatL r
end
mutual
def noLoc : D → Bool
  | .loc _ => false
  | .lst xs => noLocL xs
  | .tup xs => noLocL xs
  | .frz xs => noLocL xs
  | .dic _ vs => noLocL vs
  | .ins _ _ vs => noLocL vs
  | _ => true
def noLocL : List D → Bool
  | [] => true
  | x :: r => noLoc x && noLocL r
end
mutual
theorem Rr.flat {m m' : Mv} {H : Hp} : ∀ {d : D} {v : V}, Ev.flat d = true → Rr S m H d v → Rr S m' H d v
  | _, _, _, .non => .non
  | _, _, _, .bl b => .bl b
  | _, _, _, .int i => .int i
  | _, _, _, .str x => .str x
  | _, _, h, .tup e r => .tup e (Rl.flat (by simpa [Ev.flat] using h) r)
  | _, _, h, .lst _ _ _ => by simp [Ev.flat] at h
  | _, _, h, .frz _ _ => by simp [Ev.flat] at h
  | _, _, h, .dic _ _ _ _ => by simp [Ev.flat] at h
  | _, _, h, .ins _ _ _ _ _ => by simp [Ev.flat] at h
  | _, _, h, .loc _ => by simp [Ev.flat] at h
theorem Rl.flat {m m' : Mv} {H : Hp} : ∀ {ds : List D} {vs : List V}, Ev.flatL ds = true → Rl S m H ds vs → Rl S m' H ds vs
  | _, _, _, .nil => .nil
  | _, _, h, .cons r t => by
    simp only [Ev.flatL, Bool.and_eq_true] at h
    exact .cons (Rr.flat h.1 r) (Rl.flat h.2 t)
end
mutual
theorem Rr.noLoc {m m' : Mv} {H : Hp} (f : ∀ a, m.fr a → m'.fr a) : ∀ {d : D} {v : V}, Ev.noLoc d = true → Rr S m H d v → Rr S m' H d v
  | _, _, _, .non => .non
  | _, _, _, .bl b => .bl b
  | _, _, _, .int i => .int i
  | _, _, _, .str x => .str x
  | _, _, h, .tup e r => .tup e (Rl.noLoc f (by simpa [Ev.noLoc] using h) r)
  | _, _, h, .lst e z r => .lst e (f _ z) (Rl.noLoc f (by simpa [Ev.noLoc] using h) r)
  | _, _, h, .frz e r => .frz (by
      rcases e with ⟨e, z⟩ | e
      · exact .inl ⟨e, f _ z⟩
      · exact .inr e) (Rl.noLoc f (by simpa [Ev.noLoc] using h) r)
  | _, _, h, .dic e z d r => .dic e (f _ z) d (Rl.noLoc f (by simpa [Ev.noLoc] using h) r)
  | _, _, h, .ins e z c n r => .ins e (f _ z) c n (Rl.noLoc f (by simpa [Ev.noLoc] using h) r)
  | _, _, h, .loc _ => by simp [Ev.noLoc] at h
theorem Rl.noLoc {m m' : Mv} {H : Hp} (f : ∀ a, m.fr a → m'.fr a) : ∀ {ds : List D} {vs : List V}, Ev.noLocL ds = true → Rl S m H ds vs → Rl S m' H ds vs
  | _, _, _, .nil => .nil
  | _, _, h, .cons r t => by
    simp only [Ev.noLocL, Bool.and_eq_true] at h
    exact .cons (Rr.noLoc f h.1 r) (Rl.noLoc f h.2 t)
end
theorem Root.noLoc {m m' : Mv} {H : Hp} {a : Addr} {d : D} (f : ∀ a, m.fr a → m'.fr a) (h : Ev.noLoc d = true) (r : Root S m H a d) : Root S m' H a d := by
  cases r with
  | lst e r => exact .lst e (Rl.noLoc f (by simpa [Ev.noLoc] using h) r)
  | dic e d r => exact .dic e d (Rl.noLoc f (by simpa [Ev.noLoc] using h) r)
  | ins e c n r => exact .ins e c n (Rl.noLoc f (by simpa [Ev.noLoc] using h) r)
/-- arguments that are looked at -/
inductive Rbl (S : Stat) (m : Mv) (H : Hp) : List D → List V → Prop where
  | nil : Rbl S m H [] []
  | cons {d : D} {v : V} {ds : List D} {vs : List V} : Rb S m H d v → Rbl S m H ds vs → Rbl S m H (d :: ds) (v :: vs)
def RBL (S : Stat) : Hp → Mv → Hp → List D → List V → Prop := fun _ m H d v => Rbl S m H d v
abbrev Pbs (X : Cx) (S : Stat) (W : WX) (es : List Expr) (f : En (List D)) : Prop := PA X es (Tv S (RBL S) W f)
theorem bs_nil : Pbs X S W [] eNil := PA.to pa_nil fun σ H Q ⟨env, g, m, r, p⟩ => p.now r.mem Rbl.nil
theorem bs_cons {e : Expr} {es : List Expr} {f : E1} {fs : En (List D)} (he : Pb X S W e f) (hr : Pbs X S W es fs) (hs : starEach (e :: es) X.env = (false, eval e X.env) :: starEach es X.env := by rfl) : Pbs X S W (e :: es) (eCons f fs) :=
  PA.to (pa_cons he hr hs) fun σ H Q h => Tv.two (Ra := RB S) (Rb := RBL S) rb_stays h fun env m g H1 a b x y rel fz ⟨_, ra⟩ ⟨_, rb⟩ p => p.now rel.mem (Rbl.cons ra rb)
theorem Rbl.length {m : Mv} {H : Hp} : ∀ {ds : List D} {vs : List V}, Rbl S m H ds vs → ds.length = vs.length
  | _, _, .nil => rfl
  | _, _, .cons _ t => by simp [Rbl.length t]
/-- for the callee nothing may be written -/
def Mv.sealed (ls : List Addr) (m : Mv) : Mv := ⟨[], [], m.B ++ m.W.filter fun a => decide (a ∉ ls)⟩
theorem seal_args {m : Mv} {H : Hp} {g : Sto} (ok : MOk S H g m) : ∀ {ds : List D} {vs : List V}, noLocL ds = true → Rbl S m H ds vs → ∃ ls : List Addr, ∀ ls' : List Addr, (∀ a ∈ ls, a ∈ ls') → Rl S (m.sealed ls') H ds vs
  | _, _, _, .nil => ⟨[], fun _ _ => .nil⟩
  | _, _, h, .cons r t => by
    simp only [noLocL, Bool.and_eq_true] at h
    obtain ⟨ls, hl⟩ := seal_args ok h.2 t
    have fr : ∀ (ls' : List Addr) (b : Addr), m.fr b → (m.sealed ls').fr b := fun ls' b z => ⟨fun y => by simp [Mv.sealed] at y, fun y => (List.mem_append.mp y).elim z.2 fun y => z.1 (List.mem_filter.mp y).1⟩
    rcases r with r | ⟨a, rfl, hw, hm, ro⟩
    · exact ⟨ls, fun ls' hs => .cons (Rr.noLoc (fr ls') h.1 r) (hl ls' hs)⟩
    · refine ⟨a :: ls, fun ls' hs => .cons ((Root.noLoc (fr ls') h.1 ro).rr ⟨fun y => by simp [Mv.sealed] at y, fun y => ?_⟩) (hl ls' fun b hb => hs b (List.mem_cons_of_mem _ hb))⟩
      rcases List.mem_append.mp y with y | y
      · exact ok.dis a y hw
      · exact of_decide_eq_true (List.mem_filter.mp y).2 (hs a List.mem_cons_self)
def eCallP (n : Nat) (F : Fn) (fs : En (List D)) : E1 := fun env g => (fs env g).bind fun ds g1 => if ds.length = n ∧ noLocL ds = true then (match F ds [] with
  | .ok d _ => if flat d = true then .ok d g1 else .stuck
  | _ => .stuck) else .stuck
theorem e_callP {x : Str} {k : Nat} {ps : List Str} {F : Fn} {e : Expr} {es : List Expr} {fs : En (List D)} {p pos : Pos} (d : Def X.prog X.w X.K X.mg X.base S x k ps F) (hr : Room k X.A) (hg : Gl X x) (ha : Pbs X S W (e :: es) fs)
    (hdb : (x == ("__debug__" : Str)) = false := by decide) (he : starEach (e :: es) X.env = (false, eval e X.env) :: starEach es X.env := by rfl) (hpl : (backTo pos (starEach es X.env)).any (·.1) = false := by rfl) :
    Pe X S W (.Call (.Name x p) (e :: es) [] pos) (eCallP ps.length F fs) := by
  obtain ⟨f, fd, hm, hk, hb, G⟩ := d.ex
  refine PE.to (pe_call G hr hg hm hk hb .nil pass0 ha hdb he hpl) fun σ H Q q => Tv.go (Ra := RBL S) (k := fun ds _ g1 => if ds.length = ps.length ∧ noLocL ds = true then (match F ds [] with
    | .ok d _ => if flat d = true then .ok d g1 else .stuck
    | _ => .stuck) else .stuck) q fun env m g H1 ds vs rel fz ra p => ?_
  rw [List.append_nil]
  split at p
  · rename_i hn
    obtain ⟨ls, hl⟩ := seal_args rel.mem hn.2 ra
    have okc : MOk S H1 [] (m.sealed ls) := ⟨rfl, fun n d a e1 _ => by simp at e1, by simp [Mv.sealed], fun a z => by simp [Mv.sealed] at z, fun a h => by
      rcases h with h | h
      · simp [Mv.sealed] at h
      · rcases List.mem_append.mp h with h | h
        · exact rel.mem.trk a (.inr h)
        · exact rel.mem.trk a (.inl (List.mem_filter.mp h).1), fun a _ z => by simp [Mv.sealed] at z⟩
    refine ⟨ds, [], m.sealed ls, okc, fun a z => by simp [Mv.sealed] at z, hl ls fun _ z => z, hn.1, ?_⟩
    cases q : F ds [] with
    | stuck => rw [q] at p; exact p
    | exc x g' => rw [q] at p; exact p.elim
    | ok d g' =>
      rw [q] at p
      dsimp only at p
      split at p
      · rename_i hf
        intro v H' m' gr ok' hW r
        have keep : ∀ a o, H1 a = some o → H' a = some o := fun a o e => gr.keep a o e (by simp [Mv.sealed])
        have gr' : Grow m H1 m H' := ⟨fun a o e _ => keep a o e, gr.liv, ⟨[], by simp⟩, fun _ h => .inl h, fun _ h => h, fun _ h => .inl h, rfl⟩
        exact p v H' m gr' (rel.mem.of_grow gr' rfl (fun a _ u e => keep a u e) (fun a h1 h2 => absurd h1 h2) fun a h1 h2 => absurd h1 h2) (Rr.flat hf r)
      · exact p.elim
  · exact p.elim
/-! ### a def that is not yet a function: for the bottom of a recursion -/
def fnNo : Fn := fun _ _ => .stuck
theorem spec_no {n : Nat} {vs : List V} {H : Hp} {Q : VK} {E : XK} (h : Spec S n fnNo vs H Q E) : False := by
  obtain ⟨ds, g, m, _, _, _, _, p⟩ := h
  exact p
end
end Ev
namespace Ev
open PySem PySem.Spec PyProof.Rows L2
section
variable {X : Cx} {S : Stat} {W : WX}
theorem c_call {x : Str} {k n : Nat} {ps : List Str} {F : Fn} {e : Expr} {es : List Expr} {fs : En (List D)} {p pos : Pos} (d : Def X.prog X.w X.K X.mg X.base S x k ps F) (hr : Room k X.A) (hg : Gl X x) (ha : Pas X S W (e :: es) fs)
    (hn : ps.length = n := by rfl) (hdb : (x == ("__debug__" : Str)) = false := by decide) (he : starEach (e :: es) X.env = (false, eval e X.env) :: starEach es X.env := by rfl) (hpl : (backTo pos (starEach es X.env)).any (·.1) = false := by rfl) :
    Pe X S W (.Call (.Name x p) (e :: es) [] pos) (eCall n F fs) := by
  subst hn
  exact e_call d hr hg ha hdb he hpl
theorem c_callO {x : Str} {k n : Nat} {ps : List Str} {F : Fn} {e : Expr} {es : List Expr} {fs : En (List D)} {p pos : Pos} (d : DefO X.prog X.w X.K X.mg X.base S x k ps F) (hr : Room k X.A) (hg : Gl X x) (ha : Pas X S W (e :: es) fs)
    (hn : ps.length = n := by rfl) (hdb : (x == ("__debug__" : Str)) = false := by decide) (he : starEach (e :: es) X.env = (false, eval e X.env) :: starEach es X.env := by rfl) (hpl : (backTo pos (starEach es X.env)).any (·.1) = false := by rfl) :
    Pf X S W (.Call (.Name x p) (e :: es) [] pos) (eCall n F fs) := by
  subst hn
  exact f_callO d hr hg ha hdb he hpl
theorem c_callP {x : Str} {k n : Nat} {ps : List Str} {F : Fn} {e : Expr} {es : List Expr} {fs : En (List D)} {p pos : Pos} (d : Def X.prog X.w X.K X.mg X.base S x k ps F) (hr : Room k X.A) (hg : Gl X x) (ha : Pbs X S W (e :: es) fs)
    (hn : ps.length = n := by rfl) (hdb : (x == ("__debug__" : Str)) = false := by decide) (he : starEach (e :: es) X.env = (false, eval e X.env) :: starEach es X.env := by rfl) (hpl : (backTo pos (starEach es X.env)).any (·.1) = false := by rfl) :
    Pe X S W (.Call (.Name x p) (e :: es) [] pos) (eCallP n F fs) := by
  subst hn
  exact e_callP d hr hg ha hdb he hpl
def sNeg : D → Sto → Res D
  | .int i, g => .ok (.int (-i)) g
  | _, _ => .stuck
theorem e_neg {a : Expr} {f : E1} {pos : Pos} (ha : Pe X S W a f) : Pe X S W (.UnaryOp .USub a pos) (eU sNeg f) :=
  PE.to (pe_un un_neg ha) fun σ H Q q => Tv.one (Ra := RT S) q fun env m g H1 d x rel _ ⟨_, ra⟩ p => by
    cases d with
    | int i => exact ⟨i, ra.int_inv, p.now rel.mem (.int _)⟩
    | _ => exact p.elim
end
section
variable {P : Program} {w : World} {K : PySem.W.Frag} {mg : Str → Option Value} {base : Heap} {S : Stat}
/-- the def st stands at the name x -/
structure Got (K : PySem.W.Frag) (mg : Str → Option Value) (x : Str) (st : Stmt) : Prop where
  ex : ∃ f fd, FunD K x x (defArgs st) (defBody st) (defScope st) [] [] f fd ∧ mg x = some (.ref f)
theorem Def.mono {x : Str} {j k : Nat} {ps : List Str} {F : Fn} (d : Def P w K mg base S x j ps F) (h : j ≤ k) : Def P w K mg base S x k ps F := by
  obtain ⟨f, fd, h1, h2, h3, h4⟩ := d.ex
  exact ⟨f, fd, h1, h2, h3, h4.mono h⟩
theorem DefO.mono {x : Str} {j k : Nat} {ps : List Str} {F : Fn} (d : DefO P w K mg base S x j ps F) (h : j ≤ k) : DefO P w K mg base S x k ps F := by
  obtain ⟨f, fd, h1, h2, h3, h4⟩ := d.ex
  exact ⟨f, fd, h1, h2, h3, h4.mono h⟩
theorem def_mk {x : Str} {st : Stmt} {k : Nat} {N ps : List Str} {sd : Sd} (G : Got K mg x st) (C : FnScope N ps (defScope st))
    (hb : ∀ (kV doc pm : Value) (an : Option Addr) (cdv ct : Value) (us : List Value), us.length = ps.length → bindArgs (PySem.W.fnOf x x (defArgs st) (defBody st) (defScope st) .none kV doc pm an cdv ct) ⟨us, []⟩ = pure (ps.zip us))
    (h : ∀ (f : Addr) (cdv : Value) (A : Around) (outer : List PySem.Env) (s : Shared) (H : Hp) (E : XK), Room k (A.deeper (envOfC x (defScope st) s.heap.objs.size f cdv)) → Pss ((cxOf CX0 P w K mg base N x (defScope st) f cdv A outer s H E).nox) S W0 (defBody st) sd) :
    Def P w K mg base S x (k + 1) ps (fnOf N.length sd) := by
  obtain ⟨f, fd, F, e⟩ := G.ex
  exact ⟨f, fd, e, F.kp, F.bindsN hb, fn_ok F C (h f)⟩
theorem defO_mk {x : Str} {st : Stmt} {k : Nat} {N ps : List Str} {sd : Sd} (G : Got K mg x st) (C : FnScope N ps (defScope st))
    (hb : ∀ (kV doc pm : Value) (an : Option Addr) (cdv ct : Value) (us : List Value), us.length = ps.length → bindArgs (PySem.W.fnOf x x (defArgs st) (defBody st) (defScope st) .none kV doc pm an cdv ct) ⟨us, []⟩ = pure (ps.zip us))
    (h : ∀ (f : Addr) (cdv : Value) (A : Around) (outer : List PySem.Env) (s : Shared) (H : Hp) (E : XK), Room k (A.deeper (envOfC x (defScope st) s.heap.objs.size f cdv)) → Pss ((cxOf CX0 P w K mg base N x (defScope st) f cdv A outer s H E).nox) S W0 (defBody st) sd) :
    DefO P w K mg base S x (k + 1) ps (fnOfO N.length sd) := by
  obtain ⟨f, fd, F, e⟩ := G.ex
  exact ⟨f, fd, e, F.kp, F.bindsN hb, fnO_ok F C (h f)⟩
/-- the bottom of a recursion -/
theorem def_no {x : Str} {st : Stmt} {ps : List Str} {k : Nat} (G : Got K mg x st)
    (hb : ∀ (kV doc pm : Value) (an : Option Addr) (cdv ct : Value) (us : List Value), us.length = ps.length → bindArgs (PySem.W.fnOf x x (defArgs st) (defBody st) (defScope st) .none kV doc pm an cdv ct) ⟨us, []⟩ = pure (ps.zip us)) :
    Def P w K mg base S x k ps fnNo := by
  obtain ⟨f, fd, F, e⟩ := G.ex
  exact ⟨f, fd, e, F.kp, F.bindsN hb, ⟨fun _ _ _ _ h => (spec_no h).elim, fun _ _ _ _ _ _ _ _ _ _ _ _ _ h => (spec_no h).elim⟩⟩
end
theorem unitsOf {A : Around} {k : Nat} (hr : Room k A) : A.units + 64 < cLine := hr.units
end Ev
/-! Deals as lists [[great numbers], mixed]: what draw and mixed give. -/
namespace Ev
open PySem PySem.Spec PyProof.Rows L2
/-! ### what the combinators compute -/
theorem whileL_succ {t : En Bool} {body : Sd} {n : Nat} {env : Env} {g : Sto} : whileL t body (n + 1) env g = thenS t (fun c env g => if c = true then (match body env g with
      | .nx env' g' => whileL t body n env' g'
      | .ct env' g' => whileL t body n env' g'
      | .bk env' g' => .nx env' g'
      | r => r) else .nx env g) env g := rfl
theorem while_no {t : En Bool} {body : Sd} {n : Nat} {env : Env} {g g1 : Sto} (h : t env g = .ok false g1) : whileL t body (n + 1) env g = .nx env g1 := by
  rw [whileL_succ]; unfold thenS; rw [h]; rfl
theorem while_yes {t : En Bool} {body : Sd} {n : Nat} {env env' : Env} {g g1 g' : Sto} (h : t env g = .ok true g1) (hb : body env g1 = .nx env' g') : whileL t body (n + 1) env g = whileL t body n env' g' := by
  rw [whileL_succ]; unfold thenS; rw [h]; simp only [if_true]; rw [hb]
theorem seq_nx {f h : Sd} {env env' : Env} {g g' : Sto} (e : f env g = .nx env' g') : sSeq f h env g = h env' g' := by unfold sSeq; rw [e]
theorem eB_ok {α β γ : Type} {sem : α → β → Sto → Res γ} {fa : En α} {fb : En β} {env : Env} {g g1 g2 : Sto} {a : α} {b : β} (h1 : fa env g = .ok a g1) (h2 : fb env g1 = .ok b g2) : eB sem fa fb env g = sem a b g2 := by
  unfold eB; rw [h1]; simp only [Res.bind]; rw [h2]
theorem eU_ok {α γ : Type} {sem : α → Sto → Res γ} {fa : En α} {env : Env} {g g1 : Sto} {a : α} (h1 : fa env g = .ok a g1) : eU sem fa env g = sem a g1 := by
  unfold eU; rw [h1]; rfl
theorem eC_ok {d : D} {env : Env} {g : Sto} : eC d env g = .ok d g := rfl
theorem thenS_ok {α : Type} {f : En α} {k : α → Env → Sto → SRes} {env : Env} {g g1 : Sto} {a : α} (h : f env g = .ok a g1) : thenS f k env g = k a env g1 := by
  unfold thenS; rw [h]
theorem eCons_ok {f : E1} {fs : En (List D)} {env : Env} {g g1 g2 : Sto} {a : D} {as : List D} (h1 : f env g = .ok a g1) (h2 : fs env g1 = .ok as g2) : eCons f fs env g = .ok (a :: as) g2 := eB_ok h1 h2
theorem seq_rt {f h : Sd} {env : Env} {g g' : Sto} {d : D} (e : f env g = .rt d g') : sSeq f h env g = .rt d g' := by unfold sSeq; rw [e]
/-! ### the deal in the store -/
def dl (g : Sto) (n k : Nat) (xs : List Int) (mx : Int) : Sto := (g.set k (.lst (xs.map .int))).set n (.lst [.loc k, .int mx])
structure DealOk (g : Sto) (n k : Nat) : Prop where
  ne : n ≠ k
  ln : n < g.length
  lk : k < g.length
section
variable {g : Sto} {n k : Nat} {xs ys : List Int} {mx my : Int}
theorem dl_n (h : DealOk g n k) : (dl g n k xs mx)[n]? = some (.lst [.loc k, .int mx]) := by
  unfold dl; rw [List.getElem?_set_self (by simpa using h.ln)]
theorem dl_k (h : DealOk g n k) : (dl g n k xs mx)[k]? = some (.lst (xs.map .int)) := by
  unfold dl; rw [List.getElem?_set_ne h.ne, List.getElem?_set_self h.lk]
theorem dl_setk (h : DealOk g n k) : (dl g n k xs mx).set k (.lst (ys.map .int)) = dl g n k ys mx := by
  unfold dl; rw [List.set_comm _ _ h.ne, List.set_set]
theorem dl_setn (h : DealOk g n k) : (dl g n k xs mx).set n (.lst [.loc k, .int my]) = dl g n k xs my := by
  unfold dl; rw [List.set_set]
/-- the list is empty: != [] -/
theorem ne_nil (xs : List Int) : deq 40 (.lst (xs.map .int)) (.lst []) = some (decide (xs = [])) := by
  cases xs with
  | nil => rfl
  | cons x r => simp [deq]
theorem ne_nilD (xs : List D) : deq 40 (.lst xs) (.lst []) = some (decide (xs = [])) := by
  cases xs with
  | nil => simp [deq, deqL]
  | cons x r => simp [deq]
abbrev dHead : E1 := eB (dr2 sIx) (eVarB 0) (eC (.int 0))
abbrev drawT : En Bool := tAndF (eU asB (eB (dr2 sNe) dHead (eLst eNil))) (eU asB (eB (dr2 sEq) (eB (dr2 sIx) dHead (eU sNeg (eC (.int 1)))) (eC (.int 0))))
abbrev drawB : Sd := sDo (eU sPop dHead)
theorem head_at {env : Env} (h : DealOk g n k) (e0 : env[0]? = some (.sh (.loc n))) : dHead env (dl g n k xs mx) = .ok (.loc k) (dl g n k xs mx) := by
  simp [dHead, eB, eVarB, eC, e0, Res.bind, dr2, dr, dl_n h, sIx, L2.atI, L2.ixN]
theorem full_at {env : Env} (h : DealOk g n k) (e0 : env[0]? = some (.sh (.loc n))) : (eU asB (eB (dr2 sNe) dHead (eLst eNil))) env (dl g n k xs mx) = .ok (!decide (xs = [])) (dl g n k xs mx) := by
  have h1 := head_at (xs := xs) (mx := mx) h e0
  simp [eU, eB, h1, Res.bind, dr2, dr, dl_k h, sNe, ne_nil, asB, eLst, eNil, big]
theorem last_at {env : Env} (h : DealOk g n k) (e0 : env[0]? = some (.sh (.loc n))) (x : Int) : (eB (dr2 sIx) dHead (eU sNeg (eC (.int 1)))) env (dl g n k (xs ++ [x]) mx) = .ok (.int x) (dl g n k (xs ++ [x]) mx) := by
  have h1 := head_at (xs := xs ++ [x]) (mx := mx) h e0
  have hi : L2.ixN (xs.length + 1) (-1) = some xs.length := by simp [L2.ixN]; omega
  simp [eB, h1, Res.bind, dr2, dr, dl_k h, sIx, eU, sNeg, eC, L2.atI, hi]
theorem pop_at {env : Env} (h : DealOk g n k) (e0 : env[0]? = some (.sh (.loc n))) (x : Int) : (eU sPop dHead) env (dl g n k (xs ++ [x]) mx) = .ok (.int x) (dl g n k xs mx) := by
  have h1 := head_at (xs := xs ++ [x]) (mx := mx) h e0
  have e2 := dl_setk (ys := xs) (xs := xs ++ [x]) (mx := mx) h
  simp [eU, h1, Res.bind, sPop, lstAt, dl_k h]
  rw [← e2]
theorem draw_while {env : Env} (h : DealOk g n k) (e0 : env[0]? = some (.sh (.loc n))) : ∀ (m : Nat) (xs : List Int), xs.length < m → ∃ ys, ys.length ≤ xs.length ∧ whileL drawT drawB m env (dl g n k xs mx) = .nx env (dl g n k ys mx)
  | 0, _, hm => by omega
  | m + 1, xs, hm => by
    rcases List.eq_nil_or_concat xs with rfl | ⟨ys, x, rfl⟩
    · refine ⟨[], Nat.le_refl _, while_no ?_⟩
      have h1 := full_at (xs := []) (mx := mx) h e0
      simp only [drawT, tAndF, h1, Res.bind]
      simp
    · rw [List.concat_eq_append] at *
      have h1 := full_at (xs := ys ++ [x]) (mx := mx) h e0
      have h2 := last_at (xs := ys) (mx := mx) h e0 x
      by_cases hx : x = 0
      · subst hx
        obtain ⟨zs, hl, e⟩ := draw_while h e0 m ys (by simp at hm; omega)
        refine ⟨zs, by simp; omega, ?_⟩
        rw [while_yes (g1 := dl g n k (ys ++ [0]) mx) (env' := env) (g' := dl g n k ys mx) ?_ ?_, e]
        · simp only [drawT, tAndF, h1, Res.bind]
          simp only [List.append_eq_nil_iff, List.cons_ne_nil, and_false, decide_false, Bool.not_false, if_true]
          rw [eU_ok (sem := asB) ((eB_ok (sem := dr2 sEq) h2 (eC_ok (d := .int 0))).trans (show dr2 sEq (.int 0) (.int 0) _ = .ok (.bl true) _ from rfl))]
          rfl
        · have h3 := pop_at (xs := ys) (mx := mx) h e0 0
          simp [drawB, sDo, thenS, h3]
      · refine ⟨ys ++ [x], Nat.le_refl _, while_no ?_⟩
        simp only [drawT, tAndF, h1, Res.bind]
        simp only [List.append_eq_nil_iff, List.cons_ne_nil, and_false, decide_false, Bool.not_false, if_true]
        have e3 : (dr2 sEq) (.int x) (.int 0) (dl g n k (ys ++ [x]) mx) = .ok (.bl false) (dl g n k (ys ++ [x]) mx) := by simp [dr2, dr, sEq, deq, hx]
        rw [eU_ok (sem := asB) ((eB_ok (sem := dr2 sEq) h2 (eC_ok (d := .int 0))).trans e3)]
        rfl
/-! ### draw -/
def drawQ : Sd := sSeq (sWhile 70 drawT drawB) (sSeq (sIf (eU asB (eB (dr2 sNe) dHead (eLst eNil))) (sSeq (sSet 2 (eU sPop dHead)) (sSeq (sDo (eApp dHead (eB sFdiv (eVarB 2) (eVarB 1)))) (sRet (eB sMod (eU (dr1 sInt) (eVarB 2)) (eVarB 1))))) sNil)
  (sSeq (sDo (eSet3 sPut (eB sMod (eU (dr1 sInt) (eB sAdd (eB sMulI (eB (dr2 sIx) (eVarB 0) (eC (.int 1))) (eC (.int 48271))) (eC (.int 37)))) (eC (.int 2147483647))) (eVar 0) (eC (.int 1)))) (sRet (eB sMod (eU (dr1 sInt) (eB sFdiv (eB (dr2 sIx) (eVarB 0) (eC (.int 1))) (eC (.int 16)))) (eVarB 1)))))
def drawF : Fn := fnOf 3 drawQ
theorem draw_ok (h : DealOk g n k) (hl : xs.length < 70) {wide : Int} (h0 : 0 < wide) (h1 : wide < 1073741824) :
    ∃ ys my r, drawF [.loc n, .int wide] (dl g n k xs mx) = .ok (.int r) (dl g n k ys my) ∧ ys.length ≤ xs.length ∧ 0 ≤ r ∧ r < wide := by
  obtain ⟨zs, hz, e⟩ := draw_while (mx := mx) (env := [.sh (.loc n), .sh (.int wide), .no]) h rfl 70 xs hl
  have er : ∀ (r : SRes), (sSeq (sIf (eU asB (eB (dr2 sNe) dHead (eLst eNil))) (sSeq (sSet 2 (eU sPop dHead)) (sSeq (sDo (eApp dHead (eB sFdiv (eVarB 2) (eVarB 1)))) (sRet (eB sMod (eU (dr1 sInt) (eVarB 2)) (eVarB 1))))) sNil)
      (sSeq (sDo (eSet3 sPut (eB sMod (eU (dr1 sInt) (eB sAdd (eB sMulI (eB (dr2 sIx) (eVarB 0) (eC (.int 1))) (eC (.int 48271))) (eC (.int 37)))) (eC (.int 2147483647))) (eVar 0) (eC (.int 1)))) (sRet (eB sMod (eU (dr1 sInt) (eB sFdiv (eB (dr2 sIx) (eVarB 0) (eC (.int 1))) (eC (.int 16)))) (eVarB 1))))) [.sh (.loc n), .sh (.int wide), .no] (dl g n k zs mx) = r →
      drawF [.loc n, .int wide] (dl g n k xs mx) = (match r with
        | .rt d g' => .ok d g'
        | .rtO d g' => .ok d g'
        | .nx _ g' => .ok .non g'
        | .exc x _ g' => .exc x g'
        | _ => .stuck) := fun r hr => by
    unfold drawF fnOf drawQ
    simp only [List.map, List.length_cons, List.length_nil, List.cons_append, List.nil_append, List.replicate]
    rw [seq_nx (show sWhile 70 drawT drawB [.sh (.loc n), .sh (.int wide), .no] (dl g n k xs mx) = _ from e), hr]
    all_goals (cases r <;> rfl)
  have hf := full_at (xs := zs) (mx := mx) (env := [.sh (.loc n), .sh (.int wide), .no]) h rfl
  rcases List.eq_nil_or_concat zs with rfl | ⟨ys, x, rfl⟩
  · refine ⟨[], (mx * 48271 + 37) % 2147483647, ((mx * 48271 + 37) % 2147483647 / 16) % wide, ?_, by simp, Int.emod_nonneg _ (by omega), Int.emod_lt_of_pos _ h0⟩
    have h3 : ∀ m, (eB (dr2 sIx) (eVarB 0) (eC (.int 1))) [.sh (.loc n), .sh (.int wide), .no] (dl g n k [] m) = .ok (.int m) (dl g n k [] m) := fun m => by
      simp [eB, eVarB, eC, Res.bind, dr2, dr, dl_n h, sIx, L2.atI, L2.ixN]
    have h4 : (eB sMod (eU (dr1 sInt) (eB sAdd (eB sMulI (eB (dr2 sIx) (eVarB 0) (eC (.int 1))) (eC (.int 48271))) (eC (.int 37)))) (eC (.int 2147483647))) [.sh (.loc n), .sh (.int wide), .no] (dl g n k [] mx) = .ok (.int ((mx * 48271 + 37) % 2147483647)) (dl g n k [] mx) := by
      have a1 := eB_ok (sem := sMulI) (h3 mx) (eC_ok (d := .int 48271))
      have a2 : sMulI (.int mx) (.int 48271) (dl g n k [] mx) = .ok (.int (mx * 48271)) (dl g n k [] mx) := by simp [sMulI]
      have a3 := eB_ok (sem := sAdd) (a1.trans a2) (eC_ok (d := .int 37))
      have a4 := eU_ok (sem := dr1 sInt) (a3.trans (show sAdd (.int (mx * 48271)) (.int 37) _ = .ok (.int (mx * 48271 + 37)) _ from rfl))
      rw [eB_ok (a4.trans rfl) (eC_ok (d := .int 2147483647))]
      rfl
    refine er (.rt (.int (((mx * 48271 + 37) % 2147483647 / 16) % wide)) (dl g n k [] ((mx * 48271 + 37) % 2147483647))) ?_
    rw [seq_nx (env' := [.sh (.loc n), .sh (.int wide), .no]) (g' := dl g n k [] mx) ?_, seq_nx (env' := [.sh (.loc n), .sh (.int wide), .no]) (g' := dl g n k [] ((mx * 48271 + 37) % 2147483647)) ?_]
    · unfold sRet
      have b1 := eB_ok (sem := sFdiv) (h3 ((mx * 48271 + 37) % 2147483647)) (eC_ok (d := .int 16))
      have b2 := eU_ok (sem := dr1 sInt) (b1.trans (show sFdiv (.int _) (.int 16) _ = .ok (.int (((mx * 48271 + 37) % 2147483647) / 16)) _ from rfl))
      have b3 := eB_ok (sem := sMod) (b2.trans (show dr1 sInt (.int _) _ = .ok (.int (((mx * 48271 + 37) % 2147483647) / 16)) _ from rfl)) (show eVarB 1 _ _ = .ok (.int wide) _ from rfl)
      rw [thenS_ok (b3.trans (show sMod (.int _) (.int wide) (dl g n k [] ((mx * 48271 + 37) % 2147483647)) = .ok (.int (((mx * 48271 + 37) % 2147483647) / 16 % wide)) (dl g n k [] ((mx * 48271 + 37) % 2147483647)) by simp [sMod, h0]))]
    · have c1 : eSet3 sPut (eB sMod (eU (dr1 sInt) (eB sAdd (eB sMulI (eB (dr2 sIx) (eVarB 0) (eC (.int 1))) (eC (.int 48271))) (eC (.int 37)))) (eC (.int 2147483647))) (eVar 0) (eC (.int 1)) [.sh (.loc n), .sh (.int wide), .no] (dl g n k [] mx) = .ok .non (dl g n k [] ((mx * 48271 + 37) % 2147483647)) := by
        unfold eSet3
        rw [h4]
        have c2 := dl_setn (xs := []) (mx := mx) (my := (mx * 48271 + 37) % 2147483647) h
        simp [Res.bind, eVar, eC, sPut, lstAt, dl_n h, L2.ixN]
        rw [← c2]
      unfold sDo
      rw [thenS_ok c1]
    · unfold sIf
      rw [thenS_ok hf]
      rfl
  · rw [List.concat_eq_append] at *
    refine ⟨ys ++ [x / wide], mx, x % wide, ?_, by simp at hz ⊢; omega, Int.emod_nonneg _ (by omega), Int.emod_lt_of_pos _ h0⟩
    refine er (.rt (.int (x % wide)) (dl g n k (ys ++ [x / wide]) mx)) ?_
    have hp := pop_at (xs := ys) (mx := mx) (env := [.sh (.loc n), .sh (.int wide), .no]) h rfl x
    have hin : sIf (eU asB (eB (dr2 sNe) dHead (eLst eNil))) (sSeq (sSet 2 (eU sPop dHead)) (sSeq (sDo (eApp dHead (eB sFdiv (eVarB 2) (eVarB 1)))) (sRet (eB sMod (eU (dr1 sInt) (eVarB 2)) (eVarB 1))))) sNil [.sh (.loc n), .sh (.int wide), .no] (dl g n k (ys ++ [x]) mx) = .rt (.int (x % wide)) (dl g n k (ys ++ [x / wide]) mx) := by
      unfold sIf
      rw [thenS_ok hf]
      simp only [List.append_eq_nil_iff, List.cons_ne_nil, and_false, decide_false, Bool.not_false, if_true]
      have s1 : sSet 2 (eU sPop dHead) [.sh (.loc n), .sh (.int wide), .no] (dl g n k (ys ++ [x]) mx) = .nx [.sh (.loc n), .sh (.int wide), .sh (.int x)] (dl g n k ys mx) := by
        unfold sSet
        rw [thenS_ok hp]
        rfl
      rw [seq_nx s1]
      have hh := head_at (xs := ys) (mx := mx) (env := [.sh (.loc n), .sh (.int wide), .sh (.int x)]) h rfl
      have s2 : sDo (eApp dHead (eB sFdiv (eVarB 2) (eVarB 1))) [.sh (.loc n), .sh (.int wide), .sh (.int x)] (dl g n k ys mx) = .nx [.sh (.loc n), .sh (.int wide), .sh (.int x)] (dl g n k (ys ++ [x / wide]) mx) := by
        have c1 : eApp dHead (eB sFdiv (eVarB 2) (eVarB 1)) [.sh (.loc n), .sh (.int wide), .sh (.int x)] (dl g n k ys mx) = .ok .non (dl g n k (ys ++ [x / wide]) mx) := by
          unfold eApp
          rw [hh]
          have d1 : eB sFdiv (eVarB 2) (eVarB 1) [.sh (.loc n), .sh (.int wide), .sh (.int x)] (dl g n k ys mx) = .ok (.int (x / wide)) (dl g n k ys mx) := by
            simp [eB, eVarB, Res.bind, sFdiv, h0, h1]
          have d2 := dl_setk (xs := ys) (ys := ys ++ [x / wide]) (mx := mx) h
          have d3 : ys.length < big := by simp at hz; unfold big; omega
          simp only [Res.bind, lstAt, dl_k h, Option.isSome_some, if_true, d1, sApp, List.length_map, d3]
          rw [← d2]
          simp
        unfold sDo
        rw [thenS_ok c1]
      rw [seq_nx s2]
      have f1 : eB sMod (eU (dr1 sInt) (eVarB 2)) (eVarB 1) [.sh (.loc n), .sh (.int wide), .sh (.int x)] (dl g n k (ys ++ [x / wide]) mx) = .ok (.int (x % wide)) (dl g n k (ys ++ [x / wide]) mx) := by
        simp [eB, eU, eVarB, Res.bind, dr1, dr, sInt, sMod, h0]
      unfold sRet
      rw [thenS_ok f1]
    exact seq_rt hin
/-! ### mixed -/
theorem erase_perm {α : Type} : ∀ (l : List α) (i : Nat) (h : i < l.length), (l[i] :: l.eraseIdx i).Perm l
  | a :: l, 0, _ => .refl _
  | a :: l, i + 1, h => by
    have ih := erase_perm l i (by simpa using h)
    simp only [List.getElem_cons_succ, List.eraseIdx_cons_succ]
    exact (List.Perm.swap _ _ _).trans (ih.cons a)
def mixedB (fd : Fn) : Sd := sAppPop 3 2 (eCall 2 fd (eCons (eVar 0) (eCons (eU (dr1 sLen) (eVarB 2)) eNil)))
abbrev mixedT : En Bool := eU asB (eB (dr2 sNe) (eVarB 2) (eLst eNil))
def mixedQ (fd : Fn) : Sd := sSeq (sParO 2 3 (eU (dr1 sList) (eVarB 1)) (eLst eNil)) (sSeq (sWhile 70 mixedT (mixedB fd)) (sRetO 3))
def mixedF (fd : Fn) : Fn := fnOfO 4 (mixedQ fd)
theorem mixed_while (h : DealOk g n k) (sm : D) : ∀ (m : Nat) (as bs : List D) (xs : List Int) (mx : Int), as.length < m → as.length ≤ 1000 → bs.length + as.length ≤ 1000 → xs.length < 70 → ∃ cs ys my, whileL mixedT (mixedB drawF) m [.sh (.loc n), .sh sm, .ow (.lst as), .ow (.lst bs)] (dl g n k xs mx) = .nx [.sh (.loc n), .sh sm, .ow (.lst []), .ow (.lst (bs ++ cs))] (dl g n k ys my) ∧ cs.Perm as ∧ ys.length ≤ xs.length
  | 0, _, _, _, _, hm, _, _, _ => by omega
  | m + 1, as, bs, xs, mx, hm, h1, h2, h3 => by
    have ht : mixedT [.sh (.loc n), .sh sm, .ow (.lst as), .ow (.lst bs)] (dl g n k xs mx) = .ok (!decide (as = [])) (dl g n k xs mx) := by
      have e := ne_nilD as
      simp only [mixedT, eU, eB, eVarB, eLst, eNil, Res.bind, dr2, dr, sNe, List.getElem?_cons_succ, List.getElem?_cons_zero, List.length_nil, Nat.zero_le, if_true, e, asB]
    cases as with
    | nil =>
      refine ⟨[], xs, mx, ?_, .refl _, Nat.le_refl _⟩
      rw [while_no (ht.trans rfl), List.append_nil]
    | cons a as =>
      obtain ⟨ys, my, r, ed, hy, r0, r1⟩ := draw_ok (g := g) (n := n) (k := k) (xs := xs) (mx := mx) h h3 (wide := ((a :: as).length : Int)) (by simp) (by simp at h1 ⊢; omega)
      have hr : r.toNat < (a :: as).length := by omega
      have hs : seqIndex? r (a :: as).length = some r.toNat := by
        unfold seqIndex?
        have e1 : ¬ r < 0 := by omega
        simp only [e1, if_false]
        have e2 : (decide (0 ≤ r) && decide (r < ((a :: as).length : Int))) = true := by simp [r0]; simpa using r1
        rw [if_pos e2]
      have hb : mixedB drawF [.sh (.loc n), .sh sm, .ow (.lst (a :: as)), .ow (.lst bs)] (dl g n k xs mx) = .nx [.sh (.loc n), .sh sm, .ow (.lst ((a :: as).eraseIdx r.toNat)), .ow (.lst (bs ++ [(a :: as)[r.toNat]]))] (dl g n k ys my) := by
        unfold mixedB sAppPop
        rw [if_pos ⟨rfl, rfl⟩]
        have ec : eCall 2 drawF (eCons (eVar 0) (eCons (eU (dr1 sLen) (eVarB 2)) eNil)) [.sh (.loc n), .sh sm, .ow (.lst (a :: as)), .ow (.lst bs)] (dl g n k xs mx) = .ok (.int r) (dl g n k ys my) := by
          have e1 : eCons (eVar 0) (eCons (eU (dr1 sLen) (eVarB 2)) eNil) [.sh (.loc n), .sh sm, .ow (.lst (a :: as)), .ow (.lst bs)] (dl g n k xs mx) = .ok [.loc n, .int ((a :: as).length : Int)] (dl g n k xs mx) := rfl
          unfold eCall
          rw [e1]
          simp only [Res.bind, List.length_cons, List.length_nil, if_true]
          rw [show (D.int ((as.length + 1 : Nat) : Int)) = D.int (((a :: as).length : Nat) : Int) from rfl, ed]
        rw [thenS_ok ec]
        have c : bs.length < big ∧ -(2 ^ 63) ≤ r ∧ r < 2 ^ 63 := by
          refine ⟨by simp at h2; unfold big; omega, by omega, ?_⟩
          simp at h1 r1
          omega
        simp only [putAppPop, List.getElem?_cons_succ, List.getElem?_cons_zero]
        rw [if_pos c, hs]
        simp only [List.getElem?_eq_getElem hr]
        rfl
      have he := List.length_eraseIdx_of_lt hr
      obtain ⟨cs, zs, mz, ew, pw, lw⟩ := mixed_while h sm m ((a :: as).eraseIdx r.toNat) (bs ++ [(a :: as)[r.toNat]]) ys my (by rw [he]; simp at hm ⊢; omega) (by rw [he]; simp at h1 ⊢; omega) (by rw [he]; simp at h2 ⊢; omega) (by omega)
      refine ⟨(a :: as)[r.toNat] :: cs, zs, mz, ?_, ?_, by omega⟩
      · rw [while_yes (ht.trans rfl) hb, ew, List.append_assoc]
        rfl
      · exact (pw.cons _).trans (erase_perm _ _ hr)
theorem mixed_ok (h : DealOk g n k) (hl : xs.length < 70) {ds : List D} (hd : ds.length < 70) : ∃ cs ys my, mixedF drawF [.loc n, .lst ds] (dl g n k xs mx) = .ok (.lst cs) (dl g n k ys my) ∧ cs.Perm ds ∧ ys.length ≤ xs.length := by
  obtain ⟨cs, ys, my, e, p, l⟩ := mixed_while h (.lst ds) 70 ds [] xs mx hd (by omega) (by simp; omega) hl
  refine ⟨cs, ys, my, ?_, p, l⟩
  unfold mixedF fnOfO mixedQ
  simp only [List.map, List.length_cons, List.length_nil, List.cons_append, List.nil_append, List.replicate]
  rw [seq_nx (env' := [.sh (.loc n), .sh (.lst ds), .ow (.lst ds), .ow (.lst [])]) (g' := dl g n k xs mx) (show sParO 2 3 (eU (dr1 sList) (eVarB 1)) (eLst eNil) [.sh (.loc n), .sh (.lst ds), .no, .no] (dl g n k xs mx) = _ from rfl), seq_nx (show sWhile 70 mixedT (mixedB drawF) [.sh (.loc n), .sh (.lst ds), .ow (.lst ds), .ow (.lst [])] (dl g n k xs mx) = _ from e)]
  rfl
/-! ### the deal is made -/
def dealQ (c1 c2 : Int) : Sd := sSeq (sSetO 2 (eLc (eU sIter (eSl (fun d l h g => sSlL (dr g d) l h g) (eVarB 0) (oSo (eVar 1)) (oSo (eC (.int 61))))) (tgN 4) tYesF (eU (dr1 sAbs) (eU (dr1 sInt) (eVarB 4))) [4])) (sSeq (sSet 3 (eB sAdd (eC (.int c1)) (eB sMulI (eC (.int c2)) (eVarB 1))))
  (sSeq (sUn [2] (sFor (eU sIter (eVar 2)) (tgN 4) (sSet 3 (eB sMod (eU (dr1 sInt) (eB sAdd (eB sAdd (eB sMulI (eVarB 3) (eC (.int 48271))) (eB sMod (eU (dr1 sInt) (eVarB 4)) (eC (.int 2147483629)))) (eC (.int 31)))) (eC (.int 2147483647))))))
  (sUn [2] (sRet (eNew (eLst (eCons (eNew (eU sRev (eLc (eU sIter (eVar 2)) (tgN 4) (eU asB (eB sGe (eVarB 4) (eB sPow (eC (.int 10)) (eC (.int 18))))) (eVar 4) [4]))) (eCons (eVar 3) eNil))))))))
def dealF (c1 c2 : Int) : Fn := fnOf 5 (dealQ c1 c2)
theorem cut_le {α : Type} (xs : List α) (lo : Option Int) : (cutL xs lo (some 61)).length ≤ 61 := by
  unfold cutL
  have h : HT.sIx xs.length xs.length (some 61) ≤ 61 := by
    unfold HT.sIx
    simp
    omega
  rw [List.length_take]
  omega
theorem compL_abs {e0 e1 e2 e3 : Slot} : ∀ (ns : List Int) (g : Sto), compL (tgN 4) tYesF (eU (dr1 sAbs) (eU (dr1 sInt) (eVarB 4))) [e0, e1, e2, e3, .no] (ns.map .int) g = some (ns.map fun i => .int (if i < 0 then -i else i), g)
  | [], g => rfl
  | i :: ns, g => by
    have ih := compL_abs (e0 := e0) (e1 := e1) (e2 := e2) (e3 := e3) ns g
    simp only [List.map_cons, compL, tgN, List.set, tYesF]
    have ee : (eU (dr1 sAbs) (eU (dr1 sInt) (eVarB 4))) [e0, e1, e2, e3, .sh (.int i)] g = .ok (.int (if i < 0 then -i else i)) g := rfl
    rw [ee]
    simp only [ih]
theorem compL_great {e0 e1 e2 e3 : Slot} : ∀ (ns : List Int) (g : Sto), compL (tgN 4) (eU asB (eB sGe (eVarB 4) (eB sPow (eC (.int 10)) (eC (.int 18))))) (eVar 4) [e0, e1, e2, e3, .no] (ns.map .int) g = some ((ns.filter fun i => decide ((10 : Int) ^ 18 ≤ i)).map .int, g)
  | [], g => rfl
  | i :: ns, g => by
    have ih := compL_great (e0 := e0) (e1 := e1) (e2 := e2) (e3 := e3) ns g
    simp only [List.map_cons, compL, tgN, List.set]
    have ee : (eU asB (eB sGe (eVarB 4) (eB sPow (eC (.int 10)) (eC (.int 18))))) [e0, e1, e2, e3, .sh (.int i)] g = .ok (decide ((10 : Int) ^ 18 ≤ i)) g := by
      have ep : (eB sPow (eC (.int 10)) (eC (.int 18))) [e0, e1, e2, e3, .sh (.int i)] g = .ok (.int (10 ^ 18)) g := by
        rw [eB_ok (sem := sPow) (eC_ok (d := .int 10)) (eC_ok (d := .int 18))]
        simp [sPow]
      rw [eU_ok (sem := asB) ((eB_ok (sem := sGe) (show eVarB 4 [e0, e1, e2, e3, .sh (.int i)] g = .ok (.int i) g from rfl) ep).trans (show sGe (.int i) (.int (10 ^ 18)) g = .ok (.bl (decide ((10 : Int) ^ 18 ≤ i))) g from rfl))]
      rfl
    rw [ee]
    by_cases c : (10 : Int) ^ 18 ≤ i
    · simp only [c, decide_true, List.filter_cons_of_pos, List.map_cons]
      have ev : eVar 4 [e0, e1, e2, e3, .sh (.int i)] g = .ok (.int i) g := rfl
      rw [ev]
      simp only [ih]
    · simp only [c, decide_false, ih]
      rw [List.filter_cons_of_neg (by simpa using c)]
abbrev dealB : Sd := sSet 3 (eB sMod (eU (dr1 sInt) (eB sAdd (eB sAdd (eB sMulI (eVarB 3) (eC (.int 48271))) (eB sMod (eU (dr1 sInt) (eVarB 4)) (eC (.int 2147483629)))) (eC (.int 31)))) (eC (.int 2147483647)))
theorem deal_for {e0 e1 e2 : Slot} {g : Sto} : ∀ (ns : List Int) (m : Int) (e4 : Slot), ∃ m' e4', forL (tgN 4) dealB (ns.map .int) [e0, e1, e2, .sh (.int m), e4] g = .nx [e0, e1, e2, .sh (.int m'), e4'] g
  | [], m, e4 => ⟨m, e4, rfl⟩
  | i :: ns, m, e4 => by
    have hb : dealB [e0, e1, e2, .sh (.int m), .sh (.int i)] g = .nx [e0, e1, e2, .sh (.int ((m * 48271 + i % 2147483629 + 31) % 2147483647)), .sh (.int i)] g := by
      unfold dealB sSet
      have a1 : (eB sMulI (eVarB 3) (eC (.int 48271))) [e0, e1, e2, .sh (.int m), .sh (.int i)] g = .ok (.int (m * 48271)) g := by
        rw [eB_ok (sem := sMulI) (show eVarB 3 [e0, e1, e2, .sh (.int m), .sh (.int i)] g = .ok (.int m) g from rfl) (eC_ok (d := .int 48271))]
        simp [sMulI]
      have a2 : (eB sMod (eU (dr1 sInt) (eVarB 4)) (eC (.int 2147483629))) [e0, e1, e2, .sh (.int m), .sh (.int i)] g = .ok (.int (i % 2147483629)) g := rfl
      have a3 := (eB_ok (sem := sAdd) a1 a2).trans (show sAdd (.int _) (.int _) g = .ok (.int (m * 48271 + i % 2147483629)) g from rfl)
      have a4 := (eB_ok (sem := sAdd) a3 (eC_ok (d := .int 31))).trans (show sAdd (.int _) (.int _) g = .ok (.int (m * 48271 + i % 2147483629 + 31)) g from rfl)
      have a5 := (eU_ok (sem := dr1 sInt) a4).trans (show dr1 sInt (.int _) g = .ok (.int (m * 48271 + i % 2147483629 + 31)) g from rfl)
      have a6 := (eB_ok (sem := sMod) a5 (eC_ok (d := .int 2147483647))).trans (show sMod (.int _) (.int _) g = .ok (.int ((m * 48271 + i % 2147483629 + 31) % 2147483647)) g from rfl)
      rw [thenS_ok a6]
      rfl
    obtain ⟨m', e4', e⟩ := deal_for (e0 := e0) (e1 := e1) (e2 := e2) (g := g) ns ((m * 48271 + i % 2147483629 + 31) % 2147483647) (.sh (.int i))
    refine ⟨m', e4', ?_⟩
    simp only [List.map_cons, forL, tgN, List.set]
    rw [hb]
    exact e
theorem cutL_map {α β : Type} (f : α → β) (xs : List α) (lo hi : Option Int) : cutL (xs.map f) lo hi = (cutL xs lo hi).map f := by
  unfold cutL
  rw [List.length_map, List.map_take, List.map_drop]
theorem deal_ok (c1 c2 i : Int) (hc : -(2 ^ 64) < c2 ∧ c2 < 2 ^ 64) (ns : List Int) (g0 : Sto) : ∃ xs mx, dealF c1 c2 [.frz (ns.map .int), .int i] g0 = .ok (.loc (g0.length + 1)) (dl (g0 ++ [.non, .non]) (g0.length + 1) g0.length xs mx) ∧ xs.length ≤ 61 := by
  obtain ⟨ms, em⟩ : ∃ ms : List Int, ms = (cutL ns (some i) (some 61)).map fun i => if i < 0 then -i else i := ⟨_, rfl⟩
  have lm : ms.length ≤ 61 := by rw [em, List.length_map]; exact cut_le ns (some i)
  obtain ⟨m', e4', ef⟩ := deal_for (e0 := .sh (.frz (ns.map .int))) (e1 := .sh (.int i)) (e2 := .sh (.lst (ms.map .int))) (g := g0) ms (c1 + c2 * i) .no
  refine ⟨(ms.filter fun i => decide ((10 : Int) ^ 18 ≤ i)).reverse, m', ?_, ?_⟩
  · unfold dealF fnOf dealQ
    simp only [List.map, List.length_cons, List.length_nil, List.cons_append, List.nil_append, List.replicate]
    have s1 : sSetO 2 (eLc (eU sIter (eSl (fun d l h g => sSlL (dr g d) l h g) (eVarB 0) (oSo (eVar 1)) (oSo (eC (.int 61))))) (tgN 4) tYesF (eU (dr1 sAbs) (eU (dr1 sInt) (eVarB 4))) [4]) [.sh (.frz (ns.map .int)), .sh (.int i), .no, .no, .no] g0 = .nx [.sh (.frz (ns.map .int)), .sh (.int i), .ow (.lst (ms.map .int)), .no, .no] g0 := by
      have a1 : (eU sIter (eSl (fun d l h g => sSlL (dr g d) l h g) (eVarB 0) (oSo (eVar 1)) (oSo (eC (.int 61))))) [.sh (.frz (ns.map .int)), .sh (.int i), .no, .no, .no] g0 = .ok ((cutL ns (some i) (some 61)).map .int) g0 := by
        rw [← cutL_map]
        rfl
      have a2 : eLc (eU sIter (eSl (fun d l h g => sSlL (dr g d) l h g) (eVarB 0) (oSo (eVar 1)) (oSo (eC (.int 61))))) (tgN 4) tYesF (eU (dr1 sAbs) (eU (dr1 sInt) (eVarB 4))) [4] [.sh (.frz (ns.map .int)), .sh (.int i), .no, .no, .no] g0 = .ok (.lst (ms.map .int)) g0 := by
        unfold eLc
        rw [a1]
        simp only [Res.bind]
        rw [show wipeE [.sh (.frz (ns.map .int)), .sh (.int i), .no, .no, .no] [4] = [.sh (.frz (ns.map .int)), .sh (.int i), .no, .no, .no] from rfl, compL_abs]
        have e3 : (cutL ns (some i) (some 61)).map (fun i => D.int (if i < 0 then -i else i)) = ms.map .int := by rw [em, List.map_map]; rfl
        rw [e3]
        simp only [List.length_map]
        rw [if_pos (by unfold big; omega)]
      unfold sSetO
      rw [thenS_ok a2]
      rfl
    rw [seq_nx s1]
    have s2 : sSet 3 (eB sAdd (eC (.int c1)) (eB sMulI (eC (.int c2)) (eVarB 1))) [.sh (.frz (ns.map .int)), .sh (.int i), .ow (.lst (ms.map .int)), .no, .no] g0 = .nx [.sh (.frz (ns.map .int)), .sh (.int i), .ow (.lst (ms.map .int)), .sh (.int (c1 + c2 * i)), .no] g0 := by
      have a1 : (eB sMulI (eC (.int c2)) (eVarB 1)) [.sh (.frz (ns.map .int)), .sh (.int i), .ow (.lst (ms.map .int)), .no, .no] g0 = .ok (.int (c2 * i)) g0 := by
        rw [eB_ok (sem := sMulI) (eC_ok (d := .int c2)) (show eVarB 1 [.sh (.frz (ns.map .int)), .sh (.int i), .ow (.lst (ms.map .int)), .no, .no] g0 = .ok (.int i) g0 from rfl)]
        simp only [sMulI]
        rw [if_pos (.inl hc)]
      have a2 := (eB_ok (sem := sAdd) (eC_ok (d := .int c1)) a1).trans (show sAdd (.int c1) (.int (c2 * i)) g0 = .ok (.int (c1 + c2 * i)) g0 from rfl)
      unfold sSet
      rw [thenS_ok a2]
      rfl
    rw [seq_nx s2]
    have s3 : sUn [2] (sFor (eU sIter (eVar 2)) (tgN 4) dealB) [.sh (.frz (ns.map .int)), .sh (.int i), .ow (.lst (ms.map .int)), .sh (.int (c1 + c2 * i)), .no] g0 = .nx [.sh (.frz (ns.map .int)), .sh (.int i), .sh (.lst (ms.map .int)), .sh (.int m'), e4'] g0 := by
      unfold sUn
      rw [show unown [2] [.sh (.frz (ns.map .int)), .sh (.int i), .ow (.lst (ms.map .int)), .sh (.int (c1 + c2 * i)), .no] = [.sh (.frz (ns.map .int)), .sh (.int i), .sh (.lst (ms.map .int)), .sh (.int (c1 + c2 * i)), .no] from rfl]
      unfold sFor
      rw [thenS_ok (show (eU sIter (eVar 2)) [.sh (.frz (ns.map .int)), .sh (.int i), .sh (.lst (ms.map .int)), .sh (.int (c1 + c2 * i)), .no] g0 = .ok (ms.map .int) g0 from rfl)]
      exact ef
    rw [seq_nx s3]
    unfold sUn
    rw [show unown [2] [.sh (.frz (ns.map .int)), .sh (.int i), .sh (.lst (ms.map .int)), .sh (.int m'), e4'] = [.sh (.frz (ns.map .int)), .sh (.int i), .sh (.lst (ms.map .int)), .sh (.int m'), e4'] from rfl]
    have b1 : eLc (eU sIter (eVar 2)) (tgN 4) (eU asB (eB sGe (eVarB 4) (eB sPow (eC (.int 10)) (eC (.int 18))))) (eVar 4) [4] [.sh (.frz (ns.map .int)), .sh (.int i), .sh (.lst (ms.map .int)), .sh (.int m'), e4'] g0 = .ok (.lst ((ms.filter fun i => decide ((10 : Int) ^ 18 ≤ i)).map .int)) g0 := by
      unfold eLc
      rw [show (eU sIter (eVar 2)) [.sh (.frz (ns.map .int)), .sh (.int i), .sh (.lst (ms.map .int)), .sh (.int m'), e4'] g0 = .ok (ms.map .int) g0 from rfl]
      simp only [Res.bind]
      rw [show wipeE [.sh (.frz (ns.map .int)), .sh (.int i), .sh (.lst (ms.map .int)), .sh (.int m'), e4'] [4] = [.sh (.frz (ns.map .int)), .sh (.int i), .sh (.lst (ms.map .int)), .sh (.int m'), .no] from rfl, compL_great]
      simp only [List.length_map]
      rw [if_pos (by have := List.length_filter_le (fun i => decide ((10 : Int) ^ 18 ≤ i)) ms; unfold big; omega)]
    have b2 := (eU_ok (sem := sRev) b1).trans (show sRev (.lst _) g0 = .ok (.lst (((ms.filter fun i => decide ((10 : Int) ^ 18 ≤ i)).map .int).reverse)) g0 from rfl)
    have b3 : eNew (eU sRev (eLc (eU sIter (eVar 2)) (tgN 4) (eU asB (eB sGe (eVarB 4) (eB sPow (eC (.int 10)) (eC (.int 18))))) (eVar 4) [4])) [.sh (.frz (ns.map .int)), .sh (.int i), .sh (.lst (ms.map .int)), .sh (.int m'), e4'] g0 = .ok (.loc g0.length) (g0 ++ [.lst (((ms.filter fun i => decide ((10 : Int) ^ 18 ≤ i)).map .int).reverse)]) := eU_ok b2
    have b4 := eCons_ok b3 (eCons_ok (show eVar 3 [.sh (.frz (ns.map .int)), .sh (.int i), .sh (.lst (ms.map .int)), .sh (.int m'), e4'] (g0 ++ [.lst (((ms.filter fun i => decide ((10 : Int) ^ 18 ≤ i)).map .int).reverse)]) = .ok (.int m') _ from rfl) (show eNil _ _ = .ok [] _ from rfl))
    have b5 := eU_ok (sem := fun ds g => if ds.length ≤ big then Res.ok (D.lst ds) g else .stuck) b4
    have b6 : eNew (eLst (eCons (eNew (eU sRev (eLc (eU sIter (eVar 2)) (tgN 4) (eU asB (eB sGe (eVarB 4) (eB sPow (eC (.int 10)) (eC (.int 18))))) (eVar 4) [4]))) (eCons (eVar 3) eNil))) [.sh (.frz (ns.map .int)), .sh (.int i), .sh (.lst (ms.map .int)), .sh (.int m'), e4'] g0 = .ok (.loc (g0.length + 1)) (g0 ++ [.lst (((ms.filter fun i => decide ((10 : Int) ^ 18 ≤ i)).map .int).reverse)] ++ [.lst [.loc g0.length, .int m']]) := by
      unfold eNew
      refine (eU_ok (sem := fun d g => Res.ok (D.loc g.length) (g ++ [d])) (show eLst _ _ _ = _ from b5.trans (if_pos (show 2 ≤ big by unfold big; omega)))).trans ?_
      simp
    unfold sRet
    rw [thenS_ok b6]
    have e7 : dl (g0 ++ [.non, .non]) (g0.length + 1) g0.length (ms.filter fun i => decide ((10 : Int) ^ 18 ≤ i)).reverse m' = g0 ++ [.lst (((ms.filter fun i => decide ((10 : Int) ^ 18 ≤ i)).map .int).reverse)] ++ [.lst [.loc g0.length, .int m']] := by
      unfold dl
      rw [List.set_append_right _ _ (Nat.le_refl _), List.set_append_right _ _ (Nat.le_succ _)]
      simp
    rw [e7]
  · rw [List.length_reverse]
    exact Nat.le_trans (List.length_filter_le _ _) lm
end
/-! ### the law's own call -/
theorem rl_ints {S : Stat} {m : Mv} {H : Hp} : ∀ ns : List Int, Rl S m H (ns.map .int) (ns.map V.int)
  | [] => .nil
  | x :: r => .cons (.int x) (rl_ints r)
theorem law_start {S : Stat} {H : Hp} {a : Addr} {ns : List Int} {F : Fn} {E : XK} (h : SqL S.K H a (ns.map V.int)) (hF : ∃ g', F [.frz (ns.map .int)] [] = .ok (.bl true) g') : Spec S 1 F [.ref a] H (fun v _ => v = .bl true) E := by
  obtain ⟨g', e⟩ := hF
  have fr : (⟨[], [], []⟩ : Mv).fr a := ⟨fun z => by simp at z, fun z => by simp at z⟩
  refine ⟨[.frz (ns.map .int)], [], ⟨[], [], []⟩, ⟨rfl, fun n d a e1 _ => by simp at e1, by simp, fun a z => by simp at z, fun a z => by simp at z, fun a z => by simp at z⟩, fun a z => by simp at z, .cons (.frz ?_ (rl_ints ns)) .nil, rfl, ?_⟩
  · rcases h with h | h
    · exact .inl ⟨h, fr⟩
    · exact .inr h
  · rw [e]
    exact fun v H' m' _ _ _ r => r.bl_inv
end Ev
/-! A reading that treats texts as names alone gives alike results for alike names. -/
namespace Ev
open PySem PySem.Spec PyProof.Rows L2
/-! ### guarded readings: no text is taken apart -/
def isStr : D → Bool
  | .str _ => true
  | _ => false
def nsA {γ : Type} (sem : D → D → Sto → Res γ) : D → D → Sto → Res γ := fun a b g => if isStr a = true then .stuck else sem a b g
def nsB {γ : Type} (sem : D → D → Sto → Res γ) : D → D → Sto → Res γ := fun a b g => if isStr b = true then .stuck else sem a b g
def ns1 {γ : Type} (sem : D → Sto → Res γ) : D → Sto → Res γ := fun a g => if isStr a = true then .stuck else sem a g
section
variable {X : Cx} {S : Stat} {W : WX}
/-- f tells no more than f' -/
def Le {α : Type} (f f' : En α) : Prop := ∀ env g, f env g = .stuck ∨ f env g = f' env g
theorem Tv.le {α β : Type} {R : Hp → Mv → Hp → α → β → Prop} {f f' : En α} (h : Le f f') {σ : St} {H : Hp} {Q : β → Hp → Prop} (q : Tv S R W f σ H Q) : Tv S R W f' σ H Q := by
  obtain ⟨env, g, m, r, p⟩ := q
  refine ⟨env, g, m, r, ?_⟩
  rcases h env g with e | e
  · rw [e] at p; exact p.elim
  · rw [← e]; exact p
theorem PE.le {e : Expr} {α : Type} {R : Hp → Mv → Hp → D → V → Prop} {f f' : E1} (h : PE X e (Tv S R W f')) (l : Le f f') : PE X e (Tv S R W f) := PE.to h fun _ _ _ q => q.le l
theorem le_eB {γ : Type} {sem sem' : D → D → Sto → Res γ} {fa fb : E1} (h : ∀ a b g, sem a b g = .stuck ∨ sem a b g = sem' a b g) : Le (eB sem fa fb) (eB sem' fa fb) := fun env g => by
  unfold eB
  cases fa env g with
  | stuck => exact .inl rfl
  | exc x g' => exact .inr rfl
  | ok a g1 =>
    simp only [Res.bind]
    cases fb env g1 with
    | stuck => exact .inl rfl
    | exc x g' => exact .inr rfl
    | ok b g2 => exact h a b g2
theorem le_eU {α γ : Type} {sem sem' : α → Sto → Res γ} {fa : En α} (h : ∀ a g, sem a g = .stuck ∨ sem a g = sem' a g) : Le (eU sem fa) (eU sem' fa) := fun env g => by
  unfold eU
  cases fa env g with
  | stuck => exact .inl rfl
  | exc x g' => exact .inr rfl
  | ok a g1 => exact h a g1
theorem nsA_le {γ : Type} (sem : D → D → Sto → Res γ) (a b : D) (g : Sto) : nsA sem a b g = .stuck ∨ nsA sem a b g = sem a b g := by
  unfold nsA; split
  · exact .inl rfl
  · exact .inr rfl
theorem nsB_le {γ : Type} (sem : D → D → Sto → Res γ) (a b : D) (g : Sto) : nsB sem a b g = .stuck ∨ nsB sem a b g = sem a b g := by
  unfold nsB; split
  · exact .inl rfl
  · exact .inr rfl
theorem ns1_le {γ : Type} (sem : D → Sto → Res γ) (a : D) (g : Sto) : ns1 sem a g = .stuck ∨ ns1 sem a g = sem a g := by
  unfold ns1; split
  · exact .inl rfl
  · exact .inr rfl
theorem Sem2.nsB {γ δ : Type} {Rc : Hp → Mv → Hp → γ → δ → Prop} {r : V → V → Hp → (δ → Hp → Prop) → Prop} {sem : D → D → Sto → Res γ} (h : Sem2 S W Rc r sem) : Sem2 S W Rc r (nsB sem) := fun σ H0 m g H a b x y Q ok fz ra rb p => by
  rcases nsB_le sem a b g with e | e
  · rw [e] at p; exact p.elim
  · rw [e] at p; exact h σ H0 m g H a b x y Q ok fz ra rb p
theorem q_ix {a b : Expr} {fa fb : E1} {pos : Pos} (hK : S.K = X.K) (ha : Pb X S W a fa) (hb : Pb X S W b fb) (hs : PlainIx b) : Pe X S W (.Subscript a b pos) (eB (nsA (dr2 sIx)) fa fb) :=
  PE.le (α := D) (e_ix hK ha hb hs) (le_eB fun a b g => nsA_le _ a b g)
theorem q_len {e : Expr} {f : E1} {p pos : Pos} (hK : S.K = X.K) (hg : Gl X "len") (hm : X.mg "len" = none) (he : Pb X S W e f) (hst : starEach [e] X.env = (false, eval e X.env) :: starEach [] X.env := by rfl) : Pe X S W (.Call (.Name "len" p) [e] [] pos) (eU (ns1 (dr1 sLen)) f) :=
  PE.le (α := D) (e_len hK hg hm he hst) (le_eU fun a g => ns1_le _ a g)
theorem q_seq {tg e : Expr} {f : E1} (hK : S.K = X.K) (he : Pe X S W e f) : Pi X S W tg e (eU (ns1 sIter) f) :=
  PI.to (i_seq hK he) fun σ H R ⟨env, g, m, r, p⟩ => by
    refine ⟨env, g, m, r, ?_⟩
    rcases le_eU (fa := f) (sem := ns1 sIter) (sem' := sIter) (fun a g => ns1_le _ a g) env g with e | e
    · rw [e] at p; exact p.elim
    · rw [← e]; exact p
theorem q_sl {e : Expr} {f : E1} {lo hi : Option Expr} {fl fh : En (Option Int)} {p2 pos : Pos} (hK : S.K = X.K) (he : Pb X S W e f) (hl : Po X S W lo fl) (hh : Po X S W hi fh) : Pe X S W (.Subscript e (.Slice lo hi none p2) pos) (eSl (fun d l h g => if isStr d = true then .stuck else sSlT (dr g d) l h g) f fl fh) :=
  PE.le (α := D) (e_sl hK he hl hh) fun env g => by
    unfold eSl
    cases f env g with
    | stuck => exact .inl rfl
    | exc x g' => exact .inr rfl
    | ok a g1 =>
      simp only [Res.bind]
      cases fl env g1 with
      | stuck => exact .inl rfl
      | exc x g' => exact .inr rfl
      | ok b g2 =>
        simp only
        cases fh env g2 with
        | stuck => exact .inl rfl
        | exc x g' => exact .inr rfl
        | ok c g3 =>
          simp only
          split
          · exact .inl rfl
          · exact .inr rfl
end
/-! ### alike trees -/
section
variable (ρ : Str → Str → Prop)
mutual
inductive Sm : D → D → Prop where
  | non : Sm .non .non
  | bl (b : Bool) : Sm (.bl b) (.bl b)
  | int (i : Int) : Sm (.int i) (.int i)
  | str {x y : Str} : ρ x y → Sm (.str x) (.str y)
  | lst {xs ys : List D} : Sml xs ys → Sm (.lst xs) (.lst ys)
  | tup {xs ys : List D} : Sml xs ys → Sm (.tup xs) (.tup ys)
inductive Sml : List D → List D → Prop where
  | nil : Sml [] []
  | cons {x y : D} {xs ys : List D} : Sm x y → Sml xs ys → Sml (x :: xs) (y :: ys)
end
inductive Sms : Slot → Slot → Prop where
  | no : Sms .no .no
  | sh {x y : D} : Sm ρ x y → Sms (.sh x) (.sh y)
  | ow {x y : D} : Sm ρ x y → Sms (.ow x) (.ow y)
inductive Sme : Env → Env → Prop where
  | nil : Sme [] []
  | cons {x y : Slot} {xs ys : Env} : Sms ρ x y → Sme xs ys → Sme (x :: xs) (y :: ys)
/-- what the second tells the first tells, too; the store stays empty -/
inductive RR {α β : Type} (R : α → β → Prop) : Res α → Res β → Prop where
  | ok {a : α} {b : β} : R a b → RR R (.ok a []) (.ok b [])
  | no {r : Res α} : RR R r .stuck
  | ex {r : Res α} {x : Xc} {g : Sto} : RR R r (.exc x g)
inductive SR : SRes → SRes → Prop where
  | nx {e e' : Env} : Sme ρ e e' → SR (.nx e []) (.nx e' [])
  | rt {d d' : D} : Sm ρ d d' → SR (.rt d []) (.rt d' [])
  | rtO {d d' : D} : Sm ρ d d' → SR (.rtO d []) (.rtO d' [])
  | bk {e e' : Env} : Sme ρ e e' → SR (.bk e []) (.bk e' [])
  | ct {e e' : Env} : Sme ρ e e' → SR (.ct e []) (.ct e' [])
  | no {r : SRes} : SR r .stuck
  | ex {r : SRes} {x : Xc} {e : Env} {g : Sto} : SR r (.exc x e g)
def BU : Prop := ∀ a b c d, ρ a b → ρ c d → (a = c ↔ b = d)
end
section
variable {ρ : Str → Str → Prop}
def ME {α : Type} (ρ : Str → Str → Prop) (R : α → α → Prop) (f : En α) : Prop := ∀ env env', Sme ρ env env' → RR R (f env []) (f env' [])
def MS (ρ : Str → Str → Prop) (f : Sd) : Prop := ∀ env env', Sme ρ env env' → SR ρ (f env []) (f env' [])
def MF (ρ : Str → Str → Prop) (F : Fn) : Prop := ∀ ds ds', Sml ρ ds ds' → RR (Sm ρ) (F ds []) (F ds' [])
abbrev M (ρ : Str → Str → Prop) (f : E1) : Prop := ME ρ (Sm ρ) f
abbrev Ml (ρ : Str → Str → Prop) (f : En (List D)) : Prop := ME ρ (Sml ρ) f
abbrev Mb (ρ : Str → Str → Prop) (f : En Bool) : Prop := ME ρ Eq f
theorem RR.bind {α β γ δ : Type} {R : α → β → Prop} {R2 : γ → δ → Prop} {r : Res α} {r' : Res β} {k : α → Sto → Res γ} {k' : β → Sto → Res δ} (h : RR R r r') (hk : ∀ a b, R a b → RR R2 (k a []) (k' b [])) : RR R2 (r.bind k) (r'.bind k') := by
  cases h with
  | ok h => exact hk _ _ h
  | no => exact .no
  | ex => exact .ex
theorem Sml.length : ∀ {xs ys : List D}, Sml ρ xs ys → xs.length = ys.length
  | _, _, .nil => rfl
  | _, _, .cons _ t => by simp [Sml.length t]
theorem Sml.append : ∀ {xs ys xs' ys' : List D}, Sml ρ xs ys → Sml ρ xs' ys' → Sml ρ (xs ++ xs') (ys ++ ys')
  | _, _, _, _, .nil, h => h
  | _, _, _, _, .cons r t, h => .cons r (Sml.append t h)
theorem Sml.take : ∀ {xs ys : List D} (n : Nat), Sml ρ xs ys → Sml ρ (xs.take n) (ys.take n)
  | _, _, 0, _ => .nil
  | _, _, _ + 1, .nil => .nil
  | _, _, n + 1, .cons r t => .cons r (Sml.take n t)
theorem Sml.drop : ∀ {xs ys : List D} (n : Nat), Sml ρ xs ys → Sml ρ (xs.drop n) (ys.drop n)
  | _, _, 0, r => r
  | _, _, _ + 1, .nil => .nil
  | _, _, n + 1, .cons _ t => Sml.drop n t
theorem Sml.get : ∀ {xs ys : List D} (i : Nat), Sml ρ xs ys → (xs[i]? = none ∧ ys[i]? = none) ∨ ∃ x y, xs[i]? = some x ∧ ys[i]? = some y ∧ Sm ρ x y
  | _, _, _, .nil => .inl ⟨by simp, by simp⟩
  | _, _, 0, .cons r _ => .inr ⟨_, _, rfl, rfl, r⟩
  | _, _, i + 1, .cons _ t => by simpa using Sml.get i t
theorem Sme.get : ∀ {xs ys : Env} (i : Nat), Sme ρ xs ys → (xs[i]? = none ∧ ys[i]? = none) ∨ ∃ x y, xs[i]? = some x ∧ ys[i]? = some y ∧ Sms ρ x y
  | _, _, _, .nil => .inl ⟨by simp, by simp⟩
  | _, _, 0, .cons r _ => .inr ⟨_, _, rfl, rfl, r⟩
  | _, _, i + 1, .cons _ t => by simpa using Sme.get i t
theorem Sme.set {s s' : Slot} (h : Sms ρ s s') : ∀ {xs ys : Env} (i : Nat), Sme ρ xs ys → Sme ρ (xs.set i s) (ys.set i s')
  | _, _, _, .nil => .nil
  | _, _, 0, .cons _ t => .cons h t
  | _, _, i + 1, .cons r t => .cons r (Sme.set h i t)
theorem Sme.wipe {xs ys : Env} (h : Sme ρ xs ys) : ∀ vs : List Nat, Sme ρ (wipeE xs vs) (wipeE ys vs)
  | [] => h
  | v :: vs => (Sme.wipe h vs).set .no v
theorem beq_alike {a b c d : Str} (e : a = b ↔ c = d) : (a == b) = (c == d) := Bool.eq_iff_iff.mpr (by rw [beq_iff_eq, beq_iff_eq]; exact e)
mutual
theorem deq_alike (bu : BU ρ) : ∀ (n : Nat) {a a' b b' : D}, Sm ρ a a' → Sm ρ b b' → deq n a b = deq n a' b'
  | n, _, _, _, _, .non, h => by cases h <;> cases n <;> simp [deq]
  | n, _, _, _, _, .bl x, h => by cases h <;> cases n <;> simp [deq]
  | n, _, _, _, _, .int x, h => by cases h <;> cases n <;> simp [deq]
  | n, _, _, _, _, .str r, h => by
    cases h with
    | @str x2 y2 r2 =>
      have e := bu _ _ _ _ r r2
      have e2 := beq_alike e
      cases n <;> simp only [deq, e2]
    | _ => cases n <;> simp [deq]
  | 0, _, _, _, _, .lst r, h => by cases h <;> simp [deq]
  | n + 1, _, _, _, _, .lst r, h => by
    cases h with
    | lst r2 => simp only [deq]; rw [r.length, r2.length, deqL_alike bu n r r2]
    | _ => simp [deq]
  | 0, _, _, _, _, .tup r, h => by cases h <;> simp [deq]
  | n + 1, _, _, _, _, .tup r, h => by
    cases h with
    | tup r2 => simp only [deq]; rw [r.length, r2.length, deqL_alike bu n r r2]
    | _ => simp [deq]
theorem deqL_alike (bu : BU ρ) : ∀ (n : Nat) {xs xs' ys ys' : List D}, Sml ρ xs xs' → Sml ρ ys ys' → deqL n xs ys = deqL n xs' ys'
  | n, _, _, _, _, .nil, _ => by simp [deqL]
  | n, _, _, _, _, .cons _ _, .nil => by simp [deqL]
  | n, _, _, _, _, .cons r t, .cons r2 t2 => by
    simp only [deqL]
    rw [deq_alike bu n r r2, deqL_alike bu n t t2]
end
/-! ### expressions -/
theorem m_var (i : Nat) : M ρ (eVar i) := fun env env' h => by
  unfold eVar
  rcases h.get i with ⟨e1, e2⟩ | ⟨x, y, e1, e2, r⟩
  · rw [e2]; exact .no
  · rw [e1, e2]
    cases r with
    | no => exact .no
    | sh r => exact .ok r
    | ow r => exact .no
theorem m_varB (i : Nat) : M ρ (eVarB i) := fun env env' h => by
  unfold eVarB
  rcases h.get i with ⟨e1, e2⟩ | ⟨x, y, e1, e2, r⟩
  · rw [e2]; exact .no
  · rw [e1, e2]
    cases r with
    | no => exact .no
    | sh r => exact .ok r
    | ow r => exact .ok r
theorem m_c {d : D} (h : Sm ρ d d) : M ρ (eC d) := fun _ _ _ => .ok h
theorem m_int (i : Int) : M ρ (eC (.int i)) := m_c (.int i)
theorem m_bl (b : Bool) : M ρ (eC (.bl b)) := m_c (.bl b)
theorem m_non : M ρ (eC .non) := m_c .non
def M2 {γ : Type} (ρ : Str → Str → Prop) (R : γ → γ → Prop) (sem : D → D → Sto → Res γ) : Prop := ∀ a a' b b', Sm ρ a a' → Sm ρ b b' → RR R (sem a b []) (sem a' b' [])
def M1 {γ : Type} (ρ : Str → Str → Prop) (R : γ → γ → Prop) (sem : D → Sto → Res γ) : Prop := ∀ a a', Sm ρ a a' → RR R (sem a []) (sem a' [])
theorem m_eB {γ : Type} {R : γ → γ → Prop} {sem : D → D → Sto → Res γ} {f h : E1} (hs : M2 ρ R sem) (hf : M ρ f) (hh : M ρ h) : ME ρ R (eB sem f h) := fun env env' r => (hf env env' r).bind fun a b ab => (hh env env' r).bind fun c d cd => hs a b c d ab cd
theorem m_eU {γ : Type} {R : γ → γ → Prop} {sem : D → Sto → Res γ} {f : E1} (hs : M1 ρ R sem) (hf : M ρ f) : ME ρ R (eU sem f) := fun env env' r => (hf env env' r).bind fun a b ab => hs a b ab
theorem m_asB : M1 ρ Eq asB := fun a a' h => by
  cases h with
  | bl b => exact .ok rfl
  | _ => exact .no
theorem dr_alike {a a' : D} (h : Sm ρ a a') : dr [] a = a ∧ dr [] a' = a' := by cases h <;> exact ⟨rfl, rfl⟩
theorem m2_dr {γ : Type} {R : γ → γ → Prop} {sem : D → D → Sto → Res γ} (h : M2 ρ R sem) : M2 ρ R (dr2 sem) := fun a a' b b' r1 r2 => by
  unfold dr2
  rw [(dr_alike r1).1, (dr_alike r1).2, (dr_alike r2).1, (dr_alike r2).2]
  exact h a a' b b' r1 r2
theorem m1_dr {γ : Type} {R : γ → γ → Prop} {sem : D → Sto → Res γ} (h : M1 ρ R sem) : M1 ρ R (dr1 sem) := fun a a' r1 => by
  unfold dr1
  rw [(dr_alike r1).1, (dr_alike r1).2]
  exact h a a' r1
theorem m2_eq (bu : BU ρ) : M2 ρ (Sm ρ) (dr2 sEq) := m2_dr fun a a' b b' r1 r2 => by
  unfold sEq
  rw [deq_alike bu 40 r1 r2]
  split
  · exact .ok (.bl _)
  · exact .no
theorem m2_ne (bu : BU ρ) : M2 ρ (Sm ρ) (dr2 sNe) := m2_dr fun a a' b b' r1 r2 => by
  unfold sNe
  rw [deq_alike bu 40 r1 r2]
  split
  · exact .ok (.bl _)
  · exact .no
theorem inL_alike (bu : BU ρ) {a a' : D} (r1 : Sm ρ a a') : ∀ {xs ys : List D}, Sml ρ xs ys → inL a xs = inL a' ys
  | _, _, .nil => rfl
  | _, _, .cons r t => by
    simp only [inL]
    rw [deq_alike bu 38 r r1, inL_alike bu r1 t]
theorem m2_in (bu : BU ρ) : M2 ρ (Sm ρ) (nsB (dr2 sIn)) := fun a a' b b' r1 r2 => by
  unfold nsB dr2 sIn
  rw [(dr_alike r1).1, (dr_alike r1).2, (dr_alike r2).1, (dr_alike r2).2]
  cases r2 with
  | lst r =>
    have e := inL_alike bu r1 r
    cases r1 <;> simp only [isStr, isIn, Bool.false_eq_true, if_false] <;> rw [e] <;> split <;> first | exact .ok (.bl _) | exact .no
  | tup r =>
    have e := inL_alike bu r1 r
    cases r1 <;> simp only [isStr, isIn, Bool.false_eq_true, if_false] <;> rw [e] <;> split <;> first | exact .ok (.bl _) | exact .no
  | str r => exact .no
  | _ => cases r1 <;> exact .no
theorem m2_notIn (bu : BU ρ) : M2 ρ (Sm ρ) (nsB (dr2 sNotIn)) := fun a a' b b' r1 r2 => by
  unfold nsB dr2 sNotIn
  rw [(dr_alike r1).1, (dr_alike r1).2, (dr_alike r2).1, (dr_alike r2).2]
  cases r2 with
  | lst r =>
    have e := inL_alike bu r1 r
    cases r1 <;> simp only [isStr, isIn, Bool.false_eq_true, if_false] <;> rw [e] <;> split <;> first | exact .ok (.bl _) | exact .no
  | tup r =>
    have e := inL_alike bu r1 r
    cases r1 <;> simp only [isStr, isIn, Bool.false_eq_true, if_false] <;> rw [e] <;> split <;> first | exact .ok (.bl _) | exact .no
  | str r => exact .no
  | _ => cases r1 <;> exact .no
theorem atI_alike {xs ys : List D} (r : Sml ρ xs ys) (i : Int) : (atI xs i = none ∧ atI ys i = none) ∨ ∃ x y, atI xs i = some x ∧ atI ys i = some y ∧ Sm ρ x y := by
  unfold L2.atI
  rw [r.length]
  cases L2.ixN ys.length i with
  | none => exact .inl ⟨rfl, rfl⟩
  | some j => exact r.get j
theorem m2_ix : M2 ρ (Sm ρ) (nsA (dr2 sIx)) := fun a a' b b' r1 r2 => by
  unfold nsA dr2
  rw [(dr_alike r1).1, (dr_alike r1).2, (dr_alike r2).1, (dr_alike r2).2]
  cases r1 with
  | lst r =>
    cases r2 with
    | int i =>
      simp only [isStr, Bool.false_eq_true, if_false, sIx]
      rcases atI_alike r i with ⟨e1, e2⟩ | ⟨x, y, e1, e2, q⟩
      · rw [e2]; exact .no
      · rw [e1, e2]; exact .ok q
    | _ => exact .no
  | tup r =>
    cases r2 with
    | int i =>
      simp only [isStr, Bool.false_eq_true, if_false, sIx]
      rcases atI_alike r i with ⟨e1, e2⟩ | ⟨x, y, e1, e2, q⟩
      · rw [e2]; exact .no
      · rw [e1, e2]; exact .ok q
    | _ => exact .no
  | str r => exact .no
  | _ => cases r2 <;> exact .no
theorem m1_len : M1 ρ (Sm ρ) (ns1 (dr1 sLen)) := fun a a' r1 => by
  unfold ns1 dr1
  rw [(dr_alike r1).1, (dr_alike r1).2]
  cases r1 with
  | lst r => simp only [isStr, Bool.false_eq_true, if_false, sLen]; rw [r.length]; exact .ok (.int _)
  | tup r => simp only [isStr, Bool.false_eq_true, if_false, sLen]; rw [r.length]; exact .ok (.int _)
  | str r => exact .no
  | _ => exact .no
theorem m1_iter : M1 ρ (Sml ρ) (ns1 sIter) := fun a a' r1 => by
  unfold ns1 sIter
  cases r1 with
  | lst r => simp only [isStr, Bool.false_eq_true, if_false, itemsOf]; exact .ok r
  | tup r => simp only [isStr, Bool.false_eq_true, if_false, itemsOf]; exact .ok r
  | str r => exact .no
  | _ => exact .no
/-- ints alone -/
theorem m2_int {sem : D → D → Sto → Res D} (h : ∀ a b, (∀ i j, ¬ (a = .int i ∧ b = .int j)) → sem a b [] = .stuck) (h2 : ∀ i j, RR (Sm ρ) (sem (.int i) (.int j) []) (sem (.int i) (.int j) [])) : M2 ρ (Sm ρ) sem := fun a a' b b' r1 r2 => by
  by_cases c : ∃ i j, a' = .int i ∧ b' = .int j
  · obtain ⟨i, j, rfl, rfl⟩ := c
    cases r1; cases r2
    exact h2 i j
  · rw [h a' b' fun i j z => c ⟨i, j, z⟩]; exact .no
theorem rr_self {r : Res D} (h : ∀ d g, r = .ok d g → g = [] ∧ Sm ρ d d) : RR (Sm ρ) r r := by
  cases r with
  | ok d g => obtain ⟨rfl, q⟩ := h d g rfl; exact .ok q
  | exc x g => exact .ex
  | stuck => exact .no
theorem m2_sub : M2 ρ (Sm ρ) sSub := m2_int (fun a b n => by cases a <;> cases b <;> first | rfl | exact absurd ⟨rfl, rfl⟩ (n _ _)) fun i j => .ok (.int _)
theorem m2_mul : M2 ρ (Sm ρ) sMulI := m2_int (fun a b n => by cases a <;> cases b <;> first | rfl | exact absurd ⟨rfl, rfl⟩ (n _ _)) fun i j => by
  simp only [sMulI]; split
  · exact .ok (.int _)
  · exact .no
theorem m2_cmp (p : Int → Int → Bool) : M2 ρ (Sm ρ) (sCmp p) := m2_int (fun a b n => by cases a <;> cases b <;> first | rfl | exact absurd ⟨rfl, rfl⟩ (n _ _)) fun i j => .ok (.bl _)
theorem m2_isN : M2 ρ (Sm ρ) sIsN := fun a a' b b' r1 r2 => by
  cases r2 with
  | non => cases r1 <;> exact .ok (.bl _)
  | _ => cases r1 <;> exact .no
theorem m2_notN : M2 ρ (Sm ρ) sNotN := fun a a' b b' r1 r2 => by
  cases r2 with
  | non => cases r1 <;> exact .ok (.bl _)
  | _ => cases r1 <;> exact .no
theorem m1_isi (T : String) : M1 ρ (Sm ρ) (dr1 (sIsi T)) := m1_dr fun a a' r => by
  cases r <;> exact .ok (.bl _)
theorem m1_rng : M1 ρ (Sml ρ) (fun d g => sRng (.int 0) d g) := fun a a' r => by
  cases r with
  | int i =>
    simp only [sRng]
    split
    · refine .ok ?_
      generalize List.range (i - 0).toNat = l
      induction l with
      | nil => exact .nil
      | cons x t ih => exact .cons (.int _) ih
    · exact .no
  | _ => exact .no
theorem m1_tuple : M1 ρ (Sm ρ) (dr1 sTuple) := m1_dr fun a a' r => by
  cases r with
  | lst q => exact .ok (.tup q)
  | tup q => exact .ok (.tup q)
  | _ => exact .no
theorem m_nil : Ml ρ eNil := fun _ _ _ => .ok .nil
theorem m_cons {f : E1} {fs : En (List D)} (hf : M ρ f) (hs : Ml ρ fs) : Ml ρ (eCons f fs) := fun env env' r => (hf env env' r).bind fun a b ab => (hs env env' r).bind fun c d cd => .ok (.cons ab cd)
theorem m_star {f : E1} {fs : En (List D)} (hf : M ρ f) (hs : Ml ρ fs) : Ml ρ (eStar f fs) := fun env env' r => (hf env env' r).bind fun a b ab => by
  cases ab with
  | lst q => exact (hs env env' r).bind fun c d cd => .ok (q.append cd)
  | tup q => exact (hs env env' r).bind fun c d cd => .ok (q.append cd)
  | _ => exact .no
theorem m_lst {fs : En (List D)} (hs : Ml ρ fs) : M ρ (eLst fs) := fun env env' r => (hs env env' r).bind fun a b ab => by
  dsimp only
  rw [ab.length]; split
  · exact .ok (.lst ab)
  · exact .no
theorem m_tup {fs : En (List D)} (hs : Ml ρ fs) : M ρ (eTup fs) := fun env env' r => (hs env env' r).bind fun a b ab => by
  dsimp only
  rw [ab.length]; split
  · exact .ok (.tup ab)
  · exact .no
theorem m_oNo : ME ρ Eq oNo := fun _ _ _ => .ok rfl
theorem m_oSo {f : E1} (h : M ρ f) : ME ρ Eq (oSo f) := fun env env' r => (h env env' r).bind fun a b ab => by
  cases ab with
  | int i => exact .ok rfl
  | _ => exact .no
theorem Sml.cut {xs ys : List D} (r : Sml ρ xs ys) (lo hi : Option Int) : Sml ρ (cutL xs lo hi) (cutL ys lo hi) := by
  unfold cutL
  rw [r.length]
  exact (r.drop _).take _
theorem m_slT {f : E1} {lo hi : En (Option Int)} (hf : M ρ f) (hl : ME ρ Eq lo) (hh : ME ρ Eq hi) : M ρ (eSl (fun d l h g => if isStr d = true then .stuck else sSlT (dr g d) l h g) f lo hi) := fun env env' r => (hf env env' r).bind fun a b ab => (hl env env' r).bind fun c d cd => (hh env env' r).bind fun u v uv => by
  subst cd uv
  dsimp only
  rw [(dr_alike ab).1, (dr_alike ab).2]
  cases ab with
  | tup q => exact .ok (.tup (q.cut _ _))
  | _ => exact .no
theorem pairs_alike : ∀ {xs xs' ys ys' : List D}, Sml ρ xs xs' → Sml ρ ys ys' → Sml ρ (pairsD xs ys) (pairsD xs' ys')
  | _, _, _, _, .nil, _ => .nil
  | _, _, _, _, .cons _ _, .nil => .nil
  | _, _, _, _, .cons r t, .cons r2 t2 => .cons (.tup (.cons r (.cons r2 .nil))) (pairs_alike t t2)
theorem m_zip {fs : En (List D)} (hs : Ml ρ fs) : M ρ (eU sZip fs) := fun env env' r => (hs env env' r).bind fun a b ab => by
  cases ab with
  | nil => exact .no
  | cons r1 ab =>
    cases ab with
    | nil => cases r1 <;> exact .no
    | cons r2 ab =>
      cases ab with
      | cons _ _ => cases r1 <;> cases r2 <;> exact .no
      | nil =>
        cases r1 with
        | tup q1 =>
          cases r2 with
          | tup q2 =>
            simp only [sZip]
            rw [q1.length]
            split
            · exact .ok (.lst (pairs_alike q1 q2))
            · exact .no
          | _ => exact .no
        | _ => cases r2 <;> exact .no
theorem mb_and {f h : En Bool} (hf : Mb ρ f) (hh : Mb ρ h) : Mb ρ (tAndF f h) := fun env env' r => (hf env env' r).bind fun a b ab => by
  subst ab
  cases a with
  | true => exact hh env env' r
  | false => exact .ok rfl
theorem mb_or {f h : En Bool} (hf : Mb ρ f) (hh : Mb ρ h) : Mb ρ (tOrF f h) := fun env env' r => (hf env env' r).bind fun a b ab => by
  subst ab
  cases a with
  | true => exact .ok rfl
  | false => exact hh env env' r
theorem mb_not {f : En Bool} (hf : Mb ρ f) : Mb ρ (tNotF f) := fun env env' r => (hf env env' r).bind fun a b ab => by
  subst ab; exact .ok rfl
theorem mb_yes : Mb ρ tYesF := fun _ _ _ => .ok rfl
/-! ### comprehensions, calls -/
def MT (ρ : Str → Str → Prop) (t : Tg) : Prop := ∀ d d' env env', Sm ρ d d' → Sme ρ env env' → ∃ e e', t d env = some e ∧ t d' env' = some e' ∧ Sme ρ e e'
theorem mt_n (i : Nat) : MT ρ (tgN i) := fun d d' env env' r1 r2 => ⟨_, _, rfl, rfl, r2.set (.sh r1) i⟩
/-- what the second gives the first gives, too -/
def OO (ρ : Str → Str → Prop) : Option (List D × Sto) → Option (List D × Sto) → Prop := fun o o' => ∀ ys g, o' = some (ys, g) → g = [] ∧ ∃ xs, o = some (xs, []) ∧ Sml ρ xs ys
theorem compL_alike {t : Tg} {c : En Bool} {e : E1} (ht : MT ρ t) (hc : Mb ρ c) (he : M ρ e) {env env' : Env} (r : Sme ρ env env') : ∀ {xs ys : List D}, Sml ρ xs ys → OO ρ (compL t c e env xs []) (compL t c e env' ys [])
  | _, _, .nil => fun ys g h => by
    simp only [compL, Option.some.injEq, Prod.mk.injEq] at h
    obtain ⟨rfl, rfl⟩ := h
    exact ⟨rfl, [], rfl, .nil⟩
  | _, _, .cons (x := x) (y := y) r1 rt => fun zs g h => by
    obtain ⟨e1, e2, q1, q2, q3⟩ := ht _ _ _ _ r1 r
    simp only [compL, q2] at h
    simp only [compL, q1]
    have ih := compL_alike ht hc he r rt
    have hb := hc e1 e2 q3
    cases w : c e2 [] with
    | stuck => rw [w] at h; cases h
    | exc x g' => rw [w] at h; cases h
    | ok b g1 =>
      rw [w] at hb h
      cases hc1 : c e1 [] with
      | stuck => rw [hc1] at hb; cases hb
      | exc x g' => rw [hc1] at hb; cases hb
      | ok b1 g2 =>
        rw [hc1] at hb
        cases hb with
        | ok eq =>
          subst eq
          cases b1 with
          | false => exact ih zs g h
          | true =>
            dsimp only at h ⊢
            have hd := he e1 e2 q3
            cases w2 : e e2 [] with
            | stuck => rw [w2] at h; cases h
            | exc x g' => rw [w2] at h; cases h
            | ok y2 g3 =>
              rw [w2] at hd h
              cases w3 : e e1 [] with
              | stuck => rw [w3] at hd; cases hd
              | exc x g' => rw [w3] at hd; cases hd
              | ok y1 g4 =>
                rw [w3] at hd
                cases hd with
                | ok hd =>
                  dsimp only at h ⊢
                  cases w4 : compL t c e env' _ [] with
                  | none => rw [w4] at h; cases h
                  | some p =>
                    obtain ⟨us, gu⟩ := p
                    rw [w4] at h
                    obtain ⟨rfl, vs, e5, e6⟩ := ih us gu w4
                    simp only [Option.some.injEq, Prod.mk.injEq] at h
                    obtain ⟨rfl, rfl⟩ := h
                    rw [e5]
                    exact ⟨rfl, _, rfl, .cons hd e6⟩
theorem m_lc {it : En (List D)} {t : Tg} {c : En Bool} {e : E1} {vs : List Nat} (hi : Ml ρ it) (ht : MT ρ t) (hc : Mb ρ c) (he : M ρ e) : M ρ (eLc it t c e vs) := fun env env' r => (hi env env' r).bind fun xs ys q => by
  have h := compL_alike ht hc he (r.wipe vs) q
  cases w : compL t c e (wipeE env' vs) ys [] with
  | none => exact .no
  | some p =>
    obtain ⟨us, g⟩ := p
    obtain ⟨rfl, zs, e1, e2⟩ := h us g w
    rw [e1]
    dsimp only
    rw [e2.length]
    split
    · exact .ok (.lst e2)
    · exact .no
theorem comp2L_alike {t1 t2 : Tg} {c1 c2 : En Bool} {it2 : En (List D)} {e : E1} {vs1 : List Nat} (ht : MT ρ t1) (hc : Mb ρ c1) (hi : Ml ρ it2) (ht2 : MT ρ t2) (hc2 : Mb ρ c2) (he : M ρ e) {env env' : Env} (r : Sme ρ env env') : ∀ {xs ys : List D}, Sml ρ xs ys → OO ρ (comp2L t1 c1 it2 t2 c2 e vs1 env xs []) (comp2L t1 c1 it2 t2 c2 e vs1 env' ys [])
  | _, _, .nil => fun ys g h => by
    simp only [comp2L, Option.some.injEq, Prod.mk.injEq] at h
    obtain ⟨rfl, rfl⟩ := h
    exact ⟨rfl, [], rfl, .nil⟩
  | _, _, .cons (x := x) (y := y) r1 rt => fun zs g h => by
    obtain ⟨e1, e2, q1, q2, q3⟩ := ht _ _ _ _ r1 r
    simp only [comp2L, q2] at h
    simp only [comp2L, q1]
    have ih := comp2L_alike (vs1 := vs1) ht hc hi ht2 hc2 he r rt
    have hb := hc e1 e2 q3
    cases w : c1 e2 [] with
    | stuck => rw [w] at h; cases h
    | exc x g' => rw [w] at h; cases h
    | ok b g1 =>
      rw [w] at hb h
      cases hc1 : c1 e1 [] with
      | stuck => rw [hc1] at hb; cases hb
      | exc x g' => rw [hc1] at hb; cases hb
      | ok b1 g2 =>
        rw [hc1] at hb
        cases hb with
        | ok eq =>
          subst eq
          cases b1 with
          | false => exact ih zs g h
          | true =>
            dsimp only at h ⊢
            have hd := hi e1 e2 q3
            cases w2 : it2 e2 [] with
            | stuck => rw [w2] at h; cases h
            | exc x g' => rw [w2] at h; cases h
            | ok y2 g3 =>
              rw [w2] at hd h
              cases w3 : it2 e1 [] with
              | stuck => rw [w3] at hd; cases hd
              | exc x g' => rw [w3] at hd; cases hd
              | ok y1 g4 =>
                rw [w3] at hd
                cases hd with
                | ok hd =>
                  dsimp only at h ⊢
                  have h5 := compL_alike ht2 hc2 he (q3.wipe vs1) hd
                  cases w5 : compL t2 c2 e (wipeE e2 vs1) y2 [] with
                  | none => rw [w5] at h; cases h
                  | some p =>
                    obtain ⟨us, gu⟩ := p
                    rw [w5] at h
                    obtain ⟨rfl, vs, e5, e6⟩ := h5 us gu w5
                    rw [e5]
                    dsimp only at h ⊢
                    cases w6 : comp2L t1 c1 it2 t2 c2 e vs1 env' _ [] with
                    | none => rw [w6] at h; cases h
                    | some p =>
                      obtain ⟨us2, gu2⟩ := p
                      rw [w6] at h
                      obtain ⟨rfl, vs2, e7, e8⟩ := ih us2 gu2 w6
                      simp only [Option.some.injEq, Prod.mk.injEq] at h
                      obtain ⟨rfl, rfl⟩ := h
                      rw [e7]
                      exact ⟨rfl, _, rfl, e6.append e8⟩
theorem m_lc2 {it it2 : En (List D)} {t1 t2 : Tg} {c1 c2 : En Bool} {e : E1} {vs vs1 : List Nat} (hi : Ml ρ it) (ht : MT ρ t1) (hc : Mb ρ c1) (hi2 : Ml ρ it2) (ht2 : MT ρ t2) (hc2 : Mb ρ c2) (he : M ρ e) : M ρ (eLc2 it t1 c1 it2 t2 c2 e vs vs1) := fun env env' r => (hi env env' r).bind fun xs ys q => by
  have h := comp2L_alike (vs1 := vs1) ht hc hi2 ht2 hc2 he (r.wipe vs) q
  cases w : comp2L t1 c1 it2 t2 c2 e vs1 (wipeE env' vs) ys [] with
  | none => exact .no
  | some p =>
    obtain ⟨us, g⟩ := p
    obtain ⟨rfl, zs, e1, e2⟩ := h us g w
    rw [e1]
    dsimp only
    rw [e2.length]
    split
    · exact .ok (.lst e2)
    · exact .no
theorem m_call {n : Nat} {F : Fn} {fs : En (List D)} (hF : MF ρ F) (hs : Ml ρ fs) : M ρ (eCall n F fs) := fun env env' r => (hs env env' r).bind fun a b ab => by
  rw [ab.length]
  split
  · have h := hF a b ab
    cases w : F b [] with
    | stuck => exact .no
    | exc x g => exact .no
    | ok d g =>
      rw [w] at h
      cases w2 : F a [] with
      | stuck => rw [w2] at h; cases h
      | exc x g => rw [w2] at h; cases h
      | ok d2 g2 =>
        rw [w2] at h
        cases h with
        | ok h => exact .ok h
  · exact .no
mutual
theorem flat_alike : ∀ {d d' : D}, Sm ρ d d' → flat d = flat d'
  | _, _, .non => rfl
  | _, _, .bl _ => rfl
  | _, _, .int _ => rfl
  | _, _, .str _ => rfl
  | _, _, .lst _ => rfl
  | _, _, .tup r => by simp only [flat]; exact flatL_alike r
theorem flatL_alike : ∀ {d d' : List D}, Sml ρ d d' → flatL d = flatL d'
  | _, _, .nil => rfl
  | _, _, .cons r t => by simp only [flatL]; rw [flat_alike r, flatL_alike t]
end
mutual
theorem noLoc_alike : ∀ {d d' : D}, Sm ρ d d' → noLoc d = noLoc d'
  | _, _, .non => rfl
  | _, _, .bl _ => rfl
  | _, _, .int _ => rfl
  | _, _, .str _ => rfl
  | _, _, .lst r => by simp only [noLoc]; exact noLocL_alike r
  | _, _, .tup r => by simp only [noLoc]; exact noLocL_alike r
theorem noLocL_alike : ∀ {d d' : List D}, Sml ρ d d' → noLocL d = noLocL d'
  | _, _, .nil => rfl
  | _, _, .cons r t => by simp only [noLocL]; rw [noLoc_alike r, noLocL_alike t]
end
theorem m_callP {n : Nat} {F : Fn} {fs : En (List D)} (hF : MF ρ F) (hs : Ml ρ fs) : M ρ (eCallP n F fs) := fun env env' r => (hs env env' r).bind fun a b ab => by
  rw [ab.length, noLocL_alike ab]
  split
  · have h := hF a b ab
    cases w : F b [] with
    | stuck => exact .no
    | exc x g => exact .no
    | ok d g =>
      rw [w] at h
      cases w2 : F a [] with
      | stuck => rw [w2] at h; cases h
      | exc x g => rw [w2] at h; cases h
      | ok d2 g2 =>
        rw [w2] at h
        cases h with
        | ok h =>
          dsimp only
          rw [flat_alike h]
          split
          · exact .ok h
          · exact .no
  · exact .no
/-! ### statements -/
theorem ms_nil : MS ρ sNil := fun env env' r => .nx r
theorem ms_then {α : Type} {R : α → α → Prop} {f : En α} {k : α → Env → Sto → SRes} (hf : ME ρ R f) (hk : ∀ a b env env', R a b → Sme ρ env env' → SR ρ (k a env []) (k b env' [])) : MS ρ (thenS f k) := fun env env' r => by
  have h := hf env env' r
  unfold thenS
  cases w : f env' [] with
  | stuck => exact .no
  | exc x g => exact .ex
  | ok b g =>
    rw [w] at h
    cases w2 : f env [] with
    | stuck => rw [w2] at h; cases h
    | exc x g => rw [w2] at h; cases h
    | ok a g2 =>
      rw [w2] at h
      cases h with
      | ok h => exact hk a b env env' h r
theorem ms_seq {f h : Sd} (hf : MS ρ f) (hh : MS ρ h) : MS ρ (sSeq f h) := fun env env' r => by
  have q := hf env env' r
  unfold sSeq
  cases w : f env' [] with
  | stuck => exact .no
  | exc x e g => exact .ex
  | nx e g =>
    rw [w] at q
    cases w2 : f env [] <;> rw [w2] at q <;> cases q
    rename_i q
    exact hh _ _ q
  | rt d g =>
    rw [w] at q
    cases w2 : f env [] <;> rw [w2] at q <;> cases q
    rename_i q
    exact .rt q
  | rtO d g =>
    rw [w] at q
    cases w2 : f env [] <;> rw [w2] at q <;> cases q
    rename_i q
    exact .rtO q
  | bk e g =>
    rw [w] at q
    cases w2 : f env [] <;> rw [w2] at q <;> cases q
    rename_i q
    exact .bk q
  | ct e g =>
    rw [w] at q
    cases w2 : f env [] <;> rw [w2] at q <;> cases q
    rename_i q
    exact .ct q
theorem ms_ret {f : E1} (h : M ρ f) : MS ρ (sRet f) := ms_then h fun _ _ _ _ r _ => .rt r
theorem ms_retF {f : E1} (h : M ρ f) : MS ρ (sRetF f) := ms_then h fun _ _ _ _ r _ => .rtO r
theorem ms_set {i : Nat} {f : E1} (h : M ρ f) : MS ρ (sSet i f) := ms_then h fun _ _ _ _ r q => .nx (q.set (.sh r) i)
theorem ms_setO {i : Nat} {f : E1} (h : M ρ f) : MS ρ (sSetO i f) := ms_then h fun _ _ _ _ r q => .nx (q.set (.ow r) i)
theorem ms_if {t : En Bool} {a b : Sd} (ht : Mb ρ t) (ha : MS ρ a) (hb : MS ρ b) : MS ρ (sIf t a b) := ms_then ht fun c c' env env' e r => by
  subst e
  cases c with
  | true => exact ha env env' r
  | false => exact hb env env' r
theorem un1_alike {env env' : Env} (r : Sme ρ env env') (i : Nat) : Sme ρ (unown1 env i) (unown1 env' i) := by
  unfold unown1
  rcases r.get i with ⟨e1, e2⟩ | ⟨x, y, e1, e2, q⟩
  · rw [e1, e2]; exact r
  · rw [e1, e2]
    cases q with
    | no => exact r
    | sh q => exact r
    | ow q => exact r.set (.sh q) i
theorem un_alike : ∀ (is : List Nat) {env env' : Env}, Sme ρ env env' → Sme ρ (unown is env) (unown is env')
  | [], _, _, r => r
  | i :: is, _, _, r => un_alike is (un1_alike r i)
theorem ms_un {is : List Nat} {f : Sd} (h : MS ρ f) : MS ρ (sUn is f) := fun env env' r => h _ _ (un_alike is r)
theorem own_alike {env env' : Env} (r : Sme ρ env env') (i : Nat) : isOwL env i = isOwL env' i := by
  unfold isOwL
  rcases r.get i with ⟨e1, e2⟩ | ⟨x, y, e1, e2, q⟩
  · rw [e1, e2]
  · rw [e1, e2]
    cases q with
    | no => rfl
    | sh q => rfl
    | ow q => cases q <;> rfl
theorem ms_append {i : Nat} {f : E1} (h : M ρ f) : MS ρ (sAppend i f) := fun env env' r => by
  unfold sAppend
  rw [own_alike r i]
  split
  · refine ms_then h (fun a b env env' ab r => ?_) env env' r
    unfold putApp
    rcases r.get i with ⟨e1, e2⟩ | ⟨x, y, e1, e2, q⟩
    · rw [e2]; exact .no
    · rw [e1, e2]
      cases q with
      | no => exact .no
      | sh q => exact .no
      | ow q =>
        cases q with
        | lst q =>
          dsimp only
          rw [q.length]
          split
          · exact .nx (r.set (.ow (.lst (q.append (.cons ab .nil)))) i)
          · exact .no
        | _ => exact .no
  · exact .no
theorem ms_extend {i : Nat} {f : E1} (h : M ρ f) : MS ρ (sExtend i f) := fun env env' r => by
  unfold sExtend
  rw [own_alike r i]
  split
  · refine ms_then h (fun a b env env' ab r => ?_) env env' r
    unfold putExt
    rcases r.get i with ⟨e1, e2⟩ | ⟨x, y, e1, e2, q⟩
    · rw [e2]; exact .no
    · rw [e1, e2]
      cases q with
      | no => exact .no
      | sh q => exact .no
      | ow q =>
        cases q with
        | lst q =>
          cases ab with
          | lst q2 =>
            dsimp only
            rw [q.length, q2.length]
            split
            · exact .nx (r.set (.ow (.lst (q.append q2))) i)
            · exact .no
          | _ => exact .no
        | _ => exact .no
  · exact .no
theorem ms_par {i j : Nat} {f h : E1} (hf : M ρ f) (hh : M ρ h) : MS ρ (sPar i j f h) := ms_then (m_cons hf (m_cons hh m_nil)) fun a b env env' ab r => by
  cases ab with
  | nil => exact .no
  | cons r1 t =>
    cases t with
    | nil => exact .no
    | cons r2 t =>
      cases t with
      | nil => exact .nx ((r.set (.sh r1) i).set (.sh r2) j)
      | cons _ _ => exact .no
theorem ms_aug {i : Nat} {p : Int → Int → Int} {f : E1} (h : M ρ f) : MS ρ (sAugI i p f) := fun env env' r => by
  unfold sAugI
  rcases r.get i with ⟨e1, e2⟩ | ⟨x, y, e1, e2, q⟩
  · rw [e2]; exact .no
  · rw [e1, e2]
    cases q with
    | no => exact .no
    | ow q => exact .no
    | sh q =>
      cases q with
      | int a =>
        refine ms_then h (fun c d env env' cd r => ?_) env env' r
        cases cd with
        | int b => exact .nx (r.set (.sh (.int _)) i)
        | _ => exact .no
      | _ => exact .no
theorem ms_retO {i : Nat} : MS ρ (sRetO i) := fun env env' r => by
  unfold sRetO
  rcases r.get i with ⟨e1, e2⟩ | ⟨x, y, e1, e2, q⟩
  · rw [e2]; exact .no
  · rw [e1, e2]
    cases q with
    | no => exact .no
    | sh q => exact .no
    | ow q => exact .rtO q
theorem ms_loop {t : Tg} {b : Sd} (ht : MT ρ t) (hb : MS ρ b) : ∀ {xs ys : List D}, Sml ρ xs ys → ∀ env env', Sme ρ env env' → SR ρ (forL t b xs env []) (forL t b ys env' [])
  | _, _, .nil, env, env', r => .nx r
  | _, _, .cons r1 rt, env, env', r => by
    obtain ⟨e1, e2, q1, q2, q3⟩ := ht _ _ _ _ r1 r
    simp only [forL, q1, q2]
    have q := hb e1 e2 q3
    have ih := ms_loop ht hb rt
    cases w : b e2 [] with
    | stuck => exact .no
    | exc x e g => exact .ex
    | nx e g =>
      rw [w] at q
      cases w2 : b e1 [] <;> rw [w2] at q <;> cases q
      rename_i q
      exact ih _ _ q
    | ct e g =>
      rw [w] at q
      cases w2 : b e1 [] <;> rw [w2] at q <;> cases q
      rename_i q
      exact ih _ _ q
    | rt d g =>
      rw [w] at q
      cases w2 : b e1 [] <;> rw [w2] at q <;> cases q
      rename_i q
      exact .rt q
    | rtO d g =>
      rw [w] at q
      cases w2 : b e1 [] <;> rw [w2] at q <;> cases q
      rename_i q
      exact .rtO q
    | bk e g =>
      rw [w] at q
      cases w2 : b e1 [] <;> rw [w2] at q <;> cases q
      rename_i q
      exact .nx q
theorem ms_for {it : En (List D)} {t : Tg} {b : Sd} (hi : Ml ρ it) (ht : MT ρ t) (hb : MS ρ b) : MS ρ (sFor it t b) := ms_then hi fun xs ys env env' q r => ms_loop ht hb q env env' r
theorem ms_while {t : En Bool} {b : Sd} (ht : Mb ρ t) (hb : MS ρ b) : ∀ n : Nat, MS ρ (sWhile n t b)
  | 0 => fun _ _ _ => .no
  | n + 1 => ms_then ht fun c c' env env' e r => by
    subst e
    cases c with
    | false => exact .nx r
    | true =>
      have q := hb env env' r
      have ih := ms_while ht hb n
      simp only [if_true]
      cases w : b env' [] with
      | stuck => exact .no
      | exc x e g => exact .ex
      | nx e g =>
        rw [w] at q
        cases w2 : b env [] <;> rw [w2] at q <;> cases q
        rename_i q
        exact ih _ _ q
      | ct e g =>
        rw [w] at q
        cases w2 : b env [] <;> rw [w2] at q <;> cases q
        rename_i q
        exact ih _ _ q
      | rt d g =>
        rw [w] at q
        cases w2 : b env [] <;> rw [w2] at q <;> cases q
        rename_i q
        exact .rt q
      | rtO d g =>
        rw [w] at q
        cases w2 : b env [] <;> rw [w2] at q <;> cases q
        rename_i q
        exact .rtO q
      | bk e g =>
        rw [w] at q
        cases w2 : b env [] <;> rw [w2] at q <;> cases q
        rename_i q
        exact .nx q
theorem start_alike (N : Nat) : ∀ {ds ds' : List D}, Sml ρ ds ds' → Sme ρ (ds.map Slot.sh ++ List.replicate N .no) (ds'.map Slot.sh ++ List.replicate N .no)
  | _, _, .nil => by
    simp only [List.map_nil, List.nil_append]
    induction N with
    | zero => exact .nil
    | succ n ih => exact .cons .no ih
  | _, _, .cons r t => .cons (.sh r) (start_alike N t)
theorem mf_of {N : Nat} {b : Sd} (h : MS ρ b) : MF ρ (fnOf N b) := fun ds ds' r => by
  unfold fnOf
  rw [r.length]
  have q := h _ _ (start_alike (N - ds'.length) r)
  cases w : b (ds'.map Slot.sh ++ List.replicate (N - ds'.length) .no) [] with
  | stuck => exact .no
  | exc x e g => exact .ex
  | bk e g => exact .no
  | ct e g => exact .no
  | nx e g =>
    rw [w] at q
    cases w2 : b (ds.map Slot.sh ++ List.replicate (N - ds'.length) .no) [] <;> rw [w2] at q <;> cases q
    exact .ok .non
  | rt d g =>
    rw [w] at q
    cases w2 : b (ds.map Slot.sh ++ List.replicate (N - ds'.length) .no) [] <;> rw [w2] at q <;> cases q
    rename_i q
    exact .ok q
  | rtO d g =>
    rw [w] at q
    cases w2 : b (ds.map Slot.sh ++ List.replicate (N - ds'.length) .no) [] <;> rw [w2] at q <;> cases q
    rename_i q
    exact .ok q
theorem mf_ofO {N : Nat} {b : Sd} (h : MS ρ b) : MF ρ (fnOfO N b) := fun ds ds' r => by
  unfold fnOfO
  rw [r.length]
  have q := h _ _ (start_alike (N - ds'.length) r)
  cases w : b (ds'.map Slot.sh ++ List.replicate (N - ds'.length) .no) [] with
  | rtO d g =>
    rw [w] at q
    cases w2 : b (ds.map Slot.sh ++ List.replicate (N - ds'.length) .no) [] <;> rw [w2] at q <;> cases q
    rename_i q
    exact .ok q
  | _ => exact .no
theorem mf_no : MF ρ fnNo := fun _ _ _ => .no
end
end Ev
namespace Lw
open PySem PySem.Spec PyProof.Rows L2 Ev
def top (i : Nat) : Stmt := PySem.Challenge.pw_poisonruns_k44_orders_that_stand_near.main.body.getD i (.Pass ⟨0, 0, 0, 0⟩)
abbrev St0 (K : PySem.W.Frag) : Stat := ⟨K, []⟩
structure Bl (mg : PySem.Str → Option Value) : Prop where
  abs : mg "abs" = none
  int : mg "int" = none
  isinstance : mg "isinstance" = none
  len : mg "len" = none
  list : mg "list" = none
  range : mg "range" = none
  sorted : mg "sorted" = none
  str : mg "str" = none
  tuple : mg "tuple" = none
  zip : mg "zip" = none
section
variable {P : Program} {w : World} {K : PySem.W.Frag} {mg : PySem.Str → Option Value} {base : Heap}
/-! ### _law_deal -/
abbrev s__law_deal : Stmt := top 6
theorem sc__law_deal : FnScope ["_law_script", "_law_base", "_law_cells", "_law_mixed_here", "_law_cell"] ["_law_script", "_law_base"] (defScope s__law_deal) := ⟨rfl, rfl, rfl, by decide +kernel, rfl, by decide +kernel, by decide +kernel⟩
def Q__law_deal : Sd := (sSeq (sSetO 2 (eLc (eU sIter (eSl (fun d l h g => sSlL (dr g d) l h g) (eVarB 0) (oSo (eVar 1)) (oSo (eC (.int 61))))) (tgN 4) tYesF (eU (dr1 sAbs) (eU (dr1 sInt) (eVarB 4))) [4])) (sSeq (sSet 3 (eB sAdd (eC (.int 49979687)) (eB sMulI (eC (.int 47)) (eVarB 1)))) (sSeq (sUn [2] (sFor (eU sIter (eVar 2)) (tgN 4) (sSet 3 (eB sMod (eU (dr1 sInt) (eB sAdd (eB sAdd (eB sMulI (eVarB 3) (eC (.int 48271))) (eB sMod (eU (dr1 sInt) (eVarB 4)) (eC (.int 2147483629)))) (eC (.int 31)))) (eC (.int 2147483647)))))) (sUn [2] (sRet (eNew (eLst (eCons (eNew (eU sRev (eLc (eU sIter (eVar 2)) (tgN 4) (eU asB (eB sGe (eVarB 4) (eB sPow (eC (.int 10)) (eC (.int 18))))) (eVar 4) [4]))) (eCons (eVar 3) eNil)))))))))
def F__law_deal : Fn := fnOf 5 Q__law_deal
theorem ok__law_deal (b : Bl mg) (G : Got K mg "_law_deal" s__law_deal) : Def P w K mg base (St0 K) "_law_deal" 1 ["_law_script", "_law_base"] F__law_deal :=
  def_mk (k := 0) G sc__law_deal (fun _ _ _ _ _ _ us hl => match us, hl with | [_, _], _ => rfl) fun f cdv A outer s H E hr => (ss_cons (s_lc (i := 2) (own := [("_law_cell", 4)]) rfl sc__law_deal.nd rfl rfl rfl (i_seq rfl (e_of (f_sl rfl (b_var (pv 0)) (o_so (e_var (pv 1))) (o_so e_int)))) (blkOk_by rfl) (fun _ _ _ _ _ => (g_name (i := 4) sc__law_deal.nd rfl (by first | exact Or.inl rfl | exact Or.inr rfl))) (fun _ _ _ _ _ => ts_nil) (fun _ _ _ _ _ => (e_abs rfl b.abs (b_of (e_int1 rfl b.int (b_var (pv 4)))))) (by decide)) (ss_cons (s_set (i := 3) sc__law_deal.nd rfl (by first | exact Or.inl rfl | exact Or.inr rfl) (e_add rfl (b_of e_int) (b_of (e_mul (b_of e_int) (b_var (pv 1)))))) (ss_cons (s_un [2] (s_for PassesOwn.never rfl (i_seq rfl (e_var (pv 2))) (g_name (i := 4) sc__law_deal.nd rfl (by first | exact Or.inl rfl | exact Or.inr rfl)) (ss_one (s_set (i := 3) sc__law_deal.nd rfl (by first | exact Or.inl rfl | exact Or.inr rfl) (e_mod (b_of (e_int1 rfl b.int (b_of (e_add rfl (b_of (e_add rfl (b_of (e_mul (b_var (pv 3)) (b_of e_int))) (b_of (e_mod (b_of (e_int1 rfl b.int (b_var (pv 4)))) (b_of e_int))))) (b_of e_int))))) (b_of e_int)))))) (ss_one (s_un [2] (s_ret (l_of (f_lst (a_cons (l_of (f_rev rfl (b_of (e_of (f_lc (own := [("_law_cell", 4)]) rfl sc__law_deal.nd (i_seq rfl (e_var (pv 2))) (blkOk_by rfl) (fun _ _ _ _ _ => (g_name (i := 4) sc__law_deal.nd rfl (by first | exact Or.inl rfl | exact Or.inr rfl))) (fun _ _ _ _ _ => (ts_one (t_cmp op_ge (sem_cmp _) (b_var (pv 4)) (b_of (e_pow (b_of e_int) (b_of e_int))) (nomark _)))) (fun _ _ _ _ _ => (e_var (pv 4))) (by decide)))))) (a_cons (e_var (pv 3)) a_nil))))))))))
/-! ### _law_draw -/
abbrev s__law_draw : Stmt := top 7
theorem sc__law_draw : FnScope ["_law_deal_here", "_law_wide", "_law_left"] ["_law_deal_here", "_law_wide"] (defScope s__law_draw) := ⟨rfl, rfl, rfl, by decide +kernel, rfl, by decide +kernel, by decide +kernel⟩
def Q__law_draw : Sd := (sSeq (sWhile 70 (tAndF (eU asB (eB (dr2 sNe) (eB (dr2 sIx) (eVarB 0) (eC (.int 0))) (eLst eNil))) (eU asB (eB (dr2 sEq) (eB (dr2 sIx) (eB (dr2 sIx) (eVarB 0) (eC (.int 0))) (eU sNeg (eC (.int 1)))) (eC (.int 0))))) (sDo (eU sPop (eB (dr2 sIx) (eVarB 0) (eC (.int 0)))))) (sSeq (sIf (eU asB (eB (dr2 sNe) (eB (dr2 sIx) (eVarB 0) (eC (.int 0))) (eLst eNil))) (sSeq (sSet 2 (eU sPop (eB (dr2 sIx) (eVarB 0) (eC (.int 0))))) (sSeq (sDo (eApp (eB (dr2 sIx) (eVarB 0) (eC (.int 0))) (eB sFdiv (eVarB 2) (eVarB 1)))) (sRet (eB sMod (eU (dr1 sInt) (eVarB 2)) (eVarB 1))))) sNil) (sSeq (sDo (eSet3 sPut (eB sMod (eU (dr1 sInt) (eB sAdd (eB sMulI (eB (dr2 sIx) (eVarB 0) (eC (.int 1))) (eC (.int 48271))) (eC (.int 37)))) (eC (.int 2147483647))) (eVar 0) (eC (.int 1)))) (sRet (eB sMod (eU (dr1 sInt) (eB sFdiv (eB (dr2 sIx) (eVarB 0) (eC (.int 1))) (eC (.int 16)))) (eVarB 1))))))
def F__law_draw : Fn := fnOf 3 Q__law_draw
theorem ok__law_draw (b : Bl mg) (G : Got K mg "_law_draw" s__law_draw) : Def P w K mg base (St0 K) "_law_draw" 1 ["_law_deal_here", "_law_wide"] F__law_draw :=
  def_mk (k := 0) G sc__law_draw (fun _ _ _ _ _ _ us hl => match us, hl with | [_, _], _ => rfl) fun f cdv A outer s H E hr => (ss_cons (s_while 70 PassesOwn.never (PW.pt (w_and (t_cmp (op_neX rfl (unitsOf hr)) (Sem2.dr sem_ne) (b_of (e_ix rfl (b_var (pv 0)) (b_of e_int) (fun _ _ => rfl))) (b_of (e_of (f_lst a_nil))) (nomark _)) (w_and1 (t_cmp (op_eqX rfl (unitsOf hr)) (Sem2.dr sem_eq) (b_of (e_ix rfl (b_of (e_ix rfl (b_var (pv 0)) (b_of e_int) (fun _ _ => rfl))) (b_of (e_neg e_int)) (fun _ _ => rfl))) (b_of e_int) (nomark _))))) (ss_one (s_do (e_popS (e_ix rfl (b_var (pv 0)) (b_of e_int) (fun _ _ => rfl)))))) (ss_cons (s_if (t_cmp (op_neX rfl (unitsOf hr)) (Sem2.dr sem_ne) (b_of (e_ix rfl (b_var (pv 0)) (b_of e_int) (fun _ _ => rfl))) (b_of (e_of (f_lst a_nil))) (nomark _)) (ss_cons (s_set (i := 2) sc__law_draw.nd rfl (by first | exact Or.inl rfl | exact Or.inr rfl) (e_popS (e_ix rfl (b_var (pv 0)) (b_of e_int) (fun _ _ => rfl)))) (ss_cons (s_do (e_appS (e_ix rfl (b_var (pv 0)) (b_of e_int) (fun _ _ => rfl)) (e_fdiv (b_var (pv 2)) (b_var (pv 1))))) (ss_one (s_ret (e_mod (b_of (e_int1 rfl b.int (b_var (pv 2)))) (b_var (pv 1))))))) ss_nil) (ss_cons (s_putS (e_mod (b_of (e_int1 rfl b.int (b_of (e_add rfl (b_of (e_mul (b_of (e_ix rfl (b_var (pv 0)) (b_of e_int) (fun _ _ => rfl))) (b_of e_int))) (b_of e_int))))) (b_of e_int)) (e_var (pv 0)) e_int) (ss_one (s_ret (e_mod (b_of (e_int1 rfl b.int (b_of (e_fdiv (b_of (e_ix rfl (b_var (pv 0)) (b_of e_int) (fun _ _ => rfl))) (b_of e_int))))) (b_var (pv 1))))))))
/-! ### _law_mixed -/
abbrev s__law_mixed : Stmt := top 8
theorem sc__law_mixed : FnScope ["_law_deal_here", "_law_some", "_law_left", "_law_found"] ["_law_deal_here", "_law_some"] (defScope s__law_mixed) := ⟨rfl, rfl, rfl, by decide +kernel, rfl, by decide +kernel, by decide +kernel⟩
def Q__law_mixed : Sd := (sSeq (sParO 2 3 (eU (dr1 sList) (eVarB 1)) (eLst eNil)) (sSeq (sWhile 70 (eU asB (eB (dr2 sNe) (eVarB 2) (eLst eNil))) (sAppPop 3 2 (eCall 2 F__law_draw (eCons (eVar 0) (eCons (eU (dr1 sLen) (eVarB 2)) eNil))))) (sRetO 3)))
def F__law_mixed : Fn := fnOfO 4 Q__law_mixed
theorem ok__law_mixed (b : Bl mg) (G : Got K mg "_law_mixed" s__law_mixed) (d__law_draw : Def P w K mg base (St0 K) "_law_draw" 1 ["_law_deal_here", "_law_wide"] F__law_draw) : DefO P w K mg base (St0 K) "_law_mixed" 2 ["_law_deal_here", "_law_some"] F__law_mixed :=
  defO_mk (k := 1) G sc__law_mixed (fun _ _ _ _ _ _ us hl => match us, hl with | [_, _], _ => rfl) fun f cdv A outer s H E hr => (ss_cons (s_parO (i := 2) (j := 3) rfl sc__law_mixed.nd rfl rfl (by decide) rfl rfl (f_list rfl rfl b.list (b_var (pv 1))) (f_lst a_nil) rfl) (ss_cons (s_while 70 PassesOwn.never (t_cmp (op_neX rfl (unitsOf hr)) (Sem2.dr sem_ne) (b_var (pv 2)) (b_of (e_of (f_lst a_nil))) (nomark _)) (ss_one (s_appPop (by decide) (pv 3) (pv 2) (c_call d__law_draw (hr.mono (by omega)) rfl (a_cons (e_var (pv 0)) (a_cons (e_len rfl rfl b.len (b_var (pv 2))) a_nil)))))) (ss_one (s_retO (pv 3)))))
/-! ### neighbours -/
abbrev s_neighbours : Stmt := top 2
theorem sc_neighbours : FnScope ["order"] ["order"] (defScope s_neighbours) := ⟨rfl, rfl, rfl, by decide +kernel, rfl, by decide +kernel, by decide +kernel⟩
def Q_neighbours : Sd := (sRetF (eU sZip (eCons (eVar 0) (eCons (eSl (fun d l h g => if isStr d = true then .stuck else sSlT (dr g d) l h g) (eVarB 0) (oSo (eC (.int 1))) oNo) eNil))))
def F_neighbours : Fn := fnOfO 1 Q_neighbours
theorem ok_neighbours (b : Bl mg) (G : Got K mg "neighbours" s_neighbours) : DefO P w K mg base (St0 K) "neighbours" 1 ["order"] F_neighbours :=
  defO_mk (k := 0) G sc_neighbours (fun _ _ _ _ _ _ us hl => match us, hl with | [_], _ => rfl) fun f cdv A outer s H E hr => (ss_one (s_retF (f_listZip rfl rfl rfl b.list rfl b.zip (a_cons (e_var (pv 0)) (a_cons (q_sl rfl (b_var (pv 0)) (o_so e_int) o_no) a_nil)))))
/-! ### with_few -/
abbrev s_with_few : Stmt := top 3
theorem sc_with_few : FnScope ["orders", "pairs", "many", "order", "left", "rest", "pair"] ["orders", "pairs", "many"] (defScope s_with_few) := ⟨rfl, rfl, rfl, by decide +kernel, rfl, by decide +kernel, by decide +kernel⟩
def Qr_with_few (F_self : Fn) : Sd := (sSeq (sIf (eU asB (eB (dr2 sEq) (eU (ns1 (dr1 sLen)) (eVarB 1)) (eC (.int 0)))) (sRet (eTup eNil)) sNil) (sSeq (sIf (eU asB (eB sLt (eB sMulI (eVarB 2) (eB sSub (eU (ns1 (dr1 sLen)) (eB (nsA (dr2 sIx)) (eVarB 0) (eC (.int 0)))) (eC (.int 1)))) (eU (ns1 (dr1 sLen)) (eVarB 1)))) (sRet (eC .non)) sNil) (sSeq (sFor (eU (ns1 sIter) (eLc (eU (ns1 sIter) (eVar 0)) (tgN 3) (eU asB (eB (nsB (dr2 sIn)) (eB (nsA (dr2 sIx)) (eVarB 1) (eC (.int 0))) (eCall 1 F_neighbours (eCons (eVar 3) eNil)))) (eVar 3) [3])) (tgN 3) (sSeq (sSetO 4 (eLc (eU (ns1 sIter) (eVar 1)) (tgN 6) (eU asB (eB (nsB (dr2 sNotIn)) (eVarB 6) (eCall 1 F_neighbours (eCons (eVar 3) eNil)))) (eVar 6) [6])) (sSeq (sSet 5 (eCallP 3 F_self (eCons (eVarB 0) (eCons (eVarB 4) (eCons (eB sSub (eVarB 2) (eC (.int 1))) eNil))))) (sIf (eU asB (eB sNotN (eVarB 5) (eC .non))) (sRet (eTup (eCons (eVar 3) (eStar (eVarB 5) eNil)))) sNil)))) (sRet (eC .non)))))
def F_with_few : Nat → Fn
  | 0 => fnNo
  | k + 1 => fnOf 7 (Qr_with_few (F_with_few k))
theorem ok_with_few (b : Bl mg) (G : Got K mg "with_few" s_with_few) (d_neighbours : DefO P w K mg base (St0 K) "neighbours" 1 ["order"] F_neighbours) : ∀ k : Nat, Def P w K mg base (St0 K) "with_few" (2 + k) ["orders", "pairs", "many"] (F_with_few k)
  | 0 => def_no G (fun _ _ _ _ _ _ us hl => match us, hl with | [_, _, _], _ => rfl)
  | k + 1 => have d_with_few := ok_with_few b G d_neighbours k
    def_mk (k := 2 + k) G sc_with_few (fun _ _ _ _ _ _ us hl => match us, hl with | [_, _, _], _ => rfl) fun f cdv A outer s H E hr => (ss_cons (s_if (t_cmp (op_eqX rfl (unitsOf hr)) (Sem2.dr sem_eq) (b_of (q_len rfl rfl b.len (b_var (pv 1)))) (b_of e_int) (nomark _)) (ss_one (s_ret (e_tup a_nil))) ss_nil) (ss_cons (s_if (t_cmp op_lt (sem_cmp _) (b_of (e_mul (b_var (pv 2)) (b_of (e_sub (b_of (q_len rfl rfl b.len (b_of (q_ix rfl (b_var (pv 0)) (b_of e_int) (fun _ _ => rfl))))) (b_of e_int))))) (b_of (q_len rfl rfl b.len (b_var (pv 1)))) (nomark _)) (ss_one (s_ret e_non)) ss_nil) (ss_cons (s_for PassesOwn.never rfl (q_seq rfl (e_of (f_lc (own := [("order", 3)]) rfl sc_with_few.nd (q_seq rfl (e_var (pv 0))) (blkOk_by rfl) (fun _ _ _ _ _ => (g_name (i := 3) sc_with_few.nd rfl (by first | exact Or.inl rfl | exact Or.inr rfl))) (fun _ _ _ _ _ => (ts_one (t_cmp (op_inX rfl (unitsOf hr)) (Sem2.nsB (Sem2.dr sem_in)) (b_of (q_ix rfl (b_var (pv 1)) (b_of e_int) (fun _ _ => rfl))) (b_of (e_of (c_callO d_neighbours (hr.mono (by omega)) rfl (a_cons (e_var (pv 3)) a_nil)))) rfl))) (fun _ _ _ _ _ => (e_var (pv 3))) (by decide)))) (g_name (i := 3) sc_with_few.nd rfl (by first | exact Or.inl rfl | exact Or.inr rfl)) (ss_cons (s_lc (i := 4) (own := [("pair", 6)]) rfl sc_with_few.nd rfl rfl rfl (q_seq rfl (e_var (pv 1))) (blkOk_by rfl) (fun _ _ _ _ _ => (g_name (i := 6) sc_with_few.nd rfl (by first | exact Or.inl rfl | exact Or.inr rfl))) (fun _ _ _ _ _ => (ts_one (t_cmp (op_notInX rfl (unitsOf hr)) (Sem2.nsB (Sem2.dr sem_notIn)) (b_var (pv 6)) (b_of (e_of (c_callO d_neighbours (hr.mono (by omega)) rfl (a_cons (e_var (pv 3)) a_nil)))) rfl))) (fun _ _ _ _ _ => (e_var (pv 6))) (by decide)) (ss_cons (s_set (i := 5) sc_with_few.nd rfl (by first | exact Or.inl rfl | exact Or.inr rfl) (c_callP d_with_few (hr.mono (by omega)) rfl (bs_cons (b_var (pv 0)) (bs_cons (b_var (pv 4)) (bs_cons (b_of (e_sub (b_var (pv 2)) (b_of e_int))) bs_nil))))) (ss_one (s_if (t_cmp op_notN sem_notN (b_var (pv 5)) (b_of e_non) (nomark _)) (ss_one (s_ret (e_tup (a_cons (e_var (pv 3)) (a_star rfl (b_var (pv 5)) a_nil))))) ss_nil))))) (ss_one (s_ret e_non)))))
/-! ### orders_of -/
abbrev s_orders_of : Stmt := top 1
theorem sc_orders_of : FnScope ["names", "found", "turn", "longer", "order", "name"] ["names"] (defScope s_orders_of) := ⟨rfl, rfl, rfl, by decide +kernel, rfl, by decide +kernel, by decide +kernel⟩
def Q_orders_of : Sd := (sSeq (sSet 1 (eLst (eCons (eTup eNil) eNil))) (sSeq (sFor (eU (fun d g => sRng (.int 0) d g) (eU (ns1 (dr1 sLen)) (eVarB 0))) (tgN 2) (sSeq (sSetO 3 (eLst eNil)) (sSeq (sFor (eU (ns1 sIter) (eVar 1)) (tgN 4) (sExtend 3 (eLc (eU (ns1 sIter) (eVar 0)) (tgN 5) (eU asB (eB (nsB (dr2 sNotIn)) (eVarB 5) (eVarB 4))) (eTup (eStar (eVarB 4) (eCons (eVar 5) eNil))) [5]))) (sUn [3] (sSet 1 (eVar 3)))))) (sRet (eVar 1))))
def F_orders_of : Fn := fnOf 6 Q_orders_of
theorem ok_orders_of (b : Bl mg) (G : Got K mg "orders_of" s_orders_of) : Def P w K mg base (St0 K) "orders_of" 1 ["names"] F_orders_of :=
  def_mk (k := 0) G sc_orders_of (fun _ _ _ _ _ _ us hl => match us, hl with | [_], _ => rfl) fun f cdv A outer s H E hr => (ss_cons (s_set (i := 1) sc_orders_of.nd rfl (by first | exact Or.inl rfl | exact Or.inr rfl) (e_of (f_lst (a_cons (e_tup a_nil) a_nil)))) (ss_cons (s_for PassesOwn.never rfl (i_range1 rfl b.range (q_len rfl rfl b.len (b_var (pv 0)))) (g_name (i := 2) sc_orders_of.nd rfl (by first | exact Or.inl rfl | exact Or.inr rfl)) (ss_cons (s_setO (i := 3) sc_orders_of.nd rfl (by first | exact Or.inl rfl | exact Or.inr rfl) (f_lst a_nil)) (ss_cons (s_for PassesOwn.never rfl (q_seq rfl (e_var (pv 1))) (g_name (i := 4) sc_orders_of.nd rfl (by first | exact Or.inl rfl | exact Or.inr rfl)) (ss_one (s_extend (pv 3) (e_of (f_lc (own := [("name", 5)]) rfl sc_orders_of.nd (q_seq rfl (e_var (pv 0))) (blkOk_by rfl) (fun _ _ _ _ _ => (g_name (i := 5) sc_orders_of.nd rfl (by first | exact Or.inl rfl | exact Or.inr rfl))) (fun _ _ _ _ _ => (ts_one (t_cmp (op_notInX rfl (unitsOf hr)) (Sem2.nsB (Sem2.dr sem_notIn)) (b_var (pv 5)) (b_var (pv 4)) rfl))) (fun _ _ _ _ _ => (e_tup (a_star rfl (b_var (pv 4)) (a_cons (e_var (pv 5)) a_nil)))) (by decide)))))) (ss_one (s_un [3] (s_set (i := 1) sc_orders_of.nd rfl (by first | exact Or.inl rfl | exact Or.inr rfl) (e_var (pv 3)))))))) (ss_one (s_ret (e_var (pv 1))))))
/-! ### near -/
abbrev s_near : Stmt := top 4
theorem sc_near : FnScope ["names", "pairs", "found", "orders", "many", "one", "other"] ["names"] (defScope s_near) := ⟨rfl, rfl, rfl, by decide +kernel, rfl, by decide +kernel, by decide +kernel⟩
def Q_near : Sd := (sSeq (sSetO 1 (eLc2 (eU (ns1 sIter) (eVar 0)) (tgN 5) tYesF (eU (ns1 sIter) (eVar 0)) (tgN 6) (eU asB (eB (dr2 sNe) (eVarB 5) (eVarB 6))) (eTup (eCons (eVar 5) (eCons (eVar 6) eNil))) [5, 6] [6])) (sSeq (sPar 3 4 (eCall 1 F_orders_of (eCons (eVar 0) eNil)) (eC (.int 0))) (sSeq (sSet 2 (eCallP 3 (F_with_few 8) (eCons (eVarB 3) (eCons (eVarB 1) (eCons (eVarB 4) eNil))))) (sSeq (sWhile 70 (eU asB (eB sIsN (eVarB 2) (eC .non))) (sSeq (sAugI 4 (fun i j => i + j) (eC (.int 1))) (sSet 2 (eCallP 3 (F_with_few 8) (eCons (eVarB 3) (eCons (eVarB 1) (eCons (eVarB 4) eNil))))))) (sRet (eVar 2))))))
def F_near : Fn := fnOf 7 Q_near
theorem ok_near (b : Bl mg) (G : Got K mg "near" s_near) (d_with_few : Def P w K mg base (St0 K) "with_few" (2 + 8) ["orders", "pairs", "many"] (F_with_few 8)) (d_orders_of : Def P w K mg base (St0 K) "orders_of" 1 ["names"] F_orders_of) : Def P w K mg base (St0 K) "near" 11 ["names"] F_near :=
  def_mk (k := 10) G sc_near (fun _ _ _ _ _ _ us hl => match us, hl with | [_], _ => rfl) fun f cdv A outer s H E hr => (ss_cons (s_lc2 (i := 1) (own := [("one", 5), ("other", 6)]) (vs1 := [6]) rfl sc_near.nd rfl rfl rfl (q_seq rfl (e_var (pv 0))) (blkOk_by rfl) (by decide) (fun _ _ _ _ _ => (g_name (i := 5) sc_near.nd rfl (by first | exact Or.inl rfl | exact Or.inr rfl))) (fun _ _ _ _ _ => ts_nil) (fun _ _ _ _ _ => (q_seq rfl (e_var (pv 0)))) (fun _ _ _ _ _ => (g_name (i := 6) sc_near.nd rfl (by first | exact Or.inl rfl | exact Or.inr rfl))) (fun _ _ _ _ _ => (ts_one (t_cmp (op_neX rfl (unitsOf hr)) (Sem2.dr sem_ne) (b_var (pv 5)) (b_var (pv 6)) (nomark _)))) (fun _ _ _ _ _ => (e_tup (a_cons (e_var (pv 5)) (a_cons (e_var (pv 6)) a_nil)))) (by decide) (by decide) (tgOk_n 5)) (ss_cons (s_par (i := 3) (j := 4) rfl sc_near.nd rfl rfl (by decide) rfl rfl (c_call d_orders_of (hr.mono (by omega)) rfl (a_cons (e_var (pv 0)) a_nil)) e_int rfl) (ss_cons (s_set (i := 2) sc_near.nd rfl (by first | exact Or.inl rfl | exact Or.inr rfl) (c_callP d_with_few (hr.mono (by omega)) rfl (bs_cons (b_var (pv 3)) (bs_cons (b_var (pv 1)) (bs_cons (b_var (pv 4)) bs_nil))))) (ss_cons (s_while 70 PassesOwn.never (t_cmp op_isN sem_isN (b_var (pv 2)) (b_of e_non) (nomark _)) (ss_cons (s_augI (i := 4) ip_add sc_near.nd rfl (by first | exact Or.inl rfl | exact Or.inr rfl) e_int) (ss_one (s_set (i := 2) sc_near.nd rfl (by first | exact Or.inl rfl | exact Or.inr rfl) (c_callP d_with_few (hr.mono (by omega)) rfl (bs_cons (b_var (pv 3)) (bs_cons (b_var (pv 1)) (bs_cons (b_var (pv 4)) bs_nil)))))))) (ss_one (s_ret (e_var (pv 2))))))))
/-! ### _law_words -/
abbrev s__law_words : Stmt := top 9
theorem sc__law_words : FnScope ["_law_deal_here", "_law_size", "_law_some", "_law_word"] ["_law_deal_here", "_law_size"] (defScope s__law_words) := ⟨rfl, rfl, rfl, by decide +kernel, rfl, by decide +kernel, by decide +kernel⟩
def Q__law_words : Sd := (sSeq (sSet 2 (eSl (fun d l h g => sSlL (dr g d) l h g) (eCall 2 F__law_mixed (eCons (eVar 0) (eCons (eLst (eCons (eC (.str "a")) (eCons (eC (.str "ab")) (eCons (eC (.str "b")) (eCons (eC (.str "zzzz")) (eCons (eC (.str "on")) (eCons (eC (.str "off")) (eCons (eC (.str "test")) (eCons (eC (.str "two")) (eCons (eC (.str "c")) (eCons (eC (.str "sets")) (eCons (eC (.str "seen")) (eCons (eC (.str "x")) eNil))))))))))))) eNil))) oNo (oSo (eVar 1)))) (sRetF (eU (dr1 sSorted) (eLc (eU sIter (eVar 2)) (tgN 3) tYesF (eU (dr1 sStr) (eVarB 3)) [3]))))
def F__law_words : Fn := fnOfO 4 Q__law_words
theorem ok__law_words (b : Bl mg) (G : Got K mg "_law_words" s__law_words) (d__law_mixed : DefO P w K mg base (St0 K) "_law_mixed" 2 ["_law_deal_here", "_law_some"] F__law_mixed) : DefO P w K mg base (St0 K) "_law_words" 3 ["_law_deal_here", "_law_size"] F__law_words :=
  defO_mk (k := 2) G sc__law_words (fun _ _ _ _ _ _ us hl => match us, hl with | [_, _], _ => rfl) fun f cdv A outer s H E hr => (ss_cons (s_set (i := 2) sc__law_words.nd rfl (by first | exact Or.inl rfl | exact Or.inr rfl) (e_of (f_sl rfl (b_of (e_of (c_callO d__law_mixed (hr.mono (by omega)) rfl (a_cons (e_var (pv 0)) (a_cons (e_of (f_lst (a_cons e_str (a_cons e_str (a_cons e_str (a_cons e_str (a_cons e_str (a_cons e_str (a_cons e_str (a_cons e_str (a_cons e_str (a_cons e_str (a_cons e_str (a_cons e_str a_nil)))))))))))))) a_nil))))) o_no (o_so (e_var (pv 1)))))) (ss_one (s_retF (f_sorted rfl rfl b.sorted (b_of (e_of (f_lc (own := [("_law_word", 3)]) rfl sc__law_words.nd (i_seq rfl (e_var (pv 2))) (blkOk_by rfl) (fun _ _ _ _ _ => (g_name (i := 3) sc__law_words.nd rfl (by first | exact Or.inl rfl | exact Or.inr rfl))) (fun _ _ _ _ _ => ts_nil) (fun _ _ _ _ _ => (e_str1 rfl b.str (b_var (pv 3)))) (by decide))))))))
/-! ### _law_is_near -/
abbrev s__law_is_near : Stmt := top 10
theorem sc__law_is_near : FnScope ["_law_called", "_law_told", "_law_pairs", "_law_order", "_law_one", "_law_word", "_law_other"] ["_law_called", "_law_told"] (defScope s__law_is_near) := ⟨rfl, rfl, rfl, by decide +kernel, rfl, by decide +kernel, by decide +kernel⟩
def Q__law_is_near : Sd := (sSeq (sIf (tOrF (tNotF (eU asB (eU (dr1 (sIsi "tuple")) (eVarB 1)))) (eU asB (eB (dr2 sNe) (eU (ns1 (dr1 sLen)) (eVarB 1)) (eB (nsA (dr2 sIx)) (eLst (eCons (eC (.int 0)) (eCons (eC (.int 0)) (eCons (eC (.int 2)) (eCons (eC (.int 4)) (eCons (eC (.int 4)) eNil)))))) (eU (ns1 (dr1 sLen)) (eVarB 0)))))) (sRet (eC (.bl false))) sNil) (sSeq (sSetO 2 (eLst eNil)) (sSeq (sFor (eU (ns1 sIter) (eVar 1)) (tgN 3) (sSeq (sIf (tOrF (tNotF (eU asB (eU (dr1 (sIsi "tuple")) (eVarB 3)))) (eU asB (eB (dr2 sNe) (eU (ns1 (dr1 sLen)) (eVarB 3)) (eU (ns1 (dr1 sLen)) (eVarB 0))))) (sRet (eC (.bl false))) sNil) (sSeq (sIf (eU asB (eB (dr2 sNe) (eLc (eU (ns1 sIter) (eVar 0)) (tgN 5) (eU asB (eB (nsB (dr2 sNotIn)) (eVarB 5) (eVarB 3))) (eVar 5) [5]) (eLst eNil))) (sRet (eC (.bl false))) sNil) (sExtend 2 (eU sZip (eCons (eVar 3) (eCons (eSl (fun d l h g => if isStr d = true then .stuck else sSlT (dr g d) l h g) (eVarB 3) (oSo (eC (.int 1))) oNo) eNil))))))) (sSeq (sFor (eU (ns1 sIter) (eVar 0)) (tgN 4) (sIf (eU asB (eB (dr2 sNe) (eLc (eU (ns1 sIter) (eVar 0)) (tgN 6) (tAndF (eU asB (eB (dr2 sNe) (eVarB 6) (eVarB 4))) (eU asB (eB (nsB (dr2 sNotIn)) (eTup (eCons (eVar 4) (eCons (eVar 6) eNil))) (eVarB 2)))) (eVar 6) [6]) (eLst eNil))) (sRet (eC (.bl false))) sNil)) (sRet (eC (.bl true)))))))
def F__law_is_near : Fn := fnOf 7 Q__law_is_near
theorem ok__law_is_near (b : Bl mg) (G : Got K mg "_law_is_near" s__law_is_near) : Def P w K mg base (St0 K) "_law_is_near" 1 ["_law_called", "_law_told"] F__law_is_near :=
  def_mk (k := 0) G sc__law_is_near (fun _ _ _ _ _ _ us hl => match us, hl with | [_, _], _ => rfl) fun f cdv A outer s H E hr => (ss_cons (s_if (PW.pt (w_or (t_not (t_val (e_isi (T := "tuple") rfl (by decide) rfl b.isinstance rfl b.tuple (by decide +kernel) (b_var (pv 1))))) (w_or1 (t_cmp (op_neX rfl (unitsOf hr)) (Sem2.dr sem_ne) (b_of (q_len rfl rfl b.len (b_var (pv 1)))) (b_of (q_ix rfl (b_of (e_of (f_lst (a_cons e_int (a_cons e_int (a_cons e_int (a_cons e_int (a_cons e_int a_nil)))))))) (b_of (q_len rfl rfl b.len (b_var (pv 0)))) (fun _ _ => rfl))) (nomark _))))) (ss_one (s_ret e_bl)) ss_nil) (ss_cons (s_setO (i := 2) sc__law_is_near.nd rfl (by first | exact Or.inl rfl | exact Or.inr rfl) (f_lst a_nil)) (ss_cons (s_for PassesOwn.never rfl (q_seq rfl (e_var (pv 1))) (g_name (i := 3) sc__law_is_near.nd rfl (by first | exact Or.inl rfl | exact Or.inr rfl)) (ss_cons (s_if (PW.pt (w_or (t_not (t_val (e_isi (T := "tuple") rfl (by decide) rfl b.isinstance rfl b.tuple (by decide +kernel) (b_var (pv 3))))) (w_or1 (t_cmp (op_neX rfl (unitsOf hr)) (Sem2.dr sem_ne) (b_of (q_len rfl rfl b.len (b_var (pv 3)))) (b_of (q_len rfl rfl b.len (b_var (pv 0)))) (nomark _))))) (ss_one (s_ret e_bl)) ss_nil) (ss_cons (s_if (t_cmp (op_neX rfl (unitsOf hr)) (Sem2.dr sem_ne) (b_of (e_of (f_lc (own := [("_law_word", 5)]) rfl sc__law_is_near.nd (q_seq rfl (e_var (pv 0))) (blkOk_by rfl) (fun _ _ _ _ _ => (g_name (i := 5) sc__law_is_near.nd rfl (by first | exact Or.inl rfl | exact Or.inr rfl))) (fun _ _ _ _ _ => (ts_one (t_cmp (op_notInX rfl (unitsOf hr)) (Sem2.nsB (Sem2.dr sem_notIn)) (b_var (pv 5)) (b_var (pv 3)) rfl))) (fun _ _ _ _ _ => (e_var (pv 5))) (by decide)))) (b_of (e_of (f_lst a_nil))) (nomark _)) (ss_one (s_ret e_bl)) ss_nil) (ss_one (s_extend (pv 2) (e_of (f_listZip rfl rfl rfl b.list rfl b.zip (a_cons (e_var (pv 3)) (a_cons (q_sl rfl (b_var (pv 3)) (o_so e_int) o_no) a_nil))))))))) (ss_cons (s_for PassesOwn.never rfl (q_seq rfl (e_var (pv 0))) (g_name (i := 4) sc__law_is_near.nd rfl (by first | exact Or.inl rfl | exact Or.inr rfl)) (ss_one (s_if (t_cmp (op_neX rfl (unitsOf hr)) (Sem2.dr sem_ne) (b_of (e_of (f_lc (own := [("_law_other", 6)]) rfl sc__law_is_near.nd (q_seq rfl (e_var (pv 0))) (blkOk_by rfl) (fun _ _ _ _ _ => (g_name (i := 6) sc__law_is_near.nd rfl (by first | exact Or.inl rfl | exact Or.inr rfl))) (fun _ _ _ _ _ => (ts_one (PW.pt (w_and (t_cmp (op_neX rfl (unitsOf hr)) (Sem2.dr sem_ne) (b_var (pv 6)) (b_var (pv 4)) (nomark _)) (w_and1 (t_cmp (op_notInX rfl (unitsOf hr)) (Sem2.nsB (Sem2.dr sem_notIn)) (b_of (e_tup (a_cons (e_var (pv 4)) (a_cons (e_var (pv 6)) a_nil)))) (b_var (pv 2)) rfl)))))) (fun _ _ _ _ _ => (e_var (pv 6))) (by decide)))) (b_of (e_of (f_lst a_nil))) (nomark _)) (ss_one (s_ret e_bl)) ss_nil))) (ss_one (s_ret e_bl))))))
/-! ### law -/
abbrev s_law : Stmt := top 11
theorem sc_law : FnScope ["_law_script", "_law_deal_here", "_law_size", "_law_called", "_law_kept"] ["_law_script"] (defScope s_law) := ⟨rfl, rfl, rfl, by decide +kernel, rfl, by decide +kernel, by decide +kernel⟩
def Q_law : Sd := (sSeq (sSet 1 (eCall 2 F__law_deal (eCons (eVar 0) (eCons (eC (.int 0)) eNil)))) (sSeq (sFor (eU sIter (eCall 2 F__law_mixed (eCons (eVar 1) (eCons (eLst (eCons (eC (.int 1)) (eCons (eC (.int 2)) (eCons (eC (.int 3)) (eCons (eC (.int 4)) eNil))))) eNil)))) (tgN 2) (sSeq (sSetO 3 (eCall 2 F__law_mixed (eCons (eVar 1) (eCons (eCall 2 F__law_words (eCons (eVar 1) (eCons (eVar 2) eNil))) eNil)))) (sSeq (sSet 4 (eU (dr1 sList) (eVarB 3))) (sSeq (sIf (tOrF (tNotF (eU asB (eCallP 2 F__law_is_near (eCons (eVarB 3) (eCons (eCallP 1 F_near (eCons (eVarB 3) eNil)) eNil))))) (tOrF (eU asB (eB (dr2 sNe) (eVarB 3) (eVarB 4))) (tNotF (eU asB (eCallP 2 F__law_is_near (eCons (eVarB 3) (eCons (eCallP 1 F_near (eCons (eU (dr1 sTuple) (eVarB 3)) eNil)) eNil))))))) (sRet (eC (.bl false))) sNil) (sAppend 3 (eC (.str "zz"))))))) (sRet (eB (dr2 sEq) (eCallP 1 F_near (eCons (eLst (eCons (eC (.str "a")) eNil)) eNil)) (eTup eNil)))))
def F_law : Fn := fnOf 5 Q_law
theorem ok_law {f : Addr} {fd : FuncData} (b : Bl mg) (F : FunD K "law" "law" (defArgs s_law) (defBody s_law) (defScope s_law) [] [] f fd) (d__law_deal : Def P w K mg base (St0 K) "_law_deal" 1 ["_law_script", "_law_base"] F__law_deal) (d__law_mixed : DefO P w K mg base (St0 K) "_law_mixed" 2 ["_law_deal_here", "_law_some"] F__law_mixed) (d_near : Def P w K mg base (St0 K) "near" 11 ["names"] F_near) (d__law_words : DefO P w K mg base (St0 K) "_law_words" 3 ["_law_deal_here", "_law_size"] F__law_words) (d__law_is_near : Def P w K mg base (St0 K) "_law_is_near" 1 ["_law_called", "_law_told"] F__law_is_near) : FnOk P w K mg base CX0 12 f fd ["_law_script"] (Spec (St0 K) 1 F_law) :=
  fn_ok (k := 11) F sc_law fun cdv A outer s H E hr => (ss_cons (s_set (i := 1) sc_law.nd rfl (by first | exact Or.inl rfl | exact Or.inr rfl) (c_call d__law_deal (hr.mono (by omega)) rfl (a_cons (e_var (pv 0)) (a_cons e_int a_nil)))) (ss_cons (s_for PassesOwn.never rfl (i_seq rfl (e_of (c_callO d__law_mixed (hr.mono (by omega)) rfl (a_cons (e_var (pv 1)) (a_cons (e_of (f_lst (a_cons e_int (a_cons e_int (a_cons e_int (a_cons e_int a_nil)))))) a_nil))))) (g_name (i := 2) sc_law.nd rfl (by first | exact Or.inl rfl | exact Or.inr rfl)) (ss_cons (s_setO (i := 3) sc_law.nd rfl (by first | exact Or.inl rfl | exact Or.inr rfl) (c_callO d__law_mixed (hr.mono (by omega)) rfl (a_cons (e_var (pv 1)) (a_cons (e_of (c_callO d__law_words (hr.mono (by omega)) rfl (a_cons (e_var (pv 1)) (a_cons (e_var (pv 2)) a_nil)))) a_nil)))) (ss_cons (s_set (i := 4) sc_law.nd rfl (by first | exact Or.inl rfl | exact Or.inr rfl) (e_of (f_list rfl rfl b.list (b_var (pv 3))))) (ss_cons (s_if (PW.pt (w_or (t_not (t_val (c_callP d__law_is_near (hr.mono (by omega)) rfl (bs_cons (b_var (pv 3)) (bs_cons (b_of (c_callP d_near (hr.mono (by omega)) rfl (bs_cons (b_var (pv 3)) bs_nil))) bs_nil))))) (w_or (t_cmp (op_neX rfl (unitsOf hr)) (Sem2.dr sem_ne) (b_var (pv 3)) (b_var (pv 4)) (nomark _)) (w_or1 (t_not (t_val (c_callP d__law_is_near (hr.mono (by omega)) rfl (bs_cons (b_var (pv 3)) (bs_cons (b_of (c_callP d_near (hr.mono (by omega)) rfl (bs_cons (b_of (e_tuple rfl rfl b.tuple (b_var (pv 3)))) bs_nil))) bs_nil))))))))) (ss_one (s_ret e_bl)) ss_nil) (ss_one (s_append (pv 3) e_str)))))) (ss_one (s_ret (e_cmp (op_eqX rfl (unitsOf hr)) (Sem2.dr sem_eq) (b_of (c_callP d_near (hr.mono (by omega)) rfl (bs_cons (b_of (e_of (f_lst (a_cons e_str a_nil)))) bs_nil))) (b_of (e_tup a_nil)) (nomark _))))))
end
section
variable {ρ : PySem.Str → PySem.Str → Prop}
theorem mf_neighbours (bu : BU ρ) : MF ρ F_neighbours := by
  unfold F_neighbours
  apply mf_ofO
  unfold Q_neighbours
  repeat' (first
    | exact ms_nil | apply ms_seq | apply ms_while | apply ms_for | apply ms_if | apply ms_set | apply ms_setO | apply ms_un | apply ms_append | apply ms_extend | apply ms_par | apply ms_aug | exact ms_retO | apply ms_retF | apply ms_ret
    | exact m_var _ | exact m_varB _ | exact m_int _ | exact m_bl _ | exact m_non | exact m_nil | apply m_cons | apply m_star | apply m_lst | apply m_tup | apply m_lc | apply m_lc2 | apply m_zip | apply m_slT | exact m_oNo | apply m_oSo
    | exact mb_yes | apply mb_and | apply mb_or | apply mb_not | apply m_callP (by assumption) | apply m_call (by assumption)
    | apply m_eU m_asB | apply m_eU m1_len | apply m_eU m1_iter | apply m_eU m1_rng | apply m_eU (m1_isi _) | apply m_eU m1_tuple
    | apply m_eB (m2_eq bu) | apply m_eB (m2_ne bu) | apply m_eB (m2_in bu) | apply m_eB (m2_notIn bu) | apply m_eB m2_ix | apply m_eB m2_sub | apply m_eB m2_mul | apply m_eB (m2_cmp _) | apply m_eB m2_isN | apply m_eB m2_notN
    | exact mt_n _)
theorem mf_with_few (bu : BU ρ) : ∀ k : Nat, MF ρ (F_with_few k)
  | 0 => mf_no
  | k + 1 => by
    have h_neighbours : MF ρ F_neighbours := mf_neighbours bu
    have h_self := mf_with_few bu k
    unfold F_with_few
    apply mf_of
    unfold Qr_with_few
    repeat' (first
    | exact ms_nil | apply ms_seq | apply ms_while | apply ms_for | apply ms_if | apply ms_set | apply ms_setO | apply ms_un | apply ms_append | apply ms_extend | apply ms_par | apply ms_aug | exact ms_retO | apply ms_retF | apply ms_ret
    | exact m_var _ | exact m_varB _ | exact m_int _ | exact m_bl _ | exact m_non | exact m_nil | apply m_cons | apply m_star | apply m_lst | apply m_tup | apply m_lc | apply m_lc2 | apply m_zip | apply m_slT | exact m_oNo | apply m_oSo
    | exact mb_yes | apply mb_and | apply mb_or | apply mb_not | apply m_callP (by assumption) | apply m_call (by assumption)
    | apply m_eU m_asB | apply m_eU m1_len | apply m_eU m1_iter | apply m_eU m1_rng | apply m_eU (m1_isi _) | apply m_eU m1_tuple
    | apply m_eB (m2_eq bu) | apply m_eB (m2_ne bu) | apply m_eB (m2_in bu) | apply m_eB (m2_notIn bu) | apply m_eB m2_ix | apply m_eB m2_sub | apply m_eB m2_mul | apply m_eB (m2_cmp _) | apply m_eB m2_isN | apply m_eB m2_notN
    | exact mt_n _)
theorem mf_orders_of (bu : BU ρ) : MF ρ F_orders_of := by
  unfold F_orders_of
  apply mf_of
  unfold Q_orders_of
  repeat' (first
    | exact ms_nil | apply ms_seq | apply ms_while | apply ms_for | apply ms_if | apply ms_set | apply ms_setO | apply ms_un | apply ms_append | apply ms_extend | apply ms_par | apply ms_aug | exact ms_retO | apply ms_retF | apply ms_ret
    | exact m_var _ | exact m_varB _ | exact m_int _ | exact m_bl _ | exact m_non | exact m_nil | apply m_cons | apply m_star | apply m_lst | apply m_tup | apply m_lc | apply m_lc2 | apply m_zip | apply m_slT | exact m_oNo | apply m_oSo
    | exact mb_yes | apply mb_and | apply mb_or | apply mb_not | apply m_callP (by assumption) | apply m_call (by assumption)
    | apply m_eU m_asB | apply m_eU m1_len | apply m_eU m1_iter | apply m_eU m1_rng | apply m_eU (m1_isi _) | apply m_eU m1_tuple
    | apply m_eB (m2_eq bu) | apply m_eB (m2_ne bu) | apply m_eB (m2_in bu) | apply m_eB (m2_notIn bu) | apply m_eB m2_ix | apply m_eB m2_sub | apply m_eB m2_mul | apply m_eB (m2_cmp _) | apply m_eB m2_isN | apply m_eB m2_notN
    | exact mt_n _)
theorem mf_near (bu : BU ρ) : MF ρ F_near := by
  have h_with_few : MF ρ (F_with_few 8) := mf_with_few bu 8
  have h_orders_of : MF ρ F_orders_of := mf_orders_of bu
  unfold F_near
  apply mf_of
  unfold Q_near
  repeat' (first
    | exact ms_nil | apply ms_seq | apply ms_while | apply ms_for | apply ms_if | apply ms_set | apply ms_setO | apply ms_un | apply ms_append | apply ms_extend | apply ms_par | apply ms_aug | exact ms_retO | apply ms_retF | apply ms_ret
    | exact m_var _ | exact m_varB _ | exact m_int _ | exact m_bl _ | exact m_non | exact m_nil | apply m_cons | apply m_star | apply m_lst | apply m_tup | apply m_lc | apply m_lc2 | apply m_zip | apply m_slT | exact m_oNo | apply m_oSo
    | exact mb_yes | apply mb_and | apply mb_or | apply mb_not | apply m_callP (by assumption) | apply m_call (by assumption)
    | apply m_eU m_asB | apply m_eU m1_len | apply m_eU m1_iter | apply m_eU m1_rng | apply m_eU (m1_isi _) | apply m_eU m1_tuple
    | apply m_eB (m2_eq bu) | apply m_eB (m2_ne bu) | apply m_eB (m2_in bu) | apply m_eB (m2_notIn bu) | apply m_eB m2_ix | apply m_eB m2_sub | apply m_eB m2_mul | apply m_eB (m2_cmp _) | apply m_eB m2_isN | apply m_eB m2_notN
    | exact mt_n _)
theorem mf__law_is_near (bu : BU ρ) : MF ρ F__law_is_near := by
  unfold F__law_is_near
  apply mf_of
  unfold Q__law_is_near
  repeat' (first
    | exact ms_nil | apply ms_seq | apply ms_while | apply ms_for | apply ms_if | apply ms_set | apply ms_setO | apply ms_un | apply ms_append | apply ms_extend | apply ms_par | apply ms_aug | exact ms_retO | apply ms_retF | apply ms_ret
    | exact m_var _ | exact m_varB _ | exact m_int _ | exact m_bl _ | exact m_non | exact m_nil | apply m_cons | apply m_star | apply m_lst | apply m_tup | apply m_lc | apply m_lc2 | apply m_zip | apply m_slT | exact m_oNo | apply m_oSo
    | exact mb_yes | apply mb_and | apply mb_or | apply mb_not | apply m_callP (by assumption) | apply m_call (by assumption)
    | apply m_eU m_asB | apply m_eU m1_len | apply m_eU m1_iter | apply m_eU m1_rng | apply m_eU (m1_isi _) | apply m_eU m1_tuple
    | apply m_eB (m2_eq bu) | apply m_eB (m2_ne bu) | apply m_eB (m2_in bu) | apply m_eB (m2_notIn bu) | apply m_eB m2_ix | apply m_eB m2_sub | apply m_eB m2_mul | apply m_eB (m2_cmp _) | apply m_eB m2_isN | apply m_eB m2_notN
    | exact mt_n _)
end
end Lw
namespace Lw
open PySem PySem.Spec PyProof.Rows L2 Ev
theorem draw_eq : F__law_draw = drawF := rfl
theorem mixed_eq : F__law_mixed = mixedF drawF := rfl
theorem deal_eq : F__law_deal = dealF 49979687 47 := rfl
/-! ### near, for written names -/
def okRes (r : Res D) : Bool := match r with
  | .ok (.bl true) _ => true
  | _ => false
def nearOk (call : D) (names : List D) : Bool := match F_near [call] [] with
  | .ok d _ => flat d && okRes (F__law_is_near [.lst names, d] [])
  | _ => false
def cn (n : Nat) : List PySem.Str := (["a", "b", "c", "d"] : List PySem.Str).take n
def chk (n : Nat) : Bool := nearOk (.lst ((cn n).map .str)) ((cn n).map .str) && nearOk (.tup ((cn n).map .str)) ((cn n).map .str)
theorem chk1 : chk 1 = true := by decide +kernel
theorem chk2 : chk 2 = true := by decide +kernel
theorem chk3 : chk 3 = true := by decide +kernel
theorem chk4 : chk 4 = true := by decide +kernel
theorem near_a : (match F_near [.lst [.str "a"]] [] with
  | .ok (.tup []) _ => true
  | _ => false) = true := by decide +kernel
/-! ### for all names -/
def pairing (xs cs : List PySem.Str) : PySem.Str → PySem.Str → Prop := fun a b => ∃ i : Nat, xs[i]? = some a ∧ cs[i]? = some b
theorem pairing_bu {xs cs : List PySem.Str} (h1 : xs.Nodup) (h2 : cs.Nodup) : BU (pairing xs cs) := fun a b c d ⟨i, e1, e2⟩ ⟨j, e3, e4⟩ => by
  obtain ⟨l1, f1⟩ := List.getElem?_eq_some_iff.mp e1
  obtain ⟨l2, f2⟩ := List.getElem?_eq_some_iff.mp e2
  obtain ⟨l3, f3⟩ := List.getElem?_eq_some_iff.mp e3
  obtain ⟨l4, f4⟩ := List.getElem?_eq_some_iff.mp e4
  subst f1 f2 f3 f4
  rw [List.getElem_inj h1, List.getElem_inj h2]
theorem sml_strs {ρ : PySem.Str → PySem.Str → Prop} : ∀ (xs cs : List PySem.Str), xs.length = cs.length → (∀ (i : Nat) (a b : PySem.Str), xs[i]? = some a → cs[i]? = some b → ρ a b) → Sml ρ (xs.map .str) (cs.map .str)
  | [], [], _, _ => .nil
  | [], _ :: _, h, _ => by simp at h
  | _ :: _, [], h, _ => by simp at h
  | x :: xs, c :: cs, h, k => .cons (.str (k 0 x c rfl rfl)) (sml_strs xs cs (by simpa using h) fun i a b e1 e2 => k (i + 1) a b (by simpa using e1) (by simpa using e2))
theorem near_step {ρ : PySem.Str → PySem.Str → Prop} (bu : BU ρ) {c c' : D} {xs cs : List D} (h : nearOk c' cs = true) (rc : Sm ρ c c') (rx : Sml ρ xs cs) : ∃ d, F_near [c] [] = .ok d [] ∧ flat d = true ∧ F__law_is_near [.lst xs, d] [] = .ok (.bl true) [] := by
  unfold nearOk at h
  have q := mf_near bu [c] [c'] (.cons rc .nil)
  cases w : F_near [c'] [] with
  | stuck => rw [w] at h; cases h
  | exc x g => rw [w] at h; cases h
  | ok d' g =>
    rw [w] at h q
    cases w2 : F_near [c] [] with
    | stuck => rw [w2] at q; cases q
    | exc x g => rw [w2] at q; cases q
    | ok d g2 =>
      rw [w2] at q
      cases q with
      | ok q =>
        simp only [Bool.and_eq_true] at h
        refine ⟨d, rfl, by rw [flat_alike q]; exact h.1, ?_⟩
        have q2 := mf__law_is_near bu [.lst xs, d] [.lst cs, d'] (.cons (.lst rx) (.cons q .nil))
        have h2 := h.2
        unfold okRes at h2
        split at h2
        · rename_i g3 e3
          rw [e3] at q2
          cases w4 : F__law_is_near [.lst xs, d] [] with
          | stuck => rw [w4] at q2; cases q2
          | exc x g => rw [w4] at q2; cases q2
          | ok d4 g4 =>
            rw [w4] at q2
            cases q2 with
            | ok q2 => cases q2; rfl
        · cases h2
theorem chk_all {n : Nat} (h1 : 1 ≤ n) (h4 : n ≤ 4) : chk n = true := by
  rcases (by omega : n = 1 ∨ n = 2 ∨ n = 3 ∨ n = 4) with rfl | rfl | rfl | rfl
  · exact chk1
  · exact chk2
  · exact chk3
  · exact chk4
theorem cn_nodup (n : Nat) : (cn n).Nodup := List.Nodup.sublist (List.take_sublist _ _) (by decide)
theorem near_ok {ws : List PySem.Str} (hn : ws.Nodup) (h1 : 1 ≤ ws.length) (h4 : ws.length ≤ 4) :
    (∃ d, F_near [.lst (ws.map .str)] [] = .ok d [] ∧ flat d = true ∧ F__law_is_near [.lst (ws.map .str), d] [] = .ok (.bl true) []) ∧
    (∃ d, F_near [.tup (ws.map .str)] [] = .ok d [] ∧ flat d = true ∧ F__law_is_near [.lst (ws.map .str), d] [] = .ok (.bl true) []) := by
  have hc := chk_all h1 h4
  unfold chk at hc
  rw [Bool.and_eq_true] at hc
  have bu := pairing_bu hn (cn_nodup ws.length)
  have sl : Sml (pairing ws (cn ws.length)) (ws.map .str) ((cn ws.length).map .str) := sml_strs ws _ (by simp [cn]; omega) fun i a b e1 e2 => ⟨i, e1, e2⟩
  exact ⟨near_step bu hc.1 (.lst sl) sl, near_step bu hc.2 (.tup sl) sl⟩
/-! ### the words -/
def w12 : List PySem.Str := ["a", "ab", "b", "zzzz", "on", "off", "test", "two", "c", "sets", "seen", "x"]
def unS : D → PySem.Str
  | .str x => x
  | _ => ""
theorem perm_strs {cs : List D} {ss : List PySem.Str} (h : cs.Perm (ss.map .str)) : ∃ vs : List PySem.Str, cs = vs.map .str ∧ vs.Perm ss := by
  refine ⟨cs.map unS, ?_, ?_⟩
  · rw [List.map_map]
    have : ∀ d ∈ cs, (D.str ∘ unS) d = d := fun d hd => by
      obtain ⟨x, _, rfl⟩ := List.mem_map.mp (h.mem_iff.mp hd)
      rfl
    rw [List.map_congr_left this, List.map_id'']
    intro _; rfl
  · have h2 := h.map unS
    rw [List.map_map] at h2
    have e : ss.map (unS ∘ D.str) = ss := by
      have : ∀ x ∈ ss, (unS ∘ D.str) x = x := fun _ _ => rfl
      rw [List.map_congr_left this, List.map_id'']
      intro _; rfl
    rwa [e] at h2
theorem strsOf_map : ∀ ss : List PySem.Str, strsOf (ss.map .str) = some ss
  | [] => rfl
  | x :: r => by simp only [List.map_cons, strsOf, strsOf_map r]; rfl
theorem comp_strs {e0 e1 e2 : Slot} {g : Sto} : ∀ ss : List PySem.Str, compL (tgN 3) tYesF (eU (dr1 sStr) (eVarB 3)) [e0, e1, e2, .no] (ss.map .str) g = some (ss.map .str, g)
  | [] => rfl
  | x :: r => by
    have ih := comp_strs (e0 := e0) (e1 := e1) (e2 := e2) (g := g) r
    simp only [List.map_cons, compL, tgN, List.set, tYesF]
    have ee : (eU (dr1 sStr) (eVarB 3)) [e0, e1, e2, .sh (.str x)] g = .ok (.str x) g := rfl
    rw [ee]
    simp only [ih]
section
variable {g : Sto} {n k : Nat} {xs : List Int} {mx : Int}
theorem words_ok (h : DealOk g n k) (hl : xs.length < 70) {size : Nat} (h1 : 1 ≤ size) (h4 : size ≤ 4) : ∃ (ws : List PySem.Str) (ys : List Int) (my : Int), F__law_words [.loc n, .int size] (dl g n k xs mx) = .ok (.lst (ws.map .str)) (dl g n k ys my) ∧ ws.Nodup ∧ ws.length = size ∧ ys.length ≤ xs.length := by
  obtain ⟨cs, ys, my, e, p, l⟩ := mixed_ok (mx := mx) h hl (ds := w12.map .str) (by decide)
  obtain ⟨vs, rfl, pv⟩ := perm_strs p
  have nv : vs.Nodup := pv.nodup_iff.mpr (by decide)
  have lv : vs.length = 12 := pv.length_eq
  have nt : (vs.take size).Nodup := List.Nodup.sublist (List.take_sublist _ _) nv
  have lt : (vs.take size).length = size := by rw [List.length_take]; omega
  refine ⟨sortS (vs.take size), ys, my, ?_, (sortS_perm _).nodup_iff.mpr nt, by rw [(sortS_perm _).length_eq, lt], l⟩
  unfold F__law_words fnOfO Q__law_words
  simp only [List.map, List.length_cons, List.length_nil, List.cons_append, List.nil_append, List.replicate]
  have ec : (eCall 2 F__law_mixed (eCons (eVar 0) (eCons (eLst (eCons (eC (.str "a")) (eCons (eC (.str "ab")) (eCons (eC (.str "b")) (eCons (eC (.str "zzzz")) (eCons (eC (.str "on")) (eCons (eC (.str "off")) (eCons (eC (.str "test")) (eCons (eC (.str "two")) (eCons (eC (.str "c")) (eCons (eC (.str "sets")) (eCons (eC (.str "seen")) (eCons (eC (.str "x")) eNil))))))))))))) eNil))) [.sh (.loc n), .sh (.int size), .no, .no] (dl g n k xs mx) = .ok (.lst (vs.map .str)) (dl g n k ys my) := by
    have e1 : (eCons (eVar 0) (eCons (eLst (eCons (eC (.str "a")) (eCons (eC (.str "ab")) (eCons (eC (.str "b")) (eCons (eC (.str "zzzz")) (eCons (eC (.str "on")) (eCons (eC (.str "off")) (eCons (eC (.str "test")) (eCons (eC (.str "two")) (eCons (eC (.str "c")) (eCons (eC (.str "sets")) (eCons (eC (.str "seen")) (eCons (eC (.str "x")) eNil))))))))))))) eNil)) [.sh (.loc n), .sh (.int size), .no, .no] (dl g n k xs mx) = .ok [.loc n, .lst (w12.map .str)] (dl g n k xs mx) := rfl
    unfold eCall
    rw [e1]
    simp only [Res.bind, List.length_cons, List.length_nil, if_true]
    rw [mixed_eq, e]
  have es : eSl (fun d l h g => sSlL (dr g d) l h g) (eCall 2 F__law_mixed (eCons (eVar 0) (eCons (eLst (eCons (eC (.str "a")) (eCons (eC (.str "ab")) (eCons (eC (.str "b")) (eCons (eC (.str "zzzz")) (eCons (eC (.str "on")) (eCons (eC (.str "off")) (eCons (eC (.str "test")) (eCons (eC (.str "two")) (eCons (eC (.str "c")) (eCons (eC (.str "sets")) (eCons (eC (.str "seen")) (eCons (eC (.str "x")) eNil))))))))))))) eNil))) oNo (oSo (eVar 1)) [.sh (.loc n), .sh (.int size), .no, .no] (dl g n k xs mx) = .ok (.lst ((vs.take size).map .str)) (dl g n k ys my) := by
    unfold eSl
    rw [ec]
    have e3 : cutL (vs.map D.str) none (some (size : Int)) = (vs.take size).map .str := by
      rw [cutL_map]
      unfold cutL
      rw [HT.sIx_none, HT.sIx_nat, List.drop_zero, Nat.sub_zero, Nat.min_eq_left (by omega)]
    show Res.ok (D.lst (cutL (vs.map D.str) none (some (size : Int)))) (dl g n k ys my) = _
    rw [e3]
  have s1 : sSet 2 (eSl (fun d l h g => sSlL (dr g d) l h g) (eCall 2 F__law_mixed (eCons (eVar 0) (eCons (eLst (eCons (eC (.str "a")) (eCons (eC (.str "ab")) (eCons (eC (.str "b")) (eCons (eC (.str "zzzz")) (eCons (eC (.str "on")) (eCons (eC (.str "off")) (eCons (eC (.str "test")) (eCons (eC (.str "two")) (eCons (eC (.str "c")) (eCons (eC (.str "sets")) (eCons (eC (.str "seen")) (eCons (eC (.str "x")) eNil))))))))))))) eNil))) oNo (oSo (eVar 1))) [.sh (.loc n), .sh (.int size), .no, .no] (dl g n k xs mx) = .nx [.sh (.loc n), .sh (.int size), .sh (.lst ((vs.take size).map .str)), .no] (dl g n k ys my) := by
    unfold sSet
    rw [thenS_ok es]
    rfl
  rw [seq_nx s1]
  have e4 : eLc (eU sIter (eVar 2)) (tgN 3) tYesF (eU (dr1 sStr) (eVarB 3)) [3] [.sh (.loc n), .sh (.int size), .sh (.lst ((vs.take size).map .str)), .no] (dl g n k ys my) = .ok (.lst ((vs.take size).map .str)) (dl g n k ys my) := by
    unfold eLc
    rw [show (eU sIter (eVar 2)) [.sh (.loc n), .sh (.int size), .sh (.lst ((vs.take size).map .str)), .no] (dl g n k ys my) = .ok ((vs.take size).map .str) (dl g n k ys my) from rfl]
    simp only [Res.bind]
    rw [show wipeE [.sh (.loc n), .sh (.int size), .sh (.lst ((vs.take size).map .str)), .no] [3] = [.sh (.loc n), .sh (.int size), .sh (.lst ((vs.take size).map .str)), .no] from rfl, comp_strs]
    simp only [List.length_map]
    rw [if_pos (by unfold big; omega)]
  have e5 : eU (dr1 sSorted) (eLc (eU sIter (eVar 2)) (tgN 3) tYesF (eU (dr1 sStr) (eVarB 3)) [3]) [.sh (.loc n), .sh (.int size), .sh (.lst ((vs.take size).map .str)), .no] (dl g n k ys my) = .ok (.lst ((sortS (vs.take size)).map .str)) (dl g n k ys my) := by
    rw [eU_ok e4]
    show sSorted (.lst ((vs.take size).map .str)) _ = _
    simp only [sSorted, strsOf_map]
    rw [if_pos (by omega)]
  unfold sRetF
  rw [thenS_ok e5]
/-! ### one turn -/
def bodyL : Sd := (sSeq (sSetO 3 (eCall 2 F__law_mixed (eCons (eVar 1) (eCons (eCall 2 F__law_words (eCons (eVar 1) (eCons (eVar 2) eNil))) eNil)))) (sSeq (sSet 4 (eU (dr1 sList) (eVarB 3))) (sSeq (sIf (tOrF (tNotF (eU asB (eCallP 2 F__law_is_near (eCons (eVarB 3) (eCons (eCallP 1 F_near (eCons (eVarB 3) eNil)) eNil))))) (tOrF (eU asB (eB (dr2 sNe) (eVarB 3) (eVarB 4))) (tNotF (eU asB (eCallP 2 F__law_is_near (eCons (eVarB 3) (eCons (eCallP 1 F_near (eCons (eU (dr1 sTuple) (eVarB 3)) eNil)) eNil))))))) (sRet (eC (.bl false))) sNil) (sAppend 3 (eC (.str "zz"))))))
theorem noLoc_strs : ∀ ws : List PySem.Str, noLocL (ws.map .str) = true
  | [] => rfl
  | x :: r => by simp only [List.map_cons, noLocL, noLoc, noLoc_strs r]; rfl
mutual
theorem flat_noLoc : ∀ d : D, flat d = true → noLoc d = true
  | .non, _ => rfl
  | .bl _, _ => rfl
  | .int _, _ => rfl
  | .str _, _ => rfl
  | .tup xs, h => by simp only [flat] at h; simp only [noLoc]; exact flatL_noLoc xs h
  | .lst _, h => by simp [flat] at h
  | .frz _, h => by simp [flat] at h
  | .dic _ _, h => by simp [flat] at h
  | .ins _ _ _, h => by simp [flat] at h
  | .loc _, h => by simp [flat] at h
theorem flatL_noLoc : ∀ d : List D, flatL d = true → noLocL d = true
  | [], _ => rfl
  | x :: r, h => by
    simp only [flatL, Bool.and_eq_true] at h
    simp only [noLocL, Bool.and_eq_true]
    exact ⟨flat_noLoc x h.1, flatL_noLoc r h.2⟩
end
theorem call_ok {m : Nat} {F : Fn} {fs : En (List D)} {env : Ev.Env} {g g1 g2 : Sto} {ds : List D} {d : D} (h1 : fs env g = .ok ds g1) (hl : ds.length = m) (h2 : F ds g1 = .ok d g2) : eCall m F fs env g = .ok d g2 := by
  unfold eCall
  rw [h1]
  simp only [Res.bind]
  rw [if_pos hl, h2]
theorem callP_ok {m : Nat} {F : Fn} {fs : En (List D)} {env : Ev.Env} {g g1 g2 : Sto} {ds : List D} {d : D} (h1 : fs env g = .ok ds g1) (hl : ds.length = m) (hn : noLocL ds = true) (h2 : F ds [] = .ok d g2) (hf : flat d = true) : eCallP m F fs env g = .ok d g1 := by
  unfold eCallP
  rw [h1]
  simp only [Res.bind]
  rw [if_pos ⟨hl, hn⟩, h2]
  simp only [hf, if_true]
theorem deq_strs : ∀ (m : Nat) (ws : List PySem.Str), deqL m (ws.map .str) (ws.map .str) = some true
  | _, [] => by simp [deqL]
  | m, x :: r => by
    simp only [List.map_cons, deqL, deq_strs m r]
    cases m <;> simp [deq]
theorem body_ok (h : DealOk g n k) (hl : xs.length < 70) {size : Nat} (h1 : 1 ≤ size) (h4 : size ≤ 4) (e0 e3 e4 : Slot) : ∃ e3' e4' ys my, bodyL [e0, .sh (.loc n), .sh (.int size), e3, e4] (dl g n k xs mx) = .nx [e0, .sh (.loc n), .sh (.int size), e3', e4'] (dl g n k ys my) ∧ ys.length ≤ xs.length := by
  obtain ⟨us, y1, m1, ew, nu, lu, ly1⟩ := words_ok (mx := mx) h hl h1 h4
  obtain ⟨cs, y2, m2, em, pm, ly2⟩ := mixed_ok (mx := m1) h (xs := y1) (by omega) (ds := us.map .str) (by simp; omega)
  obtain ⟨ws, rfl, pw⟩ := perm_strs pm
  have nw : ws.Nodup := pw.nodup_iff.mpr nu
  have lw : ws.length = size := pw.length_eq.trans lu
  obtain ⟨⟨d1, n1, f1, i1⟩, ⟨d2, n2, f2, i2⟩⟩ := near_ok nw (by omega) (by omega)
  refine ⟨.ow (.lst (ws.map .str ++ [.str "zz"])), .sh (.lst (ws.map .str)), y2, m2, ?_, by omega⟩
  unfold bodyL
  have c1 : eCall 2 F__law_mixed (eCons (eVar 1) (eCons (eCall 2 F__law_words (eCons (eVar 1) (eCons (eVar 2) eNil))) eNil)) [e0, .sh (.loc n), .sh (.int size), e3, e4] (dl g n k xs mx) = .ok (.lst (ws.map .str)) (dl g n k y2 m2) := by
    have a1 : eCall 2 F__law_words (eCons (eVar 1) (eCons (eVar 2) eNil)) [e0, .sh (.loc n), .sh (.int size), e3, e4] (dl g n k xs mx) = .ok (.lst (us.map .str)) (dl g n k y1 m1) := by
      unfold eCall
      rw [show eCons (eVar 1) (eCons (eVar 2) eNil) [e0, .sh (.loc n), .sh (.int size), e3, e4] (dl g n k xs mx) = .ok [.loc n, .int size] (dl g n k xs mx) from rfl]
      simp only [Res.bind, List.length_cons, List.length_nil, if_true]
      rw [ew]
    have a2 := eCons_ok (show eVar 1 [e0, .sh (.loc n), .sh (.int size), e3, e4] (dl g n k xs mx) = .ok (.loc n) (dl g n k xs mx) from rfl) (eCons_ok a1 (show eNil _ _ = .ok [] _ from rfl))
    exact call_ok a2 rfl (by rw [mixed_eq]; exact em)
  have s1 : sSetO 3 (eCall 2 F__law_mixed (eCons (eVar 1) (eCons (eCall 2 F__law_words (eCons (eVar 1) (eCons (eVar 2) eNil))) eNil))) [e0, .sh (.loc n), .sh (.int size), e3, e4] (dl g n k xs mx) = .nx [e0, .sh (.loc n), .sh (.int size), .ow (.lst (ws.map .str)), e4] (dl g n k y2 m2) := by
    unfold sSetO
    rw [thenS_ok c1]
    rfl
  rw [seq_nx s1]
  have s2 : sSet 4 (eU (dr1 sList) (eVarB 3)) [e0, .sh (.loc n), .sh (.int size), .ow (.lst (ws.map .str)), e4] (dl g n k y2 m2) = .nx [e0, .sh (.loc n), .sh (.int size), .ow (.lst (ws.map .str)), .sh (.lst (ws.map .str))] (dl g n k y2 m2) := rfl
  rw [seq_nx s2]
  have v3 : eVarB 3 [e0, .sh (.loc n), .sh (.int size), .ow (.lst (ws.map .str)), .sh (.lst (ws.map .str))] (dl g n k y2 m2) = .ok (.lst (ws.map .str)) (dl g n k y2 m2) := rfl
  have nl := noLoc_strs ws
  have t1 : eCallP 1 F_near (eCons (eVarB 3) eNil) [e0, .sh (.loc n), .sh (.int size), .ow (.lst (ws.map .str)), .sh (.lst (ws.map .str))] (dl g n k y2 m2) = .ok d1 (dl g n k y2 m2) :=
    callP_ok (eCons_ok v3 (show eNil _ _ = .ok [] _ from rfl)) rfl (by simp only [noLocL, noLoc, nl]; rfl) n1 f1
  have t2 : eCallP 2 F__law_is_near (eCons (eVarB 3) (eCons (eCallP 1 F_near (eCons (eVarB 3) eNil)) eNil)) [e0, .sh (.loc n), .sh (.int size), .ow (.lst (ws.map .str)), .sh (.lst (ws.map .str))] (dl g n k y2 m2) = .ok (.bl true) (dl g n k y2 m2) :=
    callP_ok (eCons_ok v3 (eCons_ok t1 (show eNil _ _ = .ok [] _ from rfl))) rfl (by simp only [noLocL, noLoc, nl, flat_noLoc d1 f1]; rfl) i1 rfl
  have vt : eU (dr1 sTuple) (eVarB 3) [e0, .sh (.loc n), .sh (.int size), .ow (.lst (ws.map .str)), .sh (.lst (ws.map .str))] (dl g n k y2 m2) = .ok (.tup (ws.map .str)) (dl g n k y2 m2) := rfl
  have t3 : eCallP 1 F_near (eCons (eU (dr1 sTuple) (eVarB 3)) eNil) [e0, .sh (.loc n), .sh (.int size), .ow (.lst (ws.map .str)), .sh (.lst (ws.map .str))] (dl g n k y2 m2) = .ok d2 (dl g n k y2 m2) :=
    callP_ok (eCons_ok vt (show eNil _ _ = .ok [] _ from rfl)) rfl (by simp only [noLocL, noLoc, nl]; rfl) n2 f2
  have t4 : eCallP 2 F__law_is_near (eCons (eVarB 3) (eCons (eCallP 1 F_near (eCons (eU (dr1 sTuple) (eVarB 3)) eNil)) eNil)) [e0, .sh (.loc n), .sh (.int size), .ow (.lst (ws.map .str)), .sh (.lst (ws.map .str))] (dl g n k y2 m2) = .ok (.bl true) (dl g n k y2 m2) :=
    callP_ok (eCons_ok v3 (eCons_ok t3 (show eNil _ _ = .ok [] _ from rfl))) rfl (by simp only [noLocL, noLoc, nl, flat_noLoc d2 f2]; rfl) i2 rfl
  have t5 : eB (dr2 sNe) (eVarB 3) (eVarB 4) [e0, .sh (.loc n), .sh (.int size), .ow (.lst (ws.map .str)), .sh (.lst (ws.map .str))] (dl g n k y2 m2) = .ok (.bl false) (dl g n k y2 m2) := by
    rw [eB_ok v3 (show eVarB 4 [e0, .sh (.loc n), .sh (.int size), .ow (.lst (ws.map .str)), .sh (.lst (ws.map .str))] (dl g n k y2 m2) = .ok (.lst (ws.map .str)) (dl g n k y2 m2) from rfl)]
    show sNe (.lst (ws.map .str)) (.lst (ws.map .str)) _ = _
    simp only [sNe, deq, if_true, deq_strs]
    rfl
  have s3 : sIf (tOrF (tNotF (eU asB (eCallP 2 F__law_is_near (eCons (eVarB 3) (eCons (eCallP 1 F_near (eCons (eVarB 3) eNil)) eNil))))) (tOrF (eU asB (eB (dr2 sNe) (eVarB 3) (eVarB 4))) (tNotF (eU asB (eCallP 2 F__law_is_near (eCons (eVarB 3) (eCons (eCallP 1 F_near (eCons (eU (dr1 sTuple) (eVarB 3)) eNil)) eNil))))))) (sRet (eC (.bl false))) sNil [e0, .sh (.loc n), .sh (.int size), .ow (.lst (ws.map .str)), .sh (.lst (ws.map .str))] (dl g n k y2 m2) = .nx [e0, .sh (.loc n), .sh (.int size), .ow (.lst (ws.map .str)), .sh (.lst (ws.map .str))] (dl g n k y2 m2) := by
    have b1 := eU_ok (sem := asB) t2
    have b2 := eU_ok (sem := asB) t5
    have b3 := eU_ok (sem := asB) t4
    have b4 : tNotF (eU asB (eCallP 2 F__law_is_near (eCons (eVarB 3) (eCons (eCallP 1 F_near (eCons (eVarB 3) eNil)) eNil)))) [e0, .sh (.loc n), .sh (.int size), .ow (.lst (ws.map .str)), .sh (.lst (ws.map .str))] (dl g n k y2 m2) = .ok false (dl g n k y2 m2) := eU_ok b1
    have b5 : tNotF (eU asB (eCallP 2 F__law_is_near (eCons (eVarB 3) (eCons (eCallP 1 F_near (eCons (eU (dr1 sTuple) (eVarB 3)) eNil)) eNil)))) [e0, .sh (.loc n), .sh (.int size), .ow (.lst (ws.map .str)), .sh (.lst (ws.map .str))] (dl g n k y2 m2) = .ok false (dl g n k y2 m2) := eU_ok b3
    unfold sIf
    have b6 : tOrF (tNotF (eU asB (eCallP 2 F__law_is_near (eCons (eVarB 3) (eCons (eCallP 1 F_near (eCons (eVarB 3) eNil)) eNil))))) (tOrF (eU asB (eB (dr2 sNe) (eVarB 3) (eVarB 4))) (tNotF (eU asB (eCallP 2 F__law_is_near (eCons (eVarB 3) (eCons (eCallP 1 F_near (eCons (eU (dr1 sTuple) (eVarB 3)) eNil)) eNil)))))) [e0, .sh (.loc n), .sh (.int size), .ow (.lst (ws.map .str)), .sh (.lst (ws.map .str))] (dl g n k y2 m2) = .ok false (dl g n k y2 m2) := by
      unfold tOrF
      rw [b4]
      simp only [Res.bind, Bool.false_eq_true, if_false]
      rw [b2]
      simp only [asB, Res.bind, Bool.false_eq_true, if_false]
      exact b5
    rw [thenS_ok b6]
    rfl
  rw [seq_nx s3]
  show sAppend 3 (eC (.str "zz")) [e0, .sh (.loc n), .sh (.int size), .ow (.lst (ws.map .str)), .sh (.lst (ws.map .str))] (dl g n k y2 m2) = _
  unfold sAppend
  rw [if_pos (show isOwL [e0, .sh (.loc n), .sh (.int size), .ow (.lst (ws.map .str)), .sh (.lst (ws.map .str))] 3 = true from rfl), thenS_ok (eC_ok (d := .str "zz"))]
  simp only [putApp, List.getElem?_cons_succ, List.getElem?_cons_zero, List.length_map]
  rw [if_pos (by unfold big; omega)]
  rfl
theorem loop_ok (h : DealOk g n k) (e0 : Slot) : ∀ (ss : List Nat) (xs : List Int) (mx : Int) (e2 e3 e4 : Slot), (∀ s ∈ ss, 1 ≤ s ∧ s ≤ 4) → xs.length < 70 → ∃ e2' e3' e4' ys my, forL (tgN 2) bodyL (ss.map fun s => D.int (s : Nat)) [e0, .sh (.loc n), e2, e3, e4] (dl g n k xs mx) = .nx [e0, .sh (.loc n), e2', e3', e4'] (dl g n k ys my)
  | [], xs, mx, e2, e3, e4, _, _ => ⟨e2, e3, e4, xs, mx, rfl⟩
  | s :: ss, xs, mx, e2, e3, e4, hs, hl => by
    obtain ⟨e3', e4', ys, my, eb, ly⟩ := body_ok (mx := mx) h hl (hs s List.mem_cons_self).1 (hs s List.mem_cons_self).2 e0 e3 e4
    obtain ⟨f2, f3, f4, zs, mz, ef⟩ := loop_ok h e0 ss ys my (.sh (.int s)) e3' e4' (fun x hx => hs x (List.mem_cons_of_mem _ hx)) (by omega)
    refine ⟨f2, f3, f4, zs, mz, ?_⟩
    simp only [List.map_cons, forL, tgN, List.set]
    rw [eb]
    exact ef
def unI : D → Nat
  | .int i => i.toNat
  | _ => 0
theorem perm_ints {cs : List D} {ss : List Nat} (h : cs.Perm (ss.map fun s => D.int (s : Nat))) : ∃ vs : List Nat, cs = vs.map (fun s => D.int (s : Nat)) ∧ vs.Perm ss := by
  refine ⟨cs.map unI, ?_, ?_⟩
  · rw [List.map_map]
    have : ∀ d ∈ cs, ((fun s : Nat => D.int (s : Nat)) ∘ unI) d = d := fun d hd => by
      obtain ⟨x, _, rfl⟩ := List.mem_map.mp (h.mem_iff.mp hd)
      rfl
    rw [List.map_congr_left this, List.map_id'']
    intro _; rfl
  · have h2 := h.map unI
    rw [List.map_map] at h2
    have e : ss.map (unI ∘ fun s : Nat => D.int (s : Nat)) = ss := by
      have : ∀ x ∈ ss, (unI ∘ fun s : Nat => D.int (s : Nat)) x = x := fun _ _ => rfl
      rw [List.map_congr_left this, List.map_id'']
      intro _; rfl
    rwa [e] at h2
theorem law_ok (ns : List Int) : ∃ g', F_law [.frz (ns.map .int)] [] = .ok (.bl true) g' := by
  obtain ⟨xs, mx, ed, lx⟩ := deal_ok 49979687 47 0 (by decide) ns []
  have hd : DealOk ([] ++ [.non, .non]) 1 0 := ⟨by decide, by decide, by decide⟩
  obtain ⟨cs, ys, my, em, pm, ly⟩ := mixed_ok (mx := mx) hd (xs := xs) (by omega) (ds := ([1, 2, 3, 4] : List Nat).map fun s => D.int (s : Nat)) (by decide)
  obtain ⟨ss, rfl, ps⟩ := perm_ints pm
  obtain ⟨e2, e3, e4, zs, mz, ef⟩ := loop_ok hd (.sh (.frz (ns.map .int))) ss ys my .no .no .no (fun s hs => by
    have := ps.mem_iff.mp hs
    simp at this
    omega) (by omega)
  refine ⟨dl ([] ++ [.non, .non]) 1 0 zs mz, ?_⟩
  unfold F_law fnOf Q_law
  simp only [List.map, List.length_cons, List.length_nil, List.cons_append, List.nil_append, List.replicate]
  have s1 : sSet 1 (eCall 2 F__law_deal (eCons (eVar 0) (eCons (eC (.int 0)) eNil))) [.sh (.frz (ns.map .int)), .no, .no, .no, .no] [] = .nx [.sh (.frz (ns.map .int)), .sh (.loc 1), .no, .no, .no] (dl ([] ++ [.non, .non]) 1 0 xs mx) := by
    have c : eCall 2 F__law_deal (eCons (eVar 0) (eCons (eC (.int 0)) eNil)) [.sh (.frz (ns.map .int)), .no, .no, .no, .no] [] = .ok (.loc 1) (dl ([] ++ [.non, .non]) 1 0 xs mx) := by
      unfold eCall
      rw [show eCons (eVar 0) (eCons (eC (.int 0)) eNil) [.sh (.frz (ns.map .int)), .no, .no, .no, .no] [] = .ok [.frz (ns.map .int), .int 0] [] from rfl]
      simp only [Res.bind, List.length_cons, List.length_nil, if_true]
      rw [deal_eq, ed]
      rfl
    unfold sSet
    rw [thenS_ok c]
    rfl
  rw [seq_nx s1]
  have s2 : sFor (eU sIter (eCall 2 F__law_mixed (eCons (eVar 1) (eCons (eLst (eCons (eC (.int 1)) (eCons (eC (.int 2)) (eCons (eC (.int 3)) (eCons (eC (.int 4)) eNil))))) eNil)))) (tgN 2) bodyL [.sh (.frz (ns.map .int)), .sh (.loc 1), .no, .no, .no] (dl ([] ++ [.non, .non]) 1 0 xs mx) = .nx [.sh (.frz (ns.map .int)), .sh (.loc 1), e2, e3, e4] (dl ([] ++ [.non, .non]) 1 0 zs mz) := by
    have c : eCall 2 F__law_mixed (eCons (eVar 1) (eCons (eLst (eCons (eC (.int 1)) (eCons (eC (.int 2)) (eCons (eC (.int 3)) (eCons (eC (.int 4)) eNil))))) eNil)) [.sh (.frz (ns.map .int)), .sh (.loc 1), .no, .no, .no] (dl ([] ++ [.non, .non]) 1 0 xs mx) = .ok (.lst (ss.map fun s => D.int (s : Nat))) (dl ([] ++ [.non, .non]) 1 0 ys my) := by
      unfold eCall
      rw [show eCons (eVar 1) (eCons (eLst (eCons (eC (.int 1)) (eCons (eC (.int 2)) (eCons (eC (.int 3)) (eCons (eC (.int 4)) eNil))))) eNil) [.sh (.frz (ns.map .int)), .sh (.loc 1), .no, .no, .no] (dl ([] ++ [.non, .non]) 1 0 xs mx) = .ok [.loc 1, .lst (([1, 2, 3, 4] : List Nat).map fun s => D.int (s : Nat))] (dl ([] ++ [.non, .non]) 1 0 xs mx) from rfl]
      simp only [Res.bind, List.length_cons, List.length_nil, if_true]
      rw [mixed_eq, em]
    unfold sFor
    rw [thenS_ok ((eU_ok (sem := sIter) c).trans (show sIter (.lst _) _ = .ok (ss.map fun s => D.int (s : Nat)) _ from rfl))]
    exact ef
  unfold bodyL at s2
  rw [seq_nx s2]
  have na := near_a
  have n1 : F_near [.lst [.str "a"]] [] = .ok (.tup []) [] := by
    have q := mf_near (ρ := Eq) (fun a b c d e1 e2 => by rw [e1, e2]) [.lst [.str "a"]] [.lst [.str "a"]] (.cons (.lst (.cons (.str rfl) .nil)) .nil)
    split at na
    · rename_i g3 e3
      rw [e3] at q ⊢
      cases q
      rfl
    · cases na
  have t1 : eCallP 1 F_near (eCons (eLst (eCons (eC (.str "a")) eNil)) eNil) [.sh (.frz (ns.map .int)), .sh (.loc 1), e2, e3, e4] (dl ([] ++ [.non, .non]) 1 0 zs mz) = .ok (.tup []) (dl ([] ++ [.non, .non]) 1 0 zs mz) :=
    callP_ok (ds := [.lst [.str "a"]]) rfl rfl rfl n1 rfl
  unfold sRet
  rw [thenS_ok ((eB_ok (sem := dr2 sEq) t1 (show eTup eNil [.sh (.frz (ns.map .int)), .sh (.loc 1), e2, e3, e4] (dl ([] ++ [.non, .non]) 1 0 zs mz) = .ok (.tup []) (dl ([] ++ [.non, .non]) 1 0 zs mz) from rfl)).trans (show dr2 sEq (.tup []) (.tup []) (dl ([] ++ [.non, .non]) 1 0 zs mz) = .ok (.bl true) (dl ([] ++ [.non, .non]) 1 0 zs mz) from rfl))]
  rfl
end
end Lw
namespace Lw
open PySem PySem.Spec PyProof.Rows L2 Ev
def D__law_deal : He.DefD := ⟨("_law_deal", none), "_law_deal", "_law_deal", defArgs s__law_deal, defBody s__law_deal, defScope s__law_deal, [], []⟩
def D__law_draw : He.DefD := ⟨("_law_draw", none), "_law_draw", "_law_draw", defArgs s__law_draw, defBody s__law_draw, defScope s__law_draw, [], []⟩
def D__law_mixed : He.DefD := ⟨("_law_mixed", none), "_law_mixed", "_law_mixed", defArgs s__law_mixed, defBody s__law_mixed, defScope s__law_mixed, [], []⟩
def D_neighbours : He.DefD := ⟨("neighbours", none), "neighbours", "neighbours", defArgs s_neighbours, defBody s_neighbours, defScope s_neighbours, [], []⟩
def D_with_few : He.DefD := ⟨("with_few", none), "with_few", "with_few", defArgs s_with_few, defBody s_with_few, defScope s_with_few, [], []⟩
def D_orders_of : He.DefD := ⟨("orders_of", none), "orders_of", "orders_of", defArgs s_orders_of, defBody s_orders_of, defScope s_orders_of, [], []⟩
def D_near : He.DefD := ⟨("near", none), "near", "near", defArgs s_near, defBody s_near, defScope s_near, [], []⟩
def D__law_words : He.DefD := ⟨("_law_words", none), "_law_words", "_law_words", defArgs s__law_words, defBody s__law_words, defScope s__law_words, [], []⟩
def D__law_is_near : He.DefD := ⟨("_law_is_near", none), "_law_is_near", "_law_is_near", defArgs s__law_is_near, defBody s__law_is_near, defScope s__law_is_near, [], []⟩
def D_law : He.DefD := ⟨("law", none), "law", "law", defArgs s_law, defBody s_law, defScope s_law, [], []⟩
def fnL : List He.DefD := [D__law_deal, D__law_draw, D__law_mixed, D_neighbours, D_with_few, D_orders_of, D_near, D__law_words, D__law_is_near, D_law]
def faL : List He.Fa := [.glo "_law_deal", .glo "_law_draw", .glo "_law_mixed", .glo "neighbours", .glo "with_few", .glo "orders_of", .glo "near", .glo "_law_words", .glo "_law_is_near", .glo "law", .free "abs", .free "int", .free "isinstance", .free "len", .free "list", .free "range", .free "sorted", .free "str", .free "tuple", .free "zip"]
abbrev R : PySem.W.OpenRow := PySem.W.OpenLaw.row PySem.Challenge.rw_poisonruns_k44_orders_that_stand_near
abbrev hk : PySem.W.Hook := He.hookD 4 faL fnL
def ob (s : PySem.W.SharedT) : He.AlD := He.obsDG 4 faL fnL (HandSHeadRun.getT s)
theorem ob_eq (s : PySem.W.SharedT) : ob s = hk.obs s.abs := He.obsDG_eq (HandSHeadRun.getT_eq s)
def loose : List PySem.Str := (["orders_of", "neighbours", "with_few", "near", "_law_deal", "_law_draw", "_law_mixed", "_law_words", "_law_is_near"] : List PySem.Str)
theorem run (w : World) : HandSHeadRun.RunEq R (PySem.W.view R.prog [11]) hk ob 2000 loose w := by
  intro os
  kernel_rfl
theorem facts {P : Program} {w : World} {K : PySem.W.Frag} {h : Heap} {mg : PySem.Str → Option Value} {f : Addr} (X : K.In h) (G : h.Ns mainGlobals mg) (hfa : mg ("law" : PySem.Str) = some (.ref f)) (c : He.SaysD faL fnL K) :
    ∃ fd : FuncData, (∀ (s : Shared) (v : Value), BindsTo s fd ⟨[v], []⟩ [("_law_script", v)]) ∧ ∀ base : Heap, K.In base → base.Ns mainGlobals mg → FnOk P w K mg base CX0 12 f fd ["_law_script"] (Spec (St0 K) 1 F_law) := by
  obtain ⟨fd__law_deal, X__law_deal⟩ := c.def_ 0 (d := D__law_deal) rfl
  obtain ⟨fd__law_draw, X__law_draw⟩ := c.def_ 1 (d := D__law_draw) rfl
  obtain ⟨fd__law_mixed, X__law_mixed⟩ := c.def_ 2 (d := D__law_mixed) rfl
  obtain ⟨fd_neighbours, X_neighbours⟩ := c.def_ 3 (d := D_neighbours) rfl
  obtain ⟨fd_with_few, X_with_few⟩ := c.def_ 4 (d := D_with_few) rfl
  obtain ⟨fd_orders_of, X_orders_of⟩ := c.def_ 5 (d := D_orders_of) rfl
  obtain ⟨fd_near, X_near⟩ := c.def_ 6 (d := D_near) rfl
  obtain ⟨fd__law_words, X__law_words⟩ := c.def_ 7 (d := D__law_words) rfl
  obtain ⟨fd__law_is_near, X__law_is_near⟩ := c.def_ 8 (d := D__law_is_near) rfl
  obtain ⟨fd_law, X_law⟩ := c.def_ 9 (d := D_law) rfl
  have e := hfa.symm.trans (He.glo_ok X G (c.fact 9 (f := .glo "law") rfl))
  cases e
  have g__law_deal : Got K mg "_law_deal" s__law_deal := ⟨_, fd__law_deal, X__law_deal, He.glo_ok X G (c.fact 0 (f := .glo "_law_deal") rfl)⟩
  have g__law_draw : Got K mg "_law_draw" s__law_draw := ⟨_, fd__law_draw, X__law_draw, He.glo_ok X G (c.fact 1 (f := .glo "_law_draw") rfl)⟩
  have g__law_mixed : Got K mg "_law_mixed" s__law_mixed := ⟨_, fd__law_mixed, X__law_mixed, He.glo_ok X G (c.fact 2 (f := .glo "_law_mixed") rfl)⟩
  have g_neighbours : Got K mg "neighbours" s_neighbours := ⟨_, fd_neighbours, X_neighbours, He.glo_ok X G (c.fact 3 (f := .glo "neighbours") rfl)⟩
  have g_with_few : Got K mg "with_few" s_with_few := ⟨_, fd_with_few, X_with_few, He.glo_ok X G (c.fact 4 (f := .glo "with_few") rfl)⟩
  have g_orders_of : Got K mg "orders_of" s_orders_of := ⟨_, fd_orders_of, X_orders_of, He.glo_ok X G (c.fact 5 (f := .glo "orders_of") rfl)⟩
  have g_near : Got K mg "near" s_near := ⟨_, fd_near, X_near, He.glo_ok X G (c.fact 6 (f := .glo "near") rfl)⟩
  have g__law_words : Got K mg "_law_words" s__law_words := ⟨_, fd__law_words, X__law_words, He.glo_ok X G (c.fact 7 (f := .glo "_law_words") rfl)⟩
  have g__law_is_near : Got K mg "_law_is_near" s__law_is_near := ⟨_, fd__law_is_near, X__law_is_near, He.glo_ok X G (c.fact 8 (f := .glo "_law_is_near") rfl)⟩
  have b : Bl mg := ⟨He.free_ok X G (c.fact 10 (f := .free "abs") rfl), He.free_ok X G (c.fact 11 (f := .free "int") rfl), He.free_ok X G (c.fact 12 (f := .free "isinstance") rfl), He.free_ok X G (c.fact 13 (f := .free "len") rfl), He.free_ok X G (c.fact 14 (f := .free "list") rfl), He.free_ok X G (c.fact 15 (f := .free "range") rfl), He.free_ok X G (c.fact 16 (f := .free "sorted") rfl), He.free_ok X G (c.fact 17 (f := .free "str") rfl), He.free_ok X G (c.fact 18 (f := .free "tuple") rfl), He.free_ok X G (c.fact 19 (f := .free "zip") rfl)⟩
  have bb := FunD.bindsA (ps := ["_law_script"]) X_law fun _ _ _ _ _ _ us hl => match us, hl with | [_], _ => rfl
  refine ⟨fd_law, fun s v => bb s [v] rfl, fun base _ _ => ?_⟩
  have d__law_deal : Def P w K mg base (St0 K) "_law_deal" 1 ["_law_script", "_law_base"] F__law_deal := ok__law_deal b g__law_deal
  have d__law_draw : Def P w K mg base (St0 K) "_law_draw" 1 ["_law_deal_here", "_law_wide"] F__law_draw := ok__law_draw b g__law_draw
  have d__law_mixed : DefO P w K mg base (St0 K) "_law_mixed" 2 ["_law_deal_here", "_law_some"] F__law_mixed := ok__law_mixed b g__law_mixed d__law_draw
  have d_neighbours : DefO P w K mg base (St0 K) "neighbours" 1 ["order"] F_neighbours := ok_neighbours b g_neighbours
  have d_with_few : Def P w K mg base (St0 K) "with_few" (2 + 8) ["orders", "pairs", "many"] (F_with_few 8) := ok_with_few b g_with_few d_neighbours 8
  have d_orders_of : Def P w K mg base (St0 K) "orders_of" 1 ["names"] F_orders_of := ok_orders_of b g_orders_of
  have d_near : Def P w K mg base (St0 K) "near" 11 ["names"] F_near := ok_near b g_near d_with_few d_orders_of
  have d__law_words : DefO P w K mg base (St0 K) "_law_words" 3 ["_law_deal_here", "_law_size"] F__law_words := ok__law_words b g__law_words d__law_mixed
  have d__law_is_near : Def P w K mg base (St0 K) "_law_is_near" 1 ["_law_called", "_law_told"] F__law_is_near := ok__law_is_near b g__law_is_near
  exact ok_law b X_law d__law_deal d__law_mixed d_near d__law_words d__law_is_near
end Lw
open PySem PySem.W PySem.Calls PyProof.Rows
theorem PySem.Challenge.cw_poisonruns_k44_orders_that_stand_near_holds : PySem.Challenge.rw_poisonruns_k44_orders_that_stand_near.Holds := by
  w_on; o_law
  refine HandSHeadRun.head_any (r := OpenLaw.row PySem.Challenge.rw_poisonruns_k44_orders_that_stand_near) (q := view (OpenLaw.row PySem.Challenge.rw_poisonruns_k44_orders_that_stand_near).prog [11]) (H := Lw.hk) (ob := Lw.ob) (M := 2000) (loose := Lw.loose) (d := HandSHeadRun.topDef (OpenLaw.row PySem.Challenge.rw_poisonruns_k44_orders_that_stand_near).prog 11) (kwd := []) Lw.ob_eq
    (by kernel_rfl) (fun s => by kernel_rfl) Lw.run (by kernel_rfl) (by kernel_rfl) (by kernel_rfl) (by rfl) (by first | assumption | decide +kernel) (by decide +kernel) ⟨rfl, rfl, rfl, rfl, rfl, by decide +kernel⟩ ?hw ?hc
  case hw => w_witness2
  case hc =>
    refine L2.walk_ofE (l := PySem.Challenge.rw_poisonruns_k44_orders_that_stand_near) (n := 63) (k := 12) (x := "_law_script") (CX := L2.CX0) rfl (by decide) (by kernel_rfl) ⟨rfl, by decide, by decide⟩ ?F (fun _ _ _ _ z => z)
    intro w mg fa h Y G hmg0
    obtain ⟨K, KX, c⟩ := Y
    have hmg : mg ("law" : PySem.Str) = some (.ref fa) := by
      have e : (HandSHeadRun.topDef (OpenLaw.row PySem.Challenge.rw_poisonruns_k44_orders_that_stand_near).prog 11).name = ("law" : PySem.Str) := by kernel_rfl
      rw [← e]
      exact hmg0
    obtain ⟨fd, hb, hF⟩ := Lw.facts (P := (PySem.Challenge.rw_poisonruns_k44_orders_that_stand_near).prog) (w := w) KX G hmg c
    exact ⟨K, fd, Ev.Spec (Lw.St0 K) 1 Lw.F_law, KX, hb, fun H a ns hl _ hS => Ev.law_start (S := Lw.St0 K) hS (Lw.law_ok ns), hF⟩
