import PyProof.Rows.All
import Wide.All
import OpenK.AllK
import Wide.FinOn
import KE.KStateDown
import Lean
import HandS.ForMost
import HandS.Exc
import HandS.Star
import HandS.TupAny
import HandS.IsInst
import HandS.RaiseMore
import HandS.WordsExc
import HandS.Defaults
import HandS.Style
import HandS.Small
import HandS.Zip
import HandS.ListItems
import KE.KDictZip
import HandS.Head0
import HandS.Head1
import HandS.Head2
import HandS.HeadEnd
import HandS.HeadHook1
import HandS.HeadHook2
import HandS.Property
import HandS.ClsMeth
import HandS.CallLocal
import HandS.OwnEq
import KE.KFmtOwn
import PyProof.InstEq
import HandS.More
import KE.GoesEnum
import KE.GoesZip
import KE.GoesMore
import HandS.Iter
import HandS.FStr
import HandS.TryOnly
import HandS.Set
import HandS.SetKeys
import HandS.Strs
import HandS.SetBool
import HandS.TupSets
import HandS.TupLen
import HandS.WordsDict
import KE.KOpsOwn
import HandS.Text
import HandS.DictComp
import KE.KEqDict
import PySem.Challenge.RW_poisonruns_k08_texts_of_tables
set_option Elab.async false
set_option linter.all false
set_option maxRecDepth 100000
set_option maxHeartbeats 0
/-! A functional reading of Python over the hand layer: data trees, environments, a store; what a reading must keep. -/
namespace Ev
open PySem PySem.Spec PyProof.Rows L2
abbrev St := L2.St

/-- a value as a tree; a dict by its keys and values; an instance by its class's number, its attributes' names and values; loc n: the n-th object of the store; frz: a list that no one changes (the script) -/
inductive D where
  | non | bl (b : Bool) | int (i : Int) | str (x : Str)
  | lst (xs : List D) | tup (xs : List D)
  | dic (t : Nat) (ks vs : List D)
  | ins (c : Nat) (ns : List Str) (vs : List D)
  | loc (n : Nat)
  | frz (xs : List D)
  | cls (n : Nat)
  | ctup (xs : List D)

/-- an exception of an own class: its class's number, its attributes -/
structure Xc where
  c : Nat
  ns : List Str
  vs : List D
abbrev Sto := List D
inductive Res (α : Type) where
  | ok (a : α) (g : Sto)
  | exc (x : Xc) (g : Sto)
  | stuck
def Res.bind {α β : Type} (r : Res α) (f : α → Sto → Res β) : Res β := match r with
  | .ok a g => f a g
  | .exc x g => .exc x g
  | .stuck => .stuck
inductive Slot where
  | no | sh (d : D) | ow (d : D)
abbrev Env := List Slot
/-- an expression's reading -/
abbrev En (α : Type) := Env → Sto → Res α
abbrev E1 := En D

/-! ### addresses -/
/-- what does not change: the written part, the own classes' addresses -/
structure Stat where
  K : PySem.W.Frag
  kc : List Addr
/-- mu: the store's addresses; W: what this frame may write (the store, its own lists); B: what others own -/
structure Mv where
  mu : List Addr
  W : List Addr
  B : List Addr
def Mv.fr (m : Mv) (a : Addr) : Prop := a ∉ m.W ∧ a ∉ m.B
/-- a list that is no one's own, of any kind -/
def Sql (S : Stat) (m : Mv) (H : Hp) (a : Addr) (vs : List V) : Prop :=
  (L2.Rd H a (.lst vs) ∧ m.fr a) ∨ ∃ (o : Obj) (its : Array Value) (n : Nat), S.K.lookup a = some o ∧ o.cls = .type "list" ∧ o.dict = none ∧ o.data = .seq its n ∧ its.size ≤ sizeLine ∧ Vals vs its.toList
theorem Sql.sq {S : Stat} {m : Mv} {H : Hp} {a : Addr} {vs : List V} (h : Sql S m H a vs) : SqL S.K H a vs := by
  rcases h with h | h
  · exact .inl h.1
  · exact .inr h
def kD : Key → D
  | .inl i => .int i
  | .inr x => .str x
/-- an instance's attributes, none of them a name of its class -/
def InsN (K : PySem.W.Frag) (C : Addr) (ns : List Str) (fs : List (Str × V)) : Prop := ns = fs.map (·.1) ∧ Cls K C ∧ ∀ f ∈ ns, NoAttr K C f
/-- what a dict's object is, by keys and values -/
def DicO (t : Nat) (ks : List D) (vs : List V) (o : HO) : Prop :=
  (t = 0 ∧ ∃ kvs, o = .dK kvs ∧ ks = kvs.map (fun p => kD p.1) ∧ vs = kvs.map (·.2)) ∨ (t = 1 ∧ ∃ kvs, o = .dT kvs ∧ ks = kvs.map (fun p => D.tup (p.1.map kD)) ∧ vs = kvs.map (·.2))
/-- a dict at a, locked while it is walked -/
def RdD (H : Hp) (a : Addr) (o : HO) : Prop := H a = some o ∨ ∃ u kvs, o = .dK kvs ∧ H a = some (.frz u o)
mutual
inductive Rr (S : Stat) (m : Mv) (H : Hp) : D → V → Prop where
  | non : Rr S m H .non .non
  | bl (b : Bool) : Rr S m H (.bl b) (.bl b)
  | int (i : Int) : Rr S m H (.int i) (.int i)
  | str (x : Str) : Rr S m H (.str x) (.str x)
  | lst {a : Addr} {vs : List V} {ds : List D} : H a = some (.lst vs) → m.fr a → Rl S m H ds vs → Rr S m H (.lst ds) (.ref a)
  | frz {a : Addr} {vs : List V} {ds : List D} : Sql S m H a vs → Rl S m H ds vs → Rr S m H (.frz ds) (.ref a)
  | tup {a : Addr} {vs : List V} {ds : List D} : H a = some (.tup vs) → Rl S m H ds vs → Rr S m H (.tup ds) (.ref a)
  | ctup {a : Addr} {vs : List V} {ds : List D} : SqT S.K H a vs → Rl S m H ds vs → Rr S m H (.ctup ds) (.ref a)
  | dic {a : Addr} {t : Nat} {o : HO} {ks : List D} {vs : List V} {ds : List D} : RdD H a o → m.fr a → DicO t ks vs o → Rl S m H ds vs → Rr S m H (.dic t ks ds) (.ref a)
  | ins {a C dx : Addr} {fs : List (Str × V)} {c : Nat} {ds : List D} {ns : List Str} : H a = some (.ins C dx fs) → m.fr a → S.kc[c]? = some C → InsN S.K C ns fs → Rl S m H ds (fs.map (·.2)) → Rr S m H (.ins c ns ds) (.ref a)
  | loc {n : Nat} {a : Addr} : m.mu[n]? = some a → Rr S m H (.loc n) (.ref a)
  | cls {n : Nat} {C : Addr} : S.kc[n]? = some C → Rr S m H (.cls n) (.ref C)
inductive Rl (S : Stat) (m : Mv) (H : Hp) : List D → List V → Prop where
  | nil : Rl S m H [] []
  | cons {d : D} {v : V} {ds : List D} {vs : List V} : Rr S m H d v → Rl S m H ds vs → Rl S m H (d :: ds) (v :: vs)
end
/-- the content of an object that is someone's own -/
inductive Root (S : Stat) (m : Mv) (H : Hp) (a : Addr) : D → Prop where
  | lst {vs : List V} {ds : List D} : H a = some (.lst vs) → Rl S m H ds vs → Root S m H a (.lst ds)
  | dic {t : Nat} {o : HO} {ks : List D} {vs : List V} {ds : List D} : H a = some o → DicO t ks vs o → Rl S m H ds vs → Root S m H a (.dic t ks ds)
  | ins {C dx : Addr} {fs : List (Str × V)} {c : Nat} {ds : List D} {ns : List Str} : H a = some (.ins C dx fs) → S.kc[c]? = some C → InsN S.K C ns fs → Rl S m H ds (fs.map (·.2)) → Root S m H a (.ins c ns ds)
/-- the memory is as told -/
structure MOk (S : Stat) (H : Hp) (g : Sto) (m : Mv) : Prop where
  len : g.length = m.mu.length
  sto : ∀ (n : Nat) (d : D) (a : Addr), g[n]? = some d → m.mu[n]? = some a → Root S m H a d
  nd : m.mu.Nodup
  muW : ∀ a ∈ m.mu, a ∈ m.W
  trk : ∀ a, a ∈ m.W ∨ a ∈ m.B → Mut (H a)
  dis : ∀ a ∈ m.B, a ∉ m.W
/-- a slot -/
def SlotOk (S : Stat) (m : Mv) (H : Hp) : Slot → Option V → Prop
  | .no, _ => True
  | .sh d, ov => ∃ v, ov = some v ∧ Rr S m H d v
  | .ow d, ov => ∃ a, ov = some (.ref a) ∧ a ∈ m.W ∧ a ∉ m.mu ∧ Root S m H a d
structure Rel (S : Stat) (H : Hp) (σ : St) (env : Env) (g : Sto) (m : Mv) : Prop where
  mem : MOk S H g m
  len : σ.length = env.length
  slot : ∀ (i : Nat) (s : Slot) (ov : Option V), env[i]? = some s → σ[i]? = some ov → SlotOk S m H s ov
  own : ∀ (i j : Nat) (d d' : D) (a : Addr), env[i]? = some (.ow d) → env[j]? = some (.ow d') → σ[i]? = some (some (.ref a)) → σ[j]? = some (some (.ref a)) → i = j

/-- what an expression may do -/
structure Grow (m : Mv) (H : Hp) (m' : Mv) (H' : Hp) : Prop where
  keep : ∀ a o, H a = some o → a ∉ m.mu → H' a = some o
  liv : ∀ a, H' a = none → H a = none
  mu : ∃ t, m'.mu = m.mu ++ t
  mun : ∀ a ∈ m'.mu, a ∈ m.mu ∨ H a = none
  wk : ∀ a ∈ m.W, a ∈ m'.W
  wn : ∀ a ∈ m'.W, a ∈ m.W ∨ H a = none
  b : m'.B = m.B
/-- what a statement may do -/
structure GrowS (m : Mv) (H : Hp) (m' : Mv) (H' : Hp) : Prop where
  keep : ∀ a o, H a = some o → a ∉ m.W → H' a = some o
  liv : ∀ a, H' a = none → H a = none
  mu : ∃ t, m'.mu = m.mu ++ t
  mun : ∀ a ∈ m'.mu, a ∈ m.mu ∨ H a = none
  wn : ∀ a ∈ m'.W, a ∈ m.W ∨ H a = none
  b : m'.B = m.B
theorem Grow.refl (m : Mv) (H : Hp) : Grow m H m H := ⟨fun _ _ h _ => h, fun _ h => h, ⟨[], by simp⟩, fun _ h => .inl h, fun _ h => h, fun _ h => .inl h, rfl⟩
theorem GrowS.refl (m : Mv) (H : Hp) : GrowS m H m H := ⟨fun _ _ h _ => h, fun _ h => h, ⟨[], by simp⟩, fun _ h => .inl h, fun _ h => .inl h, rfl⟩
theorem Grow.s {m m' : Mv} {H H' : Hp} (g : Grow m H m' H') (hm : ∀ a ∈ m.mu, a ∈ m.W) : GrowS m H m' H' :=
  ⟨fun a o h n => g.keep a o h fun z => n (hm a z), g.liv, g.mu, g.mun, g.wn, g.b⟩
theorem none_of_keep {H H' : Hp} {a : Addr} (k : ∀ o, H a = some o → H' a = some o) (h : H' a = none) : H a = none := by
  cases q : H a with
  | none => rfl
  | some o => rw [k o q] at h; cases h
theorem Grow.trans {m m1 m2 : Mv} {H H1 H2 : Hp} (a : Grow m H m1 H1) (b : Grow m1 H1 m2 H2) : Grow m H m2 H2 := by
  have back := a.liv
  refine ⟨fun x o h n => ?_, fun x h => back x (b.liv x h), ?_, fun x hx => ?_, fun x hx => b.wk x (a.wk x hx), fun x hx => ?_, b.b.trans a.b⟩
  · refine b.keep x o (a.keep x o h n) fun z => ?_
    rcases a.mun x z with z | z
    · exact n z
    · rw [h] at z; cases z
  · obtain ⟨t, e⟩ := a.mu
    obtain ⟨t', e'⟩ := b.mu
    exact ⟨t ++ t', by rw [e', e, List.append_assoc]⟩
  · rcases b.mun x hx with z | z
    · exact a.mun x z
    · exact .inr (back x z)
  · rcases b.wn x hx with z | z
    · exact a.wn x z
    · exact .inr (back x z)
/-- an address that was free is not in W or B -/
theorem MOk.free {S : Stat} {H : Hp} {g : Sto} {m : Mv} (h : MOk S H g m) {a : Addr} (n : H a = none) : a ∉ m.W ∧ a ∉ m.B :=
  ⟨fun z => by have := h.trk a (.inl z); rw [n] at this; exact this, fun z => by have := h.trk a (.inr z); rw [n] at this; exact this⟩
/-- trees stay -/
theorem fr_grow {m m' : Mv} {H H' : Hp} (q : GrowS m H m' H') {a : Addr} (f : m.fr a) (h : H a ≠ none) : m'.fr a :=
  ⟨fun z => (q.wn a z).elim f.1 h, fun z => f.2 (q.b ▸ z)⟩
theorem rd_grow {m m' : Mv} {H H' : Hp} (q : GrowS m H m' H') {a : Addr} {o : HO} (f : m.fr a) (h : L2.Rd H a o) : L2.Rd H' a o ∧ m'.fr a := by
  rcases h with h | ⟨u, h⟩
  · exact ⟨.inl (q.keep a _ h f.1), fr_grow q f (by rw [h]; simp)⟩
  · exact ⟨.inr ⟨u, q.keep a _ h f.1⟩, fr_grow q f (by rw [h]; simp)⟩
theorem rdD_grow {m m' : Mv} {H H' : Hp} (q : GrowS m H m' H') {a : Addr} {o : HO} (f : m.fr a) (h : RdD H a o) : RdD H' a o ∧ m'.fr a := by
  rcases h with h | ⟨u, kvs, e, h⟩
  · exact ⟨.inl (q.keep a _ h f.1), fr_grow q f (by rw [h]; simp)⟩
  · exact ⟨.inr ⟨u, kvs, e, q.keep a _ h f.1⟩, fr_grow q f (by rw [h]; simp)⟩
/-- no tuple is anyone's own -/
theorem tup_fr {S : Stat} {H : Hp} {g : Sto} {m : Mv} (ok : MOk S H g m) {a : Addr} {vs : List V} (h : L2.Rd H a (.tup vs)) : m.fr a := by
  rcases h with h | ⟨u, h⟩
  · exact ⟨fun z => by have := ok.trk a (.inl z); rw [h] at this; exact this, fun z => by have := ok.trk a (.inr z); rw [h] at this; exact this⟩
  · exact ⟨fun z => by have := ok.trk a (.inl z); rw [h] at this; exact this, fun z => by have := ok.trk a (.inr z); rw [h] at this; exact this⟩
theorem sqt_grow {S : Stat} {m m' : Mv} {H H' : Hp} {g : Sto} (ok : MOk S H g m) (q : GrowS m H m' H') {a : Addr} {vs : List V} (h : SqT S.K H a vs) : SqT S.K H' a vs := by
  rcases h with h | h
  · exact .inl (rd_grow q (tup_fr ok h) h).1
  · exact .inr h
theorem mu_grow {m m' : Mv} {n : Nat} {a : Addr} (h : ∃ t, m'.mu = m.mu ++ t) (e : m.mu[n]? = some a) : m'.mu[n]? = some a := by
  obtain ⟨t, h⟩ := h
  rw [h, List.getElem?_append_left (List.getElem?_eq_some_iff.mp e).1]
  exact e
mutual
theorem Rr.grow {S : Stat} {m m' : Mv} {H H' : Hp} {g : Sto} (ok : MOk S H g m) (q : GrowS m H m' H') : ∀ {d : D} {v : V}, Rr S m H d v → Rr S m' H' d v
  | _, _, .non => .non
  | _, _, .bl b => .bl b
  | _, _, .int i => .int i
  | _, _, .str x => .str x
  | _, _, .lst h f r => .lst (q.keep _ _ h f.1) (fr_grow q f (by rw [h]; simp)) (Rl.grow ok q r)
  | _, _, .frz h r => .frz (by
      rcases h with ⟨h, f⟩ | h
      · exact .inl (rd_grow q f h)
      · exact .inr h) (Rl.grow ok q r)
  | _, _, .tup h r => .tup (q.keep _ _ h (tup_fr ok (.inl h)).1) (Rl.grow ok q r)
  | _, _, .ctup h r => .ctup (sqt_grow ok q h) (Rl.grow ok q r)
  | _, _, .dic h f d r => .dic (rdD_grow q f h).1 (rdD_grow q f h).2 d (Rl.grow ok q r)
  | _, _, .ins h f c e r => .ins (q.keep _ _ h f.1) (fr_grow q f (by rw [h]; simp)) c e (Rl.grow ok q r)
  | _, _, .loc e => .loc (mu_grow q.mu e)
  | _, _, .cls e => .cls e
theorem Rl.grow {S : Stat} {m m' : Mv} {H H' : Hp} {g : Sto} (ok : MOk S H g m) (q : GrowS m H m' H') : ∀ {ds : List D} {vs : List V}, Rl S m H ds vs → Rl S m' H' ds vs
  | _, _, .nil => .nil
  | _, _, .cons r t => .cons (Rr.grow ok q r) (Rl.grow ok q t)
end
/-- what is one's own and is not written stays -/
theorem Root.grow {S : Stat} {m m' : Mv} {H H' : Hp} {g : Sto} (ok : MOk S H g m) (q : GrowS m H m' H') {a : Addr} {d : D} (h : Root S m H a d) (k : ∀ o, H a = some o → H' a = some o) : Root S m' H' a d := by
  cases h with
  | lst e r => exact .lst (k _ e) (r.grow ok q)
  | dic e f r => exact .dic (k _ e) f (r.grow ok q)
  | ins e c n r => exact .ins (k _ e) c n (r.grow ok q)
theorem Rel.grow {S : Stat} {m m' : Mv} {H H' : Hp} {g g' : Sto} {σ : St} {env : Env} (r : Rel S H σ env g m) (q : Grow m H m' H') (ok' : MOk S H' g' m') : Rel S H' σ env g' m' := by
  have qs := q.s r.mem.muW
  refine ⟨ok', r.len, fun i s ov he hs => ?_, r.own⟩
  have h := r.slot i s ov he hs
  cases s with
  | no => trivial
  | sh d =>
    obtain ⟨v, e, h⟩ := h
    exact ⟨v, e, h.grow r.mem qs⟩
  | ow d =>
    obtain ⟨a, e, hw, hm, h⟩ := h
    refine ⟨a, e, q.wk a hw, fun z => ?_, h.grow r.mem qs fun o e => q.keep a o e hm⟩
    rcases q.mun a z with z | z
    · exact hm z
    · have := r.mem.trk a (.inl hw); rw [z] at this; exact this
theorem GrowS.trans {m m1 m2 : Mv} {H H1 H2 : Hp} (a : GrowS m H m1 H1) (b : GrowS m1 H1 m2 H2) : GrowS m H m2 H2 := by
  have back := a.liv
  refine ⟨fun x o h n => ?_, fun x h => back x (b.liv x h), ?_, fun x hx => ?_, fun x hx => ?_, b.b.trans a.b⟩
  · refine b.keep x o (a.keep x o h n) fun z => ?_
    rcases a.wn x z with z | z
    · exact n z
    · rw [h] at z; cases z
  · obtain ⟨t, e⟩ := a.mu
    obtain ⟨t', e'⟩ := b.mu
    exact ⟨t ++ t', by rw [e', e, List.append_assoc]⟩
  · rcases b.mun x hx with z | z
    · exact a.mun x z
    · exact .inr (back x z)
  · rcases b.wn x hx with z | z
    · exact a.wn x z
    · exact .inr (back x z)
end Ev
namespace Ev
open PySem PySem.Spec PyProof.Rows L2
/-! ### weaker claims -/
mutual
theorem Rr.weak {S : Stat} {m m' : Mv} {H : Hp} (f : ∀ a, m.fr a → m'.fr a) (e : ∀ (n : Nat) (a : Addr), m.mu[n]? = some a → m'.mu[n]? = some a) : ∀ {d : D} {v : V}, Rr S m H d v → Rr S m' H d v
  | _, _, .non => .non
  | _, _, .bl b => .bl b
  | _, _, .int i => .int i
  | _, _, .str x => .str x
  | _, _, .lst h z r => .lst h (f _ z) (Rl.weak f e r)
  | _, _, .frz h r => .frz (by
      rcases h with ⟨h, z⟩ | h
      · exact .inl ⟨h, f _ z⟩
      · exact .inr h) (Rl.weak f e r)
  | _, _, .tup h r => .tup h (Rl.weak f e r)
  | _, _, .ctup h r => .ctup h (Rl.weak f e r)
  | _, _, .dic h z d r => .dic h (f _ z) d (Rl.weak f e r)
  | _, _, .ins h z c n r => .ins h (f _ z) c n (Rl.weak f e r)
  | _, _, .loc h => .loc (e _ _ h)
  | _, _, .cls h => .cls h
theorem Rl.weak {S : Stat} {m m' : Mv} {H : Hp} (f : ∀ a, m.fr a → m'.fr a) (e : ∀ (n : Nat) (a : Addr), m.mu[n]? = some a → m'.mu[n]? = some a) : ∀ {ds : List D} {vs : List V}, Rl S m H ds vs → Rl S m' H ds vs
  | _, _, .nil => .nil
  | _, _, .cons r t => .cons (Rr.weak f e r) (Rl.weak f e t)
end
theorem Root.weak {S : Stat} {m m' : Mv} {H : Hp} {a : Addr} {d : D} (h : Root S m H a d) (f : ∀ a, m.fr a → m'.fr a) (e : ∀ (n : Nat) (a : Addr), m.mu[n]? = some a → m'.mu[n]? = some a) : Root S m' H a d := by
  cases h with
  | lst h r => exact .lst h (r.weak f e)
  | dic h d r => exact .dic h d (r.weak f e)
  | ins h c n r => exact .ins h c n (r.weak f e)
theorem Rl.length {S : Stat} {m : Mv} {H : Hp} : ∀ {ds : List D} {vs : List V}, Rl S m H ds vs → ds.length = vs.length
  | _, _, .nil => rfl
  | _, _, .cons _ t => by simp [Rl.length t]
theorem Rl.append {S : Stat} {m : Mv} {H : Hp} : ∀ {ds ds' : List D} {vs vs' : List V}, Rl S m H ds vs → Rl S m H ds' vs' → Rl S m H (ds ++ ds') (vs ++ vs')
  | _, _, _, _, .nil, h => h
  | _, _, _, _, .cons r t, h => .cons r (Rl.append t h)
theorem Rl.get {S : Stat} {m : Mv} {H : Hp} : ∀ {ds : List D} {vs : List V} {i : Nat} {d : D}, Rl S m H ds vs → ds[i]? = some d → ∃ v, vs[i]? = some v ∧ Rr S m H d v
  | _, _, _, _, .nil, h => by simp at h
  | _, _, 0, _, .cons r t, h => by simp at h; subst h; exact ⟨_, rfl, r⟩
  | _, _, i + 1, _, .cons r t, h => by
    obtain ⟨v, e, q⟩ := Rl.get (i := i) t (by simpa using h)
    exact ⟨v, by simpa using e, q⟩
theorem Rl.getV {S : Stat} {m : Mv} {H : Hp} : ∀ {ds : List D} {vs : List V} {i : Nat} {v : V}, Rl S m H ds vs → vs[i]? = some v → ∃ d, ds[i]? = some d ∧ Rr S m H d v
  | _, _, _, _, .nil, h => by simp at h
  | _, _, 0, _, .cons r t, h => by simp at h; subst h; exact ⟨_, rfl, r⟩
  | _, _, i + 1, _, .cons r t, h => by
    obtain ⟨v, e, q⟩ := Rl.getV (i := i) t (by simpa using h)
    exact ⟨v, by simpa using e, q⟩
theorem Rl.take {S : Stat} {m : Mv} {H : Hp} : ∀ {ds : List D} {vs : List V} (n : Nat), Rl S m H ds vs → Rl S m H (ds.take n) (vs.take n)
  | _, _, 0, _ => .nil
  | _, _, _ + 1, .nil => .nil
  | _, _, n + 1, .cons r t => .cons r (Rl.take n t)
theorem Rl.drop {S : Stat} {m : Mv} {H : Hp} : ∀ {ds : List D} {vs : List V} (n : Nat), Rl S m H ds vs → Rl S m H (ds.drop n) (vs.drop n)
  | _, _, 0, r => r
  | _, _, _ + 1, .nil => .nil
  | _, _, n + 1, .cons _ t => Rl.drop n t
theorem Rl.set {S : Stat} {m : Mv} {H : Hp} {d : D} {v : V} (r : Rr S m H d v) : ∀ {ds : List D} {vs : List V} (i : Nat), Rl S m H ds vs → Rl S m H (ds.set i d) (vs.set i v)
  | _, _, _, .nil => .nil
  | _, _, 0, .cons _ t => .cons r t
  | _, _, i + 1, .cons q t => .cons q (Rl.set r i t)

/-! ### what an expression's reading wants -/
abbrev WX := Value → Option Addr → St → Hp → Prop
def XRd (S : Stat) (m : Mv) (H : Hp) (x : Xc) (cl : Value) (dx : Option Addr) : Prop :=
  ∃ C, S.kc[x.c]? = some C ∧ cl = .ref C ∧ ((dx = none ∧ x.ns = [] ∧ x.vs = []) ∨ ∃ a fs, dx = some a ∧ H a = some (.xd fs) ∧ x.ns = fs.map (·.1) ∧ Rl S m H x.vs (fs.map (·.2)))
section
variable {α β γ δ : Type}
/-- H0: the heap at the start; R tells how the value lies -/
def Post (S : Stat) (R : Hp → Mv → Hp → α → β → Prop) (W : WX) (σ : St) (H0 : Hp) (r : Res α) (m : Mv) (H : Hp) (Q : β → Hp → Prop) : Prop := match r with
  | .ok a g' => ∀ b H' m', Grow m H m' H' → MOk S H' g' m' → R H0 m' H' a b → Q b H'
  | .exc x g' => ∀ cl dx H' m', Grow m H m' H' → MOk S H' g' m' → XRd S m' H' x cl dx → W cl dx σ H'
  | .stuck => False
def Tv (S : Stat) (R : Hp → Mv → Hp → α → β → Prop) (W : WX) (f : En α) : St → Hp → (β → Hp → Prop) → Prop := fun σ H Q => ∃ env g m, Rel S H σ env g m ∧ Post S R W σ H (f env g) m H Q
/-- as a tree; .. as a tree, or one's own that is only looked at; .. new and one's own -/
def RT (S : Stat) : Hp → Mv → Hp → D → V → Prop := fun _ m H d v => Rr S m H d v
def RL (S : Stat) : Hp → Mv → Hp → List D → List V → Prop := fun _ m H d v => Rl S m H d v
def Rb (S : Stat) (m : Mv) (H : Hp) (d : D) (v : V) : Prop := Rr S m H d v ∨ ∃ a, v = .ref a ∧ a ∈ m.W ∧ a ∉ m.mu ∧ Root S m H a d
def RB (S : Stat) : Hp → Mv → Hp → D → V → Prop := fun _ m H d v => Rb S m H d v
def RF (S : Stat) : Hp → Mv → Hp → D → V → Prop := fun H0 m H d v => ∃ a, v = .ref a ∧ a ∈ m.W ∧ a ∉ m.mu ∧ H0 a = none ∧ Root S m H a d
def RQ : Hp → Mv → Hp → Bool → Bool → Prop := fun _ _ _ a b => a = b
theorem Rb.grow {S : Stat} {m m' : Mv} {H H' : Hp} {g g' : Sto} (ok : MOk S H g m) (q : Grow m H m' H') (ok' : MOk S H' g' m') {d : D} {v : V} (h : Rb S m H d v) : Rb S m' H' d v := by
  rcases h with h | ⟨a, e, hw, hm, h⟩
  · exact .inl (h.grow ok (q.s ok.muW))
  · refine .inr ⟨a, e, q.wk a hw, fun z => ?_, h.grow ok (q.s ok.muW) fun o e => q.keep a o e hm⟩
    rcases q.mun a z with z | z
    · exact hm z
    · have := ok.trk a (.inl hw); rw [z] at this; exact this
theorem Post.mono {S : Stat} {R : Hp → Mv → Hp → α → β → Prop} {W : WX} {σ : St} {H0 : Hp} {r : Res α} {m m1 : Mv} {H H1 : Hp} {Q : β → Hp → Prop} (q : Grow m H m1 H1) (h : Post S R W σ H0 r m H Q) : Post S R W σ H0 r m1 H1 Q := by
  cases r with
  | ok a g => exact fun b H' m' q' ok r => h b H' m' (q.trans q') ok r
  | exc x g => exact fun cl dx H' m' q' ok r => h cl dx H' m' (q.trans q') ok r
  | stuck => exact h
theorem Post.bind {S : Stat} {R : Hp → Mv → Hp → α → β → Prop} {R' : Hp → Mv → Hp → γ → δ → Prop} {W : WX} {σ : St} {H0 H0' : Hp} {r : Res α} {k : α → Sto → Res γ} {m : Mv} {H : Hp} {Q : δ → Hp → Prop} (h : Post S R' W σ H0' (r.bind k) m H Q) :
    Post S R W σ H0 r m H (fun b H1 => ∃ a g1 m1, Grow m H m1 H1 ∧ MOk S H1 g1 m1 ∧ R H0 m1 H1 a b ∧ Post S R' W σ H0' (k a g1) m1 H1 Q) := by
  cases r with
  | ok a g => exact fun b H' m' q ok r => ⟨a, g, m', q, ok, r, Post.mono q h⟩
  | exc x g => exact h
  | stuck => exact h
theorem Post.imp {S : Stat} {R R' : Hp → Mv → Hp → α → β → Prop} {W : WX} {σ : St} {H0 : Hp} {r : Res α} {m : Mv} {H : Hp} {Q : β → Hp → Prop} (h : Post S R W σ H0 r m H Q) (hR : ∀ m' H' a b, R' H0 m' H' a b → R H0 m' H' a b) : Post S R' W σ H0 r m H Q := by
  cases r with
  | ok a g => exact fun b H' m' q ok r => h b H' m' q ok (hR _ _ _ _ r)
  | exc x g => exact h
  | stuck => exact h
/-- the value at once -/
theorem Post.now {S : Stat} {R : Hp → Mv → Hp → α → β → Prop} {W : WX} {σ : St} {H0 : Hp} {a : α} {g : Sto} {m : Mv} {H : Hp} {Q : β → Hp → Prop} (h : Post S R W σ H0 (.ok a g) m H Q) (ok : MOk S H g m) {b : β} (r : R H0 m H a b) : Q b H := h b H m (.refl m H) ok r
end
section
variable {X : Cx} {S : Stat} {W : WX}
theorem PE.to {e : Expr} {t t' : TE} (h : PE X e t) (i : ∀ σ H Q, t' σ H Q → t σ H Q) : PE X e t' := ⟨fun pins s σ H Q I q => h.run pins s σ H Q I (i σ H Q q)⟩
theorem PT.to {e : Expr} {t t' : TT} (h : PT X e t) (i : ∀ σ H Q, t' σ H Q → t σ H Q) : PT X e t' := ⟨fun pins s σ H Q I q => h.run pins s σ H Q I (i σ H Q q)⟩
theorem PW.to {e : Expr} {t t' : TT} (h : PW X e t) (i : ∀ σ H Q, t' σ H Q → t σ H Q) : PW X e t' := ⟨fun wh pins s σ H Q I q => h.run wh pins s σ H Q I (i σ H Q q)⟩
theorem PA.to {e : List Expr} {t t' : TA} (h : PA X e t) (i : ∀ σ H Q, t' σ H Q → t σ H Q) : PA X e t' := ⟨fun p pins s σ H Q I q => h.run p pins s σ H Q I (i σ H Q q)⟩
theorem PS.to {e : Stmt} {t t' : TS} (h : PS X e t) (i : ∀ D σ H, t' D σ H → t D σ H) : PS X e t' := ⟨fun pins s σ H D I q => h.run pins s σ H D I (i D σ H q)⟩
theorem PSs.to {e : List Stmt} {t t' : TS} (h : PSs X e t) (i : ∀ D σ H, t' D σ H → t D σ H) : PSs X e t' := ⟨fun pins s σ H D I q => h.run pins s σ H D I (i D σ H q)⟩
/-- an expression's judgement: a tree; looked at; new -/
abbrev Pe (X : Cx) (S : Stat) (W : WX) (e : Expr) (f : E1) : Prop := PE X e (Tv S (RT S) W f)
abbrev Pb (X : Cx) (S : Stat) (W : WX) (e : Expr) (f : E1) : Prop := PE X e (Tv S (RB S) W f)
abbrev Pf (X : Cx) (S : Stat) (W : WX) (e : Expr) (f : E1) : Prop := PE X e (Tv S (RF S) W f)
abbrev Pt (X : Cx) (S : Stat) (W : WX) (e : Expr) (f : En Bool) : Prop := PT X e (Tv S RQ W f)
abbrev Pas (X : Cx) (S : Stat) (W : WX) (es : List Expr) (f : En (List D)) : Prop := PA X es (Tv S (RL S) W f)

theorem Tv.imp {α β : Type} {R R' : Hp → Mv → Hp → α → β → Prop} {f : En α} {σ : St} {H : Hp} {Q : β → Hp → Prop} (hR : ∀ H0 m' H' a b, R' H0 m' H' a b → R H0 m' H' a b) (h : Tv S R W f σ H Q) : Tv S R' W f σ H Q := by
  obtain ⟨env, g, m, r, p⟩ := h
  exact ⟨env, g, m, r, p.imp (hR H)⟩
theorem b_of {e : Expr} {f : E1} (h : Pe X S W e f) : Pb X S W e f := PE.to h fun _ _ _ q => Tv.imp (fun _ _ _ _ _ r => .inl r) q
/-! ### ownership is given up -/
def Mv.drop (m : Mv) (a : Addr) : Mv := { m with W := m.W.filter fun b => decide (b ≠ a) }
theorem mem_drop {m : Mv} {a b : Addr} : b ∈ (m.drop a).W ↔ b ∈ m.W ∧ b ≠ a := by simp [Mv.drop]
theorem fr_drop {m : Mv} {a b : Addr} (h : m.fr b) : (m.drop a).fr b := ⟨fun z => h.1 (mem_drop.mp z).1, h.2⟩
theorem MOk.drop {H : Hp} {g : Sto} {m : Mv} (ok : MOk S H g m) {a : Addr} (hm : a ∉ m.mu) : MOk S H g (m.drop a) :=
  ⟨ok.len, fun n d b e e' => (ok.sto n d b e e').weak (fun _ => fr_drop) fun _ _ h => h, ok.nd, fun b hb => mem_drop.mpr ⟨ok.muW b hb, fun e => hm (e ▸ hb)⟩,
   fun b hb => ok.trk b (hb.imp (fun z => (mem_drop.mp z).1) id), fun b hb z => ok.dis b hb (mem_drop.mp z).1⟩
theorem Root.rr {H : Hp} {m : Mv} {a : Addr} {d : D} (h : Root S m H a d) (f : m.fr a) : Rr S m H d (.ref a) := by
  cases h with
  | lst e r => exact .lst e f r
  | dic e d r => exact .dic (.inl e) f d r
  | ins e c n r => exact .ins e f c n r
theorem drop_rr {H : Hp} {g : Sto} {m : Mv} (ok : MOk S H g m) {a : Addr} {d : D} (hw : a ∈ m.W) (h : Root S m H a d) : Rr S (m.drop a) H d (.ref a) :=
  (h.weak (m' := m.drop a) (fun _ => fr_drop) fun _ _ h => h).rr ⟨fun z => (mem_drop.mp z).2 rfl, fun z => ok.dis a z hw⟩
/-- a new thing as a tree -/
theorem e_of {e : Expr} {f : E1} (h : Pf X S W e f) : Pe X S W e f := PE.to h fun σ H Q ⟨env, g, m, r, p⟩ => by
  refine ⟨env, g, m, r, ?_⟩
  cases q : f env g with
  | stuck => rw [q] at p; exact p
  | exc x g' => rw [q] at p; exact p
  | ok d g' =>
    rw [q] at p
    intro v H' m' gr ok ⟨a, e, hw, hm, hn, ro⟩
    subst e
    refine p _ H' (m'.drop a) ⟨gr.keep, gr.liv, gr.mu, gr.mun, fun b hb => mem_drop.mpr ⟨gr.wk b hb, fun z => ?_⟩, fun b hb => gr.wn b (mem_drop.mp hb).1, gr.b⟩ (ok.drop hm) (drop_rr ok hw ro)
    subst z
    have := r.mem.trk b (.inl hb); rw [hn] at this; exact this
/-! ### names and constants -/
def eVar (i : Nat) : E1 := fun env g => match env[i]? with
  | some (.sh d) => .ok d g
  | _ => .stuck
/-- .. looked at -/
def eVarB (i : Nat) : E1 := fun env g => match env[i]? with
  | some (.sh d) => .ok d g
  | some (.ow d) => .ok d g
  | _ => .stuck
def eC (d : D) : E1 := fun _ g => .ok d g
theorem Rel.at {H : Hp} {σ : St} {env : Env} {g : Sto} {m : Mv} (r : Rel S H σ env g m) {i : Nat} {s : Slot} (e : env[i]? = some s) : ∃ ov, σ[i]? = some ov ∧ SlotOk S m H s ov := by
  have hi : i < σ.length := by rw [r.len]; exact (List.getElem?_eq_some_iff.mp e).1
  exact ⟨σ[i], by simp [hi], r.slot i s _ e (by simp [hi])⟩
theorem e_var {i : Nat} {e : Expr} (h : PE X e (tVar i)) : Pe X S W e (eVar i) := PE.to h fun σ H Q ⟨env, g, m, r, p⟩ => by
  unfold eVar at p
  cases q : env[i]? with
  | none => rw [q] at p; exact p.elim
  | some s =>
    rw [q] at p
    obtain ⟨ov, e1, e2⟩ := r.at q
    cases s with
    | no => exact p.elim
    | ow d => exact p.elim
    | sh d =>
      obtain ⟨v, rfl, e2⟩ := e2
      exact ⟨v, e1, p.now r.mem e2⟩
theorem b_var {i : Nat} {e : Expr} (h : PE X e (tVar i)) : Pb X S W e (eVarB i) := PE.to h fun σ H Q ⟨env, g, m, r, p⟩ => by
  unfold eVarB at p
  cases q : env[i]? with
  | none => rw [q] at p; exact p.elim
  | some s =>
    rw [q] at p
    obtain ⟨ov, e1, e2⟩ := r.at q
    cases s with
    | no => exact p.elim
    | ow d =>
      obtain ⟨a, rfl, hw, hm, e2⟩ := e2
      exact ⟨.ref a, e1, p.now r.mem (.inr ⟨a, rfl, hw, hm, e2⟩)⟩
    | sh d =>
      obtain ⟨v, rfl, e2⟩ := e2
      exact ⟨v, e1, p.now r.mem (.inl e2)⟩
theorem e_c {e : Expr} {v : V} {d : D} (h : PE X e (tC v)) (hd : ∀ m H, Rr S m H d v) : Pe X S W e (eC d) := PE.to h fun σ H Q ⟨env, g, m, r, p⟩ => p.now r.mem (hd m H)
theorem e_int {i j pos} : Pe X S W (.Constant (.int i) j pos) (eC (.int i)) := e_c pe_int fun _ _ => .int i
theorem e_bl {b j pos} : Pe X S W (.Constant (.bool b) j pos) (eC (.bl b)) := e_c pe_bl fun _ _ => .bl b
theorem e_non {j pos} : Pe X S W (.Constant .none j pos) (eC .non) := e_c pe_non fun _ _ => .non
theorem e_str {x j pos} : Pe X S W (.Constant (.str x) j pos) (eC (.str x)) := e_c pe_str fun _ _ => .str x
/-! ### two parts, one after another -/
def eB {α β γ : Type} (sem : α → β → Sto → Res γ) (fa : En α) (fb : En β) : En γ := fun env g => (fa env g).bind fun a g1 => (fb env g1).bind fun b g2 => sem a b g2
def eU {α γ : Type} (sem : α → Sto → Res γ) (fa : En α) : En γ := fun env g => (fa env g).bind fun a g1 => sem a g1
/-- relations that stay -/
def Stays {α β : Type} (S : Stat) (R : Hp → Mv → Hp → α → β → Prop) : Prop := ∀ H0 m H g m' H' g' a b, MOk S H g m → Grow m H m' H' → MOk S H' g' m' → R H0 m H a b → R H0 m' H' a b
theorem rt_stays : Stays S (RT S) := fun _ _ _ _ _ _ _ _ _ ok q _ h => Rr.grow ok (q.s ok.muW) h
theorem rl_stays : Stays S (RL S) := fun _ _ _ _ _ _ _ _ _ ok q _ h => Rl.grow ok (q.s ok.muW) h
theorem rb_stays : Stays S (RB S) := fun _ _ _ _ _ _ _ _ _ ok q ok' h => Rb.grow ok q ok' h
/-- both parts are read: what is left is asked of the values -/
theorem Tv.two {α β γ α' β' γ' : Type} {Ra : Hp → Mv → Hp → α → α' → Prop} {Rb : Hp → Mv → Hp → β → β' → Prop} {Rc : Hp → Mv → Hp → γ → γ' → Prop} {sem : α → β → Sto → Res γ} {fa : En α} {fb : En β} {σ : St} {H : Hp} {Q : γ' → Hp → Prop}
    (sa : Stays S Ra) (h : Tv S Rc W (eB sem fa fb) σ H Q) {R : α' → β' → Hp → Prop}
    (k : ∀ env m g H1 a b x y, Rel S H1 σ env g m → (∀ z, H1 z = none → H z = none) → (∃ H0, Ra H0 m H1 a x) → (∃ H0, Rb H0 m H1 b y) → Post S Rc W σ H (sem a b g) m H1 Q → R x y H1) :
    Tv S Ra W fa σ H fun x H1 => Tv S Rb W fb σ H1 fun y H2 => R x y H2 := by
  obtain ⟨env, g, m, r, p⟩ := h
  refine ⟨env, g, m, r, ?_⟩
  have p1 := Post.bind (R := Ra) (H0 := H) p
  cases q : fa env g with
  | stuck => rw [q] at p1; exact p1
  | exc x g' => rw [q] at p1; exact p1
  | ok a g1 =>
    rw [q] at p1
    intro x H1 m1 gr ok ra
    obtain ⟨a', g1', m1', gr', ok', ra', p2⟩ := p1 x H1 m1 gr ok ra
    have r1 := r.grow gr' ok'
    refine ⟨env, g1', m1', r1, ?_⟩
    have p3 := Post.bind (R := Rb) (H0 := H1) p2
    cases q2 : fb env g1' with
    | stuck => rw [q2] at p3; exact p3
    | exc x g' => rw [q2] at p3; exact p3
    | ok b g2 =>
      rw [q2] at p3
      intro y H2 m2 gr2 ok2 rb
      obtain ⟨b', g2', m2', gr2', ok2', rb', p4⟩ := p3 y H2 m2 gr2 ok2 rb
      exact k env m2' g2' H2 a' b' x y (r1.grow gr2' ok2') (fun z hz => gr'.liv z (gr2'.liv z hz)) ⟨_, sa _ _ _ _ _ _ _ _ _ ok' gr2' ok2' ra'⟩ ⟨_, rb'⟩ p4
theorem Tv.one {α γ α' γ' : Type} {Ra : Hp → Mv → Hp → α → α' → Prop} {Rc : Hp → Mv → Hp → γ → γ' → Prop} {sem : α → Sto → Res γ} {fa : En α} {σ : St} {H : Hp} {Q : γ' → Hp → Prop}
    (h : Tv S Rc W (eU sem fa) σ H Q) {R : α' → Hp → Prop}
    (k : ∀ env m g H1 a x, Rel S H1 σ env g m → (∀ z, H1 z = none → H z = none) → (∃ H0, Ra H0 m H1 a x) → Post S Rc W σ H (sem a g) m H1 Q → R x H1) :
    Tv S Ra W fa σ H fun x H1 => R x H1 := by
  obtain ⟨env, g, m, r, p⟩ := h
  refine ⟨env, g, m, r, ?_⟩
  have p1 := Post.bind (R := Ra) (H0 := H) p
  cases q : fa env g with
  | stuck => rw [q] at p1; exact p1
  | exc x g' => rw [q] at p1; exact p1
  | ok a g1 =>
    rw [q] at p1
    intro x H1 m1 gr ok ra
    obtain ⟨a', g1', m1', gr', ok', ra', p2⟩ := p1 x H1 m1 gr ok ra
    exact k env m1' g1' H1 a' x (r.grow gr' ok') gr'.liv ⟨_, ra'⟩ p2
end
end Ev
namespace Ev
open PySem PySem.Spec PyProof.Rows L2
/-! ### == of trees -/
mutual
/-- a == b; none: not told. n: how deep -/
def deq : Nat → D → D → Option Bool
  | _, .non, .non => some true
  | _, .non, .bl _ => some false
  | _, .non, .int _ => some false
  | _, .non, .str _ => some false
  | _, .bl _, .non => some false
  | _, .bl a, .bl b => some (a == b)
  | _, .bl a, .int b => some ((if a then 1 else 0) == b)
  | _, .bl _, .str _ => some false
  | _, .int _, .non => some false
  | _, .int a, .bl b => some (a == (if b then 1 else 0))
  | _, .int a, .int b => some (a == b)
  | _, .int _, .str _ => some false
  | _, .str _, .non => some false
  | _, .str _, .bl _ => some false
  | _, .str _, .int _ => some false
  | _, .str a, .str b => some (a == b)
  | _, .lst _, .non => some false
  | _, .lst _, .bl _ => some false
  | _, .lst _, .int _ => some false
  | _, .lst _, .str _ => some false
  | _, .tup _, .non => some false
  | _, .tup _, .bl _ => some false
  | _, .tup _, .int _ => some false
  | _, .tup _, .str _ => some false
  | _, .non, .lst _ => some false
  | _, .bl _, .lst _ => some false
  | _, .int _, .lst _ => some false
  | _, .str _, .lst _ => some false
  | _, .non, .tup _ => some false
  | _, .bl _, .tup _ => some false
  | _, .int _, .tup _ => some false
  | _, .str _, .tup _ => some false
  | _, .lst _, .tup _ => some false
  | _, .tup _, .lst _ => some false
  | n + 1, .lst xs, .lst ys => if xs.length = ys.length then deqL n xs ys else some false
  | n + 1, .tup xs, .tup ys => match deqL n xs ys with
    | some b => some (b && xs.length == ys.length)
    | none => none
  | _, _, _ => none
/-- of the places that both have -/
def deqL : Nat → List D → List D → Option Bool
  | n, x :: xs, y :: ys => match deq n x y, deqL n xs ys with
    | some a, some b => some (a && b)
    | _, _ => none
  | _, _, _ => some true
end
section
variable {X : Cx} {S : Stat} {pins : List (Addr × Obj)} {σ : St} {H : Hp} {s : Shared} {m : Mv}
theorem Rr.lst_inv {ds : List D} {v : V} (h : Rr S m H (.lst ds) v) : ∃ a vs, v = .ref a ∧ SqL S.K H a vs ∧ Rl S m H ds vs := by
  cases h with
  | lst h f r => exact ⟨_, _, rfl, SqL.of h, r⟩
theorem Rr.tup_inv {ds : List D} {v : V} (h : Rr S m H (.tup ds) v) : ∃ a vs, v = .ref a ∧ SqT S.K H a vs ∧ Rl S m H ds vs := by
  cases h with
  | tup h r => exact ⟨_, _, rfl, SqT.of h, r⟩
theorem Rr.ctup_inv {ds : List D} {v : V} (h : Rr S m H (.ctup ds) v) : ∃ a vs, v = .ref a ∧ SqT S.K H a vs ∧ Rl S m H ds vs := by
  cases h with
  | ctup h r => exact ⟨_, _, rfl, h, r⟩
theorem Rr.int_inv {i : Int} {v : V} (h : Rr S m H (.int i) v) : v = .int i := by cases h; rfl
theorem Rr.bl_inv {i : Bool} {v : V} (h : Rr S m H (.bl i) v) : v = .bl i := by cases h; rfl
theorem Rr.str_inv {i : Str} {v : V} (h : Rr S m H (.str i) v) : v = .str i := by cases h; rfl
theorem Rr.non_inv {v : V} (h : Rr S m H .non v) : v = .non := by cases h; rfl
theorem lt_not_tup (I : Inv X pins σ H s) {a : Addr} {vs ws : List V} (h : SqL X.K H a vs) (h' : SqT X.K H a ws) : False := by
  obtain ⟨its, _, ⟨o, n, e, c, _, _⟩, _⟩ := I.list h
  obtain ⟨its', _, ⟨o', e', c', _⟩, _⟩ := I.tuple h'
  rw [e] at e'; cases e'
  rw [c] at c'
  exact absurd (Value.type.inj c') (by decide)
mutual
/-- one thing is equal to itself -/
theorem deq_same (I : Inv X pins σ H s) (hK : S.K = X.K) : ∀ (n : Nat) (d e : D) (b : Bool) (v : V), deq n d e = some b → Rr S m H d v → Rr S m H e v → b = true
  | n, .non, e, b, v, h, r, q => by cases r; cases q; simp [deq] at h; exact h
  | n, .bl x, e, b, v, h, r, q => by cases r; cases q; simp [deq] at h; exact h
  | n, .int x, e, b, v, h, r, q => by cases r; cases q; simp [deq] at h; exact h
  | n, .str x, e, b, v, h, r, q => by cases r; cases q; simp [deq] at h; exact h
  | 0, .lst xs, e, b, v, h, r, q => by
    obtain ⟨a, vs, rfl, hs, rl⟩ := r.lst_inv
    cases q with
    | tup hs' _ => exact (lt_not_tup I (hK ▸ hs) (SqT.of hs')).elim
    | _ => simp [deq] at h
  | n + 1, .lst xs, e, b, v, h, r, q => by
    obtain ⟨a, vs, rfl, hs, rl⟩ := r.lst_inv
    cases q with
    | tup hs' _ => exact (lt_not_tup I (hK ▸ hs) (SqT.of hs')).elim
    | lst hs' hf' rl' =>
      have e := I.list_inj (hK ▸ hs) (SqL.of hs')
      subst e
      have hl := rl.length.trans rl'.length.symm
      simp only [deq, hl, if_true] at h
      exact deqL_same I hK n _ _ b _ h rl rl'
    | _ => simp [deq] at h
  | 0, .tup xs, e, b, v, h, r, q => by
    obtain ⟨a, vs, rfl, hs, rl⟩ := r.tup_inv
    cases q with
    | lst hs' _ _ => exact (lt_not_tup I (SqL.of hs') (hK ▸ hs)).elim
    | _ => simp [deq] at h
  | n + 1, .tup xs, e, b, v, h, r, q => by
    obtain ⟨a, vs, rfl, hs, rl⟩ := r.tup_inv
    cases q with
    | lst hs' _ _ => exact (lt_not_tup I (SqL.of hs') (hK ▸ hs)).elim
    | tup hs' rl' =>
      have e := I.tuple_inj (hK ▸ hs) (SqT.of hs')
      subst e
      have hl := rl.length.trans rl'.length.symm
      simp only [deq] at h
      cases q : deqL n xs _ with
      | none => rw [q] at h; cases h
      | some c =>
        rw [q] at h
        simp only [hl, beq_self_eq_true, Bool.and_true, Option.some.injEq] at h
        subst h
        exact deqL_same I hK n _ _ c _ q rl rl'
    | _ => simp [deq] at h
  | n, .dic _ ks vs, e, b, v, h, r, q => by cases e <;> cases n <;> simp [deq] at h
  | n, .ins c ns vs, e, b, v, h, r, q => by cases e <;> cases n <;> simp [deq] at h
  | n, .cls _, e, b, v, h, r, q => by cases e <;> cases n <;> simp [deq] at h
  | n, .ctup _, e, b, v, h, r, q => by cases e <;> cases n <;> simp [deq] at h
  | n, .loc k, e, b, v, h, r, q => by cases e <;> cases n <;> simp [deq] at h
  | n, .frz k, e, b, v, h, r, q => by cases e <;> cases n <;> simp [deq] at h
theorem deqL_same (I : Inv X pins σ H s) (hK : S.K = X.K) : ∀ (n : Nat) (ds es : List D) (b : Bool) (vs : List V), deqL n ds es = some b → Rl S m H ds vs → Rl S m H es vs → b = true
  | n, [], es, b, vs, h, r, q => by cases r; cases q; simp [deqL] at h; exact h
  | n, d :: ds, es, b, vs, h, r, q => by
    cases r with
    | cons r1 r2 =>
      cases q with
      | cons q1 q2 =>
        simp only [deqL] at h
        split at h
        · rename_i x y hx hy
          have e1 := deq_same I hK n _ _ _ _ hx r1 q1
          have e2 := deqL_same I hK n _ _ _ _ hy r2 q2
          subst e1 e2
          simpa using h.symm
        · cases h
end
theorem rng_all {e : Nat → Bool} {n : Nat} {b : Bool} {c : Bool} (h : ((List.range n).all fun j => e (j + 1)) = b) (h0 : e 0 = c) : (List.range (n + 1)).all e = (c && b) := by
  rw [List.range_succ_eq_map, List.all_cons, List.all_map, h0]
  congr 1
open SeqAt in
mutual
theorem deq_ok (I : Inv X pins σ H s) (hK : S.K = X.K) : ∀ (n : Nat) (d e : D) (b : Bool) (A : Around) (v w : V) (u z : Value), A.units + n < cLine → deq n d e = some b → Rr S m H d v → Rr S m H e w → RelV v u → RelV w z →
    RcAt A s u z b ∧ EqAt A s u z b
  | n, .non, e, b, A, v, w, u, z, hu, h, r, q, ru, rz => by
    cases r; cases ru
    have hu : A.units < cLine := by omega
    cases q with
    | non => cases rz; simp [deq] at h; subst h; exact ⟨.none_none, .same _⟩
    | bl x => cases rz; simp [deq] at h; subst h; exact ⟨.none_bool _, .none_bool _⟩
    | int x => obtain ⟨t, rfl⟩ := rz; simp [deq] at h; subst h; exact ⟨.none_int _ _, .none_int _ _⟩
    | str x => obtain ⟨t, rfl⟩ := rz; simp [deq] at h; subst h; exact ⟨.none_str _ _, .none_str _ _⟩
    | lst hs hf rl =>
      cases rz; simp [deq] at h; subst h
      obtain ⟨its, _, p, _⟩ := I.list (SqL.of hs)
      exact ⟨.none_list p.isList hu, .none_list p.isList hu⟩
    | tup hs rl =>
      cases rz; simp [deq] at h; subst h
      obtain ⟨its, _, p, _⟩ := I.tuple (SqT.of hs)
      exact ⟨.none_tuple p hu, .none_tuple p hu⟩
    | _ => cases n <;> simp [deq] at h
  | n, .bl y, e, b, A, v, w, u, z, hu, h, r, q, ru, rz => by
    cases r; cases ru
    have hu : A.units < cLine := by omega
    cases q with
    | non => cases rz; simp [deq] at h; subst h; exact ⟨.bool_none _, .bool_none _⟩
    | bl x => cases rz; simp only [deq, Option.some.injEq] at h; subst h; exact ⟨.bool_bool _ _, .bool_bool _ _⟩
    | int x => obtain ⟨t, rfl⟩ := rz; simp only [deq, Option.some.injEq] at h; subst h; exact ⟨.bool_int _ _ _, .bool_int _ _ _⟩
    | str x => obtain ⟨t, rfl⟩ := rz; simp [deq] at h; subst h; exact ⟨.bool_str _ _ _, .bool_str _ _ _⟩
    | lst hs hf rl =>
      cases rz; simp [deq] at h; subst h
      obtain ⟨its, _, p, _⟩ := I.list (SqL.of hs)
      exact ⟨.bool_list _ p.isList hu, .bool_list _ p.isList hu⟩
    | tup hs rl =>
      cases rz; simp [deq] at h; subst h
      obtain ⟨its, _, p, _⟩ := I.tuple (SqT.of hs)
      exact ⟨.bool_tuple _ p hu, .bool_tuple _ p hu⟩
    | _ => cases n <;> simp [deq] at h
  | n, .int y, e, b, A, v, w, u, z, hu, h, r, q, ru, rz => by
    cases r; obtain ⟨t', rfl⟩ := ru
    have hu : A.units < cLine := by omega
    cases q with
    | non => cases rz; simp [deq] at h; subst h; exact ⟨.int_none _ _, .int_none _ _⟩
    | bl x => cases rz; simp only [deq, Option.some.injEq] at h; subst h; exact ⟨.int_bool _ _ _, .int_bool _ _ _⟩
    | int x => obtain ⟨t, rfl⟩ := rz; simp only [deq, Option.some.injEq] at h; subst h; exact ⟨.int_int _ _ _ _, .int_int _ _ _ _⟩
    | str x => obtain ⟨t, rfl⟩ := rz; simp [deq] at h; subst h; exact ⟨.int_str _ _ _ _, .int_str _ _ _ _⟩
    | lst hs hf rl =>
      cases rz; simp [deq] at h; subst h
      obtain ⟨its, _, p, _⟩ := I.list (SqL.of hs)
      exact ⟨.int_list _ _ p.isList hu, .int_list _ _ p.isList hu⟩
    | tup hs rl =>
      cases rz; simp [deq] at h; subst h
      obtain ⟨its, _, p, _⟩ := I.tuple (SqT.of hs)
      exact ⟨.int_tuple _ _ p hu, .int_tuple _ _ p hu⟩
    | _ => cases n <;> simp [deq] at h
  | n, .str y, e, b, A, v, w, u, z, hu, h, r, q, ru, rz => by
    cases r; obtain ⟨t', rfl⟩ := ru
    have hu : A.units < cLine := by omega
    cases q with
    | non => cases rz; simp [deq] at h; subst h; exact ⟨.str_none _ _, .str_none _ _⟩
    | bl x => cases rz; simp [deq] at h; subst h; exact ⟨.str_bool _ _ _, .str_bool _ _ _⟩
    | int x => obtain ⟨t, rfl⟩ := rz; simp [deq] at h; subst h; exact ⟨.str_int _ _ _ _, .str_int _ _ _ _⟩
    | str x => obtain ⟨t, rfl⟩ := rz; simp only [deq, Option.some.injEq] at h; subst h; exact ⟨.str_str _ _ _ _, .str_str _ _ _ _⟩
    | lst hs hf rl =>
      cases rz; simp [deq] at h; subst h
      obtain ⟨its, _, p, _⟩ := I.list (SqL.of hs)
      exact ⟨.str_list _ _ p.isList hu, .str_list _ _ p.isList hu⟩
    | tup hs rl =>
      cases rz; simp [deq] at h; subst h
      obtain ⟨its, _, p, _⟩ := I.tuple (SqT.of hs)
      exact ⟨.str_tuple _ _ p hu, .str_tuple _ _ p hu⟩
    | _ => cases n <;> simp [deq] at h
  | n, .lst xs, e, b, A, v, w, u, z, hu0, h, r, q, ru, rz => by
    have r0 := r
    have q0 := q
    obtain ⟨a, vs, rfl, hs, rl⟩ := r.lst_inv
    cases ru
    have hu : A.units < cLine := by omega
    obtain ⟨its, va, p, _⟩ := I.list (hK ▸ hs)
    cases q with
    | non => cases rz; simp [deq] at h; subst h; exact ⟨.list_none p.isList hu, .list_none p.isList hu⟩
    | bl x => cases rz; simp [deq] at h; subst h; exact ⟨.list_bool _ p.isList hu, .list_bool _ p.isList hu⟩
    | int x => obtain ⟨t, rfl⟩ := rz; simp [deq] at h; subst h; exact ⟨.list_int _ _ p.isList hu, .list_int _ _ p.isList hu⟩
    | str x => obtain ⟨t, rfl⟩ := rz; simp [deq] at h; subst h; exact ⟨.list_str _ _ p.isList hu, .list_str _ _ p.isList hu⟩
    | tup hs' rl' =>
      cases rz; simp [deq] at h; subst h
      obtain ⟨its', _, p', _⟩ := I.tuple (SqT.of hs')
      exact ⟨.list_tuple p.isList p' hu, .list_tuple p.isList p' hu⟩
    | @lst a' vs' ys hs' hf' rl' =>
      cases rz
      obtain ⟨its', va', p', _⟩ := I.list (SqL.of hs')
      have sz : its.toArray.size = xs.length := by rw [List.size_toArray, ← va.length, rl.length]
      have sz' : its'.toArray.size = ys.length := by rw [List.size_toArray, ← va'.length, rl'.length]
      have rc : RcAt A s (.ref a) (.ref a') b := by
        cases n with
        | zero => simp [deq] at h
        | succ n =>
          simp only [deq] at h
          by_cases hl : xs.length = ys.length
          · rw [if_pos hl] at h
            obtain ⟨ef, h1, h2⟩ := deqL_ok I hK n xs ys b A.in1 vs vs' its its' (by show A.units + 1 + n < cLine; omega) h rl rl' va va'
            have h3 : (List.range its.toArray.size).all ef = b := by rw [sz]; rw [← hl, Nat.min_self] at h1; exact h1
            rw [← h3]
            exact .lists p.isList p'.isList (by rw [sz, sz', hl]) hu fun j h1 h2' => by
              have k1 : j < its.length := by simpa using h1
              have k2 : j < its'.length := by simpa using h2'
              simpa using h2 j its[j] its'[j] (by simp [k1]) (by simp [k2])
          · rw [if_neg hl] at h
            cases h
            exact .lists_lengths p.isList p'.isList (by rw [sz, sz']; simpa using hl) hu
      refine ⟨rc, ?_⟩
      by_cases ha : a = a'
      · subst ha
        have e := deq_same I hK n _ _ _ _ h r0 q0
        subst e
        exact .same _
      · exact .of_refs ha rc
    | _ => cases n <;> simp [deq] at h
  | n, .tup xs, e, b, A, v, w, u, z, hu0, h, r, q, ru, rz => by
    have r0 := r
    have q0 := q
    obtain ⟨a, vs, rfl, hs, rl⟩ := r.tup_inv
    cases ru
    have hu : A.units < cLine := by omega
    obtain ⟨its, va, p, _⟩ := I.tuple (hK ▸ hs)
    cases q with
    | non => cases rz; simp [deq] at h; subst h; exact ⟨.tuple_none p hu, .tuple_none p hu⟩
    | bl x => cases rz; simp [deq] at h; subst h; exact ⟨.tuple_bool _ p hu, .tuple_bool _ p hu⟩
    | int x => obtain ⟨t, rfl⟩ := rz; simp [deq] at h; subst h; exact ⟨.tuple_int _ _ p hu, .tuple_int _ _ p hu⟩
    | str x => obtain ⟨t, rfl⟩ := rz; simp [deq] at h; subst h; exact ⟨.tuple_str _ _ p hu, .tuple_str _ _ p hu⟩
    | lst hs' hf' rl' =>
      cases rz; simp [deq] at h; subst h
      obtain ⟨its', _, p', _⟩ := I.list (SqL.of hs')
      exact ⟨.tuple_list p p'.isList hu, .tuple_list p p'.isList hu⟩
    | @tup a' vs' ys hs' rl' =>
      cases rz
      obtain ⟨its', va', p', _⟩ := I.tuple (SqT.of hs')
      have sz : its.toArray.size = xs.length := by rw [List.size_toArray, ← va.length, rl.length]
      have sz' : its'.toArray.size = ys.length := by rw [List.size_toArray, ← va'.length, rl'.length]
      have rc : RcAt A s (.ref a) (.ref a') b := by
        cases n with
        | zero => simp [deq] at h
        | succ n =>
          simp only [deq] at h
          cases q2 : deqL n xs ys with
          | none => rw [q2] at h; cases h
          | some c =>
            rw [q2] at h
            obtain ⟨ef, h1, h2⟩ := deqL_ok I hK n xs ys c A.in1 vs vs' its its' (by show A.units + 1 + n < cLine; omega) q2 rl rl' va va'
            have h3 : ((List.range (min its.toArray.size its'.toArray.size)).all ef && its.toArray.size == its'.toArray.size) = b := by rw [sz, sz', h1]; exact Option.some.inj h
            rw [← h3]
            exact .tuples p p' hu fun j h1 h2' => by
              have k1 : j < its.length := by simpa using h1
              have k2 : j < its'.length := by simpa using h2'
              simpa using h2 j its[j] its'[j] (by simp [k1]) (by simp [k2])
      refine ⟨rc, ?_⟩
      by_cases ha : a = a'
      · subst ha
        have e := deq_same I hK n _ _ _ _ h r0 q0
        subst e
        exact .same _
      · exact .of_refs ha rc
    | _ => cases n <;> simp [deq] at h
  | n, .dic _ ks vs, e, b, A, v, w, u, z, hu, h, r, q, ru, rz => by cases e <;> cases n <;> simp [deq] at h
  | n, .ins c ns vs, e, b, A, v, w, u, z, hu, h, r, q, ru, rz => by cases e <;> cases n <;> simp [deq] at h
  | n, .cls _, e, b, A, v, w, u, z, hu, h, r, q, ru, rz => by cases e <;> cases n <;> simp [deq] at h
  | n, .ctup _, e, b, A, v, w, u, z, hu, h, r, q, ru, rz => by cases e <;> cases n <;> simp [deq] at h
  | n, .loc k, e, b, A, v, w, u, z, hu, h, r, q, ru, rz => by cases e <;> cases n <;> simp [deq] at h
  | n, .frz k, e, b, A, v, w, u, z, hu, h, r, q, ru, rz => by cases e <;> cases n <;> simp [deq] at h
theorem deqL_ok (I : Inv X pins σ H s) (hK : S.K = X.K) : ∀ (n : Nat) (ds es : List D) (b : Bool) (A : Around) (vs ws : List V) (us zs : List Value), A.units + n < cLine → deqL n ds es = some b → Rl S m H ds vs → Rl S m H es ws → Vals vs us → Vals ws zs →
    ∃ ef : Nat → Bool, (List.range (min ds.length es.length)).all ef = b ∧ ∀ (j : Nat) (u z : Value), us[j]? = some u → zs[j]? = some z → EqAt A s u z (ef j)
  | n, [], es, b, A, vs, ws, us, zs, hu, h, r, q, ru, rz => by
    cases r; cases ru
    simp [deqL] at h
    subst h
    exact ⟨fun _ => true, by simp, fun j u z e => by simp at e⟩
  | n, d :: ds, [], b, A, vs, ws, us, zs, hu, h, r, q, ru, rz => by
    cases q; cases rz
    simp [deqL] at h
    subst h
    exact ⟨fun _ => true, by simp, fun j u z _ e => by simp at e⟩
  | n, d :: ds, e :: es, b, A, vs, ws, us, zs, hu, h, r, q, ru, rz => by
    cases r with
    | cons r1 r2 =>
      cases q with
      | cons q1 q2 =>
        cases ru with
        | cons u1 u2 =>
          cases rz with
          | cons z1 z2 =>
            simp only [deqL] at h
            split at h
            · rename_i x y hx hy
              have e1 := (deq_ok I hK n _ _ _ A _ _ _ _ hu hx r1 q1 u1 z1).2
              obtain ⟨ef, h1, h2⟩ := deqL_ok I hK n _ _ _ A _ _ _ _ hu hy r2 q2 u2 z2
              refine ⟨fun j => match j with | 0 => x | j + 1 => ef j, ?_, fun j u z hu' hz' => ?_⟩
              · have hm : min (d :: ds).length (e :: es).length = min ds.length es.length + 1 := by simp only [List.length_cons]; omega
                rw [hm]
                rw [rng_all (e := fun j => match j with | 0 => x | j + 1 => ef j) (b := y) (c := x) h1 rfl]
                exact Option.some.inj h
              · cases j with
                | zero => simp at hu' hz'; subst hu' hz'; exact e1
                | succ j => exact h2 j u z (by simpa using hu') (by simpa using hz')
            · cases h
end
open SeqAt in
theorem dne_ok (I : Inv X pins σ H s) (hK : S.K = X.K) {n : Nat} {d e : D} {b : Bool} {A : Around} {v w : V} {u z : Value} (hu0 : A.units + n < cLine) (h : deq n d e = some b) (r : Rr S m H d v) (q : Rr S m H e w) (ru : RelV v u) (rz : RelV w z) : RcNeAt A s u z (!b) := by
  have hu : A.units < cLine := by omega
  cases r with
  | non =>
    cases ru
    cases q with
    | non => cases rz; simp only [deq, Option.some.injEq] at h; subst h; exact .none_none 
    | bl x => cases rz; simp only [deq, Option.some.injEq] at h; subst h; exact .none_bool _
    | int x => obtain ⟨t, rfl⟩ := rz; simp only [deq, Option.some.injEq] at h; subst h; exact .none_int _ _
    | str x => obtain ⟨t, rfl⟩ := rz; simp only [deq, Option.some.injEq] at h; subst h; exact .none_str _ _
    | lst hs hf rl =>
      cases rz; simp only [deq, Option.some.injEq] at h; subst h
      obtain ⟨its, _, p, _⟩ := I.list (SqL.of hs)
      exact .none_list  p.isList hu
    | tup hs rl =>
      cases rz; simp only [deq, Option.some.injEq] at h; subst h
      obtain ⟨its, _, p, _⟩ := I.tuple (SqT.of hs)
      exact .none_tuple  p hu
    | _ => cases n <;> simp [deq] at h
  | bl y =>
    cases ru
    cases q with
    | non => cases rz; simp only [deq, Option.some.injEq] at h; subst h; exact .bool_none _
    | bl x => cases rz; simp only [deq, Option.some.injEq] at h; subst h; exact .bool_bool _ _
    | int x => obtain ⟨t, rfl⟩ := rz; simp only [deq, Option.some.injEq] at h; subst h; exact .bool_int _ _ _
    | str x => obtain ⟨t, rfl⟩ := rz; simp only [deq, Option.some.injEq] at h; subst h; exact .bool_str _ _ _
    | lst hs hf rl =>
      cases rz; simp only [deq, Option.some.injEq] at h; subst h
      obtain ⟨its, _, p, _⟩ := I.list (SqL.of hs)
      exact .bool_list _ p.isList hu
    | tup hs rl =>
      cases rz; simp only [deq, Option.some.injEq] at h; subst h
      obtain ⟨its, _, p, _⟩ := I.tuple (SqT.of hs)
      exact .bool_tuple _ p hu
    | _ => cases n <;> simp [deq] at h
  | int y =>
    obtain ⟨t', rfl⟩ := ru
    cases q with
    | non => cases rz; simp only [deq, Option.some.injEq] at h; subst h; exact .int_none _ _
    | bl x => cases rz; simp only [deq, Option.some.injEq] at h; subst h; exact .int_bool _ _ _
    | int x => obtain ⟨t, rfl⟩ := rz; simp only [deq, Option.some.injEq] at h; subst h; exact .int_int _ _ _ _
    | str x => obtain ⟨t, rfl⟩ := rz; simp only [deq, Option.some.injEq] at h; subst h; exact .int_str _ _ _ _
    | lst hs hf rl =>
      cases rz; simp only [deq, Option.some.injEq] at h; subst h
      obtain ⟨its, _, p, _⟩ := I.list (SqL.of hs)
      exact .int_list _ _ p.isList hu
    | tup hs rl =>
      cases rz; simp only [deq, Option.some.injEq] at h; subst h
      obtain ⟨its, _, p, _⟩ := I.tuple (SqT.of hs)
      exact .int_tuple _ _ p hu
    | _ => cases n <;> simp [deq] at h
  | str y =>
    obtain ⟨t', rfl⟩ := ru
    cases q with
    | non => cases rz; simp only [deq, Option.some.injEq] at h; subst h; exact .str_none _ _
    | bl x => cases rz; simp only [deq, Option.some.injEq] at h; subst h; exact .str_bool _ _ _
    | int x => obtain ⟨t, rfl⟩ := rz; simp only [deq, Option.some.injEq] at h; subst h; exact .str_int _ _ _ _
    | str x => obtain ⟨t, rfl⟩ := rz; simp only [deq, Option.some.injEq] at h; subst h; exact .str_str _ _ _ _
    | lst hs hf rl =>
      cases rz; simp only [deq, Option.some.injEq] at h; subst h
      obtain ⟨its, _, p, _⟩ := I.list (SqL.of hs)
      exact .str_list _ _ p.isList hu
    | tup hs rl =>
      cases rz; simp only [deq, Option.some.injEq] at h; subst h
      obtain ⟨its, _, p, _⟩ := I.tuple (SqT.of hs)
      exact .str_tuple _ _ p hu
    | _ => cases n <;> simp [deq] at h
  | @lst a vs xs hs hf rl =>
    cases ru
    obtain ⟨its, va, p, _⟩ := I.list (SqL.of hs)
    cases q with
    | non => cases rz; simp only [deq, Option.some.injEq] at h; subst h; exact .list_none  p.isList hu
    | bl x => cases rz; simp only [deq, Option.some.injEq] at h; subst h; exact .list_bool _ p.isList hu
    | int x => obtain ⟨t, rfl⟩ := rz; simp only [deq, Option.some.injEq] at h; subst h; exact .list_int _ _ p.isList hu
    | str x => obtain ⟨t, rfl⟩ := rz; simp only [deq, Option.some.injEq] at h; subst h; exact .list_str _ _ p.isList hu
    | tup hs' rl' =>
      cases rz; simp only [deq, Option.some.injEq] at h; subst h
      obtain ⟨its', _, p', _⟩ := I.tuple (SqT.of hs')
      exact .list_tuple p.isList p' hu
    | @lst a' vs' ys hs' hf' rl' =>
      cases rz
      obtain ⟨its', va', p', _⟩ := I.list (SqL.of hs')
      have sz : its.toArray.size = xs.length := by rw [List.size_toArray, ← va.length, rl.length]
      have sz' : its'.toArray.size = ys.length := by rw [List.size_toArray, ← va'.length, rl'.length]
      cases n with
      | zero => simp [deq] at h
      | succ n =>
        simp only [deq] at h
        by_cases hl : xs.length = ys.length
        · rw [if_pos hl] at h
          obtain ⟨ef, h1, h2⟩ := deqL_ok I hK n xs ys b A.in1 vs vs' its its' (by show A.units + 1 + n < cLine; omega) h rl rl' va va'
          have h3 : (List.range its.toArray.size).all ef = b := by rw [sz]; rw [← hl, Nat.min_self] at h1; exact h1
          rw [← h3]
          exact .lists p.isList p'.isList (by rw [sz, sz', hl]) hu fun j h1 h2' => by
            have k1 : j < its.length := by simpa using h1
            have k2 : j < its'.length := by simpa using h2'
            simpa using h2 j its[j] its'[j] (by simp [k1]) (by simp [k2])
        · rw [if_neg hl] at h
          cases h
          exact .lists_lengths p.isList p'.isList (by rw [sz, sz']; simpa using hl) hu
    | _ => cases n <;> simp [deq] at h
  | @tup a vs xs hs rl =>
    cases ru
    obtain ⟨its, va, p, _⟩ := I.tuple (SqT.of hs)
    cases q with
    | non => cases rz; simp only [deq, Option.some.injEq] at h; subst h; exact .tuple_none  p hu
    | bl x => cases rz; simp only [deq, Option.some.injEq] at h; subst h; exact .tuple_bool _ p hu
    | int x => obtain ⟨t, rfl⟩ := rz; simp only [deq, Option.some.injEq] at h; subst h; exact .tuple_int _ _ p hu
    | str x => obtain ⟨t, rfl⟩ := rz; simp only [deq, Option.some.injEq] at h; subst h; exact .tuple_str _ _ p hu
    | lst hs' hf' rl' =>
      cases rz; simp only [deq, Option.some.injEq] at h; subst h
      obtain ⟨its', _, p', _⟩ := I.list (SqL.of hs')
      exact .tuple_list p p'.isList hu
    | @tup a' vs' ys hs' rl' =>
      cases rz
      obtain ⟨its', va', p', _⟩ := I.tuple (SqT.of hs')
      have sz : its.toArray.size = xs.length := by rw [List.size_toArray, ← va.length, rl.length]
      have sz' : its'.toArray.size = ys.length := by rw [List.size_toArray, ← va'.length, rl'.length]
      cases n with
      | zero => simp [deq] at h
      | succ n =>
        simp only [deq] at h
        cases q2 : deqL n xs ys with
        | none => rw [q2] at h; cases h
        | some c =>
          rw [q2] at h
          obtain ⟨ef, h1, h2⟩ := deqL_ok I hK n xs ys c A.in1 vs vs' its its' (by show A.units + 1 + n < cLine; omega) q2 rl rl' va va'
          have h3 : ((List.range (min its.toArray.size its'.toArray.size)).all ef && its.toArray.size == its'.toArray.size) = b := by rw [sz, sz', h1]; exact Option.some.inj h
          rw [← h3]
          exact .tuples p p' hu fun j h1 h2' => by
            have k1 : j < its.length := by simpa using h1
            have k2 : j < its'.length := by simpa using h2'
            simpa using h2 j its[j] its'[j] (by simp [k1]) (by simp [k2])
    | _ => cases n <;> simp [deq] at h
  | _ => cases e <;> cases n <;> simp [deq] at h
end
end Ev
namespace Ev
open PySem PySem.Spec PyProof.Rows L2
section
variable {X : Cx} {S : Stat} {W : WX} {H H0 : Hp} {g : Sto} {m : Mv} {σ : St} {p : Addr} {o : HO}
/-! ### a new object -/
theorem grow_new (h : H p = none) : Grow m H m (upd H p o) :=
  ⟨fun a u e _ => by rw [upd_ne (ne_of_none e h)]; exact e, fun a e => by
    by_cases ha : a = p
    · subst ha; rw [upd_same] at e; cases e
    · rw [upd_ne ha] at e; exact e, ⟨[], by simp⟩, fun _ h => .inl h, fun _ h => h, fun _ h => .inl h, rfl⟩
theorem MOk.of_grow {m' : Mv} {H' : Hp} (ok : MOk S H g m) (q : Grow m H m' H') (hmu : m'.mu = m.mu) (keep : ∀ a ∈ m.mu, ∀ u, H a = some u → H' a = some u) (trk : ∀ a ∈ m'.W, a ∉ m.W → Mut (H' a)) (dis : ∀ a ∈ m'.W, a ∉ m.W → a ∉ m.B) : MOk S H' g m' := by
  have kp : ∀ a u, H a = some u → H' a = some u := fun a u e => by
    by_cases ha : a ∈ m.mu
    · exact keep a ha u e
    · exact q.keep a u e ha
  have mt : ∀ a, Mut (H a) → Mut (H' a) := fun a h => by
    cases e : H a with
    | none => rw [e] at h; exact h.elim
    | some u => rw [kp a u e]; rw [e] at h; exact h
  refine ⟨by rw [hmu]; exact ok.len, fun n d a e1 e2 => ?_, by rw [hmu]; exact ok.nd, fun a ha => q.wk a (ok.muW a (hmu ▸ ha)), fun a ha => ?_, fun a ha hw => ?_⟩
  · rw [hmu] at e2
    exact (ok.sto n d a e1 e2).grow ok (q.s ok.muW) fun u e => kp a u e
  · rcases ha with ha | ha
    · by_cases hw : a ∈ m.W
      · exact mt a (ok.trk a (.inl hw))
      · exact trk a ha hw
    · rw [q.b] at ha
      exact mt a (ok.trk a (.inr ha))
  · rw [q.b] at ha
    by_cases hw' : a ∈ m.W
    · exact ok.dis a ha hw'
    · exact dis a hw hw' ha
theorem MOk.new (ok : MOk S H g m) (h : H p = none) : MOk S (upd H p o) g m :=
  ok.of_grow (grow_new h) rfl (fun a ha u e => by rw [upd_ne (ne_of_none e h)]; exact e) (fun a h1 h2 => absurd h1 h2) fun a h1 h2 => absurd h1 h2
theorem MOk.fr_new (ok : MOk S H g m) (h : H p = none) : m.fr p := ok.free h
def Mv.own (m : Mv) (p : Addr) : Mv := { m with W := p :: m.W }
theorem grow_own (h : H p = none) : Grow m H (m.own p) (upd H p o) :=
  ⟨(grow_new (m := m) (o := o) h).keep, (grow_new (m := m) (o := o) h).liv, ⟨[], by simp [Mv.own]⟩, fun _ h => .inl h, fun a ha => List.mem_cons_of_mem _ ha, fun a ha => by
    rcases List.mem_cons.mp ha with rfl | ha
    · exact .inr h
    · exact .inl ha, rfl⟩
theorem MOk.own (ok : MOk S H g m) (h : H p = none) (mu : Mut (some o)) : MOk S (upd H p o) g (m.own p) :=
  ok.of_grow (grow_own h) rfl (fun a ha u e => by rw [upd_ne (ne_of_none e h)]; exact e) (fun a h1 h2 => by
    rcases List.mem_cons.mp h1 with rfl | h1
    · rw [upd_same]; exact mu
    · exact absurd h1 h2) fun a h1 h2 => by
    rcases List.mem_cons.mp h1 with rfl | h1
    · exact (ok.free h).2
    · exact absurd h1 h2
/-- a new list, a new tuple as a tree -/
theorem Post.newL {ds : List D} {vs : List V} {Q : VK} (h : Post S (RT S) W σ H0 (.ok (.lst ds) g) m H Q) (ok : MOk S H g m) (r : Rl S m H ds vs) (hp : H p = none) : Q (.ref p) (upd H p (.lst vs)) :=
  h _ _ m (grow_new hp) (ok.new hp) (.lst upd_same (ok.free hp) (r.grow ok ((grow_new hp).s ok.muW)))
theorem Post.newT {ds : List D} {vs : List V} {Q : VK} (h : Post S (RT S) W σ H0 (.ok (.tup ds) g) m H Q) (ok : MOk S H g m) (r : Rl S m H ds vs) (hp : H p = none) : Q (.ref p) (upd H p (.tup vs)) :=
  h _ _ m (grow_new hp) (ok.new hp) (.tup upd_same (r.grow ok ((grow_new hp).s ok.muW)))
/-- a new list that is one's own -/
theorem Post.ownL {ds : List D} {vs : List V} {Q : VK} (h : Post S (RF S) W σ H0 (.ok (.lst ds) g) m H Q) (ok : MOk S H g m) (r : Rl S m H ds vs) (hp : H p = none) (h0 : ∀ z, H z = none → H0 z = none) : Q (.ref p) (upd H p (.lst vs)) :=
  h _ _ (m.own p) (grow_own hp) (ok.own hp trivial) ⟨p, rfl, List.mem_cons_self, fun z => (ok.free hp).1 (ok.muW p z), h0 p hp, .lst upd_same (r.grow ok ((grow_own hp).s ok.muW))⟩
/-! ### nothing owned: for what is only read -/
def Mv.bare (m : Mv) : Mv := ⟨m.mu, [], []⟩
theorem bare_fr (a : Addr) : m.bare.fr a := ⟨fun z => absurd (show a ∈ ([] : List Addr) from z) (by simp), fun z => absurd (show a ∈ ([] : List Addr) from z) (by simp)⟩
theorem Rr.bare {d : D} {v : V} (h : Rr S m H d v) : Rr S m.bare H d v := Rr.weak (m := m) (fun a _ => bare_fr a) (fun _ _ e => e) h
theorem Rl.bare {d : List D} {v : List V} (h : Rl S m H d v) : Rl S m.bare H d v := Rl.weak (m := m) (fun a _ => bare_fr a) (fun _ _ e => e) h
/-- a value that is read at once: a tree, or the content of what someone owns -/
def Rv (S : Stat) (m : Mv) (H : Hp) (d : D) (v : V) : Prop := Rr S m H d v ∨ ∃ a, v = .ref a ∧ Root S m H a d
theorem Rb.v {d : D} {v : V} (h : Rb S m H d v) : Rv S m H d v := h.imp id fun ⟨a, e, _, _, r⟩ => ⟨a, e, r⟩
theorem Rv.bare {d : D} {v : V} (h : Rv S m H d v) : Rr S m.bare H d v := by
  rcases h with h | ⟨a, rfl, h⟩
  · exact h.bare
  · exact (h.weak (m' := m.bare) (fun a _ => bare_fr a) fun _ _ e => e).rr (bare_fr a)
/-- a list that is looked at: its items are trees -/
theorem Rv.lst {ds : List D} {v : V} (h : Rv S m H (.lst ds) v) : ∃ a vs, v = .ref a ∧ SqL S.K H a vs ∧ Rl S m H ds vs := by
  rcases h with h | ⟨a, rfl, h⟩
  · exact h.lst_inv
  · cases h with
    | lst e r => exact ⟨a, _, rfl, .inl (.inl e), r⟩
theorem Rv.frz {ds : List D} {v : V} (h : Rv S m H (.frz ds) v) : ∃ a vs, v = .ref a ∧ SqL S.K H a vs ∧ Rl S m H ds vs := by
  rcases h with h | ⟨a, rfl, h⟩
  · cases h with
    | frz h r => exact ⟨_, _, rfl, h.sq, r⟩
  · cases h
theorem Rv.tup {ds : List D} {v : V} (h : Rv S m H (.tup ds) v) : ∃ a vs, v = .ref a ∧ SqT S.K H a vs ∧ Rl S m H ds vs := by
  rcases h with h | ⟨a, rfl, h⟩
  · exact h.tup_inv
  · cases h
theorem Rv.tupH {ds : List D} {v : V} (h : Rv S m H (.tup ds) v) : ∃ a vs, v = .ref a ∧ H a = some (.tup vs) ∧ Rl S m H ds vs := by
  rcases h with h | ⟨a, rfl, h⟩
  · cases h with
    | tup h r => exact ⟨_, _, rfl, h, r⟩
  · cases h
theorem Rv.ctup {ds : List D} {v : V} (h : Rv S m H (.ctup ds) v) : ∃ a vs, v = .ref a ∧ SqT S.K H a vs ∧ Rl S m H ds vs := by
  rcases h with h | ⟨a, rfl, h⟩
  · exact h.ctup_inv
  · cases h
theorem Rv.int {i : Int} {v : V} (h : Rv S m H (.int i) v) : v = .int i := by
  rcases h with h | ⟨a, rfl, h⟩
  · exact h.int_inv
  · cases h
theorem Rv.str {i : Str} {v : V} (h : Rv S m H (.str i) v) : v = .str i := by
  rcases h with h | ⟨a, rfl, h⟩
  · exact h.str_inv
  · cases h
theorem Rv.bl {i : Bool} {v : V} (h : Rv S m H (.bl i) v) : v = .bl i := by
  rcases h with h | ⟨a, rfl, h⟩
  · exact h.bl_inv
  · cases h
theorem Rv.non {v : V} (h : Rv S m H .non v) : v = .non := by
  rcases h with h | ⟨a, rfl, h⟩
  · exact h.non_inv
  · cases h
theorem Rb.bare {d : D} {v : V} (h : Rb S m H d v) : Rr S m.bare H d v := h.v.bare
theorem Rb.lst {ds : List D} {v : V} (h : Rb S m H (.lst ds) v) : ∃ a vs, v = .ref a ∧ SqL S.K H a vs ∧ Rl S m H ds vs := h.v.lst
theorem Rb.tup {ds : List D} {v : V} (h : Rb S m H (.tup ds) v) : ∃ a vs, v = .ref a ∧ SqT S.K H a vs ∧ Rl S m H ds vs := h.v.tup
theorem Rb.int {i : Int} {v : V} (h : Rb S m H (.int i) v) : v = .int i := h.v.int
theorem Rb.str {i : Str} {v : V} (h : Rb S m H (.str i) v) : v = .str i := h.v.str
theorem Rb.bl {i : Bool} {v : V} (h : Rb S m H (.bl i) v) : v = .bl i := h.v.bl
theorem Rb.non {v : V} (h : Rb S m H .non v) : v = .non := h.v.non
/-! ### the store's things are read -/
def dr (g : Sto) (d : D) : D := match d with
  | .loc n => (g[n]?).getD d
  | d => d
theorem Rv.dr (ok : MOk S H g m) {d : D} {v : V} (h : Rv S m H d v) : Rv S m H (dr g d) v := by
  cases d with
  | loc n =>
    simp only [Ev.dr]
    cases q : g[n]? with
    | none => exact h
    | some d' =>
      rcases h with h | ⟨a, rfl, h⟩
      · cases h with
        | loc e => exact .inr ⟨_, rfl, ok.sto n d' _ q e⟩
      · cases h
  | _ => exact h
/-! ### operators by values -/
/-- the reading r serves the function sem; both operands looked at -/
def Sem2 (S : Stat) (W : WX) {γ : Type} {δ : Type} (Rc : Hp → Mv → Hp → γ → δ → Prop) (r : V → V → Hp → (δ → Hp → Prop) → Prop) (sem : D → D → Sto → Res γ) : Prop :=
  ∀ (σ : St) (H0 : Hp) (m : Mv) (g : Sto) (H : Hp) (a b : D) (x y : V) (Q : δ → Hp → Prop), MOk S H g m → (∀ z, H z = none → H0 z = none) → Rv S m H a x → Rv S m H b y → Post S Rc W σ H0 (sem a b g) m H Q → r x y H Q
theorem two {α : Type} {Rc : Hp → Mv → Hp → α → V → Prop} {a b : Expr} {fa fb : E1} {sem : D → D → Sto → Res α} {r : R2} (hs : Sem2 S W Rc r sem) {σ : St} {H : Hp} {Q : VK} (h : Tv S Rc W (eB sem fa fb) σ H Q) : tOp r (Tv S (RB S) W fa) (Tv S (RB S) W fb) σ H Q :=
  Tv.two rb_stays h fun env m g H1 a b x y rel fz ⟨_, ra⟩ ⟨_, rb⟩ p => hs σ H m g H1 a b x y Q rel.mem fz ra.v rb.v p
def dr2 {γ : Type} (sem : D → D → Sto → Res γ) : D → D → Sto → Res γ := fun a b g => sem (dr g a) (dr g b) g
def dr1 {γ : Type} (sem : D → Sto → Res γ) : D → Sto → Res γ := fun a g => sem (dr g a) g
theorem Sem2.dr {γ δ : Type} {Rc : Hp → Mv → Hp → γ → δ → Prop} {r : V → V → Hp → (δ → Hp → Prop) → Prop} {sem : D → D → Sto → Res γ} (h : Sem2 S W Rc r sem) : Sem2 S W Rc r (dr2 sem) := fun σ H0 m g H a b x y Q ok fz ra rb p => h σ H0 m g H _ _ x y Q ok fz (ra.dr ok) (rb.dr ok) p
theorem e_op {a b : Expr} {fa fb : E1} {op : Operator} {r : R2} {sem : D → D → Sto → Res D} {Rc : Hp → Mv → Hp → D → V → Prop} {pos : Pos} (ho : OpR X (binaryOp op) r) (hs : Sem2 S W Rc r sem) (ha : Pb X S W a fa) (hb : Pb X S W b fb) : PE X (.BinOp a op b pos) (Tv S Rc W (eB sem fa fb)) :=
  PE.to (pe_op ho ha hb) fun σ H Q h => two (a := a) (b := b) hs h
theorem e_cmp {a b : Expr} {fa fb : E1} {op : CmpOp} {r : R2} {sem : D → D → Sto → Res D} {pos : Pos} (ho : OpR X (compareOp op) r) (hs : Sem2 S W (RT S) r sem) (ha : Pb X S W a fa) (hb : Pb X S W b fb) (hm : behindInMarks op b = false) : Pe X S W (.Compare a [op] [b] pos) (eB sem fa fb) :=
  PE.to (pe_cmpR ho ha hb hm) fun σ H Q h => two (a := a) (b := b) hs h
/-- a value that must be a bool -/
def asB : D → Sto → Res Bool
  | .bl b, g => .ok b g
  | _, _ => .stuck
theorem t_cmp {a b : Expr} {fa fb : E1} {op : CmpOp} {r : R2} {sem : D → D → Sto → Res D} {pos : Pos} (ho : OpR X (compareOp op) r) (hs : Sem2 S W (RT S) r sem) (ha : Pb X S W a fa) (hb : Pb X S W b fb) (hm : behindInMarks op b = false) : Pt X S W (.Compare a [op] [b] pos) (eU asB (eB sem fa fb)) :=
  PT.to (pt_cmpR ho ha hb hm) fun σ H Q h => by
    have h1 : Tv S (RT S) W (eB sem fa fb) σ H fun x H' => ∃ k, x = .bl k ∧ Q k H' := Tv.one (Ra := RT S) h fun env m g H1 a x rel _ ⟨_, ra⟩ p => by
      cases a with
      | bl k => exact ⟨k, ra.bl_inv, p.now rel.mem rfl⟩
      | _ => exact p.elim
    exact two (a := a) (b := b) hs h1
theorem t_val {e : Expr} {f : E1} (h : Pe X S W e f) (he : ∀ whole, isTrue e X.env whole = (do let v ← whole; standAt e.pos; holding [v] (truthy v)) := by intro _; rfl) : Pt X S W e (eU asB f) :=
  PT.to (pt_val h he) fun σ H Q q => Tv.one (Ra := RT S) q fun env m g H1 a x rel _ ⟨_, ra⟩ p => by
    cases a with
    | bl k => exact ⟨k, ra.bl_inv, p.now rel.mem rfl⟩
    | _ => exact p.elim
/-! ### and, or, not; a if t else b -/
def tAndF (f h : En Bool) : En Bool := fun env g => (f env g).bind fun c g1 => if c = true then h env g1 else .ok false g1
def tOrF (f h : En Bool) : En Bool := fun env g => (f env g).bind fun c g1 => if c = true then .ok true g1 else h env g1
def tNotF (f : En Bool) : En Bool := eU (fun c g => .ok (!c) g) f
def eIf {α : Type} (t : En Bool) (f h : En α) : En α := fun env g => (t env g).bind fun c g1 => if c = true then f env g1 else h env g1
/-- the first part is read, the rest goes on -/
theorem Tv.go {α γ α' γ' : Type} {Ra : Hp → Mv → Hp → α → α' → Prop} {Rc : Hp → Mv → Hp → γ → γ' → Prop} {fa : En α} {k : α → En γ} {σ : St} {H : Hp} {Q : γ' → Hp → Prop}
    (h : Tv S Rc W (fun env g => (fa env g).bind fun a g1 => k a env g1) σ H Q) {R : α' → Hp → Prop}
    (hk : ∀ env m g H1 a x, Rel S H1 σ env g m → (∀ z, H1 z = none → H z = none) → Ra H m H1 a x → Post S Rc W σ H (k a env g) m H1 Q → R x H1) :
    Tv S Ra W fa σ H fun x H1 => R x H1 := by
  obtain ⟨env, g, m, r, p⟩ := h
  refine ⟨env, g, m, r, ?_⟩
  have p1 := Post.bind (R := Ra) (H0 := H) p
  cases q : fa env g with
  | stuck => rw [q] at p1; exact p1
  | exc x g' => rw [q] at p1; exact p1
  | ok a g1 =>
    rw [q] at p1
    intro x H1 m1 gr ok ra
    obtain ⟨a', g1', m1', gr', ok', ra', p2⟩ := p1 x H1 m1 gr ok ra
    exact hk env m1' g1' H1 a' x (r.grow gr' ok') gr'.liv ra' p2
theorem Post.from {α β : Type} {R : Hp → Mv → Hp → α → β → Prop} {H1 Hc : Hp} {r : Res α} {Q : β → Hp → Prop} (hR : ∀ m' H' a b, R H1 m' H' a b → R H0 m' H' a b) (h : Post S R W σ H0 r m Hc Q) : Post S R W σ H1 r m Hc Q := by
  cases r with
  | ok a g => exact fun b H' m' q ok r => h b H' m' q ok (hR _ _ _ _ r)
  | exc x g => exact h
  | stuck => exact h
theorem rq_any {H0 H0' : Hp} {m : Mv} {H : Hp} {a b : Bool} (_ : ∀ z, H0' z = none → H0 z = none) (h : RQ H0' m H a b) : RQ H0 m H a b := h
theorem rt_any {H0 H0' : Hp} {m : Mv} {H : Hp} {a : D} {b : V} (_ : ∀ z, H0' z = none → H0 z = none) (h : RT S H0' m H a b) : RT S H0 m H a b := h
theorem rf_any {H0 H0' : Hp} {m : Mv} {H : Hp} {a : D} {b : V} (f : ∀ z, H0' z = none → H0 z = none) (h : RF S H0' m H a b) : RF S H0 m H a b := by
  obtain ⟨a, e, h1, h2, h3, h4⟩ := h
  exact ⟨a, e, h1, h2, f a h3, h4⟩
abbrev Pw (X : Cx) (S : Stat) (W : WX) (e : Expr) (f : En Bool) : Prop := PW X e (Tv S RQ W f)
theorem w_and1 {a : Expr} {f : En Bool} {pos : Pos} (h : Pt X S W a f) : Pw X S W (.BoolOp .And [a] pos) f := pw_and1 h
theorem w_or1 {a : Expr} {f : En Bool} {pos : Pos} (h : Pt X S W a f) : Pw X S W (.BoolOp .Or [a] pos) f := pw_or1 h
theorem w_and {a b : Expr} {rest : List Expr} {f h : En Bool} {pos : Pos} (ha : Pt X S W a f) (hb : Pw X S W (.BoolOp .And (b :: rest) pos) h) : Pw X S W (.BoolOp .And (a :: b :: rest) pos) (tAndF f h) :=
  PW.to (pw_and ha hb) fun σ H Q q => Tv.go (Ra := RQ) (k := fun c env g1 => if c = true then h env g1 else .ok false g1) q fun env m g H1 c x rel fz ra p => by
    have e : c = x := ra
    subst e
    cases c with
    | true => exact ⟨env, g, m, rel, p⟩
    | false => exact p.now rel.mem rfl
theorem w_or {a b : Expr} {rest : List Expr} {f h : En Bool} {pos : Pos} (ha : Pt X S W a f) (hb : Pw X S W (.BoolOp .Or (b :: rest) pos) h) : Pw X S W (.BoolOp .Or (a :: b :: rest) pos) (tOrF f h) :=
  PW.to (pw_or ha hb) fun σ H Q q => Tv.go (Ra := RQ) (k := fun c env g1 => if c = true then .ok true g1 else h env g1) q fun env m g H1 c x rel fz ra p => by
    have e : c = x := ra
    subst e
    cases c with
    | true => exact p.now rel.mem rfl
    | false => exact ⟨env, g, m, rel, p⟩
theorem t_not {a : Expr} {f : En Bool} {pos : Pos} (h : Pt X S W a f) : Pt X S W (.UnaryOp .Not a pos) (tNotF f) :=
  PT.to (pt_not h) fun σ H Q q => Tv.one (Ra := RQ) q fun env m g H1 a x rel _ ⟨_, ra⟩ p => by
    have e : a = x := ra
    subst e
    exact p.now rel.mem rfl
theorem e_if {c a b : Expr} {t : En Bool} {f h : E1} {pos : Pos} (hc : Pt X S W c t) (ha : Pe X S W a f) (hb : Pe X S W b h) : Pe X S W (.IfExp c a b pos) (eIf t f h) :=
  PE.to (pe_ifExp hc ha hb) fun σ H Q q => Tv.go (Ra := RQ) (k := fun c env g1 => if c = true then f env g1 else h env g1) q fun env m g H1 c x rel fz ra p => by
    have e : c = x := ra
    subst e
    cases c with
    | true => exact ⟨env, g, m, rel, p⟩
    | false => exact ⟨env, g, m, rel, p⟩
theorem f_if {c a b : Expr} {t : En Bool} {f h : E1} {pos : Pos} (hc : Pt X S W c t) (ha : Pf X S W a f) (hb : Pf X S W b h) : Pf X S W (.IfExp c a b pos) (eIf t f h) :=
  PE.to (pe_ifExp hc ha hb) fun σ H Q q => Tv.go (Ra := RQ) (k := fun c env g1 => if c = true then f env g1 else h env g1) q fun env m g H1 c x rel fz ra p => by
    have e : c = x := ra
    subst e
    cases c with
    | true => exact ⟨env, g, m, rel, p.from fun _ _ _ _ r => rf_any fz r⟩
    | false => exact ⟨env, g, m, rel, p.from fun _ _ _ _ r => rf_any fz r⟩
/-! ### and, or, not as values: bools -/
def vAndF (f h : E1) : E1 := fun env g => (f env g).bind fun c g1 => match c with
  | .bl true => h env g1
  | .bl false => .ok (.bl false) g1
  | _ => .stuck
def vOrF (f h : E1) : E1 := fun env g => (f env g).bind fun c g1 => match c with
  | .bl true => .ok (.bl true) g1
  | .bl false => h env g1
  | _ => .stuck
def vNotF (f : E1) : E1 := eU (fun c g => match c with
  | .bl b => .ok (.bl (!b)) g
  | _ => .stuck) f
theorem v_one {a : Expr} {op} {f : E1} {pos : Pos} (h : Pe X S W a f) : Pe X S W (.BoolOp op [a] pos) f := pe_one h
theorem v_and {a b : Expr} {rest : List Expr} {f h : E1} {pos : Pos} (ha : Pe X S W a f) (hb : Pe X S W (.BoolOp .And (b :: rest) pos) h) : Pe X S W (.BoolOp .And (a :: b :: rest) pos) (vAndF f h) :=
  PE.to (pe_and ha hb) fun σ H Q q => Tv.go (Ra := RT S) (k := fun c env g1 => match c with
    | .bl true => h env g1
    | .bl false => .ok (.bl false) g1
    | _ => .stuck) q fun env m g H1 a x rel fz ra p => by
    cases a with
    | bl k =>
      refine ⟨k, ra.bl_inv, ?_⟩
      cases k with
      | true => exact ⟨env, g, m, rel, p⟩
      | false => exact p.now rel.mem (.bl false)
    | _ => exact p.elim
theorem v_or {a b : Expr} {rest : List Expr} {f h : E1} {pos : Pos} (ha : Pe X S W a f) (hb : Pe X S W (.BoolOp .Or (b :: rest) pos) h) : Pe X S W (.BoolOp .Or (a :: b :: rest) pos) (vOrF f h) :=
  PE.to (pe_or ha hb) fun σ H Q q => Tv.go (Ra := RT S) (k := fun c env g1 => match c with
    | .bl true => .ok (.bl true) g1
    | .bl false => h env g1
    | _ => .stuck) q fun env m g H1 a x rel fz ra p => by
    cases a with
    | bl k =>
      refine ⟨k, ra.bl_inv, ?_⟩
      cases k with
      | false => exact ⟨env, g, m, rel, p⟩
      | true => exact p.now rel.mem (.bl true)
    | _ => exact p.elim
theorem v_not {a : Expr} {f : E1} {pos : Pos} (h : Pe X S W a f) : Pe X S W (.UnaryOp .Not a pos) (vNotF f) :=
  PE.to (pe_not h) fun σ H Q q => Tv.one (Ra := RT S) q fun env m g H1 a x rel _ ⟨_, ra⟩ p => by
    cases a with
    | bl k => exact ⟨k, ra.bl_inv, p.now rel.mem (.bl _)⟩
    | _ => exact p.elim
end
end Ev
namespace Ev
open PySem PySem.Spec PyProof.Rows L2
section
variable {X : Cx} {S : Stat} {W : WX}
/-! ### arithmetic -/
def big : Nat := 1000000
theorem big_line {n : Nat} (h : n ≤ big) : n ≤ sizeLine := Nat.le_trans h (by unfold big; decide)
theorem big_lt {n : Nat} (h : n < big) : n < sizeLine := Nat.lt_of_lt_of_le h (by unfold big; decide)
def sSub : D → D → Sto → Res D
  | .int i, .int j, g => .ok (.int (i - j)) g
  | _, _, _ => .stuck
def sFdiv : D → D → Sto → Res D
  | .int i, .int j, g => if 0 < j ∧ j < 1073741824 then .ok (.int (i / j)) g else .stuck
  | _, _, _ => .stuck
def sMod : D → D → Sto → Res D
  | .int i, .int j, g => if 0 < j then .ok (.int (i % j)) g else .stuck
  | _, _, _ => .stuck
def sPow : D → D → Sto → Res D
  | .int i, .int j, g => if 0 ≤ j ∧ j ≤ 1000000 ∧ i.natAbs < 2 ^ 64 then .ok (.int (i ^ j.toNat)) g else .stuck
  | _, _, _ => .stuck
/-- +: ints, texts, tuples (the left one not empty), lists -/
def sAdd : D → D → Sto → Res D
  | .int i, .int j, g => .ok (.int (i + j)) g
  | .str x, .str y, g => if x.length + y.length ≤ big then .ok (.str (x ++ y)) g else .stuck
  | .lst xs, .lst ys, g => if xs.length + ys.length ≤ big then .ok (.lst (xs ++ ys)) g else .stuck
  | _, _, _ => .stuck
/-- *: ints, a list by an int -/
def sMul : D → D → Sto → Res D
  | .int i, .int j, g => if (-(2 ^ 64) < i ∧ i < 2 ^ 64) ∨ (-(2 ^ 64) < j ∧ j < 2 ^ 64) then .ok (.int (i * j)) g else .stuck
  | .lst xs, .int k, g => if -1000 ≤ k ∧ k ≤ 1000 ∧ xs.length ≤ 1000 then .ok (.lst (List.replicate k.toNat xs).flatten) g else .stuck
  | _, _, _ => .stuck
theorem sem_int {r : R2} {sem : D → D → Sto → Res D} (h : ∀ (σ : St) (H0 : Hp) (m : Mv) (g : Sto) (H : Hp) (i j : Int) (Q : VK), MOk S H g m → Post S (RT S) W σ H0 (sem (.int i) (.int j) g) m H Q → r (.int i) (.int j) H Q)
    (hs : ∀ a b g, (∀ i j, ¬ (a = .int i ∧ b = .int j)) → sem a b g = .stuck) : Sem2 S W (RT S) r sem := fun σ H0 m g H a b x y Q ok fz ra rb p => by
  by_cases e : ∃ i j, a = .int i ∧ b = .int j
  · obtain ⟨i, j, rfl, rfl⟩ := e
    rw [ra.int, rb.int]
    exact h σ H0 m g H i j Q ok p
  · rw [hs a b g fun i j z => e ⟨i, j, z⟩] at p
    exact p.elim
theorem e_sub {a b : Expr} {fa fb : E1} {pos : Pos} (ha : Pb X S W a fa) (hb : Pb X S W b fb) : Pe X S W (.BinOp a .Sub b pos) (eB sSub fa fb) :=
  e_op op_sub (sem_int (fun σ H0 m g H i j Q ok p => ⟨i, j, rfl, rfl, p.now ok (.int _)⟩) fun a b g n => by
    cases a <;> cases b <;> first | rfl | exact absurd ⟨rfl, rfl⟩ (n _ _)) ha hb
theorem e_fdiv {a b : Expr} {fa fb : E1} {pos : Pos} (ha : Pb X S W a fa) (hb : Pb X S W b fb) : Pe X S W (.BinOp a .FloorDiv b pos) (eB sFdiv fa fb) :=
  e_op op_fdiv (sem_int (fun σ H0 m g H i j Q ok p => by
    simp only [sFdiv] at p
    split at p
    · rename_i c; exact ⟨i, j, rfl, rfl, c, p.now ok (.int _)⟩
    · exact p.elim) fun a b g n => by
    cases a <;> cases b <;> first | rfl | exact absurd ⟨rfl, rfl⟩ (n _ _)) ha hb
theorem e_mod {a b : Expr} {fa fb : E1} {pos : Pos} (ha : Pb X S W a fa) (hb : Pb X S W b fb) : Pe X S W (.BinOp a .Mod b pos) (eB sMod fa fb) :=
  e_op op_mod (sem_int (fun σ H0 m g H i j Q ok p => by
    simp only [sMod] at p
    split at p
    · rename_i c; exact ⟨i, j, rfl, rfl, c, p.now ok (.int _)⟩
    · exact p.elim) fun a b g n => by
    cases a <;> cases b <;> first | rfl | exact absurd ⟨rfl, rfl⟩ (n _ _)) ha hb
theorem e_pow {a b : Expr} {fa fb : E1} {pos : Pos} (ha : Pb X S W a fa) (hb : Pb X S W b fb) : Pe X S W (.BinOp a .Pow b pos) (eB sPow fa fb) :=
  e_op op_pow (sem_int (fun σ H0 m g H i j Q ok p => by
    simp only [sPow] at p
    split at p
    · rename_i c; exact ⟨i, j, rfl, rfl, c, p.now ok (.int _)⟩
    · exact p.elim) fun a b g n => by
    cases a <;> cases b <;> first | rfl | exact absurd ⟨rfl, rfl⟩ (n _ _)) ha hb
/-- list + list of any kind -/
def rCatX (K : PySem.W.Frag) : R2 := fun x y H Q => ∃ l b xs zs, x = .ref l ∧ y = .ref b ∧ SqL K H l xs ∧ SqL K H b zs ∧ xs.length + zs.length ≤ sizeLine ∧ ∀ p, H p = none → Q (.ref p) (upd H p (.lst (xs ++ zs)))
theorem op_catX : OpR X (binaryOp .Add) (rCatX X.K) := by
  intro pins s σ H x y v u Q I rx ry h
  obtain ⟨l, b, xs, zs, rfl, rfl, hH, hB, hz, q⟩ := h
  cases rx
  cases ry
  obtain ⟨its, r, ⟨o, n, e, c, d, dt⟩, z⟩ := I.list hH
  obtain ⟨its2, r2, ⟨o2, n2, e2, c2, d2, dt2⟩, z2⟩ := I.list hB
  obtain ⟨oc, od, odt, osl⟩ := o
  obtain ⟨oc2, od2, odt2, osl2⟩ := o2
  simp only at c d dt c2 d2 dt2
  subst c d dt c2 d2 dt2
  have h1 := r.length
  have h2 := r2.length
  have ea : its.toArray ++ its2.toArray = (its ++ its2).toArray := by simp
  refine concat_meets ⟨_, e, rfl⟩ ⟨_, e2, rfl⟩ noFill_list_add seq_list_add PySem.F.slot_list_add PySem.F.entry_list_add (PySem.F.args_list_add_2 _ _) (list_addW l b its.toArray its2.toArray n n2 none none osl osl2 (by simp; omega)) ⟨e, e2, ?_⟩
  rw [ea]
  exact ⟨.ref _, _, I.lnew (t' := s.toks) (r.append r2) (by rw [List.length_append]; omega), rfl, q _ I.fresh⟩
/-- tuples: one that is empty gives the other -/
def sAddT : D → D → Sto → Res D
  | .tup xs, .tup ys, g => if xs.length + ys.length ≤ big then .ok (.tup (xs ++ ys)) g else .stuck
  | _, _, _ => .stuck
theorem Rl.nil_iff {m : Mv} {H : Hp} {ds : List D} {vs : List V} (r : Rl S m H ds vs) : ds = [] ↔ vs = [] := by
  cases r with
  | nil => simp
  | cons _ _ => simp
theorem e_add {a b : Expr} {fa fb : E1} {pos : Pos} (hK : S.K = X.K) (ha : Pb X S W a fa) (hb : Pb X S W b fb) : Pe X S W (.BinOp a .Add b pos) (eB sAdd fa fb) :=
  e_op (op_add.or (op_add_str.or op_catX)) (fun σ H0 m g H a b x y Q ok fz ra rb p => by
    cases a with
    | int i =>
      cases b with
      | int j => rw [ra.int, rb.int]; exact .inl ⟨i, j, rfl, rfl, p.now ok (.int _)⟩
      | _ => exact p.elim
    | str i =>
      cases b with
      | str j =>
        rw [ra.str, rb.str]
        simp only [sAdd] at p
        split at p
        · rename_i c; exact .inr (.inl ⟨i, j, rfl, rfl, big_line c, p.now ok (.str _)⟩)
        · exact p.elim
      | _ => exact p.elim
    | lst xs =>
      cases b with
      | lst ys =>
        obtain ⟨l, vs, rfl, h1, r1⟩ := ra.lst
        obtain ⟨l', vs', rfl, h2, r2⟩ := rb.lst
        simp only [sAdd] at p
        split at p
        · rename_i c
          exact .inr (.inr ⟨l, l', vs, vs', rfl, rfl, hK ▸ h1, hK ▸ h2, by rw [← r1.length, ← r2.length]; exact big_line c, fun q hq => p.newL ok (r1.append r2) hq⟩)
        · exact p.elim
      | _ => exact p.elim
    | _ => exact p.elim) ha hb
theorem e_addT {a b : Expr} {fa fb : E1} {pos : Pos} (hK : S.K = X.K) (ha : Pb X S W a fa) (hb : Pb X S W b fb) : Pe X S W (.BinOp a .Add b pos) (eB sAddT fa fb) :=
  e_op op_catA (fun σ H0 m g H a b x y Q ok fz ra rb p => by
    cases a with
    | tup xs =>
      cases b with
      | tup ys =>
        obtain ⟨l, vs, rfl, h1, r1⟩ := ra.tupH
        obtain ⟨l', vs', rfl, h2, r2⟩ := rb.tupH
        simp only [sAddT] at p
        split at p
        · rename_i c
          refine ⟨l, l', vs, vs', rfl, rfl, SqT.of h1, SqT.of h2, by rw [← r1.length, ← r2.length]; exact big_line c, fun e => ?_, fun e e' => ?_, fun e e' q hq => p.newT ok (r1.append r2) hq⟩
          · have e1 := r1.nil_iff.mpr e
            subst e1
            exact p.now ok (.tup h2 r2)
          · have e1 := r2.nil_iff.mpr e'
            subst e1
            rw [List.append_nil] at p
            exact p.now ok (.tup h1 r1)
        · exact p.elim
      | _ => exact p.elim
    | _ => exact p.elim) ha hb
/-- list + list, one's own -/
def sCat : D → D → Sto → Res D
  | .lst xs, .lst ys, g => if xs.length + ys.length ≤ big then .ok (.lst (xs ++ ys)) g else .stuck
  | _, _, _ => .stuck
theorem f_cat {a b : Expr} {fa fb : E1} {pos : Pos} (hK : S.K = X.K) (ha : Pb X S W a fa) (hb : Pb X S W b fb) : Pf X S W (.BinOp a .Add b pos) (eB sCat fa fb) :=
  e_op op_catX (fun σ H0 m g H a b x y Q ok fz ra rb p => by
    cases a with
    | lst xs =>
      cases b with
      | lst ys =>
        obtain ⟨l, vs, rfl, h1, r1⟩ := ra.lst
        obtain ⟨l', vs', rfl, h2, r2⟩ := rb.lst
        simp only [sCat] at p
        split at p
        · rename_i c
          exact ⟨l, l', vs, vs', rfl, rfl, hK ▸ h1, hK ▸ h2, by rw [← r1.length, ← r2.length]; exact big_line c, fun q hq => p.ownL ok (r1.append r2) hq fz⟩
        · exact p.elim
      | _ => exact p.elim
    | _ => exact p.elim) ha hb
def sMulI : D → D → Sto → Res D
  | .int i, .int j, g => if (-(2 ^ 64) < i ∧ i < 2 ^ 64) ∨ (-(2 ^ 64) < j ∧ j < 2 ^ 64) then .ok (.int (i * j)) g else .stuck
  | _, _, _ => .stuck
theorem e_mul {a b : Expr} {fa fb : E1} {pos : Pos} (ha : Pb X S W a fa) (hb : Pb X S W b fb) : Pe X S W (.BinOp a .Mult b pos) (eB sMulI fa fb) :=
  e_op op_mul (sem_int (fun σ H0 m g H i j Q ok p => by
    simp only [sMulI] at p
    split at p
    · rename_i c; exact ⟨i, j, rfl, rfl, c, p.now ok (.int _)⟩
    · exact p.elim) fun a b g n => by
    cases a <;> cases b <;> first | rfl | exact absurd ⟨rfl, rfl⟩ (n _ _)) ha hb
/-! ### comparisons -/
def sEq : D → D → Sto → Res D := fun a b g => match deq 40 a b with
  | some k => .ok (.bl k) g
  | none => .stuck
def sNe : D → D → Sto → Res D := fun a b g => match deq 40 a b with
  | some k => .ok (.bl (!k)) g
  | none => .stuck
def rEqX (S : Stat) : R2 := fun x y H Q => ∃ m d e b, Rr S m H d x ∧ Rr S m H e y ∧ deq 40 d e = some b ∧ Q (.bl b) H
def rNeX (S : Stat) : R2 := fun x y H Q => ∃ m d e b, Rr S m H d x ∧ Rr S m H e y ∧ deq 40 d e = some b ∧ Q (.bl (!b)) H
theorem op_eqX (hK : S.K = X.K) (hu : X.A.units + 64 < cLine) : OpR X (compareOp .Eq) (rEqX S) := by
  intro pins s σ H x y v u Q I rx ry h
  obtain ⟨m, d, e, b, h1, h2, h3, q⟩ := h
  exact (deq_ok I hK 40 d e b X.A x y v u (by omega) h3 h1 h2 rx ry).1 _ _ _ _ ⟨.bl b, H, I, rfl, q⟩
theorem op_neX (hK : S.K = X.K) (hu : X.A.units + 64 < cLine) : OpR X (compareOp .NotEq) (rNeX S) := by
  intro pins s σ H x y v u Q I rx ry h
  obtain ⟨m, d, e, b, h1, h2, h3, q⟩ := h
  exact dne_ok I hK (n := 40) (by omega) h3 h1 h2 rx ry _ _ _ _ ⟨.bl (!b), H, I, rfl, q⟩
theorem sem_eq : Sem2 S W (RT S) (rEqX S) sEq := fun σ H0 m g H a b x y Q ok fz ra rb p => by
  unfold sEq at p
  cases q : deq 40 a b with
  | none => rw [q] at p; exact p.elim
  | some k => rw [q] at p; exact ⟨m.bare, a, b, k, ra.bare, rb.bare, q, p.now ok (.bl k)⟩
theorem sem_ne : Sem2 S W (RT S) (rNeX S) sNe := fun σ H0 m g H a b x y Q ok fz ra rb p => by
  unfold sNe at p
  cases q : deq 40 a b with
  | none => rw [q] at p; exact p.elim
  | some k => rw [q] at p; exact ⟨m.bare, a, b, k, ra.bare, rb.bare, q, p.now ok (.bl (!k))⟩
/-- <, <=, >, >= of ints -/
def sCmp (p : Int → Int → Bool) : D → D → Sto → Res D
  | .int i, .int j, g => .ok (.bl (p i j)) g
  | _, _, _ => .stuck
theorem sem_cmp (p : Int → Int → Bool) : Sem2 S W (RT S) (rI0 fun i j => .bl (p i j)) (sCmp p) :=
  sem_int (fun σ H0 m g H i j Q ok q => ⟨i, j, rfl, rfl, q.now ok (.bl _)⟩) fun a b g n => by
    cases a <;> cases b <;> first | rfl | exact absurd ⟨rfl, rfl⟩ (n _ _)
abbrev sLt := sCmp fun i j => decide (i < j)
abbrev sLe := sCmp fun i j => decide (i ≤ j)
abbrev sGt := sCmp fun i j => decide (j < i)
abbrev sGe := sCmp fun i j => decide (j ≤ i)
/-- texts -/
def sLtS : D → D → Sto → Res D
  | .str i, .str j, g => .ok (.bl (decide (i.cps.toList < j.cps.toList))) g
  | _, _, _ => .stuck
theorem sem_ltS : Sem2 S W (RT S) (fun x y H Q => ∃ i j, x = .str i ∧ y = .str j ∧ Q (.bl (decide (i.cps.toList < j.cps.toList))) H) sLtS := fun σ H0 m g H a b x y Q ok fz ra rb p => by
  cases a with
  | str i =>
    cases b with
    | str j => exact ⟨i, j, ra.str, rb.str, p.now ok (.bl _)⟩
    | _ => exact p.elim
  | _ => exact p.elim
/-! ### is None -/
def isNon : D → Bool
  | .non => true
  | _ => false
theorem Rv.isNon {m : Mv} {H : Hp} {d : D} {v : V} (h : Rv S m H d v) : decide (v = .non) = isNon d := by
  rcases h with h | ⟨a, rfl, h⟩
  · cases h <;> rfl
  · cases h <;> rfl
def sIsN : D → D → Sto → Res D
  | a, .non, g => .ok (.bl (isNon a)) g
  | _, _, _ => .stuck
def sNotN : D → D → Sto → Res D
  | a, .non, g => .ok (.bl (!isNon a)) g
  | _, _, _ => .stuck
theorem sem_isN : Sem2 S W (RT S) (fun x y H Q => y = .non ∧ Q (.bl (decide (x = .non))) H) sIsN := fun σ H0 m g H a b x y Q ok fz ra rb p => by
  cases b with
  | non => exact ⟨rb.non, by rw [ra.isNon]; exact p.now ok (.bl _)⟩
  | _ => exact p.elim
theorem sem_notN : Sem2 S W (RT S) (fun x y H Q => y = .non ∧ Q (.bl (!decide (x = .non))) H) sNotN := fun σ H0 m g H a b x y Q ok fz ra rb p => by
  cases b with
  | non => exact ⟨rb.non, by rw [ra.isNon]; exact p.now ok (.bl _)⟩
  | _ => exact p.elim
/-! ### in, not in -/
def inL (d : D) : List D → Option Bool
  | [] => some false
  | x :: xs => match deq 38 x d, inL d xs with
    | some a, some b => some (a || b)
    | _, _ => none
/-- in a list, a tuple; a sign in a text -/
def isIn : D → D → Option Bool
  | d, .lst xs => inL d xs
  | d, .tup xs => inL d xs
  | d, .ctup xs => inL d xs
  | .str c, .str z => match c.cps.toList with
    | [n] => some (decide (n ∈ z.cps.toList))
    | _ => some (!(Builtin.Str.occurrences z c 0 z.length 1).isEmpty)
  | _, _ => none
def sIn : D → D → Sto → Res D := fun a b g => match isIn a b with
  | some k => .ok (.bl k) g
  | none => .stuck
def sNotIn : D → D → Sto → Res D := fun a b g => match isIn a b with
  | some k => .ok (.bl (!k)) g
  | none => .stuck
theorem dne_kind {n : Nat} {d : D} {b : Bool} {m : Mv} {H : Hp} {v : V} {x : D} (h : deq n x d = some b) (r : Rr S m H x v) :
    x = .non ∨ (∃ y, x = .bl y) ∨ (∃ y, x = .int y) ∨ (∃ y, x = .str y) ∨ (∃ y, x = .lst y) ∨ ∃ y, x = .tup y := by
  cases x with
  | non => exact .inl rfl
  | bl y => exact .inr (.inl ⟨y, rfl⟩)
  | int y => exact .inr (.inr (.inl ⟨y, rfl⟩))
  | str y => exact .inr (.inr (.inr (.inl ⟨y, rfl⟩)))
  | lst y => exact .inr (.inr (.inr (.inr (.inl ⟨y, rfl⟩))))
  | tup y => exact .inr (.inr (.inr (.inr (.inr ⟨y, rfl⟩))))
  | dic _ _ _ => cases d <;> cases n <;> simp [deq] at h
  | ins _ _ _ => cases d <;> cases n <;> simp [deq] at h
  | cls _ => cases d <;> cases n <;> simp [deq] at h
  | ctup _ => cases d <;> cases n <;> simp [deq] at h
  | loc _ => cases d <;> cases n <;> simp [deq] at h
  | frz _ => cases d <;> cases n <;> simp [deq] at h
mutual
/-- one thing has one answer -/
theorem deq_det {pins : List (Addr × Obj)} {σ : St} {H : Hp} {s : Shared} {m : Mv} (I : Inv X pins σ H s) (hK : S.K = X.K) : ∀ (n : Nat) (x y d : D) (a b : Bool) (v : V), deq n x d = some a → deq n y d = some b → Rr S m H x v → Rr S m H y v → a = b
  | n, .non, y, d, a, b, v, h1, h2, r1, r2 => by cases r1; cases r2; rw [h1] at h2; exact Option.some.inj h2
  | n, .bl _, y, d, a, b, v, h1, h2, r1, r2 => by cases r1; cases r2; rw [h1] at h2; exact Option.some.inj h2
  | n, .int _, y, d, a, b, v, h1, h2, r1, r2 => by cases r1; cases r2; rw [h1] at h2; exact Option.some.inj h2
  | n, .str _, y, d, a, b, v, h1, h2, r1, r2 => by cases r1; cases r2; rw [h1] at h2; exact Option.some.inj h2
  | n, .lst xs, y, d, a, b, v, h1, h2, r1, r2 => by
    obtain ⟨p, vs, rfl, hs, rl⟩ := r1.lst_inv
    rcases dne_kind h2 r2 with rfl | ⟨z, rfl⟩ | ⟨z, rfl⟩ | ⟨z, rfl⟩ | ⟨ys, rfl⟩ | ⟨z, rfl⟩
    · cases r2
    · cases r2
    · cases r2
    · cases r2
    · obtain ⟨p', vs', e, hs', rl'⟩ := r2.lst_inv
      cases e
      have e := I.list_inj (hK ▸ hs) (hK ▸ hs')
      subst e
      have hl := rl.length.trans rl'.length.symm
      cases d with
      | lst zs =>
        cases n with
        | zero => simp [deq] at h1
        | succ n =>
          simp only [deq] at h1 h2
          rw [hl] at h1
          by_cases c : ys.length = zs.length
          · rw [if_pos c] at h1 h2
            exact deqL_det I hK n _ _ _ a b _ h1 h2 rl rl'
          · rw [if_neg c] at h1 h2
            rw [h1] at h2; exact Option.some.inj h2
      | _ => cases n <;> simp [deq] at h1 h2 <;> rw [h1, h2]
    · obtain ⟨p', vs', e, hs', rl'⟩ := r2.tup_inv
      cases e
      exact (lt_not_tup I (hK ▸ hs) (hK ▸ hs')).elim
  | n, .tup xs, y, d, a, b, v, h1, h2, r1, r2 => by
    obtain ⟨p, vs, rfl, hs, rl⟩ := r1.tup_inv
    rcases dne_kind h2 r2 with rfl | ⟨z, rfl⟩ | ⟨z, rfl⟩ | ⟨z, rfl⟩ | ⟨z, rfl⟩ | ⟨ys, rfl⟩
    · cases r2
    · cases r2
    · cases r2
    · cases r2
    · obtain ⟨p', vs', e, hs', rl'⟩ := r2.lst_inv
      cases e
      exact (lt_not_tup I (hK ▸ hs') (hK ▸ hs)).elim
    · obtain ⟨p', vs', e, hs', rl'⟩ := r2.tup_inv
      cases e
      have e := I.tuple_inj (hK ▸ hs) (hK ▸ hs')
      subst e
      have hl := rl.length.trans rl'.length.symm
      cases d with
      | tup zs =>
        cases n with
        | zero => simp [deq] at h1
        | succ n =>
          simp only [deq] at h1 h2
          cases q1 : deqL n xs zs with
          | none => rw [q1] at h1; cases h1
          | some k1 =>
            cases q2 : deqL n ys zs with
            | none => rw [q2] at h2; cases h2
            | some k2 =>
              rw [q1, hl] at h1
              rw [q2] at h2
              have e := deqL_det I hK n _ _ _ k1 k2 _ q1 q2 rl rl'
              subst e
              rw [h1] at h2; exact Option.some.inj h2
      | _ => cases n <;> simp [deq] at h1 h2 <;> rw [h1, h2]
  | n, .dic _ _ _, y, d, a, b, v, h1, h2, r1, r2 => by cases d <;> cases n <;> simp [deq] at h1
  | n, .ins _ _ _, y, d, a, b, v, h1, h2, r1, r2 => by cases d <;> cases n <;> simp [deq] at h1
  | n, .cls _, y, d, a, b, v, h1, h2, r1, r2 => by cases d <;> cases n <;> simp [deq] at h1
  | n, .ctup _, y, d, a, b, v, h1, h2, r1, r2 => by cases d <;> cases n <;> simp [deq] at h1
  | n, .loc _, y, d, a, b, v, h1, h2, r1, r2 => by cases d <;> cases n <;> simp [deq] at h1
  | n, .frz _, y, d, a, b, v, h1, h2, r1, r2 => by cases d <;> cases n <;> simp [deq] at h1
theorem deqL_det {pins : List (Addr × Obj)} {σ : St} {H : Hp} {s : Shared} {m : Mv} (I : Inv X pins σ H s) (hK : S.K = X.K) : ∀ (n : Nat) (xs ys ds : List D) (a b : Bool) (vs : List V), deqL n xs ds = some a → deqL n ys ds = some b → Rl S m H xs vs → Rl S m H ys vs → a = b
  | n, [], ys, ds, a, b, vs, h1, h2, r1, r2 => by cases r1; cases r2; rw [h1] at h2; exact Option.some.inj h2
  | n, x :: xs, ys, [], a, b, vs, h1, h2, r1, r2 => by
    cases r1; cases r2
    simp [deqL] at h1 h2
    rw [h1, h2]
  | n, x :: xs, ys, d :: ds, a, b, vs, h1, h2, r1, r2 => by
    cases r1 with
    | cons p1 p2 =>
      cases r2 with
      | cons q1 q2 =>
        simp only [deqL] at h1 h2
        split at h1
        · rename_i k1 k2 e1 e2
          split at h2
          · rename_i k3 k4 e3 e4
            have z1 := deq_det I hK n _ _ _ _ _ _ e1 e3 p1 q1
            have z2 := deqL_det I hK n _ _ _ _ _ _ e2 e4 p2 q2
            subst z1 z2
            rw [h1] at h2; exact Option.some.inj h2
          · cases h2
        · cases h1
end
open Classical in
/-- what an item is worth, as a function of its value -/
noncomputable def fIn (S : Stat) (m : Mv) (H : Hp) (d : D) (u : Value) : Bool := if h : ∃ k x v, Rr S m H x v ∧ RelV v u ∧ deq 38 x d = some k then h.choose else false
theorem fIn_eq {pins : List (Addr × Obj)} {σ : St} {H : Hp} {s : Shared} {m : Mv} (I : Inv X pins σ H s) (hK : S.K = X.K) {d x : D} {u : Value} {v : V} {k : Bool} (r : Rr S m H x v) (q : RelV v u) (e : deq 38 x d = some k) : fIn S m H d u = k := by
  have h : ∃ k x v, Rr S m H x v ∧ RelV v u ∧ deq 38 x d = some k := ⟨k, x, v, r, q, e⟩
  unfold fIn
  rw [dif_pos h]
  obtain ⟨x', v', r', q', e'⟩ := h.choose_spec
  have ev := q.inj q'
  subst ev
  exact deq_det I hK 38 _ _ _ _ _ _ e' e r' r
theorem inL_any {pins : List (Addr × Obj)} {σ : St} {H : Hp} {s : Shared} {m : Mv} (I : Inv X pins σ H s) (hK : S.K = X.K) {A : Around} (hu : A.units + 38 < cLine) {d : D} {v : V} {z : Value} (r : Rr S m H d v) (rz : RelV v z) :
    ∀ (xs : List D) (b : Bool) (vs : List V) (us : List Value), inL d xs = some b → Rl S m H xs vs → Vals vs us → (∀ u, u ∈ us → SeqAt.EqAt A s u z (fIn S m H d u)) ∧ us.any (fIn S m H d) = b
  | [], b, _, _, h, .nil, .nil => by
    simp [inL] at h
    subst h
    exact ⟨fun u hu => by simp at hu, rfl⟩
  | x :: xs, b, _, _, h, .cons r1 r2, .cons (b := u1) q1 q2 => by
    simp only [inL] at h
    split at h
    · rename_i k1 k2 e1 e2
      obtain ⟨h1, h2⟩ := inL_any I hK hu r rz xs k2 _ _ e2 r2 q2
      have e0 := (deq_ok I hK 38 x d k1 A _ v u1 z hu e1 r1 r q1 rz).2
      have ef := fIn_eq I hK r1 q1 e1
      refine ⟨fun u hm => ?_, ?_⟩
      · rcases List.mem_cons.mp hm with rfl | hm
        · rw [ef]; exact e0
        · exact h1 u hm
      · rw [List.any_cons, ef, h2]
        exact Option.some.inj h
    · cases h
def rInX (S : Stat) (neg : Bool) : R2 := fun x y H Q => ∃ m d e b, Rr S m H d x ∧ Rr S m H e y ∧ isIn d e = some b ∧ Q (.bl (if neg then !b else b)) H
theorem one_sign {c : Str} {n : Nat} (h : c.cps.toList = [n]) : c = ⟨#[n]⟩ := by
  obtain ⟨a⟩ := c
  have e : a = #[n] := by
    apply Array.ext'
    exact h
  rw [e]
theorem op_inX (hK : S.K = X.K) (hu : X.A.units + 64 < cLine) : OpR X (compareOp .In) (rInX S false) := by
  intro pins s σ H x y v u Q I rx ry h
  obtain ⟨m, d, e, b, h1, h2, h3, q⟩ := h
  have hu1 : X.A.in1.units + 38 < cLine := by show X.A.units + 1 + 38 < cLine; omega
  cases e with
  | lst xs =>
    obtain ⟨a, vs, rfl, hs, rl⟩ := h2.lst_inv
    cases ry
    obtain ⟨its, va, p, _⟩ := I.list (hK ▸ hs)
    obtain ⟨g1, g2⟩ := inL_any I hK hu1 h1 rx xs b vs its h3 rl va
    refine SeqAt.in_listAt (fIn S m H d) p.isList (fun y hy => g1 y (by simpa using hy)) ?_
    have e : its.toArray.any (fIn S m H d) = b := by simpa using g2
    rw [e]
    exact ⟨.bl b, H, I, rfl, q⟩
  | tup xs =>
    obtain ⟨a, vs, rfl, hs, rl⟩ := h2.tup_inv
    cases ry
    obtain ⟨its, va, p, _⟩ := I.tuple (hK ▸ hs)
    obtain ⟨g1, g2⟩ := inL_any I hK hu1 h1 rx xs b vs its h3 rl va
    refine SeqAt.in_tupleAt (fIn S m H d) p (fun y hy => g1 y (by simpa using hy)) ?_
    have e : its.toArray.any (fIn S m H d) = b := by simpa using g2
    rw [e]
    exact ⟨.bl b, H, I, rfl, q⟩
  | ctup xs =>
    obtain ⟨a, vs, rfl, hs, rl⟩ := h2.ctup_inv
    cases ry
    obtain ⟨its, va, p, _⟩ := I.tuple (hK ▸ hs)
    obtain ⟨g1, g2⟩ := inL_any I hK hu1 h1 rx xs b vs its h3 rl va
    refine SeqAt.in_tupleAt (fIn S m H d) p (fun y hy => g1 y (by simpa using hy)) ?_
    have e : its.toArray.any (fIn S m H d) = b := by simpa using g2
    rw [e]
    exact ⟨.bl b, H, I, rfl, q⟩
  | str z =>
    cases d with
    | str c =>
      have e1 := h1.str_inv
      have e2 := h2.str_inv
      subst e1 e2
      simp only [isIn] at h3
      split at h3
      · rename_i n hn
        rw [one_sign hn] at rx
        exact op_in_sign pins s σ H _ _ v u Q I rx ry ⟨n, z, rfl, rfl, by rw [Option.some.inj h3]; exact q⟩
      · exact op_in_str pins s σ H _ _ v u Q I rx ry ⟨c, z, rfl, rfl, by rw [Option.some.inj h3]; exact q⟩
    | _ => simp [isIn] at h3
  | _ => cases d <;> simp [isIn] at h3
theorem op_notInX (hK : S.K = X.K) (hu : X.A.units + 64 < cLine) : OpR X (compareOp .NotIn) (rInX S true) := by
  intro pins s σ H x y v u Q I rx ry h
  obtain ⟨m, d, e, b, h1, h2, h3, q⟩ := h
  have hu1 : X.A.in1.units + 38 < cLine := by show X.A.units + 1 + 38 < cLine; omega
  cases e with
  | lst xs =>
    obtain ⟨a, vs, rfl, hs, rl⟩ := h2.lst_inv
    cases ry
    obtain ⟨its, va, p, _⟩ := I.list (hK ▸ hs)
    obtain ⟨g1, g2⟩ := inL_any I hK hu1 h1 rx xs b vs its h3 rl va
    refine SeqAt.notIn_listAt (fIn S m H d) p.isList (fun y hy => g1 y (by simpa using hy)) ?_
    have e : its.toArray.any (fIn S m H d) = b := by simpa using g2
    rw [e]
    exact ⟨.bl (!b), H, I, rfl, q⟩
  | tup xs =>
    obtain ⟨a, vs, rfl, hs, rl⟩ := h2.tup_inv
    cases ry
    obtain ⟨its, va, p, _⟩ := I.tuple (hK ▸ hs)
    obtain ⟨g1, g2⟩ := inL_any I hK hu1 h1 rx xs b vs its h3 rl va
    refine SeqAt.notIn_tupleAt (fIn S m H d) p (fun y hy => g1 y (by simpa using hy)) ?_
    have e : its.toArray.any (fIn S m H d) = b := by simpa using g2
    rw [e]
    exact ⟨.bl (!b), H, I, rfl, q⟩
  | ctup xs =>
    obtain ⟨a, vs, rfl, hs, rl⟩ := h2.ctup_inv
    cases ry
    obtain ⟨its, va, p, _⟩ := I.tuple (hK ▸ hs)
    obtain ⟨g1, g2⟩ := inL_any I hK hu1 h1 rx xs b vs its h3 rl va
    refine SeqAt.notIn_tupleAt (fIn S m H d) p (fun y hy => g1 y (by simpa using hy)) ?_
    have e : its.toArray.any (fIn S m H d) = b := by simpa using g2
    rw [e]
    exact ⟨.bl (!b), H, I, rfl, q⟩
  | str z =>
    cases d with
    | str c =>
      have e1 := h1.str_inv
      have e2 := h2.str_inv
      subst e1 e2
      simp only [isIn] at h3
      split at h3
      · rename_i n hn
        rw [one_sign hn] at rx
        exact op_notIn_sign pins s σ H _ _ v u Q I rx ry ⟨n, z, rfl, rfl, by rw [Option.some.inj h3]; exact q⟩
      · exact op_notin_str pins s σ H _ _ v u Q I rx ry ⟨c, z, rfl, rfl, by rw [Option.some.inj h3]; exact q⟩
    | _ => simp [isIn] at h3
  | _ => cases d <;> simp [isIn] at h3
theorem sem_in : Sem2 S W (RT S) (rInX S false) sIn := fun σ H0 m g H a b x y Q ok fz ra rb p => by
  unfold sIn at p
  cases q : isIn a b with
  | none => rw [q] at p; exact p.elim
  | some k => rw [q] at p; exact ⟨m.bare, a, b, k, ra.bare, rb.bare, q, p.now ok (.bl k)⟩
theorem sem_notIn : Sem2 S W (RT S) (rInX S true) sNotIn := fun σ H0 m g H a b x y Q ok fz ra rb p => by
  unfold sNotIn at p
  cases q : isIn a b with
  | none => rw [q] at p; exact p.elim
  | some k => rw [q] at p; exact ⟨m.bare, a, b, k, ra.bare, rb.bare, q, p.now ok (.bl (!k))⟩
theorem Post.q {α β : Type} {R : Hp → Mv → Hp → α → β → Prop} {σ : St} {H0 H : Hp} {r : Res α} {m : Mv} {Q Q' : β → Hp → Prop} (h : Post S R W σ H0 r m H Q) (hq : ∀ b H', Q b H' → Q' b H') : Post S R W σ H0 r m H Q' := by
  cases r with
  | ok a g => exact fun b H' m' q ok r => hq _ _ (h b H' m' q ok r)
  | exc x g => exact h
  | stuck => exact h
/-! ### arguments, displays -/
def eNil : En (List D) := fun _ g => .ok [] g
def eCons (f : E1) (fs : En (List D)) : En (List D) := eB (fun a as g => .ok (a :: as) g) f fs
def eStar (f : E1) (fs : En (List D)) : En (List D) := fun env g => (f env g).bind fun a g1 => match a with
  | .lst xs => (fs env g1).bind fun as g2 => .ok (xs ++ as) g2
  | .tup xs => (fs env g1).bind fun as g2 => .ok (xs ++ as) g2
  | _ => .stuck
theorem a_nil : Pas X S W [] eNil := PA.to pa_nil fun σ H Q ⟨env, g, m, r, p⟩ => p.now r.mem Rl.nil
theorem a_cons {e : Expr} {es : List Expr} {f : E1} {fs : En (List D)} (he : Pe X S W e f) (hr : Pas X S W es fs) (hs : starEach (e :: es) X.env = (false, eval e X.env) :: starEach es X.env := by rfl) : Pas X S W (e :: es) (eCons f fs) :=
  PA.to (pa_cons he hr hs) fun σ H Q h => Tv.two (Ra := RT S) (Rb := RL S) rt_stays h fun env m g H1 a b x y rel fz ⟨_, ra⟩ ⟨_, rb⟩ p => p.now rel.mem (Rl.cons ra rb)
theorem a_star {e : Expr} {es : List Expr} {f : E1} {fs : En (List D)} {p0 : Pos} (hK : S.K = X.K) (he : Pb X S W e f) (hr : Pas X S W es fs) (hs : starEach (.Starred e p0 :: es) X.env = (true, eval e X.env) :: starEach es X.env := by rfl) : Pas X S W (.Starred e p0 :: es) (eStar f fs) :=
  PA.to (StX.pa_star he hr hs) fun σ H Q h => Tv.go (Ra := RB S) (k := fun a env g1 => match a with
    | .lst xs => (fs env g1).bind fun as g2 => .ok (xs ++ as) g2
    | .tup xs => (fs env g1).bind fun as g2 => .ok (xs ++ as) g2
    | _ => .stuck) h fun env m g H1 a x rel fz ra p => by
    have fin : ∀ (ds : List D) (vs : List V), Rl S m H1 ds vs → Post S (RL S) W σ H ((fs env g).bind fun as g2 => .ok (ds ++ as) g2) m H1 Q → Tv S (RL S) W fs σ H1 fun ys H2 => Q (vs ++ ys) H2 := fun ds vs rl p => by
      exact ⟨env, g, m, rel, (Post.bind (R := RL S) (H0 := H1) p).q fun b H2 ⟨a, g1, m1, gr, ok, ra, p2⟩ => p2.now ok (Rl.append (Rl.grow rel.mem (gr.s rel.mem.muW) rl) ra)⟩
    cases a with
    | lst xs =>
      obtain ⟨l, vs, rfl, h1, rl⟩ := ra.lst
      exact ⟨l, vs, rfl, .inr (hK ▸ h1), fin xs vs rl p⟩
    | tup xs =>
      obtain ⟨l, vs, rfl, h1, rl⟩ := ra.tup
      exact ⟨l, vs, rfl, .inl (hK ▸ h1), fin xs vs rl p⟩
    | _ => exact p.elim
def eLst (fs : En (List D)) : E1 := eU (fun ds g => if ds.length ≤ big then .ok (.lst ds) g else .stuck) fs
def eTup (fs : En (List D)) : E1 := eU (fun ds g => if ds.length ≤ big then .ok (.tup ds) g else .stuck) fs
theorem f_lst {es : List Expr} {fs : En (List D)} {pos : Pos} (h : Pas X S W es fs) : Pf X S W (.List es pos) (eLst fs) :=
  PE.to (pe_lst h) fun σ H Q q => Tv.one (Ra := RL S) q fun env m g H1 a x rel fz ⟨_, ra⟩ p => by
    split at p
    · rename_i c
      have ra : Rl S m H1 a x := ra
      exact ⟨by rw [← ra.length]; exact big_line c, fun l hl => p.ownL rel.mem ra hl fz⟩
    · exact p.elim
theorem e_tup {es : List Expr} {fs : En (List D)} {pos : Pos} {x1} (h : Pas X S W es fs) : Pe X S W (.Tuple es x1 pos) (eTup fs) :=
  PE.to (pe_tup h) fun σ H Q q => Tv.one (Ra := RL S) q fun env m g H1 a x rel fz ⟨_, ra⟩ p => by
    split at p
    · rename_i c
      have ra : Rl S m H1 a x := ra
      exact ⟨by rw [← ra.length]; exact big_line c, fun l hl => p.newT rel.mem ra hl⟩
    · exact p.elim
end
end Ev
namespace Ev
open PySem PySem.Spec PyProof.Rows L2
section
variable {X : Cx} {S : Stat} {W : WX}
/-! ### items -/
theorem Rl.atI {m : Mv} {H : Hp} {ds : List D} {vs : List V} {i : Int} {d : D} (r : Rl S m H ds vs) (h : atI ds i = some d) : ∃ v, L2.atI vs i = some v ∧ Rr S m H d v := by
  unfold L2.atI at h ⊢
  rw [← r.length]
  cases e : ixN ds.length i with
  | none => rw [e] at h; cases h
  | some j =>
    rw [e] at h
    obtain ⟨v, e1, q⟩ := r.get h
    exact ⟨v, e1, q⟩
def sIx : D → D → Sto → Res D
  | .lst xs, .int i, g => match atI xs i with
    | some d => .ok d g
    | none => .stuck
  | .tup xs, .int i, g => match atI xs i with
    | some d => .ok d g
    | none => .stuck
  | .frz xs, .int i, g => match atI xs i with
    | some d => .ok d g
    | none => .stuck
  | .str z, .int i, g => if z.length ≤ big then (match atI z.cps.toList i with
    | some c => .ok (.str ⟨#[c]⟩) g
    | none => .stuck) else .stuck
  | _, _, _ => .stuck
theorem sem_ix (hK : S.K = X.K) : Sem2 S W (RT S) (rIx X.K) sIx := fun σ H0 m g H a b x y Q ok fz ra rb p => by
    cases b with
    | int i =>
      have e := rb.int
      subst e
      cases a with
      | lst xs =>
        obtain ⟨l, vs, rfl, h1, r1⟩ := ra.lst
        simp only [sIx] at p
        cases q : atI xs i with
        | none => rw [q] at p; exact p.elim
        | some d =>
          rw [q] at p
          obtain ⟨v, e1, e2⟩ := r1.atI q
          exact .inl ⟨l, vs, i, v, rfl, rfl, hK ▸ h1, e1, p.now ok e2⟩
      | frz xs =>
        obtain ⟨l, vs, rfl, h1, r1⟩ := ra.frz
        simp only [sIx] at p
        cases q : atI xs i with
        | none => rw [q] at p; exact p.elim
        | some d =>
          rw [q] at p
          obtain ⟨v, e1, e2⟩ := r1.atI q
          exact .inl ⟨l, vs, i, v, rfl, rfl, hK ▸ h1, e1, p.now ok e2⟩
      | tup xs =>
        obtain ⟨l, vs, rfl, h1, r1⟩ := ra.tup
        simp only [sIx] at p
        cases q : atI xs i with
        | none => rw [q] at p; exact p.elim
        | some d =>
          rw [q] at p
          obtain ⟨v, e1, e2⟩ := r1.atI q
          exact .inr (.inl ⟨l, vs, i, v, rfl, rfl, hK ▸ h1, e1, p.now ok e2⟩)
      | str z =>
        have e := ra.str
        subst e
        simp only [sIx] at p
        split at p
        · rename_i c
          cases q : atI z.cps.toList i with
          | none => rw [q] at p; exact p.elim
          | some d =>
            rw [q] at p
            exact .inr (.inr ⟨z, i, d, rfl, rfl, big_line c, q, p.now ok (.str _)⟩)
        · exact p.elim
      | _ => exact p.elim
    | _ => cases a <;> exact p.elim
theorem e_ix {a b : Expr} {fa fb : E1} {pos : Pos} (hK : S.K = X.K) (ha : Pb X S W a fa) (hb : Pb X S W b fb) (hs : PlainIx b) : Pe X S W (.Subscript a b pos) (eB (dr2 sIx) fa fb) :=
  PE.to (pe_ix ix_seq ha hb hs) fun σ H Q h => two (a := a) (b := b) (Sem2.dr (sem_ix hK)) h
/-! ### slices -/
def RO : Hp → Mv → Hp → Option Int → Option Int → Prop := fun _ _ _ a b => a = b
theorem PO.to {e : Option Expr} {t t' : TO} (h : PO X e t) (i : ∀ σ H Q, t' σ H Q → t σ H Q) : PO X e t' := ⟨fun pins s σ H Q I q => h.run pins s σ H Q I (i σ H Q q)⟩
abbrev Po (X : Cx) (S : Stat) (W : WX) (e : Option Expr) (f : En (Option Int)) : Prop := PO X e (Tv S RO W f)
def oNo : En (Option Int) := fun _ g => .ok none g
def oSo (f : E1) : En (Option Int) := eU (fun d g => match d with
  | .int i => .ok (some i) g
  | _ => .stuck) f
theorem o_no : Po X S W none oNo := PO.to po_none fun σ H Q ⟨env, g, m, r, p⟩ => p.now r.mem rfl
theorem o_so {e : Expr} {f : E1} (h : Pe X S W e f) : Po X S W (some e) (oSo f) := PO.to (po_some h) fun σ H Q q => Tv.one (Ra := RT S) q fun env m g H1 a x rel _ ⟨_, ra⟩ p => by
  cases a with
  | int i => exact ⟨i, ra.int_inv, p.now rel.mem rfl⟩
  | _ => exact p.elim
def cutL {α : Type} (xs : List α) (lo hi : Option Int) : List α := (xs.drop (HT.sIx xs.length 0 lo)).take (HT.sIx xs.length xs.length hi - HT.sIx xs.length 0 lo)
theorem Rl.cut {m : Mv} {H : Hp} {ds : List D} {vs : List V} (r : Rl S m H ds vs) (lo hi : Option Int) : Rl S m H (cutL ds lo hi) (cutV vs lo hi) := by
  unfold cutL cutV
  rw [r.length]
  exact (r.drop _).take _
theorem cut_whole {α : Type} {xs : List α} {lo hi : Option Int} (h : HT.sIx xs.length 0 lo = 0 ∧ HT.sIx xs.length xs.length hi = xs.length) : cutL xs lo hi = xs := by
  unfold cutL
  rw [h.1, h.2]
  simp
def eSl (sem : D → Option Int → Option Int → Sto → Res D) (f : E1) (lo hi : En (Option Int)) : E1 := fun env g => (f env g).bind fun d g1 => (lo env g1).bind fun l g2 => (hi env g2).bind fun h g3 => sem d l h g3
/-- as a tree: lists, tuples, texts -/
def sSl : D → Option Int → Option Int → Sto → Res D
  | .lst xs, lo, hi, g => .ok (.lst (cutL xs lo hi)) g
  | .tup xs, lo, hi, g => .ok (.tup (cutL xs lo hi)) g
  | .str z, lo, hi, g => if z.length ≤ big then .ok (.str ⟨(cutL z.cps.toList lo hi).toArray⟩) g else .stuck
  | _, _, _, _ => .stuck
def sSlL : D → Option Int → Option Int → Sto → Res D
  | .lst xs, lo, hi, g => .ok (.lst (cutL xs lo hi)) g
  | .frz xs, lo, hi, g => .ok (.lst (cutL xs lo hi)) g
  | _, _, _, _ => .stuck
theorem slice_any {e : Expr} {f : E1} {lo hi : Option Expr} {fl fh : En (Option Int)} {p2 pos : Pos} {sem : D → Option Int → Option Int → Sto → Res D} {Rc : Hp → Mv → Hp → D → V → Prop} {r : V → Option Int → Option Int → Hp → VK → Prop} (hr : SlR X r)
    (hs : ∀ (σ : St) (H0 : Hp) (m : Mv) (g : Sto) (H : Hp) (d : D) (l h : Option Int) (x : V) (Q : VK), MOk S H g m → (∀ z, H z = none → H0 z = none) → Rv S m H d x → Post S Rc W σ H0 (sem d l h g) m H Q → r x l h H Q)
    (he : Pb X S W e f) (hl : Po X S W lo fl) (hh : Po X S W hi fh) : PE X (.Subscript e (.Slice lo hi none p2) pos) (Tv S Rc W (eSl (fun d l h g => sem (dr g d) l h g) f fl fh)) :=
  PE.to (pe_slice hr he hl hh) fun σ H Q q => Tv.go (Ra := RB S) (k := fun d env g1 => (fl env g1).bind fun l g2 => (fh env g2).bind fun h g3 => sem (dr g3 d) l h g3) q fun env m g H1 a x rel fz ra p => by
    refine ⟨env, g, m, rel, (Post.bind (R := RO) (H0 := H1) p).q fun l H2 ⟨l', g2, m2, gr2, ok2, rl, p2⟩ => ?_⟩
    have e : l' = l := rl
    subst e
    have rel2 := rel.grow gr2 ok2
    refine ⟨env, g2, m2, rel2, (Post.bind (R := RO) (H0 := H2) p2).q fun h H3 ⟨h', g3, m3, gr3, ok3, rh, p3⟩ => ?_⟩
    have e : h' = h := rh
    subst e
    exact hs σ H m3 g3 H3 _ _ _ x Q ok3 (fun z hz => fz z (gr2.liv z (gr3.liv z hz))) (Rv.dr ok3 (Rb.grow ok2 gr3 ok3 (Rb.grow rel.mem gr2 ok2 ra)).v) p3
theorem cutS_eq {z : Str} {lo hi : Option Int} : True := trivial
theorem f_sl {e : Expr} {f : E1} {lo hi : Option Expr} {fl fh : En (Option Int)} {p2 pos : Pos} (hK : S.K = X.K) (he : Pb X S W e f) (hl : Po X S W lo fl) (hh : Po X S W hi fh) : Pf X S W (.Subscript e (.Slice lo hi none p2) pos) (eSl (fun d l h g => sSlL (dr g d) l h g) f fl fh) :=
  slice_any sl_list (fun σ H0 m g H d l h x Q ok fz ra p => by
    cases d with
    | lst xs =>
      obtain ⟨a, vs, rfl, h1, r1⟩ := ra.lst
      exact ⟨a, vs, rfl, hK ▸ h1, fun q hq => p.ownL ok (r1.cut l h) hq fz⟩
    | frz xs =>
      obtain ⟨a, vs, rfl, h1, r1⟩ := ra.frz
      exact ⟨a, vs, rfl, hK ▸ h1, fun q hq => p.ownL ok (r1.cut l h) hq fz⟩
    | _ => exact p.elim) he hl hh
/-! ### calls of built-ins -/
def Sem1 (S : Stat) (W : WX) (Rc : Hp → Mv → Hp → D → V → Prop) (r : V → Hp → VK → Prop) (sem : D → Sto → Res D) : Prop :=
  ∀ (σ : St) (H0 : Hp) (m : Mv) (g : Sto) (H : Hp) (a : D) (x : V) (Q : VK), MOk S H g m → (∀ z, H z = none → H0 z = none) → Rv S m H a x → Post S Rc W σ H0 (sem a g) m H Q → r x H Q
theorem Sem1.dr {Rc : Hp → Mv → Hp → D → V → Prop} {r : V → Hp → VK → Prop} {sem : D → Sto → Res D} (h : Sem1 S W Rc r sem) : Sem1 S W Rc r (dr1 sem) := fun σ H0 m g H a x Q ok fz ra p => h σ H0 m g H _ x Q ok fz (ra.dr ok) p
theorem call1 {x : Str} {id : String} {r : List V → Hp → VK → Prop} {e : Expr} {f : E1} {sem : D → Sto → Res D} {Rc : Hp → Mv → Hp → D → V → Prop} {p pos : Pos} (hc : CallR X (.builtin id) r) (hg : Gl X x) (hm : X.mg x = none) (hv : bootBuiltins x = some (.builtin id)) (hs : Sem1 S W Rc (fun x => r [x]) sem) (he : Pb X S W e f)
    (hn : x ≠ "__name__" := by decide) (hdb : (x == ("__debug__" : Str)) = false := by decide) (hst : starEach [e] X.env = (false, eval e X.env) :: starEach [] X.env := by rfl) : PE X (.Call (.Name x p) [e] [] pos) (Tv S Rc W (eU (dr1 sem) f)) :=
  PE.to (pe_callB hc hg hm hv (pa_cons he pa_nil hst) hn hdb hst) fun σ H Q q => Tv.one (Ra := RB S) q fun env m g H1 a x rel fz ⟨_, ra⟩ p => hs.dr σ H m g H1 a x Q rel.mem fz ra.v p
theorem callT1 {x : Str} {T : String} {r : List V → Hp → VK → Prop} {e : Expr} {f : E1} {sem : D → Sto → Res D} {Rc : Hp → Mv → Hp → D → V → Prop} {p pos : Pos} (hc : CallR X (.type T) r) (hg : Gl X x) (hm : X.mg x = none) (hv : bootBuiltins x = some (.type T)) (hs : Sem1 S W Rc (fun x => r [x]) sem) (he : Pb X S W e f)
    (hn : x ≠ "__name__" := by decide) (hdb : (x == ("__debug__" : Str)) = false := by decide) (hst : starEach [e] X.env = (false, eval e X.env) :: starEach [] X.env := by rfl) : PE X (.Call (.Name x p) [e] [] pos) (Tv S Rc W (eU (dr1 sem) f)) :=
  PE.to (pe_callTy hc hg hm hv (pa_cons he pa_nil hst) hn hdb hst) fun σ H Q q => Tv.one (Ra := RB S) q fun env m g H1 a x rel fz ⟨_, ra⟩ p => hs.dr σ H m g H1 a x Q rel.mem fz ra.v p
theorem call2 {x : Str} {id : String} {r : List V → Hp → VK → Prop} {e1 e2 : Expr} {f1 f2 : E1} {sem : D → D → Sto → Res D} {Rc : Hp → Mv → Hp → D → V → Prop} {p pos : Pos} (hc : CallR X (.builtin id) r) (hg : Gl X x) (hm : X.mg x = none) (hv : bootBuiltins x = some (.builtin id)) (hs : Sem2 S W Rc (fun x y => r [x, y]) sem) (h1 : Pb X S W e1 f1) (h2 : Pb X S W e2 f2)
    (hn : x ≠ "__name__" := by decide) (hdb : (x == ("__debug__" : Str)) = false := by decide) (hst : starEach [e1, e2] X.env = (false, eval e1 X.env) :: starEach [e2] X.env := by rfl) (hst2 : starEach [e2] X.env = (false, eval e2 X.env) :: starEach [] X.env := by rfl) : PE X (.Call (.Name x p) [e1, e2] [] pos) (Tv S Rc W (eB sem f1 f2)) :=
  PE.to (pe_callB hc hg hm hv (pa_cons h1 (pa_cons h2 pa_nil hst2) hst) hn hdb hst (by rw [hst2]; rfl)) fun σ H Q q => two (a := e1) (b := e2) (r := fun x y => r [x, y]) hs q
theorem CallR.or {f : Value} {r r' : List V → Hp → VK → Prop} (h : CallR X f r) (h' : CallR X f r') : CallR X f (fun xs H Q => r xs H Q ∨ r' xs H Q) := by
  intro pins s σ H xs us Q I rs q
  rcases q with q | q
  · exact h pins s σ H xs us Q I rs q
  · exact h' pins s σ H xs us Q I rs q
/-- len -/
def sLen : D → Sto → Res D
  | .lst xs, g => .ok (.int xs.length) g
  | .frz xs, g => .ok (.int xs.length) g
  | .tup xs, g => .ok (.int xs.length) g
  | .str z, g => if z.length ≤ big then .ok (.int z.length) g else .stuck
  | _, _ => .stuck
theorem e_len {e : Expr} {f : E1} {p pos : Pos} (hK : S.K = X.K) (hg : Gl X "len") (hm : X.mg "len" = none) (he : Pb X S W e f) (hst : starEach [e] X.env = (false, eval e X.env) :: starEach [] X.env := by rfl) : Pe X S W (.Call (.Name "len" p) [e] [] pos) (eU (dr1 sLen) f) :=
  call1 (Ev.CallR.or call_len_seq call_len_str) hg hm PySem.boot_len (fun σ H0 m g H a x Q ok fz ra q => by
    cases a with
    | lst xs =>
      obtain ⟨l, vs, rfl, h1, r1⟩ := ra.lst
      exact .inl ⟨l, vs, rfl, .inl (hK ▸ h1), by rw [← r1.length]; exact q.now ok (.int _)⟩
    | frz xs =>
      obtain ⟨l, vs, rfl, h1, r1⟩ := ra.frz
      exact .inl ⟨l, vs, rfl, .inl (hK ▸ h1), by rw [← r1.length]; exact q.now ok (.int _)⟩
    | tup xs =>
      obtain ⟨l, vs, rfl, h1, r1⟩ := ra.tup
      exact .inl ⟨l, vs, rfl, .inr (hK ▸ h1), by rw [← r1.length]; exact q.now ok (.int _)⟩
    | str z =>
      have e := ra.str
      subst e
      simp only [sLen] at q
      split at q
      · rename_i c; exact .inr ⟨z, rfl, big_line c, q.now ok (.int _)⟩
      · exact q.elim
    | _ => exact q.elim) he (by decide) (by decide) hst
/-- abs; max and min of two -/
def sAbs : D → Sto → Res D
  | .int i, g => .ok (.int (if i < 0 then -i else i)) g
  | _, _ => .stuck
theorem e_abs {e : Expr} {f : E1} {p pos : Pos} (hg : Gl X "abs") (hm : X.mg "abs" = none) (he : Pb X S W e f) (hst : starEach [e] X.env = (false, eval e X.env) :: starEach [] X.env := by rfl) : Pe X S W (.Call (.Name "abs" p) [e] [] pos) (eU (dr1 sAbs) f) :=
  call1 call_abs hg hm (by decide +kernel) (fun σ H0 m g H a x Q ok fz ra q => by
    cases a with
    | int i => exact ⟨i, by rw [ra.int], q.now ok (.int _)⟩
    | _ => exact q.elim) he (by decide) (by decide) hst
def sMax2 : D → D → Sto → Res D
  | .int i, .int j, g => .ok (.int (if j > i then j else i)) g
  | _, _, _ => .stuck
def sMin2 : D → D → Sto → Res D
  | .int i, .int j, g => .ok (.int (if j < i then j else i)) g
  | _, _, _ => .stuck
theorem e_max2 {e1 e2 : Expr} {f1 f2 : E1} {p pos : Pos} (hc : X.calm = true) (hg : Gl X "max") (hm : X.mg "max" = none) (h1 : Pb X S W e1 f1) (h2 : Pb X S W e2 f2) (hst : starEach [e1, e2] X.env = (false, eval e1 X.env) :: starEach [e2] X.env := by rfl) (hst2 : starEach [e2] X.env = (false, eval e2 X.env) :: starEach [] X.env := by rfl) :
    Pe X S W (.Call (.Name "max" p) [e1, e2] [] pos) (eB sMax2 f1 f2) :=
  call2 (call_max2 hc) hg hm (by decide +kernel) (sem_int (fun σ H0 m g H i j Q ok q => ⟨i, j, rfl, q.now ok (.int _)⟩) fun a b g n => by
    cases a <;> cases b <;> first | rfl | exact absurd ⟨rfl, rfl⟩ (n _ _)) h1 h2 (by decide) (by decide) hst hst2
theorem e_min2 {e1 e2 : Expr} {f1 f2 : E1} {p pos : Pos} (hc : X.calm = true) (hg : Gl X "min") (hm : X.mg "min" = none) (h1 : Pb X S W e1 f1) (h2 : Pb X S W e2 f2) (hst : starEach [e1, e2] X.env = (false, eval e1 X.env) :: starEach [e2] X.env := by rfl) (hst2 : starEach [e2] X.env = (false, eval e2 X.env) :: starEach [] X.env := by rfl) :
    Pe X S W (.Call (.Name "min" p) [e1, e2] [] pos) (eB sMin2 f1 f2) :=
  call2 (call_min2 hc) hg hm (by decide +kernel) (sem_int (fun σ H0 m g H i j Q ok q => ⟨i, j, rfl, q.now ok (.int _)⟩) fun a b g n => by
    cases a <;> cases b <;> first | rfl | exact absurd ⟨rfl, rfl⟩ (n _ _)) h1 h2 (by decide) (by decide) hst hst2
/-- int(..) of an int, a bool, a text -/
def sInt : D → Sto → Res D
  | .int i, g => .ok (.int i) g
  | .bl b, g => .ok (.int (if b then 1 else 0)) g
  | .str z, g => if z.length ≤ 640 then (match PySem.intText? z with
    | some n => .ok (.int n) g
    | none => .stuck) else .stuck
  | _, _ => .stuck
theorem e_int1 {e : Expr} {f : E1} {p pos : Pos} (hg : Gl X "int") (hm : X.mg "int" = none) (he : Pb X S W e f) (hst : starEach [e] X.env = (false, eval e X.env) :: starEach [] X.env := by rfl) : Pe X S W (.Call (.Name "int" p) [e] [] pos) (eU (dr1 sInt) f) :=
  callT1 (Ev.CallR.or call_int1 call_int_str) hg hm (by decide +kernel) (fun σ H0 m g H a x Q ok fz ra q => by
    cases a with
    | int i => exact .inl (.inl ⟨i, by rw [ra.int], q.now ok (.int _)⟩)
    | bl b => exact .inl (.inr ⟨b, by rw [ra.bl], q.now ok (.int _)⟩)
    | str z =>
      have e := ra.str
      subst e
      simp only [sInt] at q
      split at q
      · rename_i c
        cases e : PySem.intText? z with
        | none => rw [e] at q; exact q.elim
        | some n => rw [e] at q; exact .inr ⟨z, n, rfl, e, c, q.now ok (.int _)⟩
      · exact q.elim
    | _ => exact q.elim) he (by decide) (by decide) hst
/-- str(..) of a text, of an int below 10 ^ 18 -/
def sStr : D → Sto → Res D
  | .str z, g => .ok (.str z) g
  | .int i, g => if i.natAbs < 10 ^ 18 then .ok (.str (toString i)) g else .stuck
  | _, _ => .stuck
theorem log_small {n : Nat} (h : n < 10 ^ 18) : n.log2 < 1920 := by
  by_cases h0 : n = 0
  · subst h0; decide
  · have h1 : n.log2 < 60 := (Nat.log2_lt h0).mpr (Nat.lt_of_lt_of_le h (by decide))
    omega
theorem e_str1 {e : Expr} {f : E1} {p pos : Pos} (hg : Gl X "str") (hm : X.mg "str" = none) (he : Pb X S W e f) (hst : starEach [e] X.env = (false, eval e X.env) :: starEach [] X.env := by rfl) : Pe X S W (.Call (.Name "str" p) [e] [] pos) (eU (dr1 sStr) f) :=
  callT1 (Ev.CallR.or SkE.call_str_str call_str_int) hg hm (by decide +kernel) (fun σ H0 m g H a x Q ok fz ra q => by
    cases a with
    | str z => exact .inl ⟨z, by rw [ra.str], q.now ok (.str _)⟩
    | int i =>
      have e := ra.int
      subst e
      simp only [sStr] at q
      split at q
      · rename_i c; exact .inr ⟨i, rfl, log_small c, q.now ok (.str _)⟩
      · exact q.elim
    | _ => exact q.elim) he (by decide) (by decide) hst
/-- tuple(..), list(..) -/
def sTuple : D → Sto → Res D
  | .lst xs, g => .ok (.tup xs) g
  | .tup xs, g => .ok (.tup xs) g
  | _, _ => .stuck
def sList : D → Sto → Res D
  | .lst xs, g => .ok (.lst xs) g
  | .frz xs, g => .ok (.lst xs) g
  | .tup xs, g => .ok (.lst xs) g
  | _, _ => .stuck
theorem e_tuple {e : Expr} {f : E1} {p pos : Pos} (hK : S.K = X.K) (hg : Gl X "tuple") (hm : X.mg "tuple" = none) (he : Pb X S W e f) (hst : starEach [e] X.env = (false, eval e X.env) :: starEach [] X.env := by rfl) : Pe X S W (.Call (.Name "tuple" p) [e] [] pos) (eU (dr1 sTuple) f) :=
  callT1 call_tuple_of hg hm (by decide +kernel) (fun σ H0 m g H a x Q ok fz ra q => by
    cases a with
    | lst xs =>
      obtain ⟨l, vs, rfl, h1, r1⟩ := ra.lst
      exact ⟨l, vs, rfl, .inl ⟨hK ▸ h1, fun p hp => q.newT ok r1 hp⟩⟩
    | tup xs =>
      obtain ⟨l, vs, rfl, h1, r1⟩ := ra.tupH
      exact ⟨l, vs, rfl, .inr ⟨SqT.of h1, q.now ok (.tup h1 r1)⟩⟩
    | _ => exact q.elim) he (by decide) (by decide) hst
theorem f_list {e : Expr} {f : E1} {p pos : Pos} (hK : S.K = X.K) (hg : Gl X "list") (hm : X.mg "list" = none) (he : Pb X S W e f) (hst : starEach [e] X.env = (false, eval e X.env) :: starEach [] X.env := by rfl) : Pf X S W (.Call (.Name "list" p) [e] [] pos) (eU (dr1 sList) f) :=
  callT1 call_list_of hg hm (by decide +kernel) (fun σ H0 m g H a x Q ok fz ra q => by
    cases a with
    | lst xs =>
      obtain ⟨l, vs, rfl, h1, r1⟩ := ra.lst
      exact ⟨l, vs, rfl, .inl (hK ▸ h1), fun p hp => q.ownL ok r1 hp fz⟩
    | frz xs =>
      obtain ⟨l, vs, rfl, h1, r1⟩ := ra.frz
      exact ⟨l, vs, rfl, .inl (hK ▸ h1), fun p hp => q.ownL ok r1 hp fz⟩
    | tup xs =>
      obtain ⟨l, vs, rfl, h1, r1⟩ := ra.tup
      exact ⟨l, vs, rfl, .inr (hK ▸ h1), fun p hp => q.ownL ok r1 hp fz⟩
    | _ => exact q.elim) he (by decide) (by decide) hst
/-! ### any, all, sum, max of a list -/
def blsOf : List D → Option (List Bool)
  | [] => some []
  | .bl b :: r => (blsOf r).map (b :: ·)
  | _ => none
def intsOf : List D → Option (List Int)
  | [] => some []
  | .int b :: r => (intsOf r).map (b :: ·)
  | _ => none
def strsOf : List D → Option (List Str)
  | [] => some []
  | .str b :: r => (strsOf r).map (b :: ·)
  | _ => none
theorem blsOf_ok {m : Mv} {H : Hp} : ∀ {ds : List D} {bs : List Bool} {vs : List V}, blsOf ds = some bs → Rl S m H ds vs → vs = bs.map V.bl
  | [], bs, _, h, .nil => by simp [blsOf] at h; subst h; rfl
  | .bl b :: r, bs, _, h, .cons q t => by
    simp only [blsOf] at h
    obtain ⟨cs, e, rfl⟩ := Option.map_eq_some_iff.mp h
    rw [blsOf_ok e t, q.bl_inv]; rfl
  | .non :: r, bs, _, h, _ => by simp [blsOf] at h
  | .int _ :: r, bs, _, h, _ => by simp [blsOf] at h
  | .str _ :: r, bs, _, h, _ => by simp [blsOf] at h
  | .lst _ :: r, bs, _, h, _ => by simp [blsOf] at h
  | .tup _ :: r, bs, _, h, _ => by simp [blsOf] at h
  | .dic _ _ _ :: r, bs, _, h, _ => by simp [blsOf] at h
  | .ins _ _ _ :: r, bs, _, h, _ => by simp [blsOf] at h
  | .cls _ :: r, bs, _, h, _ => by simp [blsOf] at h
  | .ctup _ :: r, bs, _, h, _ => by simp [blsOf] at h
  | .loc _ :: r, bs, _, h, _ => by simp [blsOf] at h
  | .frz _ :: r, bs, _, h, _ => by simp [blsOf] at h
theorem intsOf_ok {m : Mv} {H : Hp} : ∀ {ds : List D} {bs : List Int} {vs : List V}, intsOf ds = some bs → Rl S m H ds vs → vs = bs.map V.int
  | [], bs, _, h, .nil => by simp [intsOf] at h; subst h; rfl
  | .int b :: r, bs, _, h, .cons q t => by
    simp only [intsOf] at h
    obtain ⟨cs, e, rfl⟩ := Option.map_eq_some_iff.mp h
    rw [intsOf_ok e t, q.int_inv]; rfl
  | .non :: r, bs, _, h, _ => by simp [intsOf] at h
  | .bl _ :: r, bs, _, h, _ => by simp [intsOf] at h
  | .str _ :: r, bs, _, h, _ => by simp [intsOf] at h
  | .lst _ :: r, bs, _, h, _ => by simp [intsOf] at h
  | .tup _ :: r, bs, _, h, _ => by simp [intsOf] at h
  | .dic _ _ _ :: r, bs, _, h, _ => by simp [intsOf] at h
  | .ins _ _ _ :: r, bs, _, h, _ => by simp [intsOf] at h
  | .cls _ :: r, bs, _, h, _ => by simp [intsOf] at h
  | .ctup _ :: r, bs, _, h, _ => by simp [intsOf] at h
  | .loc _ :: r, bs, _, h, _ => by simp [intsOf] at h
  | .frz _ :: r, bs, _, h, _ => by simp [intsOf] at h
theorem strsOf_ok {m : Mv} {H : Hp} : ∀ {ds : List D} {bs : List Str} {vs : List V}, strsOf ds = some bs → Rl S m H ds vs → vs = bs.map V.str
  | [], bs, _, h, .nil => by simp [strsOf] at h; subst h; rfl
  | .str b :: r, bs, _, h, .cons q t => by
    simp only [strsOf] at h
    obtain ⟨cs, e, rfl⟩ := Option.map_eq_some_iff.mp h
    rw [strsOf_ok e t, q.str_inv]; rfl
  | .non :: r, bs, _, h, _ => by simp [strsOf] at h
  | .bl _ :: r, bs, _, h, _ => by simp [strsOf] at h
  | .int _ :: r, bs, _, h, _ => by simp [strsOf] at h
  | .lst _ :: r, bs, _, h, _ => by simp [strsOf] at h
  | .tup _ :: r, bs, _, h, _ => by simp [strsOf] at h
  | .dic _ _ _ :: r, bs, _, h, _ => by simp [strsOf] at h
  | .ins _ _ _ :: r, bs, _, h, _ => by simp [strsOf] at h
  | .cls _ :: r, bs, _, h, _ => by simp [strsOf] at h
  | .ctup _ :: r, bs, _, h, _ => by simp [strsOf] at h
  | .loc _ :: r, bs, _, h, _ => by simp [strsOf] at h
  | .frz _ :: r, bs, _, h, _ => by simp [strsOf] at h
def sAny : D → Sto → Res D
  | .lst xs, g => match blsOf xs with
    | some bs => .ok (.bl (bs.any id)) g
    | none => .stuck
  | _, _ => .stuck
def sAll : D → Sto → Res D
  | .lst xs, g => match blsOf xs with
    | some bs => .ok (.bl (bs.all id)) g
    | none => .stuck
  | _, _ => .stuck
def sSum : D → Sto → Res D
  | .lst xs, g => match intsOf xs with
    | some bs => .ok (.int bs.sum) g
    | none => .stuck
  | _, _ => .stuck
theorem e_any {e : Expr} {f : E1} {p pos : Pos} (hK : S.K = X.K) (hc : X.calm = true) (hg : Gl X "any") (hm : X.mg "any" = none) (he : Pb X S W e f) (hst : starEach [e] X.env = (false, eval e X.env) :: starEach [] X.env := by rfl) : Pe X S W (.Call (.Name "any" p) [e] [] pos) (eU (dr1 sAny) f) :=
  call1 (cr_any hc) hg hm (by decide +kernel) (fun σ H0 m g H a x Q ok fz ra q => by
    cases a with
    | lst xs =>
      obtain ⟨l, vs, rfl, h1, r1⟩ := ra.lst
      simp only [sAny] at q
      cases e : blsOf xs with
      | none => rw [e] at q; exact q.elim
      | some bs =>
        rw [e] at q
        have e2 := blsOf_ok e r1
        subst e2
        exact ⟨l, bs, rfl, hK ▸ h1, q.now ok (.bl _)⟩
    | _ => exact q.elim) he (by decide) (by decide) hst
theorem e_all {e : Expr} {f : E1} {p pos : Pos} (hK : S.K = X.K) (hc : X.calm = true) (hg : Gl X "all") (hm : X.mg "all" = none) (he : Pb X S W e f) (hst : starEach [e] X.env = (false, eval e X.env) :: starEach [] X.env := by rfl) : Pe X S W (.Call (.Name "all" p) [e] [] pos) (eU (dr1 sAll) f) :=
  call1 (cr_all hc) hg hm (by decide +kernel) (fun σ H0 m g H a x Q ok fz ra q => by
    cases a with
    | lst xs =>
      obtain ⟨l, vs, rfl, h1, r1⟩ := ra.lst
      simp only [sAll] at q
      cases e : blsOf xs with
      | none => rw [e] at q; exact q.elim
      | some bs =>
        rw [e] at q
        have e2 := blsOf_ok e r1
        subst e2
        exact ⟨l, bs, rfl, hK ▸ h1, q.now ok (.bl _)⟩
    | _ => exact q.elim) he (by decide) (by decide) hst
theorem e_sum {e : Expr} {f : E1} {p pos : Pos} (hK : S.K = X.K) (hc : X.calm = true) (hg : Gl X "sum") (hm : X.mg "sum" = none) (he : Pb X S W e f) (hst : starEach [e] X.env = (false, eval e X.env) :: starEach [] X.env := by rfl) : Pe X S W (.Call (.Name "sum" p) [e] [] pos) (eU (dr1 sSum) f) :=
  call1 (cr_sum hc) hg hm (by decide +kernel) (fun σ H0 m g H a x Q ok fz ra q => by
    cases a with
    | lst xs =>
      obtain ⟨l, vs, rfl, h1, r1⟩ := ra.lst
      simp only [sSum] at q
      cases e : intsOf xs with
      | none => rw [e] at q; exact q.elim
      | some bs =>
        rw [e] at q
        have e2 := intsOf_ok e r1
        subst e2
        exact ⟨l, bs, rfl, hK ▸ h1, q.now ok (.int _)⟩
    | _ => exact q.elim) he (by decide) (by decide) hst
def maxOf : List Int → Option Int
  | [] => none
  | x :: r => match maxOf r with
    | none => some x
    | some y => some (if x < y then y else x)
theorem maxOf_ok : ∀ {xs : List Int} {m k : Int}, maxOf xs = some m → k ∈ xs → (∀ y, y ∈ xs → y ≤ k) → k = m
  | [], _, _, h, _, _ => by cases h
  | x :: r, m, k, h, hk, hy => by
    simp only [maxOf] at h
    cases e : maxOf r with
    | none =>
      rw [e] at h
      cases r with
      | nil => simp at hk; rw [hk]; exact Option.some.inj h
      | cons z t => simp only [maxOf] at e; split at e <;> cases e
    | some y =>
      rw [e] at h
      have hx := hy x List.mem_cons_self
      have key : ∀ (xs : List Int) (y : Int), maxOf xs = some y → y ∈ xs ∧ ∀ z, z ∈ xs → z ≤ y := by
        intro xs
        induction xs with
        | nil => intro y h; cases h
        | cons a t ih =>
          intro y h
          simp only [maxOf] at h
          cases e : maxOf t with
          | none =>
            rw [e] at h
            cases t with
            | nil => cases h; simp
            | cons z t => simp only [maxOf] at e; split at e <;> cases e
          | some w =>
            rw [e] at h
            obtain ⟨h1, h2⟩ := ih w e
            have h3 := Option.some.inj h
            by_cases c : a < w
            · rw [if_pos c] at h3
              subst h3
              exact ⟨List.mem_cons_of_mem _ h1, fun z hz => by
                rcases List.mem_cons.mp hz with rfl | hz
                · omega
                · exact h2 z hz⟩
            · rw [if_neg c] at h3
              subst h3
              exact ⟨List.mem_cons_self, fun z hz => by
                rcases List.mem_cons.mp hz with rfl | hz
                · omega
                · have := h2 z hz; omega⟩
      obtain ⟨h1, h2⟩ := key r y e
      have hy1 := hy y (List.mem_cons_of_mem _ h1)
      have h3 := Option.some.inj h
      rcases List.mem_cons.mp hk with rfl | hk
      · by_cases c : k < y
        · omega
        · rw [if_neg c] at h3; exact h3
      · have := h2 k hk
        by_cases c : x < y
        · rw [if_pos c] at h3; omega
        · rw [if_neg c] at h3; omega
def sMaxL : D → Sto → Res D
  | .lst xs, g => match (intsOf xs).bind maxOf with
    | some m => .ok (.int m) g
    | none => .stuck
  | _, _ => .stuck
theorem e_maxL {e : Expr} {f : E1} {p pos : Pos} (hK : S.K = X.K) (hc : X.calm = true) (hg : Gl X "max") (hm : X.mg "max" = none) (he : Pb X S W e f) (hst : starEach [e] X.env = (false, eval e X.env) :: starEach [] X.env := by rfl) : Pe X S W (.Call (.Name "max" p) [e] [] pos) (eU (dr1 sMaxL) f) :=
  call1 (cr_max hc) hg hm (by decide +kernel) (fun σ H0 m g H a x Q ok fz ra q => by
    cases a with
    | lst xs =>
      obtain ⟨l, vs, rfl, h1, r1⟩ := ra.lst
      simp only [sMaxL] at q
      cases e : intsOf xs with
      | none => rw [e] at q; exact q.elim
      | some bs =>
        rw [e] at q
        have e2 := intsOf_ok e r1
        subst e2
        simp only [Option.bind_some] at q
        cases e3 : maxOf bs with
        | none => rw [e3] at q; exact q.elim
        | some mx =>
          rw [e3] at q
          refine ⟨l, bs, rfl, hK ▸ h1, ?_, fun k hk hy => ?_⟩
          · cases bs with
            | nil => cases e3
            | cons _ _ => simp
          · rw [maxOf_ok e3 hk hy]; exact q.now ok (.int _)
    | _ => exact q.elim) he (by decide) (by decide) hst
end
end Ev
namespace Ev
open PySem PySem.Spec PyProof.Rows L2
/-- where a statement ends -/
inductive SRes where
  | nx (env : Env) (g : Sto) | rt (d : D) (g : Sto) | rtO (d : D) (g : Sto) | bk (env : Env) (g : Sto) | ct (env : Env) (g : Sto) | exc (x : Xc) (env : Env) (g : Sto) | stuck
abbrev Sd := Env → Sto → SRes
section
variable {X : Cx} {S : Stat} {W : WX}
def SPost (S : Stat) (W : WX) (E : Ends) (r : SRes) (m : Mv) (H : Hp) : Prop := match r with
  | .nx env' g' => ∀ σ' H' m', GrowS m H m' H' → Rel S H' σ' env' g' m' → E.nx σ' H'
  | .rt d g' => ∀ v H' m', GrowS m H m' H' → MOk S H' g' m' → Rr S m' H' d v → E.rt v H'
  | .rtO d g' => ∀ a H' m', GrowS m H m' H' → MOk S H' g' m' → a ∈ m'.W → a ∉ m'.mu → Root S m' H' a d → E.rt (.ref a) H'
  | .bk env' g' => ∀ σ' H' m', GrowS m H m' H' → Rel S H' σ' env' g' m' → E.bk σ' H'
  | .ct env' g' => ∀ σ' H' m', GrowS m H m' H' → Rel S H' σ' env' g' m' → E.ct σ' H'
  | .exc x env' g' => ∀ cl dx σ' H' m', GrowS m H m' H' → Rel S H' σ' env' g' m' → XRd S m' H' x cl dx → W cl dx σ' H'
  | .stuck => False
def TSv (S : Stat) (W : WX) (f : Sd) : TS := fun E σ H => ∃ env g m, Rel S H σ env g m ∧ SPost S W E (f env g) m H
abbrev Ps (X : Cx) (S : Stat) (W : WX) (st : Stmt) (f : Sd) : Prop := PS X st (TSv S W f)
abbrev Pss (X : Cx) (S : Stat) (W : WX) (st : List Stmt) (f : Sd) : Prop := PSs X st (TSv S W f)
theorem SPost.mono {E : Ends} {r : SRes} {m m1 : Mv} {H H1 : Hp} (q : GrowS m H m1 H1) (h : SPost S W E r m H) : SPost S W E r m1 H1 := by
  cases r with
  | nx env g => exact fun σ' H' m' q' r => h σ' H' m' (q.trans q') r
  | rt d g => exact fun v H' m' q' ok r => h v H' m' (q.trans q') ok r
  | rtO d g => exact fun a H' m' q' ok h1 h2 r => h a H' m' (q.trans q') ok h1 h2 r
  | bk env g => exact fun σ' H' m' q' r => h σ' H' m' (q.trans q') r
  | ct env g => exact fun σ' H' m' q' r => h σ' H' m' (q.trans q') r
  | exc x env g => exact fun cl dx σ' H' m' q' r z => h cl dx σ' H' m' (q.trans q') r z
  | stuck => exact h
theorem SPost.ends {E E' : Ends} {r : SRes} {m : Mv} {H : Hp} (h : SPost S W E r m H) (h1 : ∀ σ H, E.nx σ H → E'.nx σ H) (h2 : ∀ v H, E.rt v H → E'.rt v H) (h3 : ∀ σ H, E.bk σ H → E'.bk σ H) (h4 : ∀ σ H, E.ct σ H → E'.ct σ H) : SPost S W E' r m H := by
  cases r with
  | nx env g => exact fun σ' H' m' q' r => h1 _ _ (h σ' H' m' q' r)
  | rt d g => exact fun v H' m' q' ok r => h2 _ _ (h v H' m' q' ok r)
  | rtO d g => exact fun a H' m' q' ok z1 z2 r => h2 _ _ (h a H' m' q' ok z1 z2 r)
  | bk env g => exact fun σ' H' m' q' r => h3 _ _ (h σ' H' m' q' r)
  | ct env g => exact fun σ' H' m' q' r => h4 _ _ (h σ' H' m' q' r)
  | exc x env g => exact h
  | stuck => exact h
/-! ### blocks -/
def sNil : Sd := fun env g => .nx env g
def sSeq (f h : Sd) : Sd := fun env g => match f env g with
  | .nx env' g' => h env' g'
  | r => r
theorem ss_nil : Pss X S W [] sNil := PSs.to pss_nil fun E σ H ⟨env, g, m, r, p⟩ => p σ H m (.refl m H) r
theorem SPost.seq {E : Ends} {f h : Sd} {env : Env} {g : Sto} {m : Mv} {H : Hp} (p : SPost S W E (sSeq f h env g) m H) : SPost S W { E with nx := TSv S W h E } (f env g) m H := by
  unfold sSeq at p
  cases q : f env g with
  | nx env' g' => rw [q] at p; exact fun σ' H' m' gr r => ⟨env', g', m', r, SPost.mono gr p⟩
  | rt d g' => rw [q] at p; exact p
  | rtO d g' => rw [q] at p; exact p
  | bk env' g' => rw [q] at p; exact p
  | ct env' g' => rw [q] at p; exact p
  | exc x env' g' => rw [q] at p; exact p
  | stuck => rw [q] at p; exact p
theorem ss_cons {st : Stmt} {rest : List Stmt} {f h : Sd} (h1 : Ps X S W st f) (h2 : Pss X S W rest h) : Pss X S W (st :: rest) (sSeq f h) :=
  PSs.to (pss_cons h1 h2) fun E σ H ⟨env, g, m, r, p⟩ => ⟨env, g, m, r, p.seq⟩
theorem ss_one {st : Stmt} {f : Sd} (h1 : Ps X S W st f) : Pss X S W [st] f := pss_one h1
theorem s_pass {pos : Pos} : Ps X S W (.Pass pos) sNil := PS.to ps_pass fun E σ H ⟨env, g, m, r, p⟩ => p σ H m (.refl m H) r
def sBreak : Sd := fun env g => .bk env g
def sCont : Sd := fun env g => .ct env g
theorem s_break {pos : Pos} : Ps X S W (.Break pos) sBreak := PS.to ps_break fun E σ H ⟨env, g, m, r, p⟩ => p σ H m (.refl m H) r
theorem s_cont {pos : Pos} : Ps X S W (.Continue pos) sCont := PS.to ps_continue fun E σ H ⟨env, g, m, r, p⟩ => p σ H m (.refl m H) r
/-! ### from an expression to a statement -/
def thenS {α : Type} (f : En α) (k : α → Env → Sto → SRes) : Sd := fun env g => match f env g with
  | .ok a g1 => k a env g1
  | .exc x g1 => .exc x env g1
  | .stuck => .stuck
/-- the value is there: what is left -/
theorem Tv.st {α α' : Type} {R : Hp → Mv → Hp → α → α' → Prop} {f : En α} {k : α → Env → Sto → SRes} {E : Ends} {σ : St} {H : Hp} (h : TSv S W (thenS f k) E σ H) {P : α' → Hp → Prop}
    (hk : ∀ env g0 g m0 m H1 a x, Rel S H σ env g0 m0 → Grow m0 H m H1 → Rel S H1 σ env g m → R H m H1 a x → SPost S W E (k a env g) m H1 → P x H1) : Tv S R W f σ H P := by
  obtain ⟨env, g, m, r, p⟩ := h
  refine ⟨env, g, m, r, ?_⟩
  unfold thenS at p
  cases q : f env g with
  | stuck => rw [q] at p; exact p
  | exc x g' =>
    rw [q] at p
    exact fun cl dx H' m' gr ok z => p cl dx σ H' m' (gr.s r.mem.muW) (r.grow gr ok) z
  | ok a g1 =>
    rw [q] at p
    intro x H1 m1 gr ok ra
    exact hk env g g1 m m1 H1 a x r gr (r.grow gr ok) ra (SPost.mono (gr.s r.mem.muW) p)
def sDo (f : E1) : Sd := thenS f fun _ env g => .nx env g
def sRet (f : E1) : Sd := thenS f fun d _ g => .rt d g
def sRetN : Sd := fun _ g => .rt .non g
def sIf (t : En Bool) (a b : Sd) : Sd := thenS t fun c env g => if c = true then a env g else b env g
theorem s_do {e : Expr} {f : E1} {pos : Pos} (he : Pe X S W e f) (hs : swapsWith e none pos.line X.env = pure false := by rfl) : Ps X S W (.Expr e pos) (sDo f) :=
  PS.to (ps_expr he hs) fun E σ H h => Tv.st (R := RT S) h fun env g0 g m0 m H1 a x r0 gr r1 ra p => p σ H1 m (.refl m H1) r1
theorem s_ret {e : Expr} {f : E1} {pos : Pos} (he : Pe X S W e f) : Ps X S W (.Return (some e) pos) (sRet f) :=
  PS.to (ps_ret he) fun E σ H h => Tv.st (R := RT S) h fun env g0 g m0 m H1 a x r0 gr r1 ra p => p x H1 m (.refl m H1) r1.mem ra
theorem s_retN {pos : Pos} : Ps X S W (.Return none pos) sRetN := PS.to ps_retN fun E σ H ⟨env, g, m, r, p⟩ => p .non H m (.refl m H) r.mem .non
theorem s_if {c : Expr} {a b : List Stmt} {t : En Bool} {f h : Sd} {pos : Pos} (hc : Pt X S W c t) (ha : Pss X S W a f) (hb : Pss X S W b h) : Ps X S W (.If c a b pos) (sIf t f h) :=
  PS.to (ps_if hc ha hb) fun E σ H q => Tv.st (R := RQ) q fun env g0 g m0 m H1 a x r0 gr r1 ra p => by
    have e : a = x := ra
    subst e
    cases a with
    | true => exact ⟨env, g, m, r1, p⟩
    | false => exact ⟨env, g, m, r1, p⟩
/-! ### names are stored -/
theorem Rel.set {H : Hp} {σ : St} {env : Env} {g : Sto} {m : Mv} (r : Rel S H σ env g m) (i : Nat) {d : D} {v : V} (h : Rr S m H d v) : Rel S H (σ.set i (some v)) (env.set i (.sh d)) g m := by
  refine ⟨r.mem, by simp [r.len], fun j s ov e1 e2 => ?_, fun j k d1 d2 a e1 e2 e3 e4 => ?_⟩
  · by_cases hj : i = j
    · subst hj
      have hl : i < env.length := by have := (List.getElem?_eq_some_iff.mp e1).1; simpa using this
      rw [List.getElem?_set_self hl] at e1
      rw [List.getElem?_set_self (by rw [r.len]; exact hl)] at e2
      cases e1; cases e2
      exact ⟨v, rfl, h⟩
    · rw [List.getElem?_set_ne hj] at e1 e2
      exact r.slot j s ov e1 e2
  · have hj : i ≠ j := fun z => by
      subst z
      have hl : i < env.length := by have := (List.getElem?_eq_some_iff.mp e1).1; simpa using this
      rw [List.getElem?_set_self hl] at e1
      cases e1
    have hk : i ≠ k := fun z => by
      subst z
      have hl : i < env.length := by have := (List.getElem?_eq_some_iff.mp e2).1; simpa using this
      rw [List.getElem?_set_self hl] at e2
      cases e2
    rw [List.getElem?_set_ne hj] at e1 e3
    rw [List.getElem?_set_ne hk] at e2 e4
    exact r.own j k d1 d2 a e1 e2 e3 e4
/-- .. with what is new and one's own -/
theorem Rel.setO {H : Hp} {σ : St} {env : Env} {g : Sto} {m : Mv} (r : Rel S H σ env g m) (i : Nat) {d : D} {a : Addr} (hw : a ∈ m.W) (hm : a ∉ m.mu) (h : Root S m H a d) (hn : ∀ (j : Nat) (d' : D), env[j]? = some (Slot.ow d') → σ[j]? = some (some (V.ref a)) → False) :
    Rel S H (σ.set i (some (.ref a))) (env.set i (.ow d)) g m := by
  refine ⟨r.mem, by simp [r.len], fun j s ov e1 e2 => ?_, fun j k d1 d2 b e1 e2 e3 e4 => ?_⟩
  · by_cases hj : i = j
    · subst hj
      have hl : i < env.length := by have := (List.getElem?_eq_some_iff.mp e1).1; simpa using this
      rw [List.getElem?_set_self hl] at e1
      rw [List.getElem?_set_self (by rw [r.len]; exact hl)] at e2
      cases e1; cases e2
      exact ⟨a, rfl, hw, hm, h⟩
    · rw [List.getElem?_set_ne hj] at e1 e2
      exact r.slot j s ov e1 e2
  · by_cases hj : i = j
    · subst hj
      have hl : i < env.length := by have := (List.getElem?_eq_some_iff.mp e1).1; simpa using this
      rw [List.getElem?_set_self (by rw [r.len]; exact hl)] at e3
      cases e3
      by_cases hk : i = k
      · exact hk
      · rw [List.getElem?_set_ne hk] at e2 e4
        exact (hn k d2 e2 e4).elim
    · rw [List.getElem?_set_ne hj] at e1 e3
      by_cases hk : i = k
      · subst hk
        have hl : i < env.length := by have := (List.getElem?_eq_some_iff.mp e2).1; simpa using this
        rw [List.getElem?_set_self (by rw [r.len]; exact hl)] at e4
        cases e4
        exact (hn j d1 e1 e3).elim
      · rw [List.getElem?_set_ne hk] at e2 e4
        exact r.own j k d1 d2 b e1 e2 e3 e4
/-- new things are no one's -/
theorem Rel.newO {H0 : Hp} {σ : St} {env : Env} {g0 : Sto} {m0 : Mv} (r : Rel S H0 σ env g0 m0) {a : Addr} (h : H0 a = none) : ∀ (j : Nat) (d' : D), env[j]? = some (Slot.ow d') → σ[j]? = some (some (V.ref a)) → False := fun j d' e1 e2 => by
  obtain ⟨b, e, hw, _, _⟩ := r.slot j _ _ e1 e2
  cases e
  have := r.mem.trk a (.inl hw); rw [h] at this; exact this
def sSet (i : Nat) (f : E1) : Sd := thenS f fun d env g => .nx (env.set i (.sh d)) g
def sSetO (i : Nat) (f : E1) : Sd := thenS f fun d env g => .nx (env.set i (.ow d)) g
theorem s_set {i : Nat} {x : Str} {e : Expr} {f : E1} {pos pos' : Pos} (hN : X.N.Nodup) (hi : X.N[i]? = some x) (hx : Loc X.env.scope x) (he : Pe X S W e f) (hs : swapsWith e (some (.Name x pos')) pos.line X.env = pure false := by rfl) (hf : X.fn x = true ∨ X.env.scope.names.lookup x = some .local := by first | exact .inl rfl | exact .inr rfl | assumption) :
    Ps X S W (.Assign [.Name x pos'] e pos) (sSet i f) :=
  PS.to (ps_set hN hi hx he hs hf) fun E σ H h => Tv.st (R := RT S) h fun env g0 g m0 m H1 a v r0 gr r1 ra p => p _ H1 m (.refl m H1) (r1.set i ra)
theorem s_setO {i : Nat} {x : Str} {e : Expr} {f : E1} {pos pos' : Pos} (hN : X.N.Nodup) (hi : X.N[i]? = some x) (hx : Loc X.env.scope x) (he : Pf X S W e f) (hs : swapsWith e (some (.Name x pos')) pos.line X.env = pure false := by rfl) (hf : X.fn x = true ∨ X.env.scope.names.lookup x = some .local := by first | exact .inl rfl | exact .inr rfl | assumption) :
    Ps X S W (.Assign [.Name x pos'] e pos) (sSetO i f) :=
  PS.to (ps_set hN hi hx he hs hf) fun E σ H h => Tv.st (R := RF S) h fun env g0 g m0 m H1 a v r0 gr r1 ⟨b, ev, hw, hm, hn, ro⟩ p => by
    subst ev
    exact p _ H1 m (.refl m H1) (r1.setO i hw hm ro (r0.newO hn))
/-! ### ownership of a name is given up -/
def unown1 (env : Env) (i : Nat) : Env := match env[i]? with
  | some (.ow d) => env.set i (.sh d)
  | _ => env
def unown : List Nat → Env → Env
  | [], env => env
  | i :: is, env => unown is (unown1 env i)
theorem Rel.un1 {H : Hp} {σ : St} {env : Env} {g : Sto} {m : Mv} (r : Rel S H σ env g m) (i : Nat) : ∃ m', GrowS m H m' H ∧ Rel S H σ (unown1 env i) g m' := by
  unfold unown1
  split
  · rename_i d e
    obtain ⟨ov, e1, a, rfl, hw, hm, ro⟩ := r.at e
    refine ⟨m.drop a, ⟨fun _ _ h _ => h, fun _ h => h, ⟨[], by simp [Mv.drop]⟩, fun _ h => .inl h, fun b hb => .inl (mem_drop.mp hb).1, rfl⟩, r.mem.drop hm, by simp [r.len], fun j s ov e2 e3 => ?_, fun j k d1 d2 b e2 e3 e4 e5 => ?_⟩
    · by_cases hj : i = j
      · subst hj
        have hl : i < env.length := (List.getElem?_eq_some_iff.mp e).1
        rw [List.getElem?_set_self hl] at e2
        rw [e1] at e3
        cases e2; cases e3
        exact ⟨.ref a, rfl, drop_rr r.mem hw ro⟩
      · rw [List.getElem?_set_ne hj] at e2
        have h := r.slot j s ov e2 e3
        cases s with
        | no => trivial
        | sh d' =>
          obtain ⟨v, e4, q⟩ := h
          exact ⟨v, e4, q.weak (fun _ => fr_drop) fun _ _ z => z⟩
        | ow d' =>
          obtain ⟨b, e4, q1, q2, q3⟩ := h
          refine ⟨b, e4, mem_drop.mpr ⟨q1, fun z => ?_⟩, q2, q3.weak (fun _ => fr_drop) fun _ _ z => z⟩
          subst z e4
          exact hj (r.own i j d d' b e e2 e1 e3)
    · have hj : i ≠ j := fun z => by
        subst z
        rw [List.getElem?_set_self (List.getElem?_eq_some_iff.mp e).1] at e2
        cases e2
      have hk : i ≠ k := fun z => by
        subst z
        rw [List.getElem?_set_self (List.getElem?_eq_some_iff.mp e).1] at e3
        cases e3
      rw [List.getElem?_set_ne hj] at e2
      rw [List.getElem?_set_ne hk] at e3
      exact r.own j k d1 d2 b e2 e3 e4 e5
  · exact ⟨m, .refl m H, r⟩
theorem Rel.un {H : Hp} {σ : St} {g : Sto} : ∀ (is : List Nat) {env : Env} {m : Mv}, Rel S H σ env g m → ∃ m', GrowS m H m' H ∧ Rel S H σ (unown is env) g m'
  | [], _, m, r => ⟨m, .refl m H, r⟩
  | i :: is, _, _, r => by
    obtain ⟨m1, q1, r1⟩ := r.un1 i
    obtain ⟨m2, q2, r2⟩ := Rel.un is r1
    exact ⟨m2, q1.trans q2, r2⟩
def sUn (is : List Nat) (f : Sd) : Sd := fun env g => f (unown is env) g
theorem s_un {st : Stmt} {f : Sd} (is : List Nat) (h : Ps X S W st f) : Ps X S W st (sUn is f) :=
  PS.to h fun E σ H ⟨env, g, m, r, p⟩ => by
    obtain ⟨m', q, r'⟩ := r.un is
    exact ⟨_, g, m', r', SPost.mono q p⟩
/-! ### what is one's own is changed -/
theorem grow_put {H : Hp} {m : Mv} {a : Addr} {o : HO} (hw : a ∈ m.W) : GrowS m H m (upd H a o) :=
  ⟨fun b u e n => by rw [upd_ne fun z => n (by rw [z]; exact hw)]; exact e, fun b e => by
    by_cases hb : b = a
    · subst hb; rw [upd_same] at e; cases e
    · rw [upd_ne hb] at e; exact e, ⟨[], by simp⟩, fun _ h => .inl h, fun _ h => .inl h, rfl⟩
theorem Rel.put {H : Hp} {σ : St} {env : Env} {g : Sto} {m : Mv} (r : Rel S H σ env g m) {i : Nat} {d d' : D} {a : Addr} {o : HO} (e : env[i]? = some (.ow d)) (es : σ[i]? = some (some (.ref a))) (mu : Mut (some o)) (ro : Root S m (upd H a o) a d') : Rel S (upd H a o) σ (env.set i (.ow d')) g m := by
  obtain ⟨a', ea, hw, hm, _⟩ := r.slot i _ _ e es
  cases ea
  have q : GrowS m H m (upd H a o) := grow_put hw
  have hl : i < env.length := (List.getElem?_eq_some_iff.mp e).1
  have ne : ∀ b, b ≠ a → ∀ u, H b = some u → upd H a o b = some u := fun b hb u h => by rw [upd_ne hb]; exact h
  have mt : ∀ b, Mut (H b) → Mut (upd H a o b) := fun b h => by
    by_cases hb : b = a
    · subst hb; rw [upd_same]; exact mu
    · rw [upd_ne hb]; exact h
  refine ⟨⟨r.mem.len, fun n d b e1 e2 => (r.mem.sto n d b e1 e2).grow r.mem q (ne b fun z => hm (z ▸ List.mem_of_getElem? e2)), r.mem.nd, r.mem.muW, fun b hb => mt b (r.mem.trk b hb), r.mem.dis⟩, by simp [r.len], fun j s ov e1 e2 => ?_, fun j k d1 d2 b e1 e2 e3 e4 => ?_⟩
  · by_cases hj : i = j
    · subst hj
      rw [List.getElem?_set_self hl] at e1
      rw [es] at e2
      cases e1; cases e2
      exact ⟨a, rfl, hw, hm, ro⟩
    · rw [List.getElem?_set_ne hj] at e1
      have h := r.slot j s ov e1 e2
      cases s with
      | no => trivial
      | sh d'' =>
        obtain ⟨v, e3, h⟩ := h
        exact ⟨v, e3, h.grow r.mem q⟩
      | ow d'' =>
        obtain ⟨b, e3, h1, h2, h3⟩ := h
        subst e3
        exact ⟨b, rfl, h1, h2, h3.grow r.mem q (ne b fun z => by subst z; exact hj (r.own i j d d'' b e e1 es e2))⟩
  · have z : ∀ (j : Nat) (d1 : D), (env.set i (.ow d'))[j]? = some (.ow d1) → ∃ d2, env[j]? = some (.ow d2) := fun j d1 h => by
      by_cases hj : i = j
      · subst hj; exact ⟨d, e⟩
      · rw [List.getElem?_set_ne hj] at h; exact ⟨d1, h⟩
    obtain ⟨x1, y1⟩ := z j d1 e1
    obtain ⟨x2, y2⟩ := z k d2 e2
    exact r.own j k x1 x2 b y1 y2 e3 e4
/-- x.append(e) -/
def putApp (i : Nat) (d : D) (env : Env) (g : Sto) : SRes := match env[i]? with
  | some (.ow (.lst xs)) => if xs.length < big then .nx (env.set i (.ow (.lst (xs ++ [d])))) g else .stuck
  | _ => .stuck
def isOwL (env : Env) (i : Nat) : Bool := match env[i]? with
  | some (.ow (.lst _)) => true
  | _ => false
def sAppend (i : Nat) (f : E1) : Sd := fun env g => if isOwL env i = true then thenS f (putApp i) env g else .stuck
theorem ow_lst {H : Hp} {σ : St} {env : Env} {g : Sto} {m : Mv} (r : Rel S H σ env g m) {i : Nat} {xs : List D} (e : env[i]? = some (.ow (.lst xs))) : ∃ a vs, σ[i]? = some (some (.ref a)) ∧ a ∈ m.W ∧ a ∉ m.mu ∧ H a = some (.lst vs) ∧ Rl S m H xs vs := by
  obtain ⟨ov, e1, a, rfl, hw, hm, ro⟩ := r.at e
  cases ro with
  | lst h rl => exact ⟨a, _, e1, hw, hm, h, rl⟩
theorem isOwL_ok {env : Env} {i : Nat} (h : isOwL env i = true) : ∃ xs, env[i]? = some (Slot.ow (.lst xs)) := by
  unfold isOwL at h
  split at h
  · rename_i xs e; exact ⟨xs, e⟩
  · cases h
theorem s_append {i : Nat} {o e : Expr} {f : E1} {apos cpos pos : Pos} (hv : PE X o (tVar i)) (he : Pe X S W e f) (hst : starEach [e] X.env = (false, eval e X.env) :: starEach [] X.env := by rfl)
    (hbase : attributeBase o "append" X.env (eval o X.env) = eval o X.env := by rfl) (hline : (apos.endLine == cpos.line) = true := by rfl) (hs : swapsWith (.Call (.Attribute o "append" apos) [e] [] cpos) none pos.line X.env = pure false := by rfl)
    (hfew : ((backTo cpos (starEach [e] X.env)).all (fun x => !x.1) && (backToKw cpos (keywordEach [] X.env)).all (fun x => x.1.isSome) && decide (([e] : List Expr).length + ([] : List Keyword).length + (if ([] : List Keyword).isEmpty then 0 else 1) < 30)) = true := by rfl) :
    Ps X S W (.Expr (.Call (.Attribute o "append" apos) [e] [] cpos) pos) (sAppend i f) :=
  PS.to (ps_expr (pe_bm PySem.F.plainAttrs_list PySem.F.slot_list_append PySem.F.type_list_append mt_append hv (pa_cons he pa_nil hst) hbase hfew hline hst) hs) fun E σ H ⟨env, g, m, r, p⟩ => by
    unfold sAppend at p
    split at p
    · rename_i hL
      obtain ⟨xs, e1⟩ := isOwL_ok hL
      obtain ⟨a, vs, es, hw, hm, hH, rl⟩ := ow_lst r e1
      refine ⟨.ref a, es, .inl ⟨rfl, _, SqL.of hH⟩, ?_⟩
      refine Tv.st (R := RT S) (k := putApp i) ⟨env, g, m, r, p⟩ fun env g0 g m0 m H1 d y r0 gr r1 ra p => ?_
      unfold putApp at p
      split at p
      · rename_i ys e2
        obtain ⟨a', vs', es', hw', hm', hH', rl'⟩ := ow_lst r1 e2
        rw [es] at es'
        cases es'
        split at p
        · rename_i c
          have q : GrowS m H1 m (upd H1 a (.lst (vs' ++ [y]))) := grow_put hw'
          refine ⟨a, vs', y, rfl, rfl, hH', by rw [← rl'.length]; exact big_lt c, p _ _ m q (r1.put e2 es trivial (.lst upd_same ?_))⟩
          exact Rl.append (Rl.grow r1.mem q rl') (.cons (Rr.grow r1.mem q ra) .nil)
        · exact p.elim
      · exact p.elim
    · exact p.elim
/-- x.extend(e), e a list -/
def putExt (i : Nat) (d : D) (env : Env) (g : Sto) : SRes := match env[i]?, d with
  | some (.ow (.lst xs)), .lst ys => if xs.length + ys.length ≤ big then .nx (env.set i (.ow (.lst (xs ++ ys)))) g else .stuck
  | _, _ => .stuck
def sExtend (i : Nat) (f : E1) : Sd := fun env g => if isOwL env i = true then thenS f (putExt i) env g else .stuck
theorem s_extend {i : Nat} {o e : Expr} {f : E1} {apos cpos pos : Pos} (hv : PE X o (tVar i)) (he : Pe X S W e f) (hst : starEach [e] X.env = (false, eval e X.env) :: starEach [] X.env := by rfl)
    (hbase : attributeBase o "extend" X.env (eval o X.env) = eval o X.env := by rfl) (hline : (apos.endLine == cpos.line) = true := by rfl) (hs : swapsWith (.Call (.Attribute o "extend" apos) [e] [] cpos) none pos.line X.env = pure false := by rfl)
    (hfew : ((backTo cpos (starEach [e] X.env)).all (fun x => !x.1) && (backToKw cpos (keywordEach [] X.env)).all (fun x => x.1.isSome) && decide (([e] : List Expr).length + ([] : List Keyword).length + (if ([] : List Keyword).isEmpty then 0 else 1) < 30)) = true := by rfl) :
    Ps X S W (.Expr (.Call (.Attribute o "extend" apos) [e] [] cpos) pos) (sExtend i f) :=
  PS.to (ps_expr (pe_bm PySem.F.plainAttrs_list PySem.F.slot_list_extend PySem.F.type_list_extend mt_extend hv (pa_cons he pa_nil hst) hbase hfew hline hst) hs) fun E σ H ⟨env, g, m, r, p⟩ => by
    unfold sExtend at p
    split at p
    · rename_i hL
      obtain ⟨xs, e1⟩ := isOwL_ok hL
      obtain ⟨a, vs, es, hw, hm, hH, rl⟩ := ow_lst r e1
      refine ⟨.ref a, es, .inl ⟨rfl, _, SqL.of hH⟩, ?_⟩
      refine Tv.st (R := RT S) (k := putExt i) ⟨env, g, m, r, p⟩ fun env g0 g m0 m H1 d y r0 gr r1 ra p => ?_
      unfold putExt at p
      split at p
      · rename_i ys zs e2
        obtain ⟨a', vs', es', hw', hm', hH', rl'⟩ := ow_lst r1 e2
        rw [es] at es'
        cases es'
        cases ra with
        | @lst b ws _ hb fb rb =>
          split at p
          · rename_i c
            have q : GrowS m H1 m (upd H1 a (.lst (vs' ++ ws))) := grow_put hw'
            refine ⟨a, b, vs', ws, rfl, rfl, hH', hb, by rw [← rl'.length, ← rb.length]; exact big_line c, p _ _ m q (r1.put e2 es trivial (.lst upd_same ?_))⟩
            exact Rl.append (Rl.grow r1.mem q rl') (Rl.grow r1.mem q rb)
          · exact p.elim
      · exact p.elim
    · exact p.elim
/-! ### targets -/
abbrev Tg := D → Env → Option Env
/-- but for the places ws the slots are as they were -/
def But (ws : List Nat) (σ σ' : St) : Prop := σ'.length = σ.length ∧ ∀ j, j ∉ ws → σ'[j]? = σ[j]?
def TGv (S : Stat) (ws : List Nat) (f : Tg) : TG := fun v σ H Q => ∃ env g m d, Rel S H σ env g m ∧ Rr S m H d v ∧ match f d env with
  | some env' => ∀ σ', Rel S H σ' env' g m → But ws σ σ' → Q σ' H
  | none => False
abbrev Pg (X : Cx) (S : Stat) (ws : List Nat) (e : Expr) (f : Tg) : Prop := PG X e (TGv S ws f)
theorem PG.to {e : Expr} {t t' : TG} (h : PG X e t) (i : ∀ v σ H Q, t' v σ H Q → t v σ H Q) : PG X e t' := ⟨fun pins s σ H v u Q I r q => h.run pins s σ H v u Q I r (i v σ H Q q)⟩
def tgN (i : Nat) : Tg := fun d env => some (env.set i (.sh d))
theorem g_name {i : Nat} {x : Str} {pos : Pos} (hN : X.N.Nodup) (hi : X.N[i]? = some x) (hx : Loc X.env.scope x) (hf : X.fn x = true ∨ X.env.scope.names.lookup x = some .local := by first | exact .inl rfl | exact .inr rfl | assumption) : Pg X S [i] (.Name x pos) (tgN i) :=
  PG.to (pg_name hN hi hx hf) fun v σ H Q ⟨env, g, m, d, r, rd, p⟩ => p _ (r.set i rd) ⟨by simp, fun j hj => List.getElem?_set_ne fun z => hj (by simp [z])⟩
/-- several targets, one after another -/
abbrev Tgs := List D → Env → Option Env
def TGsv (S : Stat) (ws : List Nat) (f : Tgs) : TGs := fun vs σ H Q => ∃ env g m ds, Rel S H σ env g m ∧ Rl S m H ds vs ∧ match f ds env with
  | some env' => ∀ σ', Rel S H σ' env' g m → But ws σ σ' → Q σ' H
  | none => False
abbrev Pgs (X : Cx) (S : Stat) (ws : List Nat) (e : List Expr) (f : Tgs) : Prop := PGs X e (TGsv S ws f)
theorem PGs.to {e : List Expr} {t t' : TGs} (h : PGs X e t) (i : ∀ v σ H Q, t' v σ H Q → t v σ H Q) : PGs X e t' := ⟨fun pins s σ H v u Q I r q => h.run pins s σ H v u Q I r (i v σ H Q q)⟩
def tgNil : Tgs := fun ds env => match ds with
  | [] => some env
  | _ => none
def tgCons (f : Tg) (fs : Tgs) : Tgs := fun ds env => match ds with
  | d :: r => match f d env with
    | some env' => fs r env'
    | none => none
  | [] => none
theorem gs_nil : Pgs X S [] [] tgNil := PGs.to pgs_nil fun vs σ H Q ⟨env, g, m, ds, r, rl, p⟩ => by
  cases rl with
  | nil => exact ⟨rfl, p σ r ⟨rfl, fun _ _ => rfl⟩⟩
  | cons _ _ => exact p.elim
theorem gs_cons {e : Expr} {es : List Expr} {f : Tg} {fs : Tgs} {ws vs : List Nat} (h1 : Pg X S ws e f) (h2 : Pgs X S vs es fs) (hs : (assignEach (e :: es) X.env).map (·.2) = assign e X.env :: (assignEach es X.env).map (·.2) := by rfl) : Pgs X S (ws ++ vs) (e :: es) (tgCons f fs) :=
  PGs.to (pgs_cons h1 h2 hs) fun vs σ H Q ⟨env, g, m, ds, r, rl, p⟩ => by
    cases rl with
    | nil => exact p.elim
    | @cons d v ds vs rd rt =>
      refine ⟨v, vs, rfl, env, g, m, d, r, rd, ?_⟩
      simp only [tgCons] at p
      cases q : f d env with
      | none => rw [q] at p; exact p.elim
      | some env' =>
        rw [q] at p
        refine fun σ' r' b => ⟨env', g, m, ds, r', rt, ?_⟩
        dsimp only at p
        cases q2 : fs ds env' with
        | none => rw [q2] at p; exact p
        | some env2 =>
          rw [q2] at p
          exact fun σ2 r2 b2 => p σ2 r2 ⟨b2.1.trans b.1, fun j hj => (b2.2 j fun z => hj (List.mem_append_right _ z)).trans (b.2 j fun z => hj (List.mem_append_left _ z))⟩
def tgT (n : Nat) (fs : Tgs) : Tg := fun d env => match d with
  | .tup ds => if ds.length = n then fs ds env else none
  | _ => none
theorem g_tup {es : List Expr} {k n : Nat} {fs : Tgs} {ws : List Nat} {pos : Pos} (hK : S.K = X.K) (hc : X.calm = true) (h : Pgs X S ws es fs) (hn : (assignEach es X.env).length = n := by rfl) (hst : (assignEach es X.env).findIdx? (·.1) = none := by rfl) : Pg X S ws (.Tuple es k pos) (tgT n fs) :=
  PG.to (pg_tup hc h hn hst) fun v σ H Q ⟨env, g, m, d, r, rd, p⟩ => by
    cases rd with
    | @tup a vs ds hs rl =>
      simp only [tgT] at p
      by_cases c : ds.length = n
      · rw [if_pos c] at p
        exact ⟨a, vs, rfl, SqT.of hs, by rw [← rl.length]; exact c, env, g, m, ds, r, rl, p⟩
      · rw [if_neg c] at p; exact p.elim
    | _ => exact p.elim
/-- target = e -/
def sAsg (f : E1) (tg : Tg) : Sd := thenS f fun d env g => match tg d env with
  | some env' => .nx env' g
  | none => .stuck
theorem s_asg {tg e : Expr} {f : E1} {t : Tg} {ws : List Nat} {pos : Pos} (he : Pe X S W e f) (hg : Pg X S ws tg t) (hs : swapsWithSole [tg] e pos.line X.env = pure false := by rfl) (hw : swappedStores [tg] e X.env = pure none := by rfl)
    (h1 : (assignEach [tg] X.env).map (·.2) = [assign tg X.env] := by rfl) : Ps X S W (.Assign [tg] e pos) (sAsg f t) :=
  PS.to (ps_asg he hg hs hw h1) fun E σ H h => Tv.st (R := RT S) h fun env g0 g m0 m H1 a v r0 gr r1 ra p => by
    refine ⟨env, g, m, a, r1, ra, ?_⟩
    cases q : t a env with
    | none => simp only [q] at p; exact p.elim
    | some env' => simp only [q] at p; exact fun σ' r' _ => p σ' H1 m (.refl m H1) r'
/-- a, b = e1, e2 -/
def sPar (i j : Nat) (f h : E1) : Sd := thenS (eCons f (eCons h eNil)) fun ds env g => match ds with
  | [a, b] => .nx ((env.set i (.sh a)).set j (.sh b)) g
  | _ => .stuck
theorem s_par {i j : Nat} {x y : Str} {a b : Expr} {f h : E1} {px py pt pos : Pos} {kt k2 pt2} (hc : X.calm = true) (hN : X.N.Nodup) (hi : X.N[i]? = some x) (hj : X.N[j]? = some y) (hij : i ≠ j)
    (hx : X.env.scope.names.lookup x = some .local) (hy : X.env.scope.names.lookup y = some .local) (ha : Pe X S W a f) (hb : Pe X S W b h)
    (hw : swappedStores [.Tuple [.Name x px, .Name y py] kt pt] (.Tuple [a, b] k2 pt2) X.env = pure (some [x, y]))
    (hst : starEach [a, b] X.env = (false, eval a X.env) :: starEach [b] X.env := by rfl) (hst2 : starEach [b] X.env = (false, eval b X.env) :: starEach [] X.env := by rfl)
    (hs : swapsWithSole [.Tuple [.Name x px, .Name y py] kt pt] (.Tuple [a, b] k2 pt2) pos.line X.env = pure false := by rfl) :
    Ps X S W (.Assign [.Tuple [.Name x px, .Name y py] kt pt] (.Tuple [a, b] k2 pt2) pos) (sPar i j f h) :=
  PS.to (ps_par hc hN hi hj hij hx hy (a_cons ha (a_cons hb a_nil hst2) hst) hw hs) fun E σ H q => Tv.st (R := RL S) q fun env g0 g m0 m H1 ds vs r0 gr r1 ra p => by
    have ra : Rl S m H1 ds vs := ra
    cases ra with
    | nil => exact p.elim
    | cons r2 rt =>
      cases rt with
      | nil => exact p.elim
      | cons r3 rt =>
        cases rt with
        | nil => exact ⟨_, _, rfl, p _ H1 m (.refl m H1) ((r1.set i r2).set j r3)⟩
        | cons _ _ => exact p.elim
/-! ### while -/
def whileL (t : En Bool) (body : Sd) : Nat → Env → Sto → SRes
  | 0, _, _ => .stuck
  | n + 1, env, g => thenS t (fun c env g => if c = true then (match body env g with
      | .nx env' g' => whileL t body n env' g'
      | .ct env' g' => whileL t body n env' g'
      | .bk env' g' => .nx env' g'
      | r => r) else .nx env g) env g
def sWhile (n : Nat) (t : En Bool) (body : Sd) : Sd := whileL t body n
theorem s_while {c : Expr} {b : List Stmt} {t : En Bool} {body : Sd} {pos : Pos} (n : Nat) (hp : PassesOwn (model X.prog X.w) X.A X.env X.xe) (hc : Pt X S W c t) (hb : Pss X S W b body) : Ps X S W (.While c b [] pos) (sWhile n t body) :=
  PS.to (ps_while hp hc hb) fun E σ H ⟨env, g, m, r, p⟩ => by
    refine ⟨fun k σ H => ∃ env g m, Rel S H σ env g m ∧ SPost S W E (whileL t body k env g) m H, ⟨n, env, g, m, r, p⟩, fun k σ H ⟨env, g, m, r, p⟩ => ?_⟩
    cases k with
    | zero => exact p.elim
    | succ k =>
      refine Tv.st (R := RQ) ⟨env, g, m, r, p⟩ fun env g0 g m0 m H1 a x r0 gr r1 ra p => ?_
      have e : a = x := ra
      subst e
      cases a with
      | false => exact p σ H1 m (.refl m H1) r1
      | true =>
        refine ⟨fun σ H => ∃ env g m, Rel S H σ env g m ∧ SPost S W E (whileL t body k env g) m H, fun σ' H' h => ⟨k, Nat.lt_succ_self k, h⟩, env, g, m, r1, ?_⟩
        simp only [if_true] at p
        cases q : body env g with
        | nx env' g' => rw [q] at p; exact fun σ' H' m' gr' r' => ⟨env', g', m', r', SPost.mono gr' p⟩
        | ct env' g' => rw [q] at p; exact fun σ' H' m' gr' r' => ⟨env', g', m', r', SPost.mono gr' p⟩
        | bk env' g' => rw [q] at p; exact p
        | rt d g' => rw [q] at p; exact p
        | rtO d g' => rw [q] at p; exact p
        | exc x env' g' => rw [q] at p; exact p
        | stuck => rw [q] at p; exact p
/-! ### what a for, a comprehension walks -/
/-- the iterator gives the items ds, one after another, whatever others do meanwhile -/
def Yields (S : Stat) (J : It) (m : Mv) (H : Hp) (ds : List D) : Prop := ∀ (m1 : Mv) (H1 : Hp) (g1 : Sto), GrowS m H m1 H1 → MOk S H1 g1 m1 →
  (∀ (i : Nat) (d : D), ds[i]? = some d → J.go i H1 ∧ ∀ x H2, J.yld i H1 x H2 → Grow m1 H1 m1 H2 ∧ MOk S H2 g1 m1 ∧ Rr S m1 H2 d x) ∧ J.stop ds.length H1
def TIv (S : Stat) (W : WX) (f : En (List D)) : TI := fun σ H R => ∃ env g m, Rel S H σ env g m ∧ match f env g with
  | .ok ds g' => ∀ J H' m', Grow m H m' H' → MOk S H' g' m' → Yields S J m' H' ds → R J H'
  | .exc x g' => ∀ cl dx H' m', Grow m H m' H' → MOk S H' g' m' → XRd S m' H' x cl dx → W cl dx σ H'
  | .stuck => False
abbrev Pi (X : Cx) (S : Stat) (W : WX) (tg e : Expr) (f : En (List D)) : Prop := PI X tg e (TIv S W f)
theorem PI.to {tg e : Expr} {t t' : TI} (h : PI X tg e t) (i : ∀ σ H R, t' σ H R → t σ H R) : PI X tg e t' := ⟨fun pins s σ H R I q => h.run pins s σ H R I (i σ H R q)⟩
theorem PI.or {tg e : Expr} {t t' : TI} (h : PI X tg e t) (h' : PI X tg e t') : PI X tg e (fun σ H R => t σ H R ∨ t' σ H R) := ⟨fun pins s σ H R I q => q.elim (h.run pins s σ H R I) (h'.run pins s σ H R I)⟩
/-- for target in it: body -/
def forL (tg : Tg) (body : Sd) : List D → Env → Sto → SRes
  | [], env, g => .nx env g
  | d :: ds, env, g => match tg d env with
    | none => .stuck
    | some env1 => match body env1 g with
      | .nx env' g' => forL tg body ds env' g'
      | .ct env' g' => forL tg body ds env' g'
      | .bk env' g' => .nx env' g'
      | r => r
def sFor (it : En (List D)) (tg : Tg) (body : Sd) : Sd := thenS it (forL tg body)
theorem s_for {tg iter : Expr} {ws : List Nat} {b : List Stmt} {it : En (List D)} {t : Tg} {body : Sd} {pos : Pos} (hp : PassesOwn (model X.prog X.w) X.A X.env X.xe) (hc : X.calm = true) (hi : Pi X S W tg iter it) (hg : Pg X S ws tg t) (hb : Pss X S W b body)
    (hs : ∀ x, foldedSetIterable iter X.env x = pure x := by intro _; rfl) : Ps X S W (.For tg iter b [] pos) (sFor it t body) :=
  PS.to (ps_for hp hc hi hg hb hs) fun E σ H ⟨env, g, m, r, p⟩ => by
    refine ⟨env, g, m, r, ?_⟩
    unfold sFor thenS at p
    cases q : it env g with
    | stuck => rw [q] at p; exact p
    | exc x g' =>
      rw [q] at p
      exact fun cl dx H' m' gr ok z => p cl dx σ H' m' (gr.s r.mem.muW) (r.grow gr ok) z
    | ok ds g1 =>
      rw [q] at p
      intro J H1 m1 gr ok yl
      have r1 := r.grow gr ok
      have p1 : SPost S W E (forL t body ds env g1) m1 H1 := SPost.mono (gr.s r.mem.muW) p
      refine ⟨fun i k σ H => k = ds.length - i ∧ i ≤ ds.length ∧ ∃ env g m, Rel S H σ env g m ∧ GrowS m1 H1 m H ∧ SPost S W E (forL t body (ds.drop i) env g) m H, ⟨ds.length, by simp, Nat.zero_le _, env, g1, m1, r1, .refl _ _, by simpa using p1⟩, ?_⟩
      rintro i k σ H ⟨rfl, hi, env, g, m, r, gr0, p⟩
      obtain ⟨y1, y2⟩ := yl m H g gr0 r.mem
      by_cases hlt : i < ds.length
      · have hd : ds[i]? = some ds[i] := by simp [hlt]
        obtain ⟨go, yd⟩ := y1 i _ hd
        have ed : ds.drop i = ds[i] :: ds.drop (i + 1) := List.drop_eq_getElem_cons hlt
        rw [ed] at p
        refine .inr ⟨go, fun σ H => ∃ env g m, Rel S H σ env g m ∧ GrowS m1 H1 m H ∧ SPost S W E (forL t body (ds.drop (i + 1)) env g) m H, fun σ' H' h => ⟨ds.length - (i + 1), by omega, rfl, hlt, h⟩, fun x H' hy => ?_⟩
        obtain ⟨gr2, ok2, rx⟩ := yd x H' hy
        have r2 := r.grow gr2 ok2
        refine ⟨env, g, m, ds[i], r2, rx, ?_⟩
        simp only [forL] at p
        cases q2 : t ds[i] env with
        | none => rw [q2] at p; exact p.elim
        | some env1 =>
          rw [q2] at p
          intro σ' r3 _
          have g3 : GrowS m1 H1 m H' := gr0.trans (gr2.s r.mem.muW)
          have p3 := SPost.mono (gr2.s r.mem.muW) p
          refine ⟨env1, g, m, r3, ?_⟩
          dsimp only at p3
          cases q3 : body env1 g with
          | nx env' g' => rw [q3] at p3; exact fun σ' H' m' gr' r' => ⟨env', g', m', r', g3.trans gr', SPost.mono gr' p3⟩
          | ct env' g' => rw [q3] at p3; exact fun σ' H' m' gr' r' => ⟨env', g', m', r', g3.trans gr', SPost.mono gr' p3⟩
          | bk env' g' => rw [q3] at p3; exact p3
          | rt d g' => rw [q3] at p3; exact p3
          | rtO d g' => rw [q3] at p3; exact p3
          | exc x env' g' => rw [q3] at p3; exact p3
          | stuck => rw [q3] at p3; exact p3
      · have e : i = ds.length := by omega
        subst e
        rw [List.drop_length] at p
        exact .inl ⟨y2, p σ H m (.refl m H) r⟩
end
end Ev
namespace Ev
open PySem PySem.Spec PyProof.Rows L2
section
variable {X : Cx} {S : Stat} {W : WX}
/-! ### lists, tuples, texts, ranges are walked -/
def signs (z : Str) : List D := z.cps.toList.map fun c => .str ⟨#[c]⟩
def itemsOf : D → Option (List D)
  | .lst xs => some xs
  | .tup xs => some xs
  | .ctup xs => some xs
  | .frz xs => some xs
  | .str z => some (signs z)
  | _ => none
def sIter : D → Sto → Res (List D) := fun d g => match itemsOf d with
  | some ds => .ok ds g
  | none => .stuck
theorem yields_list {a : Addr} {m : Mv} {H : Hp} {ds : List D} (h : ∀ (m1 : Mv) (H1 : Hp) (g1 : Sto), GrowS m H m1 H1 → MOk S H1 g1 m1 → ∃ vs, SqL S.K H1 a vs ∧ Rl S m1 H1 ds vs) : Yields S (Itl S.K a) m H ds := fun m1 H1 g1 q ok => by
  obtain ⟨vs, hs, rl⟩ := h m1 H1 g1 q ok
  refine ⟨fun i d hd => ?_, vs, hs, by rw [rl.length]; exact Nat.le_refl _⟩
  obtain ⟨v, e1, e2⟩ := rl.get hd
  refine ⟨⟨vs, v, hs, e1⟩, fun x H2 ⟨e, f⟩ => ?_⟩
  subst e
  have e3 := f vs hs
  rw [e1] at e3
  cases e3
  exact ⟨.refl _ _, ok, e2⟩
theorem yields_tup {a : Addr} {m : Mv} {H : Hp} {ds : List D} (h : ∀ (m1 : Mv) (H1 : Hp) (g1 : Sto), GrowS m H m1 H1 → MOk S H1 g1 m1 → ∃ vs, SqT S.K H1 a vs ∧ Rl S m1 H1 ds vs) : Yields S (Itt S.K a) m H ds := fun m1 H1 g1 q ok => by
  obtain ⟨vs, hs, rl⟩ := h m1 H1 g1 q ok
  refine ⟨fun i d hd => ?_, vs, hs, by rw [rl.length]; exact Nat.le_refl _⟩
  obtain ⟨v, e1, e2⟩ := rl.get hd
  refine ⟨⟨vs, v, hs, e1⟩, fun x H2 ⟨e, f⟩ => ?_⟩
  subst e
  have e3 := f vs hs
  rw [e1] at e3
  cases e3
  exact ⟨.refl _ _, ok, e2⟩
theorem yields_str {z : Str} {m : Mv} {H : Hp} : Yields S (Its z) m H (signs z) := fun m1 H1 g1 q ok => by
  refine ⟨fun i d hd => ?_, by show z.cps.size ≤ (signs z).length; simp [signs]⟩
  unfold signs at hd
  rw [List.getElem?_map] at hd
  obtain ⟨c, hc, rfl⟩ := Option.map_eq_some_iff.mp hd
  have hc' : z.cps[i]? = some c := by simpa using hc
  refine ⟨(Array.getElem?_eq_some_iff.mp hc').1, fun x H2 ⟨e, c', e1, e2⟩ => ?_⟩
  subst e e2
  rw [hc'] at e1
  cases e1
  exact ⟨.refl _ _, ok, .str _⟩
theorem yields_rng {lo : Int} {n : Nat} {m : Mv} {H : Hp} : Yields S (Itr lo n) m H ((List.range n).map fun i => D.int (lo + (i : Nat))) := fun m1 H1 g1 q ok => by
  refine ⟨fun i d hd => ?_, by show n ≤ _; simp⟩
  rw [List.getElem?_map] at hd
  obtain ⟨c, hc, rfl⟩ := Option.map_eq_some_iff.mp hd
  obtain ⟨h1, h2⟩ := List.getElem?_eq_some_iff.mp hc
  have h1' : i < n := by simpa using h1
  have e : c = i := by rw [← h2]; simp
  subst e
  refine ⟨h1', fun x H2 ⟨e, e2⟩ => ?_⟩
  subst e e2
  exact ⟨.refl _ _, ok, .int _⟩
theorem i_seq {tg e : Expr} {f : E1} (hK : S.K = X.K) (he : Pe X S W e f) : Pi X S W tg e (eU sIter f) :=
  PI.to (PI.or (pi_list he) (PI.or (pi_tup he) (pi_str he))) fun σ H R ⟨env, g, m, r, p⟩ => by
    unfold eU at p
    cases q : f env g with
    | stuck => rw [q] at p; exact p.elim
    | exc x g' => rw [q] at p; exact .inl ⟨env, g, m, r, by rw [q]; exact p⟩
    | ok d g1 =>
      rw [q] at p
      cases d with
      | lst xs =>
        refine .inl ⟨env, g, m, r, ?_⟩
        rw [q]
        intro v H1 m1 gr ok ra
        obtain ⟨a, vs, rfl, hs, rl⟩ := Rr.lst_inv ra
        refine ⟨a, rfl, ⟨vs, hK ▸ hs⟩, hK ▸ p _ H1 m1 gr ok (yields_list fun m2 H2 g2 q2 ok2 => ?_)⟩
        have ra2 := Rr.grow ok q2 ra
        obtain ⟨a2, vs2, e, hs2, rl2⟩ := ra2.lst_inv
        cases e
        exact ⟨vs2, hs2, rl2⟩
      | frz xs =>
        refine .inl ⟨env, g, m, r, ?_⟩
        rw [q]
        intro v H1 m1 gr ok ra
        have ra : Rr S m1 H1 (.frz xs) v := ra
        cases ra with
        | @frz a vs _ hs rl =>
          refine ⟨a, rfl, ⟨vs, hK ▸ hs.sq⟩, hK ▸ p _ H1 m1 gr ok (yields_list fun m2 H2 g2 q2 ok2 => ?_)⟩
          have ra2 := Rr.grow ok q2 (Rr.frz hs rl)
          cases ra2 with
          | frz hs2 rl2 => exact ⟨_, hs2.sq, rl2⟩
      | tup xs =>
        refine .inr (.inl ⟨env, g, m, r, ?_⟩)
        rw [q]
        intro v H1 m1 gr ok ra
        obtain ⟨a, vs, rfl, hs, rl⟩ := Rr.tup_inv ra
        refine ⟨a, rfl, ⟨vs, hK ▸ hs⟩, hK ▸ p _ H1 m1 gr ok (yields_tup fun m2 H2 g2 q2 ok2 => ?_)⟩
        have ra2 := Rr.grow ok q2 ra
        obtain ⟨a2, vs2, e, hs2, rl2⟩ := ra2.tup_inv
        cases e
        exact ⟨vs2, hs2, rl2⟩
      | ctup xs =>
        refine .inr (.inl ⟨env, g, m, r, ?_⟩)
        rw [q]
        intro v H1 m1 gr ok ra
        obtain ⟨a, vs, rfl, hs, rl⟩ := Rr.ctup_inv ra
        refine ⟨a, rfl, ⟨vs, hK ▸ hs⟩, hK ▸ p _ H1 m1 gr ok (yields_tup fun m2 H2 g2 q2 ok2 => ?_)⟩
        have ra2 := Rr.grow ok q2 ra
        obtain ⟨a2, vs2, e, hs2, rl2⟩ := ra2.ctup_inv
        cases e
        exact ⟨vs2, hs2, rl2⟩
      | str z =>
        refine .inr (.inr ⟨env, g, m, r, ?_⟩)
        rw [q]
        intro v H1 m1 gr ok ra
        have ra : Rr S m1 H1 (.str z) v := ra
        exact ⟨z, ra.str_inv, p _ H1 m1 gr ok yields_str⟩
      | _ => exact p.elim
def sRng : D → D → Sto → Res (List D)
  | .int i, .int j, g => if -1000000 ≤ i ∧ i ≤ 1000000 ∧ -1000000 ≤ j ∧ j ≤ 1000000 then .ok ((List.range (j - i).toNat).map fun k => D.int (i + (k : Nat))) g else .stuck
  | _, _, _ => .stuck
theorem i_range1 {tg a : Expr} {f : E1} {p pos : Pos} (hg : Gl X "range") (hm : X.mg "range" = none) (ha : Pe X S W a f) (hs : starEach [a] X.env = [(false, eval a X.env)] := by rfl) : Pi X S W tg (.Call (.Name "range" p) [a] [] pos) (eU (fun d g => sRng (.int 0) d g) f) :=
  PI.to (pi_range1 hg hm (pa_cons ha pa_nil hs) hs) fun σ H R ⟨env, g, m, r, p⟩ => by
    refine ⟨env, g, m, r, ?_⟩
    unfold eU at p
    cases q : f env g with
    | stuck => rw [q] at p; exact p.elim
    | exc x g' => rw [q] at p; exact p
    | ok d g1 =>
      rw [q] at p
      intro v H1 m1 gr ok ra
      have ra : Rr S m1 H1 d v := ra
      cases d with
      | int j =>
        have e := ra.int_inv
        subst e
        simp only [Res.bind, sRng] at p
        by_cases c : -1000000 ≤ (0 : Int) ∧ (0 : Int) ≤ 1000000 ∧ -1000000 ≤ j ∧ j ≤ 1000000
        · rw [if_pos c] at p
          refine ⟨j, rfl, by omega, by omega, p _ H1 m1 gr ok ?_⟩
          have e : j - 0 = j := by omega
          rw [e]
          exact yields_rng
        · rw [if_neg c] at p; exact p.elim
      | _ => exact p.elim
theorem i_range2 {tg a b : Expr} {f h : E1} {p pos : Pos} (hg : Gl X "range") (hm : X.mg "range" = none) (ha : Pe X S W a f) (hb : Pe X S W b h) (hs : starEach [a, b] X.env = [(false, eval a X.env), (false, eval b X.env)] := by rfl) (hs2 : starEach [b] X.env = [(false, eval b X.env)] := by rfl) (hs3 : starEach [a, b] X.env = (false, eval a X.env) :: starEach [b] X.env := by rfl) :
    Pi X S W tg (.Call (.Name "range" p) [a, b] [] pos) (eB sRng f h) :=
  PI.to (pi_range2 hg hm (a_cons ha (a_cons hb a_nil hs2) hs3) hs hs2) fun σ H R ⟨env, g, m, r, p⟩ => by
    refine ⟨env, g, m, r, ?_⟩
    unfold eB at p
    unfold eCons eB
    cases q : f env g with
    | stuck => rw [q] at p; exact p.elim
    | exc x g' => rw [q] at p; exact p
    | ok d g1 =>
      rw [q] at p
      simp only [Res.bind] at p ⊢
      cases q2 : h env g1 with
      | stuck => rw [q2] at p; exact p.elim
      | exc x g' => rw [q2] at p; exact p
      | ok d2 g2 =>
        rw [q2] at p
        simp only [Res.bind, eNil] at p ⊢
        intro vs H1 m1 gr ok ra
        have ra : Rl S m1 H1 [d, d2] vs := ra
        cases ra with
        | cons r1 rt =>
          cases rt with
          | cons r2 rt2 =>
            cases rt2
            cases d with
            | int i =>
              cases d2 with
              | int j =>
                rw [r1.int_inv, r2.int_inv]
                simp only [sRng] at p
                by_cases c : -1000000 ≤ i ∧ i ≤ 1000000 ∧ -1000000 ≤ j ∧ j ≤ 1000000
                · rw [if_pos c] at p
                  exact ⟨i, j, rfl, ⟨by omega, by omega, by omega, by omega⟩, p _ H1 m1 gr ok yields_rng⟩
                · rw [if_neg c] at p; exact p.elim
              | _ => exact p.elim
            | _ => cases d2 <;> exact p.elim
/-! ### comprehensions -/
def wipeE (env : Env) : List Nat → Env
  | [] => env
  | v :: vs => (wipeE env vs).set v .no
theorem Rel.no {H : Hp} {σ : St} {env : Env} {g : Sto} {m : Mv} (r : Rel S H σ env g m) (i : Nat) : Rel S H (σ.set i none) (env.set i .no) g m := by
  refine ⟨r.mem, by simp [r.len], fun j s ov e1 e2 => ?_, fun j k d1 d2 a e1 e2 e3 e4 => ?_⟩
  · by_cases hj : i = j
    · subst hj
      have hl : i < env.length := by have := (List.getElem?_eq_some_iff.mp e1).1; simpa using this
      rw [List.getElem?_set_self hl] at e1
      cases e1
      trivial
    · rw [List.getElem?_set_ne hj] at e1 e2
      exact r.slot j s ov e1 e2
  · have z : ∀ (j : Nat) (d1 : D), (env.set i .no)[j]? = some (Slot.ow d1) → i ≠ j := fun j d1 h z => by
      subst z
      have hl : i < env.length := by have := (List.getElem?_eq_some_iff.mp h).1; simpa using this
      rw [List.getElem?_set_self hl] at h
      cases h
    have hj := z j d1 e1
    have hk := z k d2 e2
    rw [List.getElem?_set_ne hj] at e1 e3
    rw [List.getElem?_set_ne hk] at e2 e4
    exact r.own j k d1 d2 a e1 e2 e3 e4
theorem Rel.wipe {H : Hp} {σ : St} {env : Env} {g : Sto} {m : Mv} (r : Rel S H σ env g m) : ∀ vs : List Nat, Rel S H (L2.wipe σ vs) (wipeE env vs) g m
  | [] => r
  | v :: vs => (Rel.wipe r vs).no v
theorem wipe_get (σ : St) (j : Nat) : ∀ vs : List Nat, (L2.wipe σ vs)[j]? = if j ∈ vs then (if j < σ.length then some none else none) else σ[j]?
  | [] => by simp [L2.wipe]
  | v :: vs => by
    unfold L2.wipe
    by_cases hv : v = j
    · subst hv
      by_cases hl : v < σ.length
      · rw [List.getElem?_set_self (by rw [wipe_length]; exact hl)]; simp [hl]
      · rw [List.getElem?_eq_none (by simp [wipe_length]; omega)]; simp [hl]
    · rw [List.getElem?_set_ne hv, wipe_get σ j vs]
      have : j ∈ v :: vs ↔ j ∈ vs := by simp [Ne.symm hv]
      simp only [this]
theorem wipe_but {σ σ' : St} {ws vs : List Nat} (b : But ws (L2.wipe σ vs) σ') (hw : ∀ i ∈ ws, i ∈ vs) : L2.wipe σ' vs = L2.wipe σ vs := by
  have hl : σ'.length = σ.length := by rw [b.1, wipe_length]
  apply List.ext_getElem?
  intro j
  rw [wipe_get, wipe_get]
  by_cases hj : j ∈ vs
  · simp [hj, hl]
  · rw [if_neg hj, if_neg hj, b.2 j fun z => hj (hw j z), wipe_get, if_neg hj]
/-- no exception leaves a comprehension -/
abbrev W0 : WX := fun _ _ _ _ => False
/-- the items made, one after another -/
def compL (tg : Tg) (t : En Bool) (e : E1) (env : Env) : List D → Sto → Option (List D × Sto)
  | [], g => some ([], g)
  | d :: ds, g => match tg d env with
    | none => none
    | some env1 => match t env1 g with
      | .ok true g1 => match e env1 g1 with
        | .ok y g2 => match compL tg t e env ds g2 with
          | some (ys, g3) => some (y :: ys, g3)
          | none => none
        | _ => none
      | .ok false g1 => compL tg t e env ds g1
      | _ => none
def eLc (it : En (List D)) (tg : Tg) (t : En Bool) (e : E1) (vs : List Nat) : E1 := fun env g => (it env g).bind fun ds g1 => match compL tg t e (wipeE env vs) ds g1 with
  | some (ys, g2) => if ys.length ≤ big then .ok (.lst ys) g2 else .stuck
  | none => .stuck
def tYesF : En Bool := fun _ g => .ok true g
abbrev Pts (X : Cx) (S : Stat) (W : WX) (ifs : List Expr) (f : En Bool) : Prop := PTs X ifs (Tv S RQ W f)
theorem PTs.to {e : List Expr} {t t' : TT} (h : PTs X e t) (i : ∀ σ H Q, t' σ H Q → t σ H Q) : PTs X e t' := ⟨fun pins s σ H Q I q => h.run pins s σ H Q I (i σ H Q q)⟩
theorem ts_nil : Pts X S W [] tYesF := PTs.to pts_nil fun σ H Q ⟨env, g, m, r, p⟩ => p.now r.mem rfl
theorem ts_one {c : Expr} {f : En Bool} (h : Pt X S W c f) : Pts X S W [c] f := pts_one h
/-- an own thing that is no slot's is changed -/
theorem Rel.put2 {H : Hp} {σ : St} {env : Env} {g : Sto} {m : Mv} (r : Rel S H σ env g m) {a : Addr} {o : HO} (hw : a ∈ m.W) (hm : a ∉ m.mu) (hn : ∀ (j : Nat) (d' : D), env[j]? = some (Slot.ow d') → σ[j]? = some (some (V.ref a)) → False) (mu : Mut (some o)) : Rel S (upd H a o) σ env g m := by
  have q : GrowS m H m (upd H a o) := grow_put hw
  have ne : ∀ b, b ≠ a → ∀ u, H b = some u → upd H a o b = some u := fun b hb u h => by rw [upd_ne hb]; exact h
  have mt : ∀ b, Mut (H b) → Mut (upd H a o b) := fun b h => by
    by_cases hb : b = a
    · subst hb; rw [upd_same]; exact mu
    · rw [upd_ne hb]; exact h
  refine ⟨⟨r.mem.len, fun n d b e1 e2 => (r.mem.sto n d b e1 e2).grow r.mem q (ne b fun z => hm (z ▸ List.mem_of_getElem? e2)), r.mem.nd, r.mem.muW, fun b hb => mt b (r.mem.trk b hb), r.mem.dis⟩, r.len, fun j s ov e1 e2 => ?_, r.own⟩
  have h := r.slot j s ov e1 e2
  cases s with
  | no => trivial
  | sh d'' =>
    obtain ⟨v, e3, h⟩ := h
    exact ⟨v, e3, h.grow r.mem q⟩
  | ow d'' =>
    obtain ⟨b, e3, h1, h2, h3⟩ := h
    subst e3
    exact ⟨b, rfl, h1, h2, h3.grow r.mem q (ne b fun z => by subst z; exact hn j d'' e1 e2)⟩
theorem newO_wipe {env : Env} {σ : St} {a : Addr} (hn : ∀ (j : Nat) (d' : D), env[j]? = some (Slot.ow d') → σ[j]? = some (some (V.ref a)) → False) (hl : σ.length = env.length) : ∀ vs : List Nat, ∀ (j : Nat) (d' : D), (wipeE env vs)[j]? = some (Slot.ow d') → (L2.wipe σ vs)[j]? = some (some (V.ref a)) → False
  | [], j, d', h1, h2 => hn j d' h1 h2
  | v :: vs, j, d', h1, h2 => by
    have z := (wipe_some h2).1
    by_cases hv : v = j
    · subst hv
      exact (wipe_some h2).2 List.mem_cons_self
    · have h1' : (wipeE env vs)[j]? = some (Slot.ow d') := by
        unfold wipeE at h1
        rw [List.getElem?_set_ne hv] at h1
        exact h1
      have h2' : (L2.wipe σ vs)[j]? = some (some (V.ref a)) := by
        unfold L2.wipe at h2
        rw [List.getElem?_set_ne hv] at h2
        exact h2
      exact newO_wipe hn hl vs j d' h1' h2'
/-- no name holds the thing at a -/
def NoSlot (σ : St) (env : Env) (a : Addr) : Prop := ∀ (j : Nat) (d' : D), env[j]? = some (Slot.ow d') → σ[j]? = some (some (V.ref a)) → False
/-- what a comprehension's list bears: m1, H1 stand ahead of it -/
structure CompOk (S : Stat) (σ : St) (env : Env) (σo : St) (envo : Env) (m1 : Mv) (H1 : Hp) (Da : Addr) (acc : List D) (Hc : Hp) (gc : Sto) (mc : Mv) : Prop where
  rel : Rel S Hc σ env gc mc
  rel2 : Rel S Hc σo envo gc mc
  grow : Grow m1 H1 mc Hc
  dw : Da ∈ mc.W
  dm : Da ∉ mc.mu
  root : Root S mc Hc Da (.lst acc)
theorem CompOk.step {σ σo : St} {env envo : Env} {m1 mc m' : Mv} {H1 Hc H' : Hp} {Da : Addr} {acc : List D} {gc g' : Sto} (c : CompOk S σ env σo envo m1 H1 Da acc Hc gc mc) (q : Grow mc Hc m' H') (ok : MOk S H' g' m') : CompOk S σ env σo envo m1 H1 Da acc H' g' m' := by
  have ne : Hc Da ≠ none := by
    cases c.root with
    | lst e _ => rw [e]; simp
  refine ⟨c.rel.grow q ok, c.rel2.grow q ok, c.grow.trans q, q.wk _ c.dw, fun z => ?_, c.root.grow c.rel.mem (q.s c.rel.mem.muW) fun o e => q.keep Da o e c.dm⟩
  rcases q.mun Da z with z | z
  · exact c.dm z
  · exact ne z
/-- one more item -/
theorem CompOk.add {σ σo : St} {env envo : Env} {m1 mc : Mv} {H1 Hc : Hp} {Da : Addr} {acc : List D} {gc : Sto} {yd : D} {yv : V} (c : CompOk S σ env σo envo m1 H1 Da acc Hc gc mc) (hD : H1 Da = none) (hn : NoSlot σ env Da) (hno : NoSlot σo envo Da) (r : Rr S mc Hc yd yv) :
    ∃ vs, Hc Da = some (.lst vs) ∧ vs.length = acc.length ∧ CompOk S σ env σo envo m1 H1 Da (acc ++ [yd]) (upd Hc Da (.lst (vs ++ [yv]))) gc mc ∧ GrowS mc Hc mc (upd Hc Da (.lst (vs ++ [yv]))) := by
  cases c.root with
  | @lst vs _ e rl =>
    have q : GrowS mc Hc mc (upd Hc Da (.lst (vs ++ [yv]))) := grow_put c.dw
    refine ⟨vs, e, rl.length.symm, ⟨c.rel.put2 c.dw c.dm hn trivial, c.rel2.put2 c.dw c.dm hno trivial, ⟨fun a o ha hm => ?_, fun a ha => ?_, c.grow.mu, c.grow.mun, c.grow.wk, c.grow.wn, c.grow.b⟩, c.dw, c.dm, .lst upd_same (Rl.append (Rl.grow c.rel.mem q rl) (.cons (Rr.grow c.rel.mem q r) .nil))⟩, q⟩
    · rw [upd_ne (ne_of_none ha hD)]; exact c.grow.keep a o ha hm
    · by_cases hx : a = Da
      · subst hx; exact hD
      · rw [upd_ne hx] at ha; exact c.grow.liv a ha
/-- the loop of a comprehension, from acc on -/
theorem lc_loop {J : It} {ds : List D} {tg : Tg} {t : En Bool} {e : E1} {vs ws : List Nat} {σ σo : St} {env envo : Env} {m1 : Mv} {H1 : Hp} {Da : Addr} {acc zs : List D} {Hs : Hp} {gs gE : Sto} {ms : Mv} {Fin : Hp → Prop} (hw : ∀ i ∈ ws, i ∈ vs) (hD : H1 Da = none)
    (hn : NoSlot (L2.wipe σ vs) (wipeE env vs) Da) (hno : NoSlot σo envo Da) (c0 : CompOk S (L2.wipe σ vs) (wipeE env vs) σo envo m1 H1 Da acc Hs gs ms) (yl : Yields S J ms Hs ds) (ec : compL tg t e (wipeE env vs) ds gs = some (zs, gE)) (hb : (acc ++ zs).length ≤ big)
    (fin : ∀ Hc mc, CompOk S (L2.wipe σ vs) (wipeE env vs) σo envo m1 H1 Da (acc ++ zs) Hc gE mc → GrowS ms Hs mc Hc → Fin Hc) :
    ∃ Wx : Nat → Nat → Hp → Prop, (∃ m, Wx 0 m Hs) ∧ ∀ i m H, Wx i m H → (J.stop i H ∧ Fin H) ∨ (J.go i H ∧ ∃ Nx : Hp → Prop, (∀ H', Nx H' → ∃ m', m' < m ∧ Wx (i + 1) m' H') ∧ ∀ x H', J.yld i H x H' → TGv S ws tg x (L2.wipe σ vs) H' fun σ2 H2 => L2.wipe σ2 vs = L2.wipe σ vs ∧ Tv S RQ W0 t σ2 H2 fun b H3 =>
      if b = true then Tv S (RT S) W0 e σ2 H3 fun y H4 => ∃ ac, H4 Da = some (.lst ac) ∧ ac.length < sizeLine ∧ Nx (upd H4 Da (.lst (ac ++ [y]))) else Nx H3) := by
  let Inv0 : Nat → Hp → Prop := fun i Hc => ∃ gc mc a' z', CompOk S (L2.wipe σ vs) (wipeE env vs) σo envo m1 H1 Da a' Hc gc mc ∧ GrowS ms Hs mc Hc ∧ compL tg t e (wipeE env vs) (ds.drop i) gc = some (z', gE) ∧ acc ++ zs = a' ++ z'
  refine ⟨fun i k Hc => k = ds.length - i ∧ i ≤ ds.length ∧ Inv0 i Hc, ⟨ds.length, by simp, Nat.zero_le _, gs, ms, acc, zs, c0, .refl _ _, by simpa using ec, rfl⟩, ?_⟩
  rintro i k Hc ⟨rfl, hi, gc, mc, a', z', cc, gsc, ec, ey⟩
  obtain ⟨y1, y2⟩ := yl mc Hc gc gsc cc.rel.mem
  by_cases hlt : i < ds.length
  · have hd : ds[i]? = some ds[i] := by simp [hlt]
    obtain ⟨go, yd⟩ := y1 i _ hd
    have ed : ds.drop i = ds[i] :: ds.drop (i + 1) := List.drop_eq_getElem_cons hlt
    rw [ed] at ec
    simp only [compL] at ec
    refine .inr ⟨go, Inv0 (i + 1), fun H' h => ⟨ds.length - (i + 1), by omega, rfl, hlt, h⟩, fun x H' hy => ?_⟩
    obtain ⟨gr2, ok2, rx⟩ := yd x H' hy
    have c2 := cc.step gr2 ok2
    have s2 := gsc.trans (gr2.s cc.rel.mem.muW)
    refine ⟨_, gc, mc, ds[i], c2.rel, rx, ?_⟩
    cases qt : tg ds[i] (wipeE env vs) with
    | none => rw [qt] at ec; cases ec
    | some env1 =>
      rw [qt] at ec
      dsimp only at ec
      intro σ2 r3 b3
      refine ⟨wipe_but b3 hw, env1, gc, mc, r3, ?_⟩
      cases qb : t env1 gc with
      | stuck => rw [qb] at ec; cases ec
      | exc x g' => rw [qb] at ec; cases ec
      | ok b gb =>
        rw [qb] at ec
        intro b' H3 m3 gr3 ok3 eb
        have eb : b = b' := eb
        subst eb
        have r4 := r3.grow gr3 ok3
        have c3 := c2.step gr3 ok3
        have s3 := s2.trans (gr3.s c2.rel.mem.muW)
        cases b with
        | false => exact ⟨gb, m3, a', z', c3, s3, ec, ey⟩
        | true =>
          dsimp only at ec
          refine ⟨env1, gb, m3, r4, ?_⟩
          cases qe : e env1 gb with
          | stuck => rw [qe] at ec; cases ec
          | exc x g' => rw [qe] at ec; cases ec
          | ok yd ge =>
            rw [qe] at ec
            dsimp only at ec
            intro yv H5 m5 gr5 ok5 ry
            have c5 := c3.step gr5 ok5
            have s5 := s3.trans (gr5.s c3.rel.mem.muW)
            cases qz : compL tg t e (wipeE env vs) (ds.drop (i + 1)) ge with
            | none => rw [qz] at ec; cases ec
            | some zz =>
              obtain ⟨zs', g9⟩ := zz
              rw [qz] at ec
              simp only [Option.some.injEq, Prod.mk.injEq] at ec
              obtain ⟨ez, eg⟩ := ec
              subst ez eg
              obtain ⟨ac, e1, e2, c6, s6⟩ := c5.add hD hn hno ry
              refine ⟨ac, e1, ?_, ge, m5, a' ++ [yd], zs', c6, s5.trans s6, qz, by rw [ey]; simp⟩
              have h2 : (acc ++ zs).length = a'.length + (zs'.length + 1) := by rw [ey]; simp
              exact big_lt (by omega)
  · have ei : i = ds.length := by omega
    subst ei
    rw [List.drop_length] at ec
    simp only [compL, Option.some.injEq, Prod.mk.injEq] at ec
    obtain ⟨ez, eg⟩ := ec
    subst ez eg
    rw [List.append_nil] at ey
    exact .inl ⟨y2, fin Hc mc (by rw [ey]; exact cc) gsc⟩
theorem comp_start {σ : St} {env : Env} {m1 : Mv} {H1 : Hp} {g1 : Sto} {Da : Addr} (r1 : Rel S H1 σ env g1 m1) (hD : H1 Da = none) (vs : List Nat) : CompOk S (L2.wipe σ vs) (wipeE env vs) (L2.wipe σ vs) (wipeE env vs) m1 H1 Da [] (upd H1 Da (.lst [])) g1 (m1.own Da) :=
  ⟨(r1.wipe vs).grow (grow_own hD) (r1.mem.own hD trivial), (r1.wipe vs).grow (grow_own hD) (r1.mem.own hD trivial), grow_own hD, List.mem_cons_self, fun z => (r1.mem.free hD).1 (r1.mem.muW Da z), .lst upd_same .nil⟩
theorem Yields.later {J : It} {m m' : Mv} {H H' : Hp} {ds : List D} (y : Yields S J m H ds) (q : GrowS m H m' H') : Yields S J m' H' ds := fun m1 H1 g1 q1 ok => y m1 H1 g1 (q.trans q1) ok
/-- the reading of a comprehension -/
theorem lc_read {it : En (List D)} {tg : Tg} {t : En Bool} {e : E1} {vs ws : List Nat} {σ : St} {H : Hp} {Q : VK} (hw : ∀ i ∈ ws, i ∈ vs) (h : Tv S (RF S) W (eLc it tg t e vs) σ H Q) : tLc (TIv S W it) (TGv S ws tg) (Tv S RQ W0 t) (Tv S (RT S) W0 e) vs σ H Q := by
  obtain ⟨env, g, m, r, p⟩ := h
  refine ⟨env, g, m, r, ?_⟩
  unfold eLc at p
  cases q : it env g with
  | stuck => rw [q] at p; exact p.elim
  | exc x g' => rw [q] at p; exact p
  | ok ds g1 =>
    rw [q] at p
    simp only [Res.bind] at p
    intro J H1 m1 gr ok yl Da hDa
    have r1 := r.grow gr ok
    cases qc : compL tg t e (wipeE env vs) ds g1 with
    | none => rw [qc] at p; exact p.elim
    | some yg =>
      obtain ⟨ys, g2⟩ := yg
      rw [qc] at p
      dsimp only at p
      split at p
      · rename_i hbig
        exact lc_loop hw hDa (newO_wipe (r1.newO hDa) r1.len vs) (newO_wipe (r1.newO hDa) r1.len vs) (comp_start r1 hDa vs) (yl.later ((grow_own hDa).s ok.muW)) qc (by simpa using hbig) fun Hc mc cc _ => p _ Hc mc (gr.trans cc.grow) cc.rel.mem ⟨Da, rfl, cc.dw, cc.dm, gr.liv Da hDa, cc.root⟩
      · exact p.elim
/-! ### two fors -/
/-- a target stores trees, at ws alone -/
def TgOk (ws : List Nat) (t : Tg) : Prop := ∀ d env env', t d env = some env' → ∀ (j : Nat), (j ∉ ws → env'[j]? = env[j]?) ∧ (j ∈ ws → ∀ d', env'[j]? ≠ some (Slot.ow d'))
theorem tgOk_n (i : Nat) : TgOk [i] (tgN i) := fun d env env' h j => by
  simp only [tgN, Option.some.injEq] at h
  subst h
  refine ⟨fun hj => List.getElem?_set_ne fun z => hj (by simp [z]), fun hj d' e => ?_⟩
  have e1 : j = i := by simpa using hj
  subst e1
  have hl : j < env.length := by have := (List.getElem?_eq_some_iff.mp e).1; simpa using this
  rw [List.getElem?_set_self hl] at e
  cases e

def comp2L (t1 : Tg) (c1 : En Bool) (it2 : En (List D)) (t2 : Tg) (c2 : En Bool) (e : E1) (vs1 : List Nat) (env : Env) : List D → Sto → Option (List D × Sto)
  | [], g => some ([], g)
  | d :: ds, g => match t1 d env with
    | none => none
    | some env1 => match c1 env1 g with
      | .ok true g1 => match it2 env1 g1 with
        | .ok ds2 g2 => match compL t2 c2 e (wipeE env1 vs1) ds2 g2 with
          | some (ys, g3) => match comp2L t1 c1 it2 t2 c2 e vs1 env ds g3 with
            | some (zs, g4) => some (ys ++ zs, g4)
            | none => none
          | none => none
        | _ => none
      | .ok false g1 => comp2L t1 c1 it2 t2 c2 e vs1 env ds g1
      | _ => none
def eLc2 (it : En (List D)) (t1 : Tg) (c1 : En Bool) (it2 : En (List D)) (t2 : Tg) (c2 : En Bool) (e : E1) (vs vs1 : List Nat) : E1 := fun env g => (it env g).bind fun ds g1 => match comp2L t1 c1 it2 t2 c2 e vs1 (wipeE env vs) ds g1 with
  | some (ys, g2) => if ys.length ≤ big then .ok (.lst ys) g2 else .stuck
  | none => .stuck
theorem lc2_read {it it2 : En (List D)} {t1 t2 : Tg} {c1 c2 : En Bool} {e : E1} {vs vs1 ws ws2 : List Nat} {σ : St} {H : Hp} {Q : VK} (hw : ∀ i ∈ ws, i ∈ vs) (hw2 : ∀ i ∈ ws2, i ∈ vs1) (hok : TgOk ws t1) (h : Tv S (RF S) W (eLc2 it t1 c1 it2 t2 c2 e vs vs1) σ H Q) :
    tLc2 (TIv S W it) (TGv S ws t1) (Tv S RQ W0 c1) (TIv S W0 it2) (TGv S ws2 t2) (Tv S RQ W0 c2) (Tv S (RT S) W0 e) vs vs1 σ H Q := by
  obtain ⟨env, g, m, r, p⟩ := h
  refine ⟨env, g, m, r, ?_⟩
  unfold eLc2 at p
  cases q : it env g with
  | stuck => rw [q] at p; exact p.elim
  | exc x g' => rw [q] at p; exact p
  | ok ds g1 =>
    rw [q] at p
    simp only [Res.bind] at p
    intro J H1 m1 gr ok yl Da hDa
    have r1 := r.grow gr ok
    cases qc : comp2L t1 c1 it2 t2 c2 e vs1 (wipeE env vs) ds g1 with
    | none => rw [qc] at p; exact p.elim
    | some yg =>
      obtain ⟨ys, g2⟩ := yg
      rw [qc] at p
      dsimp only at p
      split at p
      · rename_i hbig
        have no2 := newO_wipe (r1.newO hDa) r1.len vs
        have c0 := comp_start r1 hDa vs
        have yl0 := yl.later ((grow_own (o := .lst []) hDa).s ok.muW)
        let Inv0 : Nat → Hp → Prop := fun i Hc => ∃ gc mc a' z', CompOk S (L2.wipe σ vs) (wipeE env vs) (L2.wipe σ vs) (wipeE env vs) m1 H1 Da a' Hc gc mc ∧ GrowS (m1.own Da) (upd H1 Da (.lst [])) mc Hc ∧ comp2L t1 c1 it2 t2 c2 e vs1 (wipeE env vs) (ds.drop i) gc = some (z', g2) ∧ ys = a' ++ z'
        refine ⟨fun i k Hc => k = ds.length - i ∧ i ≤ ds.length ∧ Inv0 i Hc, ⟨ds.length, by simp, Nat.zero_le _, g1, m1.own Da, [], ys, c0, .refl _ _, by simpa using qc, rfl⟩, ?_⟩
        rintro i k Hc ⟨rfl, hi, gc, mc, a', z', cc, gsc, ec, ey⟩
        obtain ⟨y1, y2⟩ := yl0 mc Hc gc gsc cc.rel.mem
        by_cases hlt : i < ds.length
        · have hd : ds[i]? = some ds[i] := by simp [hlt]
          obtain ⟨go, yd⟩ := y1 i _ hd
          have ed : ds.drop i = ds[i] :: ds.drop (i + 1) := List.drop_eq_getElem_cons hlt
          rw [ed] at ec
          simp only [comp2L] at ec
          refine .inr ⟨go, Inv0 (i + 1), fun H' h => ⟨ds.length - (i + 1), by omega, rfl, hlt, h⟩, fun x H' hy => ?_⟩
          obtain ⟨gr2, ok2, rx⟩ := yd x H' hy
          have c2' := cc.step gr2 ok2
          have s2 := gsc.trans (gr2.s cc.rel.mem.muW)
          refine ⟨_, gc, mc, ds[i], c2'.rel, rx, ?_⟩
          cases qt : t1 ds[i] (wipeE env vs) with
          | none => rw [qt] at ec; cases ec
          | some env1 =>
            rw [qt] at ec
            dsimp only at ec
            intro σ2 r3 b3
            refine ⟨wipe_but b3 hw, env1, gc, mc, r3, ?_⟩
            cases qb : c1 env1 gc with
            | stuck => rw [qb] at ec; cases ec
            | exc x g' => rw [qb] at ec; cases ec
            | ok b gb =>
              rw [qb] at ec
              intro b' H3 m3 gr3 ok3 eb
              have eb : b = b' := eb
              subst eb
              have r4 := r3.grow gr3 ok3
              have c3 := c2'.step gr3 ok3
              have s3 := s2.trans (gr3.s c2'.rel.mem.muW)
              cases b with
              | false => exact ⟨gb, m3, a', z', c3, s3, ec, ey⟩
              | true =>
                dsimp only at ec
                refine ⟨env1, gb, m3, r4, ?_⟩
                cases qi : it2 env1 gb with
                | stuck => rw [qi] at ec; cases ec
                | exc x g' => rw [qi] at ec; cases ec
                | ok ds2 gi =>
                  rw [qi] at ec
                  dsimp only at ec
                  intro J2 H5 m5 gr5 ok5 yl5
                  have c5 := c3.step gr5 ok5
                  have s5 := s3.trans (gr5.s c3.rel.mem.muW)
                  have r5 := r4.grow gr5 ok5
                  cases qz : compL t2 c2 e (wipeE env1 vs1) ds2 gi with
                  | none => rw [qz] at ec; cases ec
                  | some zz =>
                    obtain ⟨y2s, g9⟩ := zz
                    rw [qz] at ec
                    dsimp only at ec
                    cases qr : comp2L t1 c1 it2 t2 c2 e vs1 (wipeE env vs) (ds.drop (i + 1)) g9 with
                    | none => rw [qr] at ec; cases ec
                    | some zr =>
                      obtain ⟨z9, g10⟩ := zr
                      rw [qr] at ec
                      simp only [Option.some.injEq, Prod.mk.injEq] at ec
                      obtain ⟨ez, eg⟩ := ec
                      subst ez eg
                      have no3 : NoSlot (L2.wipe σ2 vs1) (wipeE env1 vs1) Da := by
                        refine newO_wipe (fun j d' e1 e2 => ?_) r5.len vs1
                        obtain ⟨z1, z2⟩ := hok _ _ _ qt j
                        by_cases hj : j ∈ ws
                        · exact z2 hj d' e1
                        · rw [z1 hj] at e1
                          rw [b3.2 j hj] at e2
                          exact no2 j d' e1 e2
                      have c5' : CompOk S (L2.wipe σ2 vs1) (wipeE env1 vs1) (L2.wipe σ vs) (wipeE env vs) m1 H1 Da a' H5 gi m5 := ⟨r5.wipe vs1, c5.rel, c5.grow, c5.dw, c5.dm, c5.root⟩
                      have hlen : (a' ++ y2s).length ≤ big := by
                        have : ys.length = a'.length + (y2s.length + z9.length) := by rw [ey]; simp
                        rw [List.length_append]; omega
                      exact lc_loop hw2 hDa no3 no2 c5' yl5 qz hlen fun Hc mc c9 s9 => ⟨g9, mc, a' ++ y2s, z9, ⟨c9.rel2, c9.rel2, c9.grow, c9.dw, c9.dm, c9.root⟩, s5.trans s9, qr, by rw [ey]; simp⟩
        · have ei : i = ds.length := by omega
          subst ei
          rw [List.drop_length] at ec
          simp only [comp2L, Option.some.injEq, Prod.mk.injEq] at ec
          obtain ⟨ez, eg⟩ := ec
          subst ez eg
          rw [List.append_nil] at ey
          subst ey
          exact .inl ⟨y2, p _ Hc mc (gr.trans cc.grow) cc.rel.mem ⟨Da, rfl, cc.dw, cc.dm, gr.liv Da hDa, cc.root⟩⟩
      · exact p.elim
theorem f_lc {elt tg iter : Expr} {ifs : List Expr} {scope : Scope} {own : List (Str × Nat)} {ws : List Nat} {pos : Pos} {it : En (List D)} {t : Tg} {tt : En Bool} {e : E1} (hc : X.calm = true) (hN : X.N.Nodup) (hi : Pi X S W tg iter it) (ok : BlkOk X.N X.env.scope scope own)
    (hg : ∀ (s : Shared) (H : Hp) (C : Addr) (cl : List (Str × Addr)) (fp : List Addr), Pg (X.blk s H scope (compEnvC scope cl C X.env) fp) S ws tg t) (ht : ∀ (s : Shared) (H : Hp) (C : Addr) (cl : List (Str × Addr)) (fp : List Addr), Pts (X.blk s H scope (compEnvC scope cl C X.env) fp) S W0 ifs tt)
    (he : ∀ (s : Shared) (H : Hp) (C : Addr) (cl : List (Str × Addr)) (fp : List Addr), Pe (X.blk s H scope (compEnvC scope cl C X.env) fp) S W0 elt e) (hw : ∀ i ∈ ws, i ∈ own.map (·.2)) (hs : ∀ x, foldedSetIterable iter X.env x = pure x := by intro _; rfl) :
    Pf X S W (.ListComp elt [⟨tg, iter, ifs, 0⟩] scope pos) (eLc it t tt e (own.map (·.2))) :=
  PE.to (pe_lc hc hN hi ok hg ht he hs) fun σ H Q h => lc_read hw h
/-- y = [..] -/
theorem s_lc {i : Nat} {y : Str} {py : Pos} {elt tg iter : Expr} {ifs : List Expr} {scope : Scope} {own : List (Str × Nat)} {ws : List Nat} {pos spos : Pos} {it : En (List D)} {t : Tg} {tt : En Bool} {e : E1} (hc : X.calm = true) (hN : X.N.Nodup) (hy : X.N[i]? = some y) (hyl : X.env.scope.names.lookup y = some .local)
    (hsw : swapsWith (.ListComp elt [⟨tg, iter, ifs, 0⟩] scope pos) (some (.Name y py)) spos.line X.env = pure true) (hi : Pi X S W tg iter it) (ok : BlkOk X.N X.env.scope scope own)
    (hg : ∀ (s : Shared) (H : Hp) (C : Addr) (cl : List (Str × Addr)) (fp : List Addr), Pg (X.blk s H scope (compEnvC scope cl C X.env) fp) S ws tg t) (ht : ∀ (s : Shared) (H : Hp) (C : Addr) (cl : List (Str × Addr)) (fp : List Addr), Pts (X.blk s H scope (compEnvC scope cl C X.env) fp) S W0 ifs tt)
    (he : ∀ (s : Shared) (H : Hp) (C : Addr) (cl : List (Str × Addr)) (fp : List Addr), Pe (X.blk s H scope (compEnvC scope cl C X.env) fp) S W0 elt e) (hw : ∀ i ∈ ws, i ∈ own.map (·.2)) (hs : ∀ x, foldedSetIterable iter X.env x = pure x := by intro _; rfl) :
    Ps X S W (.Assign [.Name y py] (.ListComp elt [⟨tg, iter, ifs, 0⟩] scope pos) spos) (sSetO i (eLc it t tt e (own.map (·.2)))) :=
  PS.to (ps_setLc hc hN hy hyl hsw hi ok hg ht he hs) fun E σ H h => lc_read hw (Tv.st (R := RF S) h fun env g0 g m0 m H1 a v r0 gr r1 ⟨b, ev, hw, hm, hn, ro⟩ p => by
    subst ev
    exact p _ H1 m (.refl m H1) (r1.setO i hw hm ro (r0.newO hn)))
theorem f_lc2 {elt tg iter tg1 iter1 : Expr} {ifs ifs1 : List Expr} {scope : Scope} {own : List (Str × Nat)} {vs1 ws ws2 : List Nat} {pos : Pos} {it it2 : En (List D)} {t1 t2 : Tg} {c1 c2 : En Bool} {e : E1} (hc : X.calm = true) (hN : X.N.Nodup) (hi : Pi X S W tg iter it) (ok : BlkOk X.N X.env.scope scope own) (hv : ∀ i ∈ vs1, i ∈ own.map (·.2))
    (hg : ∀ (s : Shared) (H : Hp) (C : Addr) (cl : List (Str × Addr)) (fp : List Addr), Pg (X.blk s H scope (compEnvC scope cl C X.env) fp) S ws tg t1) (ht : ∀ (s : Shared) (H : Hp) (C : Addr) (cl : List (Str × Addr)) (fp : List Addr), Pts (X.blk s H scope (compEnvC scope cl C X.env) fp) S W0 ifs c1)
    (hi1 : ∀ (s : Shared) (H : Hp) (C : Addr) (cl : List (Str × Addr)) (fp : List Addr), Pi (X.blk s H scope (compEnvC scope cl C X.env) fp) S W0 tg1 iter1 it2)
    (hg1 : ∀ (s : Shared) (H : Hp) (C : Addr) (cl : List (Str × Addr)) (fp : List Addr), Pg (X.blk s H scope (compEnvC scope cl C X.env) fp) S ws2 tg1 t2) (ht1 : ∀ (s : Shared) (H : Hp) (C : Addr) (cl : List (Str × Addr)) (fp : List Addr), Pts (X.blk s H scope (compEnvC scope cl C X.env) fp) S W0 ifs1 c2)
    (he : ∀ (s : Shared) (H : Hp) (C : Addr) (cl : List (Str × Addr)) (fp : List Addr), Pe (X.blk s H scope (compEnvC scope cl C X.env) fp) S W0 elt e) (hw : ∀ i ∈ ws, i ∈ own.map (·.2)) (hw2 : ∀ i ∈ ws2, i ∈ vs1) (hok : TgOk ws t1)
    (hs : ∀ x, foldedSetIterable iter X.env x = pure x := by intro _; rfl) (hs1 : ∀ env x, foldedSetIterable iter1 env x = pure x := by intro _ _; rfl) :
    Pf X S W (.ListComp elt [⟨tg, iter, ifs, 0⟩, ⟨tg1, iter1, ifs1, 0⟩] scope pos) (eLc2 it t1 c1 it2 t2 c2 e (own.map (·.2)) vs1) :=
  PE.to (pe_lc2 hc hN hi ok hv hg ht hi1 hg1 ht1 he hs hs1) fun σ H Q h => lc2_read hw hw2 hok h
theorem s_lc2 {i : Nat} {y : Str} {py : Pos} {elt tg iter tg1 iter1 : Expr} {ifs ifs1 : List Expr} {scope : Scope} {own : List (Str × Nat)} {vs1 ws ws2 : List Nat} {pos spos : Pos} {it it2 : En (List D)} {t1 t2 : Tg} {c1 c2 : En Bool} {e : E1} (hc : X.calm = true) (hN : X.N.Nodup) (hy : X.N[i]? = some y) (hyl : X.env.scope.names.lookup y = some .local)
    (hsw : swapsWith (.ListComp elt [⟨tg, iter, ifs, 0⟩, ⟨tg1, iter1, ifs1, 0⟩] scope pos) (some (.Name y py)) spos.line X.env = pure true) (hi : Pi X S W tg iter it) (ok : BlkOk X.N X.env.scope scope own) (hv : ∀ i ∈ vs1, i ∈ own.map (·.2))
    (hg : ∀ (s : Shared) (H : Hp) (C : Addr) (cl : List (Str × Addr)) (fp : List Addr), Pg (X.blk s H scope (compEnvC scope cl C X.env) fp) S ws tg t1) (ht : ∀ (s : Shared) (H : Hp) (C : Addr) (cl : List (Str × Addr)) (fp : List Addr), Pts (X.blk s H scope (compEnvC scope cl C X.env) fp) S W0 ifs c1)
    (hi1 : ∀ (s : Shared) (H : Hp) (C : Addr) (cl : List (Str × Addr)) (fp : List Addr), Pi (X.blk s H scope (compEnvC scope cl C X.env) fp) S W0 tg1 iter1 it2)
    (hg1 : ∀ (s : Shared) (H : Hp) (C : Addr) (cl : List (Str × Addr)) (fp : List Addr), Pg (X.blk s H scope (compEnvC scope cl C X.env) fp) S ws2 tg1 t2) (ht1 : ∀ (s : Shared) (H : Hp) (C : Addr) (cl : List (Str × Addr)) (fp : List Addr), Pts (X.blk s H scope (compEnvC scope cl C X.env) fp) S W0 ifs1 c2)
    (he : ∀ (s : Shared) (H : Hp) (C : Addr) (cl : List (Str × Addr)) (fp : List Addr), Pe (X.blk s H scope (compEnvC scope cl C X.env) fp) S W0 elt e) (hw : ∀ i ∈ ws, i ∈ own.map (·.2)) (hw2 : ∀ i ∈ ws2, i ∈ vs1) (hok : TgOk ws t1)
    (hs : ∀ x, foldedSetIterable iter X.env x = pure x := by intro _; rfl) (hs1 : ∀ env x, foldedSetIterable iter1 env x = pure x := by intro _ _; rfl) :
    Ps X S W (.Assign [.Name y py] (.ListComp elt [⟨tg, iter, ifs, 0⟩, ⟨tg1, iter1, ifs1, 0⟩] scope pos) spos) (sSetO i (eLc2 it t1 c1 it2 t2 c2 e (own.map (·.2)) vs1)) :=
  PS.to (ps_setLc2 hc hN hy hyl hsw hi ok hv hg ht hi1 hg1 ht1 he hs hs1) fun E σ H h => lc2_read hw hw2 hok (Tv.st (R := RF S) h fun env g0 g m0 m H1 a v r0 gr r1 ⟨b, ev, hw, hm, hn, ro⟩ p => by
    subst ev
    exact p _ H1 m (.refl m H1) (r1.setO i hw hm ro (r0.newO hn)))
end
end Ev
namespace Ev
open PySem PySem.Spec PyProof.Rows L2
section
variable {X : Cx} {S : Stat} {W : WX}
/-! ### what a def promises: it is the function F -/
abbrev Fn := List D → Sto → Res D
def Spec (S : Stat) (n : Nat) (F : Fn) : Sp := fun vs H Q _ => ∃ ds g m, MOk S H g m ∧ (∀ a ∈ m.W, a ∈ m.mu) ∧ Rl S m H ds vs ∧ ds.length = n ∧ match F ds g with
  | .ok d g' => ∀ v H' m', GrowS m H m' H' → MOk S H' g' m' → (∀ a ∈ m'.W, a ∈ m'.mu) → Rr S m' H' d v → Q v H'
  | _ => False
/-- a def's own function: its body over the parameters -/
def fnOf (N : Nat) (body : Sd) : Fn := fun ds g => match body (ds.map Slot.sh ++ List.replicate (N - ds.length) .no) g with
  | .rt d g' => .ok d g'
  | .rtO d g' => .ok d g'
  | .nx _ g' => .ok .non g'
  | .exc x _ g' => .exc x g'
  | _ => .stuck
/-- the store alone may be written -/
def Mv.shut (m : Mv) : Mv := ⟨m.mu, m.mu, m.B⟩
theorem MOk.shut {H : Hp} {g : Sto} {m : Mv} (ok : MOk S H g m) : MOk S H g m.shut :=
  ⟨ok.len, fun n d a e1 e2 => (ok.sto n d a e1 e2).weak (fun b h => ⟨fun z => h.1 (ok.muW b z), h.2⟩) fun _ _ z => z, ok.nd, fun _ z => z, fun a h => ok.trk a (h.imp (ok.muW a) id), fun a h z => ok.dis a h (ok.muW a z)⟩
theorem Rr.shut {H : Hp} {g : Sto} {m : Mv} {d : D} {v : V} (ok : MOk S H g m) (r : Rr S m H d v) : Rr S m.shut H d v := Rr.weak (m := m) (m' := m.shut) (fun b h => ⟨fun z => h.1 (ok.muW b z), h.2⟩) (fun _ _ z => z) r
theorem rel_start {H : Hp} {g : Sto} {m : Mv} {ds : List D} {vs : List V} {N : List Str} (ok : MOk S H g m) (rl : Rl S m H ds vs) : Rel S H (L2.start N vs) (ds.map Slot.sh ++ List.replicate (N.length - ds.length) .no) g m := by
  have hl := rl.length
  have ns : ∀ (j : Nat) (d : D), (ds.map Slot.sh ++ List.replicate (N.length - ds.length) .no)[j]? ≠ some (Slot.ow d) := fun j d e => by
    by_cases hj : j < ds.length
    · rw [List.getElem?_append_left (by simpa using hj), List.getElem?_map] at e
      obtain ⟨x, _, hx⟩ := Option.map_eq_some_iff.mp e
      cases hx
    · rw [List.getElem?_append_right (by simpa using hj), List.getElem?_replicate] at e
      split at e <;> cases e
  refine ⟨ok, ?_, fun j s ov e1 e2 => ?_, fun j k d1 d2 a e1 _ _ _ => (ns j d1 e1).elim⟩
  · unfold L2.start; simp [hl]
  · by_cases hj : j < ds.length
    · rw [List.getElem?_append_left (by simpa using hj), List.getElem?_map] at e1
      obtain ⟨d, hd, rfl⟩ := Option.map_eq_some_iff.mp e1
      obtain ⟨v, hv, rv⟩ := rl.get hd
      unfold L2.start at e2
      rw [List.getElem?_append_left (by simp; omega), List.getElem?_map, hv] at e2
      cases e2
      exact ⟨v, rfl, rv⟩
    · rw [List.getElem?_append_right (by simpa using hj), List.getElem?_replicate] at e1
      split at e1
      · cases e1; trivial
      · cases e1
/-- a def keeps its promise -/
theorem fn_ok {P : Program} {w : World} {K : PySem.W.Frag} {mg : Str → Option Value} {base : Heap} {x qual : Str} {params : Arguments} {body : List Stmt} {scope : Scope} {dvs : List V} {kws : List (Str × V)} {f : Addr} {fd : FuncData} {N ps : List Str} {k : Nat} {sd : Sd}
    (F : FunD K x qual params body scope dvs kws f fd) (C : FnScope N ps scope)
    (hb : ∀ (cdv : Value) (A : Around) (outer : List PySem.Env) (s : Shared) (H : Hp) (E : XK), Room k (A.deeper (envOfC qual scope s.heap.objs.size f cdv)) → Pss ((cxOf CX0 P w K mg base N qual scope f cdv A outer s H E).nox) S W0 body sd) :
    FnOk P w K mg base CX0 (k + 1) f fd ps (Spec S ps.length (fnOf N.length sd)) := by
  refine F.ok C (fun vs H Q E ⟨ds, g, m, _, _, rl, hl, _⟩ => by rw [← rl.length, hl]) (fun cdv A outer s H vs Q E hr ⟨ds, g, m, ok, hW, rl, hl, p⟩ => ⟨_, PSs.nox (hb cdv A outer s H E hr), _, g, m, rel_start ok rl, ?_⟩)
  have gs : ∀ {m' : Mv} {H' : Hp}, GrowS m H m' H' → MOk S H' g m' ∨ True → GrowS m H m'.shut H' := fun q _ => ⟨q.keep, q.liv, q.mu, q.mun, fun a ha => (q.mun a ha).imp (fun z => ok.muW a z) id, q.b⟩
  unfold fnOf at p
  cases q : sd (ds.map Slot.sh ++ List.replicate (N.length - ds.length) .no) g with
  | rt d g' => rw [q] at p; exact fun v H' m' gr ok' r => p v H' m'.shut (gs gr (.inr trivial)) ok'.shut (fun _ z => z) (Rr.shut ok' r)
  | rtO d g' =>
    rw [q] at p
    refine fun a H' m' gr ok' hw hm ro => p (.ref a) H' m'.shut (gs gr (.inr trivial)) ok'.shut (fun _ z => z) ?_
    exact (ro.weak (m' := m'.shut) (fun b h => ⟨fun z => h.1 (ok'.muW b z), h.2⟩) fun _ _ z => z).rr ⟨hm, fun z => ok'.dis a z hw⟩
  | nx env' g' => rw [q] at p; exact fun σ' H' m' gr r => p .non H' m'.shut (gs gr (.inr trivial)) r.mem.shut (fun _ z => z) .non
  | bk env' g' => rw [q] at p; exact p.elim
  | ct env' g' => rw [q] at p; exact p.elim
  | exc x env' g' => rw [q] at p; exact p.elim
  | stuck => rw [q] at p; exact p.elim
/-! ### a call -/
/-- for the callee all that is ours is another's -/
def Mv.callee (m : Mv) : Mv := ⟨m.mu, m.mu, m.B ++ m.W.filter fun a => decide (a ∉ m.mu)⟩
theorem callee_fr {m : Mv} {a : Addr} (hm : ∀ a ∈ m.mu, a ∈ m.W) (h : m.fr a) : m.callee.fr a :=
  ⟨fun z => h.1 (hm a z), fun z => (List.mem_append.mp z).elim h.2 fun z => h.1 (List.mem_filter.mp z).1⟩
theorem MOk.callee {H : Hp} {g : Sto} {m : Mv} (ok : MOk S H g m) : MOk S H g m.callee :=
  ⟨ok.len, fun n d a e1 e2 => (ok.sto n d a e1 e2).weak (fun b h => callee_fr ok.muW h) fun _ _ z => z, ok.nd, fun _ z => z,
   fun a h => ok.trk a (by
    rcases h with h | h
    · exact .inl (ok.muW a h)
    · rcases List.mem_append.mp h with h | h
      · exact .inr h
      · exact .inl (List.mem_filter.mp h).1),
   fun a h z => by
    rcases List.mem_append.mp h with h | h
    · exact ok.dis a h (ok.muW a z)
    · exact (of_decide_eq_true (List.mem_filter.mp h).2) z⟩
/-- behind the call: our own again -/
def Mv.back (m m' : Mv) : Mv := ⟨m'.mu, m.W ++ m'.mu, m.B⟩
theorem back_ok {H H' : Hp} {g g' : Sto} {m m' : Mv} (ok : MOk S H g m) (q : GrowS m.callee H m' H') (ok' : MOk S H' g' m') (hW : ∀ a ∈ m'.W, a ∈ m'.mu) : Grow m H (m.back m') H' ∧ MOk S H' g' (m.back m') ∧ ∀ d v, Rr S m' H' d v → Rr S (m.back m') H' d v := by
  have hB : m'.B = m.B ++ m.W.filter fun a => decide (a ∉ m.mu) := q.b
  have pre : ∀ a ∈ m.mu, a ∈ m'.mu := fun a ha => by
    obtain ⟨t, e⟩ := q.mu
    rw [e]; exact List.mem_append_left _ ha
  have fr : ∀ a, m'.fr a → (m.back m').fr a := fun a h => by
    refine ⟨fun z => ?_, fun z => h.2 (by rw [hB]; exact List.mem_append_left _ z)⟩
    rcases List.mem_append.mp z with z | z
    · by_cases hm : a ∈ m.mu
      · exact h.1 (ok'.muW a (pre a hm))
      · exact h.2 (by rw [hB]; exact List.mem_append_right _ (List.mem_filter.mpr ⟨z, decide_eq_true hm⟩))
    · exact h.1 (ok'.muW a z)
  have mk : ∀ a, a ∉ m.mu → Mut (H a) → Mut (H' a) := fun a hm h => by
    cases e : H a with
    | none => rw [e] at h; exact h.elim
    | some o => rw [q.keep a o e hm]; rw [e] at h; exact h
  refine ⟨⟨fun a o h n => q.keep a o h n, q.liv, q.mu, q.mun, fun a ha => List.mem_append_left _ ha, fun a ha => ?_, rfl⟩, ⟨ok'.len, fun n d a e1 e2 => (ok'.sto n d a e1 e2).weak fr fun _ _ z => z, ok'.nd, fun a ha => List.mem_append_right _ ha, fun a ha => ?_, fun a ha z => ?_⟩, fun d v r => Rr.weak fr (fun _ _ z => z) r⟩
  · rcases List.mem_append.mp ha with z | z
    · exact .inl z
    · exact (q.mun a z).imp (fun y => ok.muW a y) id
  · rcases ha with ha | ha
    · rcases List.mem_append.mp ha with z | z
      · by_cases hm : a ∈ m.mu
        · exact ok'.trk a (.inl (ok'.muW a (pre a hm)))
        · exact mk a hm (ok.trk a (.inl z))
      · exact ok'.trk a (.inl (ok'.muW a z))
    · exact mk a (fun z => ok.dis a ha (ok.muW a z)) (ok.trk a (.inr ha))
  · rcases List.mem_append.mp z with z | z
    · exact ok.dis a ha z
    · exact ok'.dis a (by rw [hB]; exact List.mem_append_left _ ha) (ok'.muW a z)
theorem call_spec {σ : St} {H H0 : Hp} {g : Sto} {m : Mv} {ds : List D} {vs : List V} {n : Nat} {F : Fn} {Q : VK} {E : XK} (ok : MOk S H g m) (rl : Rl S m H ds vs) (hn : ds.length = n) (hx : ∀ x g', F ds g ≠ .exc x g') (p : Post S (RT S) W σ H0 (F ds g) m H Q) : Spec S n F vs H Q E := by
  refine ⟨ds, g, m.callee, ok.callee, fun _ z => z, Rl.weak (m := m) (fun b h => callee_fr ok.muW h) (fun _ _ z => z) rl, hn, ?_⟩
  cases q : F ds g with
  | stuck => rw [q] at p; exact p
  | exc x g' => exact (hx x g' q).elim
  | ok d g' =>
    rw [q] at p
    intro v H' m' gr ok' hW r
    obtain ⟨h1, h2, h3⟩ := back_ok ok gr ok' hW
    exact p v H' (m.back m') h1 h2 (h3 d v r)
/-- f(e, ..); an exception of it is not served here -/
def eCall (n : Nat) (F : Fn) (fs : En (List D)) : E1 := fun env g => (fs env g).bind fun ds g1 => if ds.length = n then (match F ds g1 with
  | .exc _ _ => .stuck
  | r => r) else .stuck
/-- the def x is the function F -/
structure Def (P : Program) (w : World) (K : PySem.W.Frag) (mg : Str → Option Value) (base : Heap) (S : Stat) (x : Str) (k : Nat) (ps : List Str) (F : Fn) : Prop where
  ex : ∃ f fd, mg x = some (.ref f) ∧ PySem.W.keepIn K (.ref f) = true ∧ Binds K fd ps [] ∧ FnOk P w K mg base CX0 k f fd ps (Spec S ps.length F)
theorem e_call {x : Str} {k : Nat} {ps : List Str} {F : Fn} {e : Expr} {es : List Expr} {fs : En (List D)} {p pos : Pos} (d : Def X.prog X.w X.K X.mg X.base S x k ps F) (hr : Room k X.A) (hg : Gl X x) (ha : Pas X S W (e :: es) fs)
    (hdb : (x == ("__debug__" : Str)) = false := by decide) (he : starEach (e :: es) X.env = (false, eval e X.env) :: starEach es X.env := by rfl) (hpl : (backTo pos (starEach es X.env)).any (·.1) = false := by rfl) :
    Pe X S W (.Call (.Name x p) (e :: es) [] pos) (eCall ps.length F fs) := by
  obtain ⟨f, fd, hm, hk, hb, G⟩ := d.ex
  refine PE.to (pe_call G hr hg hm hk hb .nil pass0 ha hdb he hpl) fun σ H Q q => Tv.go (Ra := RL S) (k := fun ds _ g1 => if ds.length = ps.length then (match F ds g1 with
    | .exc _ _ => .stuck
    | r => r) else .stuck) q fun env m g H1 ds vs rel fz ra p => ?_
  rw [List.append_nil]
  split at p
  · rename_i hn
    refine call_spec (W := W) (σ := σ) (H0 := H) rel.mem ra hn (fun x g' z => ?_) ?_
    · rw [z] at p; exact p
    · cases q : F ds g with
      | stuck => rw [q] at p; exact p
      | exc x g' => rw [q] at p; exact p.elim
      | ok d g' => rw [q] at p; exact p
  · exact p.elim
end
end Ev
namespace Ev
open PySem PySem.Spec PyProof.Rows L2
section
variable {X : Cx} {S : Stat} {W : WX}
/-! ### the store -/
def eNew (f : E1) : E1 := eU (fun d g => .ok (.loc g.length) (g ++ [d])) f
/-- a new thing is put into the store -/
theorem l_of {e : Expr} {f : E1} (h : Pf X S W e f) : Pe X S W e (eNew f) := PE.to h fun σ H Q ⟨env, g, m, r, p⟩ => by
  refine ⟨env, g, m, r, ?_⟩
  unfold eNew eU at p
  cases q : f env g with
  | stuck => rw [q] at p; exact p
  | exc x g' => rw [q] at p; exact p
  | ok d g' =>
    rw [q] at p
    intro v H' m' gr ok ⟨a, e, hw, hm, hn, ro⟩
    subst e
    have pre : ∀ (n : Nat) (b : Addr), m'.mu[n]? = some b → (m'.mu ++ [a])[n]? = some b := fun n b e => by
      rw [List.getElem?_append_left (List.getElem?_eq_some_iff.mp e).1]; exact e
    have nw : (m'.mu ++ [a])[g'.length]? = some a := by rw [ok.len]; simp
    refine p _ H' ⟨m'.mu ++ [a], m'.W, m'.B⟩ ⟨gr.keep, gr.liv, ?_, fun b hb => ?_, gr.wk, gr.wn, gr.b⟩ ⟨by simp [ok.len], fun n d b e1 e2 => ?_, ?_, fun b hb => ?_, ok.trk, ok.dis⟩ (.loc nw)
    · obtain ⟨t, e⟩ := gr.mu
      exact ⟨t ++ [a], by rw [e, List.append_assoc]⟩
    · rcases List.mem_append.mp hb with hb | hb
      · exact gr.mun b hb
      · exact .inr (by simp at hb; rw [hb]; exact hn)
    · by_cases hl : n < g'.length
      · rw [List.getElem?_append_left hl] at e1
        rw [List.getElem?_append_left (by rw [← ok.len]; exact hl)] at e2
        exact (ok.sto n d b e1 e2).weak (fun _ h => h) pre
      · have e3 := (List.getElem?_eq_some_iff.mp e1).1
        have e4 : n = g'.length := by simp at e3; omega
        subst e4
        rw [nw] at e2
        cases e2
        simp at e1
        subst e1
        exact ro.weak (fun _ h => h) pre
    · rw [List.nodup_append]
      exact ⟨ok.nd, by simp, fun x hx y hy => by simp at hy; rw [hy]; intro z; rw [z] at hx; exact hm hx⟩
    · rcases List.mem_append.mp hb with hb | hb
      · exact ok.muW b hb
      · simp at hb; rw [hb]; exact hw
/-- a thing of the store is changed -/
theorem MOk.put {H : Hp} {g : Sto} {m : Mv} (ok : MOk S H g m) {n : Nat} {a : Addr} {o : HO} {d' : D} (hn : m.mu[n]? = some a) (mt : Mut (some o)) (ro : Root S m (upd H a o) a d') : Grow m H m (upd H a o) ∧ MOk S (upd H a o) (g.set n d') m := by
  have ha : a ∈ m.mu := List.mem_of_getElem? hn
  have q : Grow m H m (upd H a o) := ⟨fun b u e n => by rw [upd_ne fun z => n (by rw [z]; exact ha)]; exact e, fun b e => by
    by_cases hb : b = a
    · subst hb; rw [upd_same] at e; cases e
    · rw [upd_ne hb] at e; exact e, ⟨[], by simp⟩, fun _ h => .inl h, fun _ h => h, fun _ h => .inl h, rfl⟩
  refine ⟨q, by simp [ok.len], fun k d b e1 e2 => ?_, ok.nd, ok.muW, fun b hb => ?_, ok.dis⟩
  · by_cases hk : n = k
    · subst hk
      rw [hn] at e2
      cases e2
      have hl := (List.getElem?_eq_some_iff.mp e1).1
      rw [List.getElem?_set_self (by simpa using hl)] at e1
      cases e1
      exact ro
    · rw [List.getElem?_set_ne hk] at e1
      refine (ok.sto k d b e1 e2).grow ok (q.s ok.muW) fun u e => ?_
      rw [upd_ne fun z => ?_]
      · exact e
      · subst z
        obtain ⟨l1, h1⟩ := List.getElem?_eq_some_iff.mp hn
        obtain ⟨l2, h2⟩ := List.getElem?_eq_some_iff.mp e2
        exact hk ((List.getElem_inj ok.nd).mp (h1.trans h2.symm))
  · by_cases hb' : b = a
    · subst hb'; rw [upd_same]; exact mt
    · rw [upd_ne hb']; exact ok.trk b hb
/-- the list at a place of the store -/
def lstAt (g : Sto) : D → Option (Nat × List D)
  | .loc n => match g[n]? with
    | some (.lst xs) => some (n, xs)
    | _ => none
  | _ => none
theorem lstAt_ok {H : Hp} {g : Sto} {m : Mv} (ok : MOk S H g m) {d : D} {v : V} {n : Nat} {xs : List D} (h : lstAt g d = some (n, xs)) (r : Rr S m H d v) : ∃ a vs, v = .ref a ∧ m.mu[n]? = some a ∧ H a = some (.lst vs) ∧ Rl S m H xs vs := by
  cases r with
  | @loc k a e =>
    simp only [lstAt] at h
    split at h
    · rename_i ys e1
      cases h
      have ro := ok.sto _ _ _ e1 e
      cases ro with
      | lst e2 rl => exact ⟨a, _, rfl, e, e2, rl⟩
    · cases h
  | _ => simp [lstAt] at h
theorem put_lst {H : Hp} {g : Sto} {m : Mv} (ok : MOk S H g m) {n : Nat} {a : Addr} {ys : List D} {ws : List V} (hn : m.mu[n]? = some a) (rl : Rl S m H ys ws) : Grow m H m (upd H a (.lst ws)) ∧ MOk S (upd H a (.lst ws)) (g.set n (.lst ys)) m := by
  have ha : a ∈ m.mu := List.mem_of_getElem? hn
  have q : GrowS m H m (upd H a (.lst ws)) := grow_put (ok.muW a ha)
  exact ok.put hn trivial (.lst upd_same (rl.grow ok q))
/-- o.pop() -/
def sPop : D → Sto → Res D := fun d g => match lstAt g d with
  | some (n, xs) => match xs[xs.length - 1]? with
    | some y => .ok y (g.set n (.lst xs.dropLast))
    | none => .stuck
  | none => .stuck
theorem Rl.dropLast {m : Mv} {H : Hp} {ds : List D} {vs : List V} (r : Rl S m H ds vs) : Rl S m H ds.dropLast vs.dropLast := by
  rw [List.dropLast_eq_take, List.dropLast_eq_take, r.length]
  exact r.take _
theorem e_popS {o : Expr} {f : E1} {apos cpos : Pos} (ho : Pe X S W o f)
    (hbase : attributeBase o "pop" X.env (eval o X.env) = eval o X.env := by rfl) (hline : (apos.endLine == cpos.line) = true := by rfl) :
    Pe X S W (.Call (.Attribute o "pop" apos) [] [] cpos) (eU sPop f) :=
  PE.to (pe_bm0 PySem.F.plainAttrs_list PySem.F.slot_list_pop PySem.F.type_list_pop mt_pop ho hbase hline) fun σ H Q q => Tv.one (Ra := RT S) q fun env m g H1 d x rel _ ⟨_, ra⟩ p => by
    unfold sPop at p
    split at p
    · rename_i n xs e1
      obtain ⟨a, vs, rfl, hn, hH, rl⟩ := lstAt_ok rel.mem e1 ra
      refine ⟨.inl ⟨rfl, _, SqL.of hH⟩, ?_⟩
      split at p
      · rename_i y e2
        obtain ⟨v, ev, rv⟩ := rl.get e2
        rw [rl.length] at ev
        obtain ⟨gr, ok⟩ := put_lst rel.mem hn rl.dropLast
        exact ⟨a, vs, v, rfl, rfl, hH, ev, p v _ m gr ok (rv.grow rel.mem (gr.s rel.mem.muW))⟩
      · exact p.elim
    · exact p.elim
/-- o.append(e) -/
def sApp : D → D → Sto → Res D := fun d b g => match lstAt g d with
  | some (n, xs) => if xs.length < big then .ok .non (g.set n (.lst (xs ++ [b]))) else .stuck
  | none => .stuck
def eApp (f h : E1) : E1 := fun env g => (f env g).bind fun a g1 => if (lstAt g1 a).isSome = true then (h env g1).bind fun b g2 => sApp a b g2 else .stuck
theorem e_appS {o e : Expr} {f h : E1} {apos cpos : Pos} (ho : Pe X S W o f) (he : Pe X S W e h) (hst : starEach [e] X.env = (false, eval e X.env) :: starEach [] X.env := by rfl)
    (hbase : attributeBase o "append" X.env (eval o X.env) = eval o X.env := by rfl) (hline : (apos.endLine == cpos.line) = true := by rfl)
    (hfew : ((backTo cpos (starEach [e] X.env)).all (fun x => !x.1) && (backToKw cpos (keywordEach [] X.env)).all (fun x => x.1.isSome) && decide (([e] : List Expr).length + ([] : List Keyword).length + (if ([] : List Keyword).isEmpty then 0 else 1) < 30)) = true := by rfl) :
    Pe X S W (.Call (.Attribute o "append" apos) [e] [] cpos) (eApp f h) :=
  PE.to (pe_bm PySem.F.plainAttrs_list PySem.F.slot_list_append PySem.F.type_list_append mt_append ho (pa_cons he pa_nil hst) hbase hfew hline hst) fun σ H Q q =>
    Tv.go (Ra := RT S) (k := fun a env g1 => if (lstAt g1 a).isSome = true then (h env g1).bind fun b g2 => sApp a b g2 else .stuck) q fun env m g H1 d x rel fz ra p => by
      split at p
      · rename_i hi
        obtain ⟨⟨n, xs⟩, e1⟩ := Option.isSome_iff_exists.mp hi
        obtain ⟨a, vs, rfl, hn, hH, rl⟩ := lstAt_ok rel.mem e1 ra
        refine ⟨.inl ⟨rfl, _, SqL.of hH⟩, env, g, m, rel, (Post.bind (R := RT S) (H0 := H1) p).q fun y H2 ⟨b, g2, m2, gr2, ok2, rb, p2⟩ => ?_⟩
        unfold sApp at p2
        split at p2
        · rename_i n' ys e2
          obtain ⟨a', vs', e', hn', hH', rl'⟩ := lstAt_ok ok2 e2 (ra.grow rel.mem (gr2.s rel.mem.muW))
          cases e'
          split at p2
          · rename_i c
            obtain ⟨gr, ok⟩ := put_lst ok2 hn' (Rl.append rl' (.cons rb .nil))
            exact ⟨a, vs', y, rfl, rfl, hH', by rw [← rl'.length]; exact big_lt c, p2 .non _ m2 gr ok .non⟩
          · exact p2.elim
        · exact p2.elim
      · exact p.elim
/-- o[i] = e, a list of the store -/
def sPut : D → D → D → Sto → Res D := fun v o i g => match lstAt g o, i with
  | some (n, xs), .int k => match ixN xs.length k with
    | some j => .ok .non (g.set n (.lst (xs.set j v)))
    | none => .stuck
  | _, _ => .stuck
def eSet3 (sem : D → D → D → Sto → Res D) (fe fo fi : E1) : E1 := fun env g => (fe env g).bind fun v g1 => (fo env g1).bind fun o g2 => (fi env g2).bind fun i g3 => sem v o i g3
theorem set_any {e o i : Expr} {fe fo fi : E1} {sem : D → D → D → Sto → Res D} {t : TSet} {p1 pos : Pos} (ht : PSet X t)
    (hs : ∀ (σ : St) (H0 : Hp) (m : Mv) (g : Sto) (H : Hp) (v o i : D) (x y z : V) (Q : Hp → Prop), MOk S H g m → Rr S m H v x → Rr S m H o y → Rr S m H i z → Post S (RT S) W σ H0 (sem v o i g) m H (fun _ => Q) → t y z x H Q)
    (he : Pe X S W e fe) (ho : Pe X S W o fo) (hi : Pe X S W i fi)
    (ha : ∀ v, assign (.Subscript o i p1) X.env v = (do
      let ov ← holding [v] (eval o X.env)
      let iv ← holding [v, ov] (eval i X.env)
      standAt p1
      holding [v, ov, iv] (setItem ov iv v)
      release [v, ov, iv] []) := by intro _; rfl)
    (hsw : swapsWithSole [.Subscript o i p1] e pos.line X.env = pure false := by rfl) (hw : swappedStores [.Subscript o i p1] e X.env = pure none := by rfl)
    (h1 : (assignEach [.Subscript o i p1] X.env).map (·.2) = [assign (.Subscript o i p1) X.env] := by rfl) : Ps X S W (.Assign [.Subscript o i p1] e pos) (sDo (eSet3 sem fe fo fi)) :=
  PS.to (ps_asg he (pg_sub ho hi ht ha) hsw hw h1) fun E σ H h => by
    have h1 : Tv S (RT S) W (eSet3 sem fe fo fi) σ H (fun _ H1 => E.nx σ H1) := Tv.st (R := RT S) h fun env g0 g m0 m H1 a x r0 gr r1 ra p => p σ H1 m (.refl m H1) r1
    refine Tv.go (Ra := RT S) (k := fun v env g1 => (fo env g1).bind fun o g2 => (fi env g2).bind fun i g3 => sem v o i g3) h1 fun env m g H1 v x rel fz ra p => ?_
    refine ⟨env, g, m, rel, (Post.bind (R := RT S) (H0 := H1) p).q fun y H2 ⟨o', g2, m2, gr2, ok2, ro, p2⟩ => ?_⟩
    have rel2 := rel.grow gr2 ok2
    refine ⟨env, g2, m2, rel2, (Post.bind (R := RT S) (H0 := H2) p2).q fun z H3 ⟨i', g3, m3, gr3, ok3, ri, p3⟩ => ?_⟩
    exact hs σ H m3 g3 H3 v o' i' x y z _ ok3 ((ra.grow rel.mem (gr2.s rel.mem.muW)).grow ok2 (gr3.s ok2.muW)) (Rr.grow ok2 (gr3.s ok2.muW) ro) ri p3
theorem s_putS {e o i : Expr} {fe fo fi : E1} {p1 pos : Pos} (he : Pe X S W e fe) (ho : Pe X S W o fo) (hi : Pe X S W i fi)
    (ha : ∀ v, assign (.Subscript o i p1) X.env v = (do
      let ov ← holding [v] (eval o X.env)
      let iv ← holding [v, ov] (eval i X.env)
      standAt p1
      holding [v, ov, iv] (setItem ov iv v)
      release [v, ov, iv] []) := by intro _; rfl)
    (hsw : swapsWithSole [.Subscript o i p1] e pos.line X.env = pure false := by rfl) (hw : swappedStores [.Subscript o i p1] e X.env = pure none := by rfl)
    (h1 : (assignEach [.Subscript o i p1] X.env).map (·.2) = [assign (.Subscript o i p1) X.env] := by rfl) : Ps X S W (.Assign [.Subscript o i p1] e pos) (sDo (eSet3 sPut fe fo fi)) :=
  set_any set_list (fun σ H0 m g H v o i x y z Q ok rv ro ri p => by
    unfold sPut at p
    split at p
    · rename_i n xs k e1
      obtain ⟨a, vs, rfl, hn, hH, rl⟩ := lstAt_ok ok e1 ro
      have ez := ri.int_inv
      subst ez
      split at p
      · rename_i j e2
        obtain ⟨gr, ok'⟩ := put_lst ok hn (Rl.set rv j rl)
        exact ⟨a, vs, k, j, rfl, rfl, hH, by rw [← rl.length]; exact e2, p .non _ m gr ok' .non⟩
      · exact p.elim
    · exact p.elim) he ho hi ha hsw hw h1
/-! ### xs[::-1] -/
def sRev : D → Sto → Res D
  | .lst xs, g => .ok (.lst xs.reverse) g
  | _, _ => .stuck
theorem Rl.reverse {m : Mv} {H : Hp} : ∀ {ds : List D} {vs : List V}, Rl S m H ds vs → Rl S m H ds.reverse vs.reverse
  | _, _, .nil => .nil
  | _, _, .cons r t => by simp only [List.reverse_cons]; exact Rl.append (Rl.reverse t) (.cons r .nil)
theorem f_rev {e : Expr} {f : E1} {k : Nat} {p1 p2 p3 pos : Pos} (hK : S.K = X.K) (he : Pb X S W e f) : Pf X S W (.Subscript e (.Slice none none (some (.UnaryOp .USub (.Constant (.int 1) k p1) p2)) p3) pos) (eU sRev f) :=
  PE.to (pe_revL he) fun σ H Q q => Tv.one (Ra := RB S) q fun env m g H1 d x rel fz ⟨_, ra⟩ p => by
    cases d with
    | lst xs =>
      obtain ⟨a, vs, rfl, hs, rl⟩ := ra.lst
      exact ⟨a, vs, rfl, hK ▸ hs, fun q hq => p.ownL rel.mem rl.reverse hq fz⟩
    | _ => exact p.elim
/-! ### found.append(left.pop(e)), both one's own -/
def putAppPop (i j : Nat) (d : D) (env : Env) (g : Sto) : SRes := match env[i]?, env[j]?, d with
  | some (.ow (.lst xs)), some (.ow (.lst ys)), .int k => if xs.length < big ∧ -(2 ^ 63) ≤ k ∧ k < 2 ^ 63 then (match seqIndex? k ys.length with
    | some n => match ys[n]? with
      | some y => .nx ((env.set j (.ow (.lst (ys.eraseIdx n)))).set i (.ow (.lst (xs ++ [y])))) g
      | none => .stuck
    | none => .stuck) else .stuck
  | _, _, _ => .stuck
def sAppPop (i j : Nat) (f : E1) : Sd := fun env g => if isOwL env i = true ∧ isOwL env j = true then thenS f (putAppPop i j) env g else .stuck
theorem Rl.erase {m : Mv} {H : Hp} : ∀ {ds : List D} {vs : List V} (n : Nat), Rl S m H ds vs → Rl S m H (ds.eraseIdx n) (vs.eraseIdx n)
  | _, _, _, .nil => by simp only [List.eraseIdx_nil]; exact .nil
  | _, _, 0, .cons _ t => t
  | _, _, n + 1, .cons r t => .cons r (Rl.erase n t)
theorem s_appPop {i j : Nat} {o l e : Expr} {f : E1} {ap1 cp1 apos cpos pos : Pos} (hij : i ≠ j) (hv : PE X o (tVar i)) (hl : PE X l (tVar j)) (he : Pe X S W e f)
    (hst : starEach [e] X.env = (false, eval e X.env) :: starEach [] X.env := by rfl)
    (hbase1 : attributeBase l "pop" X.env (eval l X.env) = eval l X.env := by rfl) (hline1 : (ap1.endLine == cp1.line) = true := by rfl)
    (hfew1 : ((backTo cp1 (starEach [e] X.env)).all (fun x => !x.1) && (backToKw cp1 (keywordEach [] X.env)).all (fun x => x.1.isSome) && decide (([e] : List Expr).length + ([] : List Keyword).length + (if ([] : List Keyword).isEmpty then 0 else 1) < 30)) = true := by rfl)
    (hst2 : starEach [.Call (.Attribute l "pop" ap1) [e] [] cp1] X.env = (false, eval (.Call (.Attribute l "pop" ap1) [e] [] cp1) X.env) :: starEach [] X.env := by rfl)
    (hbase : attributeBase o "append" X.env (eval o X.env) = eval o X.env := by rfl) (hline : (apos.endLine == cpos.line) = true := by rfl)
    (hs : swapsWith (.Call (.Attribute o "append" apos) [.Call (.Attribute l "pop" ap1) [e] [] cp1] [] cpos) none pos.line X.env = pure false := by rfl)
    (hfew : ((backTo cpos (starEach [.Call (.Attribute l "pop" ap1) [e] [] cp1] X.env)).all (fun x => !x.1) && (backToKw cpos (keywordEach [] X.env)).all (fun x => x.1.isSome) && decide (([.Call (.Attribute l "pop" ap1) [e] [] cp1] : List Expr).length + ([] : List Keyword).length + (if ([] : List Keyword).isEmpty then 0 else 1) < 30)) = true := by rfl) :
    Ps X S W (.Expr (.Call (.Attribute o "append" apos) [.Call (.Attribute l "pop" ap1) [e] [] cp1] [] cpos) pos) (sAppPop i j f) :=
  PS.to (ps_expr (pe_bm PySem.F.plainAttrs_list PySem.F.slot_list_append PySem.F.type_list_append mt_append hv (pa_cons (pe_bm PySem.F.plainAttrs_list PySem.F.slot_list_pop PySem.F.type_list_pop mt_popAt hl (pa_cons he pa_nil hst) hbase1 hfew1 hline1 hst) pa_nil hst2) hbase hfew hline hst2) hs) fun E σ H ⟨env, g, m, r, p⟩ => by
    unfold sAppPop at p
    split at p
    · rename_i hL
      obtain ⟨xs, e1⟩ := isOwL_ok hL.1
      obtain ⟨ys, e2⟩ := isOwL_ok hL.2
      obtain ⟨a, vs, es, hw, hm, hH, rl⟩ := ow_lst r e1
      obtain ⟨b, us, es2, hw2, hm2, hH2, rl2⟩ := ow_lst r e2
      refine ⟨.ref a, es, .inl ⟨rfl, _, SqL.of hH⟩, .ref b, es2, .inl ⟨rfl, _, SqL.of hH2⟩, ?_⟩
      refine Tv.st (R := RT S) (k := putAppPop i j) ⟨env, g, m, r, p⟩ fun env g0 g m0 m H1 d y r0 gr r1 ra p => ?_
      unfold putAppPop at p
      split at p
      · rename_i xs' ys' k e3 e4
        obtain ⟨a', vs', es', hw', hm', hH', rl'⟩ := ow_lst r1 e3
        obtain ⟨b', us', es2', hw2', hm2', hH2', rl2'⟩ := ow_lst r1 e4
        rw [es] at es'
        cases es'
        rw [es2] at es2'
        cases es2'
        have ey := ra.int_inv
        subst ey
        split at p
        · rename_i c
          split at p
          · rename_i n e5
            split at p
            · rename_i z e6
              obtain ⟨v, e7, rv⟩ := rl2'.get e6
              have hab : a ≠ b := fun q => hij (r1.own i j _ _ a e3 e4 es (by rw [q]; exact es2))
              refine ⟨b, us', k, n, v, rfl, rfl, hH2', c.2.1, c.2.2, by rw [← rl2'.length]; exact e5, e7, ?_⟩
              have q1 : GrowS m H1 m (upd H1 b (.lst (us'.eraseIdx n))) := grow_put hw2'
              have r2 := r1.put e4 es2 (o := .lst (us'.eraseIdx n)) (d' := .lst (ys'.eraseIdx n)) trivial (.lst upd_same (Rl.grow r1.mem q1 (rl2'.erase n)))
              have e3' : (env.set j (.ow (.lst (ys'.eraseIdx n))))[i]? = some (.ow (.lst xs')) := by rw [List.getElem?_set_ne (Ne.symm hij)]; exact e3
              have hH3 : upd H1 b (.lst (us'.eraseIdx n)) a = some (.lst vs') := by rw [upd_ne hab]; exact hH'
              have q2 : GrowS m (upd H1 b (.lst (us'.eraseIdx n))) m (upd (upd H1 b (.lst (us'.eraseIdx n))) a (.lst (vs' ++ [v]))) := grow_put hw'
              refine ⟨a, vs', v, rfl, rfl, hH3, by rw [← rl'.length]; exact big_lt c.1, p _ _ m (q1.trans q2) (r2.put e3' es trivial (.lst upd_same ?_))⟩
              exact Rl.append (Rl.grow r2.mem q2 (Rl.grow r1.mem q1 rl')) (.cons (Rr.grow r2.mem q2 (Rr.grow r1.mem q1 rv)) .nil)
            · exact p.elim
          · exact p.elim
        · exact p.elim
      · exact p.elim
    · exact p.elim
/-! ### x += e, ints -/
def sAugI (i : Nat) (p : Int → Int → Int) (f : E1) : Sd := fun env g => match env[i]? with
  | some (.sh (.int a)) => thenS f (fun d env g => match d with
    | .int b => .nx (env.set i (.sh (.int (p a b)))) g
    | _ => .stuck) env g
  | _ => .stuck
theorem s_augI {i : Nat} {x : Str} {e : Expr} {f : E1} {op : Operator} {q : Int → Int → Int} {pos pos' : Pos} (ho : PIp X op (ipI q)) (hN : X.N.Nodup) (hi : X.N[i]? = some x) (hx : Loc X.env.scope x) (he : Pe X S W e f) (hf : X.fn x = true ∨ X.env.scope.names.lookup x = some .local := by first | exact .inl rfl | exact .inr rfl | assumption) :
    Ps X S W (.AugAssign (.Name x pos') op e pos) (sAugI i q f) :=
  PS.to (ps_aug hN hi hx he ho hf) fun E σ H ⟨env, g, m, r, p⟩ => by
    unfold sAugI at p
    split at p
    · rename_i a e1
      obtain ⟨ov, e2, v, rfl, rv⟩ := r.at e1
      have ev := rv.int_inv
      subst ev
      refine ⟨.int a, e2, ?_⟩
      refine Tv.st (R := RT S) (k := fun d env g => match d with
        | .int b => .nx (env.set i (.sh (.int (q a b)))) g
        | _ => .stuck) ⟨env, g, m, r, p⟩ fun env g0 g m0 m H1 d y r0 gr r1 ra p => ?_
      cases d with
      | int b => exact ⟨a, b, rfl, ra.int_inv, p _ H1 m (.refl m H1) (r1.set i (.int _))⟩
      | _ => exact p.elim
    · exact p.elim
end
end Ev
/-! list(zip(x, y)) of two tuples. -/
namespace Ev
open PySem PySem.Spec PyProof.Rows L2
section
variable {prog : Program} {w : World} {A : Around} {s : Shared}
/-- the zip's next pair while an elder pair is out -/
theorem zh_item {E : Value → Shared → Prop} {z p q T c d l r : Addr} {fl : Bool} {oT : Obj} {j k : Nat} {us ws : Array Value} {u v : Value} {Q : Option Value → Shared → Prop} (ap : ZipApart z p q c d l r)
    (kz : IsZipHeld s.heap z p q T fl) (kT : s.heap.get? T = some oT) (kp : IsPair s.heap p (.ref c) (.ref d)) (kc : s.heap.IsTupleIter c l j) (kd : s.heap.IsTupleIter d r k)
    (kl : s.heap.IsTuple l us) (kr : s.heap.IsTuple r ws) (hu : us[j]? = some u) (hv : ws[k]? = some v)
    (fin : ∀ h', IsZipHeld h' z p q T true → h'.IsTupleIter c l (j + 1) → h'.IsTupleIter d r (k + 1) → IsPair h' s.heap.objs.size u v → h'.objs.size = s.heap.objs.size + 1 →
      (∀ b o, b ≠ z → b ≠ c → b ≠ d → s.heap.get? b = some o → h'.get? b = some o) → Q (some (.ref s.heap.objs.size)) { s with heap := h' }) :
    wpAny (model prog w) A (pyNext (.ref z)) Q E s := by
  have ty : s.TypeIs (.ref z) "zip" := ⟨_, kz, rfl⟩
  unfold pyNext
  refine wpAny_bind (wpAny_attempt (wpAny_callSpecial?_slot (name := Str.ofString "__next__") ty F.slot_zip_next (wpAny_call_entry F.slot_zip_next ty F.entry_zip_next ?_ (F.args_zip_next_1 _))))
  show wpAny _ _ (field (.ref z) 2 >>= _) _ _ s
  refine wpAny_bind (wpAny_field kz rfl (x := .bool false) rfl ?_)
  show wpAny _ _ (field (.ref z) 3 >>= _) _ _ s
  refine wpAny_bind (wpAny_field kz rfl (x := .ref p) rfl (wpAny_bind (wpAny_seqItems kp rfl ?_)))
  show wpAny _ _ (Builtin.SmallTypes.ownedTupleIsFree (.ref z) >>= _) _ _ s
  refine wpAny_bind (wpAny_tupleHeld_zip kz kT fun g1 z1 b1 => ?_)
  simp only [Bool.false_eq_true, if_false]
  refine wpAny_bind ?_
  rw [← Array.forIn_toList]
  simp only [List.forIn_cons, List.forIn_nil]
  refine wpAny_bind (wpAny_bind (wpAny_holding ?_))
  show wpAny _ _ (Builtin.SmallTypes.nextOf (.ref c) >>= _) _ _ _
  refine wpAny_bind (RZ.nextOf_tuple_item (s := { s with heap := g1 }) (kc.extBut b1.extBut ap.i1z) (kl.extBut b1.extBut ap.l1z) hu fun g2 c2 b2 => wpAny_pure (wpAny_pure ?_))
  refine wpAny_bind (wpAny_bind (wpAny_holding ?_))
  show wpAny _ _ (Builtin.SmallTypes.nextOf (.ref d) >>= _) _ _ _
  refine wpAny_bind (RZ.nextOf_tuple_item (s := { s with heap := g2 }) ((kd.extBut b1.extBut ap.i2z).extBut b2.extBut ap.i12.symm) ((kr.extBut b1.extBut ap.l2z).extBut b2.extBut ap.l2i1) hv fun g3 d3 b3 => wpAny_pure (wpAny_pure (wpAny_pure ?_)))
  show wpAny _ _ (newTuple [u, v] >>= _) _ _ _
  refine wpAny_bind (wpAny_newTuple (wpAny_pure ⟨_, rfl, wpAny_pure ?_⟩))
  have sz : g3.objs.size = s.heap.objs.size := by rw [b3.1, b2.1, b1.1]
  have z3 : IsZipHeld g3 z p q T true := b3.extBut _ _ ap.i2z.symm (b2.extBut _ _ ap.i1z.symm z1)
  have kk : ∀ b o, b ≠ z → b ≠ c → b ≠ d → s.heap.get? b = some o → g3.get? b = some o := fun b o n1 n2 n3 e => b3.extBut _ _ n3 (b2.extBut _ _ n2 (b1.extBut _ _ n1 e))
  have c3 : g3.IsTupleIter c l (j + 1) := c2.extBut b3.extBut ap.i12
  show Q (some (.ref g3.objs.size)) _
  have np : IsPair (g3.push { cls := .type "tuple", data := .seq #[u, v] }) g3.objs.size u v := Heap.get?_push_size _ rfl
  have ns : (g3.push { cls := .type "tuple", data := .seq #[u, v] }).objs.size = g3.objs.size + 1 := Heap.size_push ..
  rw [sz] at np ns ⊢
  exact fin _ (Heap.get?_push_of_some _ z3) (c3.at fun _ e => Heap.get?_push_of_some _ e) (d3.at fun _ e => Heap.get?_push_of_some _ e) np ns fun b o n1 n2 n3 e => Heap.get?_push_of_some _ (kk b o n1 n2 n3 e)
theorem zh_end {E : Value → Shared → Prop} {z p q T c d l r : Addr} {fl : Bool} {oT : Obj} {j k : Nat} {us ws : Array Value} {Q : Option Value → Shared → Prop} (hh : A.handled = none) (ap : ZipApart z p q c d l r)
    (kz : IsZipHeld s.heap z p q T fl) (kT : s.heap.get? T = some oT) (kp : IsPair s.heap p (.ref c) (.ref d)) (kc : s.heap.IsTupleIter c l j) (kd : s.heap.IsTupleIter d r k)
    (kl : s.heap.IsTuple l us) (kr : s.heap.IsTuple r ws) (no : us[j]? = none ∨ ws[k]? = none)
    (fin : ∀ h', (∀ b o, b ≠ z → b ≠ c → b ≠ d → s.heap.get? b = some o → h'.get? b = some o) → Q none { s with heap := h' }) :
    wpAny (model prog w) A (pyNext (.ref z)) Q E s := by
  have ty : s.TypeIs (.ref z) "zip" := ⟨_, kz, rfl⟩
  have last : ∀ h' e, (∀ b o, b ≠ z → b ≠ c → b ≠ d → s.heap.get? b = some o → h'.get? b = some o) → (∃ o, h'.get? e = some o ∧ o.cls = .type "StopIteration") → wpAny (model prog w) A (isInstance (.ref e) (.type "StopIteration") >>= fun b => if b = true then pure none else throw (.ref e)) Q E { s with heap := h' } := fun h' e k1 ⟨o, k2, k3⟩ =>
    wpAny_bind (wpAny_isInstance (T := "StopIteration") (b := true) ⟨o, k2, k3⟩ isSubtype_stop (wpAny_pure (fin _ k1)))
  unfold pyNext
  refine wpAny_bind (wpAny_attempt (wpAny_callSpecial?_slot (name := Str.ofString "__next__") ty F.slot_zip_next (wpAny_call_entry F.slot_zip_next ty F.entry_zip_next ?_ (F.args_zip_next_1 _))))
  show wpAny _ _ (field (.ref z) 2 >>= _) _ _ s
  refine wpAny_bind (wpAny_field kz rfl (x := .bool false) rfl ?_)
  show wpAny _ _ (field (.ref z) 3 >>= _) _ _ s
  refine wpAny_bind (wpAny_field kz rfl (x := .ref p) rfl (wpAny_bind (wpAny_seqItems kp rfl ?_)))
  show wpAny _ _ (Builtin.SmallTypes.ownedTupleIsFree (.ref z) >>= _) _ _ s
  refine wpAny_bind (wpAny_tupleHeld_zip kz kT fun g1 z1 b1 => ?_)
  simp only [Bool.false_eq_true, if_false]
  refine wpAny_bind ?_
  rw [← Array.forIn_toList]
  simp only [List.forIn_cons, List.forIn_nil]
  refine wpAny_bind (wpAny_bind (wpAny_holding ?_))
  show wpAny _ _ (Builtin.SmallTypes.nextOf (.ref c) >>= _) _ _ _
  cases hu : us[j]? with
  | none => exact wpAny_bind (RZ.nextOf_tuple_end (s := { s with heap := g1 }) hh (kc.extBut b1.extBut ap.i1z) (kl.extBut b1.extBut ap.l1z) hu fun g2 e b2 he => last g2 e (fun b o n1 n2 _ y => b2 _ _ n2 (b1.extBut _ _ n1 y)) he)
  | some u =>
    have hv : ws[k]? = none := no.elim (fun y => by rw [hu] at y; cases y) id
    refine wpAny_bind (RZ.nextOf_tuple_item (s := { s with heap := g1 }) (kc.extBut b1.extBut ap.i1z) (kl.extBut b1.extBut ap.l1z) hu fun g2 c2 b2 => wpAny_pure (wpAny_pure ?_))
    refine wpAny_bind (wpAny_bind (wpAny_holding ?_))
    show wpAny _ _ (Builtin.SmallTypes.nextOf (.ref d) >>= _) _ _ _
    exact wpAny_bind (RZ.nextOf_tuple_end (s := { s with heap := g2 }) hh ((kd.extBut b1.extBut ap.i2z).extBut b2.extBut ap.i12.symm) ((kr.extBut b1.extBut ap.l2z).extBut b2.extBut ap.l2i1) hv fun g3 e b3 he => last g3 e (fun b o n1 n2 n3 y => b3 _ _ n3 (b2.extBut _ _ n2 (b1.extBut _ _ n1 y))) he)
/-- the zip over the tuples at l, r: the next pair is the i-th -/
structure Zs (z p q c d l r S : Addr) (us ws : Array Value) (i : Nat) (h : Heap) : Prop where
  kp : IsPair h p (.ref c) (.ref d)
  kc : h.IsTupleIter c l i
  kd : h.IsTupleIter d r i
  kl : h.IsTuple l us
  kr : h.IsTuple r ws
  out : (IsZip h z p q .none ∧ ∃ x y, IsPair h q x y) ∨ ∃ T f oT, IsZipHeld h z p q T f ∧ h.get? T = some oT ∧ T ≠ z ∧ T ≠ c ∧ T ≠ d ∧ T ≠ S
theorem Zs.stay {z p q c d l r S : Addr} {us ws : Array Value} {i : Nat} {h h' : Heap} (k : Zs z p q c d l r S us ws i h) (n : z ≠ S ∧ p ≠ S ∧ q ≠ S ∧ c ≠ S ∧ d ≠ S ∧ l ≠ S ∧ r ≠ S) (e : ∀ b o, b ≠ S → h.get? b = some o → h'.get? b = some o) : Zs z p q c d l r S us ws i h' := by
  obtain ⟨n1, n2, n3, n4, n5, n6, n7⟩ := n
  obtain ⟨x1, x2, x3, ⟨ol, el, yl⟩, ⟨or', er, yr⟩, x6⟩ := k
  refine ⟨e _ _ n2 x1, x2.at fun o => e _ o n4, x3.at fun o => e _ o n5, ⟨ol, e _ _ n6 el, yl⟩, ⟨or', e _ _ n7 er, yr⟩, ?_⟩
  rcases x6 with ⟨y1, x, y, y2⟩ | ⟨T, f, oT, y1, y2, y3, y4, y5, y6⟩
  · exact .inl ⟨e _ _ n1 y1, x, y, e _ _ n3 y2⟩
  · exact .inr ⟨T, f, oT, e _ _ n1 y1, e _ _ y6 y2, y3, y4, y5, y6⟩
theorem Zs.step {E : Value → Shared → Prop} {z p q c d l r S : Addr} {us ws : Array Value} {i : Nat} {Q : Option Value → Shared → Prop} (ap : ZipApart z p q c d l r) (k : Zs z p q c d l r S us ws i s.heap) (kS : S < s.heap.objs.size) (hz : z < s.heap.objs.size) {u v : Value} (hu : us[i]? = some u) (hv : ws[i]? = some v)
    (fin : ∀ h', Zs z p q c d l r S us ws (i + 1) h' → IsPair h' s.heap.objs.size u v → h'.objs.size = s.heap.objs.size + 1 → (∀ b o, b ≠ z → b ≠ q → b ≠ c → b ≠ d → s.heap.get? b = some o → h'.get? b = some o) → Q (some (.ref s.heap.objs.size)) { s with heap := h' }) :
    wpAny (model prog w) A (pyNext (.ref z)) Q E s := by
  obtain ⟨x1, x2, x3, x4, x5, x6⟩ := k
  obtain ⟨_, ec, _⟩ := id x2
  obtain ⟨_, ed, _⟩ := id x3
  obtain ⟨ol, el, yl⟩ := id x4
  obtain ⟨or', er, yr⟩ := id x5
  have lc := Heap.lt_size ec
  have ld := Heap.lt_size ed
  rcases x6 with ⟨y1, x, y, y2⟩ | ⟨T, f, oT, y1, y2, y3, y4, y5, y6⟩
  · refine RZ.pyNext_zipT_item ap y1 x1 y2 x2 x3 x4 x5 hu hv fun h' a1 a2 a3 a4 a5 a6 a7 => fin h' ⟨a7 _ _ ap.TIz ap.TITO ap.TIi1 ap.TIi2 x1, a3, a4, ⟨ol, a7 _ _ ap.l1z ap.l1TO ap.l1i1 ap.l1i2 el, yl⟩, ⟨or', a7 _ _ ap.l2z ap.l2TO ap.l2i1 ap.l2i2 er, yr⟩, .inr ⟨_, false, _, a1, a5, ?_, ?_, ?_, ?_⟩⟩ a5 a6 a7
    · exact Nat.ne_of_gt hz
    · exact Nat.ne_of_gt lc
    · exact Nat.ne_of_gt ld
    · exact Nat.ne_of_gt kS
  · exact zh_item ap y1 y2 x1 x2 x3 x4 x5 hu hv fun h' a1 a3 a4 a5 a6 a7 => fin h' ⟨a7 _ _ ap.TIz ap.TIi1 ap.TIi2 x1, a3, a4, ⟨ol, a7 _ _ ap.l1z ap.l1i1 ap.l1i2 el, yl⟩, ⟨or', a7 _ _ ap.l2z ap.l2i1 ap.l2i2 er, yr⟩, .inr ⟨T, true, oT, a1, a7 _ _ y3 y4 y5 y2, y3, y4, y5, y6⟩⟩ a5 a6 fun b o n1 _ n3 n4 e => a7 b o n1 n3 n4 e
theorem Zs.halt {E : Value → Shared → Prop} {z p q c d l r S : Addr} {us ws : Array Value} {i : Nat} {Q : Option Value → Shared → Prop} (hh : A.handled = none) (ap : ZipApart z p q c d l r) (k : Zs z p q c d l r S us ws i s.heap) (no : us[i]? = none ∨ ws[i]? = none)
    (fin : ∀ h', (∀ b o, b ≠ z → b ≠ q → b ≠ c → b ≠ d → s.heap.get? b = some o → h'.get? b = some o) → Q none { s with heap := h' }) :
    wpAny (model prog w) A (pyNext (.ref z)) Q E s := by
  obtain ⟨x1, x2, x3, x4, x5, x6⟩ := k
  rcases x6 with ⟨y1, x, y, y2⟩ | ⟨T, f, oT, y1, y2, y3, y4, y5, y6⟩
  · exact RZ.pyNext_zipT_end hh ap y1 x1 y2 x2 x3 x4 x5 no fin
  · exact zh_end hh ap y1 y2 x1 x2 x3 x4 x5 no fun h' k => fin h' fun b o n1 _ n3 n4 e => k b o n1 n3 n4 e
/-- what was gathered: the pairs' addresses -/
structure Zg (us ws : Array Value) (S : Addr) (h : Heap) (ts : List Addr) : Prop where
  rise : ts.Pairwise (· < ·)
  room : ∀ t ∈ ts, S < t ∧ t < h.objs.size
  pair : ∀ (j : Nat) (t : Addr), ts[j]? = some t → ∃ u v, us[j]? = some u ∧ ws[j]? = some v ∧ IsPair h t u v
theorem zl_loop {R : Result → Shared → Prop} {z p q c d l r S : Addr} {us ws : Array Value} (hh : A.handled = none) (ap : ZipApart z p q c d l r) (ns : z < S ∧ p < S ∧ q < S ∧ c < S ∧ d < S ∧ l < S ∧ r < S) (fit : us.size ≤ sizeLine) (res : Value) {h0 : Heap}
    (old : ∀ b o, h0.get? b = some o → b < z ∧ b ≠ z ∧ b ≠ q ∧ b ≠ c ∧ b ≠ d)
    (fin : ∀ h' tk acc k ts, (∀ b o, h0.get? b = some o → h'.get? b = some o) → h'.get? S = some { cls := .type "list", dict := none, data := .seq acc k, slots := #[] } → ts.length = min us.size ws.size → Zg us ws S h' ts → acc.toList = ts.map Value.ref → R (.ok (.ret res)) { s with heap := h', toks := tk }) :
    ∀ (m i : Nat) (h : Heap) (tk k : Nat) (acc : Array Value) (ts : List Addr), min us.size ws.size - i = m → i ≤ min us.size ws.size → Zs z p q c d l r S us ws i h → (∀ b o, h0.get? b = some o → h.get? b = some o) → h.get? S = some { cls := .type "list", dict := none, data := .seq acc k, slots := #[] } → acc.toList = ts.map Value.ref → ts.length = i → Zg us ws S h ts →
      codeAny (model prog w) A (.builtin "list.extend.loop" ⟨[.ref S, .ref z, res], []⟩) R { s with heap := h, toks := tk } := by
  intro m
  induction m with
  | zero =>
    intro i h tk k acc ts hm hi st kb kS ka kt g
    have ei : i = min us.size ws.size := by omega
    refine codeAny_builtin PySem.F.entry_extend_loop ?_
    rw [Around.under_plainId PySem.F.plain_extend_loop _]
    show wpAny _ A.in1 (pyNext (.ref z) >>= _) _ _ _
    refine wpAny_bind (Zs.halt (s := { s with heap := h, toks := tk }) (A := A.in1) hh ap st ?_ fun h' kk => wpAny_pure (fin h' tk acc k ts (fun b o e => ?_) ?_ (by omega) ⟨g.rise, fun t ht => ?_, fun j t hj => ?_⟩ ka))
    · by_cases y : us.size ≤ i
      · exact .inl (by simp; omega)
      · exact .inr (by simp; omega)
    · obtain ⟨_, n1, n2, n3, n4⟩ := old b o e
      exact kk b o n1 n2 n3 n4 (kb b o e)
    · exact kk S _ (Nat.ne_of_gt ns.1) (Nat.ne_of_gt ns.2.2.1) (Nat.ne_of_gt ns.2.2.2.1) (Nat.ne_of_gt ns.2.2.2.2.1) kS
    · obtain ⟨r1, _⟩ := g.room t ht
      obtain ⟨j, hj⟩ := List.mem_iff_getElem?.mp ht
      obtain ⟨_, _, _, _, pp⟩ := g.pair j t hj
      exact ⟨r1, Heap.lt_size (kk t _ (Nat.ne_of_gt (Nat.lt_trans ns.1 r1)) (Nat.ne_of_gt (Nat.lt_trans ns.2.2.1 r1)) (Nat.ne_of_gt (Nat.lt_trans ns.2.2.2.1 r1)) (Nat.ne_of_gt (Nat.lt_trans ns.2.2.2.2.1 r1)) pp)⟩
    · obtain ⟨u, v, e1, e2, pp⟩ := g.pair j t hj
      obtain ⟨r1, _⟩ := g.room t (List.mem_of_getElem? hj)
      exact ⟨u, v, e1, e2, kk t _ (Nat.ne_of_gt (Nat.lt_trans ns.1 r1)) (Nat.ne_of_gt (Nat.lt_trans ns.2.2.1 r1)) (Nat.ne_of_gt (Nat.lt_trans ns.2.2.2.1 r1)) (Nat.ne_of_gt (Nat.lt_trans ns.2.2.2.2.1 r1)) pp⟩
  | succ m ih =>
    intro i h tk k acc ts hm hi st kb kS ka kt g
    have il : i < min us.size ws.size := by omega
    have i1 : i < us.size := by omega
    have i2 : i < ws.size := by omega
    have as : acc.size = i := by rw [← Array.length_toList, ka, List.length_map, kt]
    have Sl : S < h.objs.size := Heap.lt_size kS
    refine codeAny_builtin PySem.F.entry_extend_loop ?_
    rw [Around.under_plainId PySem.F.plain_extend_loop _]
    show wpAny _ A.in1 (pyNext (.ref z) >>= _) _ _ _
    refine wpAny_bind (Zs.step (s := { s with heap := h, toks := tk }) (A := A.in1) (u := us[i]) (v := ws[i]) ap st Sl (Nat.lt_trans ns.1 Sl) (by simp [i1]) (by simp [i2]) fun h' st' np sz kk => ?_)
    dsimp only at np sz kk ⊢
    have kS' := kk S _ (Nat.ne_of_gt ns.1) (Nat.ne_of_gt ns.2.2.1) (Nat.ne_of_gt ns.2.2.2.1) (Nat.ne_of_gt ns.2.2.2.2.1) kS
    have up : ∀ b o, b ≠ S → h'.get? b = some o → (h'.update S (Obj.mapSeq (·.push (Value.ref h.objs.size)))).get? b = some o := fun b o hb e => (Heap.get?_update_other _ _ (Ne.symm hb)).trans e
    show wpAny _ A.in1 (updateSeq S (·.push (Value.ref h.objs.size)) >>= _) _ _ _
    refine wpAny_bind (wpAny_updateSeq kS' rfl (wpAny_pure ⟨plainId_quiet PySem.F.plain_extend_loop _, ih (i + 1) _ tk _ (acc.push (Value.ref h.objs.size)) (ts ++ [h.objs.size]) (by omega) il
      (st'.stay ⟨Nat.ne_of_lt ns.1, Nat.ne_of_lt ns.2.1, Nat.ne_of_lt ns.2.2.1, Nat.ne_of_lt ns.2.2.2.1, Nat.ne_of_lt ns.2.2.2.2.1, Nat.ne_of_lt ns.2.2.2.2.2.1, Nat.ne_of_lt ns.2.2.2.2.2.2⟩ up) (fun b o e => ?_) (Heap.get?_update_self _ kS' rfl)
      (by rw [Array.toList_push, ka, List.map_append]; rfl) (by rw [List.length_append, kt]; rfl) ⟨?_, fun t ht => ?_, fun j t hj => ?_⟩⟩) (by rw [as]; omega) (by show (acc.push _).size ≤ sizeLine + 1; rw [Array.size_push, as]; omega))
    · obtain ⟨n0, n1, n2, n3, n4⟩ := old b o e
      exact up b o (Nat.ne_of_lt (Nat.lt_trans n0 ns.1)) (kk b o n1 n2 n3 n4 (kb b o e))
    · exact List.pairwise_append.mpr ⟨g.rise, List.pairwise_singleton _ _, fun a ha b hb => by rw [List.mem_singleton.mp hb]; exact (g.room a ha).2⟩
    · have en : (h'.update S (Obj.mapSeq (·.push (Value.ref h.objs.size)))).objs.size = h'.objs.size := by simp [Heap.update]
      rw [en, sz]
      rcases List.mem_append.mp ht with ht | ht
      · exact ⟨(g.room t ht).1, Nat.lt_succ_of_lt (g.room t ht).2⟩
      · rw [List.mem_singleton.mp ht]; exact ⟨Sl, Nat.lt_succ_self _⟩
    · rcases Nat.lt_trichotomy j ts.length with y | y | y
      · rw [List.getElem?_append_left y] at hj
        obtain ⟨u, v, e1, e2, pp⟩ := g.pair j t hj
        obtain ⟨r1, _⟩ := g.room t (List.mem_of_getElem? hj)
        exact ⟨u, v, e1, e2, up t _ (Nat.ne_of_gt r1) (kk t _ (Nat.ne_of_gt (Nat.lt_trans ns.1 r1)) (Nat.ne_of_gt (Nat.lt_trans ns.2.2.1 r1)) (Nat.ne_of_gt (Nat.lt_trans ns.2.2.2.1 r1)) (Nat.ne_of_gt (Nat.lt_trans ns.2.2.2.2.1 r1)) pp)⟩
      · subst y
        have et : h.objs.size = t := by simpa using hj
        subst et
        exact ⟨us[i], ws[i], by rw [kt]; simp [i1], by rw [kt]; simp [i2], up _ _ (Nat.ne_of_gt Sl) np⟩
      · rw [List.getElem?_eq_none (by rw [List.length_append, List.length_singleton]; omega)] at hj; cases hj
end
theorem zip_len0 : typeLookup (.type "zip") "__len__" = pure none := am_miss_of_fast (by decide +kernel)
theorem zip_hint0 : typeLookup (.type "zip") "__length_hint__" = pure none := am_miss_of_fast (by decide +kernel)
section
variable {prog : Program} {w : World} {A : Around} {E : Value → Shared → Prop} {s : Shared}
/-- list(zip(x, y)), x and y tuples -/
theorem zl_call {l r : Addr} {us ws : Array Value} {Q : Value → Shared → Prop} (hh : A.handled = none) (kl : s.heap.IsTuple l us) (kr : s.heap.IsTuple r ws) (fit : us.size ≤ sizeLine)
    (fin : ∀ h' tk acc k ts p, s.heap.objs.size ≤ p → (∀ b o, s.heap.get? b = some o → h'.get? b = some o) → h'.get? p = some { cls := .type "list", dict := none, data := .seq acc k, slots := #[] } → ts.length = min us.size ws.size → Zg us ws p h' ts → acc.toList = ts.map Value.ref → Q (.ref p) { s with heap := h', toks := tk }) :
    wpAny (model prog w) A (call (.type "zip") [.ref l, .ref r]) (fun z s' => wpAny (model prog w) A (call (.type "list") [z]) Q E s') E s := by
  obtain ⟨ol, el, yl⟩ := id kl
  obtain ⟨or', er, yr⟩ := id kr
  have ll := Heap.lt_size el
  have lr := Heap.lt_size er
  refine RZ.call_zipT kl kr fun h1 kz kp kq kc kd sz kk => ?_
  have ap := PySem.W.ktu_apart s.heap.objs.size l r ll lr
  refine callType_codes (Q₁ := fun obj s2 => obj = .ref h1.objs.size ∧ s2 = { s with heap := h1.push { cls := .type "list", data := .seq #[] } }) PySem.F.called_list (PySem.F.typeCall_list_1 _) PySem.F.entry_list_init (code_list_new _ ⟨rfl, rfl⟩) fun obj s2 y => ?_
  obtain ⟨rfl, rfl⟩ := y
  have kS : (h1.push { cls := .type "list", data := .seq #[] }).get? h1.objs.size = some { cls := .type "list", data := .seq #[] } := Heap.get?_push_size _ rfl
  refine ⟨⟨_, kS, rfl⟩, PySem.F.args_list_init_2 _ _, ?_⟩
  have ns : s.heap.objs.size + 4 < h1.objs.size ∧ s.heap.objs.size + 2 < h1.objs.size ∧ s.heap.objs.size + 3 < h1.objs.size ∧ s.heap.objs.size < h1.objs.size ∧ s.heap.objs.size + 1 < h1.objs.size ∧ l < h1.objs.size ∧ r < h1.objs.size := by
    rw [sz]
    refine ⟨Nat.lt_succ_self _, Nat.add_lt_add_left (by decide) _, Nat.add_lt_add_left (by decide) _, Nat.lt_add_of_pos_right (by decide), Nat.add_lt_add_left (by decide) _, Nat.lt_of_lt_of_le ll (Nat.le_add_right _ _), Nat.lt_of_lt_of_le lr (Nat.le_add_right _ _)⟩
  have zs0 : Zs (s.heap.objs.size + 4) (s.heap.objs.size + 2) (s.heap.objs.size + 3) s.heap.objs.size (s.heap.objs.size + 1) l r h1.objs.size us ws 0 h1 := ⟨kp, kc, kd, ⟨ol, kk _ _ el, yl⟩, ⟨or', kk _ _ er, yr⟩, .inl ⟨kz, _, _, kq⟩⟩
  have nS : s.heap.objs.size + 4 ≠ h1.objs.size ∧ s.heap.objs.size + 2 ≠ h1.objs.size ∧ s.heap.objs.size + 3 ≠ h1.objs.size ∧ s.heap.objs.size ≠ h1.objs.size ∧ s.heap.objs.size + 1 ≠ h1.objs.size ∧ l ≠ h1.objs.size ∧ r ≠ h1.objs.size :=
    ⟨Nat.ne_of_lt ns.1, Nat.ne_of_lt ns.2.1, Nat.ne_of_lt ns.2.2.1, Nat.ne_of_lt ns.2.2.2.1, Nat.ne_of_lt ns.2.2.2.2.1, Nat.ne_of_lt ns.2.2.2.2.2.1, Nat.ne_of_lt ns.2.2.2.2.2.2⟩
  -- the loop, from any heap that is h1 but for the list
  have key : ∀ (g : Heap) (k tk : Nat) (R : Result → Shared → Prop), (∀ b o, b ≠ h1.objs.size → h1.get? b = some o → g.get? b = some o) → g.get? h1.objs.size = some { cls := .type "list", data := .seq #[] k } →
      (∀ h' tk acc k ts, (∀ b o, s.heap.get? b = some o → h'.get? b = some o) → h'.get? h1.objs.size = some { cls := .type "list", dict := none, data := .seq acc k, slots := #[] } → ts.length = min us.size ws.size → Zg us ws h1.objs.size h' ts → acc.toList = ts.map Value.ref → R (.ok (.ret .none)) { s with heap := h', toks := tk }) →
      codeAny (model prog w) A.in1 (.builtin "list.extend.loop" ⟨[.ref h1.objs.size, .ref (s.heap.objs.size + 4), .none], []⟩) R { s with heap := g, toks := tk } := fun g k tk R kg kS2 fr => by
    refine zl_loop (s := s) (h0 := s.heap) (A := A.in1) hh ap ns fit .none (fun b o e => ?_) fr _ 0 g tk k #[] [] rfl (Nat.zero_le _) (zs0.stay nS kg) (fun b o e => kg b o (Nat.ne_of_lt (Nat.lt_of_lt_of_le (Heap.lt_size e) (by rw [sz]; exact Nat.le_add_right _ _))) (kk b o e)) kS2 rfl rfl ⟨List.Pairwise.nil, fun t ht => by simp at ht, fun j t hj => by simp at hj⟩
    have lb := Heap.lt_size e
    exact ⟨Nat.lt_of_lt_of_le lb (Nat.le_add_right _ _), Nat.ne_of_lt (Nat.lt_of_lt_of_le lb (Nat.le_add_right _ _)), Nat.ne_of_lt (Nat.lt_of_lt_of_le lb (Nat.le_add_right _ _)), Nat.ne_of_lt lb, Nat.ne_of_lt (Nat.lt_of_lt_of_le lb (Nat.le_add_right _ _))⟩
  show wpAny _ _ (do let old ← Builtin.List.listItems (.ref h1.objs.size); Builtin.List.listUpdate (.ref h1.objs.size) (fun _ => #[]); letGo old.toList.reverse; Builtin.List.listExtendWith (.ref h1.objs.size) (.ref (s.heap.objs.size + 4)) .none) _ _ _
  refine wpAny_bind ?_
  unfold Builtin.List.listItems
  refine wpAny_bind (wpAny_seqItems kS rfl (wpAny_pure ?_))
  show wpAny _ _ (updateSeq h1.objs.size (fun _ => #[]) >>= fun _ => letGo (#[] : Array Value).toList.reverse >>= fun _ => Builtin.List.listExtendWith (.ref h1.objs.size) (.ref (s.heap.objs.size + 4)) .none) _ _ _
  refine wpAny_bind (wpAny_updateSeq kS rfl (wpAny_bind (wpAny_letGo ?_)))
  have kS1 := Heap.get?_update_self (Obj.mapSeq (fun _ => (#[] : Array Value))) kS rfl
  have ot1 : ∀ b o, b ≠ h1.objs.size → h1.get? b = some o → ((h1.push { cls := .type "list", data := .seq #[] }).update h1.objs.size (Obj.mapSeq (fun _ => (#[] : Array Value)))).get? b = some o :=
    fun b o hb e => (Heap.get?_update_other _ _ (Ne.symm hb)).trans (Heap.get?_push_of_some _ e)
  have kz1 := ot1 _ _ nS.1 kz
  unfold Builtin.List.listExtendWith
  refine wpAny_bind (wpAny_typeOf (T := "zip") ⟨_, kz1, rfl⟩ ?_)
  have t1 : Builtin.List.listSameRef (.ref h1.objs.size) (.ref (s.heap.objs.size + 4)) = false := by simp [Builtin.List.listSameRef, Ne.symm nS.1]
  have t2 : (Value.type "zip" == Value.type "list") = false := by decide
  have t3 : (Value.type "zip" == Value.type "tuple") = false := by decide
  simp only [t1, t2, t3, Bool.or_false, Bool.false_eq_true, if_false]
  refine wpAny_bind (wpAny_pyIter_zip kz1 (wpAny_bind (wpAny_holding ?_)))
  unfold Builtin.List.listLengthHint
  refine wpAny_bind (wpAny_specialOf ⟨_, kz1, rfl⟩ zip_len0 ?_)
  show wpAny _ _ (specialOf (Value.ref (s.heap.objs.size + 4)) (Str.ofString "__length_hint__") >>= _) _ _ _
  refine wpAny_bind (wpAny_specialOf ⟨_, kz1, rfl⟩ zip_hint0 (wpAny_pure ?_))
  show wpAny _ _ (rule "list.extend.makes-room" >>= fun _ => Builtin.List.listTouch (.ref h1.objs.size) >>= fun _ => again (.builtin "list.extend.loop" ⟨[.ref h1.objs.size, .ref (s.heap.objs.size + 4), .none], []⟩)) _ _ _
  refine wpAny_bind (wpAny_rule (wpAny_bind ?_))
  show wpAny _ _ (updateSeq h1.objs.size (·.push .none) >>= fun _ => updateSeq h1.objs.size (·.pop)) _ _ _
  refine wpAny_bind (wpAny_updateSeq kS1 rfl ?_)
  have kS2 := Heap.get?_update_self (Obj.mapSeq (·.push Value.none)) kS1 rfl
  refine wpAny_updateSeq (hz := by seq_fits) kS2 rfl ?_
  have kS3 := Heap.get?_update_self (Obj.mapSeq (·.pop)) kS2 rfl
  refine wpAny_pure ⟨plainId_quiet PySem.F.plain_extend_loop _, key _ _ _ _ (fun b o hb e => ?_) kS3 fun h' tk acc k ts a1 a2 a3 a4 a5 => ⟨rfl, fin h' tk acc k ts _ (by rw [sz]; exact Nat.le_add_right _ _) a1 a2 a3 a4 a5⟩⟩
  exact (Heap.get?_update_other _ _ (Ne.symm hb)).trans ((Heap.get?_update_other _ _ (Ne.symm hb)).trans (ot1 b o hb e))
end
/-! ### the pairs as tracked things -/
def putP : Hp → List Addr → List (V × V) → Hp
  | H, t :: ts, p :: ps => putP (upd H t (.tup [p.1, p.2])) ts ps
  | H, _, _ => H
theorem putP_off {b : Addr} : ∀ (ts : List Addr) (ps : List (V × V)) (H : Hp), b ∉ ts → putP H ts ps b = H b
  | [], _, _, _ => rfl
  | _ :: _, [], _, _ => rfl
  | t :: ts, p :: ps, H, n => (putP_off ts ps _ fun y => n (List.mem_cons_of_mem _ y)).trans (upd_ne fun y => n (by rw [y]; exact List.mem_cons_self))
theorem putP_at : ∀ (ts : List Addr) (ps : List (V × V)) (H : Hp), ts.Nodup → ∀ (j : Nat) (t : Addr) (p : V × V), ts[j]? = some t → ps[j]? = some p → putP H ts ps t = some (.tup [p.1, p.2])
  | [], _, _, _, j, _, _, h, _ => by simp at h
  | _ :: _, [], _, _, j, _, _, _, h => by simp at h
  | a :: ts, q :: ps, H, nd, 0, t, p, h1, h2 => by
    cases h1; cases h2
    exact (putP_off ts ps _ (List.nodup_cons.mp nd).1).trans upd_same
  | a :: ts, q :: ps, H, nd, j + 1, t, p, h1, h2 => putP_at ts ps _ (List.nodup_cons.mp nd).2 j t p (by simpa using h1) (by simpa using h2)
section
variable {X : Cx}
theorem zl_laid {pins : List (Addr × Obj)} {σ : St} {H : Hp} {s : Shared} {h' : Heap} {tk k : Nat} {xs ys : List V} {us ws : List Value} {acc : Array Value} {ts : List Addr} {p : Addr} (I : Inv X pins σ H s) (fit : xs.length ≤ sizeLine) (rx : Vals xs us) (ry : Vals ys ws)
    (hp : s.heap.objs.size ≤ p) (kk : ∀ b o, s.heap.get? b = some o → h'.get? b = some o) (kS : h'.get? p = some { cls := .type "list", dict := none, data := .seq acc k, slots := #[] }) (lt : ts.length = min us.length ws.length) (G : Zg us.toArray ws.toArray p h' ts) (ka : acc.toList = ts.map Value.ref) :
    Inv X pins σ (putP (upd H p (.lst (ts.map V.ref))) ts (xs.zip ys)) { s with heap := h', toks := tk } ∧ ts.Nodup ∧ p ∉ ts ∧ (∀ t ∈ ts, H t = none) ∧ H p = none ∧ ts.length = (xs.zip ys).length := by
  have lx := rx.length
  have ly := ry.length
  have pn : p ∉ ts := fun y => Nat.lt_irrefl _ (G.room p y).1
  have nd : ts.Nodup := List.Pairwise.imp (fun {a b} (y : a < b) => Nat.ne_of_lt y) G.rise
  have new : ∀ t ∈ ts, H t = none := fun t y => I.hok.fresh (Nat.le_trans hp (Nat.le_of_lt (G.room t y).1))
  have newp : H p = none := I.hok.fresh hp
  have lz : ts.length = (xs.zip ys).length := by rw [List.length_zip, lt, lx, ly]
  refine ⟨?_, nd, pn, new, newp, lz⟩
  have off : ∀ b, b ∉ ts → b ≠ p → putP (upd H p (.lst (ts.map V.ref))) ts (xs.zip ys) b = H b := fun b n1 n2 => (putP_off ts _ _ n1).trans (upd_ne n2)
  have kp : ∀ b u, H b = some u → putP (upd H p (.lst (ts.map V.ref))) ts (xs.zip ys) b = some u := fun b u e => by
    rw [off b (fun y => by rw [new b y] at e; cases e) (fun y => by rw [y, newp] at e; cases e)]; exact e
  have eS : putP (upd H p (.lst (ts.map V.ref))) ts (xs.zip ys) p = some (.lst (ts.map V.ref)) := (putP_off ts _ _ pn).trans upd_same
  refine I.call' (ch := []) rfl ⟨fun b o e _ _ _ => kk b o e, fun b o e _ _ _ => ⟨o.slots, kk b o e⟩, fun b o e n _ => ?_, fun b o e _ => ⟨o, kk b o e⟩, fun b _ e => kp b _ e, fun b _ _ e => kp b _ e, fun b _ e => ⟨#[], by rw [kp b _ e]; simp⟩⟩ (fun b u e => ?_) I.bare fun b y => by simp at y
  · have lb := Heap.lt_size e
    rw [off b (fun y => Nat.lt_irrefl _ (Nat.lt_of_lt_of_le lb (Nat.le_trans hp (Nat.le_of_lt (G.room b y).1)))) (fun y => Nat.lt_irrefl _ (Nat.lt_of_lt_of_le lb (y ▸ hp)))]
    exact n
  · by_cases hb : b ∈ ts
    · obtain ⟨j, hj⟩ := List.mem_iff_getElem?.mp hb
      have jl := (List.getElem?_eq_some_iff.mp hj).1
      have jz : j < (xs.zip ys).length := by rw [← lz]; exact jl
      have ej : (xs.zip ys)[j]? = some (xs.zip ys)[j] := List.getElem?_eq_getElem jz
      rw [putP_at ts _ _ nd j b _ hj ej] at e
      cases e
      obtain ⟨u, v, e1, e2, pp⟩ := G.pair j b hj
      have j1 : j < xs.length := by rw [List.length_zip] at jz; omega
      have j2 : j < ys.length := by rw [List.length_zip] at jz; omega
      obtain ⟨u', f1, g1⟩ := rx.get (show xs[j]? = some xs[j] by simp [j1])
      obtain ⟨v', f2, g2⟩ := ry.get (show ys[j]? = some ys[j] by simp [j2])
      have e1' : us[j]? = some u := by simpa using e1
      have e2' : ws[j]? = some v := by simpa using e2
      rw [f1] at e1'
      rw [f2] at e2'
      cases e1'; cases e2'
      have ez : (xs.zip ys)[j] = (xs[j], ys[j]) := by simp
      rw [ez]
      exact ⟨by show 2 ≤ sizeLine; decide, [u, v], .cons g1 (.cons g2 .nil), ⟨_, pp, rfl, _, rfl⟩⟩
    · by_cases hb2 : b = p
      · rw [hb2] at e ⊢
        rw [eS] at e
        cases e
        refine ⟨by rw [List.length_map]; omega, acc.toList, k, by rw [ka]; exact LiI.vals_refs ts, ?_⟩
        rw [Array.toArray_toList]
        exact kS
      · rw [off b hb hb2] at e
        exact (I.hok b u e).stay (fun d v _ y => kk d v y) (fun d y => kp d _ y) fun d _ y => kp d _ y
/-- list(zip(x, y)) -/
def rZipL (K : PySem.W.Frag) : List V → Hp → VK → Prop := fun vs H Q => ∃ a b xs ys, vs = [.ref a, .ref b] ∧ SqT K H a xs ∧ SqT K H b ys ∧ xs.length ≤ sizeLine ∧
  ∀ (p : Addr) (ts : List Addr), ts.Nodup → p ∉ ts → (∀ t ∈ ts, H t = none) → H p = none → ts.length = (xs.zip ys).length → Q (.ref p) (putP (upd H p (.lst (ts.map V.ref))) ts (xs.zip ys))
theorem pe_listZip {e e2 : Expr} {ta : TA} {p1 p2 pos1 pos2 : Pos} (hc : X.calm = true) (hg : Gl X "list") (hm : X.mg "list" = none) (hg2 : Gl X "zip") (hm2 : X.mg "zip" = none) (hv : bootBuiltins "list" = some (.type "list")) (ha : PA X [e, e2] ta)
    (hs : starEach [e, e2] X.env = (false, eval e X.env) :: starEach [e2] X.env := by rfl) (hpl : (backTo pos2 (starEach [e2] X.env)).any (·.1) = false := by rfl)
    (hst : starEach [.Call (.Name "zip" p2) [e, e2] [] pos2] X.env = (false, eval (.Call (.Name "zip" p2) [e, e2] [] pos2) X.env) :: starEach [] X.env := by rfl) :
    PE X (.Call (.Name "list" p1) [.Call (.Name "zip" p2) [e, e2] [] pos2] [] pos1) (fun σ H Q => ta σ H fun vs H1 => rZipL X.K vs H1 Q) := by
  refine ⟨fun pins s σ H Q I hq => ?_⟩
  refine wpAny_Call_Name_kw (ld_blt I hg hm hv ?_)
  refine PyProof.Rows.callWith_type1 ?_ hst rfl
  rw [hst]
  show wpAny _ _ (spliced ((false, eval (.Call (.Name "zip" p2) [e, e2] [] pos2) X.env) :: backTo pos1 (starEach [] X.env))) _ _ s
  refine Calls.spliced_cons ?_
  refine Call_ (ld_blt I hg2 hm2 PyProof.Rows.boot_zip (PyProof.Rows.callWith_type1 (thn (ha.run pos2 pins s σ H _ I hq) fun us s1 ⟨vs, H1, I1, r1, q1⟩ => ?_) hs hpl))
  obtain ⟨a, b, xs, ys, rfl, ka, kb, fit, q⟩ := q1
  obtain ⟨u1, u2, rfl, c1, c2⟩ := vals2 r1
  cases c1
  cases c2
  obtain ⟨i1, v1, t1, _⟩ := I1.tuple ka
  obtain ⟨i2, v2, t2, _⟩ := I1.tuple kb
  have hl1 := v1.length
  refine wpAny_mono (zl_call (us := i1.toArray) (ws := i2.toArray) (E := X.xe) (Q := EP X pins σ Q) (I1.ok.hd hc) t1 t2 (by simp; omega) fun h' tk acc k ts p hp kk kS lt G kc => ?_) (fun z s' y => Calls.spliced_nil y) fun _ _ y => y
  obtain ⟨J, nd, pn, nw, np, lz⟩ := zl_laid (tk := tk) I1 fit v1 v2 hp kk kS (by simpa using lt) G kc
  exact ⟨.ref p, _, J, rfl, q p ts nd pn nw np lz⟩
end
section
variable {X : Cx} {S : Stat} {W : WX}
def pairsD (xs ys : List D) : List D := (xs.zip ys).map fun p => .tup [p.1, p.2]
def sZip : List D → Sto → Res D
  | [.tup xs, .tup ys], g => if xs.length ≤ big then .ok (.lst (pairsD xs ys)) g else .stuck
  | _, _ => .stuck
theorem Rl.zip {m : Mv} {H : Hp} {H' : Hp} : ∀ {xs ys : List D} {us ws : List V} {ts : List Addr}, Rl S m H' xs us → Rl S m H' ys ws → ts.length = (us.zip ws).length → (∀ (j : Nat) (t : Addr) (p : V × V), ts[j]? = some t → (us.zip ws)[j]? = some p → H' t = some (.tup [p.1, p.2])) → Rl S m H' (pairsD xs ys) (ts.map V.ref)
  | _, _, _, _, ts, .nil, _, l, _ => by
    simp at l
    subst l
    exact .nil
  | _, _, _, _, ts, .cons _ _, .nil, l, _ => by
    simp at l
    subst l
    exact .nil
  | _, _, _, _, ts, .cons (v := u) r1 t1, .cons (v := w) r2 t2, l, h => by
    cases ts with
    | nil => simp at l
    | cons t ts =>
      refine .cons (.tup (h 0 t (u, w) rfl rfl) (.cons r1 (.cons r2 .nil))) ?_
      exact Rl.zip (H := H) t1 t2 (by simpa using l) fun j t p e1 e2 => h (j + 1) t p (by simpa using e1) (by simpa using e2)
theorem f_listZip {e e2 : Expr} {fs : En (List D)} {p1 p2 pos1 pos2 : Pos} (hK : S.K = X.K) (hc : X.calm = true) (hg : Gl X "list") (hm : X.mg "list" = none) (hg2 : Gl X "zip") (hm2 : X.mg "zip" = none) (ha : Pas X S W [e, e2] fs)
    (hs : starEach [e, e2] X.env = (false, eval e X.env) :: starEach [e2] X.env := by rfl) (hpl : (backTo pos2 (starEach [e2] X.env)).any (·.1) = false := by rfl)
    (hst : starEach [.Call (.Name "zip" p2) [e, e2] [] pos2] X.env = (false, eval (.Call (.Name "zip" p2) [e, e2] [] pos2) X.env) :: starEach [] X.env := by rfl) :
    Pf X S W (.Call (.Name "list" p1) [.Call (.Name "zip" p2) [e, e2] [] pos2] [] pos1) (eU sZip fs) :=
  PE.to (pe_listZip hc hg hm hg2 hm2 (by decide +kernel) ha hs hpl hst) fun σ H Q q => Tv.one (Ra := RL S) q fun env m g H1 ds vs rel fz ⟨_, ra⟩ p => by
    have ra : Rl S m H1 ds vs := ra
    unfold sZip at p
    split at p
    · rename_i xs ys
      cases ra with
      | cons r1 ra =>
        cases ra with
        | cons r2 ra =>
          cases ra
          obtain ⟨a, us, rfl, k1, l1⟩ := r1.tup_inv
          obtain ⟨b, ws, rfl, k2, l2⟩ := r2.tup_inv
          split at p
          · rename_i c
            refine ⟨a, b, us, ws, rfl, hK ▸ k1, hK ▸ k2, by rw [← l1.length]; exact big_line c, fun q ts nd pn nw np lz => ?_⟩
            have keep : ∀ b o, H1 b = some o → putP (upd H1 q (.lst (ts.map V.ref))) ts (us.zip ws) b = some o := fun b o e => by
              rw [putP_off ts _ _ (fun y => by rw [nw b y] at e; cases e), upd_ne (fun y => by rw [y, np] at e; cases e)]; exact e
            have eq : putP (upd H1 q (.lst (ts.map V.ref))) ts (us.zip ws) q = some (.lst (ts.map V.ref)) := (putP_off ts _ _ pn).trans upd_same
            have gr : Grow m H1 (m.own q) (putP (upd H1 q (.lst (ts.map V.ref))) ts (us.zip ws)) :=
              ⟨fun b o e _ => keep b o e, fun b e => none_of_keep (keep b) e, ⟨[], by simp [Mv.own]⟩, fun _ h => .inl h, fun a ha => List.mem_cons_of_mem _ ha, fun a ha => by
                rcases List.mem_cons.mp ha with rfl | ha
                · exact .inr np
                · exact .inl ha, rfl⟩
            have ok : MOk S (putP (upd H1 q (.lst (ts.map V.ref))) ts (us.zip ws)) g (m.own q) := rel.mem.of_grow gr rfl (fun a _ u e => keep a u e) (fun a h1 h2 => by
              rcases List.mem_cons.mp h1 with rfl | h1
              · rw [eq]; trivial
              · exact absurd h1 h2) fun a h1 h2 => by
              rcases List.mem_cons.mp h1 with rfl | h1
              · exact (rel.mem.free np).2
              · exact absurd h1 h2
            exact p _ _ _ gr ok ⟨q, rfl, List.mem_cons_self, fun y => (rel.mem.free np).1 (rel.mem.muW q y), fz q np, .lst eq (Rl.zip (H := H1) (Rl.grow rel.mem (gr.s rel.mem.muW) l1) (Rl.grow rel.mem (gr.s rel.mem.muW) l2) lz fun j t p e1 e2 => putP_at ts _ _ nd j t p e1 e2)⟩
          · exact p.elim
    · exact p.elim
end
end Ev
namespace Ev
open PySem PySem.Spec PyProof.Rows L2
section
variable {X : Cx} {S : Stat} {W : WX}
/-! ### slices of tuples and texts -/
def sSlT : D → Option Int → Option Int → Sto → Res D
  | .tup xs, lo, hi, g => .ok (.tup (cutL xs lo hi)) g
  | .str z, lo, hi, g => if z.length ≤ big then .ok (.str (cutS z lo hi)) g else .stuck
  | _, _, _, _ => .stuck
theorem SlR.or {r r' : V → Option Int → Option Int → Hp → VK → Prop} (h : SlR X r) (h' : SlR X r') : SlR X (fun x lo hi H Q => r x lo hi H Q ∨ r' x lo hi H Q) := by
  intro pins s σ H x v vl vu lo hi sl Q I rx hs pl pu q
  rcases q with q | q
  · exact h pins s σ H x v vl vu lo hi sl Q I rx hs pl pu q
  · exact h' pins s σ H x v vl vu lo hi sl Q I rx hs pl pu q
theorem e_sl {e : Expr} {f : E1} {lo hi : Option Expr} {fl fh : En (Option Int)} {p2 pos : Pos} (hK : S.K = X.K) (he : Pb X S W e f) (hl : Po X S W lo fl) (hh : Po X S W hi fh) : Pe X S W (.Subscript e (.Slice lo hi none p2) pos) (eSl (fun d l h g => sSlT (dr g d) l h g) f fl fh) :=
  slice_any (Ev.SlR.or sl_tupA sl_str) (fun σ H0 m g H d l h x Q ok fz ra p => by
    cases d with
    | tup xs =>
      obtain ⟨a, vs, rfl, h1, r1⟩ := ra.tupH
      refine .inl ⟨a, vs, rfl, SqT.of h1, fun e => ?_, fun _ q hq => p.newT ok (r1.cut l h) hq⟩
      have e1 : cutL xs l h = xs := cut_whole (by rw [r1.length]; exact e)
      simp only [sSlT] at p
      rw [e1] at p
      exact p.now ok (.tup h1 r1)
    | str z =>
      have ez := ra.str
      subst ez
      simp only [sSlT] at p
      split at p
      · rename_i c; exact .inr ⟨z, rfl, big_line c, p.now ok (.str _)⟩
      · exact p.elim
    | _ => exact p.elim) he hl hh
/-! ### isinstance with a built-in type -/
def kindOf : D → Option String
  | .non => some "NoneType"
  | .bl _ => some "bool"
  | .int _ => some "int"
  | .str _ => some "str"
  | .lst _ => some "list"
  | .frz _ => some "list"
  | .tup _ => some "tuple"
  | _ => none
def tySub (a b : String) : Bool := a == b || (a == "bool" && b == "int")
def isTypes : List String := ["bool", "int", "str", "list", "tuple", "dict"]
theorem kit_all (K : PySem.W.Frag) : ((["NoneType", "bool", "int", "str", "list", "tuple"] : List String).all fun a => isTypes.all fun b => PySem.W.kitOne K (.type a) (.type b) == some (tySub a b)) = true := by rfl
theorem kit_one (K : PySem.W.Frag) {a b : String} (ha : a ∈ (["NoneType", "bool", "int", "str", "list", "tuple"] : List String)) (hb : b ∈ isTypes) : PySem.W.kitOne K (.type a) (.type b) = some (tySub a b) := by
  have h := List.all_eq_true.mp (List.all_eq_true.mp (kit_all K) a ha) b hb
  simpa using h
theorem kind_ty {m : Mv} {H : Hp} {d : D} {v : V} {k : String} (h : kindOf d = some k) (r : Rv S m H d v) : TyX S.K H v (.type k) ∧ k ∈ (["NoneType", "bool", "int", "str", "list", "tuple"] : List String) := by
  cases d with
  | non => cases h; rw [r.non]; exact ⟨.base .non, by decide⟩
  | bl b => cases h; rw [r.bl]; exact ⟨.base (.bl b), by decide⟩
  | int i => cases h; rw [r.int]; exact ⟨.base (.int i), by decide⟩
  | str x => cases h; rw [r.str]; exact ⟨.base (.str x), by decide⟩
  | lst xs =>
    cases h
    obtain ⟨a, vs, rfl, hs, _⟩ := r.lst
    refine ⟨?_, by decide⟩
    rcases hs with (hs | ⟨u, hs⟩) | ⟨o, its, n, e1, e2, _⟩
    · exact .base (.lst hs)
    · exact .base (.frz hs)
    · exact .kList e1 e2
  | frz xs =>
    cases h
    obtain ⟨a, vs, rfl, hs, _⟩ := r.frz
    refine ⟨?_, by decide⟩
    rcases hs with (hs | ⟨u, hs⟩) | ⟨o, its, n, e1, e2, _⟩
    · exact .base (.lst hs)
    · exact .base (.frz hs)
    · exact .kList e1 e2
  | tup xs =>
    cases h
    obtain ⟨a, vs, rfl, hs, _⟩ := r.tup
    refine ⟨?_, by decide⟩
    rcases hs with (hs | ⟨u, hs⟩) | ⟨o, its, n, e1, e2, _⟩
    · exact .base (.tup hs)
    · exact .fTuple hs
    · exact .kTuple e1 e2
  | _ => cases h
def sIsi (T : String) : D → Sto → Res D := fun d g => match kindOf d with
  | some k => .ok (.bl (tySub k T)) g
  | none => .stuck
theorem e_isi {T : String} {x : Str} {e : Expr} {f : E1} {p p2 pos : Pos} (hK : S.K = X.K) (hT : T ∈ isTypes) (hg : Gl X "isinstance") (hm : X.mg "isinstance" = none) (hg2 : Gl X x) (hm2 : X.mg x = none) (hv : bootBuiltins x = some (.type T)) (he : Pb X S W e f)
    (hn : x ≠ "__name__" := by decide) (hdb : (x == ("__debug__" : Str)) = false := by decide) (hst : starEach [e, .Name x p2] X.env = (false, eval e X.env) :: starEach [.Name x p2] X.env := by rfl) :
    Pe X S W (.Call (.Name "isinstance" p) [e, .Name x p2] [] pos) (eU (dr1 (sIsi T)) f) :=
  PE.to (pe_callB call_isi hg hm (by decide +kernel) (pa_cons he (pa_cons (pe_bltn (v := .ty T) hg2 hm2 hv rfl hn hdb) pa_nil) hst) (by decide) (by decide) hst) fun σ H Q q => Tv.one (Ra := RB S) q fun env m g H1 d x rel fz ⟨_, ra⟩ p => by
    have ra : Rb S m H1 d x := ra
    simp only [dr1, sIsi] at p
    cases e : kindOf (dr g d) with
    | none => rw [e] at p; exact p.elim
    | some k =>
      rw [e] at p
      obtain ⟨ty, hk⟩ := kind_ty e (ra.v.dr rel.mem)
      exact ⟨x, .ty T, .type k, .type T, _, rfl, .ty T, hK ▸ ty, kit_one _ hk hT, p.now rel.mem (.bl _)⟩
/-! ### sorted texts -/
def insS (x : Str) : List Str → List Str
  | [] => [x]
  | y :: r => if ltCps y.cps.toList x.cps.toList = true then y :: insS x r else x :: y :: r
def sortS : List Str → List Str
  | [] => []
  | x :: r => insS x (sortS r)
def leS (a b : Str) : Prop := a.cps.toList ≤ b.cps.toList
theorem leS_of {a b : Str} (h : ltCps b.cps.toList a.cps.toList = false) : leS a b := by
  rw [ltCps_eq] at h
  exact of_decide_eq_false h
theorem insS_perm (x : Str) : ∀ l : List Str, (insS x l).Perm (x :: l)
  | [] => .refl _
  | y :: r => by
    unfold insS
    split
    · exact ((insS_perm x r).cons y).trans (.swap x y r)
    · exact .refl _
theorem sortS_perm : ∀ l : List Str, (sortS l).Perm l
  | [] => .refl _
  | x :: r => (insS_perm x (sortS r)).trans ((sortS_perm r).cons x)
theorem insS_sorted (x : Str) : ∀ l : List Str, l.Pairwise leS → (insS x l).Pairwise leS
  | [], _ => List.pairwise_singleton _ _
  | y :: r, h => by
    unfold insS
    have h' := List.pairwise_cons.mp h
    split
    · rename_i c
      refine List.pairwise_cons.mpr ⟨fun z hz => ?_, insS_sorted x r h'.2⟩
      rcases List.mem_cons.mp ((insS_perm x r).mem_iff.mp hz) with rfl | hz
      · rw [ltCps_eq] at c
        exact List.le_of_lt (of_decide_eq_true c)
      · exact h'.1 z hz
    · rename_i c
      have hxy : leS x y := leS_of (by simpa using c)
      refine List.pairwise_cons.mpr ⟨fun z hz => ?_, h⟩
      rcases List.mem_cons.mp hz with rfl | hz
      · exact hxy
      · exact List.le_trans hxy (h'.1 z hz)
theorem sortS_sorted : ∀ l : List Str, (sortS l).Pairwise leS
  | [] => List.Pairwise.nil
  | x :: r => insS_sorted x _ (sortS_sorted r)
theorem rising_pw : ∀ (p : Str) (l : List Str), risingS p l = true → (p :: l).Pairwise leS
  | p, [], _ => List.pairwise_singleton _ _
  | p, x :: r, h => by
    have h1 := (Bool.and_eq_true_iff.mp (show (!ltCps x.cps.toList p.cps.toList && risingS x r) = true from h))
    have ih := rising_pw x r h1.2
    have hpx : leS p x := leS_of (by simpa using h1.1)
    refine List.pairwise_cons.mpr ⟨fun z hz => ?_, ih⟩
    rcases List.mem_cons.mp hz with rfl | hz
    · exact hpx
    · exact List.le_trans hpx ((List.pairwise_cons.mp ih).1 z hz)
theorem sorted_pw {l : List Str} (h : sortedS l = true) : l.Pairwise leS := by
  cases l with
  | nil => exact List.Pairwise.nil
  | cons x r => exact rising_pw x r h
theorem leS_anti {a b : Str} (h1 : leS a b) (h2 : leS b a) : a = b := by
  have e := List.le_antisymm h1 h2
  obtain ⟨a⟩ := a
  obtain ⟨b⟩ := b
  congr
  exact Array.ext' e
theorem sortS_eq {l ys : List Str} (hp : ys.Perm l) (hs : sortedS ys = true) : ys = sortS l :=
  List.Perm.eq_of_pairwise (fun a b _ _ => leS_anti) (sorted_pw hs) (sortS_sorted l) (hp.trans (sortS_perm l).symm)
def sSorted : D → Sto → Res D
  | .lst xs, g => match strsOf xs with
    | some ss => if ss.length < 64 then .ok (.lst ((sortS ss).map .str)) g else .stuck
    | none => .stuck
  | _, _ => .stuck
theorem rl_strs {m : Mv} {H : Hp} : ∀ ss : List Str, Rl S m H (ss.map .str) (ss.map V.str)
  | [] => .nil
  | x :: r => .cons (.str x) (rl_strs r)
theorem f_sorted {e : Expr} {f : E1} {p pos : Pos} (hK : S.K = X.K) (hg : Gl X "sorted") (hm : X.mg "sorted" = none) (he : Pb X S W e f) (hst : starEach [e] X.env = (false, eval e X.env) :: starEach [] X.env := by rfl) : Pf X S W (.Call (.Name "sorted" p) [e] [] pos) (eU (dr1 sSorted) f) :=
  call1 cr_sortedS hg hm (by decide +kernel) (fun σ H0 m g H a x Q ok fz ra q => by
    cases a with
    | lst xs =>
      obtain ⟨l, vs, rfl, h1, r1⟩ := ra.lst
      simp only [sSorted] at q
      cases e : strsOf xs with
      | none => rw [e] at q; exact q.elim
      | some ss =>
        rw [e] at q
        dsimp only at q
        split at q
        · rename_i c
          have e2 := strsOf_ok e r1
          subst e2
          refine ⟨l, ss, rfl, hK ▸ h1, c, fun ys p hp hs hn => ?_⟩
          rw [sortS_eq hp hs]
          exact q.ownL ok (rl_strs _) hn fz
        · exact q.elim
    | _ => exact q.elim) he (by decide) (by decide) hst
/-! ### what is one's own is returned -/
def sRetO (i : Nat) : Sd := fun env g => match env[i]? with
  | some (.ow d) => .rtO d g
  | _ => .stuck
theorem s_retO {i : Nat} {e : Expr} {pos : Pos} (he : PE X e (tVar i)) : Ps X S W (.Return (some e) pos) (sRetO i) :=
  PS.to (ps_ret he) fun E σ H ⟨env, g, m, r, p⟩ => by
    unfold sRetO at p
    split at p
    · rename_i d e1
      obtain ⟨ov, e2, a, rfl, hw, hm, ro⟩ := r.at e1
      exact ⟨.ref a, e2, p a H m (.refl m H) r.mem hw hm ro⟩
    · exact p.elim
def sRetF (f : E1) : Sd := thenS f fun d _ g => .rtO d g
theorem s_retF {e : Expr} {f : E1} {pos : Pos} (he : Pf X S W e f) : Ps X S W (.Return (some e) pos) (sRetF f) :=
  PS.to (ps_ret he) fun E σ H h => Tv.st (R := RF S) h fun env g0 g m0 m H1 a x r0 gr r1 ⟨b, ev, hw, hm, hn, ro⟩ p => by
    subst ev
    exact p b H1 m (.refl m H1) r1.mem hw hm ro
theorem Tv.st1 {α α' : Type} {R : Hp → Mv → Hp → α → α' → Prop} {f : En α} {k : α → Env → Sto → SRes} {E : Ends} {σ : St} {H : Hp} {env : Env} {g : Sto} {m : Mv} (r : Rel S H σ env g m) (p : SPost S W E (thenS f k env g) m H) {P : α' → Hp → Prop}
    (hk : ∀ g' m' H1 a x, Grow m H m' H1 → Rel S H1 σ env g' m' → R H m' H1 a x → SPost S W E (k a env g') m' H1 → P x H1) : Tv S R W f σ H P := by
  refine ⟨env, g, m, r, ?_⟩
  unfold thenS at p
  cases q : f env g with
  | stuck => rw [q] at p; exact p
  | exc x g' =>
    rw [q] at p
    exact fun cl dx H' m' gr ok z => p cl dx σ H' m' (gr.s r.mem.muW) (r.grow gr ok) z
  | ok a g1 =>
    rw [q] at p
    intro x H1 m1 gr ok ra
    exact hk g1 m1 H1 a x gr (r.grow gr ok) ra (SPost.mono (gr.s r.mem.muW) p)
/-- a, b = e1, e2, both new -/
def sParO (i j : Nat) (f h : E1) : Sd := thenS f fun a env g => thenS h (fun b env g => .nx ((env.set i (.ow a)).set j (.ow b)) g) env g
theorem s_parO {i j : Nat} {x y : Str} {a b : Expr} {f h : E1} {px py pt pos : Pos} {kt k2 pt2} (hc : X.calm = true) (hN : X.N.Nodup) (hi : X.N[i]? = some x) (hj : X.N[j]? = some y) (hij : i ≠ j)
    (hx : X.env.scope.names.lookup x = some .local) (hy : X.env.scope.names.lookup y = some .local) (ha : Pf X S W a f) (hb : Pf X S W b h)
    (hw : swappedStores [.Tuple [.Name x px, .Name y py] kt pt] (.Tuple [a, b] k2 pt2) X.env = pure (some [x, y]))
    (hst : starEach [a, b] X.env = (false, eval a X.env) :: starEach [b] X.env := by rfl) (hst2 : starEach [b] X.env = (false, eval b X.env) :: starEach [] X.env := by rfl)
    (hs : swapsWithSole [.Tuple [.Name x px, .Name y py] kt pt] (.Tuple [a, b] k2 pt2) pos.line X.env = pure false := by rfl) :
    Ps X S W (.Assign [.Tuple [.Name x px, .Name y py] kt pt] (.Tuple [a, b] k2 pt2) pos) (sParO i j f h) :=
  PS.to (ps_par hc hN hi hj hij hx hy (pa_cons ha (pa_cons hb pa_nil hst2) hst) hw hs) fun E σ H q => Tv.st (R := RF S) q fun env g0 g m0 m H1 da va r0 gr r1 ⟨p1, ev, w1, u1, n1, o1⟩ p => by
    subst ev
    refine Tv.st1 (R := RF S) r1 p fun g' m' H2 db vb gr' r1' ⟨p2, ev2, w2, u2, n2, o2⟩ p' => ?_
    subst ev2
    have live : H1 p1 ≠ none := fun z => by have := r1.mem.trk p1 (.inl w1); rw [z] at this; exact this
    have w1' := gr'.wk p1 w1
    have u1' : p1 ∉ m'.mu := fun z => (gr'.mun p1 z).elim u1 live
    have o1' : Root S m' H2 p1 da := o1.grow r1.mem (gr'.s r1.mem.muW) fun o e => gr'.keep p1 o e u1
    have z1 : ∀ (k : Nat) (d' : D), env[k]? = some (Slot.ow d') → σ[k]? = some (some (V.ref p1)) → False := r0.newO n1
    have z2 : ∀ (k : Nat) (d' : D), env[k]? = some (Slot.ow d') → σ[k]? = some (some (V.ref p2)) → False := r1.newO n2
    have r2 := r1'.setO i w1' u1' o1' z1
    refine ⟨.ref p1, .ref p2, rfl, p' _ H2 m' (.refl m' H2) (r2.setO j w2 u2 o2 fun k d' e1 e2 => ?_)⟩
    by_cases hk : i = k
    · subst hk
      have hl : i < env.length := by have := (List.getElem?_eq_some_iff.mp e1).1; simpa using this
      rw [List.getElem?_set_self (by rw [r1'.len]; exact hl)] at e2
      cases e2
      exact live n2
    · rw [List.getElem?_set_ne hk] at e1 e2
      exact z2 k d' e1 e2
/-! ### defs that give what is new -/
def SpecO (S : Stat) (n : Nat) (F : Fn) : Sp := fun vs H Q _ => ∃ ds g m, MOk S H g m ∧ (∀ a ∈ m.W, a ∈ m.mu) ∧ Rl S m H ds vs ∧ ds.length = n ∧ match F ds g with
  | .ok d g' => ∀ a H' m', GrowS m H m' H' → MOk S H' g' m' → (∀ b ∈ m'.W, b ∈ m'.mu ∨ b = a) → a ∈ m'.W → a ∉ m'.mu → Root S m' H' a d → Q (.ref a) H'
  | _ => False
def fnOfO (N : Nat) (body : Sd) : Fn := fun ds g => match body (ds.map Slot.sh ++ List.replicate (N - ds.length) .no) g with
  | .rtO d g' => .ok d g'
  | _ => .stuck
/-- but for the store a alone may be written -/
def Mv.shutO (m : Mv) (a : Addr) : Mv := ⟨m.mu, a :: m.mu, m.B⟩
theorem shutO_fr {H : Hp} {g : Sto} {m : Mv} {a b : Addr} (ok : MOk S H g m) (hw : a ∈ m.W) (h : m.fr b) : (m.shutO a).fr b := ⟨fun z => by
  rcases List.mem_cons.mp z with rfl | z
  · exact h.1 hw
  · exact h.1 (ok.muW b z), h.2⟩
theorem MOk.shutO {H : Hp} {g : Sto} {m : Mv} {a : Addr} (ok : MOk S H g m) (hw : a ∈ m.W) : MOk S H g (m.shutO a) :=
  have sub : ∀ b ∈ (m.shutO a).W, b ∈ m.W := fun b z => by
    rcases List.mem_cons.mp z with rfl | z
    · exact hw
    · exact ok.muW b z
  ⟨ok.len, fun n d b e1 e2 => (ok.sto n d b e1 e2).weak (fun c h => shutO_fr ok hw h) fun _ _ z => z, ok.nd, fun b z => List.mem_cons_of_mem _ z, fun b h => ok.trk b (h.imp (sub b) id), fun b h z => ok.dis b h (sub b z)⟩
theorem fnO_ok {P : Program} {w : World} {K : PySem.W.Frag} {mg : Str → Option Value} {base : Heap} {x qual : Str} {params : Arguments} {body : List Stmt} {scope : Scope} {dvs : List V} {kws : List (Str × V)} {f : Addr} {fd : FuncData} {N ps : List Str} {k : Nat} {sd : Sd}
    (F : FunD K x qual params body scope dvs kws f fd) (C : FnScope N ps scope)
    (hb : ∀ (cdv : Value) (A : Around) (outer : List PySem.Env) (s : Shared) (H : Hp) (E : XK), Room k (A.deeper (envOfC qual scope s.heap.objs.size f cdv)) → Pss ((cxOf CX0 P w K mg base N qual scope f cdv A outer s H E).nox) S W0 body sd) :
    FnOk P w K mg base CX0 (k + 1) f fd ps (SpecO S ps.length (fnOfO N.length sd)) := by
  refine F.ok C (fun vs H Q E ⟨ds, g, m, _, _, rl, hl, _⟩ => by rw [← rl.length, hl]) (fun cdv A outer s H vs Q E hr ⟨ds, g, m, ok, hW, rl, hl, p⟩ => ⟨_, PSs.nox (hb cdv A outer s H E hr), _, g, m, rel_start ok rl, ?_⟩)
  unfold fnOfO at p
  cases q : sd (ds.map Slot.sh ++ List.replicate (N.length - ds.length) .no) g with
  | rtO d g' =>
    rw [q] at p
    refine fun a H' m' gr ok' hw hm ro => p a H' (m'.shutO a) ⟨gr.keep, gr.liv, gr.mu, gr.mun, fun b hb => ?_, gr.b⟩ (ok'.shutO hw) (fun b hb => (List.mem_cons.mp hb).symm) List.mem_cons_self hm (ro.weak (fun c h => shutO_fr ok' hw h) fun _ _ z => z)
    rcases List.mem_cons.mp hb with rfl | hb
    · exact gr.wn b hw
    · exact (gr.mun b hb).imp (fun z => ok.muW b z) id
  | rt d g' => rw [q] at p; exact p.elim
  | nx env' g' => rw [q] at p; exact p.elim
  | bk env' g' => rw [q] at p; exact p.elim
  | ct env' g' => rw [q] at p; exact p.elim
  | exc x env' g' => rw [q] at p; exact p.elim
  | stuck => rw [q] at p; exact p.elim
structure DefO (P : Program) (w : World) (K : PySem.W.Frag) (mg : Str → Option Value) (base : Heap) (S : Stat) (x : Str) (k : Nat) (ps : List Str) (F : Fn) : Prop where
  ex : ∃ f fd, mg x = some (.ref f) ∧ PySem.W.keepIn K (.ref f) = true ∧ Binds K fd ps [] ∧ FnOk P w K mg base CX0 k f fd ps (SpecO S ps.length F)
def Mv.backO (m m' : Mv) (a : Addr) : Mv := ⟨m'.mu, a :: (m.W ++ m'.mu), m.B⟩
theorem backO_ok {H H' : Hp} {g g' : Sto} {m m' : Mv} {a : Addr} {d : D} (ok : MOk S H g m) (q : GrowS m.callee H m' H') (ok' : MOk S H' g' m') (hW : ∀ b ∈ m'.W, b ∈ m'.mu ∨ b = a) (hw : a ∈ m'.W) (hm : a ∉ m'.mu) (ro : Root S m' H' a d) :
    Grow m H (m.backO m' a) H' ∧ MOk S H' g' (m.backO m' a) ∧ H a = none ∧ Root S (m.backO m' a) H' a d := by
  have hB : m'.B = m.B ++ m.W.filter fun a => decide (a ∉ m.mu) := q.b
  have pre : ∀ b ∈ m.mu, b ∈ m'.mu := fun b hb => by
    obtain ⟨t, e⟩ := q.mu
    rw [e]; exact List.mem_append_left _ hb
  have ha : H a = none := (q.wn a hw).elim (fun z => absurd (pre a z) hm) id
  have fr : ∀ b, m'.fr b → (m.backO m' a).fr b := fun b h => by
    refine ⟨fun z => ?_, fun z => h.2 (by rw [hB]; exact List.mem_append_left _ z)⟩
    rcases List.mem_cons.mp z with rfl | z
    · exact h.1 hw
    · rcases List.mem_append.mp z with z | z
      · by_cases hm : b ∈ m.mu
        · exact h.1 (ok'.muW b (pre b hm))
        · exact h.2 (by rw [hB]; exact List.mem_append_right _ (List.mem_filter.mpr ⟨z, decide_eq_true hm⟩))
      · exact h.1 (ok'.muW b z)
  have mk : ∀ b, b ∉ m.mu → Mut (H b) → Mut (H' b) := fun b hb h => by
    cases e : H b with
    | none => rw [e] at h; exact h.elim
    | some o => rw [q.keep b o e hb]; rw [e] at h; exact h
  refine ⟨⟨fun b o h n => q.keep b o h n, q.liv, q.mu, q.mun, fun b hb => List.mem_cons_of_mem _ (List.mem_append_left _ hb), fun b hb => ?_, rfl⟩, ⟨ok'.len, fun n d b e1 e2 => (ok'.sto n d b e1 e2).weak fr fun _ _ z => z, ok'.nd, fun b hb => List.mem_cons_of_mem _ (List.mem_append_right _ hb), fun b hb => ?_, fun b hb z => ?_⟩, ha, ro.weak fr fun _ _ z => z⟩
  · rcases List.mem_cons.mp hb with rfl | z
    · exact .inr ha
    · rcases List.mem_append.mp z with z | z
      · exact .inl z
      · exact (q.mun b z).imp (fun y => ok.muW b y) id
  · rcases hb with hb | hb
    · rcases List.mem_cons.mp hb with rfl | z
      · exact ok'.trk b (.inl hw)
      · rcases List.mem_append.mp z with z | z
        · by_cases hm : b ∈ m.mu
          · exact ok'.trk b (.inl (ok'.muW b (pre b hm)))
          · exact mk b hm (ok.trk b (.inl z))
        · exact ok'.trk b (.inl (ok'.muW b z))
    · exact mk b (fun z => ok.dis b hb (ok.muW b z)) (ok.trk b (.inr hb))
  · rcases List.mem_cons.mp z with rfl | z
    · have := ok.trk b (.inr hb); rw [ha] at this; exact this
    · rcases List.mem_append.mp z with z | z
      · exact ok.dis b hb z
      · exact ok'.dis b (by rw [hB]; exact List.mem_append_left _ hb) (ok'.muW b z)
theorem f_callO {x : Str} {k : Nat} {ps : List Str} {F : Fn} {e : Expr} {es : List Expr} {fs : En (List D)} {p pos : Pos} (d : DefO X.prog X.w X.K X.mg X.base S x k ps F) (hr : Room k X.A) (hg : Gl X x) (ha : Pas X S W (e :: es) fs)
    (hdb : (x == ("__debug__" : Str)) = false := by decide) (he : starEach (e :: es) X.env = (false, eval e X.env) :: starEach es X.env := by rfl) (hpl : (backTo pos (starEach es X.env)).any (·.1) = false := by rfl) :
    Pf X S W (.Call (.Name x p) (e :: es) [] pos) (eCall ps.length F fs) := by
  obtain ⟨f, fd, hm, hk, hb, G⟩ := d.ex
  refine PE.to (pe_call G hr hg hm hk hb .nil pass0 ha hdb he hpl) fun σ H Q q => Tv.go (Ra := RL S) (k := fun ds _ g1 => if ds.length = ps.length then (match F ds g1 with
    | .exc _ _ => .stuck
    | r => r) else .stuck) q fun env m g H1 ds vs rel fz ra p => ?_
  rw [List.append_nil]
  split at p
  · rename_i hn
    refine ⟨ds, g, m.callee, rel.mem.callee, fun _ z => z, Rl.weak (m := m) (fun b h => callee_fr rel.mem.muW h) (fun _ _ z => z) ra, hn, ?_⟩
    cases q : F ds g with
    | stuck => rw [q] at p; exact p
    | exc x g' => rw [q] at p; exact p.elim
    | ok d g' =>
      rw [q] at p
      intro a H' m' gr ok' hW hw hm ro
      obtain ⟨h1, h2, h3, h4⟩ := backO_ok rel.mem gr ok' hW hw hm ro
      exact p (.ref a) H' (m.backO m' a) h1 h2 ⟨a, rfl, List.mem_cons_self, hm, fz a h3, h4⟩
  · exact p.elim
/-! ### calls that look at what is one's own; they leave no trace, give nothing that can be changed -/
mutual
def flat : D → Bool
  | .non => true
  | .bl _ => true
  | .int _ => true
  | .str _ => true
  | .tup xs => flatL xs
  | .cls _ => true
  | _ => false
def flatL : List D → Bool
  | [] => true
  | x :: r => flat x && flatL r
end
mutual
def noLoc : D → Bool
  | .loc _ => false
  | .lst xs => noLocL xs
  | .tup xs => noLocL xs
  | .ctup xs => noLocL xs
  | .frz xs => noLocL xs
  | .dic _ _ vs => noLocL vs
  | .ins _ _ vs => noLocL vs
  | _ => true
def noLocL : List D → Bool
  | [] => true
  | x :: r => noLoc x && noLocL r
end
mutual
theorem Rr.flat {m m' : Mv} {H : Hp} : ∀ {d : D} {v : V}, Ev.flat d = true → Rr S m H d v → Rr S m' H d v
  | _, _, _, .non => .non
  | _, _, _, .bl b => .bl b
  | _, _, _, .int i => .int i
  | _, _, _, .str x => .str x
  | _, _, h, .tup e r => .tup e (Rl.flat (by simpa [Ev.flat] using h) r)
  | _, _, h, .ctup _ _ => by simp [Ev.flat] at h
  | _, _, h, .lst _ _ _ => by simp [Ev.flat] at h
  | _, _, h, .frz _ _ => by simp [Ev.flat] at h
  | _, _, h, .dic _ _ _ _ => by simp [Ev.flat] at h
  | _, _, h, .ins _ _ _ _ _ => by simp [Ev.flat] at h
  | _, _, h, .loc _ => by simp [Ev.flat] at h
  | _, _, h, .cls e => .cls e
theorem Rl.flat {m m' : Mv} {H : Hp} : ∀ {ds : List D} {vs : List V}, Ev.flatL ds = true → Rl S m H ds vs → Rl S m' H ds vs
  | _, _, _, .nil => .nil
  | _, _, h, .cons r t => by
    simp only [Ev.flatL, Bool.and_eq_true] at h
    exact .cons (Rr.flat h.1 r) (Rl.flat h.2 t)
end
mutual
theorem Rr.noLoc {m m' : Mv} {H : Hp} (f : ∀ a, m.fr a → m'.fr a) : ∀ {d : D} {v : V}, Ev.noLoc d = true → Rr S m H d v → Rr S m' H d v
  | _, _, _, .non => .non
  | _, _, _, .bl b => .bl b
  | _, _, _, .int i => .int i
  | _, _, _, .str x => .str x
  | _, _, h, .tup e r => .tup e (Rl.noLoc f (by simpa [Ev.noLoc] using h) r)
  | _, _, h, .ctup e r => .ctup e (Rl.noLoc f (by simpa [Ev.noLoc] using h) r)
  | _, _, h, .lst e z r => .lst e (f _ z) (Rl.noLoc f (by simpa [Ev.noLoc] using h) r)
  | _, _, h, .frz e r => .frz (by
      rcases e with ⟨e, z⟩ | e
      · exact .inl ⟨e, f _ z⟩
      · exact .inr e) (Rl.noLoc f (by simpa [Ev.noLoc] using h) r)
  | _, _, h, .dic e z d r => .dic e (f _ z) d (Rl.noLoc f (by simpa [Ev.noLoc] using h) r)
  | _, _, h, .ins e z c n r => .ins e (f _ z) c n (Rl.noLoc f (by simpa [Ev.noLoc] using h) r)
  | _, _, h, .loc _ => by simp [Ev.noLoc] at h
  | _, _, h, .cls e => .cls e
theorem Rl.noLoc {m m' : Mv} {H : Hp} (f : ∀ a, m.fr a → m'.fr a) : ∀ {ds : List D} {vs : List V}, Ev.noLocL ds = true → Rl S m H ds vs → Rl S m' H ds vs
  | _, _, _, .nil => .nil
  | _, _, h, .cons r t => by
    simp only [Ev.noLocL, Bool.and_eq_true] at h
    exact .cons (Rr.noLoc f h.1 r) (Rl.noLoc f h.2 t)
end
theorem Root.noLoc {m m' : Mv} {H : Hp} {a : Addr} {d : D} (f : ∀ a, m.fr a → m'.fr a) (h : Ev.noLoc d = true) (r : Root S m H a d) : Root S m' H a d := by
  cases r with
  | lst e r => exact .lst e (Rl.noLoc f (by simpa [Ev.noLoc] using h) r)
  | dic e d r => exact .dic e d (Rl.noLoc f (by simpa [Ev.noLoc] using h) r)
  | ins e c n r => exact .ins e c n (Rl.noLoc f (by simpa [Ev.noLoc] using h) r)
/-- arguments that are looked at -/
inductive Rbl (S : Stat) (m : Mv) (H : Hp) : List D → List V → Prop where
  | nil : Rbl S m H [] []
  | cons {d : D} {v : V} {ds : List D} {vs : List V} : Rb S m H d v → Rbl S m H ds vs → Rbl S m H (d :: ds) (v :: vs)
def RBL (S : Stat) : Hp → Mv → Hp → List D → List V → Prop := fun _ m H d v => Rbl S m H d v
abbrev Pbs (X : Cx) (S : Stat) (W : WX) (es : List Expr) (f : En (List D)) : Prop := PA X es (Tv S (RBL S) W f)
theorem bs_nil : Pbs X S W [] eNil := PA.to pa_nil fun σ H Q ⟨env, g, m, r, p⟩ => p.now r.mem Rbl.nil
theorem bs_cons {e : Expr} {es : List Expr} {f : E1} {fs : En (List D)} (he : Pb X S W e f) (hr : Pbs X S W es fs) (hs : starEach (e :: es) X.env = (false, eval e X.env) :: starEach es X.env := by rfl) : Pbs X S W (e :: es) (eCons f fs) :=
  PA.to (pa_cons he hr hs) fun σ H Q h => Tv.two (Ra := RB S) (Rb := RBL S) rb_stays h fun env m g H1 a b x y rel fz ⟨_, ra⟩ ⟨_, rb⟩ p => p.now rel.mem (Rbl.cons ra rb)
theorem Rbl.length {m : Mv} {H : Hp} : ∀ {ds : List D} {vs : List V}, Rbl S m H ds vs → ds.length = vs.length
  | _, _, .nil => rfl
  | _, _, .cons _ t => by simp [Rbl.length t]
/-- for the callee nothing may be written -/
def Mv.sealed (ls : List Addr) (m : Mv) : Mv := ⟨[], [], m.B ++ m.W.filter fun a => decide (a ∉ ls)⟩
theorem seal_args {m : Mv} {H : Hp} {g : Sto} (ok : MOk S H g m) : ∀ {ds : List D} {vs : List V}, noLocL ds = true → Rbl S m H ds vs → ∃ ls : List Addr, ∀ ls' : List Addr, (∀ a ∈ ls, a ∈ ls') → Rl S (m.sealed ls') H ds vs
  | _, _, _, .nil => ⟨[], fun _ _ => .nil⟩
  | _, _, h, .cons r t => by
    simp only [noLocL, Bool.and_eq_true] at h
    obtain ⟨ls, hl⟩ := seal_args ok h.2 t
    have fr : ∀ (ls' : List Addr) (b : Addr), m.fr b → (m.sealed ls').fr b := fun ls' b z => ⟨fun y => by simp [Mv.sealed] at y, fun y => (List.mem_append.mp y).elim z.2 fun y => z.1 (List.mem_filter.mp y).1⟩
    rcases r with r | ⟨a, rfl, hw, hm, ro⟩
    · exact ⟨ls, fun ls' hs => .cons (Rr.noLoc (fr ls') h.1 r) (hl ls' hs)⟩
    · refine ⟨a :: ls, fun ls' hs => .cons ((Root.noLoc (fr ls') h.1 ro).rr ⟨fun y => by simp [Mv.sealed] at y, fun y => ?_⟩) (hl ls' fun b hb => hs b (List.mem_cons_of_mem _ hb))⟩
      rcases List.mem_append.mp y with y | y
      · exact ok.dis a y hw
      · exact of_decide_eq_true (List.mem_filter.mp y).2 (hs a List.mem_cons_self)
def eCallP (n : Nat) (F : Fn) (fs : En (List D)) : E1 := fun env g => (fs env g).bind fun ds g1 => if ds.length = n ∧ noLocL ds = true then (match F ds [] with
  | .ok d _ => if flat d = true then .ok d g1 else .stuck
  | _ => .stuck) else .stuck
theorem e_callP {x : Str} {k : Nat} {ps : List Str} {F : Fn} {e : Expr} {es : List Expr} {fs : En (List D)} {p pos : Pos} (d : Def X.prog X.w X.K X.mg X.base S x k ps F) (hr : Room k X.A) (hg : Gl X x) (ha : Pbs X S W (e :: es) fs)
    (hdb : (x == ("__debug__" : Str)) = false := by decide) (he : starEach (e :: es) X.env = (false, eval e X.env) :: starEach es X.env := by rfl) (hpl : (backTo pos (starEach es X.env)).any (·.1) = false := by rfl) :
    Pe X S W (.Call (.Name x p) (e :: es) [] pos) (eCallP ps.length F fs) := by
  obtain ⟨f, fd, hm, hk, hb, G⟩ := d.ex
  refine PE.to (pe_call G hr hg hm hk hb .nil pass0 ha hdb he hpl) fun σ H Q q => Tv.go (Ra := RBL S) (k := fun ds _ g1 => if ds.length = ps.length ∧ noLocL ds = true then (match F ds [] with
    | .ok d _ => if flat d = true then .ok d g1 else .stuck
    | _ => .stuck) else .stuck) q fun env m g H1 ds vs rel fz ra p => ?_
  rw [List.append_nil]
  split at p
  · rename_i hn
    obtain ⟨ls, hl⟩ := seal_args rel.mem hn.2 ra
    have okc : MOk S H1 [] (m.sealed ls) := ⟨rfl, fun n d a e1 _ => by simp at e1, by simp [Mv.sealed], fun a z => by simp [Mv.sealed] at z, fun a h => by
      rcases h with h | h
      · simp [Mv.sealed] at h
      · rcases List.mem_append.mp h with h | h
        · exact rel.mem.trk a (.inr h)
        · exact rel.mem.trk a (.inl (List.mem_filter.mp h).1), fun a _ z => by simp [Mv.sealed] at z⟩
    refine ⟨ds, [], m.sealed ls, okc, fun a z => by simp [Mv.sealed] at z, hl ls fun _ z => z, hn.1, ?_⟩
    cases q : F ds [] with
    | stuck => rw [q] at p; exact p
    | exc x g' => rw [q] at p; exact p.elim
    | ok d g' =>
      rw [q] at p
      dsimp only at p
      split at p
      · rename_i hf
        intro v H' m' gr ok' hW r
        have keep : ∀ a o, H1 a = some o → H' a = some o := fun a o e => gr.keep a o e (by simp [Mv.sealed])
        have gr' : Grow m H1 m H' := ⟨fun a o e _ => keep a o e, gr.liv, ⟨[], by simp⟩, fun _ h => .inl h, fun _ h => h, fun _ h => .inl h, rfl⟩
        exact p v H' m gr' (rel.mem.of_grow gr' rfl (fun a _ u e => keep a u e) (fun a h1 h2 => absurd h1 h2) fun a h1 h2 => absurd h1 h2) (Rr.flat hf r)
      · exact p.elim
  · exact p.elim
/-! ### a def that is not yet a function: for the bottom of a recursion -/
def fnNo : Fn := fun _ _ => .stuck
theorem spec_no {n : Nat} {vs : List V} {H : Hp} {Q : VK} {E : XK} (h : Spec S n fnNo vs H Q E) : False := by
  obtain ⟨ds, g, m, _, _, _, _, p⟩ := h
  exact p
end
end Ev
namespace Ev
open PySem PySem.Spec PyProof.Rows L2
section
variable {X : Cx} {S : Stat} {W : WX}
theorem c_call {x : Str} {k n : Nat} {ps : List Str} {F : Fn} {e : Expr} {es : List Expr} {fs : En (List D)} {p pos : Pos} (d : Def X.prog X.w X.K X.mg X.base S x k ps F) (hr : Room k X.A) (hg : Gl X x) (ha : Pas X S W (e :: es) fs)
    (hn : ps.length = n := by rfl) (hdb : (x == ("__debug__" : Str)) = false := by decide) (he : starEach (e :: es) X.env = (false, eval e X.env) :: starEach es X.env := by rfl) (hpl : (backTo pos (starEach es X.env)).any (·.1) = false := by rfl) :
    Pe X S W (.Call (.Name x p) (e :: es) [] pos) (eCall n F fs) := by
  subst hn
  exact e_call d hr hg ha hdb he hpl
theorem c_callO {x : Str} {k n : Nat} {ps : List Str} {F : Fn} {e : Expr} {es : List Expr} {fs : En (List D)} {p pos : Pos} (d : DefO X.prog X.w X.K X.mg X.base S x k ps F) (hr : Room k X.A) (hg : Gl X x) (ha : Pas X S W (e :: es) fs)
    (hn : ps.length = n := by rfl) (hdb : (x == ("__debug__" : Str)) = false := by decide) (he : starEach (e :: es) X.env = (false, eval e X.env) :: starEach es X.env := by rfl) (hpl : (backTo pos (starEach es X.env)).any (·.1) = false := by rfl) :
    Pf X S W (.Call (.Name x p) (e :: es) [] pos) (eCall n F fs) := by
  subst hn
  exact f_callO d hr hg ha hdb he hpl
theorem c_callP {x : Str} {k n : Nat} {ps : List Str} {F : Fn} {e : Expr} {es : List Expr} {fs : En (List D)} {p pos : Pos} (d : Def X.prog X.w X.K X.mg X.base S x k ps F) (hr : Room k X.A) (hg : Gl X x) (ha : Pbs X S W (e :: es) fs)
    (hn : ps.length = n := by rfl) (hdb : (x == ("__debug__" : Str)) = false := by decide) (he : starEach (e :: es) X.env = (false, eval e X.env) :: starEach es X.env := by rfl) (hpl : (backTo pos (starEach es X.env)).any (·.1) = false := by rfl) :
    Pe X S W (.Call (.Name x p) (e :: es) [] pos) (eCallP n F fs) := by
  subst hn
  exact e_callP d hr hg ha hdb he hpl
def sNeg : D → Sto → Res D
  | .int i, g => .ok (.int (-i)) g
  | _, _ => .stuck
theorem e_neg {a : Expr} {f : E1} {pos : Pos} (ha : Pe X S W a f) : Pe X S W (.UnaryOp .USub a pos) (eU sNeg f) :=
  PE.to (pe_un un_neg ha) fun σ H Q q => Tv.one (Ra := RT S) q fun env m g H1 d x rel _ ⟨_, ra⟩ p => by
    cases d with
    | int i => exact ⟨i, ra.int_inv, p.now rel.mem (.int _)⟩
    | _ => exact p.elim
end
section
variable {P : Program} {w : World} {K : PySem.W.Frag} {mg : Str → Option Value} {base : Heap} {S : Stat}
/-- the def st stands at the name x -/
structure Got (K : PySem.W.Frag) (mg : Str → Option Value) (x : Str) (st : Stmt) : Prop where
  ex : ∃ f fd, FunD K x x (defArgs st) (defBody st) (defScope st) [] [] f fd ∧ mg x = some (.ref f)
theorem Def.mono {x : Str} {j k : Nat} {ps : List Str} {F : Fn} (d : Def P w K mg base S x j ps F) (h : j ≤ k) : Def P w K mg base S x k ps F := by
  obtain ⟨f, fd, h1, h2, h3, h4⟩ := d.ex
  exact ⟨f, fd, h1, h2, h3, h4.mono h⟩
theorem DefO.mono {x : Str} {j k : Nat} {ps : List Str} {F : Fn} (d : DefO P w K mg base S x j ps F) (h : j ≤ k) : DefO P w K mg base S x k ps F := by
  obtain ⟨f, fd, h1, h2, h3, h4⟩ := d.ex
  exact ⟨f, fd, h1, h2, h3, h4.mono h⟩
theorem def_mk {x : Str} {st : Stmt} {k : Nat} {N ps : List Str} {sd : Sd} (G : Got K mg x st) (C : FnScope N ps (defScope st))
    (hb : ∀ (kV doc pm : Value) (an : Option Addr) (cdv ct : Value) (us : List Value), us.length = ps.length → bindArgs (PySem.W.fnOf x x (defArgs st) (defBody st) (defScope st) .none kV doc pm an cdv ct) ⟨us, []⟩ = pure (ps.zip us))
    (h : ∀ (f : Addr) (cdv : Value) (A : Around) (outer : List PySem.Env) (s : Shared) (H : Hp) (E : XK), Room k (A.deeper (envOfC x (defScope st) s.heap.objs.size f cdv)) → Pss ((cxOf CX0 P w K mg base N x (defScope st) f cdv A outer s H E).nox) S W0 (defBody st) sd) :
    Def P w K mg base S x (k + 1) ps (fnOf N.length sd) := by
  obtain ⟨f, fd, F, e⟩ := G.ex
  exact ⟨f, fd, e, F.kp, F.bindsN hb, fn_ok F C (h f)⟩
theorem defO_mk {x : Str} {st : Stmt} {k : Nat} {N ps : List Str} {sd : Sd} (G : Got K mg x st) (C : FnScope N ps (defScope st))
    (hb : ∀ (kV doc pm : Value) (an : Option Addr) (cdv ct : Value) (us : List Value), us.length = ps.length → bindArgs (PySem.W.fnOf x x (defArgs st) (defBody st) (defScope st) .none kV doc pm an cdv ct) ⟨us, []⟩ = pure (ps.zip us))
    (h : ∀ (f : Addr) (cdv : Value) (A : Around) (outer : List PySem.Env) (s : Shared) (H : Hp) (E : XK), Room k (A.deeper (envOfC x (defScope st) s.heap.objs.size f cdv)) → Pss ((cxOf CX0 P w K mg base N x (defScope st) f cdv A outer s H E).nox) S W0 (defBody st) sd) :
    DefO P w K mg base S x (k + 1) ps (fnOfO N.length sd) := by
  obtain ⟨f, fd, F, e⟩ := G.ex
  exact ⟨f, fd, e, F.kp, F.bindsN hb, fnO_ok F C (h f)⟩
/-- the bottom of a recursion -/
theorem def_no {x : Str} {st : Stmt} {ps : List Str} {k : Nat} (G : Got K mg x st)
    (hb : ∀ (kV doc pm : Value) (an : Option Addr) (cdv ct : Value) (us : List Value), us.length = ps.length → bindArgs (PySem.W.fnOf x x (defArgs st) (defBody st) (defScope st) .none kV doc pm an cdv ct) ⟨us, []⟩ = pure (ps.zip us)) :
    Def P w K mg base S x k ps fnNo := by
  obtain ⟨f, fd, F, e⟩ := G.ex
  exact ⟨f, fd, e, F.kp, F.bindsN hb, ⟨fun _ _ _ _ h => (spec_no h).elim, fun _ _ _ _ _ _ _ _ _ _ _ _ _ h => (spec_no h).elim⟩⟩
end
theorem unitsOf {A : Around} {k : Nat} (hr : Room k A) : A.units + 64 < cLine := hr.units
end Ev
/-! Deals as lists [[great numbers], mixed]: what draw and mixed give. -/
namespace Ev
open PySem PySem.Spec PyProof.Rows L2
/-! ### what the combinators compute -/
theorem whileL_succ {t : En Bool} {body : Sd} {n : Nat} {env : Env} {g : Sto} : whileL t body (n + 1) env g = thenS t (fun c env g => if c = true then (match body env g with
      | .nx env' g' => whileL t body n env' g'
      | .ct env' g' => whileL t body n env' g'
      | .bk env' g' => .nx env' g'
      | r => r) else .nx env g) env g := rfl
theorem while_no {t : En Bool} {body : Sd} {n : Nat} {env : Env} {g g1 : Sto} (h : t env g = .ok false g1) : whileL t body (n + 1) env g = .nx env g1 := by
  rw [whileL_succ]; unfold thenS; rw [h]; rfl
theorem while_yes {t : En Bool} {body : Sd} {n : Nat} {env env' : Env} {g g1 g' : Sto} (h : t env g = .ok true g1) (hb : body env g1 = .nx env' g') : whileL t body (n + 1) env g = whileL t body n env' g' := by
  rw [whileL_succ]; unfold thenS; rw [h]; simp only [if_true]; rw [hb]
theorem seq_nx {f h : Sd} {env env' : Env} {g g' : Sto} (e : f env g = .nx env' g') : sSeq f h env g = h env' g' := by unfold sSeq; rw [e]
theorem eB_ok {α β γ : Type} {sem : α → β → Sto → Res γ} {fa : En α} {fb : En β} {env : Env} {g g1 g2 : Sto} {a : α} {b : β} (h1 : fa env g = .ok a g1) (h2 : fb env g1 = .ok b g2) : eB sem fa fb env g = sem a b g2 := by
  unfold eB; rw [h1]; simp only [Res.bind]; rw [h2]
theorem eU_ok {α γ : Type} {sem : α → Sto → Res γ} {fa : En α} {env : Env} {g g1 : Sto} {a : α} (h1 : fa env g = .ok a g1) : eU sem fa env g = sem a g1 := by
  unfold eU; rw [h1]; rfl
theorem eC_ok {d : D} {env : Env} {g : Sto} : eC d env g = .ok d g := rfl
theorem thenS_ok {α : Type} {f : En α} {k : α → Env → Sto → SRes} {env : Env} {g g1 : Sto} {a : α} (h : f env g = .ok a g1) : thenS f k env g = k a env g1 := by
  unfold thenS; rw [h]
theorem eCons_ok {f : E1} {fs : En (List D)} {env : Env} {g g1 g2 : Sto} {a : D} {as : List D} (h1 : f env g = .ok a g1) (h2 : fs env g1 = .ok as g2) : eCons f fs env g = .ok (a :: as) g2 := eB_ok h1 h2
theorem seq_rt {f h : Sd} {env : Env} {g g' : Sto} {d : D} (e : f env g = .rt d g') : sSeq f h env g = .rt d g' := by unfold sSeq; rw [e]
/-! ### the deal in the store -/
def dl (g : Sto) (n k : Nat) (xs : List Int) (mx : Int) : Sto := (g.set k (.lst (xs.map .int))).set n (.lst [.loc k, .int mx])
structure DealOk (g : Sto) (n k : Nat) : Prop where
  ne : n ≠ k
  ln : n < g.length
  lk : k < g.length
section
variable {g : Sto} {n k : Nat} {xs ys : List Int} {mx my : Int}
theorem dl_n (h : DealOk g n k) : (dl g n k xs mx)[n]? = some (.lst [.loc k, .int mx]) := by
  unfold dl; rw [List.getElem?_set_self (by simpa using h.ln)]
theorem dl_k (h : DealOk g n k) : (dl g n k xs mx)[k]? = some (.lst (xs.map .int)) := by
  unfold dl; rw [List.getElem?_set_ne h.ne, List.getElem?_set_self h.lk]
theorem dl_setk (h : DealOk g n k) : (dl g n k xs mx).set k (.lst (ys.map .int)) = dl g n k ys mx := by
  unfold dl; rw [List.set_comm _ _ h.ne, List.set_set]
theorem dl_setn (h : DealOk g n k) : (dl g n k xs mx).set n (.lst [.loc k, .int my]) = dl g n k xs my := by
  unfold dl; rw [List.set_set]
/-- the list is empty: != [] -/
theorem ne_nil (xs : List Int) : deq 40 (.lst (xs.map .int)) (.lst []) = some (decide (xs = [])) := by
  cases xs with
  | nil => rfl
  | cons x r => simp [deq]
theorem ne_nilD (xs : List D) : deq 40 (.lst xs) (.lst []) = some (decide (xs = [])) := by
  cases xs with
  | nil => simp [deq, deqL]
  | cons x r => simp [deq]
abbrev dHead : E1 := eB (dr2 sIx) (eVarB 0) (eC (.int 0))
abbrev drawT : En Bool := tAndF (eU asB (eB (dr2 sNe) dHead (eLst eNil))) (eU asB (eB (dr2 sEq) (eB (dr2 sIx) dHead (eU sNeg (eC (.int 1)))) (eC (.int 0))))
abbrev drawB : Sd := sDo (eU sPop dHead)
theorem head_at {env : Env} (h : DealOk g n k) (e0 : env[0]? = some (.sh (.loc n))) : dHead env (dl g n k xs mx) = .ok (.loc k) (dl g n k xs mx) := by
  simp [dHead, eB, eVarB, eC, e0, Res.bind, dr2, dr, dl_n h, sIx, L2.atI, L2.ixN]
theorem full_at {env : Env} (h : DealOk g n k) (e0 : env[0]? = some (.sh (.loc n))) : (eU asB (eB (dr2 sNe) dHead (eLst eNil))) env (dl g n k xs mx) = .ok (!decide (xs = [])) (dl g n k xs mx) := by
  have h1 := head_at (xs := xs) (mx := mx) h e0
  simp [eU, eB, h1, Res.bind, dr2, dr, dl_k h, sNe, ne_nil, asB, eLst, eNil, big]
theorem last_at {env : Env} (h : DealOk g n k) (e0 : env[0]? = some (.sh (.loc n))) (x : Int) : (eB (dr2 sIx) dHead (eU sNeg (eC (.int 1)))) env (dl g n k (xs ++ [x]) mx) = .ok (.int x) (dl g n k (xs ++ [x]) mx) := by
  have h1 := head_at (xs := xs ++ [x]) (mx := mx) h e0
  have hi : L2.ixN (xs.length + 1) (-1) = some xs.length := by simp [L2.ixN]; omega
  simp [eB, h1, Res.bind, dr2, dr, dl_k h, sIx, eU, sNeg, eC, L2.atI, hi]
theorem pop_at {env : Env} (h : DealOk g n k) (e0 : env[0]? = some (.sh (.loc n))) (x : Int) : (eU sPop dHead) env (dl g n k (xs ++ [x]) mx) = .ok (.int x) (dl g n k xs mx) := by
  have h1 := head_at (xs := xs ++ [x]) (mx := mx) h e0
  have e2 := dl_setk (ys := xs) (xs := xs ++ [x]) (mx := mx) h
  simp [eU, h1, Res.bind, sPop, lstAt, dl_k h]
  rw [← e2]
theorem draw_while {env : Env} (h : DealOk g n k) (e0 : env[0]? = some (.sh (.loc n))) : ∀ (m : Nat) (xs : List Int), xs.length < m → ∃ ys, ys.length ≤ xs.length ∧ whileL drawT drawB m env (dl g n k xs mx) = .nx env (dl g n k ys mx)
  | 0, _, hm => by omega
  | m + 1, xs, hm => by
    rcases List.eq_nil_or_concat xs with rfl | ⟨ys, x, rfl⟩
    · refine ⟨[], Nat.le_refl _, while_no ?_⟩
      have h1 := full_at (xs := []) (mx := mx) h e0
      simp only [drawT, tAndF, h1, Res.bind]
      simp
    · rw [List.concat_eq_append] at *
      have h1 := full_at (xs := ys ++ [x]) (mx := mx) h e0
      have h2 := last_at (xs := ys) (mx := mx) h e0 x
      by_cases hx : x = 0
      · subst hx
        obtain ⟨zs, hl, e⟩ := draw_while h e0 m ys (by simp at hm; omega)
        refine ⟨zs, by simp; omega, ?_⟩
        rw [while_yes (g1 := dl g n k (ys ++ [0]) mx) (env' := env) (g' := dl g n k ys mx) ?_ ?_, e]
        · simp only [drawT, tAndF, h1, Res.bind]
          simp only [List.append_eq_nil_iff, List.cons_ne_nil, and_false, decide_false, Bool.not_false, if_true]
          rw [eU_ok (sem := asB) ((eB_ok (sem := dr2 sEq) h2 (eC_ok (d := .int 0))).trans (show dr2 sEq (.int 0) (.int 0) _ = .ok (.bl true) _ from rfl))]
          rfl
        · have h3 := pop_at (xs := ys) (mx := mx) h e0 0
          simp [drawB, sDo, thenS, h3]
      · refine ⟨ys ++ [x], Nat.le_refl _, while_no ?_⟩
        simp only [drawT, tAndF, h1, Res.bind]
        simp only [List.append_eq_nil_iff, List.cons_ne_nil, and_false, decide_false, Bool.not_false, if_true]
        have e3 : (dr2 sEq) (.int x) (.int 0) (dl g n k (ys ++ [x]) mx) = .ok (.bl false) (dl g n k (ys ++ [x]) mx) := by simp [dr2, dr, sEq, deq, hx]
        rw [eU_ok (sem := asB) ((eB_ok (sem := dr2 sEq) h2 (eC_ok (d := .int 0))).trans e3)]
        rfl
/-! ### draw -/
def drawQ : Sd := sSeq (sWhile 70 drawT drawB) (sSeq (sIf (eU asB (eB (dr2 sNe) dHead (eLst eNil))) (sSeq (sSet 2 (eU sPop dHead)) (sSeq (sDo (eApp dHead (eB sFdiv (eVarB 2) (eVarB 1)))) (sRet (eB sMod (eU (dr1 sInt) (eVarB 2)) (eVarB 1))))) sNil)
  (sSeq (sDo (eSet3 sPut (eB sMod (eU (dr1 sInt) (eB sAdd (eB sMulI (eB (dr2 sIx) (eVarB 0) (eC (.int 1))) (eC (.int 48271))) (eC (.int 37)))) (eC (.int 2147483647))) (eVar 0) (eC (.int 1)))) (sRet (eB sMod (eU (dr1 sInt) (eB sFdiv (eB (dr2 sIx) (eVarB 0) (eC (.int 1))) (eC (.int 16)))) (eVarB 1)))))
def drawF : Fn := fnOf 3 drawQ
theorem draw_ok (h : DealOk g n k) (hl : xs.length < 70) {wide : Int} (h0 : 0 < wide) (h1 : wide < 1073741824) :
    ∃ ys my r, drawF [.loc n, .int wide] (dl g n k xs mx) = .ok (.int r) (dl g n k ys my) ∧ ys.length ≤ xs.length ∧ 0 ≤ r ∧ r < wide := by
  obtain ⟨zs, hz, e⟩ := draw_while (mx := mx) (env := [.sh (.loc n), .sh (.int wide), .no]) h rfl 70 xs hl
  have er : ∀ (r : SRes), (sSeq (sIf (eU asB (eB (dr2 sNe) dHead (eLst eNil))) (sSeq (sSet 2 (eU sPop dHead)) (sSeq (sDo (eApp dHead (eB sFdiv (eVarB 2) (eVarB 1)))) (sRet (eB sMod (eU (dr1 sInt) (eVarB 2)) (eVarB 1))))) sNil)
      (sSeq (sDo (eSet3 sPut (eB sMod (eU (dr1 sInt) (eB sAdd (eB sMulI (eB (dr2 sIx) (eVarB 0) (eC (.int 1))) (eC (.int 48271))) (eC (.int 37)))) (eC (.int 2147483647))) (eVar 0) (eC (.int 1)))) (sRet (eB sMod (eU (dr1 sInt) (eB sFdiv (eB (dr2 sIx) (eVarB 0) (eC (.int 1))) (eC (.int 16)))) (eVarB 1))))) [.sh (.loc n), .sh (.int wide), .no] (dl g n k zs mx) = r →
      drawF [.loc n, .int wide] (dl g n k xs mx) = (match r with
        | .rt d g' => .ok d g'
        | .rtO d g' => .ok d g'
        | .nx _ g' => .ok .non g'
        | .exc x _ g' => .exc x g'
        | _ => .stuck) := fun r hr => by
    unfold drawF fnOf drawQ
    simp only [List.map, List.length_cons, List.length_nil, List.cons_append, List.nil_append, List.replicate]
    rw [seq_nx (show sWhile 70 drawT drawB [.sh (.loc n), .sh (.int wide), .no] (dl g n k xs mx) = _ from e), hr]
    all_goals (cases r <;> rfl)
  have hf := full_at (xs := zs) (mx := mx) (env := [.sh (.loc n), .sh (.int wide), .no]) h rfl
  rcases List.eq_nil_or_concat zs with rfl | ⟨ys, x, rfl⟩
  · refine ⟨[], (mx * 48271 + 37) % 2147483647, ((mx * 48271 + 37) % 2147483647 / 16) % wide, ?_, by simp, Int.emod_nonneg _ (by omega), Int.emod_lt_of_pos _ h0⟩
    have h3 : ∀ m, (eB (dr2 sIx) (eVarB 0) (eC (.int 1))) [.sh (.loc n), .sh (.int wide), .no] (dl g n k [] m) = .ok (.int m) (dl g n k [] m) := fun m => by
      simp [eB, eVarB, eC, Res.bind, dr2, dr, dl_n h, sIx, L2.atI, L2.ixN]
    have h4 : (eB sMod (eU (dr1 sInt) (eB sAdd (eB sMulI (eB (dr2 sIx) (eVarB 0) (eC (.int 1))) (eC (.int 48271))) (eC (.int 37)))) (eC (.int 2147483647))) [.sh (.loc n), .sh (.int wide), .no] (dl g n k [] mx) = .ok (.int ((mx * 48271 + 37) % 2147483647)) (dl g n k [] mx) := by
      have a1 := eB_ok (sem := sMulI) (h3 mx) (eC_ok (d := .int 48271))
      have a2 : sMulI (.int mx) (.int 48271) (dl g n k [] mx) = .ok (.int (mx * 48271)) (dl g n k [] mx) := by simp [sMulI]
      have a3 := eB_ok (sem := sAdd) (a1.trans a2) (eC_ok (d := .int 37))
      have a4 := eU_ok (sem := dr1 sInt) (a3.trans (show sAdd (.int (mx * 48271)) (.int 37) _ = .ok (.int (mx * 48271 + 37)) _ from rfl))
      rw [eB_ok (a4.trans rfl) (eC_ok (d := .int 2147483647))]
      rfl
    refine er (.rt (.int (((mx * 48271 + 37) % 2147483647 / 16) % wide)) (dl g n k [] ((mx * 48271 + 37) % 2147483647))) ?_
    rw [seq_nx (env' := [.sh (.loc n), .sh (.int wide), .no]) (g' := dl g n k [] mx) ?_, seq_nx (env' := [.sh (.loc n), .sh (.int wide), .no]) (g' := dl g n k [] ((mx * 48271 + 37) % 2147483647)) ?_]
    · unfold sRet
      have b1 := eB_ok (sem := sFdiv) (h3 ((mx * 48271 + 37) % 2147483647)) (eC_ok (d := .int 16))
      have b2 := eU_ok (sem := dr1 sInt) (b1.trans (show sFdiv (.int _) (.int 16) _ = .ok (.int (((mx * 48271 + 37) % 2147483647) / 16)) _ from rfl))
      have b3 := eB_ok (sem := sMod) (b2.trans (show dr1 sInt (.int _) _ = .ok (.int (((mx * 48271 + 37) % 2147483647) / 16)) _ from rfl)) (show eVarB 1 _ _ = .ok (.int wide) _ from rfl)
      rw [thenS_ok (b3.trans (show sMod (.int _) (.int wide) (dl g n k [] ((mx * 48271 + 37) % 2147483647)) = .ok (.int (((mx * 48271 + 37) % 2147483647) / 16 % wide)) (dl g n k [] ((mx * 48271 + 37) % 2147483647)) by simp [sMod, h0]))]
    · have c1 : eSet3 sPut (eB sMod (eU (dr1 sInt) (eB sAdd (eB sMulI (eB (dr2 sIx) (eVarB 0) (eC (.int 1))) (eC (.int 48271))) (eC (.int 37)))) (eC (.int 2147483647))) (eVar 0) (eC (.int 1)) [.sh (.loc n), .sh (.int wide), .no] (dl g n k [] mx) = .ok .non (dl g n k [] ((mx * 48271 + 37) % 2147483647)) := by
        unfold eSet3
        rw [h4]
        have c2 := dl_setn (xs := []) (mx := mx) (my := (mx * 48271 + 37) % 2147483647) h
        simp [Res.bind, eVar, eC, sPut, lstAt, dl_n h, L2.ixN]
        rw [← c2]
      unfold sDo
      rw [thenS_ok c1]
    · unfold sIf
      rw [thenS_ok hf]
      rfl
  · rw [List.concat_eq_append] at *
    refine ⟨ys ++ [x / wide], mx, x % wide, ?_, by simp at hz ⊢; omega, Int.emod_nonneg _ (by omega), Int.emod_lt_of_pos _ h0⟩
    refine er (.rt (.int (x % wide)) (dl g n k (ys ++ [x / wide]) mx)) ?_
    have hp := pop_at (xs := ys) (mx := mx) (env := [.sh (.loc n), .sh (.int wide), .no]) h rfl x
    have hin : sIf (eU asB (eB (dr2 sNe) dHead (eLst eNil))) (sSeq (sSet 2 (eU sPop dHead)) (sSeq (sDo (eApp dHead (eB sFdiv (eVarB 2) (eVarB 1)))) (sRet (eB sMod (eU (dr1 sInt) (eVarB 2)) (eVarB 1))))) sNil [.sh (.loc n), .sh (.int wide), .no] (dl g n k (ys ++ [x]) mx) = .rt (.int (x % wide)) (dl g n k (ys ++ [x / wide]) mx) := by
      unfold sIf
      rw [thenS_ok hf]
      simp only [List.append_eq_nil_iff, List.cons_ne_nil, and_false, decide_false, Bool.not_false, if_true]
      have s1 : sSet 2 (eU sPop dHead) [.sh (.loc n), .sh (.int wide), .no] (dl g n k (ys ++ [x]) mx) = .nx [.sh (.loc n), .sh (.int wide), .sh (.int x)] (dl g n k ys mx) := by
        unfold sSet
        rw [thenS_ok hp]
        rfl
      rw [seq_nx s1]
      have hh := head_at (xs := ys) (mx := mx) (env := [.sh (.loc n), .sh (.int wide), .sh (.int x)]) h rfl
      have s2 : sDo (eApp dHead (eB sFdiv (eVarB 2) (eVarB 1))) [.sh (.loc n), .sh (.int wide), .sh (.int x)] (dl g n k ys mx) = .nx [.sh (.loc n), .sh (.int wide), .sh (.int x)] (dl g n k (ys ++ [x / wide]) mx) := by
        have c1 : eApp dHead (eB sFdiv (eVarB 2) (eVarB 1)) [.sh (.loc n), .sh (.int wide), .sh (.int x)] (dl g n k ys mx) = .ok .non (dl g n k (ys ++ [x / wide]) mx) := by
          unfold eApp
          rw [hh]
          have d1 : eB sFdiv (eVarB 2) (eVarB 1) [.sh (.loc n), .sh (.int wide), .sh (.int x)] (dl g n k ys mx) = .ok (.int (x / wide)) (dl g n k ys mx) := by
            simp [eB, eVarB, Res.bind, sFdiv, h0, h1]
          have d2 := dl_setk (xs := ys) (ys := ys ++ [x / wide]) (mx := mx) h
          have d3 : ys.length < big := by simp at hz; unfold big; omega
          simp only [Res.bind, lstAt, dl_k h, Option.isSome_some, if_true, d1, sApp, List.length_map, d3]
          rw [← d2]
          simp
        unfold sDo
        rw [thenS_ok c1]
      rw [seq_nx s2]
      have f1 : eB sMod (eU (dr1 sInt) (eVarB 2)) (eVarB 1) [.sh (.loc n), .sh (.int wide), .sh (.int x)] (dl g n k (ys ++ [x / wide]) mx) = .ok (.int (x % wide)) (dl g n k (ys ++ [x / wide]) mx) := by
        simp [eB, eU, eVarB, Res.bind, dr1, dr, sInt, sMod, h0]
      unfold sRet
      rw [thenS_ok f1]
    exact seq_rt hin
/-! ### mixed -/
theorem erase_perm {α : Type} : ∀ (l : List α) (i : Nat) (h : i < l.length), (l[i] :: l.eraseIdx i).Perm l
  | a :: l, 0, _ => .refl _
  | a :: l, i + 1, h => by
    have ih := erase_perm l i (by simpa using h)
    simp only [List.getElem_cons_succ, List.eraseIdx_cons_succ]
    exact (List.Perm.swap _ _ _).trans (ih.cons a)
def mixedB (fd : Fn) : Sd := sAppPop 3 2 (eCall 2 fd (eCons (eVar 0) (eCons (eU (dr1 sLen) (eVarB 2)) eNil)))
abbrev mixedT : En Bool := eU asB (eB (dr2 sNe) (eVarB 2) (eLst eNil))
def mixedQ (fd : Fn) : Sd := sSeq (sParO 2 3 (eU (dr1 sList) (eVarB 1)) (eLst eNil)) (sSeq (sWhile 70 mixedT (mixedB fd)) (sRetO 3))
def mixedF (fd : Fn) : Fn := fnOfO 4 (mixedQ fd)
theorem mixed_while (h : DealOk g n k) (sm : D) : ∀ (m : Nat) (as bs : List D) (xs : List Int) (mx : Int), as.length < m → as.length ≤ 1000 → bs.length + as.length ≤ 1000 → xs.length < 70 → ∃ cs ys my, whileL mixedT (mixedB drawF) m [.sh (.loc n), .sh sm, .ow (.lst as), .ow (.lst bs)] (dl g n k xs mx) = .nx [.sh (.loc n), .sh sm, .ow (.lst []), .ow (.lst (bs ++ cs))] (dl g n k ys my) ∧ cs.Perm as ∧ ys.length ≤ xs.length
  | 0, _, _, _, _, hm, _, _, _ => by omega
  | m + 1, as, bs, xs, mx, hm, h1, h2, h3 => by
    have ht : mixedT [.sh (.loc n), .sh sm, .ow (.lst as), .ow (.lst bs)] (dl g n k xs mx) = .ok (!decide (as = [])) (dl g n k xs mx) := by
      have e := ne_nilD as
      simp only [mixedT, eU, eB, eVarB, eLst, eNil, Res.bind, dr2, dr, sNe, List.getElem?_cons_succ, List.getElem?_cons_zero, List.length_nil, Nat.zero_le, if_true, e, asB]
    cases as with
    | nil =>
      refine ⟨[], xs, mx, ?_, .refl _, Nat.le_refl _⟩
      rw [while_no (ht.trans rfl), List.append_nil]
    | cons a as =>
      obtain ⟨ys, my, r, ed, hy, r0, r1⟩ := draw_ok (g := g) (n := n) (k := k) (xs := xs) (mx := mx) h h3 (wide := ((a :: as).length : Int)) (by simp) (by simp at h1 ⊢; omega)
      have hr : r.toNat < (a :: as).length := by omega
      have hs : seqIndex? r (a :: as).length = some r.toNat := by
        unfold seqIndex?
        have e1 : ¬ r < 0 := by omega
        simp only [e1, if_false]
        have e2 : (decide (0 ≤ r) && decide (r < ((a :: as).length : Int))) = true := by simp [r0]; simpa using r1
        rw [if_pos e2]
      have hb : mixedB drawF [.sh (.loc n), .sh sm, .ow (.lst (a :: as)), .ow (.lst bs)] (dl g n k xs mx) = .nx [.sh (.loc n), .sh sm, .ow (.lst ((a :: as).eraseIdx r.toNat)), .ow (.lst (bs ++ [(a :: as)[r.toNat]]))] (dl g n k ys my) := by
        unfold mixedB sAppPop
        rw [if_pos ⟨rfl, rfl⟩]
        have ec : eCall 2 drawF (eCons (eVar 0) (eCons (eU (dr1 sLen) (eVarB 2)) eNil)) [.sh (.loc n), .sh sm, .ow (.lst (a :: as)), .ow (.lst bs)] (dl g n k xs mx) = .ok (.int r) (dl g n k ys my) := by
          have e1 : eCons (eVar 0) (eCons (eU (dr1 sLen) (eVarB 2)) eNil) [.sh (.loc n), .sh sm, .ow (.lst (a :: as)), .ow (.lst bs)] (dl g n k xs mx) = .ok [.loc n, .int ((a :: as).length : Int)] (dl g n k xs mx) := rfl
          unfold eCall
          rw [e1]
          simp only [Res.bind, List.length_cons, List.length_nil, if_true]
          rw [show (D.int ((as.length + 1 : Nat) : Int)) = D.int (((a :: as).length : Nat) : Int) from rfl, ed]
        rw [thenS_ok ec]
        have c : bs.length < big ∧ -(2 ^ 63) ≤ r ∧ r < 2 ^ 63 := by
          refine ⟨by simp at h2; unfold big; omega, by omega, ?_⟩
          simp at h1 r1
          omega
        simp only [putAppPop, List.getElem?_cons_succ, List.getElem?_cons_zero]
        rw [if_pos c, hs]
        simp only [List.getElem?_eq_getElem hr]
        rfl
      have he := List.length_eraseIdx_of_lt hr
      obtain ⟨cs, zs, mz, ew, pw, lw⟩ := mixed_while h sm m ((a :: as).eraseIdx r.toNat) (bs ++ [(a :: as)[r.toNat]]) ys my (by rw [he]; simp at hm ⊢; omega) (by rw [he]; simp at h1 ⊢; omega) (by rw [he]; simp at h2 ⊢; omega) (by omega)
      refine ⟨(a :: as)[r.toNat] :: cs, zs, mz, ?_, ?_, by omega⟩
      · rw [while_yes (ht.trans rfl) hb, ew, List.append_assoc]
        rfl
      · exact (pw.cons _).trans (erase_perm _ _ hr)
theorem mixed_ok (h : DealOk g n k) (hl : xs.length < 70) {ds : List D} (hd : ds.length < 70) : ∃ cs ys my, mixedF drawF [.loc n, .lst ds] (dl g n k xs mx) = .ok (.lst cs) (dl g n k ys my) ∧ cs.Perm ds ∧ ys.length ≤ xs.length := by
  obtain ⟨cs, ys, my, e, p, l⟩ := mixed_while h (.lst ds) 70 ds [] xs mx hd (by omega) (by simp; omega) hl
  refine ⟨cs, ys, my, ?_, p, l⟩
  unfold mixedF fnOfO mixedQ
  simp only [List.map, List.length_cons, List.length_nil, List.cons_append, List.nil_append, List.replicate]
  rw [seq_nx (env' := [.sh (.loc n), .sh (.lst ds), .ow (.lst ds), .ow (.lst [])]) (g' := dl g n k xs mx) (show sParO 2 3 (eU (dr1 sList) (eVarB 1)) (eLst eNil) [.sh (.loc n), .sh (.lst ds), .no, .no] (dl g n k xs mx) = _ from rfl), seq_nx (show sWhile 70 mixedT (mixedB drawF) [.sh (.loc n), .sh (.lst ds), .ow (.lst ds), .ow (.lst [])] (dl g n k xs mx) = _ from e)]
  rfl
/-! ### the deal is made -/
def dealQ (c1 c2 : Int) : Sd := sSeq (sSetO 2 (eLc (eU sIter (eSl (fun d l h g => sSlL (dr g d) l h g) (eVarB 0) (oSo (eVar 1)) (oSo (eC (.int 61))))) (tgN 4) tYesF (eU (dr1 sAbs) (eU (dr1 sInt) (eVarB 4))) [4])) (sSeq (sSet 3 (eB sAdd (eC (.int c1)) (eB sMulI (eC (.int c2)) (eVarB 1))))
  (sSeq (sUn [2] (sFor (eU sIter (eVar 2)) (tgN 4) (sSet 3 (eB sMod (eU (dr1 sInt) (eB sAdd (eB sAdd (eB sMulI (eVarB 3) (eC (.int 48271))) (eB sMod (eU (dr1 sInt) (eVarB 4)) (eC (.int 2147483629)))) (eC (.int 31)))) (eC (.int 2147483647))))))
  (sUn [2] (sRet (eNew (eLst (eCons (eNew (eU sRev (eLc (eU sIter (eVar 2)) (tgN 4) (eU asB (eB sGe (eVarB 4) (eB sPow (eC (.int 10)) (eC (.int 18))))) (eVar 4) [4]))) (eCons (eVar 3) eNil))))))))
def dealF (c1 c2 : Int) : Fn := fnOf 5 (dealQ c1 c2)
theorem cut_le {α : Type} (xs : List α) (lo : Option Int) : (cutL xs lo (some 61)).length ≤ 61 := by
  unfold cutL
  have h : HT.sIx xs.length xs.length (some 61) ≤ 61 := by
    unfold HT.sIx
    simp
    omega
  rw [List.length_take]
  omega
theorem compL_abs {e0 e1 e2 e3 : Slot} : ∀ (ns : List Int) (g : Sto), compL (tgN 4) tYesF (eU (dr1 sAbs) (eU (dr1 sInt) (eVarB 4))) [e0, e1, e2, e3, .no] (ns.map .int) g = some (ns.map fun i => .int (if i < 0 then -i else i), g)
  | [], g => rfl
  | i :: ns, g => by
    have ih := compL_abs (e0 := e0) (e1 := e1) (e2 := e2) (e3 := e3) ns g
    simp only [List.map_cons, compL, tgN, List.set, tYesF]
    have ee : (eU (dr1 sAbs) (eU (dr1 sInt) (eVarB 4))) [e0, e1, e2, e3, .sh (.int i)] g = .ok (.int (if i < 0 then -i else i)) g := rfl
    rw [ee]
    simp only [ih]
theorem compL_great {e0 e1 e2 e3 : Slot} : ∀ (ns : List Int) (g : Sto), compL (tgN 4) (eU asB (eB sGe (eVarB 4) (eB sPow (eC (.int 10)) (eC (.int 18))))) (eVar 4) [e0, e1, e2, e3, .no] (ns.map .int) g = some ((ns.filter fun i => decide ((10 : Int) ^ 18 ≤ i)).map .int, g)
  | [], g => rfl
  | i :: ns, g => by
    have ih := compL_great (e0 := e0) (e1 := e1) (e2 := e2) (e3 := e3) ns g
    simp only [List.map_cons, compL, tgN, List.set]
    have ee : (eU asB (eB sGe (eVarB 4) (eB sPow (eC (.int 10)) (eC (.int 18))))) [e0, e1, e2, e3, .sh (.int i)] g = .ok (decide ((10 : Int) ^ 18 ≤ i)) g := by
      have ep : (eB sPow (eC (.int 10)) (eC (.int 18))) [e0, e1, e2, e3, .sh (.int i)] g = .ok (.int (10 ^ 18)) g := by
        rw [eB_ok (sem := sPow) (eC_ok (d := .int 10)) (eC_ok (d := .int 18))]
        simp [sPow]
      rw [eU_ok (sem := asB) ((eB_ok (sem := sGe) (show eVarB 4 [e0, e1, e2, e3, .sh (.int i)] g = .ok (.int i) g from rfl) ep).trans (show sGe (.int i) (.int (10 ^ 18)) g = .ok (.bl (decide ((10 : Int) ^ 18 ≤ i))) g from rfl))]
      rfl
    rw [ee]
    by_cases c : (10 : Int) ^ 18 ≤ i
    · simp only [c, decide_true, List.filter_cons_of_pos, List.map_cons]
      have ev : eVar 4 [e0, e1, e2, e3, .sh (.int i)] g = .ok (.int i) g := rfl
      rw [ev]
      simp only [ih]
    · simp only [c, decide_false, ih]
      rw [List.filter_cons_of_neg (by simpa using c)]
abbrev dealB : Sd := sSet 3 (eB sMod (eU (dr1 sInt) (eB sAdd (eB sAdd (eB sMulI (eVarB 3) (eC (.int 48271))) (eB sMod (eU (dr1 sInt) (eVarB 4)) (eC (.int 2147483629)))) (eC (.int 31)))) (eC (.int 2147483647)))
theorem deal_for {e0 e1 e2 : Slot} {g : Sto} : ∀ (ns : List Int) (m : Int) (e4 : Slot), ∃ m' e4', forL (tgN 4) dealB (ns.map .int) [e0, e1, e2, .sh (.int m), e4] g = .nx [e0, e1, e2, .sh (.int m'), e4'] g
  | [], m, e4 => ⟨m, e4, rfl⟩
  | i :: ns, m, e4 => by
    have hb : dealB [e0, e1, e2, .sh (.int m), .sh (.int i)] g = .nx [e0, e1, e2, .sh (.int ((m * 48271 + i % 2147483629 + 31) % 2147483647)), .sh (.int i)] g := by
      unfold dealB sSet
      have a1 : (eB sMulI (eVarB 3) (eC (.int 48271))) [e0, e1, e2, .sh (.int m), .sh (.int i)] g = .ok (.int (m * 48271)) g := by
        rw [eB_ok (sem := sMulI) (show eVarB 3 [e0, e1, e2, .sh (.int m), .sh (.int i)] g = .ok (.int m) g from rfl) (eC_ok (d := .int 48271))]
        simp [sMulI]
      have a2 : (eB sMod (eU (dr1 sInt) (eVarB 4)) (eC (.int 2147483629))) [e0, e1, e2, .sh (.int m), .sh (.int i)] g = .ok (.int (i % 2147483629)) g := rfl
      have a3 := (eB_ok (sem := sAdd) a1 a2).trans (show sAdd (.int _) (.int _) g = .ok (.int (m * 48271 + i % 2147483629)) g from rfl)
      have a4 := (eB_ok (sem := sAdd) a3 (eC_ok (d := .int 31))).trans (show sAdd (.int _) (.int _) g = .ok (.int (m * 48271 + i % 2147483629 + 31)) g from rfl)
      have a5 := (eU_ok (sem := dr1 sInt) a4).trans (show dr1 sInt (.int _) g = .ok (.int (m * 48271 + i % 2147483629 + 31)) g from rfl)
      have a6 := (eB_ok (sem := sMod) a5 (eC_ok (d := .int 2147483647))).trans (show sMod (.int _) (.int _) g = .ok (.int ((m * 48271 + i % 2147483629 + 31) % 2147483647)) g from rfl)
      rw [thenS_ok a6]
      rfl
    obtain ⟨m', e4', e⟩ := deal_for (e0 := e0) (e1 := e1) (e2 := e2) (g := g) ns ((m * 48271 + i % 2147483629 + 31) % 2147483647) (.sh (.int i))
    refine ⟨m', e4', ?_⟩
    simp only [List.map_cons, forL, tgN, List.set]
    rw [hb]
    exact e
theorem cutL_map {α β : Type} (f : α → β) (xs : List α) (lo hi : Option Int) : cutL (xs.map f) lo hi = (cutL xs lo hi).map f := by
  unfold cutL
  rw [List.length_map, List.map_take, List.map_drop]
theorem deal_ok (c1 c2 i : Int) (hc : -(2 ^ 64) < c2 ∧ c2 < 2 ^ 64) (ns : List Int) (g0 : Sto) : ∃ xs mx, dealF c1 c2 [.frz (ns.map .int), .int i] g0 = .ok (.loc (g0.length + 1)) (dl (g0 ++ [.non, .non]) (g0.length + 1) g0.length xs mx) ∧ xs.length ≤ 61 := by
  obtain ⟨ms, em⟩ : ∃ ms : List Int, ms = (cutL ns (some i) (some 61)).map fun i => if i < 0 then -i else i := ⟨_, rfl⟩
  have lm : ms.length ≤ 61 := by rw [em, List.length_map]; exact cut_le ns (some i)
  obtain ⟨m', e4', ef⟩ := deal_for (e0 := .sh (.frz (ns.map .int))) (e1 := .sh (.int i)) (e2 := .sh (.lst (ms.map .int))) (g := g0) ms (c1 + c2 * i) .no
  refine ⟨(ms.filter fun i => decide ((10 : Int) ^ 18 ≤ i)).reverse, m', ?_, ?_⟩
  · unfold dealF fnOf dealQ
    simp only [List.map, List.length_cons, List.length_nil, List.cons_append, List.nil_append, List.replicate]
    have s1 : sSetO 2 (eLc (eU sIter (eSl (fun d l h g => sSlL (dr g d) l h g) (eVarB 0) (oSo (eVar 1)) (oSo (eC (.int 61))))) (tgN 4) tYesF (eU (dr1 sAbs) (eU (dr1 sInt) (eVarB 4))) [4]) [.sh (.frz (ns.map .int)), .sh (.int i), .no, .no, .no] g0 = .nx [.sh (.frz (ns.map .int)), .sh (.int i), .ow (.lst (ms.map .int)), .no, .no] g0 := by
      have a1 : (eU sIter (eSl (fun d l h g => sSlL (dr g d) l h g) (eVarB 0) (oSo (eVar 1)) (oSo (eC (.int 61))))) [.sh (.frz (ns.map .int)), .sh (.int i), .no, .no, .no] g0 = .ok ((cutL ns (some i) (some 61)).map .int) g0 := by
        rw [← cutL_map]
        rfl
      have a2 : eLc (eU sIter (eSl (fun d l h g => sSlL (dr g d) l h g) (eVarB 0) (oSo (eVar 1)) (oSo (eC (.int 61))))) (tgN 4) tYesF (eU (dr1 sAbs) (eU (dr1 sInt) (eVarB 4))) [4] [.sh (.frz (ns.map .int)), .sh (.int i), .no, .no, .no] g0 = .ok (.lst (ms.map .int)) g0 := by
        unfold eLc
        rw [a1]
        simp only [Res.bind]
        rw [show wipeE [.sh (.frz (ns.map .int)), .sh (.int i), .no, .no, .no] [4] = [.sh (.frz (ns.map .int)), .sh (.int i), .no, .no, .no] from rfl, compL_abs]
        have e3 : (cutL ns (some i) (some 61)).map (fun i => D.int (if i < 0 then -i else i)) = ms.map .int := by rw [em, List.map_map]; rfl
        rw [e3]
        simp only [List.length_map]
        rw [if_pos (by unfold big; omega)]
      unfold sSetO
      rw [thenS_ok a2]
      rfl
    rw [seq_nx s1]
    have s2 : sSet 3 (eB sAdd (eC (.int c1)) (eB sMulI (eC (.int c2)) (eVarB 1))) [.sh (.frz (ns.map .int)), .sh (.int i), .ow (.lst (ms.map .int)), .no, .no] g0 = .nx [.sh (.frz (ns.map .int)), .sh (.int i), .ow (.lst (ms.map .int)), .sh (.int (c1 + c2 * i)), .no] g0 := by
      have a1 : (eB sMulI (eC (.int c2)) (eVarB 1)) [.sh (.frz (ns.map .int)), .sh (.int i), .ow (.lst (ms.map .int)), .no, .no] g0 = .ok (.int (c2 * i)) g0 := by
        rw [eB_ok (sem := sMulI) (eC_ok (d := .int c2)) (show eVarB 1 [.sh (.frz (ns.map .int)), .sh (.int i), .ow (.lst (ms.map .int)), .no, .no] g0 = .ok (.int i) g0 from rfl)]
        simp only [sMulI]
        rw [if_pos (.inl hc)]
      have a2 := (eB_ok (sem := sAdd) (eC_ok (d := .int c1)) a1).trans (show sAdd (.int c1) (.int (c2 * i)) g0 = .ok (.int (c1 + c2 * i)) g0 from rfl)
      unfold sSet
      rw [thenS_ok a2]
      rfl
    rw [seq_nx s2]
    have s3 : sUn [2] (sFor (eU sIter (eVar 2)) (tgN 4) dealB) [.sh (.frz (ns.map .int)), .sh (.int i), .ow (.lst (ms.map .int)), .sh (.int (c1 + c2 * i)), .no] g0 = .nx [.sh (.frz (ns.map .int)), .sh (.int i), .sh (.lst (ms.map .int)), .sh (.int m'), e4'] g0 := by
      unfold sUn
      rw [show unown [2] [.sh (.frz (ns.map .int)), .sh (.int i), .ow (.lst (ms.map .int)), .sh (.int (c1 + c2 * i)), .no] = [.sh (.frz (ns.map .int)), .sh (.int i), .sh (.lst (ms.map .int)), .sh (.int (c1 + c2 * i)), .no] from rfl]
      unfold sFor
      rw [thenS_ok (show (eU sIter (eVar 2)) [.sh (.frz (ns.map .int)), .sh (.int i), .sh (.lst (ms.map .int)), .sh (.int (c1 + c2 * i)), .no] g0 = .ok (ms.map .int) g0 from rfl)]
      exact ef
    rw [seq_nx s3]
    unfold sUn
    rw [show unown [2] [.sh (.frz (ns.map .int)), .sh (.int i), .sh (.lst (ms.map .int)), .sh (.int m'), e4'] = [.sh (.frz (ns.map .int)), .sh (.int i), .sh (.lst (ms.map .int)), .sh (.int m'), e4'] from rfl]
    have b1 : eLc (eU sIter (eVar 2)) (tgN 4) (eU asB (eB sGe (eVarB 4) (eB sPow (eC (.int 10)) (eC (.int 18))))) (eVar 4) [4] [.sh (.frz (ns.map .int)), .sh (.int i), .sh (.lst (ms.map .int)), .sh (.int m'), e4'] g0 = .ok (.lst ((ms.filter fun i => decide ((10 : Int) ^ 18 ≤ i)).map .int)) g0 := by
      unfold eLc
      rw [show (eU sIter (eVar 2)) [.sh (.frz (ns.map .int)), .sh (.int i), .sh (.lst (ms.map .int)), .sh (.int m'), e4'] g0 = .ok (ms.map .int) g0 from rfl]
      simp only [Res.bind]
      rw [show wipeE [.sh (.frz (ns.map .int)), .sh (.int i), .sh (.lst (ms.map .int)), .sh (.int m'), e4'] [4] = [.sh (.frz (ns.map .int)), .sh (.int i), .sh (.lst (ms.map .int)), .sh (.int m'), .no] from rfl, compL_great]
      simp only [List.length_map]
      rw [if_pos (by have := List.length_filter_le (fun i => decide ((10 : Int) ^ 18 ≤ i)) ms; unfold big; omega)]
    have b2 := (eU_ok (sem := sRev) b1).trans (show sRev (.lst _) g0 = .ok (.lst (((ms.filter fun i => decide ((10 : Int) ^ 18 ≤ i)).map .int).reverse)) g0 from rfl)
    have b3 : eNew (eU sRev (eLc (eU sIter (eVar 2)) (tgN 4) (eU asB (eB sGe (eVarB 4) (eB sPow (eC (.int 10)) (eC (.int 18))))) (eVar 4) [4])) [.sh (.frz (ns.map .int)), .sh (.int i), .sh (.lst (ms.map .int)), .sh (.int m'), e4'] g0 = .ok (.loc g0.length) (g0 ++ [.lst (((ms.filter fun i => decide ((10 : Int) ^ 18 ≤ i)).map .int).reverse)]) := eU_ok b2
    have b4 := eCons_ok b3 (eCons_ok (show eVar 3 [.sh (.frz (ns.map .int)), .sh (.int i), .sh (.lst (ms.map .int)), .sh (.int m'), e4'] (g0 ++ [.lst (((ms.filter fun i => decide ((10 : Int) ^ 18 ≤ i)).map .int).reverse)]) = .ok (.int m') _ from rfl) (show eNil _ _ = .ok [] _ from rfl))
    have b5 := eU_ok (sem := fun ds g => if ds.length ≤ big then Res.ok (D.lst ds) g else .stuck) b4
    have b6 : eNew (eLst (eCons (eNew (eU sRev (eLc (eU sIter (eVar 2)) (tgN 4) (eU asB (eB sGe (eVarB 4) (eB sPow (eC (.int 10)) (eC (.int 18))))) (eVar 4) [4]))) (eCons (eVar 3) eNil))) [.sh (.frz (ns.map .int)), .sh (.int i), .sh (.lst (ms.map .int)), .sh (.int m'), e4'] g0 = .ok (.loc (g0.length + 1)) (g0 ++ [.lst (((ms.filter fun i => decide ((10 : Int) ^ 18 ≤ i)).map .int).reverse)] ++ [.lst [.loc g0.length, .int m']]) := by
      unfold eNew
      refine (eU_ok (sem := fun d g => Res.ok (D.loc g.length) (g ++ [d])) (show eLst _ _ _ = _ from b5.trans (if_pos (show 2 ≤ big by unfold big; omega)))).trans ?_
      simp
    unfold sRet
    rw [thenS_ok b6]
    have e7 : dl (g0 ++ [.non, .non]) (g0.length + 1) g0.length (ms.filter fun i => decide ((10 : Int) ^ 18 ≤ i)).reverse m' = g0 ++ [.lst (((ms.filter fun i => decide ((10 : Int) ^ 18 ≤ i)).map .int).reverse)] ++ [.lst [.loc g0.length, .int m']] := by
      unfold dl
      rw [List.set_append_right _ _ (Nat.le_refl _), List.set_append_right _ _ (Nat.le_succ _)]
      simp
    rw [e7]
  · rw [List.length_reverse]
    exact Nat.le_trans (List.length_filter_le _ _) lm
end
/-! ### the law's own call -/
theorem rl_ints {S : Stat} {m : Mv} {H : Hp} : ∀ ns : List Int, Rl S m H (ns.map .int) (ns.map V.int)
  | [] => .nil
  | x :: r => .cons (.int x) (rl_ints r)
theorem law_start {S : Stat} {H : Hp} {a : Addr} {ns : List Int} {F : Fn} {E : XK} (h : SqL S.K H a (ns.map V.int)) (hF : ∃ g', F [.frz (ns.map .int)] [] = .ok (.bl true) g') : Spec S 1 F [.ref a] H (fun v _ => v = .bl true) E := by
  obtain ⟨g', e⟩ := hF
  have fr : (⟨[], [], []⟩ : Mv).fr a := ⟨fun z => by simp at z, fun z => by simp at z⟩
  refine ⟨[.frz (ns.map .int)], [], ⟨[], [], []⟩, ⟨rfl, fun n d a e1 _ => by simp at e1, by simp, fun a z => by simp at z, fun a z => by simp at z, fun a z => by simp at z⟩, fun a z => by simp at z, .cons (.frz ?_ (rl_ints ns)) .nil, rfl, ?_⟩
  · rcases h with h | h
    · exact .inl ⟨h, fr⟩
    · exact .inr h
  · rw [e]
    exact fun v H' m' _ _ _ r => r.bl_inv
end Ev
/-! A reading that treats texts as names alone gives alike results for alike names. -/
namespace Ev
open PySem PySem.Spec PyProof.Rows L2
/-! ### guarded readings: no text is taken apart -/
def isStr : D → Bool
  | .str _ => true
  | _ => false
def nsA {γ : Type} (sem : D → D → Sto → Res γ) : D → D → Sto → Res γ := fun a b g => if isStr a = true then .stuck else sem a b g
def nsB {γ : Type} (sem : D → D → Sto → Res γ) : D → D → Sto → Res γ := fun a b g => if isStr b = true then .stuck else sem a b g
def ns1 {γ : Type} (sem : D → Sto → Res γ) : D → Sto → Res γ := fun a g => if isStr a = true then .stuck else sem a g
section
variable {X : Cx} {S : Stat} {W : WX}
/-- f tells no more than f' -/
def Le {α : Type} (f f' : En α) : Prop := ∀ env g, f env g = .stuck ∨ f env g = f' env g
theorem Tv.le {α β : Type} {R : Hp → Mv → Hp → α → β → Prop} {f f' : En α} (h : Le f f') {σ : St} {H : Hp} {Q : β → Hp → Prop} (q : Tv S R W f σ H Q) : Tv S R W f' σ H Q := by
  obtain ⟨env, g, m, r, p⟩ := q
  refine ⟨env, g, m, r, ?_⟩
  rcases h env g with e | e
  · rw [e] at p; exact p.elim
  · rw [← e]; exact p
theorem PE.le {e : Expr} {α : Type} {R : Hp → Mv → Hp → D → V → Prop} {f f' : E1} (h : PE X e (Tv S R W f')) (l : Le f f') : PE X e (Tv S R W f) := PE.to h fun _ _ _ q => q.le l
theorem le_eB {γ : Type} {sem sem' : D → D → Sto → Res γ} {fa fb : E1} (h : ∀ a b g, sem a b g = .stuck ∨ sem a b g = sem' a b g) : Le (eB sem fa fb) (eB sem' fa fb) := fun env g => by
  unfold eB
  cases fa env g with
  | stuck => exact .inl rfl
  | exc x g' => exact .inr rfl
  | ok a g1 =>
    simp only [Res.bind]
    cases fb env g1 with
    | stuck => exact .inl rfl
    | exc x g' => exact .inr rfl
    | ok b g2 => exact h a b g2
theorem le_eU {α γ : Type} {sem sem' : α → Sto → Res γ} {fa : En α} (h : ∀ a g, sem a g = .stuck ∨ sem a g = sem' a g) : Le (eU sem fa) (eU sem' fa) := fun env g => by
  unfold eU
  cases fa env g with
  | stuck => exact .inl rfl
  | exc x g' => exact .inr rfl
  | ok a g1 => exact h a g1
theorem nsA_le {γ : Type} (sem : D → D → Sto → Res γ) (a b : D) (g : Sto) : nsA sem a b g = .stuck ∨ nsA sem a b g = sem a b g := by
  unfold nsA; split
  · exact .inl rfl
  · exact .inr rfl
theorem nsB_le {γ : Type} (sem : D → D → Sto → Res γ) (a b : D) (g : Sto) : nsB sem a b g = .stuck ∨ nsB sem a b g = sem a b g := by
  unfold nsB; split
  · exact .inl rfl
  · exact .inr rfl
theorem ns1_le {γ : Type} (sem : D → Sto → Res γ) (a : D) (g : Sto) : ns1 sem a g = .stuck ∨ ns1 sem a g = sem a g := by
  unfold ns1; split
  · exact .inl rfl
  · exact .inr rfl
theorem Sem2.nsB {γ δ : Type} {Rc : Hp → Mv → Hp → γ → δ → Prop} {r : V → V → Hp → (δ → Hp → Prop) → Prop} {sem : D → D → Sto → Res γ} (h : Sem2 S W Rc r sem) : Sem2 S W Rc r (nsB sem) := fun σ H0 m g H a b x y Q ok fz ra rb p => by
  rcases nsB_le sem a b g with e | e
  · rw [e] at p; exact p.elim
  · rw [e] at p; exact h σ H0 m g H a b x y Q ok fz ra rb p
theorem q_ix {a b : Expr} {fa fb : E1} {pos : Pos} (hK : S.K = X.K) (ha : Pb X S W a fa) (hb : Pb X S W b fb) (hs : PlainIx b) : Pe X S W (.Subscript a b pos) (eB (nsA (dr2 sIx)) fa fb) :=
  PE.le (α := D) (e_ix hK ha hb hs) (le_eB fun a b g => nsA_le _ a b g)
theorem q_len {e : Expr} {f : E1} {p pos : Pos} (hK : S.K = X.K) (hg : Gl X "len") (hm : X.mg "len" = none) (he : Pb X S W e f) (hst : starEach [e] X.env = (false, eval e X.env) :: starEach [] X.env := by rfl) : Pe X S W (.Call (.Name "len" p) [e] [] pos) (eU (ns1 (dr1 sLen)) f) :=
  PE.le (α := D) (e_len hK hg hm he hst) (le_eU fun a g => ns1_le _ a g)
theorem q_seq {tg e : Expr} {f : E1} (hK : S.K = X.K) (he : Pe X S W e f) : Pi X S W tg e (eU (ns1 sIter) f) :=
  PI.to (i_seq hK he) fun σ H R ⟨env, g, m, r, p⟩ => by
    refine ⟨env, g, m, r, ?_⟩
    rcases le_eU (fa := f) (sem := ns1 sIter) (sem' := sIter) (fun a g => ns1_le _ a g) env g with e | e
    · rw [e] at p; exact p.elim
    · rw [← e]; exact p
theorem q_sl {e : Expr} {f : E1} {lo hi : Option Expr} {fl fh : En (Option Int)} {p2 pos : Pos} (hK : S.K = X.K) (he : Pb X S W e f) (hl : Po X S W lo fl) (hh : Po X S W hi fh) : Pe X S W (.Subscript e (.Slice lo hi none p2) pos) (eSl (fun d l h g => if isStr d = true then .stuck else sSlT (dr g d) l h g) f fl fh) :=
  PE.le (α := D) (e_sl hK he hl hh) fun env g => by
    unfold eSl
    cases f env g with
    | stuck => exact .inl rfl
    | exc x g' => exact .inr rfl
    | ok a g1 =>
      simp only [Res.bind]
      cases fl env g1 with
      | stuck => exact .inl rfl
      | exc x g' => exact .inr rfl
      | ok b g2 =>
        simp only
        cases fh env g2 with
        | stuck => exact .inl rfl
        | exc x g' => exact .inr rfl
        | ok c g3 =>
          simp only
          split
          · exact .inl rfl
          · exact .inr rfl
end
/-! ### alike trees -/
section
variable (ρ : Str → Str → Prop)
mutual
inductive Sm : D → D → Prop where
  | non : Sm .non .non
  | bl (b : Bool) : Sm (.bl b) (.bl b)
  | int (i : Int) : Sm (.int i) (.int i)
  | str {x y : Str} : ρ x y → Sm (.str x) (.str y)
  | lst {xs ys : List D} : Sml xs ys → Sm (.lst xs) (.lst ys)
  | tup {xs ys : List D} : Sml xs ys → Sm (.tup xs) (.tup ys)
inductive Sml : List D → List D → Prop where
  | nil : Sml [] []
  | cons {x y : D} {xs ys : List D} : Sm x y → Sml xs ys → Sml (x :: xs) (y :: ys)
end
inductive Sms : Slot → Slot → Prop where
  | no : Sms .no .no
  | sh {x y : D} : Sm ρ x y → Sms (.sh x) (.sh y)
  | ow {x y : D} : Sm ρ x y → Sms (.ow x) (.ow y)
inductive Sme : Env → Env → Prop where
  | nil : Sme [] []
  | cons {x y : Slot} {xs ys : Env} : Sms ρ x y → Sme xs ys → Sme (x :: xs) (y :: ys)
/-- what the second tells the first tells, too; the store stays empty -/
inductive RR {α β : Type} (R : α → β → Prop) : Res α → Res β → Prop where
  | ok {a : α} {b : β} : R a b → RR R (.ok a []) (.ok b [])
  | no {r : Res α} : RR R r .stuck
  | ex {r : Res α} {x : Xc} {g : Sto} : RR R r (.exc x g)
inductive SR : SRes → SRes → Prop where
  | nx {e e' : Env} : Sme ρ e e' → SR (.nx e []) (.nx e' [])
  | rt {d d' : D} : Sm ρ d d' → SR (.rt d []) (.rt d' [])
  | rtO {d d' : D} : Sm ρ d d' → SR (.rtO d []) (.rtO d' [])
  | bk {e e' : Env} : Sme ρ e e' → SR (.bk e []) (.bk e' [])
  | ct {e e' : Env} : Sme ρ e e' → SR (.ct e []) (.ct e' [])
  | no {r : SRes} : SR r .stuck
  | ex {r : SRes} {x : Xc} {e : Env} {g : Sto} : SR r (.exc x e g)
def BU : Prop := ∀ a b c d, ρ a b → ρ c d → (a = c ↔ b = d)
end
section
variable {ρ : Str → Str → Prop}
def ME {α : Type} (ρ : Str → Str → Prop) (R : α → α → Prop) (f : En α) : Prop := ∀ env env', Sme ρ env env' → RR R (f env []) (f env' [])
def MS (ρ : Str → Str → Prop) (f : Sd) : Prop := ∀ env env', Sme ρ env env' → SR ρ (f env []) (f env' [])
def MF (ρ : Str → Str → Prop) (F : Fn) : Prop := ∀ ds ds', Sml ρ ds ds' → RR (Sm ρ) (F ds []) (F ds' [])
abbrev M (ρ : Str → Str → Prop) (f : E1) : Prop := ME ρ (Sm ρ) f
abbrev Ml (ρ : Str → Str → Prop) (f : En (List D)) : Prop := ME ρ (Sml ρ) f
abbrev Mb (ρ : Str → Str → Prop) (f : En Bool) : Prop := ME ρ Eq f
theorem RR.bind {α β γ δ : Type} {R : α → β → Prop} {R2 : γ → δ → Prop} {r : Res α} {r' : Res β} {k : α → Sto → Res γ} {k' : β → Sto → Res δ} (h : RR R r r') (hk : ∀ a b, R a b → RR R2 (k a []) (k' b [])) : RR R2 (r.bind k) (r'.bind k') := by
  cases h with
  | ok h => exact hk _ _ h
  | no => exact .no
  | ex => exact .ex
theorem Sml.length : ∀ {xs ys : List D}, Sml ρ xs ys → xs.length = ys.length
  | _, _, .nil => rfl
  | _, _, .cons _ t => by simp [Sml.length t]
theorem Sml.append : ∀ {xs ys xs' ys' : List D}, Sml ρ xs ys → Sml ρ xs' ys' → Sml ρ (xs ++ xs') (ys ++ ys')
  | _, _, _, _, .nil, h => h
  | _, _, _, _, .cons r t, h => .cons r (Sml.append t h)
theorem Sml.take : ∀ {xs ys : List D} (n : Nat), Sml ρ xs ys → Sml ρ (xs.take n) (ys.take n)
  | _, _, 0, _ => .nil
  | _, _, _ + 1, .nil => .nil
  | _, _, n + 1, .cons r t => .cons r (Sml.take n t)
theorem Sml.drop : ∀ {xs ys : List D} (n : Nat), Sml ρ xs ys → Sml ρ (xs.drop n) (ys.drop n)
  | _, _, 0, r => r
  | _, _, _ + 1, .nil => .nil
  | _, _, n + 1, .cons _ t => Sml.drop n t
theorem Sml.get : ∀ {xs ys : List D} (i : Nat), Sml ρ xs ys → (xs[i]? = none ∧ ys[i]? = none) ∨ ∃ x y, xs[i]? = some x ∧ ys[i]? = some y ∧ Sm ρ x y
  | _, _, _, .nil => .inl ⟨by simp, by simp⟩
  | _, _, 0, .cons r _ => .inr ⟨_, _, rfl, rfl, r⟩
  | _, _, i + 1, .cons _ t => by simpa using Sml.get i t
theorem Sme.get : ∀ {xs ys : Env} (i : Nat), Sme ρ xs ys → (xs[i]? = none ∧ ys[i]? = none) ∨ ∃ x y, xs[i]? = some x ∧ ys[i]? = some y ∧ Sms ρ x y
  | _, _, _, .nil => .inl ⟨by simp, by simp⟩
  | _, _, 0, .cons r _ => .inr ⟨_, _, rfl, rfl, r⟩
  | _, _, i + 1, .cons _ t => by simpa using Sme.get i t
theorem Sme.set {s s' : Slot} (h : Sms ρ s s') : ∀ {xs ys : Env} (i : Nat), Sme ρ xs ys → Sme ρ (xs.set i s) (ys.set i s')
  | _, _, _, .nil => .nil
  | _, _, 0, .cons _ t => .cons h t
  | _, _, i + 1, .cons r t => .cons r (Sme.set h i t)
theorem Sme.wipe {xs ys : Env} (h : Sme ρ xs ys) : ∀ vs : List Nat, Sme ρ (wipeE xs vs) (wipeE ys vs)
  | [] => h
  | v :: vs => (Sme.wipe h vs).set .no v
theorem beq_alike {a b c d : Str} (e : a = b ↔ c = d) : (a == b) = (c == d) := Bool.eq_iff_iff.mpr (by rw [beq_iff_eq, beq_iff_eq]; exact e)
mutual
theorem deq_alike (bu : BU ρ) : ∀ (n : Nat) {a a' b b' : D}, Sm ρ a a' → Sm ρ b b' → deq n a b = deq n a' b'
  | n, _, _, _, _, .non, h => by cases h <;> cases n <;> simp [deq]
  | n, _, _, _, _, .bl x, h => by cases h <;> cases n <;> simp [deq]
  | n, _, _, _, _, .int x, h => by cases h <;> cases n <;> simp [deq]
  | n, _, _, _, _, .str r, h => by
    cases h with
    | @str x2 y2 r2 =>
      have e := bu _ _ _ _ r r2
      have e2 := beq_alike e
      cases n <;> simp only [deq, e2]
    | _ => cases n <;> simp [deq]
  | 0, _, _, _, _, .lst r, h => by cases h <;> simp [deq]
  | n + 1, _, _, _, _, .lst r, h => by
    cases h with
    | lst r2 => simp only [deq]; rw [r.length, r2.length, deqL_alike bu n r r2]
    | _ => simp [deq]
  | 0, _, _, _, _, .tup r, h => by cases h <;> simp [deq]
  | n + 1, _, _, _, _, .tup r, h => by
    cases h with
    | tup r2 => simp only [deq]; rw [r.length, r2.length, deqL_alike bu n r r2]
    | _ => simp [deq]
theorem deqL_alike (bu : BU ρ) : ∀ (n : Nat) {xs xs' ys ys' : List D}, Sml ρ xs xs' → Sml ρ ys ys' → deqL n xs ys = deqL n xs' ys'
  | n, _, _, _, _, .nil, _ => by simp [deqL]
  | n, _, _, _, _, .cons _ _, .nil => by simp [deqL]
  | n, _, _, _, _, .cons r t, .cons r2 t2 => by
    simp only [deqL]
    rw [deq_alike bu n r r2, deqL_alike bu n t t2]
end
/-! ### expressions -/
theorem m_var (i : Nat) : M ρ (eVar i) := fun env env' h => by
  unfold eVar
  rcases h.get i with ⟨e1, e2⟩ | ⟨x, y, e1, e2, r⟩
  · rw [e2]; exact .no
  · rw [e1, e2]
    cases r with
    | no => exact .no
    | sh r => exact .ok r
    | ow r => exact .no
theorem m_varB (i : Nat) : M ρ (eVarB i) := fun env env' h => by
  unfold eVarB
  rcases h.get i with ⟨e1, e2⟩ | ⟨x, y, e1, e2, r⟩
  · rw [e2]; exact .no
  · rw [e1, e2]
    cases r with
    | no => exact .no
    | sh r => exact .ok r
    | ow r => exact .ok r
theorem m_c {d : D} (h : Sm ρ d d) : M ρ (eC d) := fun _ _ _ => .ok h
theorem m_int (i : Int) : M ρ (eC (.int i)) := m_c (.int i)
theorem m_bl (b : Bool) : M ρ (eC (.bl b)) := m_c (.bl b)
theorem m_non : M ρ (eC .non) := m_c .non
def M2 {γ : Type} (ρ : Str → Str → Prop) (R : γ → γ → Prop) (sem : D → D → Sto → Res γ) : Prop := ∀ a a' b b', Sm ρ a a' → Sm ρ b b' → RR R (sem a b []) (sem a' b' [])
def M1 {γ : Type} (ρ : Str → Str → Prop) (R : γ → γ → Prop) (sem : D → Sto → Res γ) : Prop := ∀ a a', Sm ρ a a' → RR R (sem a []) (sem a' [])
theorem m_eB {γ : Type} {R : γ → γ → Prop} {sem : D → D → Sto → Res γ} {f h : E1} (hs : M2 ρ R sem) (hf : M ρ f) (hh : M ρ h) : ME ρ R (eB sem f h) := fun env env' r => (hf env env' r).bind fun a b ab => (hh env env' r).bind fun c d cd => hs a b c d ab cd
theorem m_eU {γ : Type} {R : γ → γ → Prop} {sem : D → Sto → Res γ} {f : E1} (hs : M1 ρ R sem) (hf : M ρ f) : ME ρ R (eU sem f) := fun env env' r => (hf env env' r).bind fun a b ab => hs a b ab
theorem m_asB : M1 ρ Eq asB := fun a a' h => by
  cases h with
  | bl b => exact .ok rfl
  | _ => exact .no
theorem dr_alike {a a' : D} (h : Sm ρ a a') : dr [] a = a ∧ dr [] a' = a' := by cases h <;> exact ⟨rfl, rfl⟩
theorem m2_dr {γ : Type} {R : γ → γ → Prop} {sem : D → D → Sto → Res γ} (h : M2 ρ R sem) : M2 ρ R (dr2 sem) := fun a a' b b' r1 r2 => by
  unfold dr2
  rw [(dr_alike r1).1, (dr_alike r1).2, (dr_alike r2).1, (dr_alike r2).2]
  exact h a a' b b' r1 r2
theorem m1_dr {γ : Type} {R : γ → γ → Prop} {sem : D → Sto → Res γ} (h : M1 ρ R sem) : M1 ρ R (dr1 sem) := fun a a' r1 => by
  unfold dr1
  rw [(dr_alike r1).1, (dr_alike r1).2]
  exact h a a' r1
theorem m2_eq (bu : BU ρ) : M2 ρ (Sm ρ) (dr2 sEq) := m2_dr fun a a' b b' r1 r2 => by
  unfold sEq
  rw [deq_alike bu 40 r1 r2]
  split
  · exact .ok (.bl _)
  · exact .no
theorem m2_ne (bu : BU ρ) : M2 ρ (Sm ρ) (dr2 sNe) := m2_dr fun a a' b b' r1 r2 => by
  unfold sNe
  rw [deq_alike bu 40 r1 r2]
  split
  · exact .ok (.bl _)
  · exact .no
theorem inL_alike (bu : BU ρ) {a a' : D} (r1 : Sm ρ a a') : ∀ {xs ys : List D}, Sml ρ xs ys → inL a xs = inL a' ys
  | _, _, .nil => rfl
  | _, _, .cons r t => by
    simp only [inL]
    rw [deq_alike bu 38 r r1, inL_alike bu r1 t]
theorem m2_in (bu : BU ρ) : M2 ρ (Sm ρ) (nsB (dr2 sIn)) := fun a a' b b' r1 r2 => by
  unfold nsB dr2 sIn
  rw [(dr_alike r1).1, (dr_alike r1).2, (dr_alike r2).1, (dr_alike r2).2]
  cases r2 with
  | lst r =>
    have e := inL_alike bu r1 r
    cases r1 <;> simp only [isStr, isIn, Bool.false_eq_true, if_false] <;> rw [e] <;> split <;> first | exact .ok (.bl _) | exact .no
  | tup r =>
    have e := inL_alike bu r1 r
    cases r1 <;> simp only [isStr, isIn, Bool.false_eq_true, if_false] <;> rw [e] <;> split <;> first | exact .ok (.bl _) | exact .no
  | str r => exact .no
  | _ => cases r1 <;> exact .no
theorem m2_notIn (bu : BU ρ) : M2 ρ (Sm ρ) (nsB (dr2 sNotIn)) := fun a a' b b' r1 r2 => by
  unfold nsB dr2 sNotIn
  rw [(dr_alike r1).1, (dr_alike r1).2, (dr_alike r2).1, (dr_alike r2).2]
  cases r2 with
  | lst r =>
    have e := inL_alike bu r1 r
    cases r1 <;> simp only [isStr, isIn, Bool.false_eq_true, if_false] <;> rw [e] <;> split <;> first | exact .ok (.bl _) | exact .no
  | tup r =>
    have e := inL_alike bu r1 r
    cases r1 <;> simp only [isStr, isIn, Bool.false_eq_true, if_false] <;> rw [e] <;> split <;> first | exact .ok (.bl _) | exact .no
  | str r => exact .no
  | _ => cases r1 <;> exact .no
theorem atI_alike {xs ys : List D} (r : Sml ρ xs ys) (i : Int) : (atI xs i = none ∧ atI ys i = none) ∨ ∃ x y, atI xs i = some x ∧ atI ys i = some y ∧ Sm ρ x y := by
  unfold L2.atI
  rw [r.length]
  cases L2.ixN ys.length i with
  | none => exact .inl ⟨rfl, rfl⟩
  | some j => exact r.get j
theorem m2_ix : M2 ρ (Sm ρ) (nsA (dr2 sIx)) := fun a a' b b' r1 r2 => by
  unfold nsA dr2
  rw [(dr_alike r1).1, (dr_alike r1).2, (dr_alike r2).1, (dr_alike r2).2]
  cases r1 with
  | lst r =>
    cases r2 with
    | int i =>
      simp only [isStr, Bool.false_eq_true, if_false, sIx]
      rcases atI_alike r i with ⟨e1, e2⟩ | ⟨x, y, e1, e2, q⟩
      · rw [e2]; exact .no
      · rw [e1, e2]; exact .ok q
    | _ => exact .no
  | tup r =>
    cases r2 with
    | int i =>
      simp only [isStr, Bool.false_eq_true, if_false, sIx]
      rcases atI_alike r i with ⟨e1, e2⟩ | ⟨x, y, e1, e2, q⟩
      · rw [e2]; exact .no
      · rw [e1, e2]; exact .ok q
    | _ => exact .no
  | str r => exact .no
  | _ => cases r2 <;> exact .no
theorem m1_len : M1 ρ (Sm ρ) (ns1 (dr1 sLen)) := fun a a' r1 => by
  unfold ns1 dr1
  rw [(dr_alike r1).1, (dr_alike r1).2]
  cases r1 with
  | lst r => simp only [isStr, Bool.false_eq_true, if_false, sLen]; rw [r.length]; exact .ok (.int _)
  | tup r => simp only [isStr, Bool.false_eq_true, if_false, sLen]; rw [r.length]; exact .ok (.int _)
  | str r => exact .no
  | _ => exact .no
theorem m1_iter : M1 ρ (Sml ρ) (ns1 sIter) := fun a a' r1 => by
  unfold ns1 sIter
  cases r1 with
  | lst r => simp only [isStr, Bool.false_eq_true, if_false, itemsOf]; exact .ok r
  | tup r => simp only [isStr, Bool.false_eq_true, if_false, itemsOf]; exact .ok r
  | str r => exact .no
  | _ => exact .no
/-- ints alone -/
theorem m2_int {sem : D → D → Sto → Res D} (h : ∀ a b, (∀ i j, ¬ (a = .int i ∧ b = .int j)) → sem a b [] = .stuck) (h2 : ∀ i j, RR (Sm ρ) (sem (.int i) (.int j) []) (sem (.int i) (.int j) [])) : M2 ρ (Sm ρ) sem := fun a a' b b' r1 r2 => by
  by_cases c : ∃ i j, a' = .int i ∧ b' = .int j
  · obtain ⟨i, j, rfl, rfl⟩ := c
    cases r1; cases r2
    exact h2 i j
  · rw [h a' b' fun i j z => c ⟨i, j, z⟩]; exact .no
theorem rr_self {r : Res D} (h : ∀ d g, r = .ok d g → g = [] ∧ Sm ρ d d) : RR (Sm ρ) r r := by
  cases r with
  | ok d g => obtain ⟨rfl, q⟩ := h d g rfl; exact .ok q
  | exc x g => exact .ex
  | stuck => exact .no
theorem m2_sub : M2 ρ (Sm ρ) sSub := m2_int (fun a b n => by cases a <;> cases b <;> first | rfl | exact absurd ⟨rfl, rfl⟩ (n _ _)) fun i j => .ok (.int _)
theorem m2_mul : M2 ρ (Sm ρ) sMulI := m2_int (fun a b n => by cases a <;> cases b <;> first | rfl | exact absurd ⟨rfl, rfl⟩ (n _ _)) fun i j => by
  simp only [sMulI]; split
  · exact .ok (.int _)
  · exact .no
theorem m2_cmp (p : Int → Int → Bool) : M2 ρ (Sm ρ) (sCmp p) := m2_int (fun a b n => by cases a <;> cases b <;> first | rfl | exact absurd ⟨rfl, rfl⟩ (n _ _)) fun i j => .ok (.bl _)
theorem m2_isN : M2 ρ (Sm ρ) sIsN := fun a a' b b' r1 r2 => by
  cases r2 with
  | non => cases r1 <;> exact .ok (.bl _)
  | _ => cases r1 <;> exact .no
theorem m2_notN : M2 ρ (Sm ρ) sNotN := fun a a' b b' r1 r2 => by
  cases r2 with
  | non => cases r1 <;> exact .ok (.bl _)
  | _ => cases r1 <;> exact .no
theorem m1_isi (T : String) : M1 ρ (Sm ρ) (dr1 (sIsi T)) := m1_dr fun a a' r => by
  cases r <;> exact .ok (.bl _)
theorem m1_rng : M1 ρ (Sml ρ) (fun d g => sRng (.int 0) d g) := fun a a' r => by
  cases r with
  | int i =>
    simp only [sRng]
    split
    · refine .ok ?_
      generalize List.range (i - 0).toNat = l
      induction l with
      | nil => exact .nil
      | cons x t ih => exact .cons (.int _) ih
    · exact .no
  | _ => exact .no
theorem m1_tuple : M1 ρ (Sm ρ) (dr1 sTuple) := m1_dr fun a a' r => by
  cases r with
  | lst q => exact .ok (.tup q)
  | tup q => exact .ok (.tup q)
  | _ => exact .no
theorem m_nil : Ml ρ eNil := fun _ _ _ => .ok .nil
theorem m_cons {f : E1} {fs : En (List D)} (hf : M ρ f) (hs : Ml ρ fs) : Ml ρ (eCons f fs) := fun env env' r => (hf env env' r).bind fun a b ab => (hs env env' r).bind fun c d cd => .ok (.cons ab cd)
theorem m_star {f : E1} {fs : En (List D)} (hf : M ρ f) (hs : Ml ρ fs) : Ml ρ (eStar f fs) := fun env env' r => (hf env env' r).bind fun a b ab => by
  cases ab with
  | lst q => exact (hs env env' r).bind fun c d cd => .ok (q.append cd)
  | tup q => exact (hs env env' r).bind fun c d cd => .ok (q.append cd)
  | _ => exact .no
theorem m_lst {fs : En (List D)} (hs : Ml ρ fs) : M ρ (eLst fs) := fun env env' r => (hs env env' r).bind fun a b ab => by
  dsimp only
  rw [ab.length]; split
  · exact .ok (.lst ab)
  · exact .no
theorem m_tup {fs : En (List D)} (hs : Ml ρ fs) : M ρ (eTup fs) := fun env env' r => (hs env env' r).bind fun a b ab => by
  dsimp only
  rw [ab.length]; split
  · exact .ok (.tup ab)
  · exact .no
theorem m_oNo : ME ρ Eq oNo := fun _ _ _ => .ok rfl
theorem m_oSo {f : E1} (h : M ρ f) : ME ρ Eq (oSo f) := fun env env' r => (h env env' r).bind fun a b ab => by
  cases ab with
  | int i => exact .ok rfl
  | _ => exact .no
theorem Sml.cut {xs ys : List D} (r : Sml ρ xs ys) (lo hi : Option Int) : Sml ρ (cutL xs lo hi) (cutL ys lo hi) := by
  unfold cutL
  rw [r.length]
  exact (r.drop _).take _
theorem m_slT {f : E1} {lo hi : En (Option Int)} (hf : M ρ f) (hl : ME ρ Eq lo) (hh : ME ρ Eq hi) : M ρ (eSl (fun d l h g => if isStr d = true then .stuck else sSlT (dr g d) l h g) f lo hi) := fun env env' r => (hf env env' r).bind fun a b ab => (hl env env' r).bind fun c d cd => (hh env env' r).bind fun u v uv => by
  subst cd uv
  dsimp only
  rw [(dr_alike ab).1, (dr_alike ab).2]
  cases ab with
  | tup q => exact .ok (.tup (q.cut _ _))
  | _ => exact .no
theorem pairs_alike : ∀ {xs xs' ys ys' : List D}, Sml ρ xs xs' → Sml ρ ys ys' → Sml ρ (pairsD xs ys) (pairsD xs' ys')
  | _, _, _, _, .nil, _ => .nil
  | _, _, _, _, .cons _ _, .nil => .nil
  | _, _, _, _, .cons r t, .cons r2 t2 => .cons (.tup (.cons r (.cons r2 .nil))) (pairs_alike t t2)
theorem m_zip {fs : En (List D)} (hs : Ml ρ fs) : M ρ (eU sZip fs) := fun env env' r => (hs env env' r).bind fun a b ab => by
  cases ab with
  | nil => exact .no
  | cons r1 ab =>
    cases ab with
    | nil => cases r1 <;> exact .no
    | cons r2 ab =>
      cases ab with
      | cons _ _ => cases r1 <;> cases r2 <;> exact .no
      | nil =>
        cases r1 with
        | tup q1 =>
          cases r2 with
          | tup q2 =>
            simp only [sZip]
            rw [q1.length]
            split
            · exact .ok (.lst (pairs_alike q1 q2))
            · exact .no
          | _ => exact .no
        | _ => cases r2 <;> exact .no
theorem mb_and {f h : En Bool} (hf : Mb ρ f) (hh : Mb ρ h) : Mb ρ (tAndF f h) := fun env env' r => (hf env env' r).bind fun a b ab => by
  subst ab
  cases a with
  | true => exact hh env env' r
  | false => exact .ok rfl
theorem mb_or {f h : En Bool} (hf : Mb ρ f) (hh : Mb ρ h) : Mb ρ (tOrF f h) := fun env env' r => (hf env env' r).bind fun a b ab => by
  subst ab
  cases a with
  | true => exact .ok rfl
  | false => exact hh env env' r
theorem mb_not {f : En Bool} (hf : Mb ρ f) : Mb ρ (tNotF f) := fun env env' r => (hf env env' r).bind fun a b ab => by
  subst ab; exact .ok rfl
theorem mb_yes : Mb ρ tYesF := fun _ _ _ => .ok rfl
/-! ### comprehensions, calls -/
def MT (ρ : Str → Str → Prop) (t : Tg) : Prop := ∀ d d' env env', Sm ρ d d' → Sme ρ env env' → ∃ e e', t d env = some e ∧ t d' env' = some e' ∧ Sme ρ e e'
theorem mt_n (i : Nat) : MT ρ (tgN i) := fun d d' env env' r1 r2 => ⟨_, _, rfl, rfl, r2.set (.sh r1) i⟩
/-- what the second gives the first gives, too -/
def OO (ρ : Str → Str → Prop) : Option (List D × Sto) → Option (List D × Sto) → Prop := fun o o' => ∀ ys g, o' = some (ys, g) → g = [] ∧ ∃ xs, o = some (xs, []) ∧ Sml ρ xs ys
theorem compL_alike {t : Tg} {c : En Bool} {e : E1} (ht : MT ρ t) (hc : Mb ρ c) (he : M ρ e) {env env' : Env} (r : Sme ρ env env') : ∀ {xs ys : List D}, Sml ρ xs ys → OO ρ (compL t c e env xs []) (compL t c e env' ys [])
  | _, _, .nil => fun ys g h => by
    simp only [compL, Option.some.injEq, Prod.mk.injEq] at h
    obtain ⟨rfl, rfl⟩ := h
    exact ⟨rfl, [], rfl, .nil⟩
  | _, _, .cons (x := x) (y := y) r1 rt => fun zs g h => by
    obtain ⟨e1, e2, q1, q2, q3⟩ := ht _ _ _ _ r1 r
    simp only [compL, q2] at h
    simp only [compL, q1]
    have ih := compL_alike ht hc he r rt
    have hb := hc e1 e2 q3
    cases w : c e2 [] with
    | stuck => rw [w] at h; cases h
    | exc x g' => rw [w] at h; cases h
    | ok b g1 =>
      rw [w] at hb h
      cases hc1 : c e1 [] with
      | stuck => rw [hc1] at hb; cases hb
      | exc x g' => rw [hc1] at hb; cases hb
      | ok b1 g2 =>
        rw [hc1] at hb
        cases hb with
        | ok eq =>
          subst eq
          cases b1 with
          | false => exact ih zs g h
          | true =>
            dsimp only at h ⊢
            have hd := he e1 e2 q3
            cases w2 : e e2 [] with
            | stuck => rw [w2] at h; cases h
            | exc x g' => rw [w2] at h; cases h
            | ok y2 g3 =>
              rw [w2] at hd h
              cases w3 : e e1 [] with
              | stuck => rw [w3] at hd; cases hd
              | exc x g' => rw [w3] at hd; cases hd
              | ok y1 g4 =>
                rw [w3] at hd
                cases hd with
                | ok hd =>
                  dsimp only at h ⊢
                  cases w4 : compL t c e env' _ [] with
                  | none => rw [w4] at h; cases h
                  | some p =>
                    obtain ⟨us, gu⟩ := p
                    rw [w4] at h
                    obtain ⟨rfl, vs, e5, e6⟩ := ih us gu w4
                    simp only [Option.some.injEq, Prod.mk.injEq] at h
                    obtain ⟨rfl, rfl⟩ := h
                    rw [e5]
                    exact ⟨rfl, _, rfl, .cons hd e6⟩
theorem m_lc {it : En (List D)} {t : Tg} {c : En Bool} {e : E1} {vs : List Nat} (hi : Ml ρ it) (ht : MT ρ t) (hc : Mb ρ c) (he : M ρ e) : M ρ (eLc it t c e vs) := fun env env' r => (hi env env' r).bind fun xs ys q => by
  have h := compL_alike ht hc he (r.wipe vs) q
  cases w : compL t c e (wipeE env' vs) ys [] with
  | none => exact .no
  | some p =>
    obtain ⟨us, g⟩ := p
    obtain ⟨rfl, zs, e1, e2⟩ := h us g w
    rw [e1]
    dsimp only
    rw [e2.length]
    split
    · exact .ok (.lst e2)
    · exact .no
theorem comp2L_alike {t1 t2 : Tg} {c1 c2 : En Bool} {it2 : En (List D)} {e : E1} {vs1 : List Nat} (ht : MT ρ t1) (hc : Mb ρ c1) (hi : Ml ρ it2) (ht2 : MT ρ t2) (hc2 : Mb ρ c2) (he : M ρ e) {env env' : Env} (r : Sme ρ env env') : ∀ {xs ys : List D}, Sml ρ xs ys → OO ρ (comp2L t1 c1 it2 t2 c2 e vs1 env xs []) (comp2L t1 c1 it2 t2 c2 e vs1 env' ys [])
  | _, _, .nil => fun ys g h => by
    simp only [comp2L, Option.some.injEq, Prod.mk.injEq] at h
    obtain ⟨rfl, rfl⟩ := h
    exact ⟨rfl, [], rfl, .nil⟩
  | _, _, .cons (x := x) (y := y) r1 rt => fun zs g h => by
    obtain ⟨e1, e2, q1, q2, q3⟩ := ht _ _ _ _ r1 r
    simp only [comp2L, q2] at h
    simp only [comp2L, q1]
    have ih := comp2L_alike (vs1 := vs1) ht hc hi ht2 hc2 he r rt
    have hb := hc e1 e2 q3
    cases w : c1 e2 [] with
    | stuck => rw [w] at h; cases h
    | exc x g' => rw [w] at h; cases h
    | ok b g1 =>
      rw [w] at hb h
      cases hc1 : c1 e1 [] with
      | stuck => rw [hc1] at hb; cases hb
      | exc x g' => rw [hc1] at hb; cases hb
      | ok b1 g2 =>
        rw [hc1] at hb
        cases hb with
        | ok eq =>
          subst eq
          cases b1 with
          | false => exact ih zs g h
          | true =>
            dsimp only at h ⊢
            have hd := hi e1 e2 q3
            cases w2 : it2 e2 [] with
            | stuck => rw [w2] at h; cases h
            | exc x g' => rw [w2] at h; cases h
            | ok y2 g3 =>
              rw [w2] at hd h
              cases w3 : it2 e1 [] with
              | stuck => rw [w3] at hd; cases hd
              | exc x g' => rw [w3] at hd; cases hd
              | ok y1 g4 =>
                rw [w3] at hd
                cases hd with
                | ok hd =>
                  dsimp only at h ⊢
                  have h5 := compL_alike ht2 hc2 he (q3.wipe vs1) hd
                  cases w5 : compL t2 c2 e (wipeE e2 vs1) y2 [] with
                  | none => rw [w5] at h; cases h
                  | some p =>
                    obtain ⟨us, gu⟩ := p
                    rw [w5] at h
                    obtain ⟨rfl, vs, e5, e6⟩ := h5 us gu w5
                    rw [e5]
                    dsimp only at h ⊢
                    cases w6 : comp2L t1 c1 it2 t2 c2 e vs1 env' _ [] with
                    | none => rw [w6] at h; cases h
                    | some p =>
                      obtain ⟨us2, gu2⟩ := p
                      rw [w6] at h
                      obtain ⟨rfl, vs2, e7, e8⟩ := ih us2 gu2 w6
                      simp only [Option.some.injEq, Prod.mk.injEq] at h
                      obtain ⟨rfl, rfl⟩ := h
                      rw [e7]
                      exact ⟨rfl, _, rfl, e6.append e8⟩
theorem m_lc2 {it it2 : En (List D)} {t1 t2 : Tg} {c1 c2 : En Bool} {e : E1} {vs vs1 : List Nat} (hi : Ml ρ it) (ht : MT ρ t1) (hc : Mb ρ c1) (hi2 : Ml ρ it2) (ht2 : MT ρ t2) (hc2 : Mb ρ c2) (he : M ρ e) : M ρ (eLc2 it t1 c1 it2 t2 c2 e vs vs1) := fun env env' r => (hi env env' r).bind fun xs ys q => by
  have h := comp2L_alike (vs1 := vs1) ht hc hi2 ht2 hc2 he (r.wipe vs) q
  cases w : comp2L t1 c1 it2 t2 c2 e vs1 (wipeE env' vs) ys [] with
  | none => exact .no
  | some p =>
    obtain ⟨us, g⟩ := p
    obtain ⟨rfl, zs, e1, e2⟩ := h us g w
    rw [e1]
    dsimp only
    rw [e2.length]
    split
    · exact .ok (.lst e2)
    · exact .no
theorem m_call {n : Nat} {F : Fn} {fs : En (List D)} (hF : MF ρ F) (hs : Ml ρ fs) : M ρ (eCall n F fs) := fun env env' r => (hs env env' r).bind fun a b ab => by
  rw [ab.length]
  split
  · have h := hF a b ab
    cases w : F b [] with
    | stuck => exact .no
    | exc x g => exact .no
    | ok d g =>
      rw [w] at h
      cases w2 : F a [] with
      | stuck => rw [w2] at h; cases h
      | exc x g => rw [w2] at h; cases h
      | ok d2 g2 =>
        rw [w2] at h
        cases h with
        | ok h => exact .ok h
  · exact .no
mutual
theorem flat_alike : ∀ {d d' : D}, Sm ρ d d' → flat d = flat d'
  | _, _, .non => rfl
  | _, _, .bl _ => rfl
  | _, _, .int _ => rfl
  | _, _, .str _ => rfl
  | _, _, .lst _ => rfl
  | _, _, .tup r => by simp only [flat]; exact flatL_alike r
theorem flatL_alike : ∀ {d d' : List D}, Sml ρ d d' → flatL d = flatL d'
  | _, _, .nil => rfl
  | _, _, .cons r t => by simp only [flatL]; rw [flat_alike r, flatL_alike t]
end
mutual
theorem noLoc_alike : ∀ {d d' : D}, Sm ρ d d' → noLoc d = noLoc d'
  | _, _, .non => rfl
  | _, _, .bl _ => rfl
  | _, _, .int _ => rfl
  | _, _, .str _ => rfl
  | _, _, .lst r => by simp only [noLoc]; exact noLocL_alike r
  | _, _, .tup r => by simp only [noLoc]; exact noLocL_alike r
theorem noLocL_alike : ∀ {d d' : List D}, Sml ρ d d' → noLocL d = noLocL d'
  | _, _, .nil => rfl
  | _, _, .cons r t => by simp only [noLocL]; rw [noLoc_alike r, noLocL_alike t]
end
theorem m_callP {n : Nat} {F : Fn} {fs : En (List D)} (hF : MF ρ F) (hs : Ml ρ fs) : M ρ (eCallP n F fs) := fun env env' r => (hs env env' r).bind fun a b ab => by
  rw [ab.length, noLocL_alike ab]
  split
  · have h := hF a b ab
    cases w : F b [] with
    | stuck => exact .no
    | exc x g => exact .no
    | ok d g =>
      rw [w] at h
      cases w2 : F a [] with
      | stuck => rw [w2] at h; cases h
      | exc x g => rw [w2] at h; cases h
      | ok d2 g2 =>
        rw [w2] at h
        cases h with
        | ok h =>
          dsimp only
          rw [flat_alike h]
          split
          · exact .ok h
          · exact .no
  · exact .no
/-! ### statements -/
theorem ms_nil : MS ρ sNil := fun env env' r => .nx r
theorem ms_then {α : Type} {R : α → α → Prop} {f : En α} {k : α → Env → Sto → SRes} (hf : ME ρ R f) (hk : ∀ a b env env', R a b → Sme ρ env env' → SR ρ (k a env []) (k b env' [])) : MS ρ (thenS f k) := fun env env' r => by
  have h := hf env env' r
  unfold thenS
  cases w : f env' [] with
  | stuck => exact .no
  | exc x g => exact .ex
  | ok b g =>
    rw [w] at h
    cases w2 : f env [] with
    | stuck => rw [w2] at h; cases h
    | exc x g => rw [w2] at h; cases h
    | ok a g2 =>
      rw [w2] at h
      cases h with
      | ok h => exact hk a b env env' h r
theorem ms_seq {f h : Sd} (hf : MS ρ f) (hh : MS ρ h) : MS ρ (sSeq f h) := fun env env' r => by
  have q := hf env env' r
  unfold sSeq
  cases w : f env' [] with
  | stuck => exact .no
  | exc x e g => exact .ex
  | nx e g =>
    rw [w] at q
    cases w2 : f env [] <;> rw [w2] at q <;> cases q
    rename_i q
    exact hh _ _ q
  | rt d g =>
    rw [w] at q
    cases w2 : f env [] <;> rw [w2] at q <;> cases q
    rename_i q
    exact .rt q
  | rtO d g =>
    rw [w] at q
    cases w2 : f env [] <;> rw [w2] at q <;> cases q
    rename_i q
    exact .rtO q
  | bk e g =>
    rw [w] at q
    cases w2 : f env [] <;> rw [w2] at q <;> cases q
    rename_i q
    exact .bk q
  | ct e g =>
    rw [w] at q
    cases w2 : f env [] <;> rw [w2] at q <;> cases q
    rename_i q
    exact .ct q
theorem ms_ret {f : E1} (h : M ρ f) : MS ρ (sRet f) := ms_then h fun _ _ _ _ r _ => .rt r
theorem ms_retF {f : E1} (h : M ρ f) : MS ρ (sRetF f) := ms_then h fun _ _ _ _ r _ => .rtO r
theorem ms_set {i : Nat} {f : E1} (h : M ρ f) : MS ρ (sSet i f) := ms_then h fun _ _ _ _ r q => .nx (q.set (.sh r) i)
theorem ms_setO {i : Nat} {f : E1} (h : M ρ f) : MS ρ (sSetO i f) := ms_then h fun _ _ _ _ r q => .nx (q.set (.ow r) i)
theorem ms_if {t : En Bool} {a b : Sd} (ht : Mb ρ t) (ha : MS ρ a) (hb : MS ρ b) : MS ρ (sIf t a b) := ms_then ht fun c c' env env' e r => by
  subst e
  cases c with
  | true => exact ha env env' r
  | false => exact hb env env' r
theorem un1_alike {env env' : Env} (r : Sme ρ env env') (i : Nat) : Sme ρ (unown1 env i) (unown1 env' i) := by
  unfold unown1
  rcases r.get i with ⟨e1, e2⟩ | ⟨x, y, e1, e2, q⟩
  · rw [e1, e2]; exact r
  · rw [e1, e2]
    cases q with
    | no => exact r
    | sh q => exact r
    | ow q => exact r.set (.sh q) i
theorem un_alike : ∀ (is : List Nat) {env env' : Env}, Sme ρ env env' → Sme ρ (unown is env) (unown is env')
  | [], _, _, r => r
  | i :: is, _, _, r => un_alike is (un1_alike r i)
theorem ms_un {is : List Nat} {f : Sd} (h : MS ρ f) : MS ρ (sUn is f) := fun env env' r => h _ _ (un_alike is r)
theorem own_alike {env env' : Env} (r : Sme ρ env env') (i : Nat) : isOwL env i = isOwL env' i := by
  unfold isOwL
  rcases r.get i with ⟨e1, e2⟩ | ⟨x, y, e1, e2, q⟩
  · rw [e1, e2]
  · rw [e1, e2]
    cases q with
    | no => rfl
    | sh q => rfl
    | ow q => cases q <;> rfl
theorem ms_append {i : Nat} {f : E1} (h : M ρ f) : MS ρ (sAppend i f) := fun env env' r => by
  unfold sAppend
  rw [own_alike r i]
  split
  · refine ms_then h (fun a b env env' ab r => ?_) env env' r
    unfold putApp
    rcases r.get i with ⟨e1, e2⟩ | ⟨x, y, e1, e2, q⟩
    · rw [e2]; exact .no
    · rw [e1, e2]
      cases q with
      | no => exact .no
      | sh q => exact .no
      | ow q =>
        cases q with
        | lst q =>
          dsimp only
          rw [q.length]
          split
          · exact .nx (r.set (.ow (.lst (q.append (.cons ab .nil)))) i)
          · exact .no
        | _ => exact .no
  · exact .no
theorem ms_extend {i : Nat} {f : E1} (h : M ρ f) : MS ρ (sExtend i f) := fun env env' r => by
  unfold sExtend
  rw [own_alike r i]
  split
  · refine ms_then h (fun a b env env' ab r => ?_) env env' r
    unfold putExt
    rcases r.get i with ⟨e1, e2⟩ | ⟨x, y, e1, e2, q⟩
    · rw [e2]; exact .no
    · rw [e1, e2]
      cases q with
      | no => exact .no
      | sh q => exact .no
      | ow q =>
        cases q with
        | lst q =>
          cases ab with
          | lst q2 =>
            dsimp only
            rw [q.length, q2.length]
            split
            · exact .nx (r.set (.ow (.lst (q.append q2))) i)
            · exact .no
          | _ => exact .no
        | _ => exact .no
  · exact .no
theorem ms_par {i j : Nat} {f h : E1} (hf : M ρ f) (hh : M ρ h) : MS ρ (sPar i j f h) := ms_then (m_cons hf (m_cons hh m_nil)) fun a b env env' ab r => by
  cases ab with
  | nil => exact .no
  | cons r1 t =>
    cases t with
    | nil => exact .no
    | cons r2 t =>
      cases t with
      | nil => exact .nx ((r.set (.sh r1) i).set (.sh r2) j)
      | cons _ _ => exact .no
theorem ms_aug {i : Nat} {p : Int → Int → Int} {f : E1} (h : M ρ f) : MS ρ (sAugI i p f) := fun env env' r => by
  unfold sAugI
  rcases r.get i with ⟨e1, e2⟩ | ⟨x, y, e1, e2, q⟩
  · rw [e2]; exact .no
  · rw [e1, e2]
    cases q with
    | no => exact .no
    | ow q => exact .no
    | sh q =>
      cases q with
      | int a =>
        refine ms_then h (fun c d env env' cd r => ?_) env env' r
        cases cd with
        | int b => exact .nx (r.set (.sh (.int _)) i)
        | _ => exact .no
      | _ => exact .no
theorem ms_retO {i : Nat} : MS ρ (sRetO i) := fun env env' r => by
  unfold sRetO
  rcases r.get i with ⟨e1, e2⟩ | ⟨x, y, e1, e2, q⟩
  · rw [e2]; exact .no
  · rw [e1, e2]
    cases q with
    | no => exact .no
    | sh q => exact .no
    | ow q => exact .rtO q
theorem ms_loop {t : Tg} {b : Sd} (ht : MT ρ t) (hb : MS ρ b) : ∀ {xs ys : List D}, Sml ρ xs ys → ∀ env env', Sme ρ env env' → SR ρ (forL t b xs env []) (forL t b ys env' [])
  | _, _, .nil, env, env', r => .nx r
  | _, _, .cons r1 rt, env, env', r => by
    obtain ⟨e1, e2, q1, q2, q3⟩ := ht _ _ _ _ r1 r
    simp only [forL, q1, q2]
    have q := hb e1 e2 q3
    have ih := ms_loop ht hb rt
    cases w : b e2 [] with
    | stuck => exact .no
    | exc x e g => exact .ex
    | nx e g =>
      rw [w] at q
      cases w2 : b e1 [] <;> rw [w2] at q <;> cases q
      rename_i q
      exact ih _ _ q
    | ct e g =>
      rw [w] at q
      cases w2 : b e1 [] <;> rw [w2] at q <;> cases q
      rename_i q
      exact ih _ _ q
    | rt d g =>
      rw [w] at q
      cases w2 : b e1 [] <;> rw [w2] at q <;> cases q
      rename_i q
      exact .rt q
    | rtO d g =>
      rw [w] at q
      cases w2 : b e1 [] <;> rw [w2] at q <;> cases q
      rename_i q
      exact .rtO q
    | bk e g =>
      rw [w] at q
      cases w2 : b e1 [] <;> rw [w2] at q <;> cases q
      rename_i q
      exact .nx q
theorem ms_for {it : En (List D)} {t : Tg} {b : Sd} (hi : Ml ρ it) (ht : MT ρ t) (hb : MS ρ b) : MS ρ (sFor it t b) := ms_then hi fun xs ys env env' q r => ms_loop ht hb q env env' r
theorem ms_while {t : En Bool} {b : Sd} (ht : Mb ρ t) (hb : MS ρ b) : ∀ n : Nat, MS ρ (sWhile n t b)
  | 0 => fun _ _ _ => .no
  | n + 1 => ms_then ht fun c c' env env' e r => by
    subst e
    cases c with
    | false => exact .nx r
    | true =>
      have q := hb env env' r
      have ih := ms_while ht hb n
      simp only [if_true]
      cases w : b env' [] with
      | stuck => exact .no
      | exc x e g => exact .ex
      | nx e g =>
        rw [w] at q
        cases w2 : b env [] <;> rw [w2] at q <;> cases q
        rename_i q
        exact ih _ _ q
      | ct e g =>
        rw [w] at q
        cases w2 : b env [] <;> rw [w2] at q <;> cases q
        rename_i q
        exact ih _ _ q
      | rt d g =>
        rw [w] at q
        cases w2 : b env [] <;> rw [w2] at q <;> cases q
        rename_i q
        exact .rt q
      | rtO d g =>
        rw [w] at q
        cases w2 : b env [] <;> rw [w2] at q <;> cases q
        rename_i q
        exact .rtO q
      | bk e g =>
        rw [w] at q
        cases w2 : b env [] <;> rw [w2] at q <;> cases q
        rename_i q
        exact .nx q
theorem start_alike (N : Nat) : ∀ {ds ds' : List D}, Sml ρ ds ds' → Sme ρ (ds.map Slot.sh ++ List.replicate N .no) (ds'.map Slot.sh ++ List.replicate N .no)
  | _, _, .nil => by
    simp only [List.map_nil, List.nil_append]
    induction N with
    | zero => exact .nil
    | succ n ih => exact .cons .no ih
  | _, _, .cons r t => .cons (.sh r) (start_alike N t)
theorem mf_of {N : Nat} {b : Sd} (h : MS ρ b) : MF ρ (fnOf N b) := fun ds ds' r => by
  unfold fnOf
  rw [r.length]
  have q := h _ _ (start_alike (N - ds'.length) r)
  cases w : b (ds'.map Slot.sh ++ List.replicate (N - ds'.length) .no) [] with
  | stuck => exact .no
  | exc x e g => exact .ex
  | bk e g => exact .no
  | ct e g => exact .no
  | nx e g =>
    rw [w] at q
    cases w2 : b (ds.map Slot.sh ++ List.replicate (N - ds'.length) .no) [] <;> rw [w2] at q <;> cases q
    exact .ok .non
  | rt d g =>
    rw [w] at q
    cases w2 : b (ds.map Slot.sh ++ List.replicate (N - ds'.length) .no) [] <;> rw [w2] at q <;> cases q
    rename_i q
    exact .ok q
  | rtO d g =>
    rw [w] at q
    cases w2 : b (ds.map Slot.sh ++ List.replicate (N - ds'.length) .no) [] <;> rw [w2] at q <;> cases q
    rename_i q
    exact .ok q
theorem mf_ofO {N : Nat} {b : Sd} (h : MS ρ b) : MF ρ (fnOfO N b) := fun ds ds' r => by
  unfold fnOfO
  rw [r.length]
  have q := h _ _ (start_alike (N - ds'.length) r)
  cases w : b (ds'.map Slot.sh ++ List.replicate (N - ds'.length) .no) [] with
  | rtO d g =>
    rw [w] at q
    cases w2 : b (ds.map Slot.sh ++ List.replicate (N - ds'.length) .no) [] <;> rw [w2] at q <;> cases q
    rename_i q
    exact .ok q
  | _ => exact .no
theorem mf_no : MF ρ fnNo := fun _ _ _ => .no
end
end Ev
namespace Ev
open PySem PySem.Spec PyProof.Rows L2
section
variable {X : Cx} {S : Stat} {W : WX}
/-! ### instances: attributes -/
def lookF (f : Str) : List Str → List D → Option D
  | n :: ns, v :: vs => if f = n then some v else lookF f ns vs
  | _, _ => none
/-- .. put -/
def putN (f : Str) : List Str → List Str
  | [] => [f]
  | n :: ns => if n = f then n :: ns else n :: putN f ns
def putVs (f : Str) (d : D) : List Str → List D → List D
  | n :: ns, v :: vs => if n = f then d :: vs else v :: putVs f d ns vs
  | _, _ => [d]
theorem lookF_ok {m : Mv} {H : Hp} {f : Str} : ∀ {fs : List (Str × V)} {ds : List D} {d : D}, lookF f (fs.map (·.1)) ds = some d → Rl S m H ds (fs.map (·.2)) → f ∈ fs.map (·.1) ∧ ∃ v, fs.lookup f = some v ∧ Rr S m H d v
  | [], ds, d, h, _ => by cases ds <;> simp [lookF] at h
  | (n, v) :: fs, [], d, h, _ => by simp [lookF] at h
  | (n, v) :: fs, y :: ds, d, h, r => by
    cases r with
    | cons r1 r2 =>
      simp only [List.map_cons, lookF] at h
      by_cases hf : f = n
      · rw [if_pos hf] at h
        cases h
        subst hf
        exact ⟨by simp, v, by simp [List.lookup], r1⟩
      · rw [if_neg hf] at h
        obtain ⟨h1, w, h2, h3⟩ := lookF_ok h r2
        refine ⟨by simp only [List.map_cons, List.mem_cons]; exact .inr h1, w, ?_, h3⟩
        rw [List.lookup_cons, show (f == n) = false from by simpa using hf]
        exact h2
theorem putN_ok {f : Str} {v : V} : ∀ fs : List (Str × V), (putF f v fs).map (·.1) = putN f (fs.map (·.1))
  | [] => rfl
  | (n, x) :: fs => by
    simp only [putF, List.map_cons, putN]
    by_cases h : n = f
    · rw [if_pos h, if_pos h]; rfl
    · rw [if_neg h, if_neg h, List.map_cons, putN_ok fs]
theorem putN_mem {f n : Str} : ∀ ns : List Str, n ∈ putN f ns → n = f ∨ n ∈ ns
  | [], h => by simp [putN] at h; exact .inl h
  | k :: ns, h => by
    simp only [putN] at h
    by_cases hk : k = f
    · rw [if_pos hk] at h; exact .inr h
    · rw [if_neg hk] at h
      rcases List.mem_cons.mp h with h | h
      · exact .inr (h ▸ List.mem_cons_self)
      · exact (putN_mem ns h).imp id fun z => List.mem_cons_of_mem _ z
theorem putVs_ok {m : Mv} {H : Hp} {f : Str} {d : D} {v : V} (r : Rr S m H d v) : ∀ {fs : List (Str × V)} {ds : List D}, Rl S m H ds (fs.map (·.2)) → Rl S m H (putVs f d (fs.map (·.1)) ds) ((putF f v fs).map (·.2))
  | [], ds, q => by cases q; exact .cons r .nil
  | (n, x) :: fs, ds, q => by
    cases q with
    | cons q1 q2 =>
      simp only [putF, List.map_cons, putVs]
      by_cases h : n = f
      · rw [if_pos h, if_pos h]; exact .cons r q2
      · rw [if_neg h, if_neg h]; exact .cons q1 (putVs_ok r q2)
/-- e.f -/
def sFldG (f : Str) : D → Sto → Res D := fun d g => match d with
  | .ins _ ns vs => (match lookF f ns vs with
    | some x => .ok x g
    | none => .stuck)
  | _ => .stuck
theorem Rv.ins {m : Mv} {H : Hp} {c : Nat} {ns : List Str} {ds : List D} {v : V} (h : Rv S m H (.ins c ns ds) v) : ∃ a C dx fs, v = .ref a ∧ H a = some (.ins C dx fs) ∧ S.kc[c]? = some C ∧ InsN S.K C ns fs ∧ Rl S m H ds (fs.map (·.2)) := by
  rcases h with h | ⟨a, rfl, h⟩
  · cases h with
    | ins h f c e r => exact ⟨_, _, _, _, rfl, h, c, e, r⟩
  · cases h with
    | ins h c e r => exact ⟨_, _, _, _, rfl, h, c, e, r⟩
theorem e_fld {e : Expr} {f : Str} {fe : E1} {pos : Pos} (hK : S.K = X.K) (he : Pb X S W e fe) (hb : attributeBase e f X.env (eval e X.env) = eval e X.env := by rfl) : Pe X S W (.Attribute e f pos) (eU (dr1 (sFldG f)) fe) :=
  PE.to (pe_fld he hb) fun σ H Q q => Tv.one (Ra := RB S) q fun env m g H1 d x rel _ ⟨_, ra⟩ p => by
    have ra := ra.v.dr rel.mem
    unfold dr1 sFldG at p
    split at p
    · rename_i c ns vs ed
      rw [ed] at ra
      obtain ⟨a, C, dx, fs, rfl, hH, hc, ⟨hn, hC, hA⟩, rl⟩ := ra.ins
      split at p
      · rename_i y ey
        subst hn
        obtain ⟨h1, v, h2, h3⟩ := lookF_ok ey rl
        exact ⟨a, C, dx, fs, v, rfl, hH, hK ▸ hC, hK ▸ hA f h1, h2, p.now rel.mem h3⟩
      · exact p.elim
    · exact p.elim
/-- x.f = e, x one's own -/
def putFldO (i c : Nat) (f : Str) (d : D) (env : Env) (g : Sto) : SRes := match env[i]? with
  | some (.ow (.ins c' ns vs)) => if c' = c ∧ vs.length < 900 then .nx (env.set i (.ow (.ins c (putN f ns) (putVs f d ns vs)))) g else .stuck
  | _ => .stuck
def sFldO (i c : Nat) (f : Str) (fe : E1) : Sd := thenS fe (putFldO i c f)
theorem s_fldO {i c : Nat} {C : Addr} {o e : Expr} {f : Str} {fe : E1} {pos pos' : Pos} (hK : S.K = X.K) (hc : S.kc[c]? = some C) (hn : NoAttr S.K C f) (hv : PE X o (tVar i)) (he : Pe X S W e fe)
    (hs : swapsWith e (some (.Attribute o f pos')) pos.line X.env = pure false := by rfl) : Ps X S W (.Assign [.Attribute o f pos'] e pos) (sFldO i c f fe) :=
  PS.to (ps_fld hv he hs) fun E σ H h => Tv.st (R := RT S) (k := putFldO i c f) h fun env g0 g m0 m H1 d y r0 gr r1 ra p => by
    unfold putFldO at p
    split at p
    · rename_i c' ns vs e2
      split at p
      · rename_i hcc
        obtain ⟨rfl, hlen⟩ := hcc
        obtain ⟨ov, e1, a, rfl, hw, hm, ro⟩ := r1.at e2
        cases ro with
        | @ins C' dx fs _ _ _ hH hc' hN rl =>
          rw [hc] at hc'
          cases hc'
          obtain ⟨hn', hC, hA⟩ := hN
          have q : GrowS m H1 m (upd H1 a (.ins C dx (putF f y fs))) := grow_put hw
          have hl : fs.length < 1000 := by have := rl.length; simp at this; omega
          refine ⟨.ref a, e1, a, C, dx, fs, rfl, hH, hK ▸ hC, hK ▸ hn, hl, p _ _ m q (r1.put e2 e1 trivial (.ins upd_same hc ⟨?_, hC, fun k hk => ?_⟩ ?_))⟩
          · rw [putN_ok, hn']
          · rcases putN_mem _ hk with rfl | hk
            · exact hn
            · exact hA k hk
          · rw [hn']
            exact putVs_ok (Rr.grow r1.mem q ra) (Rl.grow r1.mem q rl)
      · exact p.elim
    · exact p.elim
end
end Ev
namespace Ev
open PySem PySem.Spec PyProof.Rows L2
section
variable {X : Cx} {S : Stat} {W : WX}
/-! ### pure calls: the callee sees trees and an empty store -/
def Mv.seal (m : Mv) : Mv := ⟨[], [], m.B ++ m.W⟩
theorem seal_fr {m : Mv} {a : Addr} (h : m.fr a) : m.seal.fr a := ⟨fun z => (by cases z), fun z => (List.mem_append.mp z).elim h.2 h.1⟩
theorem MOk.seal {H : Hp} {g : Sto} {m : Mv} (ok : MOk S H g m) : MOk S H [] m.seal :=
  ⟨rfl, fun n d a e _ => (by simp at e), List.nodup_nil, fun a z => (by cases z), fun a z => ok.trk a (by
    rcases z with z | z
    · cases z
    · exact (List.mem_append.mp z).symm), fun a _ z => (by cases z)⟩
/-- behind it all is as it was, but for what is new -/
theorem opn_seal {H H' : Hp} {g : Sto} {m m' : Mv} (ok : MOk S H g m) (q : GrowS m.seal H m' H') : Grow m H m H' ∧ MOk S H' g m ∧ ∀ a, m'.fr a → m.fr a := by
  have kp : ∀ a o, H a = some o → H' a = some o := fun a o h => q.keep a o h fun z => (by cases z)
  have gr : Grow m H m H' := ⟨fun a o h _ => kp a o h, q.liv, ⟨[], by simp⟩, fun a z => .inl z, fun a z => z, fun a z => .inl z, rfl⟩
  refine ⟨gr, ⟨ok.len, fun n d a e1 e2 => (ok.sto n d a e1 e2).grow ok (gr.s ok.muW) (kp a), ok.nd, ok.muW, fun a z => ?_, ok.dis⟩, fun a h => ?_⟩
  · have := ok.trk a z
    cases e : H a with
    | none => rw [e] at this; exact this.elim
    | some o => rw [kp a o e]; rw [e] at this; exact this
  · have hb : m'.B = m.B ++ m.W := q.b
    exact ⟨fun z => h.2 (by rw [hb]; exact List.mem_append_right _ z), fun z => h.2 (by rw [hb]; exact List.mem_append_left _ z)⟩
/-- what a pure call gives -/
def pur (r : Res D) (g : Sto) : Res D := match r with
  | .ok d _ => if noLoc d = true then .ok d g else .stuck
  | _ => .stuck
theorem pure_spec {σ : St} {H H0 : Hp} {g : Sto} {m : Mv} {ds : List D} {vs : List V} {n : Nat} {F : Fn} {Q : VK} {E : XK} (ok : MOk S H g m) (rl : Rl S m H ds vs) (hn : ds.length = n) (hl : noLocL ds = true)
    (p : Post S (RT S) W σ H0 (pur (F ds []) g) m H Q) : Spec S n F vs H Q E := by
  refine ⟨ds, [], m.seal, ok.seal, fun _ z => (by cases z), Rl.noLoc (fun a h => seal_fr h) hl rl, hn, ?_⟩
  unfold pur at p
  cases q : F ds [] with
  | stuck => rw [q] at p; exact p
  | exc x g' => rw [q] at p; exact p.elim
  | ok d g' =>
    rw [q] at p
    simp only at p
    split at p
    · rename_i hd
      intro v H' m' gr ok' hW r
      obtain ⟨h1, h2, h3⟩ := opn_seal ok gr
      exact p v H' m h1 h2 (Rr.noLoc h3 hd r)
    · exact p.elim
/-- a new thing at a, in the heap behind -/
theorem own_new {σ : St} {H H' H0 : Hp} {g : Sto} {m m' : Mv} {a : Addr} {d : D} {Q : VK} (ok : MOk S H g m) (fz : ∀ z, H z = none → H0 z = none) (ha : H a = none) (kp : ∀ b o, H b = some o → H' b = some o) (lv : ∀ b, H' b = none → H b = none)
    (hMut : Mut (H' a)) (hd : noLoc d = true) (wk : ∀ b, m'.fr b → (m.own a).fr b) (ro : Root S m' H' a d) (p : Post S (RF S) W σ H0 (.ok d g) m H Q) : Q (.ref a) H' := by
  have hfr := ok.free ha
  have hmu : a ∉ m.mu := fun z => hfr.1 (ok.muW a z)
  have g2 : Grow m H (m.own a) H' := ⟨fun b o h _ => kp b o h, lv, ⟨[], by simp [Mv.own]⟩, fun b z => .inl z, fun b z => List.mem_cons_of_mem _ z, fun b z => (List.mem_cons.mp z).elim (fun e => .inr (e ▸ ha)) .inl, rfl⟩
  have gs : GrowS m H (m.own a) H' := g2.s ok.muW
  have mk : ∀ b, Mut (H b) → Mut (H' b) := fun b h => by
    cases e : H b with
    | none => rw [e] at h; exact h.elim
    | some o => rw [kp b o e]; rw [e] at h; exact h
  refine p (.ref a) H' (m.own a) g2 ⟨ok.len, fun k d b e1 e2 => (ok.sto k d b e1 e2).grow ok gs (kp b), ok.nd, fun b z => List.mem_cons_of_mem _ (ok.muW b z), fun b z => ?_, fun b z w => ?_⟩ ⟨a, rfl, List.mem_cons_self, hmu, fz a ha, ro.noLoc wk hd⟩
  · rcases z with z | z
    · rcases List.mem_cons.mp z with rfl | z
      · exact hMut
      · exact mk b (ok.trk b (.inl z))
    · exact mk b (ok.trk b (.inr z))
  · rcases List.mem_cons.mp w with rfl | w
    · exact hfr.2 z
    · exact ok.dis b z w
theorem pure_specO {σ : St} {H H0 : Hp} {g : Sto} {m : Mv} {ds : List D} {vs : List V} {n : Nat} {F : Fn} {Q : VK} {E : XK} (ok : MOk S H g m) (fz : ∀ z, H z = none → H0 z = none) (rl : Rl S m H ds vs) (hn : ds.length = n) (hl : noLocL ds = true)
    (p : Post S (RF S) W σ H0 (pur (F ds []) g) m H Q) : SpecO S n F vs H Q E := by
  refine ⟨ds, [], m.seal, ok.seal, fun _ z => (by cases z), Rl.noLoc (fun a h => seal_fr h) hl rl, hn, ?_⟩
  unfold pur at p
  cases q : F ds [] with
  | stuck => rw [q] at p; exact p
  | exc x g' => rw [q] at p; exact p.elim
  | ok d g' =>
    rw [q] at p
    simp only at p
    split at p
    · rename_i hd
      intro a H' m' gr ok' hW hw hm ro
      obtain ⟨h1, h2, h3⟩ := opn_seal ok gr
      refine own_new ok fz ((gr.wn a hw).elim (fun z => (by cases z)) id) (fun b o h => gr.keep b o h fun z => (by cases z)) gr.liv (ok'.trk a (.inl hw)) hd (fun b h => ⟨fun z => (List.mem_cons.mp z).elim (fun e => h.1 (e ▸ hw)) (h3 b h).1, (h3 b h).2⟩) ro p
    · exact p.elim
/-- f(e, ..), a pure call -/
def eCallE (n : Nat) (F : Fn) (fs : En (List D)) : E1 := fun env g => (fs env g).bind fun ds g1 => if ds.length = n ∧ noLocL ds = true then pur (F ds []) g1 else .stuck
theorem c_callE {x : Str} {k n : Nat} {ps : List Str} {F : Fn} {e : Expr} {es : List Expr} {fs : En (List D)} {p pos : Pos} (d : Def X.prog X.w X.K X.mg X.base S x k ps F) (hr : Room k X.A) (hg : Gl X x) (ha : Pas X S W (e :: es) fs)
    (hn : ps.length = n := by rfl) (hdb : (x == ("__debug__" : Str)) = false := by decide) (he : starEach (e :: es) X.env = (false, eval e X.env) :: starEach es X.env := by rfl) (hpl : (backTo pos (starEach es X.env)).any (·.1) = false := by rfl) :
    Pe X S W (.Call (.Name x p) (e :: es) [] pos) (eCallE n F fs) := by
  subst hn
  obtain ⟨f, fd, hm, hk, hb, G⟩ := d.ex
  refine PE.to (pe_call G hr hg hm hk hb .nil pass0 ha hdb he hpl) fun σ H Q q => Tv.go (Ra := RL S) (k := fun ds _ g1 => if ds.length = ps.length ∧ noLocL ds = true then pur (F ds []) g1 else .stuck) q fun env m g H1 ds vs rel fz ra p => ?_
  rw [List.append_nil]
  split at p
  · rename_i hn
    exact pure_spec (W := W) (σ := σ) (H0 := H) rel.mem ra hn.1 hn.2 p
  · exact p.elim
theorem c_callEO {x : Str} {k n : Nat} {ps : List Str} {F : Fn} {e : Expr} {es : List Expr} {fs : En (List D)} {p pos : Pos} (d : DefO X.prog X.w X.K X.mg X.base S x k ps F) (hr : Room k X.A) (hg : Gl X x) (ha : Pas X S W (e :: es) fs)
    (hn : ps.length = n := by rfl) (hdb : (x == ("__debug__" : Str)) = false := by decide) (he : starEach (e :: es) X.env = (false, eval e X.env) :: starEach es X.env := by rfl) (hpl : (backTo pos (starEach es X.env)).any (·.1) = false := by rfl) :
    Pf X S W (.Call (.Name x p) (e :: es) [] pos) (eCallE n F fs) := by
  subst hn
  obtain ⟨f, fd, hm, hk, hb, G⟩ := d.ex
  refine PE.to (pe_call G hr hg hm hk hb .nil pass0 ha hdb he hpl) fun σ H Q q => Tv.go (Ra := RL S) (k := fun ds _ g1 => if ds.length = ps.length ∧ noLocL ds = true then pur (F ds []) g1 else .stuck) q fun env m g H1 ds vs rel fz ra p => ?_
  rw [List.append_nil]
  split at p
  · rename_i hn
    exact pure_specO (W := W) (σ := σ) (H0 := H) rel.mem fz ra hn.1 hn.2 p
  · exact p.elim
/-! ### C(e, ..): a new instance -/
abbrev mI (x : Addr) (B : List Addr) : Mv := ⟨[], [x], B⟩
def SpecI (S : Stat) (c n : Nat) (F : Fn) : Sp := fun vs H Q _ => ∃ x C dx ws ds B, vs = .ref x :: ws ∧ S.kc[c]? = some C ∧ Cls S.K C ∧ H x = some (.ins C dx []) ∧ MOk S H [] (mI x B) ∧ Rl S (mI x B) H ds ws ∧ ds.length = n ∧ match F ds [] with
  | .ok d _ => ∀ H', GrowS (mI x B) H (mI x B) H' → MOk S H' [] (mI x B) → noLoc d = true → Root S (mI x B) H' x d → Q .non H'
  | _ => False
/-- an __init__'s function: what the new instance holds -/
def fnOfI (N c : Nat) (body : Sd) : Fn := fun ds _ => match body (.sh (.loc 0) :: (ds.map Slot.sh ++ List.replicate (N - (ds.length + 1)) .no)) [.ins c [] []] with
  | .nx _ g' => (match g'[0]? with
    | some d => if noLoc d = true then .ok d [] else .stuck
    | none => .stuck)
  | _ => .stuck
theorem fnI_ok {P : Program} {w : World} {K : PySem.W.Frag} {mg : Str → Option Value} {base : Heap} {x qual : Str} {params : Arguments} {body : List Stmt} {scope : Scope} {dvs : List V} {kws : List (Str × V)} {f : Addr} {fd : FuncData} {N ps : List Str} {k c : Nat} {sd : Sd}
    (F : FunD K x qual params body scope dvs kws f fd) (C : FnScope N ps scope) (hN : 0 < ps.length)
    (hb : ∀ (cdv : Value) (A : Around) (outer : List PySem.Env) (s : Shared) (H : Hp) (E : XK), Room k (A.deeper (envOfC qual scope s.heap.objs.size f cdv)) → Pss ((cxOf CX0 P w K mg base N qual scope f cdv A outer s H E).nox) S W0 body sd) :
    FnOk P w K mg base CX0 (k + 1) f fd ps (SpecI S c (ps.length - 1) (fnOfI N.length c sd)) := by
  refine F.ok C (fun vs H Q E ⟨x, C, dx, ws, ds, B, e, _, _, _, _, rl, hl, _⟩ => by rw [e, List.length_cons, ← rl.length, hl]; omega) (fun cdv A outer s H vs Q E hr ⟨x, C, dx, ws, ds, B, e, hC, hCl, hx, ok, rl, hl, p⟩ => ⟨_, PSs.nox (hb cdv A outer s H E hr), ?_⟩)
  subst e
  let m1 : Mv := ⟨[x], [x], B⟩
  have rl1 : Rl S m1 H ds ws := Rl.weak (m := mI x B) (m' := m1) (fun a h => h) (fun n a e => by simp at e) rl
  have rt : Root S m1 H x (.ins c [] []) := .ins hx hC ⟨rfl, hCl, fun f z => (by cases z)⟩ .nil
  have ok1 : MOk S H [.ins c [] []] m1 := ⟨rfl, fun n d a e1 e2 => by
    cases n with
    | zero => simp at e1 e2; simp [m1] at e2; subst e1 e2; exact rt
    | succ n => simp at e1, by simp [m1], fun a z => z, ok.trk, ok.dis⟩
  have rel := rel_start (N := N) ok1 (ds := .loc 0 :: ds) (vs := .ref x :: ws) (.cons (.loc rfl) rl1)
  refine ⟨_, [.ins c [] []], m1, rel, ?_⟩
  unfold fnOfI at p
  have ee : (List.map Slot.sh (D.loc 0 :: ds) ++ List.replicate (N.length - (D.loc 0 :: ds).length) Slot.no) = (.sh (.loc 0) :: (ds.map Slot.sh ++ List.replicate (N.length - (ds.length + 1)) .no)) := rfl
  rw [ee]
  cases q : sd (.sh (.loc 0) :: (ds.map Slot.sh ++ List.replicate (N.length - (ds.length + 1)) .no)) [.ins c [] []] with
  | nx env' g' =>
    rw [q] at p
    simp only at p
    cases e0 : g'[0]? with
    | none => rw [e0] at p; exact p.elim
    | some d =>
      rw [e0] at p
      simp only at p
      by_cases hd : noLoc d = true
      · rw [if_pos hd] at p
        intro σ' H' m' gr r'
        obtain ⟨t, ht⟩ := gr.mu
        have ht : m'.mu = x :: t := ht
        have ro : Root S m' H' x d := r'.mem.sto 0 d x e0 (by rw [ht]; rfl)
        have hxW : x ∈ m'.W := r'.mem.muW x (by rw [ht]; exact List.mem_cons_self)
        have hB : m'.B = B := gr.b
        have wk : ∀ b, m'.fr b → (mI x B).fr b := fun b h => ⟨fun z => h.1 (by rw [List.mem_singleton.mp z]; exact hxW), fun z => h.2 (by rw [hB]; exact z)⟩
        refine p H' ⟨gr.keep, gr.liv, ⟨[], rfl⟩, fun a z => (by cases z), fun a z => .inl z, rfl⟩ ⟨rfl, fun n d a e _ => (by simp at e), List.nodup_nil, fun a z => (by cases z), fun a z => ?_, ok.dis⟩ hd (ro.noLoc wk hd)
        rcases z with z | z
        · rw [List.mem_singleton.mp z]; exact r'.mem.trk x (.inl hxW)
        · exact r'.mem.trk a (.inr (by rw [hB]; exact z))
      · rw [if_neg hd] at p; exact p.elim
  | rt d g' => rw [q] at p; exact p.elim
  | rtO d g' => rw [q] at p; exact p.elim
  | bk env' g' => rw [q] at p; exact p.elim
  | ct env' g' => rw [q] at p; exact p.elim
  | exc x env' g' => rw [q] at p; exact p.elim
  | stuck => rw [q] at p; exact p.elim
/-- the class x, its __init__ is the function F -/
structure DefI (P : Program) (w : World) (K : PySem.W.Frag) (mg : Str → Option Value) (base : Heap) (S : Stat) (x : Str) (c k : Nat) (ps : List Str) (F : Fn) : Prop where
  ex : ∃ C f fd, mg x = some (.ref C) ∧ S.kc[c]? = some C ∧ Cls K C ∧ Mk K C f ∧ Binds K fd ps [] ∧ FnOk P w K mg base CX0 k f fd ps (SpecI S c (ps.length - 1) F)
theorem upd2_none {H : Hp} {x dx b : Addr} {o o' : HO} : upd (upd H dx o) x o' b = none → H b = none := fun h => by
  by_cases h1 : b = x
  · subst h1; rw [upd_same] at h; cases h
  · rw [upd_ne h1] at h
    by_cases h2 : b = dx
    · subst h2; rw [upd_same] at h; cases h
    · rw [upd_ne h2] at h; exact h
theorem upd2_keep {H : Hp} {x dx b : Addr} {o o' u : HO} (hx : H x = none) (hd : H dx = none) (h : H b = some u) : upd (upd H dx o) x o' b = some u := by
  rw [upd_ne (ne_of_none h hx), upd_ne (ne_of_none h hd)]; exact h
theorem make_spec {σ : St} {H H0 : Hp} {g : Sto} {m : Mv} {ds : List D} {vs : List V} {c n : Nat} {C x dx : Addr} {F : Fn} {Q : VK} {E : XK} (hC : S.kc[c]? = some C) (hCl : Cls S.K C) (ok : MOk S H g m) (fz : ∀ z, H z = none → H0 z = none) (rl : Rl S m H ds vs) (hn : ds.length = n) (hl : noLocL ds = true)
    (p : Post S (RF S) W σ H0 (pur (F ds []) g) m H Q) (hx : H x = none) (hdx : H dx = none) : SpecI S c n F (.ref x :: vs) (upd (upd H dx (.own x)) x (.ins C dx [])) (fun v H2 => v = .non ∧ Q (.ref x) H2) E := by
  have hfr := ok.free hx
  have kp : ∀ b o, H b = some o → upd (upd H dx (.own x)) x (.ins C dx []) b = some o := fun b o h => upd2_keep hx hdx h
  have gs : GrowS m H (m.own x) (upd (upd H dx (.own x)) x (.ins C dx [])) := ⟨fun b o h _ => kp b o h, fun b h => upd2_none h, ⟨[], by simp [Mv.own]⟩, fun b z => .inl z, fun b z => (List.mem_cons.mp z).elim (fun e => .inr (e ▸ hx)) .inl, rfl⟩
  have rl2 := Rl.grow ok gs rl
  refine ⟨x, C, dx, vs, ds, m.B ++ m.W, rfl, hC, hCl, upd_same, ⟨rfl, fun n d a e _ => (by simp at e), List.nodup_nil, fun a z => (by cases z), fun a z => ?_, fun a z w => ?_⟩, Rl.noLoc (m := m.own x) (fun a h => ⟨fun z => h.1 (by rw [List.mem_singleton.mp z]; exact List.mem_cons_self), fun z => (List.mem_append.mp z).elim h.2 fun y => h.1 (List.mem_cons_of_mem _ y)⟩) hl rl2, hn, ?_⟩
  · rcases z with z | z
    · rw [List.mem_singleton.mp z, upd_same]; trivial
    · have := ok.trk a (List.mem_append.mp z).symm
      cases e : H a with
      | none => rw [e] at this; exact this.elim
      | some o => rw [kp a o e]; rw [e] at this; exact this
  · rw [List.mem_singleton.mp w] at z
    exact (List.mem_append.mp z).elim hfr.2 hfr.1
  · unfold pur at p
    cases q : F ds [] with
    | stuck => rw [q] at p; exact p
    | exc x g' => rw [q] at p; exact p.elim
    | ok d g' =>
      rw [q] at p
      simp only at p
      split at p
      · intro H' gr ok' hd ro
        refine ⟨rfl, own_new ok fz hx (fun b o h => gr.keep b o (kp b o h) fun z => ?_) (fun b h => upd2_none (gr.liv b h)) (ok'.trk x (.inl List.mem_cons_self)) hd (fun b h => ⟨fun z => (List.mem_cons.mp z).elim (fun e => h.1 (by rw [e]; exact List.mem_cons_self)) fun y => h.2 (List.mem_append_right _ y), fun z => h.2 (List.mem_append_left _ z)⟩) ro p⟩
        rw [List.mem_singleton.mp z] at h
        rw [hx] at h; cases h
      · exact p.elim
theorem f_make {x : Str} {c k n : Nat} {ps : List Str} {F : Fn} {e : Expr} {es : List Expr} {fs : En (List D)} {p pos : Pos} (hK : S.K = X.K) (d : DefI X.prog X.w X.K X.mg X.base S x c k ps F) (hr : Room (k + 1) X.A) (hg : Gl X x) (ha : Pas X S W (e :: es) fs)
    (hn : ps.length - 1 = n := by rfl) (hdb : (x == ("__debug__" : Str)) = false := by decide) (he : starEach (e :: es) X.env = (false, eval e X.env) :: starEach es X.env := by rfl) (hpl : (backTo pos (starEach es X.env)).any (·.1) = false := by rfl) :
    Pf X S W (.Call (.Name x p) (e :: es) [] pos) (eCallE n F fs) := by
  subst hn
  obtain ⟨C, f, fd, hm, hC, hCl, M, hb, G⟩ := d.ex
  refine PE.to (pe_make M G hr hg hm hb .nil pass0 ha hdb he hpl) fun σ H Q q => Tv.go (Ra := RL S) (k := fun ds _ g1 => if ds.length = ps.length - 1 ∧ noLocL ds = true then pur (F ds []) g1 else .stuck) q fun env m g H1 ds vs rel fz ra p => ?_
  intro x dx hx hdx hne
  rw [List.append_nil]
  split at p
  · rename_i hn
    exact make_spec hC (hK ▸ hCl) rel.mem fz ra hn.1 hn.2 p hx hdx
  · exact p.elim
end
end Ev
namespace Ev
open PySem PySem.Spec PyProof.Rows L2
section
variable {X : Cx} {S : Stat} {W : WX}
/-! ### o.f = e, an instance of the store -/
def insAt (g : Sto) : D → Option (Nat × Nat × List Str × List D)
  | .loc n => match g[n]? with
    | some (.ins c ns vs) => some (n, c, ns, vs)
    | _ => none
  | _ => none
theorem insAt_ok {H : Hp} {g : Sto} {m : Mv} (ok : MOk S H g m) {d : D} {v : V} {n c : Nat} {ns : List Str} {vs : List D} (h : insAt g d = some (n, c, ns, vs)) (r : Rr S m H d v) : ∃ a C dx fs, v = .ref a ∧ m.mu[n]? = some a ∧ H a = some (.ins C dx fs) ∧ S.kc[c]? = some C ∧ InsN S.K C ns fs ∧ Rl S m H vs (fs.map (·.2)) := by
  cases r with
  | @loc k a e =>
    simp only [insAt] at h
    split at h
    · rename_i c' ns' vs' e1
      cases h
      have ro := ok.sto _ _ _ e1 e
      cases ro with
      | ins e2 hc hN rl => exact ⟨a, _, _, _, rfl, e, e2, hc, hN, rl⟩
    · cases h
  | _ => simp [insAt] at h
def sPutF (c : Nat) (f : Str) : D → D → Sto → Res D := fun v o g => match insAt g o with
  | some (n, c', ns, vs) => if c' = c ∧ vs.length < 900 then .ok .non (g.set n (.ins c (putN f ns) (putVs f v ns vs))) else .stuck
  | none => .stuck
theorem s_fldS {c : Nat} {C : Addr} {o e : Expr} {f : Str} {fo fe : E1} {pos pos' : Pos} (hK : S.K = X.K) (hc : S.kc[c]? = some C) (hn : NoAttr S.K C f) (ho : Pe X S W o fo) (he : Pe X S W e fe)
    (hs : swapsWith e (some (.Attribute o f pos')) pos.line X.env = pure false := by rfl) : Ps X S W (.Assign [.Attribute o f pos'] e pos) (sDo (eB (sPutF c f) fe fo)) :=
  PS.to (ps_fld ho he hs) fun E σ H h => by
    have h1 : Tv S (RT S) W (eB (sPutF c f) fe fo) σ H (fun _ H1 => E.nx σ H1) := Tv.st (R := RT S) h fun env g0 g m0 m H1 a x r0 gr r1 ra p => p σ H1 m (.refl m H1) r1
    refine Tv.two (Ra := RT S) (Rb := RT S) rt_stays h1 fun env m g H1 v od x y rel fz ⟨_, rv⟩ ⟨_, ro⟩ p => ?_
    unfold sPutF at p
    split at p
    · rename_i n c' ns vs e1
      split at p
      · rename_i hcc
        obtain ⟨rfl, hlen⟩ := hcc
        obtain ⟨a, C', dx, fs, rfl, hmu, hH, hc', ⟨hn', hC, hA⟩, rl⟩ := insAt_ok rel.mem e1 ro
        rw [hc] at hc'
        cases hc'
        have ha : a ∈ m.mu := List.mem_of_getElem? hmu
        have q : GrowS m H1 m (upd H1 a (.ins C dx (putF f x fs))) := grow_put (rel.mem.muW a ha)
        have hl : fs.length < 1000 := by have := rl.length; simp at this; omega
        have rt : Root S m (upd H1 a (.ins C dx (putF f x fs))) a (.ins c' (putN f ns) (putVs f v ns vs)) := by
          refine .ins upd_same hc ⟨?_, hC, fun k hk => ?_⟩ ?_
          · rw [putN_ok, hn']
          · rcases putN_mem _ hk with rfl | hk
            · exact hn
            · exact hA k hk
          · rw [hn']
            exact putVs_ok (Rr.grow rel.mem q rv) (Rl.grow rel.mem q rl)
        obtain ⟨gr, ok⟩ := rel.mem.put (o := .ins C dx (putF f x fs)) hmu trivial rt
        exact ⟨a, C, dx, fs, rfl, hH, hK ▸ hC, hK ▸ hn, hl, p .non _ m gr ok .non⟩
      · exact p.elim
    · exact p.elim
/-! ### how a call is shown -/
structure Shows (S : Stat) (W : WX) (Rc : Hp → Mv → Hp → D → V → Prop) (F : List D → Sto → Res D) (sp : Sp) : Prop where
  sh : ∀ (σ : St) (H H0 : Hp) (g : Sto) (m : Mv) (ds : List D) (vs : List V) (Q : VK) (E : XK), MOk S H g m → (∀ z, H z = none → H0 z = none) → Rl S m H ds vs → Post S Rc W σ H0 (F ds g) m H Q → sp vs H Q E
/-- a pure call; one that is handed the store -/
def purF (n : Nat) (F : Fn) : List D → Sto → Res D := fun ds g => if ds.length = n ∧ noLocL ds = true then pur (F ds []) g else .stuck
def stoF (n : Nat) (F : Fn) : List D → Sto → Res D := fun ds g => if ds.length = n then (match F ds g with
  | .exc _ _ => .stuck
  | r => r) else .stuck
theorem shows_pur {n : Nat} {F : Fn} : Shows S W (RT S) (purF n F) (Spec S n F) := ⟨fun σ H H0 g m ds vs Q E ok fz rl p => by
  unfold purF at p
  split at p
  · rename_i h; exact pure_spec ok rl h.1 h.2 p
  · exact p.elim⟩
theorem shows_purO {n : Nat} {F : Fn} : Shows S W (RF S) (purF n F) (SpecO S n F) := ⟨fun σ H H0 g m ds vs Q E ok fz rl p => by
  unfold purF at p
  split at p
  · rename_i h; exact pure_specO ok fz rl h.1 h.2 p
  · exact p.elim⟩
theorem shows_sto {n : Nat} {F : Fn} : Shows S W (RT S) (stoF n F) (Spec S n F) := ⟨fun σ H H0 g m ds vs Q E ok fz rl p => by
  unfold stoF at p
  split at p
  · rename_i hn
    refine call_spec (W := W) (σ := σ) (H0 := H0) ok rl hn (fun x g' z => ?_) ?_
    · rw [z] at p; exact p
    · cases q : F ds g with
      | stuck => rw [q] at p; exact p
      | exc x g' => rw [q] at p; exact p.elim
      | ok d g' => rw [q] at p; exact p
  · exact p.elim⟩
theorem shows_stoO {n : Nat} {F : Fn} : Shows S W (RF S) (stoF n F) (SpecO S n F) := ⟨fun σ H H0 g m ds vs Q E ok fz rl p => by
  unfold stoF at p
  split at p
  · rename_i hn
    refine ⟨ds, g, m.callee, ok.callee, fun _ z => z, Rl.weak (m := m) (fun b h => callee_fr ok.muW h) (fun _ _ z => z) rl, hn, ?_⟩
    cases q : F ds g with
    | stuck => rw [q] at p; exact p
    | exc x g' => rw [q] at p; exact p.elim
    | ok d g' =>
      rw [q] at p
      intro a H' m' gr ok' hW hw hm ro
      obtain ⟨h1, h2, h3, h4⟩ := backO_ok ok gr ok' hW hw hm ro
      exact p (.ref a) H' (m.backO m' a) h1 h2 ⟨a, rfl, List.mem_cons_self, hm, fz a h3, h4⟩
  · exact p.elim⟩
theorem Post.bindE {α : Type} {γ : Type} {β δ : Type} {R : Hp → Mv → Hp → α → β → Prop} {R' : Hp → Mv → Hp → γ → δ → Prop} {σ : St} {H H0 : Hp} {env : Env} {g : Sto} {m : Mv} {f : En α} {k : α → Sto → Res γ} {Q : δ → Hp → Prop} (rel : Rel S H σ env g m)
    (p : Post S R' W σ H0 ((f env g).bind k) m H Q) {P : β → Hp → Prop} (h : ∀ g2 m2 H2 a b, Rel S H2 σ env g2 m2 → Grow m H m2 H2 → R H m2 H2 a b → Post S R' W σ H0 (k a g2) m2 H2 Q → P b H2) : Tv S R W f σ H P :=
  ⟨env, g, m, rel, (Post.bind (R := R) (H0 := H) p).q fun b H2 ⟨a, g2, m2, gr, ok, r, p2⟩ => h g2 m2 H2 a b (rel.grow gr ok) gr r p2⟩
/-! ### f(e, ..) -/
structure DefS (P : Program) (w : World) (K : PySem.W.Frag) (mg : Str → Option Value) (base : Heap) (x : Str) (k : Nat) (ps : List Str) (sp : Sp) : Prop where
  ex : ∃ f fd, mg x = some (.ref f) ∧ PySem.W.keepIn K (.ref f) = true ∧ Binds K fd ps [] ∧ FnOk P w K mg base CX0 k f fd ps sp
theorem Def.s {P : Program} {w : World} {K : PySem.W.Frag} {mg : Str → Option Value} {base : Heap} {x : Str} {k : Nat} {ps : List Str} {F : Fn} (d : Def P w K mg base S x k ps F) : DefS P w K mg base x k ps (Spec S ps.length F) := ⟨d.ex⟩
theorem DefO.s {P : Program} {w : World} {K : PySem.W.Frag} {mg : Str → Option Value} {base : Heap} {x : Str} {k : Nat} {ps : List Str} {F : Fn} (d : DefO P w K mg base S x k ps F) : DefS P w K mg base x k ps (SpecO S ps.length F) := ⟨d.ex⟩
def eFn (F : List D → Sto → Res D) (fs : En (List D)) : E1 := fun env g => (fs env g).bind F
theorem x_call {x : Str} {k : Nat} {ps : List Str} {sp : Sp} {F : List D → Sto → Res D} {Rc : Hp → Mv → Hp → D → V → Prop} {e : Expr} {es : List Expr} {fs : En (List D)} {p pos : Pos} (sh : Shows S W Rc F sp) (d : DefS X.prog X.w X.K X.mg X.base x k ps sp) (hr : Room k X.A) (hg : Gl X x) (ha : Pas X S W (e :: es) fs)
    (hdb : (x == ("__debug__" : Str)) = false := by decide) (he : starEach (e :: es) X.env = (false, eval e X.env) :: starEach es X.env := by rfl) (hpl : (backTo pos (starEach es X.env)).any (·.1) = false := by rfl) :
    PE X (.Call (.Name x p) (e :: es) [] pos) (Tv S Rc W (eFn F fs)) := by
  obtain ⟨f, fd, hm, hk, hb, G⟩ := d.ex
  refine PE.to (pe_call G hr hg hm hk hb .nil pass0 ha hdb he hpl) fun σ H Q q => Tv.go (Ra := RL S) (k := fun ds _ g1 => F ds g1) q fun env m g H1 ds vs rel fz ra p => ?_
  rw [List.append_nil]
  exact sh.sh σ H1 H g m ds vs Q _ rel.mem fz ra p
/-! ### methods -/
structure MetS (P : Program) (w : World) (K : PySem.W.Frag) (mg : Str → Option Value) (base : Heap) (S : Stat) (c : Nat) (mn : Str) (k : Nat) (ps : List Str) (sp : Sp) : Prop where
  ex : ∃ C f fd, S.kc[c]? = some C ∧ Cls K C ∧ Meth K C mn f ∧ Binds K fd ps [] ∧ FnOk P w K mg base CX0 k f fd ps sp
/-- an instance of the class c, without an attribute mn of its own -/
def isCls (c : Nat) (mn : Str) : D → Bool
  | .ins c' ns _ => decide (c' = c) && !ns.contains mn
  | _ => false
def eMet (c : Nat) (mn : Str) (F : List D → Sto → Res D) (fo : E1) (fs : En (List D)) : E1 := fun env g => (fo env g).bind fun d g1 => if isCls c mn (dr g1 d) = true then (fs env g1).bind fun ds g2 => F (d :: ds) g2 else .stuck
theorem lookup_none {f : Str} : ∀ {fs : List (Str × V)}, f ∉ fs.map (·.1) → fs.lookup f = none
  | [], _ => rfl
  | (n, v) :: fs, h => by
    simp only [List.map_cons, List.mem_cons, not_or] at h
    rw [List.lookup_cons, show (f == n) = false from by simpa using h.1]
    exact lookup_none h.2
theorem isCls_ok {H : Hp} {g : Sto} {m : Mv} {c : Nat} {C : Addr} {mn : Str} {d : D} {v : V} (ok : MOk S H g m) (hC : S.kc[c]? = some C) (h : isCls c mn (dr g d) = true) (r : Rr S m H d v) : ∃ a dx fs, v = .ref a ∧ H a = some (.ins C dx fs) ∧ fs.lookup mn = none := by
  have rv := Rv.dr (S := S) ok (.inl r)
  revert h rv
  generalize dr g d = d'
  intro h rv
  unfold isCls at h
  split at h
  · rename_i c' ns vs
    simp only [Bool.and_eq_true, decide_eq_true_eq, Bool.not_eq_true'] at h
    obtain ⟨rfl, hns⟩ := h
    obtain ⟨a, C', dx, fs, rfl, hH, hC', ⟨hn', _, _⟩, rl⟩ := rv.ins
    rw [hC] at hC'
    cases hC'
    subst hn'
    exact ⟨a, dx, fs, rfl, hH, lookup_none (fun z => by simp [List.contains_iff_mem] at hns; simp at z; obtain ⟨y, z⟩ := z; exact hns y z)⟩
  · cases h
theorem x_met {c k : Nat} {mn : Str} {ps : List Str} {sp : Sp} {F : List D → Sto → Res D} {Rc : Hp → Mv → Hp → D → V → Prop} {o e : Expr} {es : List Expr} {fo : E1} {fs : En (List D)} {apos pos : Pos} {pl : Sem Bool} (sh : Shows S W Rc F sp) (d : MetS X.prog X.w X.K X.mg X.base S c mn k ps sp) (hr : Room k X.A) (ho : Pe X S W o fo) (ha : Pas X S W (e :: es) fs)
    (hst : starEach (e :: es) X.env = (false, eval e X.env) :: starEach es X.env := by rfl) (hpl : (backTo pos (starEach es X.env)).any (·.1) = false := by rfl)
    (ht : eval (.Call (.Attribute o mn apos) (e :: es) [] pos) X.env = (do
      let ov ← eval o X.env
      standAt apos.atName
      let (f, first) ← holding [ov] (getMethod ov mn pl)
      callWith pos f first (backTo pos (starEach (e :: es) X.env)) (backToKw pos (keywordEach [] X.env))) := by rfl) :
    PE X (.Call (.Attribute o mn apos) (e :: es) [] pos) (Tv S Rc W (eMet c mn F fo fs)) := by
  obtain ⟨C, f, fd, hC, hCl, hM, hb, G⟩ := d.ex
  refine PE.to (pe_meth ho hCl hM G hr hb .nil pass0 ha hst hpl ht) fun σ H Q q => Tv.go (Ra := RT S) (k := fun d env g1 => if isCls c mn (dr g1 d) = true then (fs env g1).bind fun ds g2 => F (d :: ds) g2 else .stuck) q fun env m g H1 d x rel fz ra p => ?_
  split at p
  · rename_i hh
    obtain ⟨a, dx, fs', rfl, hH, hl⟩ := isCls_ok rel.mem hC hh ra
    refine ⟨a, dx, fs', rfl, hH, hl, Post.bindE (R := RL S) rel p fun g2 m2 H2 ds ws rel2 gr2 rds p2 => ?_⟩
    rw [List.append_nil]
    exact sh.sh σ H2 H g2 m2 (d :: ds) _ Q _ rel2.mem (fun z hz => fz z (gr2.liv z hz)) (.cons (ra.grow rel.mem (gr2.s rel.mem.muW)) rds) p2
  · exact p.elim
theorem x_met0 {c k : Nat} {mn : Str} {ps : List Str} {sp : Sp} {F : List D → Sto → Res D} {Rc : Hp → Mv → Hp → D → V → Prop} {o : Expr} {fo : E1} {apos pos : Pos} {pl : Sem Bool} (sh : Shows S W Rc F sp) (d : MetS X.prog X.w X.K X.mg X.base S c mn k ps sp) (hr : Room k X.A) (ho : Pe X S W o fo)
    (ht : eval (.Call (.Attribute o mn apos) [] [] pos) X.env = (do
      let ov ← eval o X.env
      standAt apos.atName
      let (f, first) ← holding [ov] (getMethod ov mn pl)
      callWith pos f first (backTo pos (starEach [] X.env)) (backToKw pos (keywordEach [] X.env))) := by rfl) :
    PE X (.Call (.Attribute o mn apos) [] [] pos) (Tv S Rc W (eMet c mn F fo eNil)) := by
  obtain ⟨C, f, fd, hC, hCl, hM, hb, G⟩ := d.ex
  refine PE.to (pe_meth0 ho hCl hM G hr hb .nil pass0 ht) fun σ H Q q => Tv.go (Ra := RT S) (k := fun d env g1 => if isCls c mn (dr g1 d) = true then (eNil env g1).bind fun ds g2 => F (d :: ds) g2 else .stuck) q fun env m g H1 d x rel fz ra p => ?_
  split at p
  · rename_i hh
    obtain ⟨a, dx, fs', rfl, hH, hl⟩ := isCls_ok rel.mem hC hh ra
    exact ⟨a, dx, fs', rfl, hH, hl, sh.sh σ H1 H g m [d] _ Q _ rel.mem fz (.cons ra .nil) p⟩
  · exact p.elim
/-! ### a property -/
structure ProS (P : Program) (w : World) (K : PySem.W.Frag) (mg : Str → Option Value) (base : Heap) (S : Stat) (c : Nat) (mn : Str) (k : Nat) (ps : List Str) (sp : Sp) : Prop where
  ex : ∃ C p f fd, S.kc[c]? = some C ∧ Cls K C ∧ PropOf K C mn p f ∧ Binds K fd ps [] ∧ FnOk P w K mg base CX0 k f fd ps sp
def ePro (c : Nat) (F : List D → Sto → Res D) (fo : E1) : E1 := fun env g => (fo env g).bind fun d g1 => if isCls c "" (dr g1 d) = true then F [d] g1 else .stuck
theorem x_pro {c k : Nat} {mn : Str} {ps : List Str} {sp : Sp} {F : List D → Sto → Res D} {Rc : Hp → Mv → Hp → D → V → Prop} {o : Expr} {fo : E1} {pos : Pos} (sh : Shows S W Rc F sp) (d : ProS X.prog X.w X.K X.mg X.base S c mn k ps sp) (hr : Room (k + 1) X.A) (ho : Pe X S W o fo)
    (hab : attributeBase o mn X.env (eval o X.env) = eval o X.env := by rfl) : PE X (.Attribute o mn pos) (Tv S Rc W (ePro c F fo)) := by
  obtain ⟨C, p, f, fd, hC, hCl, hM, hb, G⟩ := d.ex
  refine PE.to (pe_prop ho hCl hM G hr hb .nil pass0 hab) fun σ H Q q => Tv.go (Ra := RT S) (k := fun d env g1 => if isCls c "" (dr g1 d) = true then F [d] g1 else .stuck) q fun env m g H1 d x rel fz ra p => ?_
  split at p
  · rename_i hh
    obtain ⟨a, dx, fs', rfl, hH, hl⟩ := isCls_ok rel.mem hC hh ra
    exact ⟨a, dx, fs', rfl, hH, sh.sh σ H1 H g m [d] _ Q _ rel.mem fz (.cons ra .nil) p⟩
  · exact p.elim
end
end Ev
namespace Ev
open PySem PySem.Spec PyProof.Rows L2
section
variable {X : Cx} {S : Stat} {W : WX}
/-! ### own special methods: what is asked of the values -/
/-- the call of a def, somewhere below the running body -/
theorem run_sub {A : Around} {n : Nat} {f : Addr} {fd : FuncData} {ps : List Str} {sp : Sp} {pins : List (Addr × Obj)} {σ : St} {H : Hp} {s : Shared} {Q : VK} {E : XK} {vs : List V} {us : List Value}
    (sb : Sub X n A) (F : FnOk X.prog X.w X.K X.mg X.base CX0 n f fd ps sp) (hb : Binds X.K fd ps []) (I : Inv X pins σ H s) (r : Vals vs us) (h : sp vs H Q E) : wpAny (model X.prog X.w) A (call (.ref f) us) (EP X pins σ Q) X.xe s := by
  have e0 : Env0 X.prog X.w X.K X.mg X.base A X.stack s H := by
    have e := I.env0
    exact ⟨by rw [sb.fr]; exact e.frames, e.mod, e.bs, e.bsz, e.funs, e.frf, e.hok, e.bare⟩
  have hl := F.len _ _ _ _ h
  refine wpAny_call (codeAny_mono (F.run A X.stack s H ⟨us, []⟩ us vs _ E sb.room e0 (by
    have := hb s us I.kIn (by rw [List.append_nil, ← r.length]; exact hl)
    simpa using this) r h) fun r s' hq => ?_)
  cases r with
  | error e => exact hq.elim
  | ok fl =>
    cases fl with
    | ret w => exact I.after hq
    | next => exact False.elim hq
    | brk => exact False.elim hq
    | cont => exact False.elim hq
/-- the def of a special method of the class at C -/
structure SpcS (X : Cx) (C : Addr) (mn : Str) (k : Nat) (ps : List Str) (sp : Sp) : Prop where
  ex : ∃ f fd, PySem.W.findIn X.K (.ref C) mn = some (some (.ref f)) ∧ PySem.W.isFn X.K (.ref f) = true ∧ Binds X.K fd ps [] ∧ FnOk X.prog X.w X.K X.mg X.base CX0 k f fd ps sp
theorem inst_at {pins : List (Addr × Obj)} {σ : St} {H : Hp} {s : Shared} {a C dx : Addr} {fs : List (Str × V)} (I : Inv X pins σ H s) (h : H a = some (.ins C dx fs)) : ∃ ox od, PySem.W.InstAt s.heap a ox C od := by
  obtain ⟨mA, J, _⟩ := ins_get I.hok h
  obtain ⟨od, J, _⟩ := J.look
  exact ⟨_, _, J⟩
theorem room_sub {n : Nat} (hr : Room n X.A) : Sub X n X.A := ⟨hr, rfl⟩
/-- len(o) -/
theorem call_lenO {C : Addr} {k : Nat} {ps : List Str} {sp : Sp} (d : SpcS X C "__len__" k ps sp) (hr : Room (k + 1) X.A) :
    CallR X (.builtin "len") (fun xs H Q => ∃ a dx fs, xs = [.ref a] ∧ H a = some (.ins C dx fs) ∧ sp [.ref a] H (fun v H' => ∃ n : Int, v = .int n ∧ 0 ≤ n ∧ n < 2 ^ 63 ∧ Q (.int n) H') (fun _ _ _ => False)) := by
  intro pins s σ H xs us Q I rs ⟨a, dx, fs, e, hH, q⟩
  subst e
  cases rs with
  | cons r1 r2 =>
    cases r1
    cases r2
    obtain ⟨f, fd, hs, hf, hb, F⟩ := d.ex
    obtain ⟨ox, od, J⟩ := inst_at I hH
    obtain ⟨m, hF⟩ := I.fr
    refine PySem.W.len_K hF I.ok.mod.kin J hs hf (wpAny_mono (run_sub (vs := [.ref a]) (room_sub hr).in1 F hb I (.cons rfl .nil) q) (fun v s' hv => ?_) fun _ _ z => z)
    obtain ⟨v', H', I', rv, n, rfl, h0, h1, hq⟩ := hv
    obtain ⟨t, rfl⟩ := rv
    exact ⟨⟨h0, h1⟩, .int n, H', I'.tok _, ⟨_, rfl⟩, hq⟩
theorem cmpBack {pins : List (Addr × Obj)} {σ : St} {Q : VK} {v : Value} {s' : Shared} (h : EP X pins σ Q v s') : PySem.W.CmpBack (EP X pins σ Q) v s' := by
  obtain ⟨v', H', I', rv, hq⟩ := h
  cases v <;> first
    | exact ⟨v', H', I', rv, hq⟩
    | (cases v' <;> first | (obtain ⟨t, e⟩ := rv; cases e) | cases rv)
/-- o + p, of one class -/
theorem op_addO {C : Addr} {k : Nat} {ps : List Str} {sp : Sp} (d : SpcS X C "__add__" k ps sp) (hc : PySem.W.selfFirst X.K C = true) (hr : Room k X.A) :
    OpR X (binaryOp .Add) (fun x y H Q => ∃ a b dx dy fs gs, x = .ref a ∧ y = .ref b ∧ H a = some (.ins C dx fs) ∧ H b = some (.ins C dy gs) ∧ sp [.ref a, .ref b] H Q (fun _ _ _ => False)) := by
  intro pins s σ H x y u v Q I rx ry ⟨a, b, dx, dy, fs, gs, ex, ey, hH, hH', q⟩
  subst ex ey
  cases rx
  cases ry
  obtain ⟨f, fd, hs, hf, hb, F⟩ := d.ex
  obtain ⟨ox, od, J⟩ := inst_at I hH
  obtain ⟨ox', od', J'⟩ := inst_at I hH'
  obtain ⟨m, hF⟩ := I.fr
  refine PySem.W.binop_K hF I.ok.mod.kin J J'.type hc hs hf (wpAny_mono (run_sub (vs := [.ref a, .ref b]) (room_sub hr) F hb I (.cons rfl (.cons rfl .nil)) q) (fun v s' hv => ?_) fun _ _ z => z)
  exact cmpBack hv
/-- o == p, p of any sort -/
theorem rc_eqO {C : Addr} {k : Nat} {ps : List Str} {sp : Sp} (d : SpcS X C "__eq__" k ps sp) {A : Around} (sb : Sub X k A) {pins : List (Addr × Obj)} {s : Shared} {σ : St} {H : Hp} {a dx : Addr} {fs : List (Str × V)} {y : V} {v tb : Value} {Q : VK} (I : Inv X pins σ H s) (hH : H a = some (.ins C dx fs)) (ry : RelV y v)
    (hb : PySem.W.Looks (model X.prog X.w) s.heap (typeOf v) tb) (hn : PySem.W.notFirst X.K C tb = true) (q : sp [.ref a, y] H Q (fun _ _ _ => False)) : wpAny (model X.prog X.w) A (richCompare .Eq (.ref a) v) (EP X pins σ Q) X.xe s := by
  obtain ⟨f, fd, hs, hf, hb', F⟩ := d.ex
  obtain ⟨ox, od, J⟩ := inst_at I hH
  obtain ⟨m, hF⟩ := I.fr
  exact PySem.W.cmp_K (op := .Eq) sb.room.units0 hF I.ok.mod.kin J hb hn hs hf (wpAny_mono (run_sub (vs := [.ref a, y]) sb F hb' I (.cons rfl (.cons ry .nil)) q) (fun v s' hv => cmpBack hv) fun _ _ z => z)
/-- o != p: object.__ne__ asks the own __eq__ -/
theorem rc_neO {C : Addr} {k : Nat} {ps : List Str} {sp : Sp} (d : SpcS X C "__eq__" k ps sp) (hne : PySem.W.findIn X.K (.ref C) "__ne__" = some (some (.builtin "object.__ne__"))) (hm : PySem.W.mroIn X.K C (.type "object") = some true) {A : Around} (sb : Sub X (k + 1) A) {pins : List (Addr × Obj)} {s : Shared} {σ : St} {H : Hp} {a dx : Addr} {fs : List (Str × V)} {y : V} {v tb : Value} {Q : VK} (I : Inv X pins σ H s) (hH : H a = some (.ins C dx fs)) (ry : RelV y v)
    (hb : PySem.W.Looks (model X.prog X.w) s.heap (typeOf v) tb) (hn : PySem.W.notFirst X.K C tb = true) (q : sp [.ref a, y] H (fun r H' => ∃ b, r = .bl b ∧ Q (.bl (!b)) H') (fun _ _ _ => False)) : wpAny (model X.prog X.w) A (richCompare .NotEq (.ref a) v) (EP X pins σ Q) X.xe s := by
  obtain ⟨f, fd, hs, hf, hb', F⟩ := d.ex
  obtain ⟨ox, od, J⟩ := inst_at I hH
  have XK := I.kIn
  have one : wpAny (model X.prog X.w) A (tryCompare (.ref a) "__ne__" v) (fun r s' => ∃ w, r = some w ∧ EP X pins σ Q w s') X.xe s := by
    unfold tryCompare
    refine wpAny_bind ?_
    simp only [callSpecialIfBound?, bindSpecialIfBound?]
    refine wpAny_holding (wpAny_bind (wpAny_bind (wpAny_bind (J.type.here ((PySem.W.looks_findIn XK hne).here ?_)))))
    refine wpAny_bind (wpAny_askSetting (wpAny_ite ?_))
    have bd : ∀ self, bindSpecial (.builtin "object.__ne__") self = pure (.builtin "object.__ne__", [self]) := fun self => by
      first
        | exact PySem.F.slot_object_ne.bind self
        | rfl
    have call_ : wpAny (model X.prog X.w) A (call (.builtin "object.__ne__") [.ref a, v]) (EP X pins σ Q) X.xe s := by
      refine wpAny_call (codeAny_call_builtin (by decide +kernel) PySem.F.cmpEntry_ne (PySem.W.check_slot (i := "object.__ne__") (owner := "object") (n := "__ne__") (by decide +kernel) (by decide +kernel) (J.type.andThen (PySem.W.looks_mroIn XK hm)) (PySem.F.cmpArgs_ne _ _) ?_))
      unfold Builtin.«object.__ne__»
      refine wpAny_bind (m := PySem.slotArgs "__ne__" 1 _) (wpAny_pure ?_)
      refine wpAny_bind (m := cRoomFor _ _) (wpAny_cRoomFor sb.in1.room.units0 ?_)
      refine wpAny_bind (m := callSpecialIfBound? (.ref a) (Str.ofString "__eq__") _) (PySem.W.ifBound_K XK J hs hf (wpAny_mono (run_sub (vs := [.ref a, y]) sb.in1 F hb' I (.cons rfl (.cons ry .nil)) q) (fun r s' hq => ?_) fun _ _ y => y))
      obtain ⟨r', H', I', rr, b, rfl, hq⟩ := hq
      cases rr
      refine wpAny_bind (wpAny_truthy_bool ?_)
      exact wpAny_pure ⟨.bl (!b), H', I', rfl, hq⟩
    have fin : wpAny (model X.prog X.w) A (call (.builtin "object.__ne__") ([.ref a] ++ [v]) >>= fun v => pure (some v)) (fun r s' => wpAny (model X.prog X.w) A (match r with
      | some .notImplemented | none => pure none
      | some v => pure (some v)) (fun r s' => ∃ w, r = some w ∧ EP X pins σ Q w s') X.xe s') X.xe s := by
      refine wpAny_bind (wpAny_mono call_ (fun r s' hr => wpAny_pure ?_) fun _ _ z => z)
      have hc := cmpBack hr
      cases r <;> first | exact hc.elim | exact wpAny_pure ⟨_, rfl, hr⟩
    split
    · exact wpAny_bind ((PySem.W.Looks.of_pure (bd _)).here (wpAny_pure (by exact fin)))
    · exact wpAny_tryCatch (wpAny_bind ((PySem.W.Looks.of_pure (bd _)).here (wpAny_pure (by exact fin))))
  unfold richCompare
  simp only [PySem.oneThing_ref]
  refine wpAny_holding (wpAny_bind (wpAny_cRoomFor sb.room.units0 ?_))
  refine wpAny_bind (J.type.here (wpAny_bind (hb.here ?_)))
  split
  · rename_i qq
    have e : PySem.W.subIn X.K tb (.ref C) = some false := by
      rcases Bool.or_eq_true_iff.mp hn with e | e
      · rw [beq_iff_eq.mp e] at qq; simp at qq
      · exact beq_iff_eq.mp e
    refine wpAny_bind ((PySem.W.looks_subIn XK e).here ?_)
    simp only [Bool.false_eq_true, if_false]
    refine wpAny_bind (wpAny_mono one (fun r s' z => ?_) fun _ _ e => e)
    obtain ⟨v, rfl, hq⟩ := z
    exact wpAny_pure hq
  · refine wpAny_bind (wpAny_pure ?_)
    simp only [Bool.false_eq_true, if_false]
    refine wpAny_bind (wpAny_mono one (fun r s' z => ?_) fun _ _ e => e)
    obtain ⟨v, rfl, hq⟩ := z
    exact wpAny_pure hq
/-- x in o, x not in o -/
theorem op_inO {C : Addr} {k : Nat} {ps : List Str} {sp : Sp} (d : SpcS X C "__contains__" k ps sp) (hr : Room k X.A) :
    OpR X (compareOp .In) (fun x y H Q => ∃ b dy gs, y = .ref b ∧ H b = some (.ins C dy gs) ∧ sp [.ref b, x] H (fun r H' => ∃ t, r = .bl t ∧ Q (.bl t) H') (fun _ _ _ => False)) := by
  intro pins s σ H x y u v Q I rx ry ⟨b, dy, gs, ey, hH, q⟩
  subst ey
  cases ry
  obtain ⟨f, fd, hs, hf, hb, F⟩ := d.ex
  obtain ⟨ox, od, J⟩ := inst_at I hH
  obtain ⟨m, hF⟩ := I.fr
  refine PySem.W.in_K hF I.ok.mod.kin J hs hf (wpAny_mono (run_sub (vs := [.ref b, x]) (room_sub hr) F hb I (.cons rfl (.cons rx .nil)) q) (fun v s' hv => ?_) fun _ _ z => z)
  obtain ⟨v', H', I', rv, t, rfl, hq⟩ := hv
  cases rv
  exact wpAny_truthy_bool ⟨.bl t, H', I', rfl, hq⟩
theorem op_notInO {C : Addr} {k : Nat} {ps : List Str} {sp : Sp} (d : SpcS X C "__contains__" k ps sp) (hr : Room k X.A) :
    OpR X (compareOp .NotIn) (fun x y H Q => ∃ b dy gs, y = .ref b ∧ H b = some (.ins C dy gs) ∧ sp [.ref b, x] H (fun r H' => ∃ t, r = .bl t ∧ Q (.bl (!t)) H') (fun _ _ _ => False)) := by
  intro pins s σ H x y u v Q I rx ry ⟨b, dy, gs, ey, hH, q⟩
  subst ey
  cases ry
  obtain ⟨f, fd, hs, hf, hb, F⟩ := d.ex
  obtain ⟨ox, od, J⟩ := inst_at I hH
  obtain ⟨m, hF⟩ := I.fr
  refine PySem.W.notIn_K hF I.ok.mod.kin J hs hf (wpAny_mono (run_sub (vs := [.ref b, x]) (room_sub hr) F hb I (.cons rfl (.cons rx .nil)) q) (fun v s' hv => ?_) fun _ _ z => z)
  obtain ⟨v', H', I', rv, t, rfl, hq⟩ := hv
  cases rv
  exact wpAny_truthy_bool ⟨.bl (!t), H', I', rfl, hq⟩
/-- str(o) -/
theorem call_strO {C : Addr} {k : Nat} {ps : List Str} {sp : Sp} (d : SpcS X C "__str__" k ps sp) (hr : Room (k + 2) X.A) :
    CallR X (.type "str") (fun xs H Q => ∃ a dx fs, xs = [.ref a] ∧ H a = some (.ins C dx fs) ∧ sp [.ref a] H (fun v H' => ∃ z, v = .str z ∧ Q (.str z) H') (fun _ _ _ => False)) := by
  intro pins s σ H xs us Q I rs ⟨a, dx, fs, e, hH, q⟩
  subst e
  cases rs with
  | cons r1 r2 =>
    cases r1
    cases r2
    obtain ⟨f, fd, hs, hf, hb, F⟩ := d.ex
    obtain ⟨ox, od, J⟩ := inst_at I hH
    have sb : Sub X k X.A.in1.in1 := (room_sub hr).in1.in1
    refine callType_codes (T := "str") (Bi := Builtin.«object.__init__») (Q₁ := fun r s₁ => ∃ y u, r = .str y u ∧ EP X pins σ Q r s₁) PySem.F.called_str (PySem.F.typeCall_str_1 _) PySem.F.entry_object_init ?_ ?_
    · refine codeAny_of_tree ?_
      show wpAny _ X.A.in1.in1 (do checkBuiltinCall "str.__new__" ⟨[.type "str", .ref a], []⟩; again (.builtin "str.__new__" ⟨[.type "str", .ref a], []⟩)) _ _ s
      refine wpAny_bind (wpAny_of_eq (PySem.F.newCall_str_1 _) (wpAny_pure ⟨plainId_quiet (by decide +kernel) _, codeAny_builtin PySem.F.entry_str_new ?_⟩))
      rw [Around.under_plainId (by decide +kernel) _]
      rw [str_new_tree]
      refine wpAny_bind (wpAny_pure ?_)
      refine wpAny_bind (wpAny_of_eq isSubtype_str_str ?_)
      have key : wpAny (model X.prog X.w) X.A.in1.in1 (PySem.Builtin.Str.strOf (.ref a)) (fun r s₁ => ∃ y u, r = .str y u ∧ EP X pins σ Q r s₁) X.xe s := by
        unfold PySem.Builtin.Str.strOf
        rw [show PySem.Builtin.Str.isExactStr (.ref a) = false from rfl]
        refine wpAny_bind (m := cRoomFor _ _) (wpAny_cRoomFor sb.room.units0 ?_)
        refine wpAny_bind (m := callSpecial? (.ref a) (Str.ofString "__str__")) (PySem.W.special_fn I.kIn J hs (beq_iff_eq.mp hf) (wpAny_mono (run_sub (vs := [.ref a]) sb F hb I (.cons rfl .nil) q) (fun r s' z => ?_) fun _ _ y => y))
        obtain ⟨v', H', I', rv, z, rfl, hq⟩ := z
        obtain ⟨t, rfl⟩ := rv
        exact wpAny_pure ⟨_, _, rfl, .str z, H', I', ⟨_, rfl⟩, hq⟩
      exact wpAny_bind (wpAny_mono key (fun r s₁ hr => wpAny_pure hr) fun _ _ y => y)
    · rintro obj s₁ ⟨y, u, rfl, hq⟩
      exact ⟨typeIs_str _ _ _, PySem.F.args_object_init_2 _ _, object_init_meets PySem.F.called_str.init.lookup PySem.F.called_str.made (by decide) X.prog X.w X.A.in1 _ s₁ ⟨typeIs_str _ _ _, rfl, hq⟩⟩
end
end Ev
namespace Ev
open PySem PySem.Spec PyProof.Rows L2
section
variable {X : Cx} {S : Stat} {W : WX}
theorem Shows.go {γ δ : Type} {F : List D → Sto → Res D} {sp : Sp} {σ : St} {H H0 : Hp} {g : Sto} {m : Mv} {ds : List D} {vs : List V} {R' : Hp → Mv → Hp → γ → δ → Prop} {Q : δ → Hp → Prop} {Q' : VK} {E : XK} {k : D → Sto → Res γ} (sh : Shows S W (RT S) F sp) (ok : MOk S H g m) (rl : Rl S m H ds vs)
    (p : Post S R' W σ H0 ((F ds g).bind k) m H Q) (h : ∀ a b g1 m1 H1, Grow m H m1 H1 → MOk S H1 g1 m1 → Rr S m1 H1 a b → Post S R' W σ H0 (k a g1) m1 H1 Q → Q' b H1) : sp vs H Q' E :=
  sh.sh σ H H g m ds vs Q' E ok (fun _ z => z) rl ((Post.bind (R := RT S) (H0 := H) p).q fun b H2 ⟨a, g2, m2, gr, ok2, r, p2⟩ => h a b g2 m2 H2 gr ok2 r p2)
/-- a special method of the class of number c -/
structure SpcD (X : Cx) (S : Stat) (c : Nat) (mn : Str) (k : Nat) (ps : List Str) (sp : Sp) : Prop where
  ex : ∃ C, S.kc[c]? = some C ∧ SpcS X C mn k ps sp
/-- len(o) -/
def sLenO (c : Nat) (F : List D → Sto → Res D) : D → Sto → Res D := fun d g => if isCls c "" (dr g d) = true then (F [d] g).bind fun r g1 => match r with
  | .int n => if 0 ≤ n ∧ n < 2 ^ 63 then .ok (.int n) g1 else .stuck
  | _ => .stuck else .stuck
theorem e_lenO {c k : Nat} {ps : List Str} {sp : Sp} {F : List D → Sto → Res D} {e : Expr} {f : E1} {p pos : Pos} (sh : Shows S W (RT S) F sp) (d : SpcD X S c "__len__" k ps sp) (hr : Room (k + 1) X.A) (hg : Gl X "len") (hm : X.mg "len" = none) (he : Pe X S W e f)
    (hst : starEach [e] X.env = (false, eval e X.env) :: starEach [] X.env := by rfl) : Pe X S W (.Call (.Name "len" p) [e] [] pos) (eU (sLenO c F) f) := by
  obtain ⟨C, hC, sd⟩ := d.ex
  refine PE.to (pe_callB (call_lenO sd hr) hg hm PySem.boot_len (pa_cons he pa_nil hst) (he := hst)) fun σ H Q q => Tv.one (Ra := RT S) q fun env m g H1 d x rel fz ⟨_, ra⟩ p => ?_
  unfold sLenO at p
  split at p
  · rename_i hh
    obtain ⟨a, dx, fs', rfl, hH, hl⟩ := isCls_ok rel.mem hC hh ra
    refine ⟨a, dx, fs', rfl, hH, sh.go rel.mem (.cons ra .nil) p fun r b g1 m1 H2 gr ok rr p2 => ?_⟩
    split at p2
    · rename_i n
      split at p2
      · rename_i hn
        cases rr
        exact ⟨n, rfl, hn.1, hn.2, p2.now ok (.int n)⟩
      · exact p2.elim
    · exact p2.elim
  · exact p.elim
/-- str(o) -/
def sStrO (c : Nat) (F : List D → Sto → Res D) : D → Sto → Res D := fun d g => if isCls c "" (dr g d) = true then (F [d] g).bind fun r g1 => match r with
  | .str z => .ok (.str z) g1
  | _ => .stuck else .stuck
theorem e_strO {c k : Nat} {ps : List Str} {sp : Sp} {F : List D → Sto → Res D} {e : Expr} {f : E1} {p pos : Pos} (sh : Shows S W (RT S) F sp) (d : SpcD X S c "__str__" k ps sp) (hr : Room (k + 2) X.A) (hg : Gl X "str") (hm : X.mg "str" = none) (he : Pe X S W e f)
    (hst : starEach [e] X.env = (false, eval e X.env) :: starEach [] X.env := by rfl) : Pe X S W (.Call (.Name "str" p) [e] [] pos) (eU (sStrO c F) f) := by
  obtain ⟨C, hC, sd⟩ := d.ex
  refine PE.to (pe_callTy (call_strO sd hr) hg hm (by decide +kernel) (pa_cons he pa_nil hst) (he := hst)) fun σ H Q q => Tv.one (Ra := RT S) q fun env m g H1 d x rel fz ⟨_, ra⟩ p => ?_
  unfold sStrO at p
  split at p
  · rename_i hh
    obtain ⟨a, dx, fs', rfl, hH, hl⟩ := isCls_ok rel.mem hC hh ra
    refine ⟨a, dx, fs', rfl, hH, sh.go rel.mem (.cons ra .nil) p fun r b g1 m1 H2 gr ok rr p2 => ?_⟩
    split at p2
    · rename_i z
      cases rr
      exact ⟨z, rfl, p2.now ok (.str z)⟩
    · exact p2.elim
  · exact p.elim
/-- o + p -/
def sTwoO (c : Nat) (F : List D → Sto → Res D) : D → D → Sto → Res D := fun a b g => if isCls c "" (dr g a) = true ∧ isCls c "" (dr g b) = true then F [a, b] g else .stuck
theorem x_addO {c k : Nat} {ps : List Str} {sp : Sp} {F : List D → Sto → Res D} {Rc : Hp → Mv → Hp → D → V → Prop} {a b : Expr} {fa fb : E1} {pos : Pos} (sh : Shows S W Rc F sp) (d : SpcD X S c "__add__" k ps sp) (hc : ∀ C, S.kc[c]? = some C → PySem.W.selfFirst X.K C = true) (hr : Room k X.A)
    (ha : Pe X S W a fa) (hb : Pe X S W b fb) : PE X (.BinOp a .Add b pos) (Tv S Rc W (eB (sTwoO c F) fa fb)) := by
  obtain ⟨C, hC, sd⟩ := d.ex
  refine PE.to (pe_op (op_addO sd (hc C hC) hr) ha hb) fun σ H Q q => Tv.two (Ra := RT S) (Rb := RT S) rt_stays q fun env m g H1 da db x y rel fz ⟨_, ra⟩ ⟨_, rb⟩ p => ?_
  unfold sTwoO at p
  split at p
  · rename_i hh
    obtain ⟨a, dx, fs, rfl, hH, _⟩ := isCls_ok rel.mem hC hh.1 ra
    obtain ⟨b, dy, gs, rfl, hH', _⟩ := isCls_ok rel.mem hC hh.2 rb
    exact ⟨a, b, dx, dy, fs, gs, rfl, rfl, hH, hH', sh.sh σ H1 H g m [da, db] _ Q _ rel.mem fz (.cons ra (.cons rb .nil)) p⟩
  · exact p.elim
/-- o == p, o != p, of one class -/
def sEqO (c : Nat) (F : List D → Sto → Res D) (neg : Bool) : D → D → Sto → Res D := fun a b g => if isCls c "" (dr g a) = true ∧ isCls c "" (dr g b) = true then (F [a, b] g).bind fun r g1 => match r with
  | .bl t => .ok (.bl (neg != t)) g1
  | _ => .stuck else .stuck
theorem op_eqO {C : Addr} {k : Nat} {ps : List Str} {sp : Sp} (d : SpcS X C "__eq__" k ps sp) (hr : Room k X.A) :
    OpR X (compareOp .Eq) (fun x y H Q => ∃ a b dx dy fs gs, x = .ref a ∧ y = .ref b ∧ H a = some (.ins C dx fs) ∧ H b = some (.ins C dy gs) ∧ sp [.ref a, .ref b] H Q (fun _ _ _ => False)) := by
  intro pins s σ H x y u v Q I rx ry ⟨a, b, dx, dy, fs, gs, ex, ey, hH, hH', q⟩
  subst ex ey
  cases rx
  cases ry
  obtain ⟨ox', od', J'⟩ := inst_at I hH'
  exact rc_eqO (y := .ref b) d (room_sub hr) I hH rfl J'.type (by simp [PySem.W.notFirst]) q
theorem op_neO {C : Addr} {k : Nat} {ps : List Str} {sp : Sp} (d : SpcS X C "__eq__" k ps sp) (hne : PySem.W.findIn X.K (.ref C) "__ne__" = some (some (.builtin "object.__ne__"))) (hm : PySem.W.mroIn X.K C (.type "object") = some true) (hr : Room (k + 1) X.A) :
    OpR X (compareOp .NotEq) (fun x y H Q => ∃ a b dx dy fs gs, x = .ref a ∧ y = .ref b ∧ H a = some (.ins C dx fs) ∧ H b = some (.ins C dy gs) ∧ sp [.ref a, .ref b] H (fun r H' => ∃ b, r = .bl b ∧ Q (.bl (!b)) H') (fun _ _ _ => False)) := by
  intro pins s σ H x y u v Q I rx ry ⟨a, b, dx, dy, fs, gs, ex, ey, hH, hH', q⟩
  subst ex ey
  cases rx
  cases ry
  obtain ⟨ox', od', J'⟩ := inst_at I hH'
  exact rc_neO (y := .ref b) d hne hm (room_sub hr) I hH rfl J'.type (by simp [PySem.W.notFirst]) q
theorem e_eqO {c k : Nat} {ps : List Str} {sp : Sp} {F : List D → Sto → Res D} {a b : Expr} {fa fb : E1} {pos : Pos} (sh : Shows S W (RT S) F sp) (d : SpcD X S c "__eq__" k ps sp) (hr : Room k X.A)
    (ha : Pe X S W a fa) (hb : Pe X S W b fb) : Pe X S W (.Compare a [.Eq] [b] pos) (eB (sEqO c F false) fa fb) := by
  obtain ⟨C, hC, sd⟩ := d.ex
  refine PE.to (pe_cmpR (op_eqO sd hr) ha hb (nomark _)) fun σ H Q q => Tv.two (Ra := RT S) (Rb := RT S) rt_stays q fun env m g H1 da db x y rel fz ⟨_, ra⟩ ⟨_, rb⟩ p => ?_
  unfold sEqO at p
  split at p
  · rename_i hh
    obtain ⟨a, dx, fs, rfl, hH, _⟩ := isCls_ok rel.mem hC hh.1 ra
    obtain ⟨b, dy, gs, rfl, hH', _⟩ := isCls_ok rel.mem hC hh.2 rb
    refine ⟨a, b, dx, dy, fs, gs, rfl, rfl, hH, hH', sh.go rel.mem (.cons ra (.cons rb .nil)) p fun r b g1 m1 H2 gr ok rr p2 => ?_⟩
    split at p2
    · rename_i t
      cases rr
      exact p2.now ok (by simp; exact .bl t)
    · exact p2.elim
  · exact p.elim
theorem e_neO {c k : Nat} {ps : List Str} {sp : Sp} {F : List D → Sto → Res D} {a b : Expr} {fa fb : E1} {pos : Pos} (sh : Shows S W (RT S) F sp) (d : SpcD X S c "__eq__" k ps sp) (hn : ∀ C, S.kc[c]? = some C → PySem.W.findIn X.K (.ref C) "__ne__" = some (some (.builtin "object.__ne__")) ∧ PySem.W.mroIn X.K C (.type "object") = some true) (hr : Room (k + 1) X.A)
    (ha : Pe X S W a fa) (hb : Pe X S W b fb) : Pe X S W (.Compare a [.NotEq] [b] pos) (eB (sEqO c F true) fa fb) := by
  obtain ⟨C, hC, sd⟩ := d.ex
  refine PE.to (pe_cmpR (op_neO sd (hn C hC).1 (hn C hC).2 hr) ha hb (nomark _)) fun σ H Q q => Tv.two (Ra := RT S) (Rb := RT S) rt_stays q fun env m g H1 da db x y rel fz ⟨_, ra⟩ ⟨_, rb⟩ p => ?_
  unfold sEqO at p
  split at p
  · rename_i hh
    obtain ⟨a, dx, fs, rfl, hH, _⟩ := isCls_ok rel.mem hC hh.1 ra
    obtain ⟨b, dy, gs, rfl, hH', _⟩ := isCls_ok rel.mem hC hh.2 rb
    refine ⟨a, b, dx, dy, fs, gs, rfl, rfl, hH, hH', sh.go rel.mem (.cons ra (.cons rb .nil)) p fun r b g1 m1 H2 gr ok rr p2 => ?_⟩
    split at p2
    · rename_i t
      cases rr
      exact ⟨t, rfl, p2.now ok (by simp; exact .bl _)⟩
    · exact p2.elim
  · exact p.elim
/-- x in o, x not in o -/
def sInO (c : Nat) (F : List D → Sto → Res D) (neg : Bool) : D → D → Sto → Res D := fun x o g => if isCls c "" (dr g o) = true then (F [o, x] g).bind fun r g1 => match r with
  | .bl t => .ok (.bl (neg != t)) g1
  | _ => .stuck else .stuck
theorem e_inO {c k : Nat} {ps : List Str} {sp : Sp} {F : List D → Sto → Res D} {a b : Expr} {fa fb : E1} {pos : Pos} (sh : Shows S W (RT S) F sp) (d : SpcD X S c "__contains__" k ps sp) (hr : Room k X.A)
    (ha : Pe X S W a fa) (hb : Pe X S W b fb) (hm : behindInMarks .In b = false := by rfl) : Pe X S W (.Compare a [.In] [b] pos) (eB (sInO c F false) fa fb) := by
  obtain ⟨C, hC, sd⟩ := d.ex
  refine PE.to (pe_cmpR (op_inO sd hr) ha hb hm) fun σ H Q q => Tv.two (Ra := RT S) (Rb := RT S) rt_stays q fun env m g H1 da db x y rel fz ⟨_, ra⟩ ⟨_, rb⟩ p => ?_
  unfold sInO at p
  split at p
  · rename_i hh
    obtain ⟨b, dy, gs, rfl, hH', _⟩ := isCls_ok rel.mem hC hh rb
    refine ⟨b, dy, gs, rfl, hH', sh.go rel.mem (.cons rb (.cons ra .nil)) p fun r b g1 m1 H2 gr ok rr p2 => ?_⟩
    split at p2
    · rename_i t
      cases rr
      exact ⟨t, rfl, p2.now ok (by simp; exact .bl t)⟩
    · exact p2.elim
  · exact p.elim
theorem e_notInO {c k : Nat} {ps : List Str} {sp : Sp} {F : List D → Sto → Res D} {a b : Expr} {fa fb : E1} {pos : Pos} (sh : Shows S W (RT S) F sp) (d : SpcD X S c "__contains__" k ps sp) (hr : Room k X.A)
    (ha : Pe X S W a fa) (hb : Pe X S W b fb) (hm : behindInMarks .NotIn b = false := by rfl) : Pe X S W (.Compare a [.NotIn] [b] pos) (eB (sInO c F true) fa fb) := by
  obtain ⟨C, hC, sd⟩ := d.ex
  refine PE.to (pe_cmpR (op_notInO sd hr) ha hb hm) fun σ H Q q => Tv.two (Ra := RT S) (Rb := RT S) rt_stays q fun env m g H1 da db x y rel fz ⟨_, ra⟩ ⟨_, rb⟩ p => ?_
  unfold sInO at p
  split at p
  · rename_i hh
    obtain ⟨b, dy, gs, rfl, hH', _⟩ := isCls_ok rel.mem hC hh rb
    refine ⟨b, dy, gs, rfl, hH', sh.go rel.mem (.cons rb (.cons ra .nil)) p fun r b g1 m1 H2 gr ok rr p2 => ?_⟩
    split at p2
    · rename_i t
      cases rr
      exact ⟨t, rfl, p2.now ok (by simp; exact .bl _)⟩
    · exact p2.elim
  · exact p.elim
end
end Ev
namespace Ev
open PySem PySem.Spec PyProof.Rows L2
section
variable {X : Cx} {S : Stat} {W : WX}
/-! ### isinstance -/
def kinds7 : List String := ["NoneType", "bool", "int", "str", "list", "tuple", "dict"]
inductive Tag where
  | ty (k : String) | own (c : Nat)
def tagD : D → Option Tag
  | .non => some (.ty "NoneType")
  | .bl _ => some (.ty "bool")
  | .int _ => some (.ty "int")
  | .str _ => some (.ty "str")
  | .lst _ => some (.ty "list")
  | .frz _ => some (.ty "list")
  | .tup _ => some (.ty "tuple")
  | .dic _ _ _ => some (.ty "dict")
  | .ins c _ _ => some (.own c)
  | _ => none
def subT : Tag → Tag → Bool
  | .ty a, .ty b => tySub a b
  | .own c, .own c' => decide (c = c')
  | _, _ => false
structure ClsIs (K : PySem.W.Frag) (C : Addr) : Prop where
  cl : Cls K C
  ha : PySem.W.findIn K (.ref C) "__class__" = some (some (.builtin "object.__class__"))
  hn : PySem.W.specialIn K (.builtin "object.__class__") "__get__" = some (some (.builtin "getset_descriptor.__get__"))
  htk : PySem.W.takesIn K (.builtin "object.__class__") = some true
  hm : PySem.W.mroIn K C (.type "object") = some true
/-- what the written part tells of the own classes -/
structure StatOk (S : Stat) : Prop where
  cls : ∀ (c : Nat) (C : Addr), S.kc[c]? = some C → ClsIs S.K C
  k1 : ∀ (c : Nat) (C : Addr) (T : String), S.kc[c]? = some C → T ∈ isTypes → PySem.W.kitOne S.K (.ref C) (.type T) = some false
  k2 : ∀ (c : Nat) (C : Addr) (T : String), S.kc[c]? = some C → T ∈ kinds7 → PySem.W.kitOne S.K (.type T) (.ref C) = some false
  k3 : ∀ (c c' : Nat) (C C' : Addr), S.kc[c]? = some C → S.kc[c']? = some C' → PySem.W.kitOne S.K (.ref C) (.ref C') = some (decide (c = c'))
theorem kit_all7 (K : PySem.W.Frag) : (kinds7.all fun a => isTypes.all fun b => PySem.W.kitOne K (.type a) (.type b) == some (tySub a b)) = true := by rfl
theorem kit_one7 (K : PySem.W.Frag) {a b : String} (ha : a ∈ kinds7) (hb : b ∈ isTypes) : PySem.W.kitOne K (.type a) (.type b) = some (tySub a b) := by
  have h := List.all_eq_true.mp (List.all_eq_true.mp (kit_all7 K) a ha) b hb
  simpa using h
/-- a tag's class -/
def tyV (S : Stat) : Tag → Value → Prop
  | .ty k, t => t = .type k
  | .own c, t => ∃ C, S.kc[c]? = some C ∧ t = .ref C
theorem tag_ty {m : Mv} {H : Hp} {d : D} {v : V} {k : Tag} (so : StatOk S) (h : tagD d = some k) (r : Rv S m H d v) : ∃ t, tyV S k t ∧ TyX S.K H v t ∧ (∀ s, k = .ty s → s ∈ kinds7) := by
  cases d with
  | dic t ks ds =>
    cases h
    refine ⟨_, rfl, ?_, fun s e => by cases e; decide⟩
    rcases r with r | ⟨a, rfl, r⟩
    · cases r with
      | @dic a _ o _ vs _ hr hf hd rl =>
        rcases hr with hr | ⟨u, kvs, rfl, hr⟩
        · rcases hd with ⟨_, kvs, rfl, _⟩ | ⟨_, kvs, rfl, _⟩
          · exact .base (.dK hr)
          · exact .base (.dT hr)
        · exact .fDict hr
    · cases r with
      | dic hr hd rl =>
        rcases hd with ⟨_, kvs, rfl, _⟩ | ⟨_, kvs, rfl, _⟩
        · exact .base (.dK hr)
        · exact .base (.dT hr)
  | ins c ns ds =>
    cases h
    obtain ⟨a, C, dx, fs, rfl, hH, hC, hN, rl⟩ := r.ins
    have ci := so.cls c C hC
    exact ⟨.ref C, ⟨C, hC, rfl⟩, .base (.ins hH ci.cl ci.ha ci.hn ci.htk ci.hm), fun s e => by cases e⟩
  | loc n => cases h
  | cls n => cases h
  | ctup xs => cases h
  | _ =>
    cases h
    obtain ⟨h1, h2⟩ := kind_ty (S := S) rfl r
    exact ⟨_, rfl, h1, fun s e => by cases e; simp [kinds7]⟩
theorem kit_sub {k k' : Tag} {t t' : Value} (so : StatOk S) (h : tyV S k t) (h' : tyV S k' t') (hk : ∀ s, k = .ty s → s ∈ kinds7) (hk' : ∀ s, k' = .ty s → s ∈ isTypes) : PySem.W.kitOne S.K t t' = some (subT k k') := by
  cases k with
  | ty a =>
    cases h
    cases k' with
    | ty b => cases h'; exact kit_one7 _ (hk a rfl) (hk' b rfl)
    | own c => obtain ⟨C, hC, rfl⟩ := h'; exact so.k2 c C a hC (hk a rfl)
  | own c =>
    obtain ⟨C, hC, rfl⟩ := h
    cases k' with
    | ty b => cases h'; exact so.k1 c C b hC (hk' b rfl)
    | own c' => obtain ⟨C', hC', rfl⟩ := h'; exact so.k3 c c' C C' hC hC'
def sIsiX (ks : List Tag) : D → Sto → Res D := fun d g => match tagD d with
  | some k => .ok (.bl (ks.any (subT k))) g
  | none => .stuck
theorem e_isiB {T : String} {x : Str} {e : Expr} {f : E1} {p p2 pos : Pos} (so : StatOk S) (hK : S.K = X.K) (hT : T ∈ isTypes) (hg : Gl X "isinstance") (hm : X.mg "isinstance" = none) (hg2 : Gl X x) (hm2 : X.mg x = none) (hv : bootBuiltins x = some (.type T)) (he : Pb X S W e f)
    (hn : x ≠ "__name__" := by decide) (hdb : (x == ("__debug__" : Str)) = false := by decide) (hst : starEach [e, .Name x p2] X.env = (false, eval e X.env) :: starEach [.Name x p2] X.env := by rfl) :
    Pe X S W (.Call (.Name "isinstance" p) [e, .Name x p2] [] pos) (eU (dr1 (sIsiX [.ty T])) f) :=
  PE.to (pe_callB call_isi hg hm (by decide +kernel) (pa_cons he (pa_cons (pe_bltn (v := .ty T) hg2 hm2 hv rfl hn hdb) pa_nil) hst) (by decide) (by decide) hst) fun σ H Q q => Tv.one (Ra := RB S) q fun env m g H1 d x rel fz ⟨_, ra⟩ p => by
    have ra : Rb S m H1 d x := ra
    simp only [dr1, sIsiX] at p
    cases e : tagD (dr g d) with
    | none => rw [e] at p; exact p.elim
    | some k =>
      rw [e] at p
      obtain ⟨t, tv, ty, hk⟩ := tag_ty so e (ra.v.dr rel.mem)
      refine ⟨x, .ty T, t, .type T, _, rfl, .ty T, hK ▸ ty, hK ▸ kit_sub so tv (k' := .ty T) rfl hk (fun s z => by cases z; exact hT), p.now rel.mem ?_⟩
      simp
      exact .bl _
theorem e_isiC {c : Nat} {x : Str} {C : Addr} {e : Expr} {f : E1} {p p2 pos : Pos} (so : StatOk S) (hK : S.K = X.K) (hC : S.kc[c]? = some C) (hg : Gl X "isinstance") (hm : X.mg "isinstance" = none) (hg2 : Gl X x) (hm2 : X.mg x = some (.ref C)) (he : Pb X S W e f)
    (hdb : (x == ("__debug__" : Str)) = false := by decide) (hst : starEach [e, .Name x p2] X.env = (false, eval e X.env) :: starEach [.Name x p2] X.env := by rfl) :
    Pe X S W (.Call (.Name "isinstance" p) [e, .Name x p2] [] pos) (eU (dr1 (sIsiX [.own c])) f) :=
  PE.to (pe_callB call_isi hg hm (by decide +kernel) (pa_cons he (pa_cons (pe_glob (v := .ref C) hg2 hm2 rfl hdb) pa_nil) hst) (by decide) (by decide) hst) fun σ H Q q => Tv.one (Ra := RB S) q fun env m g H1 d x rel fz ⟨_, ra⟩ p => by
    have ra : Rb S m H1 d x := ra
    simp only [dr1, sIsiX] at p
    cases e : tagD (dr g d) with
    | none => rw [e] at p; exact p.elim
    | some k =>
      rw [e] at p
      obtain ⟨t, tv, ty, hk⟩ := tag_ty so e (ra.v.dr rel.mem)
      refine ⟨x, .ref C, t, .ref C, _, rfl, .own C, hK ▸ ty, hK ▸ kit_sub so tv (k' := .own c) ⟨C, hC, rfl⟩ hk (fun s z => by cases z), p.now rel.mem ?_⟩
      simp
      exact .bl _
/-- isinstance(e, (T, T2)) -/
theorem e_isiT2 {T T2 : String} {x x2 : Str} {e : Expr} {f : E1} {k1 : Nat} {p p2 p3 p4 pos : Pos} (so : StatOk S) (hK : S.K = X.K) (hT : T ∈ isTypes) (hT2 : T2 ∈ isTypes) (hg : Gl X "isinstance") (hm : X.mg "isinstance" = none) (hg1 : Gl X x) (hm1 : X.mg x = none) (hv1 : bootBuiltins x = some (.type T)) (hg2 : Gl X x2) (hm2 : X.mg x2 = none) (hv2 : bootBuiltins x2 = some (.type T2)) (he : Pb X S W e f)
    (hn : x ≠ "__name__" := by decide) (hdb : (x == ("__debug__" : Str)) = false := by decide) (hn2 : x2 ≠ "__name__" := by decide) (hdb2 : (x2 == ("__debug__" : Str)) = false := by decide)
    (hst : starEach [e, .Tuple [.Name x p2, .Name x2 p3] k1 p4] X.env = (false, eval e X.env) :: starEach [.Tuple [.Name x p2, .Name x2 p3] k1 p4] X.env := by rfl) :
    Pe X S W (.Call (.Name "isinstance" p) [e, .Tuple [.Name x p2, .Name x2 p3] k1 p4] [] pos) (eU (dr1 (sIsiX [.ty T, .ty T2])) f) :=
  PE.to (pe_callB call_isiT hg hm (by decide +kernel) (pa_cons he (pa_cons (pe_tup (pa_cons (pe_bltn (v := .ty T) hg1 hm1 hv1 rfl hn hdb) (pa_cons (pe_bltn (v := .ty T2) hg2 hm2 hv2 rfl hn2 hdb2) pa_nil))) pa_nil) hst) (by decide) (by decide) hst) fun σ H Q q => Tv.one (Ra := RB S) q fun env m g H1 d x rel fz ⟨_, ra⟩ p => by
    have ra : Rb S m H1 d x := ra
    simp only [dr1, sIsiX] at p
    cases e : tagD (dr g d) with
    | none => rw [e] at p; exact p.elim
    | some k =>
      rw [e] at p
      obtain ⟨t, tv, ty, hk⟩ := tag_ty so e (ra.v.dr rel.mem)
      refine ⟨by show 2 ≤ sizeLine; decide, fun tp htp => ?_⟩
      have e1 := kit_sub so tv (k' := .ty T) rfl hk (fun s z => by cases z; exact hT)
      have e2 := kit_sub so tv (k' := .ty T2) rfl hk (fun s z => by cases z; exact hT2)
      have gr : Grow m H1 m (upd H1 tp (.tup [.ty T, .ty T2])) := grow_new htp
      have ok := MOk.new (o := .tup [.ty T, .ty T2]) rel.mem htp
      have ra2 := (ra.grow rel.mem gr ok).v.dr ok
      obtain ⟨t', tv', ty', hk'⟩ := tag_ty so e ra2
      have e1 := kit_sub so tv' (k' := .ty T) rfl hk' (fun s z => by cases z; exact hT)
      have e2 := kit_sub so tv' (k' := .ty T2) rfl hk' (fun s z => by cases z; exact hT2)
      refine ⟨x, tp, [.ty T, .ty T2], t', [.type T, .type T2], subT k (.ty T) || subT k (.ty T2), rfl, upd_same, .cons (.ty T) (.cons (.ty T2) .nil), hK ▸ ty', ?_, p _ _ m gr ok ?_⟩
      · rw [← hK]
        unfold PySem.W.kitAny
        rw [e1]
        cases h1 : subT k (.ty T)
        · simp only [PySem.W.kitAny, e2]
          cases h2 : subT k (.ty T2) <;> rfl
        · rfl
      · simp
        exact .bl _
/-! ### C.m(e, ..), a classmethod; cls(e, ..) -/
structure CmtS (P : Program) (w : World) (K : PySem.W.Frag) (mg : Str → Option Value) (base : Heap) (S : Stat) (x : Str) (c : Nat) (mn : Str) (k : Nat) (ps : List Str) (sp : Sp) : Prop where
  ex : ∃ C mc p f fd, mg x = some (.ref C) ∧ S.kc[c]? = some C ∧ ClX.CRead K C mc ∧ ClX.CMet K C mc mn p f ∧ Binds K fd ps [] ∧ FnOk P w K mg base CX0 k f fd ps sp
theorem x_cmet {x : Str} {c k : Nat} {mn : Str} {ps : List Str} {sp : Sp} {F : List D → Sto → Res D} {Rc : Hp → Mv → Hp → D → V → Prop} {e : Expr} {es : List Expr} {fs : En (List D)} {p apos pos : Pos} {pl : Sem Bool} (sh : Shows S W Rc F sp) (d : CmtS X.prog X.w X.K X.mg X.base S x c mn k ps sp) (hr : Room k X.A) (hg : Gl X x) (ha : Pas X S W (e :: es) fs)
    (hdb : (x == ("__debug__" : Str)) = false := by decide) (hst : starEach (e :: es) X.env = (false, eval e X.env) :: starEach es X.env := by rfl) (hpl : (backTo pos (starEach es X.env)).any (·.1) = false := by rfl)
    (ht : eval (.Call (.Attribute (.Name x p) mn apos) (e :: es) [] pos) X.env = (do
      let ov ← eval (.Name x p) X.env
      standAt apos.atName
      let (f, first) ← holding [ov] (getMethod ov mn pl)
      callWith pos f first (backTo pos (starEach (e :: es) X.env)) (backToKw pos (keywordEach [] X.env))) := by rfl) :
    PE X (.Call (.Attribute (.Name x p) mn apos) (e :: es) [] pos) (Tv S Rc W (eFn (fun ds g => F (.cls c :: ds) g) fs)) := by
  obtain ⟨C, mc, q, f, fd, hm, hC, r, cm, hb, G⟩ := d.ex
  refine PE.to (ClX.pe_cmeth (pe_glob (v := .ref C) hg hm rfl hdb) r cm (G.raw hb .nil) hr pass0 ha hst hpl ht) fun σ H Q q => ⟨rfl, Tv.go (Ra := RL S) (k := fun ds _ g1 => F (.cls c :: ds) g1) q fun env m g H1 ds vs rel fz ra p => ?_⟩
  show sp (.ref C :: (vs ++ [])) H1 Q _
  rw [List.append_nil]
  exact sh.sh σ H1 H g m (.cls c :: ds) _ Q _ rel.mem fz (.cons (.cls hC) ra) p
theorem pe_makeL {i : Nat} {x : Str} {C f : Addr} {fd : FuncData} {k : Nat} {ps : List Str} {sp : Sp} {E : XK} {e : Expr} {es : List Expr} {t : TA} {p pos : Pos} (M : Mk X.K C f) (F : FnOk X.prog X.w X.K X.mg X.base CX0 k f fd ps sp) (hr : Room (k + 1) X.A) (hN : X.N[i]? = some x) (hv : Vis X.env.scope x) (hb : Binds X.K fd ps []) (ha : PA X (e :: es) t)
    (hdb : (x == ("__debug__" : Str)) = false := by decide) (hcd : (x == ("__classdict__" : Str)) = false := by decide)
    (he : starEach (e :: es) X.env = (false, eval e X.env) :: starEach es X.env := by rfl) (hpl : (backTo pos (starEach es X.env)).any (·.1) = false := by rfl) : PE X (.Call (.Name x p) (e :: es) [] pos) (fun σ H Q => σ[i]? = some (some (.ref C)) ∧ tMake C sp [] E t σ H Q) := by
  refine ⟨fun pins s σ H Q I h => ?_⟩
  obtain ⟨hs, ht⟩ := h
  refine wpAny_Call_Name_kw (thn ((pe_var (pos := p) hN hv hdb hcd).run pins s σ H (fun v H1 => v = .ref C ∧ H1 = H) I ⟨.ref C, hs, rfl, rfl⟩) fun u s1 ⟨v, H1, I1, r1, q1⟩ => ?_)
  obtain ⟨rfl, rfl⟩ := q1
  cases r1
  refine PySem.W.callWith_K (h₀ := X.base) I.ok.mod.kin M.kp (thn (ha.run pos pins s1 σ _ _ I1 ht) fun us s2 ⟨vs, H2, I2, r, q⟩ => ⟨I2.kIn, ?_⟩) he hpl
  exact run_make M F hr hb .nil (fun _ _ _ _ _ _ _ z => z.elim) I2 r q
def eMakeL (i c n : Nat) (F : Fn) (fs : En (List D)) : E1 := fun env g => match env[i]? with
  | some (.sh (.cls c')) => if c' = c then eFn (purF n F) fs env g else .stuck
  | _ => .stuck
theorem f_makeL {i c k n : Nat} {x y : Str} {ps : List Str} {F : Fn} {e : Expr} {es : List Expr} {fs : En (List D)} {p pos : Pos} (hK : S.K = X.K) (d : DefI X.prog X.w X.K X.mg X.base S x c k ps F) (hr : Room (k + 1) X.A) (hN : X.N[i]? = some y) (hv : Vis X.env.scope y) (ha : Pas X S W (e :: es) fs)
    (hn : ps.length - 1 = n := by rfl) (hdb : (y == ("__debug__" : Str)) = false := by decide) (hcd : (y == ("__classdict__" : Str)) = false := by decide) (he : starEach (e :: es) X.env = (false, eval e X.env) :: starEach es X.env := by rfl) (hpl : (backTo pos (starEach es X.env)).any (·.1) = false := by rfl) :
    Pf X S W (.Call (.Name y p) (e :: es) [] pos) (eMakeL i c n F fs) := by
  subst hn
  obtain ⟨C, f, fd, hm, hC, hCl, M, hb, G⟩ := d.ex
  refine PE.to (pe_makeL (i := i) (E := fun _ _ _ => False) M G hr hN hv hb ha hdb hcd he hpl) fun σ H Q ⟨env, g, m, rel, p⟩ => ?_
  unfold eMakeL at p
  split at p
  · rename_i c' e1
    split at p
    · rename_i hc
      subst hc
      obtain ⟨ov, e2, v, rfl, rv⟩ := rel.at e1
      cases rv with
      | @cls _ C' hC' =>
        rw [hC] at hC'
        cases hC'
        refine ⟨e2, ?_⟩
        refine Tv.go (Ra := RL S) (k := fun ds _ g1 => purF (ps.length - 1) F ds g1) ⟨env, g, m, rel, p⟩ fun env m g H1 ds vs rel fz ra p => ?_
        intro x dx hx hdx hne
        rw [List.append_nil]
        unfold purF at p
        split at p
        · rename_i hn
          exact make_spec hC (hK ▸ hCl) rel.mem fz ra hn.1 hn.2 p hx hdx
        · exact p.elim
    · exact p.elim
  · exact p.elim
/-- C(e, ..) -/
theorem x_make {x : Str} {c k n : Nat} {ps : List Str} {F : Fn} {e : Expr} {es : List Expr} {fs : En (List D)} {p pos : Pos} (hK : S.K = X.K) (d : DefI X.prog X.w X.K X.mg X.base S x c k ps F) (hr : Room (k + 1) X.A) (hg : Gl X x) (ha : Pas X S W (e :: es) fs)
    (hn : ps.length - 1 = n := by rfl) (hdb : (x == ("__debug__" : Str)) = false := by decide) (he : starEach (e :: es) X.env = (false, eval e X.env) :: starEach es X.env := by rfl) (hpl : (backTo pos (starEach es X.env)).any (·.1) = false := by rfl) :
    Pf X S W (.Call (.Name x p) (e :: es) [] pos) (eFn (purF n F) fs) := f_make hK d hr hg ha hn hdb he hpl
/-! ### a chain of two comparisons -/
def sChain (s1 s2 : D → D → Sto → Res D) (fa fb fc : E1) : E1 := fun env g => (fa env g).bind fun a g1 => (fb env g1).bind fun b g2 => (s1 a b g2).bind fun r g3 => match r with
  | .bl true => (fc env g3).bind fun c g4 => s2 b c g4
  | .bl false => .ok (.bl false) g3
  | _ => .stuck
end
end Ev
namespace Ev
open PySem PySem.Spec PyProof.Rows L2
/-! ### enumerate and zip, over lists and tuples -/
inductive Kd where
  | l | t
def SqX (K : PySem.W.Frag) (H : Hp) : Kd → Addr → List V → Prop
  | .l, a, xs => SqL K H a xs
  | .t, a, xs => SqT K H a xs
def IterX (h : Heap) : Kd → Addr → Addr → Nat → Prop
  | .l, it, a, i => h.IsListIter it a i
  | .t, it, a, i => h.IsTupleIter it a i
def HasX (h : Heap) : Kd → Addr → Array Value → Prop
  | .l, a, its => h.IsList a its
  | .t, a, its => h.IsTuple a its
def itO : Kd → Addr → Obj
  | .l, a => { cls := .type "list_iterator", data := .fields #[.ref a, .int 0 0] }
  | .t, a => { cls := .type "tuple_iterator", data := .fields #[.ref a, .int 0 0] }
theorem begins_x (k : Kd) (a : Addr) (items : Array Value) : Begins (.ref a) (itO k a) (fun h => HasX h k a items) := by
  cases k
  · exact begins_list a items
  · exact begins_tuple a items
theorem draws_x {prog : Program} {w : World} {A : Around} (k : Kd) (hh : A.handled = none) (it a : Addr) (hne : a ≠ it) (items : Array Value) : Draws prog w A it [it, a] items.size (fun i v => items[i]? = some v) (fun i h => IterX h k it a i ∧ HasX h k a items) := by
  cases k
  · exact Draws.list hh it a hne items
  · exact Draws.tuple hh it a hne items
theorem iterX_new {h : Heap} {k : Kd} {it a : Addr} (e : h.get? it = some (itO k a)) : IterX h k it a 0 := by
  cases k
  · exact ⟨_, e, rfl, rfl⟩
  · exact ⟨_, e, rfl, rfl⟩
theorem iterX_obj {h : Heap} {k : Kd} {it a : Addr} {i : Nat} (e : IterX h k it a i) : ∃ o, h.get? it = some o ∧ ∀ v, o.data ≠ .cell v := by
  cases k
  · obtain ⟨o, ho, hc, hd⟩ := e; exact ⟨o, ho, fun v q => by rw [hd] at q; cases q⟩
  · obtain ⟨o, ho, hc, hd⟩ := e; exact ⟨o, ho, fun v q => by rw [hd] at q; cases q⟩
theorem iterX_at {h h' : Heap} {k : Kd} {it a : Addr} {i : Nat} (e : IterX h k it a i) (f : ∀ o, h.get? it = some o → h'.get? it = some o) : IterX h' k it a i := by
  cases k
  · exact Heap.IsListIter.at e f
  · exact Heap.IsTupleIter.at e f
theorem iterX_ne {h : Heap} {k k' : Kd} {it a : Addr} {i : Nat} {b : Addr} {its : Array Value} (e : IterX h k it b i) (f : HasX h k' a its) : a ≠ it := fun z => by
  subst z
  cases k <;> cases k' <;> (obtain ⟨o, ho, hc, hd⟩ := e; obtain ⟨o', ho', hc', _⟩ := f; rw [ho] at ho'; cases ho'; rw [hc] at hc'; simp at hc')
section
variable {X : Cx} {pins : List (Addr × Obj)} {σ : L2.St} {H : Hp} {s : Shared}
theorem inv_x {k : Kd} {a : Addr} {xs : List V} (I : Inv X pins σ H s) (hq : SqX X.K H k a xs) : ∃ its : List Value, Vals xs its ∧ HasX s.heap k a its.toArray := by
  cases k
  · obtain ⟨its, rv, p, hz⟩ := I.list hq
    exact ⟨its, rv, p.isList⟩
  · obtain ⟨its, rv, e, z⟩ := I.tuple hq
    exact ⟨its, rv, e⟩
theorem inj_x {k : Kd} {a : Addr} {xs ys : List V} (I : Inv X pins σ H s) (hq : SqX X.K H k a xs) (hy : SqX X.K H k a ys) : ys = xs := by
  cases k
  · exact I.list_inj hy hq
  · exact I.tuple_inj hy hq
/-- a turn that hands out a new pair -/
theorem pair_item {e : Addr} {fp wr : List Addr} {n i : Nat} {Pt : Nat → Array Value → Prop} {St : Nat → Heap → Prop} {Mid : Nat → Addr → Heap → Prop} {elts : List Expr} {kk : Nat} {tpos : Pos} {E : Value → Shared → Prop} {R : V → V → Prop}
    (Wk : WalksT X.prog X.w X.A e fp wr n Pt St Mid) (hi : i < n) (st : St i s.heap) (I : Inv X pins σ H s) (hf : ∀ b ∈ wr, FpOk X pins H b) (lv : ∀ b ∈ wr, b < s.heap.objs.size)
    (hv : ∀ vals, Pt i vals → ∃ (x y : V) (u v : Value), vals = #[u, v] ∧ RelV x u ∧ RelV y v ∧ R x y) :
    wpAny (model X.prog X.w) X.A (pyNext (.ref e)) (fun r s1 => ∃ u, r = some u ∧
      wpAny (model X.prog X.w) X.A (letOwnedTupleGo (.Tuple elts kk tpos) (.ref e) u) (fun _ s2 => ∃ T x y, u = .ref T ∧ Inv X pins σ (upd H T (.tup [x, y])) s2 ∧ H T = none ∧ R x y ∧ St (i + 1) s2.heap ∧ (∀ b ∈ wr, upd H T (.tup [x, y]) b = none) ∧ s.heap.objs.size ≤ T) E s1) E s := by
  refine Wk.item i s _ E hi st fun T vals h' tk hPt hT isT mid keep => ⟨_, rfl, Wk.go elts kk tpos i T { s with heap := h', toks := tk } _ E mid fun h'' st'' keep'' => ?_⟩
  obtain ⟨x, y, u, v, rfl, ru, rv, r⟩ := hv vals hPt
  have hap := Wk.apart i T h' mid
  have isT2 : h''.IsTuple T #[u, v] := by
    obtain ⟨o, ho, q⟩ := isT
    exact ⟨o, keep'' T o hap ho, q⟩
  have new : ObjOk X.prog X.w (upd H T (.tup [x, y])) h'' T (.tup [x, y]) := ⟨by show 2 ≤ sizeLine; decide, [u, v], .cons ru (.cons rv .nil), isT2⟩
  have I1 : Inv X pins σ (upd H T (.tup [x, y])) { s with heap := h'', toks := tk } := I.turnedNew (ch := wr) (fun b ob hb q => keep'' b ob hb (keep b ob hb q)) hf hT new
  refine ⟨T, x, y, rfl, I1, I.hok.fresh hT, r, st'', fun b hb => ?_, hT⟩
  rw [upd_ne (Nat.ne_of_lt (Nat.lt_of_lt_of_le (lv b hb) hT))]
  exact (hf b hb).1
end
/-- enumerate -/
def IteX (K : PySem.W.Frag) (k : Kd) (a : Addr) : It :=
  ⟨fun i H => ∃ (xs : List V) (x : V), SqX K H k a xs ∧ xs[i]? = some x, fun i H v H' => ∃ T x, v = .ref T ∧ H T = none ∧ H' = upd H T (.tup [.int (i : Nat), x]) ∧ ∀ xs, SqX K H k a xs → xs[i]? = some x, fun i H => ∃ xs : List V, SqX K H k a xs ∧ xs.length = i⟩
theorem turn_enumX {P : Program} {w : World} {K : PySem.W.Frag} {elts : List Expr} {kk : Nat} {tpos : Pos} (k : Kd) (a e it : Addr) :
    Turn P w K (.Tuple elts kk tpos) (IteX K k a) [e, it] e (fun i h => (∃ old, IsEnum h e it ((i : Nat) : Int) old) ∧ IterX h k it a i ∧ e ≠ it) where
  mem := by simp
  obj := fun i h st b hb => by
    obtain ⟨⟨old, he⟩, hit, _⟩ := st
    have e' : b = e ∨ b = it := by simpa using hb
    rcases e' with z | z
    · rw [z]; exact ⟨_, he, fun v q => nomatch q⟩
    · rw [z]; exact iterX_obj hit
  keep := fun i h h' st k => let ⟨⟨old, he⟩, hi, hne⟩ := st; ⟨⟨old, k e (by simp) _ he⟩, iterX_at hi fun o q => k it (by simp) o q, hne⟩
  item := by
    intro X hP hw hK hc i pins s σ H E I hf st hg
    subst hP hw hK
    obtain ⟨⟨old, he⟩, hit, hne⟩ := st
    obtain ⟨xs, x, hq, hx⟩ := hg
    obtain ⟨its, rv, p⟩ := inv_x I hq
    obtain ⟨u, hu, ru⟩ := rv.get hx
    have hne2 := iterX_ne hit p
    have hea : e ≠ a := fun z => by
      subst z
      cases k <;> (obtain ⟨o', ho', hc', _⟩ := p; rw [he] at ho'; cases ho'; simp at hc')
    have D := draws_x (prog := X.prog) (w := X.w) (A := X.A.in1) k (show X.A.in1.handled = none from I.ok.hd hc) it a hne2 its.toArray
    have Wk := WalksT.enumerateD D e hne (by simp [hne, hea]) (by simp)
    have hlt : i < its.toArray.size := by simp; exact (List.getElem?_eq_some_iff.mp hu).1
    obtain ⟨oi, hoi, _⟩ := iterX_obj hit
    refine wpAny_mono (pair_item (R := fun y z => y = .int i ∧ z = x) Wk hlt ⟨⟨old, he⟩, hit, p⟩ I hf (fun b hb => ?_) (fun vals hv => ?_)) (fun r s1 ⟨v, hr, hw⟩ => ⟨v, hr, wpAny_mono hw (fun _ s2 ⟨T, y, z, hT, I2, hn, ⟨hy, hz⟩, st2, hb, _⟩ => ?_) fun _ _ q => q⟩) fun _ _ q => q
    · have e' : b = e ∨ b = it := by simpa using hb
      rcases e' with z | z
      · rw [z]; exact Heap.lt_size he
      · rw [z]; exact Heap.lt_size hoi
    · obtain ⟨t, v, hv, rfl⟩ := hv
      have : v = u := by simp at hv; rw [hu] at hv; exact (Option.some.inj hv).symm
      subst this
      exact ⟨.int i, x, _, _, rfl, ⟨_, rfl⟩, ru, rfl, rfl⟩
    · subst hy hz hT
      exact ⟨.ref T, _, I2, rfl, ⟨T, _, rfl, hn, rfl, fun ys hy => by rw [inj_x I hq hy]; exact hx⟩, ⟨st2.1, st2.2.1, hne⟩, hb⟩
  done := by
    intro X hP hw hK hc i pins s σ H E I hf st hg
    subst hP hw hK
    obtain ⟨⟨old, he⟩, hit, hne⟩ := st
    obtain ⟨xs, hq, hx⟩ := hg
    obtain ⟨its, rv, p⟩ := inv_x I hq
    have hne2 := iterX_ne hit p
    have hl := rv.length
    have D := draws_x (prog := X.prog) (w := X.w) (A := X.A.in1) k (show X.A.in1.handled = none from I.ok.hd hc) it a hne2 its.toArray
    obtain ⟨f0, f1, f2, f3, f4, f5⟩ := hf it (by simp)
    have hn : its.toArray.size = i := by simp; omega
    exact wpAny_pyNext_enum_endD D he ⟨hn ▸ hit, p⟩ fun h' eb => ⟨rfl, I.turned (t' := s.toks) (fun b o hb q => eb b o hb q) f0 f1 f3 f4 f5⟩
  self := fun A i s Q E st h => let ⟨⟨_, he⟩, _⟩ := st; wpAny_pyIter_enum he h
/-- zip -/
def ItzX (K : PySem.W.Frag) (k1 k2 : Kd) (a b : Addr) : It :=
  ⟨fun i H => ∃ (xs ys : List V) (x y : V), SqX K H k1 a xs ∧ SqX K H k2 b ys ∧ xs[i]? = some x ∧ ys[i]? = some y,
    fun i H v H' => ∃ T x y, v = .ref T ∧ H T = none ∧ H' = upd H T (.tup [x, y]) ∧ (∀ xs, SqX K H k1 a xs → xs[i]? = some x) ∧ ∀ ys, SqX K H k2 b ys → ys[i]? = some y,
    fun i H => ∃ xs ys : List V, SqX K H k1 a xs ∧ SqX K H k2 b ys ∧ min xs.length ys.length = i⟩
theorem turn_zipX {P : Program} {w : World} {K : PySem.W.Frag} {elts : List Expr} {kk : Nat} {tpos : Pos} (k1 k2 : Kd) {a b z TI TO i1 i2 : Addr} (sp : ZipSep2 z TI TO i1 i2 [i1, a] [i2, b]) :
    Turn P w K (.Tuple elts kk tpos) (ItzX K k1 k2 a b) [z, TO, i1, i2, TI] z (fun i h => IsZip h z TI TO .none ∧ IsTupOf2 h TI (.ref i1) (.ref i2) ∧ (∃ a1 a2, IsTupOf2 h TO a1 a2) ∧ IterX h k1 i1 a i ∧ IterX h k2 i2 b i) where
  mem := by simp
  obj := fun i h st c hc => by
    obtain ⟨hz, hT, ⟨a1, a2, hO⟩, h1, h2⟩ := st
    have e' : c = z ∨ c = TO ∨ c = i1 ∨ c = i2 ∨ c = TI := by simpa using hc
    rcases e' with q | q | q | q | q
    · rw [q]; exact ⟨_, hz, fun v q => nomatch q⟩
    · rw [q]; exact ⟨_, hO, fun v q => nomatch q⟩
    · rw [q]; exact iterX_obj h1
    · rw [q]; exact iterX_obj h2
    · rw [q]; exact ⟨_, hT, fun v q => nomatch q⟩
  keep := fun i h h' st k => let ⟨hz, hT, ⟨a1, a2, hO⟩, h1, h2⟩ := st; ⟨k z (by simp) _ hz, k TI (by simp) _ hT, ⟨a1, a2, k TO (by simp) _ hO⟩, iterX_at h1 fun o q => k i1 (by simp) o q, iterX_at h2 fun o q => k i2 (by simp) o q⟩
  item := by
    intro X hP hw hK hc i pins s σ H E I hf st hg
    subst hP hw hK
    obtain ⟨hz, hT, ⟨a1, a2, hO⟩, h1, h2⟩ := st
    obtain ⟨xs, ys, x, y, hq, hq', hx, hy⟩ := hg
    obtain ⟨its, rv, p⟩ := inv_x I hq
    obtain ⟨its', rv', p'⟩ := inv_x I hq'
    obtain ⟨u, hu, ru⟩ := rv.get hx
    obtain ⟨v, hv, rv2⟩ := rv'.get hy
    have hh : X.A.in1.handled = none := I.ok.hd hc
    have D1 := draws_x (prog := X.prog) (w := X.w) (A := X.A.in1) k1 hh i1 a (iterX_ne h1 p) its.toArray
    have D2 := draws_x (prog := X.prog) (w := X.w) (A := X.A.in1) k2 hh i2 b (iterX_ne h2 p') its'.toArray
    have Wk := WalksT.zipD2 sp D1 D2
    have l1 : i < its.length := (List.getElem?_eq_some_iff.mp hu).1
    have l2 : i < its'.length := (List.getElem?_eq_some_iff.mp hv).1
    have hlt : i < min its.toArray.size its'.toArray.size := by simp; omega
    obtain ⟨o1, ho1, _⟩ := iterX_obj h1
    obtain ⟨o2, ho2, _⟩ := iterX_obj h2
    refine wpAny_mono (pair_item (R := fun r t => r = x ∧ t = y) Wk hlt ⟨hz, hT, ⟨a1, a2, hO⟩, ⟨h1, p⟩, ⟨h2, p'⟩⟩ I (fun c hc => hf c (by
      have e' : c = z ∨ c = TO ∨ c = i1 ∨ c = i2 := by simpa using hc
      rcases e' with q | q | q | q <;> simp [q])) (fun c hc => ?_) (fun vals hv => ?_)) (fun r s1 ⟨w, hr, hw⟩ => ⟨w, hr, wpAny_mono hw (fun _ s2 ⟨T, y, z, hT, I2, hn, ⟨hy', hz'⟩, st2, hb, hTn⟩ => ?_) fun _ _ q => q⟩) fun _ _ q => q
    · have e' : c = z ∨ c = TO ∨ c = i1 ∨ c = i2 := by simpa using hc
      rcases e' with q | q | q | q
      · rw [q]; exact Heap.lt_size hz
      · rw [q]; exact Heap.lt_size hO
      · rw [q]; exact Heap.lt_size ho1
      · rw [q]; exact Heap.lt_size ho2
    · obtain ⟨w1, w2, e1, e2, rfl⟩ := hv
      have q1 : w1 = u := by simp at e1; rw [hu] at e1; exact (Option.some.inj e1).symm
      have q2 : w2 = v := by simp at e2; rw [‹its'[i]? = some v›] at e2; exact (Option.some.inj e2).symm
      subst q1 q2
      exact ⟨x, y, _, _, rfl, ru, rv2, rfl, rfl⟩
    · subst hy' hz' hT
      refine ⟨.ref T, _, I2, rfl, ⟨T, _, _, rfl, hn, rfl, fun ws hw => by rw [inj_x I hq hw]; exact hx, fun ws hw => by rw [inj_x I hq' hw]; exact hy⟩, ⟨st2.1, st2.2.1, st2.2.2.1, st2.2.2.2.1.1, st2.2.2.2.2.1⟩, fun c hc => ?_⟩
      by_cases hTI : c = TI
      · subst hTI
        have hne : c ≠ T := fun q => by
          have lt : c < s.heap.objs.size := Heap.lt_size ‹IsTupOf2 s.heap c (.ref i1) (.ref i2)›
          rw [q] at lt
          exact absurd hTn (Nat.not_le.mpr lt)
        rw [upd_ne hne]
        exact (hf c (by simp)).1
      · refine hb c ?_
        simp at hc ⊢
        rcases hc with q | q | q | q | q <;> first | (exact absurd q hTI) | simp [q]
  done := by
    intro X hP hw hK hc i pins s σ H E I hf st hg
    subst hP hw hK
    obtain ⟨hz, hT, ⟨a1, a2, hO⟩, h1, h2⟩ := st
    obtain ⟨xs, ys, hq, hq', hl⟩ := hg
    obtain ⟨its, rv, p⟩ := inv_x I hq
    obtain ⟨its', rv', p'⟩ := inv_x I hq'
    have l1 := rv.length
    have l2 := rv'.length
    have hh : X.A.in1.handled = none := I.ok.hd hc
    have D1 := draws_x (prog := X.prog) (w := X.w) (A := X.A.in1) k1 hh i1 a (iterX_ne h1 p) its.toArray
    have D2 := draws_x (prog := X.prog) (w := X.w) (A := X.A.in1) k2 hh i2 b (iterX_ne h2 p') its'.toArray
    refine wpAny_pyNext_zipD2_end sp D1 D2 hz hT hO ⟨h1, p⟩ ⟨h2, p'⟩ (by simp; omega) (by simp; omega) (by simp; omega) fun h' tk hk => ⟨rfl, I.turnedL (t' := tk) (ch := [z, TO, i1, i2, TI]) (fun c o hb q => ?_) hf⟩
    simp at hb
    exact hk c o hb.1 hb.2.1 hb.2.2.1 hb.2.2.2.1 q
  self := fun A i s Q E st h => wpAny_pyIter_zip st.1 h
/-! ### their making -/
theorem meets_enum1 {v : Value} {o : Obj} {H : Heap → Prop} (B : Begins v o H) :
    Meets (Builtin.«enumerate.__new__» ⟨[.type "enumerate", v], []⟩) (fun _ R s => H s.heap ∧
      R (.ok (.ret (.ref (s.heap.push o).objs.size))) { s with heap := (s.heap.push o).push { cls := .type "enumerate", data := .fields #[.none, .bool false, .ref s.heap.objs.size, rawInt 0, .none, .none] } }) :=
  .of_wp fun prog w A R s h => by
    obtain ⟨hp, g, d, tk, os⟩ := s; obtain ⟨h1, h⟩ := h
    have hsub := sub_enumerate
    have q1 : ∀ {A' : Around} {E : Value → Shared → Prop} {Q : Value → Shared → Prop}, Q (.ref hp.objs.size) ⟨hp.push o, g, d, tk, os⟩ → wpAny (model prog w) A' (pyIter v) Q E ⟨hp, g, d, tk, os⟩ :=
      fun q => B.iter prog w _ _ ⟨hp, g, d, tk, os⟩ _ h1 q
    wp_walk using q1
    refine wpAny_stack_any fun st => wpAny_pure ?_
    split
    · rename_i c _ _ _ _ _
      cases (c == Value.type "enumerate")
      · wp_walk using q1
        exact ⟨_, rfl, h⟩
      · wp_walk using q1
        exact ⟨_, rfl, h⟩
    · wp_walk using q1
      exact ⟨_, rfl, h⟩
theorem call_enum1 {prog : Program} {w : World} {A : Around} {E : Value → Shared → Prop} {s : Shared} {v : Value} {o : Obj} {H : Heap → Prop} {Q : Value → Shared → Prop} (B : Begins v o H) (h1 : H s.heap)
    (h : ∀ h', IsEnum h' (s.heap.objs.size + 1) s.heap.objs.size 0 .none → h'.get? s.heap.objs.size = some o → h'.objs.size = s.heap.objs.size + 2 →
      (∀ b o, s.heap.get? b = some o → h'.get? b = some o) → Q (.ref (s.heap.objs.size + 1)) { s with heap := h' }) :
    wpAny (model prog w) A (call (.type "enumerate") [v]) Q E s := by
  refine callType_new F.called_enumerate (by decide) (F.typeCall_enumerate_1 _) (F.newCall_enumerate_1 _) (fun obj => F.args_object_init_2 obj _) F.entry_enumerate_new
    (meets_enum1 B) ⟨h1, ?_⟩
  have hz : (s.heap.push o).objs.size = s.heap.objs.size + 1 := Heap.size_push ..
  show _ ∧ _
  rw [hz]
  have he : IsEnum ((s.heap.push o).push { cls := .type "enumerate", data := .fields #[.none, .bool false, .ref s.heap.objs.size, rawInt 0, .none, .none] }) (s.heap.objs.size + 1) s.heap.objs.size 0 .none := by
    have := Heap.get?_push_size (s.heap.push o) (o := { cls := .type "enumerate", data := .fields #[.none, .bool false, .ref s.heap.objs.size, rawInt 0, .none, .none] }) rfl
    rw [hz] at this; exact this
  refine ⟨⟨_, he, rfl⟩, h _ he (Heap.get?_push_of_some _ (Heap.get?_push_size _ B.free)) (by rw [Heap.size_push, hz]) fun b o x => Heap.get?_push_of_some _ (Heap.get?_push_of_some _ x)⟩
def iEnumX (K : PySem.W.Frag) (ta : TA) : TI := fun σ H R => ta σ H fun vs H1 => ∃ k a xs, vs = [.ref a] ∧ SqX K H1 k a xs ∧ R (IteX K k a) H1
theorem pi_enumX {X : Cx} {e : Expr} {ta : TA} {p pos tpos : Pos} {elts : List Expr} {kk : Nat} (hg : Gl X "enumerate") (hm : X.mg "enumerate" = none) (ha : PA X [e] ta) (hs : starEach [e] X.env = [(false, eval e X.env)] := by rfl) :
    PI X (.Tuple elts kk tpos) (.Call (.Name "enumerate" p) [e] [] pos) (iEnumX X.K ta) := by
  refine ⟨fun pins s σ H R I h => ?_⟩
  refine Call_ (ld_blt I hg hm boot_enumerate (PyProof.Rows.callWith_type1 (thn (ha.run pos pins s σ H _ I h) fun us s1 ⟨vs, H1, I1, r1, q1⟩ => ?_) hs rfl))
  obtain ⟨k, a, xs, ex, hq, q⟩ := q1
  subst ex
  cases r1 with
  | cons r rr =>
    cases rr
    cases r
    obtain ⟨its, rv, p'⟩ := inv_x I1 hq
    refine call_enum1 (begins_x k a its.toArray) p' fun h' he hit hsz hk => wpAny_pyIter_enum he ?_
    have I2 : Inv X pins σ H1 { s1 with heap := h' } := I1.kept (t' := s1.toks) hk
    refine ⟨s1.heap.objs.size + 1, [s1.heap.objs.size + 1, s1.heap.objs.size], _, _, H1, rfl, I2, turn_enumX k a (s1.heap.objs.size + 1) s1.heap.objs.size, ⟨⟨.none, he⟩, iterX_new hit, Nat.succ_ne_self _⟩, fun b hb => ?_, q⟩
    have e' : b = s1.heap.objs.size + 1 ∨ b = s1.heap.objs.size := by simpa using hb
    have hle : s1.heap.objs.size ≤ b := by
      rcases e' with z | z
      · rw [z]; exact Nat.le_add_right _ _
      · rw [z]; exact Nat.le_refl _
    exact I1.fpOk hle (I1.hok.fresh hle)
def iZipX (K : PySem.W.Frag) (ta : TA) : TI := fun σ H R => ta σ H fun vs H1 => ∃ k1 k2 a b xs ys, vs = [.ref a, .ref b] ∧ SqX K H1 k1 a xs ∧ SqX K H1 k2 b ys ∧ R (ItzX K k1 k2 a b) H1
theorem hasX_lt {h : Heap} {k : Kd} {a : Addr} {its : Array Value} (e : HasX h k a its) : a < h.objs.size := by
  cases k <;> (obtain ⟨o, ho, _⟩ := e; exact Heap.lt_size ho)
theorem pi_zipX {X : Cx} {e e2 : Expr} {ta : TA} {p pos tpos : Pos} {elts : List Expr} {kk : Nat} (hg : Gl X "zip") (hm : X.mg "zip" = none) (ha : PA X [e, e2] ta)
    (hs : starEach [e, e2] X.env = (false, eval e X.env) :: starEach [e2] X.env := by rfl) (hpl : (backTo pos (starEach [e2] X.env)).any (·.1) = false := by rfl) :
    PI X (.Tuple elts kk tpos) (.Call (.Name "zip" p) [e, e2] [] pos) (iZipX X.K ta) := by
  refine ⟨fun pins s σ H R I h => ?_⟩
  refine Call_ (ld_blt I hg hm PyProof.Rows.boot_zip (PyProof.Rows.callWith_type1 (thn (ha.run pos pins s σ H _ I h) fun us s1 ⟨vs, H1, I1, r1, q1⟩ => ?_) hs hpl))
  obtain ⟨k1, k2, a, b, xs, ys, ex, hq, hq', q⟩ := q1
  subst ex
  cases r1 with
  | cons r rr =>
    cases rr with
    | cons r' rr =>
      cases rr
      cases r
      cases r'
      obtain ⟨its, rv, p1⟩ := inv_x I1 hq
      obtain ⟨its', rv', p2⟩ := inv_x I1 hq'
      have hl1 := hasX_lt p1
      have hl2 := hasX_lt p2
      refine zip_begins2 (begins_x k1 a its.toArray) (begins_x k2 b its'.toArray) p1 p2 fun h' hz hTI hTO g1 g2 hsz hk => wpAny_pyIter_zip hz ?_
      have I2 : Inv X pins σ H1 { s1 with heap := h' } := I1.kept (t' := s1.toks) hk
      have sep := zip_sep2 (N := s1.heap.objs.size) (fp1 := [a]) (fp2 := [b]) (by simp; exact hl1) (by simp; exact hl2)
      refine ⟨s1.heap.objs.size + 4, [s1.heap.objs.size + 4, s1.heap.objs.size + 3, s1.heap.objs.size, s1.heap.objs.size + 1, s1.heap.objs.size + 2], _, _, H1, rfl, I2, turn_zipX k1 k2 sep, ⟨hz, hTI, ⟨_, _, hTO⟩, iterX_new g1, iterX_new g2⟩, fun c hc => ?_, q⟩
      have hle : s1.heap.objs.size ≤ c := by
        simp at hc
        rcases hc with q | q | q | q | q <;> rw [q] <;> first | exact Nat.le_add_right _ _ | exact Nat.le_refl _
      exact I1.fpOk hle (I1.hok.fresh hle)
/-! ### readings -/
section
variable {X : Cx} {S : Stat} {W : WX}
def enumD (ds : List D) (i : Nat := 0) : List D := match ds with
  | [] => []
  | d :: r => .tup [.int (i : Nat), d] :: enumD r (i + 1)
def zipD (xs ys : List D) : List D := match xs, ys with
  | x :: xs, y :: ys => .tup [x, y] :: zipD xs ys
  | _, _ => []
end
end Ev
namespace Ev
open PySem PySem.Spec PyProof.Rows L2
section
variable {X : Cx} {S : Stat} {W : WX}
/-- a sequence's items -/
def seqOf : D → Option (Kd × List D)
  | .lst xs => some (.l, xs)
  | .frz xs => some (.l, xs)
  | .tup xs => some (.t, xs)
  | _ => none
theorem seq_stays {m : Mv} {H : Hp} {g : Sto} {d : D} {v : V} {k : Kd} {ds : List D} (ok : MOk S H g m) (h : seqOf d = some (k, ds)) (r : Rr S m H d v) :
    ∃ a, v = .ref a ∧ ∀ (m1 : Mv) (H1 : Hp) (g1 : Sto), GrowS m H m1 H1 → MOk S H1 g1 m1 → ∃ vs, SqX S.K H1 k a vs ∧ Rl S m1 H1 ds vs := by
  cases d with
  | lst xs =>
    cases h
    cases r with
    | @lst a vs _ h1 f rl =>
      refine ⟨a, rfl, fun m1 H1 g1 q ok1 => ?_⟩
      have r2 := Rr.grow ok q (Rr.lst h1 f rl)
      cases r2 with
      | lst h2 f2 rl2 => exact ⟨_, SqL.of h2, rl2⟩
  | frz xs =>
    cases h
    cases r with
    | @frz a vs _ h1 rl =>
      refine ⟨a, rfl, fun m1 H1 g1 q ok1 => ?_⟩
      have r2 := Rr.grow ok q (Rr.frz h1 rl)
      cases r2 with
      | frz h2 rl2 => exact ⟨_, h2.sq, rl2⟩
  | tup xs =>
    cases h
    cases r with
    | @tup a vs _ h1 rl =>
      refine ⟨a, rfl, fun m1 H1 g1 q ok1 => ?_⟩
      have r2 := Rr.grow ok q (Rr.tup h1 rl)
      cases r2 with
      | tup h2 rl2 => exact ⟨_, SqT.of h2, rl2⟩
  | _ => cases h
theorem enumD_get : ∀ (ds : List D) (k i : Nat) (d : D), (enumD ds k)[i]? = some d → ∃ x, ds[i]? = some x ∧ d = .tup [.int ((k + i : Nat) : Int), x]
  | [], k, i, d, h => by simp [enumD] at h
  | x :: r, k, 0, d, h => by simp [enumD] at h; exact ⟨x, rfl, by rw [← h]; rfl⟩
  | x :: r, k, i + 1, d, h => by
    simp only [enumD, List.getElem?_cons_succ] at h
    obtain ⟨y, h1, h2⟩ := enumD_get r (k + 1) i d h
    exact ⟨y, by simpa using h1, by rw [h2]; congr 3; omega⟩
theorem enumD_len : ∀ (ds : List D) (k : Nat), (enumD ds k).length = ds.length
  | [], _ => rfl
  | x :: r, k => by simp [enumD, enumD_len r]
theorem zipD_get : ∀ (xs ys : List D) (i : Nat) (d : D), (zipD xs ys)[i]? = some d → ∃ x y, xs[i]? = some x ∧ ys[i]? = some y ∧ d = .tup [x, y]
  | [], ys, i, d, h => by simp [zipD] at h
  | x :: xs, [], i, d, h => by simp [zipD] at h
  | x :: xs, y :: ys, 0, d, h => by simp [zipD] at h; exact ⟨x, y, rfl, rfl, h.symm⟩
  | x :: xs, y :: ys, i + 1, d, h => by
    simp only [zipD, List.getElem?_cons_succ] at h
    obtain ⟨a, b, h1, h2, h3⟩ := zipD_get xs ys i d h
    exact ⟨a, b, by simpa using h1, by simpa using h2, h3⟩
theorem zipD_len : ∀ (xs ys : List D), (zipD xs ys).length = min xs.length ys.length
  | [], ys => by simp [zipD]
  | x :: xs, [] => by simp [zipD]
  | x :: xs, y :: ys => by simp [zipD, zipD_len xs ys]
theorem yields_enum {k : Kd} {a : Addr} {m : Mv} {H : Hp} {ds : List D} (h : ∀ (m1 : Mv) (H1 : Hp) (g1 : Sto), GrowS m H m1 H1 → MOk S H1 g1 m1 → ∃ vs, SqX S.K H1 k a vs ∧ Rl S m1 H1 ds vs) : Yields S (IteX S.K k a) m H (enumD ds) := fun m1 H1 g1 q ok => by
  obtain ⟨vs, hs, rl⟩ := h m1 H1 g1 q ok
  refine ⟨fun i d hd => ?_, vs, hs, by rw [enumD_len, rl.length]⟩
  obtain ⟨y, hy, rfl⟩ := enumD_get ds 0 i d hd
  obtain ⟨v, e1, e2⟩ := rl.get hy
  refine ⟨⟨vs, v, hs, e1⟩, fun x H2 ⟨T, z, ex, hT, eH, f⟩ => ?_⟩
  subst ex eH
  have e3 := f vs hs
  rw [e1] at e3
  cases e3
  have gr : Grow m1 H1 m1 (upd H1 T (.tup [.int (i : Nat), v])) := grow_new hT
  refine ⟨gr, ok.new hT, .tup upd_same (.cons ?_ (.cons (e2.grow ok (gr.s ok.muW)) .nil))⟩
  have : ((0 + i : Nat) : Int) = (i : Nat) := by simp
  rw [this]
  exact .int _
theorem yields_zip {k1 k2 : Kd} {a b : Addr} {m : Mv} {H : Hp} {xs ys : List D} (h : ∀ (m1 : Mv) (H1 : Hp) (g1 : Sto), GrowS m H m1 H1 → MOk S H1 g1 m1 → ∃ vs, SqX S.K H1 k1 a vs ∧ Rl S m1 H1 xs vs)
    (h' : ∀ (m1 : Mv) (H1 : Hp) (g1 : Sto), GrowS m H m1 H1 → MOk S H1 g1 m1 → ∃ vs, SqX S.K H1 k2 b vs ∧ Rl S m1 H1 ys vs) : Yields S (ItzX S.K k1 k2 a b) m H (zipD xs ys) := fun m1 H1 g1 q ok => by
  obtain ⟨vs, hs, rl⟩ := h m1 H1 g1 q ok
  obtain ⟨ws, hs', rl'⟩ := h' m1 H1 g1 q ok
  refine ⟨fun i d hd => ?_, vs, ws, hs, hs', by rw [zipD_len, rl.length, rl'.length]⟩
  obtain ⟨y, z, hy, hz, rfl⟩ := zipD_get xs ys i d hd
  obtain ⟨v, e1, e2⟩ := rl.get hy
  obtain ⟨w, e1', e2'⟩ := rl'.get hz
  refine ⟨⟨vs, ws, v, w, hs, hs', e1, e1'⟩, fun x H2 ⟨T, y', z', ex, hT, eH, f, f'⟩ => ?_⟩
  subst ex eH
  have e3 := f vs hs
  have e4 := f' ws hs'
  rw [e1] at e3
  rw [e1'] at e4
  cases e3
  cases e4
  have gr : Grow m1 H1 m1 (upd H1 T (.tup [v, w])) := grow_new hT
  exact ⟨gr, ok.new hT, .tup upd_same (.cons (e2.grow ok (gr.s ok.muW)) (.cons (e2'.grow ok (gr.s ok.muW)) .nil))⟩
def sEnum : D → Sto → Res (List D) := fun d g => match seqOf d with
  | some (_, xs) => .ok (enumD xs) g
  | none => .stuck
def sZipI : D → D → Sto → Res (List D) := fun d e g => match seqOf d, seqOf e with
  | some (_, xs), some (_, ys) => .ok (zipD xs ys) g
  | _, _ => .stuck
theorem i_enum {e : Expr} {f : E1} {elts : List Expr} {kk : Nat} {p pos tpos : Pos} (hK : S.K = X.K) (hg : Gl X "enumerate") (hm : X.mg "enumerate" = none) (he : Pe X S W e f) (hs : starEach [e] X.env = [(false, eval e X.env)] := by rfl) :
    Pi X S W (.Tuple elts kk tpos) (.Call (.Name "enumerate" p) [e] [] pos) (eU sEnum f) :=
  PI.to (pi_enumX hg hm (pa_cons he pa_nil (by rw [hs]; rfl)) hs) fun σ H R ⟨env, g, m, r, q⟩ => by
    refine ⟨env, g, m, r, ?_⟩
    unfold eU at q
    cases w : f env g with
    | stuck => rw [w] at q; exact q
    | exc x g' => rw [w] at q; exact q
    | ok d g1 =>
      rw [w] at q
      intro v H1 m1 gr ok ra
      simp only [Res.bind, sEnum] at q
      cases e1 : seqOf d with
      | none => rw [e1] at q; exact q.elim
      | some kd =>
        obtain ⟨k, ds⟩ := kd
        rw [e1] at q
        obtain ⟨a, rfl, st⟩ := seq_stays ok e1 ra
        obtain ⟨vs, hs, _⟩ := st m1 H1 g1 (.refl _ _) ok
        exact ⟨k, a, vs, rfl, hK ▸ hs, hK ▸ q _ H1 m1 gr ok (yields_enum st)⟩
theorem i_zip {e e2 : Expr} {f f2 : E1} {elts : List Expr} {kk : Nat} {p pos tpos : Pos} (hK : S.K = X.K) (hg : Gl X "zip") (hm : X.mg "zip" = none) (he : Pe X S W e f) (he2 : Pe X S W e2 f2)
    (hs : starEach [e, e2] X.env = (false, eval e X.env) :: starEach [e2] X.env := by rfl) (hs2 : starEach [e2] X.env = (false, eval e2 X.env) :: starEach [] X.env := by rfl) (hpl : (backTo pos (starEach [e2] X.env)).any (·.1) = false := by rfl) :
    Pi X S W (.Tuple elts kk tpos) (.Call (.Name "zip" p) [e, e2] [] pos) (eB sZipI f f2) :=
  PI.to (pi_zipX hg hm (pa_cons he (pa_cons he2 pa_nil hs2) hs) hs hpl) fun σ H R ⟨env, g, m, r, q⟩ => by
    refine ⟨env, g, m, r, ?_⟩
    unfold eB at q
    cases w : f env g with
    | stuck => rw [w] at q; exact q
    | exc x g' => rw [w] at q; exact q
    | ok d g1 =>
      rw [w] at q
      intro v H1 m1 gr ok ra
      have r1 := r.grow gr ok
      refine ⟨env, g1, m1, r1, ?_⟩
      simp only [Res.bind] at q
      cases w2 : f2 env g1 with
      | stuck => rw [w2] at q; exact q
      | exc x g' => rw [w2] at q; exact fun cl dx H' m' gr' ok' z => q cl dx H' m' (gr.trans gr') ok' z
      | ok d2 g2 =>
        rw [w2] at q
        intro v2 H2 m2 gr2 ok2 ra2
        have ra' : Rr S m2 H2 d v := Rr.grow ok (gr2.s ok.muW) ra
        simp only [sZipI] at q
        cases e1 : seqOf d with
        | none => rw [e1] at q; exact q.elim
        | some kd =>
          obtain ⟨k, ds⟩ := kd
          rw [e1] at q
          cases e2 : seqOf d2 with
          | none => rw [e2] at q; exact q.elim
          | some kd2 =>
            obtain ⟨k2, ds2⟩ := kd2
            rw [e2] at q
            obtain ⟨a, rfl, st⟩ := seq_stays ok2 e1 ra'
            obtain ⟨b, rfl, st2⟩ := seq_stays ok2 e2 ra2
            obtain ⟨vs, hs, _⟩ := st m2 H2 g2 (.refl _ _) ok2
            obtain ⟨vs2, hs2, _⟩ := st2 m2 H2 g2 (.refl _ _) ok2
            exact ⟨k, k2, a, b, vs, vs2, rfl, hK ▸ hs, hK ▸ hs2, hK ▸ q _ H2 m2 (gr.trans gr2) ok2 (yields_zip st st2)⟩
end
end Ev
namespace Ev
open PySem PySem.Spec PyProof.Rows L2
section
variable {X : Cx} {S : Stat} {W : WX}
/-! ### a < b < c, of ints -/
def kChain (p q : Int → Int → Bool) (fb fc : E1) : D → E1 := fun a env g1 => (fb env g1).bind fun b g2 => match a, b with
  | .int i, .int j => if p i j = true then (fc env g2).bind fun c g3 => (match c with
    | .int k => .ok (.bl (q j k)) g3
    | _ => .stuck) else .ok (.bl false) g2
  | _, _ => .stuck
def eChain (p q : Int → Int → Bool) (fa fb fc : E1) : E1 := fun env g => (fa env g).bind fun a g1 => kChain p q fb fc a env g1
theorem e_chain {op op' : CmpOp} {p q : Int → Int → Bool} {a b c : Expr} {fa fb fc : E1} {pos : Pos} (ho : OpR X (compareOp op) (rI0 fun i j => .bl (p i j))) (ho' : OpR X (compareOp op') (rI0 fun i j => .bl (q i j)))
    (ha : Pb X S W a fa) (hb : Pb X S W b fb) (hc : Pb X S W c fc) (hm : lastMarks [op, op'] [b, c] = false := by with_unfolding_all rfl) : Pe X S W (.Compare a [op, op'] [b, c] pos) (eChain p q fa fb fc) :=
  PE.to (pe_chain ho ho' ha hb hc hm) fun σ H Q h => by
    refine Tv.go (Ra := RB S) (k := kChain p q fb fc) h fun env m g H1 da x rel fz ra p1 => ?_
    refine Post.bindE (R := RB S) rel p1 fun g2 m2 H2 db y rel2 gr2 rb p2 => ?_
    have ra2 := Rb.grow rel.mem gr2 rel2.mem ra
    split at p2
    · rename_i i j
      refine ⟨i, j, ra2.int, Rb.int rb, p i j, rfl, ?_⟩
      split at p2
      · rename_i hp
        rw [hp]
        simp only [if_true]
        refine Post.bindE (R := RB S) rel2 p2 fun g3 m3 H3 dc z rel3 gr3 rc p3 => ?_
        split at p3
        · rename_i k
          have rb3 := Rb.grow rel2.mem gr3 rel3.mem rb
          exact ⟨j, k, rb3.int, Rb.int rc, p3.now rel3.mem (Rr.bl _)⟩
        · exact p3.elim
      · rename_i hp
        rw [show p i j = false by simpa using hp]
        simp only [Bool.false_eq_true, if_false]
        exact p2.now rel2.mem (Rr.bl _)
    · exact p2.elim
/-! ### methods of texts -/
def strsD (ss : List Str) : List D := ss.map .str
theorem rl_strsD {m : Mv} {H : Hp} (ss : List Str) : Rl S m H (strsD ss) (ss.map V.str) := rl_strs ss
/-- a.m(b), by values -/
def kMt (sem : D → D → Sto → Res D) (fa : E1) : D → E1 := fun a env g1 => match a with
  | .str z => (fa env g1).bind fun b g2 => sem (.str z) b g2
  | _ => .stuck
def eMt (sem : D → D → Sto → Res D) (fo fa : E1) : E1 := fun env g => (fo env g).bind fun a g1 => kMt sem fa a env g1
theorem bm_str {name : Str} {id : String} {r : V → List V → Hp → VK → Prop} {sem : D → D → Sto → Res D} {Rc : Hp → Mv → Hp → D → V → Prop} {o e : Expr} {fo fe : E1} {apos cpos : Pos} (slot : PySem.Slot "str" name id) (hty : typeOf (.builtin id) = pure (.type "method_descriptor")) (hm : MtR X id r)
    (hs : ∀ (σ : St) (H0 : Hp) (m : Mv) (g : Sto) (H : Hp) (z : Str) (b : D) (y : V) (Q : VK), MOk S H g m → (∀ w, H w = none → H0 w = none) → Rb S m H b y → Post S Rc W σ H0 (sem (.str z) b g) m H Q → r (.str z) [y] H Q)
    (ho : Pb X S W o fo) (he : Pb X S W e fe) (hst : starEach [e] X.env = (false, eval e X.env) :: starEach [] X.env := by rfl)
    (hbase : attributeBase o name X.env (eval o X.env) = eval o X.env := by rfl) (hline : (apos.endLine == cpos.line) = true := by rfl)
    (hfew : ((backTo cpos (starEach [e] X.env)).all (fun x => !x.1) && (backToKw cpos (keywordEach [] X.env)).all (fun x => x.1.isSome) && decide (([e] : List Expr).length + ([] : List Keyword).length + (if ([] : List Keyword).isEmpty then 0 else 1) < 30)) = true := by rfl) :
    PE X (.Call (.Attribute o name apos) [e] [] cpos) (Tv S Rc W (eMt sem fo fe)) :=
  PE.to (pe_bm PySem.F.plainAttrs_str slot hty hm ho (pa_cons he pa_nil hst) hbase hfew hline hst) fun σ H Q h => by
    refine Tv.go (Ra := RB S) (k := kMt sem fe) h fun env m g H1 da x rel fz ra p1 => ?_
    unfold kMt at p1
    split at p1
    · rename_i z
      have ex : x = .str z := Rb.str ra
      subst ex
      refine ⟨rfl, Post.bindE (R := RB S) rel p1 fun g2 m2 H2 db y rel2 gr2 rb p2 => ?_⟩
      exact hs σ H m2 g2 H2 z db y Q rel2.mem (fun w hw => fz w (gr2.liv w hw)) rb p2
    · exact p1.elim
def sSplit : D → D → Sto → Res D
  | .str a, .str b, g => if (b.length == 0) = false ∧ a.length + 2 ≤ sizeLine then .ok (.lst (strsD (Txt.split a b))) g else .stuck
  | _, _, _ => .stuck
theorem f_split {o e : Expr} {fo fe : E1} {apos cpos : Pos} (ho : Pb X S W o fo) (he : Pb X S W e fe) (hst : starEach [e] X.env = (false, eval e X.env) :: starEach [] X.env := by rfl)
    (hbase : attributeBase o "split" X.env (eval o X.env) = eval o X.env := by rfl) (hline : (apos.endLine == cpos.line) = true := by rfl)
    (hfew : ((backTo cpos (starEach [e] X.env)).all (fun x => !x.1) && (backToKw cpos (keywordEach [] X.env)).all (fun x => x.1.isSome) && decide (([e] : List Expr).length + ([] : List Keyword).length + (if ([] : List Keyword).isEmpty then 0 else 1) < 30)) = true := by rfl) :
    Pf X S W (.Call (.Attribute o "split" apos) [e] [] cpos) (eMt sSplit fo fe) :=
  bm_str PySem.F.slot_str_split PySem.F.type_str_split mt_split (fun σ H0 m g H z b y Q ok fz rb p => by
    cases b with
    | str w =>
      have ey : y = .str w := Rb.str rb
      subst ey
      simp only [sSplit] at p
      split at p
      · rename_i hc
        exact ⟨z, w, rfl, rfl, hc.1, hc.2, fun q hq => Post.ownL p ok (rl_strsD _) hq fz⟩
      · exact p.elim
    | _ => exact p.elim) ho he hst hbase hline hfew
def sEnds : D → D → Sto → Res D
  | .str a, .str b, g => .ok (.bl (Txt.endswith a b)) g
  | _, _, _ => .stuck
theorem e_ends {o e : Expr} {fo fe : E1} {apos cpos : Pos} (ho : Pb X S W o fo) (he : Pb X S W e fe) (hst : starEach [e] X.env = (false, eval e X.env) :: starEach [] X.env := by rfl)
    (hbase : attributeBase o "endswith" X.env (eval o X.env) = eval o X.env := by rfl) (hline : (apos.endLine == cpos.line) = true := by rfl)
    (hfew : ((backTo cpos (starEach [e] X.env)).all (fun x => !x.1) && (backToKw cpos (keywordEach [] X.env)).all (fun x => x.1.isSome) && decide (([e] : List Expr).length + ([] : List Keyword).length + (if ([] : List Keyword).isEmpty then 0 else 1) < 30)) = true := by rfl) :
    Pe X S W (.Call (.Attribute o "endswith" apos) [e] [] cpos) (eMt sEnds fo fe) :=
  bm_str PySem.F.slot_str_endswith PySem.F.type_str_endswith mt_endswith (fun σ H0 m g H z b y Q ok fz rb p => by
    cases b with
    | str w =>
      have ey : y = .str w := Rb.str rb
      subst ey
      exact ⟨z, w, rfl, rfl, p.now ok (.bl _)⟩
    | _ => exact p.elim) ho he hst hbase hline hfew
def sPart : D → D → Sto → Res D
  | .str a, .str b, g => if (b.length == 0) = false ∧ a.length ≤ sizeLine then .ok (.tup [.str (Txt.partition a b).1, .str (Txt.partition a b).2.1, .str (Txt.partition a b).2.2]) g else .stuck
  | _, _, _ => .stuck
theorem e_part {o e : Expr} {fo fe : E1} {apos cpos : Pos} (ho : Pb X S W o fo) (he : Pb X S W e fe) (hst : starEach [e] X.env = (false, eval e X.env) :: starEach [] X.env := by rfl)
    (hbase : attributeBase o "partition" X.env (eval o X.env) = eval o X.env := by rfl) (hline : (apos.endLine == cpos.line) = true := by rfl)
    (hfew : ((backTo cpos (starEach [e] X.env)).all (fun x => !x.1) && (backToKw cpos (keywordEach [] X.env)).all (fun x => x.1.isSome) && decide (([e] : List Expr).length + ([] : List Keyword).length + (if ([] : List Keyword).isEmpty then 0 else 1) < 30)) = true := by rfl) :
    Pe X S W (.Call (.Attribute o "partition" apos) [e] [] cpos) (eMt sPart fo fe) :=
  bm_str PySem.F.slot_str_partition PySem.F.type_str_partition mt_partition (fun σ H0 m g H z b y Q ok fz rb p => by
    cases b with
    | str w =>
      have ey : y = .str w := Rb.str rb
      subst ey
      simp only [sPart] at p
      split at p
      · rename_i hc
        exact ⟨z, w, rfl, rfl, hc.1, hc.2, fun q hq => Post.newT p ok (.cons (.str _) (.cons (.str _) (.cons (.str _) .nil))) hq⟩
      · exact p.elim
    | _ => exact p.elim) ho he hst hbase hline hfew
def strSeq : D → Option (List Str)
  | .lst xs => strsOf xs
  | .tup xs => strsOf xs
  | _ => none
theorem strSeq_ok {m : Mv} {H : Hp} {d : D} {v : V} {ys : List Str} (h : strSeq d = some ys) (r : Rv S m H d v) : ∃ a, v = .ref a ∧ (SqL S.K H a (ys.map V.str) ∨ SqT S.K H a (ys.map V.str)) := by
  cases d with
  | lst xs =>
    obtain ⟨a, vs, rfl, hs, rl⟩ := r.lst
    have ev := strsOf_ok (show strsOf xs = some ys from h) rl
    subst ev
    exact ⟨a, rfl, .inl hs⟩
  | tup xs =>
    obtain ⟨a, vs, rfl, hs, rl⟩ := r.tup
    have ev := strsOf_ok (show strsOf xs = some ys from h) rl
    subst ev
    exact ⟨a, rfl, .inr hs⟩
  | _ => cases h
def sJoin : D → D → Sto → Res D := fun a b g => match a with
  | .str a => (match strSeq (dr g b) with
    | some ys => if (ys.map (·.length)).sum + ys.length * a.length ≤ 16777216 then .ok (.str (Txt.join a ys)) g else .stuck
    | none => .stuck)
  | _ => .stuck
theorem e_join {o e : Expr} {fo fe : E1} {apos cpos : Pos} (hK : S.K = X.K) (ho : Pb X S W o fo) (he : Pb X S W e fe) (hst : starEach [e] X.env = (false, eval e X.env) :: starEach [] X.env := by rfl)
    (hbase : attributeBase o "join" X.env (eval o X.env) = eval o X.env := by rfl) (hline : (apos.endLine == cpos.line) = true := by rfl)
    (hfew : ((backTo cpos (starEach [e] X.env)).all (fun x => !x.1) && (backToKw cpos (keywordEach [] X.env)).all (fun x => x.1.isSome) && decide (([e] : List Expr).length + ([] : List Keyword).length + (if ([] : List Keyword).isEmpty then 0 else 1) < 30)) = true := by rfl) :
    Pe X S W (.Call (.Attribute o "join" apos) [e] [] cpos) (eMt sJoin fo fe) :=
  bm_str PySem.F.slot_str_join PySem.F.type_str_join mt_join (fun σ H0 m g H z b y Q ok fz rb p => by
    have rv := rb.v.dr ok
    simp only [sJoin] at p
    cases e1 : strSeq (dr g b) with
    | none => rw [e1] at p; exact p.elim
    | some ys =>
      rw [e1] at p
      obtain ⟨a, rfl, hs⟩ := strSeq_ok e1 rv
      simp only at p
      split at p
      · rename_i hc; exact ⟨z, a, ys, rfl, rfl, hK ▸ hs, hc, p.now ok (Rr.str _)⟩
      · exact p.elim) ho he hst hbase hline hfew
/-! ### constants of the module -/
theorem e_glob {x : Str} {u : Value} {v : V} {d : D} {pos : Pos} (hg : Gl X x) (hm : X.mg x = some u) (r : RelV v u) (hd : ∀ m H, Rr S m H d v) (hdb : (x == ("__debug__" : Str)) = false := by decide) : Pe X S W (.Name x pos) (eC d) := e_c (pe_glob hg hm r hdb) hd
theorem e_globS {x : Str} {z : Str} {pos : Pos} (hg : Gl X x) (hm : ∃ t, X.mg x = some (.str z t)) (hdb : (x == ("__debug__" : Str)) = false := by decide) : Pe X S W (.Name x pos) (eC (.str z)) := by
  obtain ⟨t, hm⟩ := hm
  exact e_glob (v := .str z) hg hm ⟨t, rfl⟩ (fun _ _ => .str z) hdb
theorem e_globI {x : Str} {i : Int} {pos : Pos} (hg : Gl X x) (hm : ∃ t, X.mg x = some (.int i t)) (hdb : (x == ("__debug__" : Str)) = false := by decide) : Pe X S W (.Name x pos) (eC (.int i)) := by
  obtain ⟨t, hm⟩ := hm
  exact e_glob (v := .int i) hg hm ⟨t, rfl⟩ (fun _ _ => .int i) hdb
/-- a written tuple of texts and ints -/
theorem e_globT {x : Str} {a : Addr} {vs : List V} {ds : List D} {pos : Pos} (hg : Gl X x) (hm : X.mg x = some (.ref a)) (ht : ∀ H, SqT S.K H a vs) (hd : ∀ m H, Rl S m H ds vs) (hdb : (x == ("__debug__" : Str)) = false := by decide) : Pe X S W (.Name x pos) (eC (.ctup ds)) :=
  e_glob (v := .ref a) hg hm rfl (fun m H => .ctup (ht H) (hd m H)) hdb
/-! ### f-strings -/
def sFmt : D → Sto → Res D
  | .str z, g => if z.length ≤ sizeLine then .ok (.str z) g else .stuck
  | .int i, g => if i.natAbs < 10 ^ 18 then .ok (.str (toString i)) g else .stuck
  | _, _ => .stuck
theorem e_fmt {e : Expr} {f : E1} {pos : Pos} (he : Pb X S W e f) : Pe X S W (.FormattedValue e (-1) none pos) (eU sFmt f) :=
  PE.to (pe_fmt he) fun σ H Q q => Tv.one (Ra := RB S) q fun env m g H1 d x rel fz ⟨_, ra⟩ p => by
    have ra : Rb S m H1 d x := ra
    cases d with
    | str z =>
      have ex : x = .str z := ra.str
      subst ex
      simp only [sFmt] at p
      split at p
      · rename_i hc; exact .inl ⟨z, rfl, hc, p.now rel.mem (.str _)⟩
      · exact p.elim
    | int i =>
      have ex : x = .int i := ra.int
      subst ex
      simp only [sFmt] at p
      split at p
      · rename_i hc; exact .inr ⟨i, rfl, log_small hc, p.now rel.mem (.str _)⟩
      · exact p.elim
    | _ => exact p.elim
theorem e_js1 {e : Expr} {f : E1} {pos : Pos} (he : Pe X S W e f) : Pe X S W (.JoinedStr [e] pos) f := pe_joined1 he
/-- the parts, one behind another -/
def eJs (fs : List E1) (acc : Str) : En Str := fun env g => match fs with
  | [] => .ok acc g
  | f :: fs => (f env g).bind fun d g1 => match d with
    | .str y => if (acc ++ y).length ≤ sizeLine then eJs fs (acc ++ y) env g1 else .stuck
    | _ => .stuck
inductive PJs (X : Cx) (S : Stat) (W : WX) : List Expr → List E1 → Prop where
  | nil : PJs X S W [] []
  | cons {e : Expr} {es : List Expr} {f : E1} {fs : List E1} : Pe X S W e f → PJs X S W es fs → PJs X S W (e :: es) (f :: fs)
theorem PJs.pj : ∀ {es : List Expr} {fs : List E1}, PJs X S W es fs → ∃ ts, PJ X es ts ∧ ∀ (acc : Str) (σ : St) (H : Hp) (env : Env) (g : Sto) (m : Mv) (Q : Str → Hp → Prop), Rel S H σ env g m → Post S (fun _ _ _ a b => a = b) W σ H (eJs fs acc env g) m H Q → tJs ts acc σ H Q
  | _, _, .nil => ⟨[], .nil, fun acc σ H env g m Q rel p => p.now rel.mem rfl⟩
  | _, _, @PJs.cons _ _ _ e es f fs he h => by
    obtain ⟨ts, h1, h2⟩ := h.pj
    refine ⟨_, .cons he h1, fun acc σ H env g m Q rel p => ?_⟩
    refine Post.bindE (R := RT S) rel p fun g2 m2 H2 d x rel2 gr2 ra p2 => ?_
    split at p2
    · rename_i y
      have ex : x = .str y := Rr.str_inv ra
      subst ex
      split at p2
      · rename_i hc
        refine ⟨y, rfl, hc, h2 _ σ H2 env g2 m2 Q rel2 (Post.from (fun _ _ _ _ z => z) p2)⟩
      · exact p2.elim
    · exact p2.elim
theorem e_js {v1 v2 : Expr} {rest : List Expr} {fs : List E1} {pos : Pos} (h : PJs X S W (v1 :: v2 :: rest) fs) : Pe X S W (.JoinedStr (v1 :: v2 :: rest) pos) (fun env g => (eJs fs Str.empty env g).bind fun z g1 => .ok (.str z) g1) := by
  obtain ⟨ts, h1, h2⟩ := h.pj
  refine PE.to (pe_joined h1) fun σ H Q ⟨env, g, m, rel, p⟩ => h2 _ σ H env g m _ rel ?_
  refine (Post.bind (R := fun _ _ _ a b => a = b) (H0 := H) p).q fun b H1 ⟨a, g1, m1, gr, ok, e, p2⟩ => ?_
  subst e
  exact p2.now ok (.str _)
/-! ### a, b, c = a list -/
def tgL (n : Nat) (fs : Tgs) : Tg := fun d env => match d with
  | .lst ds => if ds.length = n then fs ds env else none
  | _ => none
end
end Ev
namespace Ev
open PySem PySem.Spec PyProof.Rows L2
/-! ### sets of ints and texts, by the list of their members -/
/-- an entry of a set, its key -/
def EntK (P : Program) (w : World) (k : Key) (e : Int × Value) : Prop := (mixKind P w).is k e.2 = true ∧ e.1 = (mixKind P w).hash k ∧ e.2.scannable = true
/-- the entries of l have the keys ks -/
inductive Ents (P : Program) (w : World) : List Key → List (Int × Value) → Prop where
  | nil : Ents P w [] []
  | cons {k : Key} {e : Int × Value} {ks : List Key} {l : List (Int × Value)} : EntK P w k e → Ents P w ks l → Ents P w (k :: ks) (e :: l)
section
variable {P : Program} {w : World}
theorem Ents.perm {l l' : List (Int × Value)} (p : l'.Perm l) : ∀ {ks : List Key}, Ents P w ks l → ∃ ks', Ents P w ks' l' ∧ ks'.Perm ks := by
  induction p with
  | nil => exact fun {ks} h => ⟨ks, h, .refl _⟩
  | cons x _ ih =>
    intro ks h
    cases h with
    | cons h1 h2 =>
      obtain ⟨ks', h3, h4⟩ := ih h2
      exact ⟨_, .cons h1 h3, h4.cons _⟩
  | swap x y l =>
    intro ks h
    cases h with
    | cons h1 h2 =>
      cases h2 with
      | cons h3 h4 => exact ⟨_, .cons h3 (.cons h1 h4), .swap _ _ _⟩
  | trans _ _ ih1 ih2 =>
    intro ks h
    obtain ⟨k1, h1, p1⟩ := ih2 h
    obtain ⟨k2, h2, p2⟩ := ih1 h1
    exact ⟨k2, h2, p2.trans p1⟩
theorem Ents.elems : ∀ {ks : List Key} {l : List (Int × Value)}, Ents P w ks l → ElemsOf (mixKind P w) l
  | _, _, .nil => fun e he => by cases he
  | _, _, .cons h1 h2 => fun e he => by
    rcases List.mem_cons.mp he with rfl | he
    · exact ⟨⟨_, h1.1, h1.2.1⟩, h1.2.2⟩
    · exact h2.elems e he
theorem Ents.mem : ∀ {ks : List Key} {l : List (Int × Value)}, Ents P w ks l → ∀ k, k ∈ ks ↔ ∃ e ∈ l, (mixKind P w).is k e.2 = true
  | _, _, .nil, k => by simp
  | k0 :: ks, e0 :: l, .cons h1 h2, k => by
    rw [List.mem_cons, h2.mem k]
    constructor
    · rintro (rfl | ⟨e, he, q⟩)
      · exact ⟨e0, List.mem_cons_self, h1.1⟩
      · exact ⟨e, List.mem_cons_of_mem _ he, q⟩
    · rintro ⟨e, he, q⟩
      rcases List.mem_cons.mp he with rfl | he
      · exact .inl ((mixKind P w).inj _ _ _ q h1.1)
      · exact .inr ⟨e, he, q⟩
theorem Ents.length : ∀ {ks : List Key} {l : List (Int × Value)}, Ents P w ks l → ks.length = l.length
  | _, _, .nil => rfl
  | _, _, .cons _ h => by simp [h.length]
/-- the set at a has the members ks, each once; its table rises -/
def SetM (P : Program) (w : World) (h : Heap) (a : Addr) (ks : List Key) : Prop :=
  ∃ o es ep t ls, h.get? a = some o ∧ o.ExactSet ∧ o.data = .set es ep t ∧ Ents P w ls es.toList ∧ ls.Nodup ∧ ls.Perm ks ∧ es.size < scanBound ∧ t.fits es.size = true ∧ Ris t.place.toList ∧ (w.params.followText "set-order" = true ∨ t.led = true)
theorem SetM.keep {h h' : Heap} {a : Addr} {ks : List Key} (R : SetM P w h a ks) (k : ∀ o, h.get? a = some o → h'.get? a = some o) : SetM P w h' a ks := by
  obtain ⟨o, es, ep, t, ls, ho, r⟩ := R
  exact ⟨o, es, ep, t, ls, k o ho, r⟩
theorem SetM.perm {h : Heap} {a : Addr} {ks ks' : List Key} (R : SetM P w h a ks) (p : ks.Perm ks') : SetM P w h a ks' := by
  obtain ⟨o, es, ep, t, ls, h1, h2, h3, h4, h5, h6, r⟩ := R
  exact ⟨o, es, ep, t, ls, h1, h2, h3, h4, h5, h6.trans p, r⟩
theorem setM_fresh {h : Heap} (w : World) : SetM P w (h.push { cls := .type "set", dict := none, data := .set #[] 0 (.fresh 0 0 (!w.params.followText "set-order")) }) h.objs.size [] :=
  ⟨_, #[], 0, _, [], Heap.get?_push_size _ rfl, ⟨rfl, rfl, rfl⟩, rfl, .nil, List.nodup_nil, .refl _, by decide, by rfl, List.Pairwise.nil, by
    show _ ∨ (!w.params.followText "set-order") = true
    cases w.params.followText "set-order"
    · exact .inr rfl
    · exact .inl rfl⟩
section
variable {A : Around} {E : Value → Shared → Prop} {s : Shared} {a : Addr}
theorem setM_tail {g : Bool → Sem Unit} (hg : ∀ (b : Bool) (s₁ : Shared) (Q' : Unit → Shared → Prop), Q' () s₁ → wpAny (model P w) A (g b) Q' E s₁)
    {o : Obj} {es : Array (Int × Value)} {ep : Nat} {t : SetTable} (ho : s.heap.get? a = some o) (hex : o.ExactSet) (hd : o.data = .set es ep t)
    {es1 : Array (Int × Value)} {t2 : SetTable} {ls ks : List Key} (g1 : Ents P w ls es1.toList) (nd1 : ls.Nodup) (pk : ls.Perm ks)
    (hb1 : es1.size < scanBound) (hf2 : t2.fits es1.size = true) (hr : Ris t2.place.toList) (hl : w.params.followText "set-order" = true ∨ t2.led = true) {wasDummy : Bool} {R : Option Bool → Shared → Prop}
    (hR : ∀ h', Heap.SameBut a s.heap h' → SetM P w h' a ks → R (some true) { s with heap := h' }) :
    wpAny (model P w) A (do
        storeSet a es1 t2
        if (!wasDummy && t2.tooFull) = true then do
            g (relayAll t2 es1 (SetTable.grown es1.size)).2.2
            storeSet a (relayAll t2 es1 (SetTable.grown es1.size)).1 (relayAll t2 es1 (SetTable.grown es1.size)).2.1
            pure (some true)
          else pure (some true)) R E s := by
  refine wpAny_bind (wpAny_storeSet_of ho hd ?_ (fits_of_scanBound hb1))
  have at1 := store_at (es' := es1) (t' := t2) ho hd
  have but1 := Heap.SameBut.update s.heap a (Obj.putSet es1 t2)
  split
  · have z1 := relayAll_perm t2 es1 (SetTable.grown es1.size)
    have z2 := relayAll_fits t2 es1 (SetTable.grown es1.size)
    have z3 := relayAll_ris t2 es1 (SetTable.grown es1.size)
    have z4 := relayAll_led t2 es1 (SetTable.grown es1.size)
    generalize relayAll t2 es1 (SetTable.grown es1.size) = Z at z1 z2 z3 z4 ⊢
    obtain ⟨es2, t3, gave⟩ := Z
    dsimp only at z1 z2 z3 z4 ⊢
    have sz : es2.size = es1.size := by rw [← Array.length_toList, z1.length_eq, Array.length_toList]
    obtain ⟨l2, e2, p2⟩ := g1.perm z1
    refine wpAny_bind (hg _ _ _ (wpAny_bind (wpAny_storeSet_of at1 rfl ?_ (fits_of_scanBound (by rw [sz]; exact hb1)))))
    refine wpAny_pure (hR _ (but1.trans (Heap.SameBut.update _ a _)) ?_)
    exact ⟨_, es2, _, t3, l2, store_at (es' := es2) (t' := t3) at1 rfl, hex, rfl, e2, p2.nodup_iff.mpr nd1, p2.trans pk, by rw [sz]; exact hb1, z2, z3, hl.imp id fun q => by rw [z4]; exact q⟩
  · exact wpAny_pure (hR _ but1 ⟨_, es1, _, t2, ls, at1, hex, rfl, g1, nd1, pk, hb1, hf2, hr, hl⟩)
/-- a member more -/
def insK (k : Key) (ks : List Key) : List Key := if (ks.any fun j => decide (j = k)) = true then ks else k :: ks
theorem insK_in {k : Key} {ks : List Key} (h : k ∈ ks) : insK k ks = ks := by
  unfold insK
  rw [if_pos (List.any_eq_true.mpr ⟨k, h, decide_eq_true rfl⟩)]
theorem insK_out {k : Key} {ks : List Key} (h : k ∉ ks) : insK k ks = k :: ks := by
  unfold insK
  rw [if_neg fun z => by
    obtain ⟨j, hj, q⟩ := List.any_eq_true.mp z
    exact h (of_decide_eq_true q ▸ hj)]
theorem setM_hashed {k : Key} {x : Value} {ks : List Key} {Q : Bool → Shared → Prop} (hkey : (mixKind P w).is k x = true) (hsc : x.scannable = true) (R : SetM P w s.heap a ks) (room : ks.length + 1 < scanBound)
    (hQ : ∀ h', Heap.SameBut a s.heap h' → SetM P w h' a (insK k ks) → ∀ b, Q b { s with heap := h' }) :
    wpAny (model P w) A (setAddHashed a x ((mixKind P w).hash k)) Q E s := by
  obtain ⟨o, es, ep, t, ls, ho, hex, hd, g, nd, pk, hb, hf, hr, hl⟩ := R
  have hel := g.elems
  unfold setAddHashed setAddHashedIn
  refine wpAny_holding (wpAny_bind (wpAny_setState_of ho hd hf ?_))
  dsimp only
  rw [byScan_of hsc hb hel]
  simp only [↓reduceIte]
  unfold setAddByScan
  refine wpAny_bind (wpAny_bind (wpAny_rule (wpAny_bind (wpAny_setScan_of hkey ho hd hf hel ?_))))
  cases hfi : List.findIdx? (fun e => (mixKind P w).is k e.2) es.toList with
  | some j =>
    dsimp only
    obtain ⟨hj, pj, _⟩ := List.findIdx?_eq_some_iff_getElem.mp hfi
    have hin : k ∈ ks := pk.mem_iff.mp ((g.mem k).mpr ⟨es.toList[j], List.getElem_mem hj, pj⟩)
    have q := hQ s.heap (Heap.SameBut.refl a s.heap) (by rw [insK_in hin]; exact ⟨o, es, ep, t, ls, ho, hex, hd, g, nd, pk, hb, hf, hr, hl⟩) false
    exact wpAny_pure (wpAny_pure q)
  | none =>
    dsimp only
    have hnl : k ∉ ls := fun z => by
      obtain ⟨e, he, q⟩ := (g.mem k).mp z
      have c := List.findIdx?_eq_none_iff.mp hfi e he
      rw [q] at c
      cases c
    have hnk : k ∉ ks := fun z => hnl (pk.mem_iff.mpr z)
    have gw : ∀ (b : Bool) {s₁ : Shared} {Q' : Unit → Shared → Prop}, Q' () s₁ → wpAny (model P w) A (match b with | true => rule "set.scan.the-table-gave-way" | false => pure ()) Q' E s₁ :=
      fun b s₁ Q' q => by cases b <;> first | exact wpAny_pure q | exact wpAny_rule q
    have z1 := layNew_perm t es ((mixKind P w).hash k) x
    have z2 := layNew_fits t es ((mixKind P w).hash k) x
    have z3 := layNew_ris t es ((mixKind P w).hash k) x hr
    have z4 := layNew_led t es ((mixKind P w).hash k) x
    generalize layNew t es ((mixKind P w).hash k) x = Z at z1 z2 z3 z4 ⊢
    obtain ⟨es1, t1, wasDummy, gave⟩ := Z
    dsimp only at z1 z2 z3 z4 ⊢
    rw [Array.toList_push] at z1
    have pc : es1.toList.Perm (((mixKind P w).hash k, x) :: es.toList) := z1.trans (List.perm_append_singleton _ _)
    obtain ⟨l1, e1, p1⟩ := Ents.perm pc (Ents.cons ⟨hkey, rfl, hsc⟩ g)
    have nd1 : l1.Nodup := p1.nodup_iff.mpr (List.nodup_cons.mpr ⟨hnl, nd⟩)
    have sz : es1.size = ks.length + 1 := by rw [← Array.length_toList, pc.length_eq, List.length_cons, ← g.length, pk.length_eq]
    have hb1 : es1.size < scanBound := by rw [sz]; exact room
    have led1 : w.params.followText "set-order" = true ∨ t1.led = true := hl.imp id fun q => by rw [z4]; exact q
    have fin : ∀ h', Heap.SameBut a s.heap h' → SetM P w h' a (k :: ks) → Q true { s with heap := h' } := fun h' sb r => hQ h' sb (by rw [insK_out hnk]; exact r) true
    refine wpAny_bind (gw _ ?_)
    split
    · refine wpAny_bind ?_
      rw [hashByValue_scannable 8 hsc]
      refine wpAny_pure (setM_tail ?_ ho hex hd e1 nd1 (p1.trans (pk.cons k)) hb1 ?_ ?_ ?_ ?_)
      · intro b s₁ Q' q; cases b <;> first | exact wpAny_pure q | exact wpAny_rule q
      · first | (split <;> first | exact z2 | exact SetTable.fits_plain_off z2) | exact z2
      · first | (split <;> exact z3) | exact z3
      · first | (split <;> exact led1) | exact led1
      · intro h' sb r; dsimp only; exact wpAny_pure (fin h' sb r)
    · refine wpAny_bind (wpAny_pure ?_)
      simp only [↓reduceIte]
      refine setM_tail ?_ ho hex hd e1 nd1 (p1.trans (pk.cons k)) hb1 z2 z3 led1 ?_
      · intro b s₁ Q' q; cases b <;> first | exact wpAny_pure q | exact wpAny_rule q
      · intro h' sb r; dsimp only; exact wpAny_pure (fin h' sb r)
end
end
end Ev
namespace Ev
open PySem PySem.Spec PyProof.Rows L2
section
variable {P : Program} {w : World} {A : Around} {E : Value → Shared → Prop} {s : Shared} {a : Addr}
theorem SetM.setOf {h : Heap} {ks : List Key} (R : SetM P w h a ks) : ∃ S n, h.SetOf (mixKind P w) a S n := by
  obtain ⟨o, es, ep, t, ls, ho, hex, hd, g, nd, pk, hb, hf, hr, hl⟩ := R
  exact ⟨fun k => ls.any fun j => decide (j = k), es.size, o, es, ep, t, ho, hex, hd, g.elems, fun k => by
    rw [← g.mem k, List.any_eq_true]
    exact ⟨fun ⟨j, hj, q⟩ => of_decide_eq_true q ▸ hj, fun z => ⟨k, z, decide_eq_true rfl⟩⟩, hb, hf, rfl⟩
/-- found.add(x) -/
theorem setM_add {k : Key} {x : Value} {ks : List Key} {Q : Value → Shared → Prop} (hkey : (mixKind P w).is k x = true) (hsc : x.scannable = true) (R : SetM P w s.heap a ks) (room : ks.length + 1 < scanBound)
    (hQ : ∀ h', Heap.SameBut a s.heap h' → SetM P w h' a (insK k ks) → Q .none { s with heap := h', toks := s.toks + 1 }) :
    wpAny (model P w) A (call (.builtin "set.add") [.ref a, x]) Q E s := by
  obtain ⟨S, n, hS⟩ := R.setOf
  refine wpAny_call_entry F.slot_set_add hS.typeIs F.entry_set_add ?_ (F.args_set_add_2 _ _)
  unfold Builtin.«set.add» Builtin.Frozenset.oneOther
  simp only [List.isEmpty_nil, bind_assoc]
  unfold Builtin.Frozenset.addrOf setAdd
  refine wpAny_bind (wpAny_pure ?_)
  try dsimp only
  refine wpAny_bind (wpAny_pure ?_)
  try dsimp only
  refine wpAny_bind (wpAny_holding (wpAny_bind ((mixKind P w).pyHash hkey ?_)))
  refine setM_hashed (s := { s with toks := s.toks + 1 }) hkey hsc R room fun h' sb r b => ?_
  show wpAny _ _ (ret Value.none) _ _ _
  exact wpAny_pure ⟨_, rfl, hQ h' sb r⟩
end
/-- .. as a thing of the abstract heap -/
def SetMO (P : Program) (w : World) (a : Addr) (ks : List Key) : HO := .ext fun h => SetM P w h a ks
section
variable {X : Cx} {pins : List (Addr × Obj)} {σ : L2.St} {H : Hp} {s : Shared} {a : Addr}
theorem setMO_new {P : Program} {w : World} {H : Hp} {h : Heap} {ks : List Key} (R : SetM P w h a ks) : ObjOk P w H h a (SetMO P w a ks) := by
  refine ⟨R, ?_, fun h1 h2 r k => SetM.keep r k⟩
  obtain ⟨o, _, _, _, _, ho, _⟩ := R
  exact ⟨o, ho⟩
theorem setMO_get {ks : List Key} (I : Inv X pins σ H s) (ha : H a = some (SetMO X.prog X.w a ks)) : SetM X.prog X.w s.heap a ks := (I.hok a _ ha).1
theorem addM_ok {E : Value → Shared → Prop} {k : Key} {v : Value} {ks : List Key} {Q : Value → Shared → Prop} (I : Inv X pins σ H s) (hD : H a = some (SetMO X.prog X.w a ks)) (r : RelV (kV k) v) (room : ks.length + 1 < scanBound)
    (h : ∀ s', Inv X pins σ (upd H a (SetMO X.prog X.w a (insK k ks))) s' → Q .none s') : wpAny (model X.prog X.w) X.A (call (.builtin "set.add") [.ref a, v]) Q E s := by
  refine setM_add (kV_is r) (key_scan r) (setMO_get I hD) room fun h' sb new => h _ ?_
  have he : ∃ u, h'.get? a = some u := by
    obtain ⟨o, _, _, _, _, ho, _⟩ := new
    exact ⟨o, ho⟩
  exact I.write (e := a) (t' := s.toks + 1) (by rw [hD]; trivial) (.inl rfl) (fun b u hb hu => (sb.2 b hb).trans hu) he (setMO_new new)
/-- sorted(set of texts) -/
theorem ents_strs {P : Program} {w : World} : ∀ {ls : List Key} {zs : List Str} {l : List (Int × Value)}, ls = zs.map Sum.inr → Ents P w ls l → StrsAre (l.map (·.2)) zs
  | _, [], _, e, h => by cases h with | nil => exact .nil | cons _ _ => cases e
  | _, z :: zs, _, e, h => by
    cases h with
    | nil => cases e
    | @cons k x ks l h1 h2 =>
      simp only [List.map_cons, List.cons.injEq] at e
      obtain ⟨rfl, e⟩ := e
      obtain ⟨t, ev⟩ := Value.isStrOf_shape (x := z) (v := x.2) h1.1
      rw [List.map_cons, ev]
      exact .cons _ _ (ents_strs e h2)
theorem perm_inr : ∀ {ls : List Key} {zs : List Str}, ls.Perm (zs.map Sum.inr) → ∃ ys : List Str, ls = ys.map Sum.inr ∧ ys.Perm zs := fun {ls zs} h => by
  have e : ∀ k ∈ ls, ∃ y, k = Sum.inr y := fun k hk => by
    obtain ⟨y, _, q⟩ := List.mem_map.mp (h.mem_iff.mp hk)
    exact ⟨y, q.symm⟩
  let un : Key → Str := fun k => match k with
    | .inr y => y
    | .inl _ => Str.empty
  refine ⟨ls.map un, ?_, ?_⟩
  · rw [List.map_map]
    conv => lhs; rw [← List.map_id ls]
    apply List.map_congr_left
    intro k hk
    obtain ⟨y, rfl⟩ := e k hk
    rfl
  · have q := h.map un
    rw [List.map_map] at q
    have e2 : zs.map (un ∘ Sum.inr) = zs := by
      conv => rhs; rw [← List.map_id zs]
      apply List.map_congr_left
      intro _ _
      rfl
    rw [e2] at q
    exact q
theorem strsAre_perm {vs us : List Value} (p : vs.Perm us) : ∀ {zs : List Str}, StrsAre us zs → ∃ ys, StrsAre vs ys ∧ ys.Perm zs := by
  induction p with
  | nil => exact fun {zs} h => ⟨zs, h, .refl _⟩
  | cons x _ ih =>
    intro zs h
    cases h with
    | cons z t h2 =>
      obtain ⟨ys, h3, h4⟩ := ih h2
      exact ⟨_, .cons z t h3, h4.cons _⟩
  | swap x y l =>
    intro zs h
    cases h with
    | cons z t h2 =>
      cases h2 with
      | cons z2 t2 h3 => exact ⟨_, .cons z2 t2 (.cons z t h3), .swap _ _ _⟩
  | trans _ _ ih1 ih2 =>
    intro zs h
    obtain ⟨y1, h1, p1⟩ := ih2 h
    obtain ⟨y2, h2, p2⟩ := ih1 h1
    exact ⟨y2, h2, p2.trans p1⟩
def rSortedM (P : Program) (w : World) : List V → Hp → VK → Prop := fun xs H Q => ∃ (a : Addr) (zs : List Str), xs = [.ref a] ∧ H a = some (SetMO P w a (zs.map Sum.inr)) ∧ zs.length < 64 ∧
    ∀ ys p, ys.Perm zs → sortedS ys = true → H p = none → Q (.ref p) (upd H p (.lst (ys.map V.str)))
theorem cr_sortedM (hcalm : X.calm = true) : CallR X (.builtin "sorted") (rSortedM X.prog X.w) := by
  intro pins s σ H xs us Q I r ⟨a, zs, ex, hH, h64, q⟩
  subst ex
  cases r with
  | cons r1 r2 =>
    cases r1
    cases r2
    obtain ⟨o, es, ep, t, ls, ho, hex, hd, g, nd, pk, hb, hf, hr, hl⟩ := setMO_get I hH
    obtain ⟨z1, rfl, pz⟩ := perm_inr pk
    refine Calls.call_function_entry PyProof.Rows.kind_sorted PyProof.Rows.plain_sorted PyProof.Rows.entry_sorted (PyProof.Rows.args_sorted1 _) ?_
    unfold Builtin.«sorted»
    refine wpAny_bind (m := checkCount "sorted" 1 1 _) (wpAny_pure (wpAny_bind (collect_set (A := X.A.in1) (I.ok.hd hcalm) ⟨o, ho, hex.1, hd⟩ hf hb hr hl fun s1 vs k1 hz g1 o1 pm => ?_)))
    obtain ⟨z2, hS, p2⟩ := strsAre_perm pm (ents_strs rfl g)
    have hvl : vs.length = zs.length := by rw [pm.length_eq, List.length_map, ← g.length, List.length_map, pz.length_eq]
    have I1 : Inv X pins σ H s1 := I.call' (ch := []) o1 (Un.kept k1) (I.hok.kept k1) (by rw [g1]; exact I.bare) (fun _ z => nomatch z)
    refine wpAny_bind (wpAny_newList ?_ (by rw [hvl, sizeLine_eq]; omega))
    have hoL : (s1.heap.push (seqObj "list" vs.toArray 0)).get? s1.heap.objs.size = some (seqObj "list" vs.toArray 0) := Heap.get?_push_size _ rfl
    show wpAny _ _ _ _ _ { s1 with heap := s1.heap.push (seqObj "list" vs.toArray 0) }
    refine wpAny_bind (wpAny_holding (wpAny_call_entry PyProof.Rows.slot_list_sort ⟨_, hoL, rfl⟩ PyProof.Rows.entry_list_sort
      (list_sort_treeK strKind_oneLt (s := { s1 with heap := s1.heap.push (seqObj "list" vs.toArray 0) }) hoL hS.keysOf (fun v₁ v₂ rest e => keyKind_strs (by rw [← e]; exact hS)) (by rw [hvl]; exact h64) fun st' hp hs => ⟨_, rfl, ?_⟩) (PyProof.Rows.args_list_sort _)))
    obtain ⟨ys, g1', g2, g3⟩ := sorted_out_str hS hp hs
    obtain ⟨e', he'⟩ := PyProof.Rows.sortedHeap_at (vs := vs) (out := (arrOf st').map (·.2)) hoL
    have hlen : (ys.map V.str).length ≤ sizeLine := by
      rw [List.length_map, g2.length_eq, p2.length_eq, pz.length_eq]
      exact Nat.le_trans (Nat.le_of_lt h64) (by decide)
    refine wpAny_pure ⟨_, rfl, .ref s1.heap.objs.size, upd H s1.heap.objs.size (.lst (ys.map V.str)), I1.laid (t' := s1.toks) (fun b u e => ?_) (Nat.le_refl _) ⟨hlen, ((arrOf st').map (·.2)).toList, e', vals_of_strs g1', by rw [Array.toArray_toList]; exact he'⟩, rfl, q ys _ (g2.trans (p2.trans pz)) g3 (I1.hok.fresh (Nat.le_refl _))⟩
    have hlt := Heap.lt_size e
    rw [PyProof.Rows.sortedHeap_old (Nat.ne_of_lt hlt) (by rw [size_push']; exact Nat.lt_succ_of_lt hlt)]
    exact Heap.get?_push_of_some _ e
end
end Ev
namespace Ev
open PySem PySem.Spec PyProof.Rows L2
/-! ### set comprehensions of two clauses -/
section
variable {P : Program} {w : World} {A : Around} {R : Result → Shared → Prop} {s : Shared} {elt t0 i0 t1 i1 : Expr} {fs0 fs1 : List Expr} {sc : Scope} {ps : Pos} {it acc : Value} {env : PySem.Env}
theorem turnS_out (it acc : Value) : compTurn (.SetComp elt [⟨t0, i0, fs0, 0⟩, ⟨t1, i1, fs1, 0⟩] sc ps) 0 it acc env = (do
      standAt i0.pos
      match ← pyNext it with
      | none => pure (.done .next)
      | some v =>
        letOwnedTupleGo t0 it v
        assign t0 env v
        let mut ok := true
        for c in fs0 do
          if ok then ok ← isTrue c env (eval c env)
        if ok then
          let x ← eval i1 env
          standAt i1.pos
          let x ← foldedSetIterable i1 env x
          let _ ← runOwn (.compStart (.SetComp elt [⟨t0, i0, fs0, 0⟩, ⟨t1, i1, fs1, 0⟩] sc ps) 1 (← holding [x] (pyIter x)) acc env) env
        again (.compLoop (.SetComp elt [⟨t0, i0, fs0, 0⟩, ⟨t1, i1, fs1, 0⟩] sc ps) 0 it acc env)) := by rfl
theorem turnS_in (it acc : Value) : compTurn (.SetComp elt [⟨t0, i0, fs0, 0⟩, ⟨t1, i1, fs1, 0⟩] sc ps) 1 it acc env = (do
      standAt i1.pos
      match ← pyNext it with
      | none => pure (.done .next)
      | some v =>
        letOwnedTupleGo t1 it v
        assign t1 env v
        let mut ok := true
        for c in fs1 do
          if ok then ok ← isTrue c env (eval c env)
        if ok then
          (do let v ← eval elt env; standAt elt.pos; let _ ← call (.builtin "set.add") [acc, v])
        again (.compLoop (.SetComp elt [⟨t0, i0, fs0, 0⟩, ⟨t1, i1, fs1, 0⟩] sc ps) 1 it acc env)) := by rfl
theorem loopS_out (hs : ∀ x, foldedSetIterable i1 env x = pure x) (J : Nat → Shared → Prop)
    (turn : ∀ n s, J n s → wpAny (model P w) A (pyNext it) (fun r s1 => match r with
      | none => R (.ok .next) s1
      | some v => wpAny (model P w) A (letOwnedTupleGo t0 it v) (fun _ s2 => wpAny (model P w) A (assign t0 env v) (fun _ s3 => wpAny (model P w) A (forIn fs0 true fun c r => if r = true then do let ok ← isTrue c env (eval c env); pure (ForInStep.yield ok) else pure (ForInStep.yield r)) (fun ok s4 =>
            if ok = true then wpAny (model P w) A (eval i1 env) (fun x s5 => wpAny (model P w) A (pyIter x) (fun j s6 => codeAny (model P w) A (.compStart (.SetComp elt [⟨t0, i0, fs0, 0⟩, ⟨t1, i1, fs1, 0⟩] sc ps) 1 j acc env) (fun r s' => match r with
                | .ok _ => ∃ m, m < n ∧ J m s'
                | .error _ => False) s6) (notedBy (model P w) A env fun e s' => R (.error e) s') s5) (notedBy (model P w) A env fun e s' => R (.error e) s') s4 else ∃ m, m < n ∧ J m s4) (notedBy (model P w) A env fun e s' => R (.error e) s') s3) (notedBy (model P w) A env fun e s' => R (.error e) s') s2) (notedBy (model P w) A env fun e s' => R (.error e) s') s1) (notedBy (model P w) A env fun e s' => R (.error e) s') s)
    (n : Nat) (h : J n s) : codeAny (model P w) A (.compLoop (.SetComp elt [⟨t0, i0, fs0, 0⟩, ⟨t1, i1, fs1, 0⟩] sc ps) 0 it acc env) R s := by
  refine codeAny_loop rfl J (fun n s hJ => ?_) n h
  show wpAny _ A ((compTurn (.SetComp elt [⟨t0, i0, fs0, 0⟩, ⟨t1, i1, fs1, 0⟩] sc ps) 0 it acc env).onRaise (fun x => do noteFrame x env; theTreesLotGoes x)) _ _ s
  refine wpAny_noted ?_
  rw [turnS_out]
  refine wpAny_bind (wpAny_standAt (wpAny_bind (wpAny_mono (turn n s hJ) (fun r s1 q1 => ?_) fun _ _ z => z)))
  cases r with
  | none => exact wpAny_pure q1
  | some v =>
    refine wpAny_bind (wpAny_mono q1 (fun _ s2 q2 => wpAny_bind (wpAny_mono q2 (fun _ s3 q3 => wpAny_bind (wpAny_mono q3 (fun ok s4 q4 => ?_) fun _ _ z => z)) fun _ _ z => z)) fun _ _ z => z)
    cases ok with
    | false => exact wpAny_pure ⟨rfl, q4⟩
    | true =>
      refine wpAny_bind (wpAny_mono q4 (fun x s5 q5 => wpAny_bind (wpAny_standAt (wpAny_bind (wpAny_of_eq (hs x) (wpAny_bind (wpAny_holding (wpAny_mono q5 (fun j s6 q6 => ?_) fun _ _ z => z))))))) fun _ _ z => z)
      refine wpAny_bind (wpAny_runOwn ?_)
      rw [Around.mark_none]
      refine codeAny_mono q6 fun r s' hr => ?_
      cases r with
      | ok f => first | exact wpAny_pure ⟨rfl, hr⟩ | exact wpAny_bind (wpAny_pure (wpAny_pure ⟨rfl, hr⟩))
      | error e => exact hr.elim
theorem loopS_in (J : Nat → Shared → Prop)
    (turn : ∀ n s, J n s → wpAny (model P w) A (pyNext it) (fun r s1 => match r with
      | none => R (.ok .next) s1
      | some v => wpAny (model P w) A (letOwnedTupleGo t1 it v) (fun _ s2 => wpAny (model P w) A (assign t1 env v) (fun _ s3 => wpAny (model P w) A (forIn fs1 true fun c r => if r = true then do let ok ← isTrue c env (eval c env); pure (ForInStep.yield ok) else pure (ForInStep.yield r)) (fun ok s4 =>
            if ok = true then wpAny (model P w) A (eval elt env) (fun x s5 => wpAny (model P w) A (call (.builtin "set.add") [acc, x]) (fun _ s6 => ∃ m, m < n ∧ J m s6) (notedBy (model P w) A env fun e s' => R (.error e) s') s5) (notedBy (model P w) A env fun e s' => R (.error e) s') s4 else ∃ m, m < n ∧ J m s4) (notedBy (model P w) A env fun e s' => R (.error e) s') s3) (notedBy (model P w) A env fun e s' => R (.error e) s') s2) (notedBy (model P w) A env fun e s' => R (.error e) s') s1) (notedBy (model P w) A env fun e s' => R (.error e) s') s)
    (n : Nat) (h : J n s) : codeAny (model P w) A (.compLoop (.SetComp elt [⟨t0, i0, fs0, 0⟩, ⟨t1, i1, fs1, 0⟩] sc ps) 1 it acc env) R s := by
  refine codeAny_loop rfl J (fun n s hJ => ?_) n h
  show wpAny _ A ((compTurn (.SetComp elt [⟨t0, i0, fs0, 0⟩, ⟨t1, i1, fs1, 0⟩] sc ps) 1 it acc env).onRaise (fun x => do noteFrame x env; theTreesLotGoes x)) _ _ s
  refine wpAny_noted ?_
  rw [turnS_in]
  refine wpAny_bind (wpAny_standAt (wpAny_bind (wpAny_mono (turn n s hJ) (fun r s1 q1 => ?_) fun _ _ z => z)))
  cases r with
  | none => exact wpAny_pure q1
  | some v =>
    refine wpAny_bind (wpAny_mono q1 (fun _ s2 q2 => wpAny_bind (wpAny_mono q2 (fun _ s3 q3 => wpAny_bind (wpAny_mono q3 (fun ok s4 q4 => ?_) fun _ _ z => z)) fun _ _ z => z)) fun _ _ z => z)
    cases ok with
    | false => exact wpAny_pure ⟨rfl, q4⟩
    | true =>
      exact wpAny_bind (wpAny_bind (wpAny_mono q4 (fun x s5 q5 => wpAny_bind (wpAny_standAt (wpAny_bind (wpAny_mono q5 (fun _ s6 q6 => wpAny_pure (wpAny_pure ⟨rfl, q6⟩)) fun _ _ z => z)))) fun _ _ z => z))
theorem startS_1 (h0 : codeAny (model P w) A (.compLoop (.SetComp elt [⟨t0, i0, fs0, 0⟩, ⟨t1, i1, fs1, 0⟩] sc ps) 1 it acc env) R s)
    (h : wpAny (model P w) A (pyIter it) (fun j s' => codeAny (model P w) A (.compLoop (.SetComp elt [⟨t0, i0, fs0, 0⟩, ⟨t1, i1, fs1, 0⟩] sc ps) 1 j acc env) R s') (notedBy (model P w) A env fun x s' => R (.error x) s') s) : codeAny (model P w) A (.compStart (.SetComp elt [⟨t0, i0, fs0, 0⟩, ⟨t1, i1, fs1, 0⟩] sc ps) 1 it acc env) R s := by
  refine codeAny_of_tree ?_
  show wpAny _ _ ((compStart (.SetComp elt [⟨t0, i0, fs0, 0⟩, ⟨t1, i1, fs1, 0⟩] sc ps) 1 it acc env).onRaise (fun x => do noteFrame x env; standAt theWindowsPlace)) _ _ s
  refine wpAny_notedAt ?_
  unfold compStart
  show wpAny _ _ (ask >>= _) _ _ s
  refine wpAny_bind (wpAny_askSetting (wpAny_ite ?_))
  have fin : wpAny (model P w) A (pyIter it) (fun j s' => wpAny (model P w) A (again (.compLoop (.SetComp elt [⟨t0, i0, fs0, 0⟩, ⟨t1, i1, fs1, 0⟩] sc ps) 1 j acc env)) (fun fin s' => match fin with
    | .done f => R (.ok f) s'
    | .again c => c.quiet = true ∧ codeAny (model P w) A c R s') (notedBy (model P w) A env fun x s' => R (.error x) s') s') (notedBy (model P w) A env fun x s' => R (.error x) s') s := wpAny_mono h (fun j s' q => wpAny_pure ⟨rfl, q⟩) fun _ _ z => z
  split
  · first
      | exact wpAny_bind (wpAny_pure (wpAny_pure ⟨rfl, h0⟩))
      | exact wpAny_pure ⟨rfl, h0⟩
  · first
      | exact wpAny_bind (wpAny_rule (wpAny_bind (wpAny_standAt (wpAny_bind fin))))
      | (refine wpAny_bind (wpAny_rule ?_); show wpAny _ _ (standAt i1.pos >>= _) _ _ s; exact wpAny_bind (wpAny_standAt (wpAny_bind fin)))
end
end Ev
namespace Ev
open PySem PySem.Spec PyProof.Rows L2
section
variable {X : Cx}
/-- D: the new set; W: what holds ahead of a turn of the first clause, W1: of the second -/
def tSc2 (P : Program) (w : World) (wi : TI) (g : TG) (tt : TT) (wi1 : TI) (g1 : TG) (tt1 : TT) (te : TE) (vs vs1 : List Nat) : TE := fun σ H Q => wi σ H fun J H1 => ∀ D, H1 D = none → ∃ W : Nat → Nat → Hp → Prop, (∃ m, W 0 m (upd H1 D (SetMO P w D []))) ∧ ∀ i m H, W i m H →
  (J.stop i H ∧ Q (.ref D) H) ∨ (J.go i H ∧ ∃ Nx : Hp → Prop, (∀ H', Nx H' → ∃ m', m' < m ∧ W (i + 1) m' H') ∧ ∀ x H', J.yld i H x H' → g x (L2.wipe σ vs) H' fun σ2 H2 => L2.wipe σ2 vs = L2.wipe σ vs ∧ tt σ2 H2 fun b H3 =>
    if b = true then wi1 σ2 H3 fun J1 H4 => ∃ W1 : Nat → Nat → Hp → Prop, (∃ m, W1 0 m H4) ∧ ∀ j k H, W1 j k H →
      (J1.stop j H ∧ Nx H) ∨ (J1.go j H ∧ ∃ Nx1 : Hp → Prop, (∀ H', Nx1 H' → ∃ k', k' < k ∧ W1 (j + 1) k' H') ∧ ∀ x H', J1.yld j H x H' → g1 x (L2.wipe σ2 vs1) H' fun σ3 H5 => L2.wipe σ3 vs1 = L2.wipe σ2 vs1 ∧ tt1 σ3 H5 fun b H6 =>
        if b = true then te σ3 H6 fun y H7 => ∃ kx ks, y = kV kx ∧ H7 D = some (SetMO P w D ks) ∧ ks.length + 1 < scanBound ∧ Nx1 (upd H7 D (SetMO P w D (insK kx ks))) else Nx1 H6)
    else Nx H3)
theorem sc2_core {pins : List (Addr × Obj)} {s : Shared} {σ : L2.St} {H : Hp} {Q : VK} {elt tg iter tg1 iter1 : Expr} {fs0 fs1 : List Expr} {scope : Scope} {own : List (PySem.Str × Nat)} {vs1 : List Nat} {pos : Pos} {wi wi1 : TI} {g g1 : TG} {tt tt1 : TT} {te : TE} {pos' : Pos} {use : Option (Value → Sem Unit)} {Qf : Value → Shared → Prop}
    (hc : X.calm = true) (hN : X.N.Nodup) (hi : PI X tg iter wi) (ok : BlkOk X.N X.env.scope scope own) (hv : ∀ i ∈ vs1, i ∈ own.map (·.2))
    (hg : ∀ (s : Shared) (H : Hp) (C : Addr) (cl : List (PySem.Str × Addr)) (fp : List Addr), PG (X.blk s H scope (compEnvC scope cl C X.env) fp) tg g) (ht : ∀ (s : Shared) (H : Hp) (C : Addr) (cl : List (PySem.Str × Addr)) (fp : List Addr), PTs (X.blk s H scope (compEnvC scope cl C X.env) fp) fs0 tt) (hi1 : ∀ (s : Shared) (H : Hp) (C : Addr) (cl : List (PySem.Str × Addr)) (fp : List Addr), PI (X.blk s H scope (compEnvC scope cl C X.env) fp) tg1 iter1 wi1) (hg1 : ∀ (s : Shared) (H : Hp) (C : Addr) (cl : List (PySem.Str × Addr)) (fp : List Addr), PG (X.blk s H scope (compEnvC scope cl C X.env) fp) tg1 g1) (ht1 : ∀ (s : Shared) (H : Hp) (C : Addr) (cl : List (PySem.Str × Addr)) (fp : List Addr), PTs (X.blk s H scope (compEnvC scope cl C X.env) fp) fs1 tt1) (he : ∀ (s : Shared) (H : Hp) (C : Addr) (cl : List (PySem.Str × Addr)) (fp : List Addr), PE (X.blk s H scope (compEnvC scope cl C X.env) fp) elt te)
    (hs : ∀ x, foldedSetIterable iter X.env x = pure x) (hs1 : ∀ env x, foldedSetIterable iter1 env x = pure x) (I : Inv X pins σ H s) (h : tSc2 X.prog X.w wi g tt wi1 g1 tt1 te (own.map (·.2)) vs1 σ H Q)
    (hRR : ∀ D C s' m H', Inv X pins σ H' s' → Q (.ref D) H' → s'.heap.Ns C m → FpOk X pins H' C → compPost (model X.prog X.w) X.A X.xe use Qf (.ref D) C (.ok .next) s') :
    wpAny (model X.prog X.w) X.A (comprehension (.SetComp elt [⟨tg, iter, fs0, 0⟩, ⟨tg1, iter1, fs1, 0⟩] scope pos) scope X.env pos' (newSet (.type "set")) false (eval iter X.env) use) Qf X.xe s := by
  have hfree : ∀ y ∈ scope.names, y.2 = .free → ∃ c, X.env.cells.lookup y.1 = some c := fun y hy e => (ok.free y hy e).elim (fun k => I.ok.has _ (.inl k)) fun k => I.ok.has _ (.inr k)
  refine wpAny_comprehension_free (use := use) rfl hs (closure_ok hfree) ok.kind (fun y hy e => by rw [ok.uniq y hy, e]) (thn (hi.run pins s σ H _ I h) fun xv s1 hx => thn hx fun itv s2 h2 => ?_)
  obtain ⟨it, fp, tn, J, H2, e, I2, T, st2, f2, q⟩ := h2
  subst e
  refine PpSet.newSet_ok (newEnv_comp ?_)
  generalize hD : s2.heap.objs.size = D
  have hDn : H2 D = none := I2.hok.fresh (Nat.le_of_eq hD)
  obtain ⟨W, ⟨m0, w0⟩, turn⟩ := q D hDn
  generalize hs3 : ({ s2 with heap := s2.heap.push { cls := .type "set", dict := none, data := .set #[] 0 (.fresh 0 0 (!X.w.params.followText "set-order")) } } : Shared) = s3
  have h3 : s3.heap = s2.heap.push { cls := .type "set", dict := none, data := .set #[] 0 (.fresh 0 0 (!X.w.params.followText "set-order")) } := by rw [← hs3]
  have new : SetM X.prog X.w s3.heap D [] := by rw [h3, ← hD]; exact setM_fresh X.w
  have I3 : Inv X pins σ (upd H2 D (SetMO X.prog X.w D [])) s3 := by
    have z := I2.laid (t' := s2.toks) (h' := s3.heap) (fun b o e => by rw [h3]; exact Heap.get?_push_of_some _ e) (Nat.le_of_eq hD) (setMO_new (H := upd H2 D (SetMO X.prog X.w D [])) new)
    rw [← hs3] at z ⊢
    exact z
  have lt2 : ∀ b ∈ fp, b < s2.heap.objs.size := fun b hb => let ⟨o, e, _⟩ := T.obj _ _ st2 b hb; Heap.lt_size e
  have f3 : ∀ b ∈ fp, FpOk X pins (upd H2 D (SetMO X.prog X.w D [])) b ∧ b < s3.heap.objs.size := fun b hb => by
    refine ⟨⟨?_, (f2 b hb).2⟩, by rw [h3, Heap.size_push]; exact Nat.lt_succ_of_lt (lt2 b hb)⟩
    rw [upd_ne (by rw [← hD]; exact Nat.ne_of_lt (lt2 b hb))]
    exact (f2 b hb).1
  have st3 : tn 0 s3.heap := T.keep _ _ _ st2 fun b _ o e => by rw [h3]; exact Heap.get?_push_of_some _ e
  have I4 := block_start I3 ok hN f3
  let cl := cellsFrom (s3.heap.objs.size + 1) scope.names (cloFrom X.env.cells scope.names [])
  have pg := hg s3 (upd H2 D (SetMO X.prog X.w D [])) s3.heap.objs.size cl fp
  have pt := ht s3 (upd H2 D (SetMO X.prog X.w D [])) s3.heap.objs.size cl fp
  have pe := he s3 (upd H2 D (SetMO X.prog X.w D [])) s3.heap.objs.size cl fp
  have pi1 := hi1 s3 (upd H2 D (SetMO X.prog X.w D [])) s3.heap.objs.size cl fp
  have pg1 := hg1 s3 (upd H2 D (SetMO X.prog X.w D [])) s3.heap.objs.size cl fp
  have pt1 := ht1 s3 (upd H2 D (SetMO X.prog X.w D [])) s3.heap.objs.size cl fp
  show codeAny _ _ (.compStart (.SetComp elt [⟨tg, iter, fs0, 0⟩, ⟨tg1, iter1, fs1, 0⟩] scope pos) 0 (.ref it) (.ref D) (compEnvC scope cl s3.heap.objs.size X.env)) (compPost (model X.prog X.w) X.A X.xe use Qf (.ref D) s3.heap.objs.size) { s3 with heap := pushCells (s3.heap.push { cls := .type "dict", data := .dict #[] }) scope.names }
  have nfp : ∀ b ∈ fp, (upd H2 D (SetMO X.prog X.w D [])) b = none := fun b hb => (f3 b hb).1.1
  generalize hce : compEnvC scope cl s3.heap.objs.size X.env = ce at I4 pg pt pe pi1 pg1 pt1 ⊢
  have cL : ce.locals = s3.heap.objs.size := by subst hce; rfl
  generalize hH3 : upd H2 D (SetMO X.prog X.w D []) = H3 at I3 I4 pg pt pe pi1 pg1 pt1 w0 nfp f3
  generalize hs4 : ({ s3 with heap := pushCells (s3.heap.push { cls := .type "dict", data := .dict #[] }) scope.names } : Shared) = s4 at I4 ⊢
  have st4 : tn 0 s4.heap := T.keep _ _ _ st3 fun b _ o e => by rw [← hs4]; exact pushCells_keeps _ _ _ _ (Heap.get?_push_of_some _ e)
  let B := X.blk s3 H3 scope ce fp
  let σ0 := L2.wipe σ (own.map (·.2))
  have stat : ∀ {σ' : L2.St} {H' : Hp} {s' : Shared}, Inv B [] σ' H' s' → (∀ b ∈ fp, H' b = none) → ∀ b ∈ fp, FpOk B [] H' b := fun {σ' H' s'} I' hn b hb =>
    ⟨hn b hb, (I'.ok.exf b hb).1, I'.ok.exfs b hb, .inl hb, fun x c e => (I'.ok.exf b hb).2 x c e, fun p hp => absurd (show p ∈ ([] : List (Addr × Obj)) ++ [] from hp) (by simp)⟩
  let Inv0 : Nat → Shared → Prop := fun n s' => ∃ i H', Inv B [] σ0 H' s' ∧ tn i s'.heap ∧ (∀ b ∈ fp, H' b = none) ∧ W i n H'
  have loop : codeAny (model X.prog X.w) X.A (.compLoop (.SetComp elt [⟨tg, iter, fs0, 0⟩, ⟨tg1, iter1, fs1, 0⟩] scope pos) 0 (.ref it) (.ref D) ce) (compPost (model X.prog X.w) X.A X.xe use Qf (.ref D) s3.heap.objs.size) s4 := by
    refine loopS_out (hs1 ce) Inv0 ?_ m0 ⟨0, H3, I4, st4, nfp, w0⟩
    rintro n s5 ⟨i, H5, I5, st5, n5, w5⟩
    rcases turn i n H5 w5 with ⟨stop, qq⟩ | ⟨go, Nx, hNx, step⟩
    · refine thnF (T.done B rfl rfl rfl hc i [] s5 _ H5 (fun _ _ => False) I5 (stat I5 n5) st5 stop) fun r s6 ⟨hr, I6⟩ => ?_
      subst hr
      have I7 : Inv X pins σ H5 s6 := I3.call' (ch := fp) I6.os I6.base I6.hok I6.bare fun b hb => ⟨(f3 b hb).1.2.2.2.1, (f3 b hb).1.2.1, (f3 b hb).1.2.2.2.2.1, (f3 b hb).1.2.2.2.2.2⟩
      have nC : H5 s3.heap.objs.size = none := by
        have z : H5 ce.locals = none := I6.free
        rwa [cL] at z
      obtain ⟨m, hn, _⟩ := I6.loc
      have hn : s6.heap.Ns ce.locals m := hn
      rw [cL] at hn
      exact hRR D s3.heap.objs.size s6 m H5 I7 qq hn (I3.fpOk (Nat.le_refl _) nC)
    · refine thnF (T.item B rfl rfl rfl hc i [] s5 _ H5 (fun _ _ => False) I5 (stat I5 n5) st5 go) fun r s6 ⟨u, hr, h6⟩ => ?_
      subst hr
      refine thnF h6 fun _ s7 ⟨x, H7, I7, r7, y7, st7, n7⟩ => ?_
      have P7 := I7.pinned (stat I7 n7) (T.obj _ _ st7)
      refine thnF (pg.run _ s7 _ H7 x u _ P7 r7 (step x H7 y7)) fun _ s8 ⟨σ8, H8, I8, hw8, q8⟩ => thnF (pt.run _ s8 σ8 H8 _ I8 q8) fun b s9 ⟨H9, I9, q9⟩ => ?_
      have fin : ∀ {σ9 : L2.St} {s' : Shared} {H' : Hp}, Inv B ([] ++ pinsAt fp s7.heap) σ9 H' s' → σ0.length = σ9.length → (∀ (j : Nat) v, σ0[j]? = some (some v) → σ9[j]? = some (some v)) → Nx H' → ∃ m, m < n ∧ Inv0 m s' := fun {σ9 s' H'} I' hl hk nx => by
        obtain ⟨m', hm, w'⟩ := hNx H' nx
        have pin' : ∀ b ∈ fp, ∀ o, s7.heap.get? b = some o → s'.heap.get? b = some o ∧ H' b = none := fun b hb o e =>
          let z := I'.pin (b, o) (List.mem_append_right _ (List.mem_append_right _ (mem_pinsAt hb e)))
          ⟨z.1, z.2.1⟩
        exact ⟨m', hm, i + 1, H', (I'.unpinned (pins := [])).weak hl hk, T.keep _ _ _ st7 fun b hb o e => (pin' b hb o e).1, fun b hb => let ⟨o, e, _⟩ := T.obj _ _ st7 b hb; (pin' b hb o e).2, w'⟩
      have hl8 : σ0.length = σ8.length := by
        show (L2.wipe σ (own.map (·.2))).length = _
        rw [← hw8, wipe_length]
      have hk8 : ∀ (j : Nat) v, σ0[j]? = some (some v) → σ8[j]? = some (some v) ∧ j ∉ own.map (·.2) := fun j v e => by
        have e : (L2.wipe σ (own.map (·.2)))[j]? = some (some v) := e
        rw [← hw8] at e
        exact wipe_some e
      cases b with
      | false =>
        simp only [Bool.false_eq_true, if_false] at q9 ⊢
        exact fin I9 hl8 (fun j v e => (hk8 j v e).1) q9
      | true =>
        simp only [if_true] at q9 ⊢
        refine thnF (pi1.run _ s9 σ8 H9 _ I9 q9) fun xv s10 hx => thnF hx fun itv s11 h11 => ?_
        obtain ⟨it1, fp1, tn1, J1, H11, e1, I11, T1, st11, f11, W1, ⟨m1, w1⟩, turn1⟩ := h11
        subst e1
        have stat1 : ∀ {H' : Hp}, (∀ b ∈ fp1, H' b = none) → ∀ b ∈ fp1, FpOk B ([] ++ pinsAt fp s7.heap) H' b := fun hn b hb => ⟨hn b hb, (f11 b hb).2⟩
        let Inv1 : Nat → Shared → Prop := fun k s' => ∃ j H', Inv B ([] ++ pinsAt fp s7.heap) (L2.wipe σ8 vs1) H' s' ∧ tn1 j s'.heap ∧ (∀ b ∈ fp1, H' b = none) ∧ W1 j k H'
        have loop1 : codeAny (model X.prog X.w) X.A (.compLoop (.SetComp elt [⟨tg, iter, fs0, 0⟩, ⟨tg1, iter1, fs1, 0⟩] scope pos) 1 (.ref it1) (.ref D) ce) (fun r s' => match r with
              | .ok _ => ∃ m, m < n ∧ Inv0 m s'
              | .error _ => False) s11 := by
          refine loopS_in Inv1 ?_ m1 ⟨0, H11, I11.weak (wipe_length _ _) (fun j v e => (wipe_some e).1), st11, fun b hb => (f11 b hb).1, w1⟩
          rintro k s12 ⟨j, H12, I12, st12, n12, w12⟩
          rcases turn1 j k H12 w12 with ⟨stop1, nx1⟩ | ⟨go1, Nx1, hNx1, step1⟩
          · refine thnF (T1.done B rfl rfl rfl hc j _ s12 (L2.wipe σ8 vs1) H12 (fun _ _ => False) I12 (stat1 n12) st12 stop1) fun r s13 ⟨hr, I13⟩ => ?_
            subst hr
            refine fin I13 (hl8.trans (wipe_length σ8 vs1).symm) (fun j v e => ?_) nx1
            obtain ⟨e1, e2⟩ := hk8 j v e
            rw [wipe_out fun z => e2 (hv j z)]
            exact e1
          · refine thnF (T1.item B rfl rfl rfl hc j _ s12 (L2.wipe σ8 vs1) H12 (fun _ _ => False) I12 (stat1 n12) st12 go1) fun r s13 ⟨u1, hr, h13⟩ => ?_
            subst hr
            refine thnF h13 fun _ s14 ⟨x1, H14, I14, r14, y14, st14, n14⟩ => ?_
            have P14 := I14.pinned (stat1 n14) (T1.obj _ _ st14)
            refine thnF (pg1.run _ s14 (L2.wipe σ8 vs1) H14 x1 u1 _ P14 r14 (step1 x1 H14 y14)) fun _ s15 ⟨σ15, H15, I15, hw15, q15⟩ => thnF (pt1.run _ s15 σ15 H15 _ I15 q15) fun b1 s16 ⟨H16, I16, q16⟩ => ?_
            have fin1 : ∀ {s' : Shared} {H' : Hp}, Inv B (([] ++ pinsAt fp s7.heap) ++ pinsAt fp1 s14.heap) σ15 H' s' → Nx1 H' → ∃ m, m < k ∧ Inv1 m s' := fun {s' H'} I' nx => by
              obtain ⟨m', hm, w'⟩ := hNx1 H' nx
              have pin' : ∀ b ∈ fp1, ∀ o, s14.heap.get? b = some o → s'.heap.get? b = some o ∧ H' b = none := fun b hb o e =>
                let z := I'.pin (b, o) (List.mem_append_right _ (List.mem_append_right _ (mem_pinsAt hb e)))
                ⟨z.1, z.2.1⟩
              exact ⟨m', hm, j + 1, H', I'.unpinned.weak (by rw [← hw15, wipe_length]) (fun j v e => by rw [← hw15] at e; exact (wipe_some e).1), T1.keep _ _ _ st14 fun b hb o e => (pin' b hb o e).1, fun b hb => let ⟨o, e, _⟩ := T1.obj _ _ st14 b hb; (pin' b hb o e).2, w'⟩
            cases b1 with
            | false =>
              simp only [Bool.false_eq_true, if_false] at q16 ⊢
              exact fin1 I16 q16
            | true =>
              simp only [if_true] at q16 ⊢
              refine thnF (pe.run _ s16 σ15 H16 _ I16 q16) fun z s17 ⟨yv, H17, I17, r17, kx, ks, ey, hD17, hz17, nx⟩ => ?_
              subst ey
              exact addM_ok (X := B) I17 hD17 r17 hz17 fun s18 I18 => fin1 I18 nx
        exact startS_1 loop1 (T1.self X.A 0 _ _ _ st11 loop1)
  exact PpSet.codeAny_compStart_set loop (T.self X.A 0 _ _ _ st4 loop)
theorem pe_sc2 {elt tg iter tg1 iter1 : Expr} {fs0 fs1 : List Expr} {scope : Scope} {own : List (PySem.Str × Nat)} {vs1 : List Nat} {pos : Pos} {wi wi1 : TI} {g g1 : TG} {tt tt1 : TT} {te : TE}
    (hc : X.calm = true) (hN : X.N.Nodup) (hi : PI X tg iter wi) (ok : BlkOk X.N X.env.scope scope own) (hv : ∀ i ∈ vs1, i ∈ own.map (·.2))
    (hg : ∀ (s : Shared) (H : Hp) (C : Addr) (cl : List (PySem.Str × Addr)) (fp : List Addr), PG (X.blk s H scope (compEnvC scope cl C X.env) fp) tg g) (ht : ∀ (s : Shared) (H : Hp) (C : Addr) (cl : List (PySem.Str × Addr)) (fp : List Addr), PTs (X.blk s H scope (compEnvC scope cl C X.env) fp) fs0 tt) (hi1 : ∀ (s : Shared) (H : Hp) (C : Addr) (cl : List (PySem.Str × Addr)) (fp : List Addr), PI (X.blk s H scope (compEnvC scope cl C X.env) fp) tg1 iter1 wi1) (hg1 : ∀ (s : Shared) (H : Hp) (C : Addr) (cl : List (PySem.Str × Addr)) (fp : List Addr), PG (X.blk s H scope (compEnvC scope cl C X.env) fp) tg1 g1) (ht1 : ∀ (s : Shared) (H : Hp) (C : Addr) (cl : List (PySem.Str × Addr)) (fp : List Addr), PTs (X.blk s H scope (compEnvC scope cl C X.env) fp) fs1 tt1) (he : ∀ (s : Shared) (H : Hp) (C : Addr) (cl : List (PySem.Str × Addr)) (fp : List Addr), PE (X.blk s H scope (compEnvC scope cl C X.env) fp) elt te) (hs : ∀ x, foldedSetIterable iter X.env x = pure x := by intro _; rfl) (hs1 : ∀ env x, foldedSetIterable iter1 env x = pure x := by intro _ _; rfl) :
    PE X (.SetComp elt [⟨tg, iter, fs0, 0⟩, ⟨tg1, iter1, fs1, 0⟩] scope pos) (tSc2 X.prog X.w wi g tt wi1 g1 tt1 te (own.map (·.2)) vs1) := by
  refine ⟨fun pins s σ H Q I h => ?_⟩
  rw [PpSet.eval_SetComp]
  refine sc2_core hc hN hi ok hv hg ht hi1 hg1 ht1 he hs hs1 I h fun D C s' m H' I' q hn f => ⟨m, hn, fun h'' sb => ?_⟩
  obtain ⟨f0, f1, f2, f3, f4, f5⟩ := f
  exact ⟨.ref D, H', I'.turned (t' := s'.toks) (fun b o hb e => (sb.2 b hb).trans e) f0 f1 f3 f4 f5, rfl, q⟩
end
end Ev
namespace Ev
open PySem PySem.Spec PyProof.Rows L2
section
variable {X : Cx} {S : Stat} {W : WX} {P : Program} {w : World}
/-! ### sets made and sorted -/
def keyD : D → Option Key
  | .int i => some (.inl i)
  | .str z => some (.inr z)
  | _ => none
def isKey (d : D) : Bool := (keyD d).isSome
def dedK (ds : List D) : List Key := (ds.filterMap keyD).foldl (fun ks k => insK k ks) []
theorem dedK_add {ds : List D} {d : D} {k : Key} (h : keyD d = some k) : dedK (ds ++ [d]) = insK k (dedK ds) := by
  unfold dedK
  rw [List.filterMap_append, List.foldl_append]
  simp [h]
theorem insK_len (k : Key) (ks : List Key) : (insK k ks).length ≤ ks.length + 1 := by
  unfold insK
  split <;> simp
theorem foldK_len : ∀ (l ks : List Key), (l.foldl (fun ks k => insK k ks) ks).length ≤ ks.length + l.length
  | [], ks => by simp
  | k :: l, ks => by
    have h1 := foldK_len l (insK k ks)
    have h2 := insK_len k ks
    simp only [List.foldl_cons, List.length_cons]
    omega
theorem filterK_len : ∀ ds : List D, (ds.filterMap keyD).length ≤ ds.length := fun ds => List.length_filterMap_le _ _
theorem dedK_len (ds : List D) : (dedK ds).length ≤ ds.length := by
  have h1 := foldK_len (ds.filterMap keyD) []
  have h2 := filterK_len ds
  simp only [List.length_nil] at h1
  unfold dedK
  omega
theorem keyD_rel {m : Mv} {H : Hp} {d : D} {v : V} {k : Key} (h : keyD d = some k) (r : Rr S m H d v) : v = kV k := by
  cases d with
  | int i => cases h; exact r.int_inv
  | str z => cases h; exact r.str_inv
  | _ => cases h
/-- each text once -/
def insU (z : Str) (zs : List Str) : List Str := if (zs.any fun j => decide (j = z)) = true then zs else z :: zs
def dedS (zs : List Str) : List Str := zs.foldl (fun ks k => insU k ks) []
theorem insU_key (z : Str) (zs : List Str) : (insU z zs).map (Sum.inr : Str → Key) = insK (.inr z) (zs.map Sum.inr) := by
  unfold insU insK
  have e : ((zs.map (Sum.inr : Str → Key)).any fun j => decide (j = Sum.inr z)) = zs.any fun j => decide (j = z) := by
    rw [List.any_map]
    congr 1
    funext j
    simp
  rw [e]
  split <;> simp
theorem foldU_key : ∀ (zs ks : List Str), (zs.foldl (fun ks k => insU k ks) ks).map (Sum.inr : Str → Key) = (zs.map Sum.inr).foldl (fun ks k => insK k ks) (ks.map Sum.inr)
  | [], ks => rfl
  | z :: zs, ks => by
    simp only [List.foldl_cons, List.map_cons]
    rw [foldU_key zs, insU_key]
theorem strsOf_map' : ∀ {ds : List D} {zs : List Str}, strsOf ds = some zs → ds = zs.map .str
  | [], zs, h => by simp [strsOf] at h; subst h; rfl
  | d :: r, zs, h => by
    cases d with
    | str x =>
      simp only [strsOf] at h
      cases e : strsOf r with
      | none => rw [e] at h; cases h
      | some ys =>
        rw [e] at h
        have h2 : x :: ys = zs := Option.some.inj h
        subst h2
        rw [List.map_cons, ← strsOf_map' e]
    | _ => cases h
theorem strsOf_map_self : ∀ zs : List Str, strsOf (zs.map .str) = some zs
  | [] => rfl
  | z :: zs => by simp only [List.map_cons, strsOf, strsOf_map_self zs]; rfl
theorem strsOf_len {ds : List D} {zs : List Str} (h : strsOf ds = some zs) : ds.length = zs.length := by rw [strsOf_map' h, List.length_map]
theorem strsOf_keys {ds : List D} {zs : List Str} (h : strsOf ds = some zs) : ds.all isKey = true := by
  rw [strsOf_map' h, List.all_map]
  exact List.all_eq_true.mpr fun _ _ => rfl
theorem dedK_strs {ds : List D} {zs : List Str} (h : strsOf ds = some zs) : dedK ds = (dedS zs).map Sum.inr := by
  unfold dedK dedS
  rw [foldU_key, strsOf_map' h]
  congr 1
  induction zs generalizing ds with
  | nil => rfl
  | cons z zs ih => simp [keyD, ← ih (strsOf_map_self zs)]
theorem dedS_len (zs : List Str) : (dedS zs).length ≤ zs.length := by
  have h : strsOf (zs.map .str) = some zs := strsOf_map_self zs
  have h1 := dedK_len (zs.map .str)
  rw [dedK_strs h, List.length_map, List.length_map] at h1
  exact h1
/-- what a comprehension's list bears: m1, H1 stand ahead of it -/
structure CompOkS (P : Program) (w : World) (S : Stat) (σ : St) (env : Env) (σo : St) (envo : Env) (m1 : Mv) (H1 : Hp) (Da : Addr) (acc : List D) (Hc : Hp) (gc : Sto) (mc : Mv) : Prop where
  rel : Rel S Hc σ env gc mc
  rel2 : Rel S Hc σo envo gc mc
  grow : Grow m1 H1 mc Hc
  dw : Da ∈ mc.W
  dm : Da ∉ mc.mu
  root : Hc Da = some (SetMO P w Da (dedK acc))
theorem CompOkS.step {σ σo : St} {env envo : Env} {m1 mc m' : Mv} {H1 Hc H' : Hp} {Da : Addr} {acc : List D} {gc g' : Sto} (c : CompOkS P w S σ env σo envo m1 H1 Da acc Hc gc mc) (q : Grow mc Hc m' H') (ok : MOk S H' g' m') : CompOkS P w S σ env σo envo m1 H1 Da acc H' g' m' := by
  have ne : Hc Da ≠ none := by rw [c.root]; simp
  refine ⟨c.rel.grow q ok, c.rel2.grow q ok, c.grow.trans q, q.wk _ c.dw, fun z => ?_, q.keep Da _ c.root c.dm⟩
  rcases q.mun Da z with z | z
  · exact c.dm z
  · exact ne z
/-- one more member -/
theorem CompOkS.add {σ σo : St} {env envo : Env} {m1 mc : Mv} {H1 Hc : Hp} {Da : Addr} {acc : List D} {gc : Sto} {yd : D} {k : Key} (c : CompOkS P w S σ env σo envo m1 H1 Da acc Hc gc mc) (hD : H1 Da = none) (hn : NoSlot σ env Da) (hno : NoSlot σo envo Da) (hk : keyD yd = some k) :
    CompOkS P w S σ env σo envo m1 H1 Da (acc ++ [yd]) (upd Hc Da (SetMO P w Da (insK k (dedK acc)))) gc mc ∧ GrowS mc Hc mc (upd Hc Da (SetMO P w Da (insK k (dedK acc)))) := by
  refine ⟨⟨c.rel.put2 c.dw c.dm hn trivial, c.rel2.put2 c.dw c.dm hno trivial, ⟨fun a o ha hm => ?_, fun a ha => ?_, c.grow.mu, c.grow.mun, c.grow.wk, c.grow.wn, c.grow.b⟩, c.dw, c.dm, by rw [dedK_add hk, upd_same]⟩, grow_put c.dw⟩
  · rw [upd_ne (ne_of_none ha hD)]; exact c.grow.keep a o ha hm
  · by_cases hx : a = Da
    · subst hx; exact hD
    · rw [upd_ne hx] at ha; exact c.grow.liv a ha
/-- the loop of a comprehension, from acc on -/
theorem lcS_loop {J : It} {ds : List D} {tg : Tg} {t : En Bool} {e : E1} {vs ws : List Nat} {σ σo : St} {env envo : Env} {m1 : Mv} {H1 : Hp} {Da : Addr} {acc zs : List D} {Hs : Hp} {gs gE : Sto} {ms : Mv} {Fin : Hp → Prop} (hw : ∀ i ∈ ws, i ∈ vs) (hD : H1 Da = none)
    (hn : NoSlot (L2.wipe σ vs) (wipeE env vs) Da) (hno : NoSlot σo envo Da) (c0 : CompOkS P w S (L2.wipe σ vs) (wipeE env vs) σo envo m1 H1 Da acc Hs gs ms) (yl : Yields S J ms Hs ds) (ec : compL tg t e (wipeE env vs) ds gs = some (zs, gE)) (hb : (acc ++ zs).length < 64) (hk : (acc ++ zs).all isKey = true)
    (fin : ∀ Hc mc, CompOkS P w S (L2.wipe σ vs) (wipeE env vs) σo envo m1 H1 Da (acc ++ zs) Hc gE mc → GrowS ms Hs mc Hc → Fin Hc) :
    ∃ Wx : Nat → Nat → Hp → Prop, (∃ m, Wx 0 m Hs) ∧ ∀ i m H, Wx i m H → (J.stop i H ∧ Fin H) ∨ (J.go i H ∧ ∃ Nx : Hp → Prop, (∀ H', Nx H' → ∃ m', m' < m ∧ Wx (i + 1) m' H') ∧ ∀ x H', J.yld i H x H' → TGv S ws tg x (L2.wipe σ vs) H' fun σ2 H2 => L2.wipe σ2 vs = L2.wipe σ vs ∧ Tv S RQ W0 t σ2 H2 fun b H3 =>
      if b = true then Tv S (RT S) W0 e σ2 H3 fun y H4 => ∃ kx ks, y = kV kx ∧ H4 Da = some (SetMO P w Da ks) ∧ ks.length + 1 < scanBound ∧ Nx (upd H4 Da (SetMO P w Da (insK kx ks))) else Nx H3) := by
  let Inv0 : Nat → Hp → Prop := fun i Hc => ∃ gc mc a' z', CompOkS P w S (L2.wipe σ vs) (wipeE env vs) σo envo m1 H1 Da a' Hc gc mc ∧ GrowS ms Hs mc Hc ∧ compL tg t e (wipeE env vs) (ds.drop i) gc = some (z', gE) ∧ acc ++ zs = a' ++ z'
  refine ⟨fun i k Hc => k = ds.length - i ∧ i ≤ ds.length ∧ Inv0 i Hc, ⟨ds.length, by simp, Nat.zero_le _, gs, ms, acc, zs, c0, .refl _ _, by simpa using ec, rfl⟩, ?_⟩
  rintro i k Hc ⟨rfl, hi, gc, mc, a', z', cc, gsc, ec, ey⟩
  obtain ⟨y1, y2⟩ := yl mc Hc gc gsc cc.rel.mem
  by_cases hlt : i < ds.length
  · have hd : ds[i]? = some ds[i] := by simp [hlt]
    obtain ⟨go, yd⟩ := y1 i _ hd
    have ed : ds.drop i = ds[i] :: ds.drop (i + 1) := List.drop_eq_getElem_cons hlt
    rw [ed] at ec
    simp only [compL] at ec
    refine .inr ⟨go, Inv0 (i + 1), fun H' h => ⟨ds.length - (i + 1), by omega, rfl, hlt, h⟩, fun x H' hy => ?_⟩
    obtain ⟨gr2, ok2, rx⟩ := yd x H' hy
    have c2 := cc.step gr2 ok2
    have s2 := gsc.trans (gr2.s cc.rel.mem.muW)
    refine ⟨_, gc, mc, ds[i], c2.rel, rx, ?_⟩
    cases qt : tg ds[i] (wipeE env vs) with
    | none => rw [qt] at ec; cases ec
    | some env1 =>
      rw [qt] at ec
      dsimp only at ec
      intro σ2 r3 b3
      refine ⟨wipe_but b3 hw, env1, gc, mc, r3, ?_⟩
      cases qb : t env1 gc with
      | stuck => rw [qb] at ec; cases ec
      | exc x g' => rw [qb] at ec; cases ec
      | ok b gb =>
        rw [qb] at ec
        intro b' H3 m3 gr3 ok3 eb
        have eb : b = b' := eb
        subst eb
        have r4 := r3.grow gr3 ok3
        have c3 := c2.step gr3 ok3
        have s3 := s2.trans (gr3.s c2.rel.mem.muW)
        cases b with
        | false => exact ⟨gb, m3, a', z', c3, s3, ec, ey⟩
        | true =>
          dsimp only at ec
          refine ⟨env1, gb, m3, r4, ?_⟩
          cases qe : e env1 gb with
          | stuck => rw [qe] at ec; cases ec
          | exc x g' => rw [qe] at ec; cases ec
          | ok yd ge =>
            rw [qe] at ec
            dsimp only at ec
            intro yv H5 m5 gr5 ok5 ry
            have c5 := c3.step gr5 ok5
            have s5 := s3.trans (gr5.s c3.rel.mem.muW)
            cases qz : compL tg t e (wipeE env vs) (ds.drop (i + 1)) ge with
            | none => rw [qz] at ec; cases ec
            | some zz =>
              obtain ⟨zs', g9⟩ := zz
              rw [qz] at ec
              simp only [Option.some.injEq, Prod.mk.injEq] at ec
              obtain ⟨ez, eg⟩ := ec
              subst ez eg
              have hkd : isKey yd = true := by
                rw [ey] at hk
                simp only [List.all_append, List.all_cons, Bool.and_eq_true] at hk
                exact hk.2.1
              obtain ⟨kx, hkx⟩ := Option.isSome_iff_exists.mp hkd
              obtain ⟨c6, s6⟩ := c5.add hD hn hno hkx
              refine ⟨kx, dedK a', keyD_rel hkx ry, c5.root, ?_, ge, m5, a' ++ [yd], zs', c6, s5.trans s6, qz, by rw [ey]; simp⟩
              have h2 : (acc ++ zs).length = a'.length + (zs'.length + 1) := by rw [ey]; simp
              have h3 := dedK_len a'
              have h4 : 64 < scanBound := by decide
              omega
  · have ei : i = ds.length := by omega
    subst ei
    rw [List.drop_length] at ec
    simp only [compL, Option.some.injEq, Prod.mk.injEq] at ec
    obtain ⟨ez, eg⟩ := ec
    subst ez eg
    rw [List.append_nil] at ey
    exact .inl ⟨y2, fin Hc mc (by rw [ey]; exact cc) gsc⟩
theorem compS_start {σ : St} {env : Env} {m1 : Mv} {H1 : Hp} {g1 : Sto} {Da : Addr} (r1 : Rel S H1 σ env g1 m1) (hD : H1 Da = none) (vs : List Nat) : CompOkS P w S (L2.wipe σ vs) (wipeE env vs) (L2.wipe σ vs) (wipeE env vs) m1 H1 Da [] (upd H1 Da (SetMO P w Da [])) g1 (m1.own Da) :=
  ⟨(r1.wipe vs).grow (grow_own (o := SetMO P w Da []) hD) (r1.mem.own hD trivial), (r1.wipe vs).grow (grow_own (o := SetMO P w Da []) hD) (r1.mem.own hD trivial), grow_own (o := SetMO P w Da []) hD, List.mem_cons_self, fun z => (r1.mem.free hD).1 (r1.mem.muW Da z), upd_same⟩
/-- sorted({e for .. for ..}), texts -/
def sSortK : List D → Sto → Res D := fun ys g => match strsOf ys with
  | some zs => if zs.length < 64 then .ok (.lst ((sortS (dedS zs)).map .str)) g else .stuck
  | none => .stuck
def eSortSc2 (it : En (List D)) (t1 : Tg) (c1 : En Bool) (it2 : En (List D)) (t2 : Tg) (c2 : En Bool) (e : E1) (vs vs1 : List Nat) : E1 := fun env g => (it env g).bind fun ds g1 => match comp2L t1 c1 it2 t2 c2 e vs1 (wipeE env vs) ds g1 with
  | some (ys, g2) => sSortK ys g2
  | none => .stuck
theorem sc2_read {it it2 : En (List D)} {t1 t2 : Tg} {c1 c2 : En Bool} {e : E1} {vs vs1 ws ws2 : List Nat} {σ : St} {H : Hp} {Q : VK} (hw : ∀ i ∈ ws, i ∈ vs) (hw2 : ∀ i ∈ ws2, i ∈ vs1) (hok : TgOk ws t1) (h : Tv S (RF S) W (eSortSc2 it t1 c1 it2 t2 c2 e vs vs1) σ H Q) :
    tSc2 P w (TIv S W it) (TGv S ws t1) (Tv S RQ W0 c1) (TIv S W0 it2) (TGv S ws2 t2) (Tv S RQ W0 c2) (Tv S (RT S) W0 e) vs vs1 σ H (fun v H' => rSortedM P w [v] H' Q) := by
  obtain ⟨env, g, m, r, p⟩ := h
  refine ⟨env, g, m, r, ?_⟩
  unfold eSortSc2 at p
  cases q : it env g with
  | stuck => rw [q] at p; exact p.elim
  | exc x g' => rw [q] at p; exact p
  | ok ds g1 =>
    rw [q] at p
    simp only [Res.bind] at p
    intro J H1 m1 gr ok yl Da hDa
    have r1 := r.grow gr ok
    cases qc : comp2L t1 c1 it2 t2 c2 e vs1 (wipeE env vs) ds g1 with
    | none => rw [qc] at p; exact p.elim
    | some yg =>
      obtain ⟨ys, g2⟩ := yg
      rw [qc] at p
      dsimp only at p
      unfold sSortK at p
      cases qs : strsOf ys with
      | none => rw [qs] at p; exact p.elim
      | some zs =>
        rw [qs] at p
        dsimp only at p
        have hkeys := strsOf_keys qs
        have hbig : ys.length < 64 := by
          by_cases hc : zs.length < 64
          · rw [strsOf_len qs]; exact hc
          · rw [if_neg hc] at p; exact p.elim
        rw [if_pos (by rw [← strsOf_len qs]; exact hbig)] at p
        have no2 := newO_wipe (r1.newO hDa) r1.len vs
        have c0 := compS_start (P := P) (w := w) r1 hDa vs
        have yl0 := yl.later ((grow_own (o := SetMO P w Da []) hDa).s ok.muW)
        let Inv0 : Nat → Hp → Prop := fun i Hc => ∃ gc mc a' z', CompOkS P w S (L2.wipe σ vs) (wipeE env vs) (L2.wipe σ vs) (wipeE env vs) m1 H1 Da a' Hc gc mc ∧ GrowS (m1.own Da) (upd H1 Da (SetMO P w Da [])) mc Hc ∧ comp2L t1 c1 it2 t2 c2 e vs1 (wipeE env vs) (ds.drop i) gc = some (z', g2) ∧ ys = a' ++ z'
        refine ⟨fun i k Hc => k = ds.length - i ∧ i ≤ ds.length ∧ Inv0 i Hc, ⟨ds.length, by simp, Nat.zero_le _, g1, m1.own Da, [], ys, c0, .refl _ _, by simpa using qc, rfl⟩, ?_⟩
        rintro i k Hc ⟨rfl, hi, gc, mc, a', z', cc, gsc, ec, ey⟩
        obtain ⟨y1, y2⟩ := yl0 mc Hc gc gsc cc.rel.mem
        by_cases hlt : i < ds.length
        · have hd : ds[i]? = some ds[i] := by simp [hlt]
          obtain ⟨go, yd⟩ := y1 i _ hd
          have ed : ds.drop i = ds[i] :: ds.drop (i + 1) := List.drop_eq_getElem_cons hlt
          rw [ed] at ec
          simp only [comp2L] at ec
          refine .inr ⟨go, Inv0 (i + 1), fun H' h => ⟨ds.length - (i + 1), by omega, rfl, hlt, h⟩, fun x H' hy => ?_⟩
          obtain ⟨gr2, ok2, rx⟩ := yd x H' hy
          have c2' := cc.step gr2 ok2
          have s2 := gsc.trans (gr2.s cc.rel.mem.muW)
          refine ⟨_, gc, mc, ds[i], c2'.rel, rx, ?_⟩
          cases qt : t1 ds[i] (wipeE env vs) with
          | none => rw [qt] at ec; cases ec
          | some env1 =>
            rw [qt] at ec
            dsimp only at ec
            intro σ2 r3 b3
            refine ⟨wipe_but b3 hw, env1, gc, mc, r3, ?_⟩
            cases qb : c1 env1 gc with
            | stuck => rw [qb] at ec; cases ec
            | exc x g' => rw [qb] at ec; cases ec
            | ok b gb =>
              rw [qb] at ec
              intro b' H3 m3 gr3 ok3 eb
              have eb : b = b' := eb
              subst eb
              have r4 := r3.grow gr3 ok3
              have c3 := c2'.step gr3 ok3
              have s3 := s2.trans (gr3.s c2'.rel.mem.muW)
              cases b with
              | false => exact ⟨gb, m3, a', z', c3, s3, ec, ey⟩
              | true =>
                dsimp only at ec
                refine ⟨env1, gb, m3, r4, ?_⟩
                cases qi : it2 env1 gb with
                | stuck => rw [qi] at ec; cases ec
                | exc x g' => rw [qi] at ec; cases ec
                | ok ds2 gi =>
                  rw [qi] at ec
                  dsimp only at ec
                  intro J2 H5 m5 gr5 ok5 yl5
                  have c5 := c3.step gr5 ok5
                  have s5 := s3.trans (gr5.s c3.rel.mem.muW)
                  have r5 := r4.grow gr5 ok5
                  cases qz : compL t2 c2 e (wipeE env1 vs1) ds2 gi with
                  | none => rw [qz] at ec; cases ec
                  | some zz =>
                    obtain ⟨y2s, g9⟩ := zz
                    rw [qz] at ec
                    dsimp only at ec
                    cases qr : comp2L t1 c1 it2 t2 c2 e vs1 (wipeE env vs) (ds.drop (i + 1)) g9 with
                    | none => rw [qr] at ec; cases ec
                    | some zr =>
                      obtain ⟨z9, g10⟩ := zr
                      rw [qr] at ec
                      simp only [Option.some.injEq, Prod.mk.injEq] at ec
                      obtain ⟨ez, eg⟩ := ec
                      subst ez eg
                      have no3 : NoSlot (L2.wipe σ2 vs1) (wipeE env1 vs1) Da := by
                        refine newO_wipe (fun j d' e1 e2 => ?_) r5.len vs1
                        obtain ⟨z1, z2⟩ := hok _ _ _ qt j
                        by_cases hj : j ∈ ws
                        · exact z2 hj d' e1
                        · rw [z1 hj] at e1
                          rw [b3.2 j hj] at e2
                          exact no2 j d' e1 e2
                      have c5' : CompOkS P w S (L2.wipe σ2 vs1) (wipeE env1 vs1) (L2.wipe σ vs) (wipeE env vs) m1 H1 Da a' H5 gi m5 := ⟨r5.wipe vs1, c5.rel, c5.grow, c5.dw, c5.dm, c5.root⟩
                      have hky : (a' ++ y2s).all isKey = true := by
                        rw [ey] at hkeys
                        simp only [List.all_append, Bool.and_eq_true] at hkeys ⊢
                        exact ⟨hkeys.1, hkeys.2.1⟩
                      have hlen : (a' ++ y2s).length < 64 := by
                        have : ys.length = a'.length + (y2s.length + z9.length) := by rw [ey]; simp
                        rw [List.length_append]; omega
                      exact lcS_loop hw2 hDa no3 no2 c5' yl5 qz hlen hky fun Hc mc c9 s9 => ⟨g9, mc, a' ++ y2s, z9, ⟨c9.rel2, c9.rel2, c9.grow, c9.dw, c9.dm, c9.root⟩, s5.trans s9, qr, by rw [ey]; simp⟩
        · have ei : i = ds.length := by omega
          subst ei
          rw [List.drop_length] at ec
          simp only [comp2L, Option.some.injEq, Prod.mk.injEq] at ec
          obtain ⟨ez, eg⟩ := ec
          subst ez eg
          rw [List.append_nil] at ey
          subst ey
          refine .inl ⟨y2, Da, dedS zs, rfl, by rw [← dedK_strs qs]; exact cc.root, Nat.lt_of_le_of_lt (dedS_len zs) (by rw [← strsOf_len qs]; exact hbig), fun us pd hp hs hn => ?_⟩
          have e1 : us = sortS (dedS zs) := sortS_eq hp hs
          subst e1
          have okc := cc.rel.mem
          refine p _ _ (mc.own pd) ((gr.trans cc.grow).trans (grow_own hn)) (okc.own hn trivial) ⟨pd, rfl, List.mem_cons_self, fun z => (okc.free hn).1 (okc.muW pd z), (gr.trans cc.grow).liv pd hn, .lst upd_same (rl_strs _)⟩
theorem f_sortSc2 {elt tg iter tg1 iter1 : Expr} {ifs ifs1 : List Expr} {scope : Scope} {own : List (Str × Nat)} {vs1 ws ws2 : List Nat} {p pos pos2 : Pos} {it it2 : En (List D)} {t1 t2 : Tg} {c1 c2 : En Bool} {e : E1} (hg0 : Gl X "sorted") (hm0 : X.mg "sorted" = none) (hc : X.calm = true) (hN : X.N.Nodup) (hi : Pi X S W tg iter it) (ok : BlkOk X.N X.env.scope scope own) (hv : ∀ i ∈ vs1, i ∈ own.map (·.2))
    (hg : ∀ (s : Shared) (H : Hp) (C : Addr) (cl : List (Str × Addr)) (fp : List Addr), Pg (X.blk s H scope (compEnvC scope cl C X.env) fp) S ws tg t1) (ht : ∀ (s : Shared) (H : Hp) (C : Addr) (cl : List (Str × Addr)) (fp : List Addr), Pts (X.blk s H scope (compEnvC scope cl C X.env) fp) S W0 ifs c1)
    (hi1 : ∀ (s : Shared) (H : Hp) (C : Addr) (cl : List (Str × Addr)) (fp : List Addr), Pi (X.blk s H scope (compEnvC scope cl C X.env) fp) S W0 tg1 iter1 it2)
    (hg1 : ∀ (s : Shared) (H : Hp) (C : Addr) (cl : List (Str × Addr)) (fp : List Addr), Pg (X.blk s H scope (compEnvC scope cl C X.env) fp) S ws2 tg1 t2) (ht1 : ∀ (s : Shared) (H : Hp) (C : Addr) (cl : List (Str × Addr)) (fp : List Addr), Pts (X.blk s H scope (compEnvC scope cl C X.env) fp) S W0 ifs1 c2)
    (he : ∀ (s : Shared) (H : Hp) (C : Addr) (cl : List (Str × Addr)) (fp : List Addr), Pe (X.blk s H scope (compEnvC scope cl C X.env) fp) S W0 elt e) (hw : ∀ i ∈ ws, i ∈ own.map (·.2)) (hw2 : ∀ i ∈ ws2, i ∈ vs1) (hok : TgOk ws t1)
    (hs : ∀ x, foldedSetIterable iter X.env x = pure x := by intro _; rfl) (hs1 : ∀ env x, foldedSetIterable iter1 env x = pure x := by intro _ _; rfl) :
    Pf X S W (.Call (.Name "sorted" p) [.SetComp elt [⟨tg, iter, ifs, 0⟩, ⟨tg1, iter1, ifs1, 0⟩] scope pos2] [] pos) (eSortSc2 it t1 c1 it2 t2 c2 e (own.map (·.2)) vs1) :=
  PE.to (pe_callB (cr_sortedM hc) hg0 hm0 (by decide +kernel) (pa_cons (pe_sc2 hc hN hi ok hv hg ht hi1 hg1 ht1 he hs hs1) pa_nil)) fun σ H Q h => sc2_read hw hw2 hok h
end
end Ev
namespace Ev
open PySem PySem.Spec PyProof.Rows L2
/-! ### set(xs), xs a list or a tuple of ints and texts -/
def foldK (ks acc : List Key) : List Key := ks.foldl (fun acc k => insK k acc) acc
section
variable {P : Program} {w : World} {A : Around} {R : Result → Shared → Prop} {I : Addr} {fp wr : List Addr} {G : Array GenState → Array GenState → Prop} {n : Nat} {Pv : Nat → Value → Prop} {St : Nat → Shared → Prop}
theorem foldK_snoc (ks : List Key) (acc : List Key) (i : Nat) (k : Key) (h : ks[i]? = some k) : foldK (ks.take (i + 1)) acc = insK k (foldK (ks.take i) acc) := by
  unfold foldK
  rw [List.take_add_one, h]
  simp
theorem foldK_le (ks acc : List Key) : (foldK ks acc).length ≤ acc.length + ks.length := foldK_len ks acc
theorem loopM (Wk : WalksS P w A.in1 I fp wr G n Pv St) (a : Addr) (hf : a ∉ fp) (ks : List Key) (hsz : ks.length = n) (few : n + 1 < scanBound)
    (hval : ∀ i v, Pv i v → ∃ k, ks[i]? = some k ∧ (mixKind P w).is k v = true ∧ v.scannable = true) :
    ∀ (j i : Nat) (s : Shared), n - i = j → i ≤ n → St i s → SetM P w s.heap a (foldK (ks.take i) []) →
      (∀ s', Moved (a :: wr) G s s' → SetM P w s'.heap a (foldK ks []) → R (.ok (.ret .none)) s') →
      codeAny (model P w) A (.builtin "set.update.loop" ⟨[.ref a, .ref I], []⟩) R s := by
  have hw : a ∉ wr := fun h => hf (Wk.sub _ h)
  have sub1 : ∀ b ∈ wr, b ∈ a :: wr := fun b hb => List.mem_cons_of_mem _ hb
  intro j
  induction j with
  | zero =>
    intro i s hk hi hst hS hR
    have hin : i = n := by omega
    subst hin
    rw [List.take_of_length_le (by omega)] at hS
    refine codeAny_builtin PyProof.Rows.F.entry_set_update_loop ?_
    rw [Around.under_plainId PyProof.Rows.F.plain_set_update_loop _]
    show wpAny _ A.in1 (pyNext (.ref I) >>= _) _ _ s
    refine wpAny_bind (Wk.done s _ _ hst fun s' hm => ?_)
    show wpAny _ A.in1 (ret Value.none) _ _ s'
    exact wpAny_pure (hR s' (hm.mono sub1) (hS.keep fun o e => hm.heap a _ hw e))
  | succ j ih =>
    intro i s hk hi hst hS hR
    refine codeAny_builtin PyProof.Rows.F.entry_set_update_loop ?_
    rw [Around.under_plainId PyProof.Rows.F.plain_set_update_loop _]
    show wpAny _ A.in1 (pyNext (.ref I) >>= _) _ _ s
    refine wpAny_bind (Wk.item i s _ _ (by omega) hst fun v s' hP hst' hm => ?_)
    obtain ⟨k, hki, hkv, hsc⟩ := hval i v hP
    have hS' : SetM P w s'.heap a (foldK (ks.take i) []) := hS.keep fun o e => hm.heap a _ hw e
    have hlen : (foldK (ks.take i) []).length + 1 < scanBound := by
      have h1 := foldK_le (ks.take i) []
      have h2 := List.length_take_le i ks
      simp only [List.length_nil] at h1
      omega
    show wpAny _ A.in1 (holding [v] (setAdd a v) >>= _) _ _ s'
    refine wpAny_bind (wpAny_holding ?_)
    unfold setAdd
    refine wpAny_holding (wpAny_bind ((mixKind P w).pyHash hkv ?_))
    refine setM_hashed (s := { s' with toks := s'.toks + 1 }) hkv hsc hS' hlen fun h' sb hS2 b => ?_
    rw [← foldK_snoc ks [] i k hki] at hS2
    refine wpAny_pure ⟨plainId_quiet PyProof.Rows.F.plain_set_update_loop _, ih (i + 1) _ (by omega) (by omega) (Wk.frame _ s' _ _ hst' (Nat.le_succ _) fun b hb o e => ?_) hS2 fun s'' hm'' hS'' => ?_⟩
    · rw [sb.2 b fun h : b = a => hf (by rw [← h]; exact hb)]; exact e
    · refine hR s'' (Moved.trans Wk.gtrans ((hm.mono sub1).then_heap (Nat.le_succ _) fun b o hb e => ?_) hm'') hS''
      rw [sb.2 b fun h : b = a => hb (by rw [h]; exact List.mem_cons_self)]; exact e
end
theorem call_setM_list {P : Program} {w : World} {A : Around} {E : Value → Shared → Prop} {s : Shared} {l : Addr} {items : Array Value} {ks : List Key} {Q : Value → Shared → Prop} (hh : A.handled = none) (hl : s.heap.IsList l items) (hsz : ks.length = items.size) (few : items.size + 1 < scanBound)
    (hval : ∀ (i : Nat) (v : Value), items[i]? = some v → ∃ k, ks[i]? = some k ∧ (mixKind P w).is k v = true ∧ v.scannable = true)
    (h : ∀ (h' : Heap) (tk : Nat), SetM P w h' s.heap.objs.size (foldK ks []) → (∀ b o, s.heap.get? b = some o → h'.get? b = some o) → Q (.ref s.heap.objs.size) { s with heap := h', toks := tk }) :
    wpAny (model P w) A (call (.type "set") [.ref l]) Q E s := by
  obtain ⟨c, tl, hmro⟩ := PySem.F.called_set.mro
  have hmade := PySem.F.called_set.made
  have hsub := PySem.F.called_set.sub
  refine wpAny_call (codeAny_of_tree ?_)
  show wpAny _ _ (callAny (.type "set") _) _ _ _
  refine wpAny_pure ⟨Code.quiet_builtin _ (by decide +kernel), codeAny_builtin PySem.F.entry_type_call ?_⟩
  rw [Around.under_plain (weight_type_call_type "set" [.ref l] []) rfl]
  have h1 := PySem.F.called_set.notType
  have h2 := PySem.F.called_set.canCreate
  have hct := PySem.F.typeCall_set_1 (.ref l)
  repeat (any_goals (first | assumption | wp_step))
  let so : Obj := { cls := .type "set", dict := none, data := .set #[] 0 (.fresh 0 0 (!w.params.followText "set-order")) }
  refine codeAny_mono (code_set_led1 (.ref l) (E := E) (Q₁ := fun obj s₁ => obj = .ref s.heap.objs.size ∧ s₁ = { s with heap := s.heap.push so }) ⟨rfl, rfl⟩) fun r s₁ hr => ?_
  cases r with
  | error e => exact hr
  | ok fl =>
    cases fl with
    | ret obj =>
      obtain ⟨rfl, rfl⟩ := hr
      have hS : (s.heap.push so).get? s.heap.objs.size = some so := Heap.get?_push_size _ rfl
      have hT : Shared.TypeIs { s with heap := s.heap.push so } (.ref s.heap.objs.size) "set" := ⟨_, hS, rfl⟩
      have hli := PySem.F.called_set.init.lookup
      have hbi := PySem.F.called_set.init.bind (.ref s.heap.objs.size)
      repeat (any_goals (first | assumption | wp_step))
      refine codeAny_mono (codeAny_call_builtin (R := wants (fun r s₂ => r = .none ∧ ∃ h' tk, s₂ = { s with heap := h', toks := tk } ∧ SetM P w h' s.heap.objs.size (foldK ks []) ∧ (∀ b o, s.heap.get? b = some o → h'.get? b = some o)) E) PySem.F.called_set.init.plain PySem.F.entry_set_init (check_set_init_1 hT ?_)) fun r₂ s₂ hr₂ => ?_
      · obtain ⟨ol, hol, hcl, nl, hdl⟩ := hl
        obtain ⟨ocls, odict, odata, oslots⟩ := ol
        simp only at hcl hdl
        subst hcl; subst hdl
        have hol' : (s.heap.push so).get? l = some { cls := .type "list", dict := odict, data := .seq items nl, slots := oslots } := Heap.get?_push_of_some _ hol
        have hsls := PySem.F.sub_list_set
        have hslf := PySem.F.sub_list_frozenset
        have hne : (Value.type "list" == Value.type "dict") = false := by decide
        have hl1 : (s.heap.push so).IsList l items := ⟨_, hol', rfl, nl, rfl⟩
        unfold Builtin.«set.__init__» noKeywords Builtin.Frozenset.updateFrom
        generalize hPI : pyIter = PI
        wp_walk
        subst hPI
        refine wpAny_pyIter_list hl1 (wpAny_bind (wpAny_runValue ?_))
        have hlS : l < s.heap.objs.size := Heap.lt_size hol
        have hh3 : A.in1.in1.in1.handled = none := by simp [hh]
        have hz : (s.heap.push so).objs.size = s.heap.objs.size + 1 := Heap.size_push ..
        refine loopM ((Walks.list hh3 _ l (by rw [hz]; exact Nat.ne_of_lt (Nat.lt_succ_of_lt hlS)) items).toS) s.heap.objs.size ?_ ks hsz few hval (items.size - 0) 0 _ (by omega) (Nat.zero_le _)
          ⟨⟨_, Heap.get?_push_size _ rfl, rfl, rfl⟩, (hl1.push _)⟩ ((setM_fresh w).keep fun o e => Heap.get?_push_of_some _ e) fun s' hm hS' => ?_
        · rw [hz]
          simp only [List.mem_cons, List.not_mem_nil, or_false, not_or]
          exact ⟨Nat.ne_of_lt (Nat.lt_succ_self _), Nat.ne_of_gt hlS⟩
        · obtain ⟨h', g', d', tk', os'⟩ := s'
          have eg : g' = s.gens := hm.gens
          have ed : d' = s.drawn := hm.drawn
          have eo : os' = s.os := hm.os
          subst eg; subst ed; subst eo
          refine wpAny_pure ?_
          show wpAny _ _ (ret Value.none) _ _ _
          refine wpAny_pure ⟨rfl, h', tk', rfl, hS', fun b o e => ?_⟩
          have hb := Heap.lt_size e
          refine hm.heap b o ?_ (Heap.get?_push_of_some _ (Heap.get?_push_of_some _ e))
          rw [hz]
          simp only [List.mem_cons, List.not_mem_nil, or_false, not_or]
          exact ⟨Nat.ne_of_lt hb, Nat.ne_of_lt (Nat.lt_succ_of_lt hb)⟩
      · cases r₂ with
        | error e => exact hr₂
        | ok fl₂ =>
          cases fl₂ with
          | ret r =>
            obtain ⟨rfl, h', tk, rfl, hS', hk'⟩ := hr₂
            repeat (any_goals (first | assumption | wp_step))
            exact h _ _ hS' hk'
          | _ => exact hr₂.elim
    | _ => exact hr.elim
theorem call_setM_tuple {P : Program} {w : World} {A : Around} {E : Value → Shared → Prop} {s : Shared} {l : Addr} {items : Array Value} {ks : List Key} {Q : Value → Shared → Prop} (hh : A.handled = none) (hl : s.heap.IsTuple l items) (hsz : ks.length = items.size) (few : items.size + 1 < scanBound)
    (hval : ∀ (i : Nat) (v : Value), items[i]? = some v → ∃ k, ks[i]? = some k ∧ (mixKind P w).is k v = true ∧ v.scannable = true)
    (h : ∀ (h' : Heap) (tk : Nat), SetM P w h' s.heap.objs.size (foldK ks []) → (∀ b o, s.heap.get? b = some o → h'.get? b = some o) → Q (.ref s.heap.objs.size) { s with heap := h', toks := tk }) :
    wpAny (model P w) A (call (.type "set") [.ref l]) Q E s := by
  obtain ⟨c, tl, hmro⟩ := PySem.F.called_set.mro
  have hmade := PySem.F.called_set.made
  have hsub := PySem.F.called_set.sub
  refine wpAny_call (codeAny_of_tree ?_)
  show wpAny _ _ (callAny (.type "set") _) _ _ _
  refine wpAny_pure ⟨Code.quiet_builtin _ (by decide +kernel), codeAny_builtin PySem.F.entry_type_call ?_⟩
  rw [Around.under_plain (weight_type_call_type "set" [.ref l] []) rfl]
  have h1 := PySem.F.called_set.notType
  have h2 := PySem.F.called_set.canCreate
  have hct := PySem.F.typeCall_set_1 (.ref l)
  repeat (any_goals (first | assumption | wp_step))
  let so : Obj := { cls := .type "set", dict := none, data := .set #[] 0 (.fresh 0 0 (!w.params.followText "set-order")) }
  refine codeAny_mono (code_set_led1 (.ref l) (E := E) (Q₁ := fun obj s₁ => obj = .ref s.heap.objs.size ∧ s₁ = { s with heap := s.heap.push so }) ⟨rfl, rfl⟩) fun r s₁ hr => ?_
  cases r with
  | error e => exact hr
  | ok fl =>
    cases fl with
    | ret obj =>
      obtain ⟨rfl, rfl⟩ := hr
      have hS : (s.heap.push so).get? s.heap.objs.size = some so := Heap.get?_push_size _ rfl
      have hT : Shared.TypeIs { s with heap := s.heap.push so } (.ref s.heap.objs.size) "set" := ⟨_, hS, rfl⟩
      have hli := PySem.F.called_set.init.lookup
      have hbi := PySem.F.called_set.init.bind (.ref s.heap.objs.size)
      repeat (any_goals (first | assumption | wp_step))
      refine codeAny_mono (codeAny_call_builtin (R := wants (fun r s₂ => r = .none ∧ ∃ h' tk, s₂ = { s with heap := h', toks := tk } ∧ SetM P w h' s.heap.objs.size (foldK ks []) ∧ (∀ b o, s.heap.get? b = some o → h'.get? b = some o)) E) PySem.F.called_set.init.plain PySem.F.entry_set_init (check_set_init_1 hT ?_)) fun r₂ s₂ hr₂ => ?_
      · obtain ⟨ol, hol, hcl, nl, hdl⟩ := hl
        obtain ⟨ocls, odict, odata, oslots⟩ := ol
        simp only at hcl hdl
        subst hcl; subst hdl
        have hol' : (s.heap.push so).get? l = some { cls := .type "tuple", dict := odict, data := .seq items nl, slots := oslots } := Heap.get?_push_of_some _ hol
        have hsls := PySem.F.sub_tuple_set
        have hslf := PySem.F.sub_tuple_frozenset
        have hne : (Value.type "tuple" == Value.type "dict") = false := by decide
        have hl1 : (s.heap.push so).IsTuple l items := ⟨_, hol', rfl, nl, rfl⟩
        unfold Builtin.«set.__init__» noKeywords Builtin.Frozenset.updateFrom
        generalize hPI : pyIter = PI
        wp_walk
        subst hPI
        refine wpAny_pyIter_tuple hl1 (wpAny_bind (wpAny_runValue ?_))
        have hlS : l < s.heap.objs.size := Heap.lt_size hol
        have hh3 : A.in1.in1.in1.handled = none := by simp [hh]
        have hz : (s.heap.push so).objs.size = s.heap.objs.size + 1 := Heap.size_push ..
        refine loopM ((Walks.tuple hh3 _ l (by rw [hz]; exact Nat.ne_of_lt (Nat.lt_succ_of_lt hlS)) items).toS) s.heap.objs.size ?_ ks hsz few hval (items.size - 0) 0 _ (by omega) (Nat.zero_le _)
          ⟨⟨_, Heap.get?_push_size _ rfl, rfl, rfl⟩, (hl1.push _)⟩ ((setM_fresh w).keep fun o e => Heap.get?_push_of_some _ e) fun s' hm hS' => ?_
        · rw [hz]
          simp only [List.mem_cons, List.not_mem_nil, or_false, not_or]
          exact ⟨Nat.ne_of_lt (Nat.lt_succ_self _), Nat.ne_of_gt hlS⟩
        · obtain ⟨h', g', d', tk', os'⟩ := s'
          have eg : g' = s.gens := hm.gens
          have ed : d' = s.drawn := hm.drawn
          have eo : os' = s.os := hm.os
          subst eg; subst ed; subst eo
          refine wpAny_pure ?_
          show wpAny _ _ (ret Value.none) _ _ _
          refine wpAny_pure ⟨rfl, h', tk', rfl, hS', fun b o e => ?_⟩
          have hb := Heap.lt_size e
          refine hm.heap b o ?_ (Heap.get?_push_of_some _ (Heap.get?_push_of_some _ e))
          rw [hz]
          simp only [List.mem_cons, List.not_mem_nil, or_false, not_or]
          exact ⟨Nat.ne_of_lt hb, Nat.ne_of_lt (Nat.lt_succ_of_lt hb)⟩
      · cases r₂ with
        | error e => exact hr₂
        | ok fl₂ =>
          cases fl₂ with
          | ret r =>
            obtain ⟨rfl, h', tk, rfl, hS', hk'⟩ := hr₂
            repeat (any_goals (first | assumption | wp_step))
            exact h _ _ hS' hk'
          | _ => exact hr₂.elim
    | _ => exact hr.elim
section
variable {X : Cx} {S : Stat} {W : WX}
def rSetM (K : PySem.W.Frag) (P : Program) (w : World) : List V → Hp → VK → Prop := fun xs H Q => ∃ (a : Addr) (k : Kd) (ks : List Key), xs = [.ref a] ∧ SqX K H k a (ks.map kV) ∧ ks.length + 1 < scanBound ∧ ∀ p, H p = none → Q (.ref p) (upd H p (SetMO P w p (foldK ks [])))
theorem cr_setM (hcalm : X.calm = true) : CallR X (.type "set") (rSetM X.K X.prog X.w) := by
  intro pins s σ H xs us Q I r ⟨a, k, ks, ex, hq, few, q⟩
  subst ex
  cases r with
  | cons r1 r2 =>
    cases r1
    cases r2
    obtain ⟨its, rv, p⟩ := inv_x I hq
    have hl := rv.length
    rw [List.length_map] at hl
    have hval : ∀ (i : Nat) (v : Value), its.toArray[i]? = some v → ∃ k, ks[i]? = some k ∧ (mixKind X.prog X.w).is k v = true ∧ v.scannable = true := fun i v hv => by
      have hv : its[i]? = some v := by simpa using hv
      have hi : i < ks.length := by rw [hl]; exact (List.getElem?_eq_some_iff.mp hv).1
      have hk : ks[i]? = some ks[i] := by simp [hi]
      obtain ⟨u, hu, ru⟩ := rv.get (x := kV ks[i]) (by rw [List.getElem?_map, hk]; rfl)
      rw [hv] at hu
      cases hu
      exact ⟨_, hk, kV_is ru, key_scan ru⟩
    have fin : ∀ (h' : Heap) (tk : Nat), SetM X.prog X.w h' s.heap.objs.size (foldK ks []) → (∀ b o, s.heap.get? b = some o → h'.get? b = some o) → EP X pins σ Q (.ref s.heap.objs.size) { s with heap := h', toks := tk } := fun h' tk new kp =>
      ⟨.ref s.heap.objs.size, upd H s.heap.objs.size (SetMO X.prog X.w s.heap.objs.size (foldK ks [])), I.laid (t' := tk) kp (Nat.le_refl _) (setMO_new new), rfl, q _ (I.hok.fresh (Nat.le_refl _))⟩
    cases k
    · exact call_setM_list (I.ok.hd hcalm) p (by simp [hl]) (by simp; omega) hval fin
    · exact call_setM_tuple (I.ok.hd hcalm) p (by simp [hl]) (by simp; omega) hval fin
def rLenM (P : Program) (w : World) : List V → Hp → VK → Prop := fun xs H Q => ∃ (a : Addr) (ks : List Key), xs = [.ref a] ∧ H a = some (SetMO P w a ks) ∧ Q (.int ks.length) H
end
end Ev
namespace Ev
open PySem PySem.Spec PyProof.Rows L2
section
variable {X : Cx} {S : Stat} {W : WX}
theorem cr_lenM : CallR X (.builtin "len") (rLenM X.prog X.w) := by
  intro pins s σ H xs us Q I r ⟨a, ks, ex, hH, q⟩
  subst ex
  cases r with
  | cons r1 r2 =>
    cases r1
    cases r2
    obtain ⟨o, es, ep, t, ls, ho, hex, hd, g, nd, pk, hb, hf, hr, hl⟩ := setMO_get I hH
    have hn : es.size = ks.length := by rw [← Array.length_toList, ← g.length, pk.length_eq]
    refine call_len_set ho hex hd hf (by
      have : scanBound = 4096 := rfl
      omega) ⟨.int ks.length, H, I.tok _, ⟨_, by rw [hn]⟩, q⟩
/-- the keys of a sequence of ints and texts -/
def keysOf : List D → Option (List Key)
  | [] => some []
  | d :: r => match keyD d, keysOf r with
    | some k, some ks => some (k :: ks)
    | _, _ => none
theorem keysOf_rel {m : Mv} {H : Hp} : ∀ {ds : List D} {ks : List Key} {vs : List V}, keysOf ds = some ks → Rl S m H ds vs → vs = ks.map kV
  | [], ks, vs, h, r => by cases r; cases h; rfl
  | d :: ds, ks, vs, h, r => by
    cases r with
    | cons r1 r2 =>
      simp only [keysOf] at h
      cases e1 : keyD d with
      | none => rw [e1] at h; cases h
      | some k =>
        cases e2 : keysOf ds with
        | none => rw [e1, e2] at h; cases h
        | some ks' =>
          rw [e1, e2] at h
          cases h
          rw [keyD_rel e1 r1, keysOf_rel e2 r2]
          rfl
theorem seqOf_v {m : Mv} {H : Hp} {d : D} {v : V} {k : Kd} {ds : List D} (h : seqOf d = some (k, ds)) (r : Rv S m H d v) : ∃ a vs, v = .ref a ∧ SqX S.K H k a vs ∧ Rl S m H ds vs := by
  cases d with
  | lst xs => cases h; exact r.lst
  | frz xs => cases h; exact r.frz
  | tup xs => cases h; exact r.tup
  | _ => cases h
/-- len(set(e)) -/
def sLenSet : D → Sto → Res D := fun d g => match seqOf d with
  | some (_, ds) => (match keysOf ds with
    | some ks => if ks.length < 1000 then .ok (.int (foldK ks []).length) g else .stuck
    | none => .stuck)
  | none => .stuck
theorem few_scan {n : Nat} (h : n < 1000) : n + 1 < scanBound := by
  have : scanBound = 4096 := rfl
  omega
theorem e_lenSet {e : Expr} {f : E1} {p p2 q pos : Pos} (hK : S.K = X.K) (hc : X.calm = true) (hg : Gl X "len") (hm : X.mg "len" = none) (hg2 : Gl X "set") (hm2 : X.mg "set" = none) (he : Pb X S W e f)
    (hst : starEach [e] X.env = (false, eval e X.env) :: starEach [] X.env := by rfl) : Pe X S W (.Call (.Name "len" p) [.Call (.Name "set" p2) [e] [] q] [] pos) (eU (dr1 sLenSet) f) :=
  PE.to (pe_callB cr_lenM hg hm PySem.boot_len (pa_cons (pe_callTy (cr_setM hc) hg2 hm2 (by decide +kernel) (pa_cons he pa_nil hst) (he := hst)) pa_nil)) fun σ H Q q => Tv.one (Ra := RB S) q fun env m g H1 d x rel fz ⟨_, ra⟩ p => by
    have rv := Rb.v ra |>.dr rel.mem
    simp only [dr1, sLenSet] at p
    cases e1 : seqOf (dr g d) with
    | none => rw [e1] at p; exact p.elim
    | some kd =>
      obtain ⟨k, ds⟩ := kd
      rw [e1] at p
      dsimp only at p
      cases e2 : keysOf ds with
      | none => rw [e2] at p; exact p.elim
      | some ks =>
        rw [e2] at p
        dsimp only at p
        split at p
        · rename_i hb
          obtain ⟨a, vs, rfl, hs, rl⟩ := seqOf_v e1 rv
          have ev := keysOf_rel e2 rl
          subst ev
          refine ⟨a, k, ks, rfl, hK ▸ hs, few_scan hb, fun t ht => ⟨t, foldK ks [], rfl, upd_same, ?_⟩⟩
          exact p _ _ m (grow_new ht) (rel.mem.new ht) (.int _)
        · exact p.elim
/-- sorted(set(e)), texts -/
def sSortSet : D → Sto → Res D := fun d g => match seqOf d with
  | some (_, ds) => sSortK ds g
  | none => .stuck
theorem keysOf_strs : ∀ (zs : List Str), keysOf (zs.map .str) = some (zs.map Sum.inr)
  | [] => rfl
  | z :: zs => by simp only [List.map_cons, keysOf, keyD, keysOf_strs zs]
theorem foldK_strs (zs : List Str) : foldK (zs.map Sum.inr) [] = (dedS zs).map Sum.inr := by
  have := foldU_key zs []
  exact this.symm
theorem f_sortSet {e : Expr} {f : E1} {p p2 q pos : Pos} (hK : S.K = X.K) (hc : X.calm = true) (hg : Gl X "sorted") (hm : X.mg "sorted" = none) (hg2 : Gl X "set") (hm2 : X.mg "set" = none) (he : Pb X S W e f)
    (hst : starEach [e] X.env = (false, eval e X.env) :: starEach [] X.env := by rfl) : Pf X S W (.Call (.Name "sorted" p) [.Call (.Name "set" p2) [e] [] q] [] pos) (eU (dr1 sSortSet) f) :=
  PE.to (pe_callB (cr_sortedM hc) hg hm (by decide +kernel) (pa_cons (pe_callTy (cr_setM hc) hg2 hm2 (by decide +kernel) (pa_cons he pa_nil hst) (he := hst)) pa_nil)) fun σ H Q q => Tv.one (Ra := RB S) q fun env m g H1 d x rel fz ⟨_, ra⟩ p => by
    have rv := Rb.v ra |>.dr rel.mem
    simp only [dr1, sSortSet] at p
    cases e1 : seqOf (dr g d) with
    | none => rw [e1] at p; exact p.elim
    | some kd =>
      obtain ⟨k, ds⟩ := kd
      rw [e1] at p
      simp only [sSortK] at p
      cases e2 : strsOf ds with
      | none => rw [e2] at p; exact p.elim
      | some zs =>
        rw [e2] at p
        dsimp only at p
        split at p
        · rename_i hb
          obtain ⟨a, vs, rfl, hs, rl⟩ := seqOf_v e1 rv
          have ed := strsOf_map' e2
          subst ed
          have ev := keysOf_rel (keysOf_strs zs) rl
          subst ev
          refine ⟨a, k, zs.map Sum.inr, rfl, hK ▸ hs, few_scan (by rw [List.length_map]; omega), fun t ht => ⟨t, dedS zs, rfl, by rw [foldK_strs, upd_same], Nat.lt_of_le_of_lt (dedS_len zs) hb, fun us pd hp hso hn => ?_⟩⟩
          have e3 : us = sortS (dedS zs) := sortS_eq hp hso
          subst e3
          have gr1 : Grow m H1 m (upd H1 t (SetMO X.prog X.w t (foldK (zs.map Sum.inr) []))) := grow_new ht
          have ok1 := rel.mem.new (o := SetMO X.prog X.w t (foldK (zs.map Sum.inr) [])) ht
          refine p _ _ (m.own pd) (gr1.trans (grow_own hn)) (ok1.own hn trivial) ⟨pd, rfl, List.mem_cons_self, fun z => (ok1.free hn).1 (ok1.muW pd z), fz pd (gr1.liv pd hn), .lst upd_same (rl_strs _)⟩
        · exact p.elim
/-! ### a, b, c = a list -/
theorem g_lst {es : List Expr} {k n : Nat} {fs : Tgs} {ws : List Nat} {pos : Pos} (hK : S.K = X.K) (hc : X.calm = true) (h : Pgs X S ws es fs) (hn : (assignEach es X.env).length = n := by rfl) (hst : (assignEach es X.env).findIdx? (·.1) = none := by rfl) : Pg X S ws (.Tuple es k pos) (tgL n fs) :=
  PG.to (pg_lst hc h hn hst) fun v σ H Q ⟨env, g, m, d, r, rd, p⟩ => by
    cases rd with
    | @lst a vs ds hs f rl =>
      simp only [tgL] at p
      by_cases c : ds.length = n
      · rw [if_pos c] at p
        exact ⟨a, vs, rfl, SqL.of hs, by rw [← rl.length]; exact c, env, g, m, ds, r, rl, p⟩
      · rw [if_neg c] at p; exact p.elim
    | _ => exact p.elim
end
end Ev
namespace Ev
open PySem PySem.Spec PyProof.Rows L2
/-! ### dicts -/
def same1 : D → D → Bool
  | .int i, .int j => decide (i = j)
  | .str x, .str y => decide (x = y)
  | _, _ => false
def sameL : List D → List D → Bool
  | [], [] => true
  | a :: r, b :: s => same1 a b && sameL r s
  | _, _ => false
/-- equal keys -/
def sameK : D → D → Bool
  | .tup xs, .tup ys => sameL xs ys
  | a, b => same1 a b
/-- a key for a dict of this kind: 0 ints and texts, 1 tuples of them -/
def kindK : Nat → D → Bool
  | 0, .int _ => true
  | 0, .str _ => true
  | 1, .tup xs => (keysOf xs).isSome
  | _, _ => false
def dget : List D → List D → D → Option D
  | k' :: ks, v :: vs, k => if sameK k' k = true then some v else dget ks vs k
  | _, _, _ => none
/-- keys, values behind d[k] = v -/
def dhas (ks : List D) (k : D) : Bool := ks.any fun k' => sameK k' k
def drep : List D → List D → D → D → List D
  | k' :: ks, v' :: vs, k, v => (if sameK k' k = true then v else v') :: drep ks vs k v
  | _, vs, _, _ => vs
def dputV (ks vs : List D) (k v : D) : List D := if dhas ks k = true then drep ks vs k v else vs ++ [v]
def dputK (ks : List D) (k : D) : List D := if dhas ks k = true then ks else ks ++ [k]
theorem same1_kD (a b : Key) : same1 (kD a) (kD b) = decide (a = b) := by
  cases a <;> cases b <;> simp [kD, same1]
theorem sameK_kD (a b : Key) : sameK (kD a) (kD b) = decide (a = b) := by
  rw [← same1_kD]
  cases a <;> cases b <;> rfl
theorem sameL_kD : ∀ a b : List Key, sameL (a.map kD) (b.map kD) = decide (a = b)
  | [], [] => rfl
  | [], b :: s => by simp [sameL]
  | a :: r, [] => by simp [sameL]
  | a :: r, b :: s => by
    simp only [List.map_cons, sameL, same1_kD, sameL_kD r s]
    by_cases h1 : a = b <;> by_cases h2 : r = s <;> simp [h1, h2]
theorem keyD_kD {d : D} {k : Key} (h : keyD d = some k) : d = kD k := by
  cases d with
  | int i => cases h; rfl
  | str z => cases h; rfl
  | _ => cases h
theorem keysOf_kD : ∀ {ds : List D} {ks : List Key}, keysOf ds = some ks → ds = ks.map kD
  | [], ks, h => by cases h; rfl
  | d :: r, ks, h => by
    simp only [keysOf] at h
    cases e1 : keyD d with
    | none => rw [e1] at h; cases h
    | some k =>
      cases e2 : keysOf r with
      | none => rw [e1, e2] at h; cases h
      | some l =>
        rw [e1, e2] at h
        cases h
        rw [keyD_kD e1, keysOf_kD e2]
        rfl
section
variable {S : Stat} {κ : Type} [DecidableEq κ]
/-- by the kinds' own keys -/
theorem dget_val {m : Mv} {H : Hp} (f : κ → D) (hf : ∀ a b, sameK (f a) (f b) = decide (a = b)) (k : κ) : ∀ {kvs : List (κ × V)} {ds : List D}, Rl S m H ds (kvs.map (·.2)) →
    match dget (kvs.map fun p => f p.1) ds (f k) with
    | some d => ∃ v, valV kvs k = some v ∧ Rr S m H d v
    | none => valV kvs k = none
  | [], ds, r => by cases ds <;> rfl
  | (k', v) :: kvs, ds, r => by
    cases r with
    | @cons d _ ds' _ r1 r2 =>
      simp only [List.map_cons, dget, hf]
      unfold valV
      by_cases h : k' = k
      · subst h
        simp only [decide_true, if_true]
        exact ⟨v, by simp [List.find?], r1⟩
      · simp only [decide_eq_false h, Bool.false_eq_true, if_false]
        have ih := dget_val f hf k r2
        unfold valV at ih
        simp only [List.find?, decide_eq_false h]
        exact ih
theorem dhas_val (f : κ → D) (hf : ∀ a b, sameK (f a) (f b) = decide (a = b)) (k : κ) (kvs : List (κ × V)) : dhas (kvs.map fun p => f p.1) (f k) = kvs.any fun kv => decide (kv.1 = k) := by
  unfold dhas
  rw [List.any_map]
  congr 1
  funext p
  exact hf p.1 k
theorem dputK_val (f : κ → D) (hf : ∀ a b, sameK (f a) (f b) = decide (a = b)) (k : κ) (v : V) (kvs : List (κ × V)) : (putK kvs k v).map (fun p => f p.1) = dputK (kvs.map fun p => f p.1) (f k) := by
  unfold putK dputK
  rw [dhas_val f hf]
  split
  · rw [List.map_map]
    apply List.map_congr_left
    intro p hp
    simp only [Function.comp]
    split <;> rfl
  · simp
theorem drep_val {m : Mv} {H : Hp} (f : κ → D) (hf : ∀ a b, sameK (f a) (f b) = decide (a = b)) (k : κ) {d : D} {v : V} (rv : Rr S m H d v) : ∀ {kvs : List (κ × V)} {ds : List D}, Rl S m H ds (kvs.map (·.2)) →
    Rl S m H (drep (kvs.map fun p => f p.1) ds (f k) d) ((kvs.map fun kv => if kv.1 = k then (kv.1, v) else kv).map (·.2))
  | [], ds, r => by cases r; exact .nil
  | (k', x) :: kvs, ds, r => by
    cases r with
    | @cons e _ ds' _ r1 r2 =>
      simp only [List.map_cons, drep, hf]
      refine .cons ?_ (drep_val f hf k rv r2)
      by_cases h : k' = k
      · simp only [h, decide_true, if_true]; exact rv
      · rw [decide_eq_false h]
        simp only [Bool.false_eq_true, if_false, if_neg h]
        exact r1
theorem dputV_val {m : Mv} {H : Hp} (f : κ → D) (hf : ∀ a b, sameK (f a) (f b) = decide (a = b)) (k : κ) {d : D} {v : V} (rv : Rr S m H d v) {kvs : List (κ × V)} {ds : List D} (r : Rl S m H ds (kvs.map (·.2))) :
    Rl S m H (dputV (kvs.map fun p => f p.1) ds (f k) d) ((putK kvs k v).map (·.2)) := by
  unfold putK dputV
  rw [dhas_val f hf]
  split
  · exact drep_val f hf k rv r
  · rw [List.map_append]
    exact r.append (.cons rv .nil)
end
theorem sameT_kD (a b : List Key) : sameK (.tup (a.map kD)) (.tup (b.map kD)) = decide (a = b) := sameL_kD a b
section
variable {S : Stat}
theorem Rv.dic {m : Mv} {H : Hp} {t : Nat} {ks ds : List D} {v : V} (h : Rv S m H (.dic t ks ds) v) : ∃ a o vs, v = .ref a ∧ RdD H a o ∧ DicO t ks vs o ∧ Rl S m H ds vs := by
  rcases h with h | ⟨a, rfl, h⟩
  · cases h with
    | dic h1 h2 h3 h4 => exact ⟨_, _, _, rfl, h1, h3, h4⟩
  · cases h with
    | dic h1 h3 h4 => exact ⟨_, _, _, rfl, .inl h1, h3, h4⟩
theorem RdD.rd {H : Hp} {a : Addr} {o : HO} (h : RdD H a o) : L2.Rd H a o := by
  rcases h with h | ⟨u, kvs, _, h⟩
  · exact .inl h
  · exact .inr ⟨u, h⟩
theorem keysOf_map {xs : List D} {ks : List Key} (h : keysOf xs = some ks) : xs = ks.map kD := keysOf_kD h
/-- what a dict has at a key -/
theorem dget_ok {m : Mv} {H : Hp} {t : Nat} {ks ds : List D} {k : D} {x y : V} (hx : Rv S m H (.dic t ks ds) x) (hk : kindK t k = true) (hy : Rv S m H k y) :
    ∃ a o, x = .ref a ∧ DGet H a y o ∧ IsD H a ∧ (match dget ks ds k with
      | some d => ∃ v, o = some v ∧ Rr S m H d v
      | none => o = none) := by
  obtain ⟨a, ob, vs, rfl, h1, h2, rl⟩ := hx.dic
  rcases h2 with ⟨rfl, kvs, rfl, rfl, rfl⟩ | ⟨rfl, kvs, rfl, rfl, rfl⟩
  · have hk' : ∃ kk : Key, k = kD kk ∧ y = kV kk := by
      cases k with
      | int i => exact ⟨.inl i, rfl, hy.int⟩
      | str z => exact ⟨.inr z, rfl, hy.str⟩
      | _ => simp [kindK] at hk
    obtain ⟨kk, rfl, rfl⟩ := hk'
    refine ⟨a, valV kvs kk, rfl, .inl ⟨kvs, kk, h1.rd, rfl, rfl⟩, .inl ⟨kvs, h1.rd⟩, ?_⟩
    have q := dget_val kD sameK_kD kk rl
    exact q
  · have hk' : ∃ kk : List Key, ∃ b, k = .tup (kk.map kD) ∧ y = .ref b ∧ H b = some (.tup (kk.map kV)) := by
      cases k with
      | tup xs =>
        simp only [kindK] at hk
        obtain ⟨kk, e⟩ := Option.isSome_iff_exists.mp hk
        obtain ⟨b, ws, rfl, hb, rw'⟩ := hy.tupH
        have e2 := keysOf_rel e rw'
        subst e2
        exact ⟨kk, b, by rw [keysOf_map e], rfl, hb⟩
      | _ => simp [kindK] at hk
    obtain ⟨kk, b, rfl, rfl, hb⟩ := hk'
    refine ⟨a, valV kvs kk, rfl, .inr ⟨kvs, kk, b, h1.rd, rfl, hb, rfl⟩, .inr ⟨kvs, h1.rd⟩, ?_⟩
    exact dget_val (fun l : List Key => D.tup (l.map kD)) sameT_kD kk rl
end
section
variable {X : Cx} {S : Stat} {W : WX}
/-! ### d[k], k in d -/
def rIxDic : R2 := fun x y H Q => ∃ a v, x = .ref a ∧ DGet H a y (some v) ∧ Q v H
theorem ix_dic (hu : X.A.units + 1 < cLine) : IxR X rIxDic := by
  intro value slice pins s σ H x y v u Q I rx ry ⟨a, z, ex, g, q⟩ hs
  subst ex
  obtain rfl : v = Value.ref a := rx
  exact tail_any (dict_typeIs I g) PySem.F.slot_dict_getitem.lookup (d_getItem hu I g ry fun w' s3 I3 rw' => ⟨z, H, I3, rw', q⟩) hs
def dix (t : Nat) (ks vs : List D) (k : D) (g : Sto) : Res D := if kindK t k = true then (match dget ks vs k with
    | some d => .ok d g
    | none => .stuck) else .stuck
/-- an item of a list, tuple, text or dict -/
def sIxA : D → D → Sto → Res D
  | .dic t ks vs, k, g => dix t ks vs k g
  | .ctup xs, .int i, g => (match atI xs i with
    | some d => .ok d g
    | none => .stuck)
  | a, b, g => sIx a b g
theorem unitsOne {k : Nat} {A : Around} (h : A.units + 64 < cLine) : A.units + 1 < cLine := by omega
theorem e_ixA {a b : Expr} {fa fb : E1} {pos : Pos} (hK : S.K = X.K) (hu : X.A.units + 64 < cLine) (ha : Pb X S W a fa) (hb : Pb X S W b fb) (hs : PlainIx b) : Pe X S W (.Subscript a b pos) (eB (dr2 sIxA) fa fb) :=
  PE.to (pe_ix (ix_seq.or (ix_dic (by omega))) ha hb hs) fun σ H Q h => two (a := a) (b := b) (Sem2.dr fun σ H0 m g H a b x y Q ok fz ra rb p => by
    have other : ∀ a', a' = a → (∀ t ks vs, a' ≠ .dic t ks vs) → (∀ xs, a' ≠ .ctup xs) → rIx X.K x y H Q ∨ rIxDic x y H Q := by
      intro a' e h1 h2
      subst e
      have p' : Post S (RT S) W σ H0 (sIx a' b g) m H Q := by
        cases a' <;> first | exact p | exact absurd rfl (h1 _ _ _) | exact absurd rfl (h2 _)
      exact .inl (sem_ix hK σ H0 m g H a' b x y Q ok fz ra rb p')
    cases a with
    | dic t ks vs =>
      simp only [sIxA, dix] at p
      split at p
      · rename_i hk
        obtain ⟨a, o, rfl, hd, _, hm⟩ := dget_ok ra hk rb
        split at p
        · rename_i d e
          rw [e] at hm
          obtain ⟨v, rfl, rv⟩ := hm
          exact .inr ⟨a, v, rfl, hd, p.now ok rv⟩
        · exact p.elim
      · exact p.elim
    | ctup xs =>
      cases b with
      | int i =>
        have e := rb.int
        subst e
        obtain ⟨l, vs, rfl, h1, r1⟩ := ra.ctup
        simp only [sIxA] at p
        cases q : atI xs i with
        | none => rw [q] at p; exact p.elim
        | some d =>
          rw [q] at p
          obtain ⟨v, e1, e2⟩ := r1.atI q
          exact .inl (.inr (.inl ⟨l, vs, i, v, rfl, rfl, hK ▸ h1, e1, p.now ok e2⟩))
      | _ => exact p.elim
    | _ => exact other _ rfl (fun _ _ _ => nofun) (fun _ => nofun)) h
end
end Ev
namespace Ev
open PySem PySem.Spec PyProof.Rows L2
section
variable {X : Cx} {S : Stat} {W : WX}
/-! ### k in d -/
def rDIn (neg : Bool) : R2 := fun x y H Q => ∃ a o, y = .ref a ∧ DGet H a x o ∧ Q (.bl (if neg then !o.isSome else o.isSome)) H
theorem op_dIn (hu : X.A.units + 1 < cLine) : OpR X (compareOp .In) (rDIn false) := by
  intro pins s σ H x y v u Q I rx ry ⟨a, o, ey, g, q⟩
  subst ey
  obtain rfl : u = Value.ref a := ry
  exact d_in hu I g rx fun s3 I3 => ⟨.bl o.isSome, H, I3, rfl, q⟩
theorem op_dNotIn (hu : X.A.units + 1 < cLine) : OpR X (compareOp .NotIn) (rDIn true) := by
  intro pins s σ H x y v u Q I rx ry ⟨a, o, ey, g, q⟩
  subst ey
  obtain rfl : u = Value.ref a := ry
  exact d_notIn hu I g rx fun s3 I3 => ⟨.bl (!o.isSome), H, I3, rfl, q⟩
def din (neg : Bool) (t : Nat) (ks vs : List D) (k : D) (g : Sto) : Res D := if kindK t k = true then .ok (.bl (if neg then !(dget ks vs k).isSome else (dget ks vs k).isSome)) g else .stuck
def sInA : D → D → Sto → Res D := fun a b g => match b with
  | .dic t ks vs => din false t ks vs a g
  | _ => sIn a b g
def sNotInA : D → D → Sto → Res D := fun a b g => match b with
  | .dic t ks vs => din true t ks vs a g
  | _ => sNotIn a b g
theorem din_ok {σ : St} {H0 : Hp} {m : Mv} {g : Sto} {H : Hp} {t : Nat} {ks vs : List D} {a : D} {x y : V} {Q : VK} {neg : Bool} (ok : MOk S H g m) (ra : Rv S m H a x) (rb : Rv S m H (.dic t ks vs) y) (p : Post S (RT S) W σ H0 (din neg t ks vs a g) m H Q) : rDIn neg x y H Q := by
  unfold din at p
  split at p
  · rename_i hk
    obtain ⟨b, o, rfl, hd, _, hm⟩ := dget_ok rb hk ra
    refine ⟨b, o, rfl, hd, ?_⟩
    have e : o.isSome = (dget ks vs a).isSome := by
      cases q : dget ks vs a with
      | none => rw [q] at hm; rw [hm]; rfl
      | some d => rw [q] at hm; obtain ⟨v, rfl, _⟩ := hm; rfl
    rw [e]
    exact p.now ok (.bl _)
  · exact p.elim
theorem op_inA (hK : S.K = X.K) (hu : X.A.units + 64 < cLine) : OpR X (compareOp .In) (fun x y H Q => rInX S false x y H Q ∨ rDIn false x y H Q) := (op_inX hK hu).or (op_dIn (by omega))
theorem op_notInA (hK : S.K = X.K) (hu : X.A.units + 64 < cLine) : OpR X (compareOp .NotIn) (fun x y H Q => rInX S true x y H Q ∨ rDIn true x y H Q) := (op_notInX hK hu).or (op_dNotIn (by omega))
theorem sem_inA : Sem2 S W (RT S) (fun x y H Q => rInX S false x y H Q ∨ rDIn false x y H Q) sInA := fun σ H0 m g H a b x y Q ok fz ra rb p => by
  cases b with
  | dic t ks vs => exact .inr (din_ok ok ra rb p)
  | _ => exact .inl (sem_in σ H0 m g H a _ x y Q ok fz ra rb p)
theorem sem_notInA : Sem2 S W (RT S) (fun x y H Q => rInX S true x y H Q ∨ rDIn true x y H Q) sNotInA := fun σ H0 m g H a b x y Q ok fz ra rb p => by
  cases b with
  | dic t ks vs => exact .inr (din_ok ok ra rb p)
  | _ => exact .inl (sem_notIn σ H0 m g H a _ x y Q ok fz ra rb p)
/-! ### d[k] = v, in the store -/
def dicAt (g : Sto) : D → Option (Nat × Nat × List D × List D)
  | .loc n => match g[n]? with
    | some (.dic t ks vs) => some (n, t, ks, vs)
    | _ => none
  | _ => none
theorem dicAt_ok {H : Hp} {g : Sto} {m : Mv} (ok : MOk S H g m) {d : D} {v : V} {n t : Nat} {ks ds : List D} (h : dicAt g d = some (n, t, ks, ds)) (r : Rr S m H d v) : ∃ a o vs, v = .ref a ∧ m.mu[n]? = some a ∧ H a = some o ∧ DicO t ks vs o ∧ Rl S m H ds vs := by
  cases r with
  | @loc k a e =>
    simp only [dicAt] at h
    split at h
    · rename_i t' ks' ys e1
      cases h
      have ro := ok.sto _ _ _ e1 e
      cases ro with
      | dic e2 e3 rl => exact ⟨a, _, _, rfl, e, e2, e3, rl⟩
    · cases h
  | _ => simp [dicAt] at h
theorem PSet.or {t t' : TSet} (h : PSet X t) (h' : PSet X t') : PSet X (fun o i v H Q => t o i v H Q ∨ t' o i v H Q) := by
  intro pins s σ H o i v ov iv u Q I ro ri rv q
  rcases q with q | q
  · exact h pins s σ H o i v ov iv u Q I ro ri rv q
  · exact h' pins s σ H o i v ov iv u Q I ro ri rv q
def sPutA : D → D → D → Sto → Res D := fun v o i g => match dicAt g o with
  | some (n, t, ks, vs) => if kindK t i = true ∧ ks.length < big then .ok .non (g.set n (.dic t (dputK ks i) (dputV ks vs i v))) else .stuck
  | none => sPut v o i g
/-- DPut and the new content -/
theorem dput_ok {m : Mv} {H : Hp} {t : Nat} {ks ds : List D} {k d : D} {y z : V} {a : Addr} {o : HO} {vs : List V} (h1 : H a = some o) (h2 : DicO t ks vs o) (rl : Rl S m H ds vs) (hk : kindK t k = true) (hy : Rv S m H k y) (hz : Rr S m H d z) (hl : ks.length < big) :
    ∃ o' vs', DPut H a y z (upd H a o') ∧ DicO t (dputK ks k) vs' o' ∧ Rl S m H (dputV ks ds k d) vs' ∧ Mut (some o') := by
  rcases h2 with ⟨rfl, kvs, rfl, rfl, rfl⟩ | ⟨rfl, kvs, rfl, rfl, rfl⟩
  · have hk' : ∃ kk : Key, k = kD kk ∧ y = kV kk := by
      cases k with
      | int i => exact ⟨.inl i, rfl, hy.int⟩
      | str z => exact ⟨.inr z, rfl, hy.str⟩
      | _ => simp [kindK] at hk
    obtain ⟨kk, rfl, rfl⟩ := hk'
    refine ⟨.dK (putK kvs kk z), (putK kvs kk z).map (·.2), DPut.k h1 ?_, .inl ⟨rfl, _, rfl, (dputK_val kD sameK_kD kk z kvs).symm, rfl⟩, dputV_val kD sameK_kD kk hz rl, trivial⟩
    simpa using big_lt hl
  · have hk' : ∃ kk : List Key, ∃ b, k = .tup (kk.map kD) ∧ y = .ref b ∧ H b = some (.tup (kk.map kV)) := by
      cases k with
      | tup xs =>
        simp only [kindK] at hk
        obtain ⟨kk, e⟩ := Option.isSome_iff_exists.mp hk
        obtain ⟨b, ws, rfl, hb, rw'⟩ := hy.tupH
        have e2 := keysOf_rel e rw'
        subst e2
        exact ⟨kk, b, by rw [keysOf_map e], rfl, hb⟩
      | _ => simp [kindK] at hk
    obtain ⟨kk, b, rfl, rfl, hb⟩ := hk'
    refine ⟨.dT (putK kvs kk z), (putK kvs kk z).map (·.2), DPut.t h1 hb ?_, .inr ⟨rfl, _, rfl, (dputK_val (fun l : List Key => D.tup (l.map kD)) sameT_kD kk z kvs).symm, rfl⟩, dputV_val (fun l : List Key => D.tup (l.map kD)) sameT_kD kk hz rl, trivial⟩
    simpa using big_lt hl
theorem s_putA {e o i : Expr} {fe fo fi : E1} {p1 pos : Pos} (hu : X.A.units + 64 < cLine) (he : Pe X S W e fe) (ho : Pe X S W o fo) (hi : Pe X S W i fi)
    (ha : ∀ v, assign (.Subscript o i p1) X.env v = (do
      let ov ← holding [v] (eval o X.env)
      let iv ← holding [v, ov] (eval i X.env)
      standAt p1
      holding [v, ov, iv] (setItem ov iv v)
      release [v, ov, iv] []) := by intro _; rfl)
    (hsw : swapsWithSole [.Subscript o i p1] e pos.line X.env = pure false := by rfl) (hw : swappedStores [.Subscript o i p1] e X.env = pure none := by rfl)
    (h1 : (assignEach [.Subscript o i p1] X.env).map (·.2) = [assign (.Subscript o i p1) X.env] := by rfl) : Ps X S W (.Assign [.Subscript o i p1] e pos) (sDo (eSet3 sPutA fe fo fi)) :=
  set_any (Ev.PSet.or set_list (set_dict (by omega))) (fun σ H0 m g H v o i x y z Q ok rv ro ri p => by
    unfold sPutA at p
    split at p
    · rename_i n t ks ds e1
      obtain ⟨a, ob, vs, rfl, hn, hH, hd, rl⟩ := dicAt_ok ok e1 ro
      split at p
      · rename_i hc
        obtain ⟨o', vs', hp, hd', rl', hm⟩ := dput_ok hH hd rl hc.1 (.inl ri) rv hc.2
        have hm' : a ∈ m.mu := List.mem_of_getElem? hn
        have q : GrowS m H m (upd H a o') := grow_put (ok.muW a hm')
        obtain ⟨gr, ok'⟩ := ok.put hn hm (.dic upd_same hd' (rl'.grow ok q))
        exact .inr ⟨a, _, rfl, hp, p .non _ m gr ok' .non⟩
      · exact p.elim
    · exact .inl (by
        unfold sPut at p
        split at p
        · rename_i n xs k e1
          obtain ⟨a, vs, rfl, hn, hH, rl⟩ := lstAt_ok ok e1 ro
          have ez := ri.int_inv
          subst ez
          split at p
          · rename_i j e2
            obtain ⟨gr, ok'⟩ := put_lst ok hn (Rl.set rv j rl)
            exact ⟨a, vs, k, j, rfl, rfl, hH, by rw [← rl.length]; exact e2, p .non _ m gr ok' .non⟩
          · exact p.elim
        · exact p.elim)) he ho hi ha hsw hw h1
/-! ### d.get(k, x) -/
def sDGet : D → D → D → Sto → Res D := fun d k x g => match dr g d with
  | .dic t ks vs => if kindK t k = true then .ok ((dget ks vs k).getD x) g else .stuck
  | _ => .stuck
def isDic : D → Bool
  | .dic _ _ _ => true
  | _ => false
def eDGet (fd fk fx : E1) : E1 := fun env g => (fd env g).bind fun d g1 => if isDic (dr g1 d) = true then (fk env g1).bind fun k g2 => (fx env g2).bind fun x g3 => sDGet d k x g3 else .stuck
theorem isDic_ok {m : Mv} {H : Hp} {d : D} {v : V} (h : isDic d = true) (r : Rv S m H d v) : ∃ a, v = .ref a ∧ IsD H a := by
  cases d with
  | dic t ks vs =>
    obtain ⟨a, o, ws, rfl, h1, h2, _⟩ := r.dic
    refine ⟨a, rfl, ?_⟩
    rcases h2 with ⟨rfl, kvs, rfl, _⟩ | ⟨rfl, kvs, rfl, _⟩
    · exact .inl ⟨kvs, h1.rd⟩
    · exact .inr ⟨kvs, h1.rd⟩
  | _ => cases h
theorem e_dget2 {o e f : Expr} {fd fk fx : E1} {apos cpos : Pos} (hu : X.A.units + 64 < cLine) (ho : Pb X S W o fd) (he : Pe X S W e fk) (hf : Pe X S W f fx) (m : L2.M2 X o "get" apos e f cpos := by exact ⟨rfl, rfl, rfl, rfl⟩) :
    Pe X S W (.Call (.Attribute o "get" apos) [e, f] [] cpos) (eDGet fd fk fx) :=
  PE.to (pe_dget2 (by omega) ho he hf m) fun σ H Q q =>
    Tv.go (Ra := RB S) (k := fun d env g1 => if isDic (dr g1 d) = true then (fk env g1).bind fun k g2 => (fx env g2).bind fun x g3 => sDGet d k x g3 else .stuck) q fun env m g H1 d x rel fz ra p => by
      split at p
      · rename_i hi
        obtain ⟨a, rfl, hd⟩ := isDic_ok hi (ra.v.dr rel.mem)
        refine ⟨a, rfl, hd, env, g, m, rel, (Post.bind (R := RT S) (H0 := H1) p).q fun y H2 ⟨k, g2, m2, gr2, ok2, rk, p2⟩ => ?_⟩
        have rel2 := rel.grow gr2 ok2
        refine ⟨env, g2, m2, rel2, (Post.bind (R := RT S) (H0 := H2) p2).q fun z H3 ⟨x, g3, m3, gr3, ok3, rx, p3⟩ => ?_⟩
        have ra3 := Rv.dr ok3 (Rb.grow ok2 gr3 ok3 (Rb.grow rel.mem gr2 ok2 ra)).v
        have rk3 : Rr S m3 H3 k y := Rr.grow ok2 (gr3.s ok2.muW) rk
        unfold sDGet at p3
        split at p3
        · rename_i t ks vs ed
          rw [ed] at ra3
          split at p3
          · rename_i hk
            obtain ⟨a', o', e', hg, _, hm⟩ := dget_ok ra3 hk (.inl rk3)
            cases e'
            refine ⟨o', hg, ?_⟩
            cases qd : dget ks vs k with
            | none => rw [qd] at hm p3; rw [hm]; exact p3.now ok3 rx
            | some d' => rw [qd] at hm p3; obtain ⟨v, rfl, rv⟩ := hm; exact p3.now ok3 rv
          · exact p3.elim
        · exact p3.elim
      · exact p.elim
/-! ### {} -/
theorem f_dnewK {pos : Pos} : Pf X S W (.Dict [] [] pos) (eC (.dic 0 [] [])) := PE.to pe_dnewK fun σ H Q ⟨env, g, m, rel, p⟩ q hq =>
  p _ _ (m.own q) (grow_own hq) (rel.mem.own hq trivial) ⟨q, rfl, List.mem_cons_self, fun z => (rel.mem.free hq).1 (rel.mem.muW q z), hq, .dic upd_same (.inl ⟨rfl, [], rfl, rfl, rfl⟩) .nil⟩
theorem f_dnewT {pos : Pos} : Pf X S W (.Dict [] [] pos) (eC (.dic 1 [] [])) := PE.to pe_dnewT fun σ H Q ⟨env, g, m, rel, p⟩ q hq =>
  p _ _ (m.own q) (grow_own hq) (rel.mem.own hq trivial) ⟨q, rfl, List.mem_cons_self, fun z => (rel.mem.free hq).1 (rel.mem.muW q z), hq, .dic upd_same (.inr ⟨rfl, [], rfl, rfl, rfl⟩) .nil⟩
/-! ### {k: v, ..} -/
def ePairs : List (E1 × E1) → En (List (D × D))
  | [], _, g => .ok [] g
  | (fk, fv) :: r, env, g => (fk env g).bind fun k g1 => (fv env g1).bind fun v g2 => (ePairs r env g2).bind fun ps g3 => .ok ((k, v) :: ps) g3
def dmerge : List D → List D → List (D × D) → List D × List D
  | ks, vs, [] => (ks, vs)
  | ks, vs, (k, v) :: r => dmerge (dputK ks k) (dputV ks vs k v) r
def sDisp (ps : List (D × D)) (g : Sto) : Res D := if ps.length ≤ 15 ∧ (keysOf (ps.map (·.1))).isSome = true then .ok (.dic 0 (dmerge [] [] ps).1 (dmerge [] [] ps).2) g else .stuck
def eDisp (fs : List (E1 × E1)) : E1 := fun env g => (ePairs fs env g).bind sDisp
theorem Post.bindB {α β γ δ : Type} {R : Hp → Mv → Hp → α → β → Prop} {R' : Hp → Mv → Hp → γ → δ → Prop} {σ : St} {H0 H0' : Hp} {r : Res α} {k : α → Sto → Res γ} {m0 m : Mv} {H00 H : Hp} {Q : δ → Hp → Prop} (gr : Grow m0 H00 m H) (h : Post S R' W σ H0' (r.bind k) m0 H00 Q) :
    Post S R W σ H0 r m H (fun b H1 => ∃ a g1 m1, Grow m H m1 H1 ∧ MOk S H1 g1 m1 ∧ R H0 m1 H1 a b ∧ Post S R' W σ H0' (k a g1) m0 H00 Q) := by
  cases r with
  | ok a g => exact fun b H' m' q ok r => ⟨a, g, m', q, ok, r, h⟩
  | exc x g => exact fun cl dx H' m' q ok r => h cl dx H' m' (gr.trans q) ok r
  | stuck => exact h
abbrev trsOf (S : Stat) (W : WX) (fs : List (E1 × E1)) : List (TE × TE) := fs.map fun p => (Tv S (RT S) W p.1, Tv S (RT S) W p.2)
theorem pairs_go {σ : St} {H0' H00 : Hp} {R' : Hp → Mv → Hp → D → V → Prop} {Q' : VK} {m0 : Mv} {env : Env} : ∀ (fs : List (E1 × E1)) {m : Mv} {H : Hp} {g : Sto} {k : List (D × D) → Sto → Res D} {Qf : List (V × V) → Hp → Prop}, Grow m0 H00 m H → Rel S H σ env g m →
    Post S R' W σ H0' ((ePairs fs env g).bind k) m0 H00 Q' →
    (∀ ps vps g3 m3 H3, Grow m H m3 H3 → MOk S H3 g3 m3 → Rl S m3 H3 (ps.map (·.1)) (vps.map (·.1)) → Rl S m3 H3 (ps.map (·.2)) (vps.map (·.2)) → Post S R' W σ H0' (k ps g3) m0 H00 Q' → Qf vps H3) → tPairs (trsOf S W fs) σ H Qf
  | [], m, H, g, k, Qf, gr, rel, p, fin => fin [] [] g m H (.refl m H) rel.mem .nil .nil p
  | (fk, fv) :: r, m, H, g, k, Qf, gr, rel, p, fin => by
    have p : Post S R' W σ H0' ((fk env g).bind fun a g1 => (fv env g1).bind fun b g2 => (ePairs r env g2).bind fun ps g3 => k ((a, b) :: ps) g3) m0 H00 Q' := by
      have e : (ePairs ((fk, fv) :: r) env g).bind k = (fk env g).bind fun a g1 => (fv env g1).bind fun b g2 => (ePairs r env g2).bind fun ps g3 => k ((a, b) :: ps) g3 := by
        simp only [ePairs]
        cases fk env g with
        | ok a g1 =>
          simp only [Res.bind]
          cases fv env g1 with
          | ok b g2 =>
            simp only [Res.bind]
            cases ePairs r env g2 <;> rfl
          | exc x g => rfl
          | stuck => rfl
        | exc x g => rfl
        | stuck => rfl
      rw [← e]
      exact p
    refine ⟨env, g, m, rel, (Post.bindB (R := RT S) (H0 := H) gr p).q fun x H1 ⟨a, g1, m1, gr1, ok1, ra, p1⟩ => ?_⟩
    have rel1 := rel.grow gr1 ok1
    refine ⟨env, g1, m1, rel1, (Post.bindB (R := RT S) (H0 := H1) (gr.trans gr1) p1).q fun y H2 ⟨b, g2, m2, gr2, ok2, rb, p2⟩ => ?_⟩
    refine pairs_go r ((gr.trans gr1).trans gr2) (rel1.grow gr2 ok2) p2 fun ps vps g3 m3 H3 gr3 ok3 rk rv p3 => ?_
    refine fin ((a, b) :: ps) ((x, y) :: vps) g3 m3 H3 ((gr1.trans gr2).trans gr3) ok3 (.cons ?_ rk) (.cons ?_ rv) p3
    · exact Rr.grow ok2 (gr3.s ok2.muW) (Rr.grow ok1 (gr2.s ok1.muW) ra)
    · exact Rr.grow ok2 (gr3.s ok2.muW) rb
theorem dmerge_val {m : Mv} {H : Hp} : ∀ {kks : List Key} {vvs : List V} {ps : List (D × D)} {kvs : List (Key × V)} {ds : List D}, ps.map (·.1) = kks.map kD → Rl S m H (ps.map (·.2)) vvs → Rl S m H ds (kvs.map (·.2)) →
    (dmerge (kvs.map fun p => kD p.1) ds ps).1 = (mergeK kvs (kks.zip vvs)).map (fun p => kD p.1) ∧ Rl S m H (dmerge (kvs.map fun p => kD p.1) ds ps).2 ((mergeK kvs (kks.zip vvs)).map (·.2))
  | kks, vvs, [], kvs, ds, h1, h2, h3 => by
    cases h2
    have : kks = [] := by simpa using h1.symm
    subst this
    exact ⟨rfl, h3⟩
  | kks, vvs, (k, d) :: ps, kvs, ds, h1, h2, h3 => by
    cases kks with
    | nil => simp at h1
    | cons kk kks =>
      simp only [List.map_cons, List.cons.injEq] at h1
      obtain ⟨rfl, h1⟩ := h1
      cases h2 with
      | @cons _ v _ vvs r1 r2 =>
        have q := dmerge_val (kvs := putK kvs kk v) h1 r2 (dputV_val kD sameK_kD kk r1 h3)
        simp only [dmerge, List.zip_cons_cons]
        rw [dputK_val kD sameK_kD kk v kvs] at q
        exact q
theorem f_disp {pos : Pos} {keys : List (Option Expr)} {values : List Expr} {fs : List (E1 × E1)} (h : PPs X pos keys values (trsOf S W fs)) (hall : keys.all (·.isSome) = true := by rfl) (hl : keys.length = values.length := by rfl) (h0 : keys ≠ [] := by exact nofun)
    (h15 : keys.length ≤ 15 := by decide) : Pf X S W (.Dict keys values pos) (eDisp fs) :=
  PE.to (pe_disp h hall hl h0 h15) fun σ H Q ⟨env, g, m, rel, p⟩ q hq => by
    have gr0 : Grow m H (m.own q) (upd H q (.dK [])) := grow_own hq
    have ok0 : MOk S (upd H q (.dK [])) g (m.own q) := rel.mem.own hq trivial
    refine pairs_go (H0' := H) (H00 := H) (m0 := m) fs gr0 (rel.grow gr0 ok0) p fun ps vps g3 m3 H3 gr3 ok3 rk rv p3 => ?_
    have hnm : q ∉ (m.own q).mu := fun z => (rel.mem.free hq).1 (rel.mem.muW q z)
    have h3q : H3 q = some (.dK []) := gr3.keep q _ upd_same hnm
    have hw3 : q ∈ m3.W := gr3.wk q List.mem_cons_self
    have hm3 : q ∉ m3.mu := fun z => by
      rcases gr3.mun q z with z | z
      · exact hnm z
      · rw [upd_same] at z; cases z
    unfold sDisp at p3
    split at p3
    · rename_i hc
      obtain ⟨kks, ek⟩ := Option.isSome_iff_exists.mp hc.2
      have e1 := keysOf_rel ek rk
      have e2 := keysOf_map ek
      have hlen : kks.length = vps.length := by
        have := congrArg List.length e1
        simpa using this.symm
      have ez : vps = (kks.zip (vps.map (·.2))).map fun kv => (kV kv.1, kv.2) := by
        apply List.ext_getElem
        · simp [hlen]
        · intro i h1 h2
          have h3 : (vps.map (·.1))[i]'(by simpa using h1) = (kks.map kV)[i]'(by simpa [hlen] using h1) := by simp only [e1]
          simp only [List.getElem_map] at h3
          simp only [List.getElem_map, List.getElem_zip]
          rw [← h3]
      have hps : ps.length = vps.length := by
        have := rk.length
        simpa using this
      refine ⟨h3q, kks.zip (vps.map (·.2)), ez, ?_, ?_⟩
      · simp only [List.length_zip, List.length_map]
        have := hc.1
        omega
      · obtain ⟨q1, q2⟩ := dmerge_val (kvs := []) (ds := []) e2 rv .nil
        have qg : GrowS m3 H3 m3 (upd H3 q (.dK (mergeK [] (kks.zip (vps.map (·.2)))))) := grow_put hw3
        refine p3 _ _ m3 ?_ ?_ ⟨q, rfl, hw3, hm3, hq, .dic upd_same (.inl ⟨rfl, _, rfl, q1, rfl⟩) (q2.grow ok3 qg)⟩
        · have gt := gr0.trans gr3
          refine ⟨fun a o e n => ?_, fun a e => ?_, gt.mu, gt.mun, gt.wk, gt.wn, gt.b⟩
          · rw [upd_ne (ne_of_none e hq)]; exact gt.keep a o e n
          · by_cases ha : a = q
            · subst ha; rw [upd_same] at e; cases e
            · rw [upd_ne ha] at e; exact gt.liv a e
        · refine ⟨ok3.len, fun n d a e1 e2 => ?_, ok3.nd, ok3.muW, fun a ha => ?_, ok3.dis⟩
          · refine (ok3.sto n d a e1 e2).grow ok3 qg fun u e => ?_
            rw [upd_ne fun z => hm3 (by rw [← z]; exact List.mem_of_getElem? e2)]
            exact e
          · by_cases hb : a = q
            · subst hb; rw [upd_same]; exact trivial
            · rw [upd_ne hb]; exact ok3.trk a ha
    · exact p3.elim
end
end Ev
namespace Ev
open PySem PySem.Spec PyProof.Rows L2
/-! ### the head: defs by paths, classes -/
inductive Pth where
  | glo (x : Str) | met (x m : Str) | cmt (x m : Str) | pro (x m : Str)
def recAt (K : PySem.W.Frag) (p : Addr) (T : String) : Addr := match PySem.W.recIn K p T with
  | some (.ref g :: _) => g
  | _ => 0
def Pth.ad (K : PySem.W.Frag) : Pth → Addr
  | .glo x => He.ga K x
  | .met x m => He.ma K (He.ga K x) m
  | .cmt x m => recAt K (He.ma K (He.ga K x) m) "classmethod"
  | .pro x m => recAt K (He.ma K (He.ga K x) m) "property"
structure DefE where
  pth : Pth
  name : Str
  qual : Str
  st : Stmt
  dfl : List He.Dv := []
def fnE (K : PySem.W.Frag) (a : Addr) : He.FnW := match K.lookup a with
  | some o => (match o.data with
    | .func fd => some (fd.name, fd.qualname, fd.params, fd.body, fd.scope, fd.globals, fd.closure, fd.builtins)
    | _ => none)
  | none => none
def DefE.val (d : DefE) : He.FnW := some (d.name, d.qual, defArgs d.st, .stmts (defBody d.st), defScope d.st, mainGlobals, [], builtinsNs)
def DefE.dvs (K : PySem.W.Frag) (d : DefE) : List V := d.dfl.map (He.Dv.v K)
def DefE.ok (K : PySem.W.Frag) (d : DefE) : Bool := PySem.W.keepIn K (.ref (d.pth.ad K)) && (match K.lookup (d.pth.ad K) with
  | some o => (match o.data with
    | .func fd => PySem.W.codeIn K fd.code d.qual && He.dflB K fd.defaults (d.dvs K)
    | _ => false)
  | none => false)
/-- the def st with these defaults stands at the path -/
structure GotP (K : PySem.W.Frag) (p : Pth) (x qual : Str) (st : Stmt) (dvs : List V) : Prop where
  ex : ∃ fd, FunD K x qual (defArgs st) (defBody st) (defScope st) dvs [] (p.ad K) fd
theorem DefE.got {K : PySem.W.Frag} {d : DefE} (e : fnE K (d.pth.ad K) = d.val) (c : d.ok K = true) : GotP K d.pth d.name d.qual d.st (d.dvs K) := by
  obtain ⟨kp, c2⟩ := He.ba c
  unfold fnE at e
  cases q : K.lookup (d.pth.ad K) with
  | none => rw [q] at c2; cases c2
  | some o =>
    obtain ⟨oc, od, dt, osl⟩ := o
    rw [q] at c2 e
    cases dt with
    | func fd =>
      obtain ⟨n1, n2, n3, n4, n5, n6, n7, n8, n9, n10, n11, n12, n13, n14, n15⟩ := fd
      have e2 := Option.some.inj e
      simp only [Prod.mk.injEq] at e2
      obtain ⟨h1, h2, h3, h4, h5, h6, h7, h8⟩ := e2
      subst h1 h2 h3 h4 h5 h6 h7 h8
      obtain ⟨k1, k2⟩ := He.ba c2
      exact ⟨_, ⟨oc, od, n8, n9, n10, n11, n12, n13, n14, osl, rfl, q, k1, He.dflB_ok k2, .inl rfl⟩, kp⟩
    | _ => cases c2
abbrev Chk := PySem.W.Frag → Bool
abbrev AlE : Type := Bool × List He.FnW
def obsE (fe : List Chk) (fn : List DefE) (K : PySem.W.Frag) : AlE := ((fe.all fun f => f K) && fn.all fun d => d.ok K, fn.map fun d => fnE K (d.pth.ad K))
def valE (fn : List DefE) : AlE := (true, fn.map DefE.val)
def SaysE (fe : List Chk) (fn : List DefE) (K : PySem.W.Frag) : Prop := obsE fe fn K = valE fn
/-- what the top's names reach, and the statics -/
def asE (g : Addr → Option Obj) (n : Nat) : List Addr := cStatics :: He.asD g n
def obsEG (n : Nat) (fe : List Chk) (fn : List DefE) (g : Addr → Option Obj) : AlE := obsE fe fn (He.frG g (asE g n))
def hookE (n : Nat) (fe : List Chk) (fn : List DefE) : PySem.W.Hook where
  α := AlE
  obs := fun s => obsEG n fe fn s.heap.get?
  val := fun _ => valE fn
  says := fun _ h => ∃ K : PySem.W.Frag, K.In h ∧ SaysE fe fn K
  of := fun _ _ e => ⟨_, He.frG_in, e⟩
  keeps := fun _ _ _ ⟨K, hK, c⟩ k => ⟨K, PySem.W.Frag.In.keeps hK k, c⟩
theorem obsEG_eq {n : Nat} {fe : List Chk} {fn : List DefE} {g : Addr → Option Obj} {s : Shared} (h : ∀ a, g a = s.heap.get? a) : obsEG n fe fn g = (hookE n fe fn).obs s := by
  have e : g = s.heap.get? := funext h
  rw [e] <;> rfl
theorem SaysE.fact {fe : List Chk} {fn : List DefE} {K : PySem.W.Frag} (c : SaysE fe fn K) (i : Nat) {f : Chk} (h : fe[i]? = some f := by rfl) : f K = true := by
  have c1 := (He.ba (show ((fe.all fun f => f K) && fn.all fun d => d.ok K) = true from congrArg (fun z : AlE => z.1) c)).1
  exact List.all_eq_true.mp c1 f (List.mem_of_getElem? h)
theorem SaysE.got {fe : List Chk} {fn : List DefE} {K : PySem.W.Frag} (c : SaysE fe fn K) (i : Nat) {d : DefE} (h : fn[i]? = some d := by rfl) : GotP K d.pth d.name d.qual d.st (d.dvs K) := by
  have c2 := (He.ba (show ((fe.all fun f => f K) && fn.all fun d => d.ok K) = true from congrArg (fun z : AlE => z.1) c)).2
  have e : fn.map (fun d => fnE K (d.pth.ad K)) = fn.map DefE.val := congrArg (fun z : AlE => z.2) c
  have e2 : (fn.map fun d => fnE K (d.pth.ad K))[i]? = (fn.map DefE.val)[i]? := by rw [e]
  rw [List.getElem?_map, List.getElem?_map, h] at e2
  exact DefE.got (Option.some.inj e2) (List.all_eq_true.mp c2 d (List.mem_of_getElem? h))
/-! checks -/
def chGlo (x : Str) : Chk := fun K => (He.Fa.glo x).ok K
def chFree (x : Str) : Chk := fun K => (He.Fa.free x).ok K
def chInt (x : Str) (i : Int) : Chk := fun K => (He.Fa.int x i).ok K
def chStr (x z : Str) : Chk := fun K => (He.Fa.str x z).ok K
def chCls (x : Str) : Chk := fun K => (He.Fa.cls x).ok K
def chNoat (x f : Str) : Chk := fun K => (He.Fa.noat x f).ok K
def chMeth (x m : Str) : Chk := fun K => (He.Fa.meth x m).ok K
def chMk (x : Str) : Chk := fun K => (He.Fa.mkr x).ok K
def chTup (x : Str) (vs : List He.Dv) : Chk := fun K => He.tupB K x vs
def chSelf (x : Str) : Chk := fun K => PySem.W.selfFirst K (He.ga K x)
def chNe (x : Str) : Chk := fun K => He.eqO (PySem.W.findIn K (.ref (He.ga K x)) "__ne__") (some (some (.builtin "object.__ne__"))) && decide (PySem.W.mroIn K (He.ga K x) (.type "object") = some true)
theorem chNe_ok {K : PySem.W.Frag} {x : Str} (h : chNe x K = true) : PySem.W.findIn K (.ref (He.ga K x)) "__ne__" = some (some (.builtin "object.__ne__")) ∧ PySem.W.mroIn K (He.ga K x) (.type "object") = some true := by
  obtain ⟨h1, h2⟩ := He.ba h
  exact ⟨He.eqO_ok h1, of_decide_eq_true h2⟩
def recB (K : PySem.W.Frag) (p : Addr) (T : String) : Bool := match PySem.W.recIn K p T with
  | some (.ref _ :: _) => true
  | _ => false
theorem recB_ok {K : PySem.W.Frag} {p : Addr} {T : String} (h : recB K p T = true) : ∃ rest, PySem.W.recIn K p T = some (.ref (recAt K p T) :: rest) := by
  unfold recB at h
  unfold recAt
  cases e : PySem.W.recIn K p T with
  | none => rw [e] at h; cases h
  | some l =>
    rw [e] at h
    cases l with
    | nil => cases h
    | cons v r =>
      cases v with
      | ref g => exact ⟨r, rfl⟩
      | _ => cases h
def fclsB (K : PySem.W.Frag) (C : Addr) (m : Str) (p : Addr) : Bool := match PySem.W.findCls K (.ref C) (.type "type") m with
  | some (.get (.builtin i) (.ref q) .none (.ref C')) => decide (i = "classmethod.__get__") && (decide (q = p) && decide (C' = C))
  | _ => false
theorem fclsB_ok {K : PySem.W.Frag} {C p : Addr} {m : Str} (h : fclsB K C m p = true) : PySem.W.findCls K (.ref C) (.type "type") m = some (.get (.builtin "classmethod.__get__") (.ref p) .none (.ref C)) := by
  unfold fclsB at h
  split at h
  · rename_i i q C' e
    obtain ⟨h1, h2⟩ := He.ba h
    obtain ⟨h2, h3⟩ := He.ba h2
    rw [e, of_decide_eq_true h1, of_decide_eq_true h2, of_decide_eq_true h3]
  · cases h
def chCmt (x m : Str) : Chk := fun K => PySem.W.readsIn K (He.ga K x) (.type "type") && (He.eqO (PySem.W.specialIn K (.ref (He.ga K x)) "__getattribute__") (some (some (.builtin "type.__getattribute__"))) &&
  (fclsB K (He.ga K x) m (He.ma K (He.ga K x) m) && (recB K (He.ma K (He.ga K x) m) "classmethod" && PySem.W.fnIn K ((Pth.cmt x m).ad K))))
theorem chCmt_ok {K : PySem.W.Frag} {x m : Str} (h : chCmt x m K = true) : ClX.CRead K (He.ga K x) (.type "type") ∧ ClX.CMet K (He.ga K x) (.type "type") m (He.ma K (He.ga K x) m) ((Pth.cmt x m).ad K) := by
  obtain ⟨h1, h⟩ := He.ba h
  obtain ⟨h2, h⟩ := He.ba h
  obtain ⟨h3, h⟩ := He.ba h
  obtain ⟨h4, h5⟩ := He.ba h
  exact ⟨⟨h1, He.eqO_ok h2⟩, fclsB_ok h3, recB_ok h4, h5⟩
def chPro (x m : Str) : Chk := fun K => He.eqO (PySem.W.findIn K (.ref (He.ga K x)) m) (some (some (.ref (He.ma K (He.ga K x) m)))) && (He.eqO (PySem.W.specialIn K (.ref (He.ma K (He.ga K x) m)) "__get__") (some (some (.builtin "property.__get__"))) &&
  (decide (PySem.W.takesIn K (.ref (He.ma K (He.ga K x) m)) = some true) && recB K (He.ma K (He.ga K x) m) "property"))
theorem chPro_ok {K : PySem.W.Frag} {x m : Str} (h : chPro x m K = true) : PropOf K (He.ga K x) m (He.ma K (He.ga K x) m) ((Pth.pro x m).ad K) := by
  obtain ⟨h1, h⟩ := He.ba h
  obtain ⟨h2, h⟩ := He.ba h
  obtain ⟨h3, h4⟩ := He.ba h
  exact ⟨He.eqO_ok h1, He.eqO_ok h2, of_decide_eq_true h3, recB_ok h4⟩
def isB (K : PySem.W.Frag) (C : Addr) : Bool := He.eqO (PySem.W.findIn K (.ref C) "__class__") (some (some (.builtin "object.__class__"))) && (He.eqO (PySem.W.specialIn K (.builtin "object.__class__") "__get__") (some (some (.builtin "getset_descriptor.__get__"))) &&
  (decide (PySem.W.takesIn K (.builtin "object.__class__") = some true) && (decide (PySem.W.mroIn K C (.type "object") = some true) &&
  (isTypes.all (fun T => decide (PySem.W.kitOne K (.ref C) (.type T) = some false)) && kinds7.all fun T => decide (PySem.W.kitOne K (.type T) (.ref C) = some false)))))
def kitB (K : PySem.W.Frag) (cs : List Addr) : Bool := (List.range cs.length).all fun i => (List.range cs.length).all fun j => match cs[i]?, cs[j]? with
  | some C, some C' => decide (PySem.W.kitOne K (.ref C) (.ref C') = some (decide (i = j)))
  | _, _ => true
def chStat (xs : List Str) : Chk := fun K => xs.all (fun x => (He.Fa.cls x).ok K && isB K (He.ga K x)) && kitB K (xs.map (He.ga K))
theorem chStat_ok {K : PySem.W.Frag} {xs : List Str} (h : chStat xs K = true) : StatOk ⟨K, xs.map (He.ga K)⟩ := by
  obtain ⟨h1, h2⟩ := He.ba h
  have at_ : ∀ {c : Nat} {C : Addr}, (xs.map (He.ga K))[c]? = some C → Cls K C ∧ isB K C = true := fun {c C} e => by
    rw [List.getElem?_map] at e
    cases q : xs[c]? with
    | none => rw [q] at e; cases e
    | some x =>
      rw [q] at e
      cases e
      obtain ⟨q1, q2⟩ := He.ba (List.all_eq_true.mp h1 x (List.mem_of_getElem? q))
      exact ⟨He.cls_ok q1, q2⟩
  refine ⟨fun c C e => ?_, fun c C T e hT => ?_, fun c C T e hT => ?_, fun c c' C C' e e' => ?_⟩
  · obtain ⟨q1, q2⟩ := at_ e
    obtain ⟨a1, q2⟩ := He.ba q2
    obtain ⟨a2, q2⟩ := He.ba q2
    obtain ⟨a3, q2⟩ := He.ba q2
    obtain ⟨a4, q2⟩ := He.ba q2
    exact ⟨q1, He.eqO_ok a1, He.eqO_ok a2, of_decide_eq_true a3, of_decide_eq_true a4⟩
  · obtain ⟨q1, q2⟩ := at_ e
    obtain ⟨a1, q2⟩ := He.ba q2
    obtain ⟨a2, q2⟩ := He.ba q2
    obtain ⟨a3, q2⟩ := He.ba q2
    obtain ⟨a4, q2⟩ := He.ba q2
    obtain ⟨a5, q2⟩ := He.ba q2
    exact of_decide_eq_true (List.all_eq_true.mp a5 T hT)
  · obtain ⟨q1, q2⟩ := at_ e
    obtain ⟨a1, q2⟩ := He.ba q2
    obtain ⟨a2, q2⟩ := He.ba q2
    obtain ⟨a3, q2⟩ := He.ba q2
    obtain ⟨a4, q2⟩ := He.ba q2
    obtain ⟨a5, q2⟩ := He.ba q2
    exact of_decide_eq_true (List.all_eq_true.mp q2 T hT)
  · have l1 := (List.getElem?_eq_some_iff.mp e).1
    have l2 := (List.getElem?_eq_some_iff.mp e').1
    have q := List.all_eq_true.mp (List.all_eq_true.mp h2 c (List.mem_range.mpr l1)) c' (List.mem_range.mpr l2)
    rw [show (xs.map (He.ga K))[c]? = some C from e, show (xs.map (He.ga K))[c']? = some C' from e'] at q
    exact of_decide_eq_true q
section
variable {P : Program} {w : World} {K : PySem.W.Frag} {mg : Str → Option Value} {base : Heap} {S : Stat}
theorem GotP.got {x : Str} {st : Stmt} (g : GotP K (.glo x) x x st []) (h : mg x = some (.ref (He.ga K x))) : Got K mg x st := by
  obtain ⟨fd, F⟩ := g.ex
  exact ⟨_, fd, F, h⟩
abbrev BodyOk (P : Program) (w : World) (K : PySem.W.Frag) (mg : Str → Option Value) (base : Heap) (S : Stat) (N : List Str) (q : Str) (st : Stmt) (k : Nat) (sd : Sd) : Prop :=
  ∀ (f : Addr) (cdv : Value) (A : Around) (outer : List PySem.Env) (s : Shared) (H : Hp) (E : XK), Room k (A.deeper (envOfC q (defScope st) s.heap.objs.size f cdv)) → Pss ((cxOf CX0 P w K mg base N q (defScope st) f cdv A outer s H E).nox) S W0 (defBody st) sd
abbrev BindOk (x q : Str) (st : Stmt) (ps : List Str) : Prop :=
  ∀ (kV doc pm : Value) (an : Option Addr) (cdv ct : Value) (us : List Value), us.length = ps.length → bindArgs (PySem.W.fnOf x q (defArgs st) (defBody st) (defScope st) .none kV doc pm an cdv ct) ⟨us, []⟩ = pure (ps.zip us)
theorem met_mk {x q m : Str} {st : Stmt} {c k : Nat} {N ps : List Str} {sd : Sd} (G : GotP K (.met x m) m q st []) (hc : chCls x K = true) (hm : chMeth x m K = true) (hC : S.kc[c]? = some (He.ga K x)) (C : FnScope N ps (defScope st)) (hb : BindOk m q st ps) (h : BodyOk P w K mg base S N q st k sd) :
    MetS P w K mg base S c m (k + 1) ps (Spec S ps.length (fnOf N.length sd)) := by
  obtain ⟨fd, F⟩ := G.ex
  exact ⟨_, _, fd, hC, He.cls_ok hc, He.meth_ok hm, F.bindsN hb, fn_ok F C (h _)⟩
theorem metO_mk {x q m : Str} {st : Stmt} {c k : Nat} {N ps : List Str} {sd : Sd} (G : GotP K (.met x m) m q st []) (hc : chCls x K = true) (hm : chMeth x m K = true) (hC : S.kc[c]? = some (He.ga K x)) (C : FnScope N ps (defScope st)) (hb : BindOk m q st ps) (h : BodyOk P w K mg base S N q st k sd) :
    MetS P w K mg base S c m (k + 1) ps (SpecO S ps.length (fnOfO N.length sd)) := by
  obtain ⟨fd, F⟩ := G.ex
  exact ⟨_, _, fd, hC, He.cls_ok hc, He.meth_ok hm, F.bindsN hb, fnO_ok F C (h _)⟩
theorem MetS.spc {X : Cx} {c k : Nat} {m : Str} {ps : List Str} {sp : Sp} (d : MetS X.prog X.w X.K X.mg X.base S c m k ps sp) : SpcD X S c m k ps sp := by
  obtain ⟨C, f, fd, h1, h2, h3, h4, h5⟩ := d.ex
  exact ⟨C, h1, f, fd, h3.at_, h3.fn, h4, h5⟩
theorem pro_mk {x q m : Str} {st : Stmt} {c k : Nat} {N ps : List Str} {sd : Sd} (G : GotP K (.pro x m) m q st []) (hc : chCls x K = true) (hm : chPro x m K = true) (hC : S.kc[c]? = some (He.ga K x)) (C : FnScope N ps (defScope st)) (hb : BindOk m q st ps) (h : BodyOk P w K mg base S N q st k sd) :
    ProS P w K mg base S c m (k + 1) ps (Spec S ps.length (fnOf N.length sd)) := by
  obtain ⟨fd, F⟩ := G.ex
  exact ⟨_, _, _, fd, hC, He.cls_ok hc, chPro_ok hm, F.bindsN hb, fn_ok F C (h _)⟩
theorem cmt_mk {x q m : Str} {st : Stmt} {c k : Nat} {N ps : List Str} {sd : Sd} (G : GotP K (.cmt x m) m q st []) (hg : mg x = some (.ref (He.ga K x))) (hm : chCmt x m K = true) (hC : S.kc[c]? = some (He.ga K x)) (C : FnScope N ps (defScope st)) (hb : BindOk m q st ps) (h : BodyOk P w K mg base S N q st k sd) :
    CmtS P w K mg base S x c m (k + 1) ps (Spec S ps.length (fnOf N.length sd)) := by
  obtain ⟨fd, F⟩ := G.ex
  obtain ⟨h1, h2⟩ := chCmt_ok hm
  exact ⟨_, _, _, _, fd, hg, hC, h1, h2, F.bindsN hb, fn_ok F C (h _)⟩
theorem cmtO_mk {x q m : Str} {st : Stmt} {c k : Nat} {N ps : List Str} {sd : Sd} (G : GotP K (.cmt x m) m q st []) (hg : mg x = some (.ref (He.ga K x))) (hm : chCmt x m K = true) (hC : S.kc[c]? = some (He.ga K x)) (C : FnScope N ps (defScope st)) (hb : BindOk m q st ps) (h : BodyOk P w K mg base S N q st k sd) :
    CmtS P w K mg base S x c m (k + 1) ps (SpecO S ps.length (fnOfO N.length sd)) := by
  obtain ⟨fd, F⟩ := G.ex
  obtain ⟨h1, h2⟩ := chCmt_ok hm
  exact ⟨_, _, _, _, fd, hg, hC, h1, h2, F.bindsN hb, fnO_ok F C (h _)⟩
theorem init_mk {x q : Str} {st : Stmt} {c k : Nat} {N ps : List Str} {sd : Sd} (G : GotP K (.met x "__init__") "__init__" q st []) (hg : mg x = some (.ref (He.ga K x))) (hc : chCls x K = true) (hm : chMk x K = true) (hC : S.kc[c]? = some (He.ga K x)) (C : FnScope N ps (defScope st)) (hN : 0 < ps.length) (hb : BindOk "__init__" q st ps) (h : BodyOk P w K mg base S N q st k sd) :
    DefI P w K mg base S x c (k + 1) ps (fnOfI N.length c sd) := by
  obtain ⟨fd, F⟩ := G.ex
  exact ⟨_, _, fd, hg, hC, He.cls_ok hc, He.mkr_ok hm, F.bindsN hb, fnI_ok F C hN (h _)⟩
end
section
variable {X : Cx} {S : Stat} {W : WX}
/-- a statement that is never reached -/
def sNo : Sd := fun _ _ => .stuck
theorem s_no {st : Stmt} : Ps X S W st sNo := ⟨fun pins s σ H D I h => by
  obtain ⟨env, g, m, rel, p⟩ := h
  exact p.elim⟩
end
end Ev
namespace Ev
open PySem PySem.Spec PyProof.Rows L2
section
variable {X : Cx} {S : Stat} {W : WX}
/-! ### + of ints, texts, lists, tuples -/
def sAddA : D → D → Sto → Res D
  | .int i, .int j, g => .ok (.int (i + j)) g
  | .str x, .str y, g => if x.length + y.length ≤ big then .ok (.str (x ++ y)) g else .stuck
  | .lst xs, .lst ys, g => if xs.length + ys.length ≤ big then .ok (.lst (xs ++ ys)) g else .stuck
  | .tup xs, .tup ys, g => if xs.length + ys.length ≤ big then .ok (.tup (xs ++ ys)) g else .stuck
  | _, _, _ => .stuck
theorem e_addA {a b : Expr} {fa fb : E1} {pos : Pos} (hK : S.K = X.K) (ha : Pb X S W a fa) (hb : Pb X S W b fb) : Pe X S W (.BinOp a .Add b pos) (eB (dr2 sAddA) fa fb) :=
  e_op ((op_add.or (op_add_str.or op_catX)).or op_catA) (Sem2.dr fun σ H0 m g H a b x y Q ok fz ra rb p => by
    cases a with
    | int i =>
      cases b with
      | int j => rw [ra.int, rb.int]; exact .inl (.inl ⟨i, j, rfl, rfl, p.now ok (.int _)⟩)
      | _ => exact p.elim
    | str i =>
      cases b with
      | str j =>
        rw [ra.str, rb.str]
        simp only [sAddA] at p
        split at p
        · rename_i c; exact .inl (.inr (.inl ⟨i, j, rfl, rfl, big_line c, p.now ok (.str _)⟩))
        · exact p.elim
      | _ => exact p.elim
    | lst xs =>
      cases b with
      | lst ys =>
        obtain ⟨l, vs, rfl, h1, r1⟩ := ra.lst
        obtain ⟨l', vs', rfl, h2, r2⟩ := rb.lst
        simp only [sAddA] at p
        split at p
        · rename_i c
          exact .inl (.inr (.inr ⟨l, l', vs, vs', rfl, rfl, hK ▸ h1, hK ▸ h2, by rw [← r1.length, ← r2.length]; exact big_line c, fun q hq => p.newL ok (r1.append r2) hq⟩))
        · exact p.elim
      | _ => exact p.elim
    | tup xs =>
      cases b with
      | tup ys =>
        obtain ⟨l, vs, rfl, h1, r1⟩ := ra.tupH
        obtain ⟨l', vs', rfl, h2, r2⟩ := rb.tupH
        simp only [sAddA] at p
        split at p
        · rename_i c
          refine .inr ⟨l, l', vs, vs', rfl, rfl, SqT.of h1, SqT.of h2, by rw [← r1.length, ← r2.length]; exact big_line c, fun e => ?_, fun e e' => ?_, fun e e' q hq => p.newT ok (r1.append r2) hq⟩
          · have e1 := r1.nil_iff.mpr e
            subst e1
            exact p.now ok (.tup h2 r2)
          · have e1 := r2.nil_iff.mpr e'
            subst e1
            rw [List.append_nil] at p
            exact p.now ok (.tup h1 r1)
        · exact p.elim
      | _ => exact p.elim
    | _ => exact p.elim) ha hb
/-! ### slices of lists, tuples, texts, as trees -/
def sSlA : D → Option Int → Option Int → Sto → Res D
  | .lst xs, lo, hi, g => .ok (.lst (cutL xs lo hi)) g
  | .frz xs, lo, hi, g => .ok (.lst (cutL xs lo hi)) g
  | .tup xs, lo, hi, g => .ok (.tup (cutL xs lo hi)) g
  | .str z, lo, hi, g => if z.length ≤ big then .ok (.str (cutS z lo hi)) g else .stuck
  | _, _, _, _ => .stuck
theorem e_slA {e : Expr} {f : E1} {lo hi : Option Expr} {fl fh : En (Option Int)} {p2 pos : Pos} (hK : S.K = X.K) (he : Pb X S W e f) (hl : Po X S W lo fl) (hh : Po X S W hi fh) : Pe X S W (.Subscript e (.Slice lo hi none p2) pos) (eSl (fun d l h g => sSlA (dr g d) l h g) f fl fh) :=
  slice_any (Ev.SlR.or sl_list (Ev.SlR.or sl_tupA sl_str)) (fun σ H0 m g H d l h x Q ok fz ra p => by
    cases d with
    | lst xs =>
      obtain ⟨a, vs, rfl, h1, r1⟩ := ra.lst
      exact .inl ⟨a, vs, rfl, hK ▸ h1, fun q hq => p.newL ok (r1.cut l h) hq⟩
    | frz xs =>
      obtain ⟨a, vs, rfl, h1, r1⟩ := ra.frz
      exact .inl ⟨a, vs, rfl, hK ▸ h1, fun q hq => p.newL ok (r1.cut l h) hq⟩
    | tup xs =>
      obtain ⟨a, vs, rfl, h1, r1⟩ := ra.tupH
      refine .inr (.inl ⟨a, vs, rfl, SqT.of h1, fun e => ?_, fun _ q hq => p.newT ok (r1.cut l h) hq⟩)
      have e1 : cutL xs l h = xs := cut_whole (by rw [r1.length]; exact e)
      simp only [sSlA] at p
      rw [e1] at p
      exact p.now ok (.tup h1 r1)
    | str z =>
      have ez := ra.str
      subst ez
      simp only [sSlA] at p
      split at p
      · rename_i c
        exact .inr (.inr ⟨z, rfl, big_line c, p.now ok (.str _)⟩)
      · exact p.elim
    | _ => exact p.elim) he hl hh
/-! ### len, of a dict too -/
theorem call_lenD' : CallR X (.builtin "len") (fun xs H Q => ∃ a kvs, xs = [V.ref a] ∧ Rd H a (.dK kvs) ∧ Q (.int kvs.length) H) := by
  intro pins s σ H xs us Q I r h
  obtain ⟨a, kvs, rfl, ha, q⟩ := h
  obtain ⟨u, rfl, ru⟩ := vals1 r
  cases ru
  exact d_len I ha fun t s' I' => ⟨.int kvs.length, H, I', ⟨t, rfl⟩, q⟩
def sLenA : D → Sto → Res D
  | .lst xs, g => .ok (.int xs.length) g
  | .frz xs, g => .ok (.int xs.length) g
  | .tup xs, g => .ok (.int xs.length) g
  | .ctup xs, g => .ok (.int xs.length) g
  | .str z, g => if z.length ≤ big then .ok (.int z.length) g else .stuck
  | .dic _ ks _, g => .ok (.int ks.length) g
  | _, _ => .stuck
theorem e_lenA {e : Expr} {f : E1} {p pos : Pos} (hK : S.K = X.K) (hg : Gl X "len") (hm : X.mg "len" = none) (he : Pb X S W e f) (hst : starEach [e] X.env = (false, eval e X.env) :: starEach [] X.env := by rfl) : Pe X S W (.Call (.Name "len" p) [e] [] pos) (eU (dr1 sLenA) f) :=
  call1 (Ev.CallR.or (Ev.CallR.or call_len_seq call_len_str) (Ev.CallR.or call_lenD' call_len_dT)) hg hm PySem.boot_len (fun σ H0 m g H a x Q ok fz ra q => by
    cases a with
    | lst xs =>
      obtain ⟨l, vs, rfl, h1, r1⟩ := ra.lst
      exact .inl (.inl ⟨l, vs, rfl, .inl (hK ▸ h1), by rw [← r1.length]; exact q.now ok (.int _)⟩)
    | frz xs =>
      obtain ⟨l, vs, rfl, h1, r1⟩ := ra.frz
      exact .inl (.inl ⟨l, vs, rfl, .inl (hK ▸ h1), by rw [← r1.length]; exact q.now ok (.int _)⟩)
    | tup xs =>
      obtain ⟨l, vs, rfl, h1, r1⟩ := ra.tup
      exact .inl (.inl ⟨l, vs, rfl, .inr (hK ▸ h1), by rw [← r1.length]; exact q.now ok (.int _)⟩)
    | ctup xs =>
      obtain ⟨l, vs, rfl, h1, r1⟩ := ra.ctup
      exact .inl (.inl ⟨l, vs, rfl, .inr (hK ▸ h1), by rw [← r1.length]; exact q.now ok (.int _)⟩)
    | str z =>
      have e := ra.str
      subst e
      simp only [sLenA] at q
      split at q
      · rename_i c; exact .inl (.inr ⟨z, rfl, big_line c, q.now ok (.int _)⟩)
      · exact q.elim
    | dic t ks ds =>
      obtain ⟨a, o, vs, rfl, h1, h2, r1⟩ := ra.dic
      rcases h2 with ⟨rfl, kvs, rfl, rfl, rfl⟩ | ⟨rfl, kvs, rfl, rfl, rfl⟩
      · refine .inr (.inl ⟨a, kvs, rfl, h1.rd, ?_⟩)
        have := q.now ok (.int _)
        simpa using this
      · rcases h1 with h1 | ⟨u, kk, e, _⟩
        · refine .inr (.inr ⟨a, kvs, rfl, h1, ?_⟩)
          have := q.now ok (.int _)
          simpa using this
        · cases e
    | _ => exact q.elim) he (by decide) (by decide) hst
/-! ### x, y = e, f: one tree, one's own -/
def sParSO (i j : Nat) (f h : E1) : Sd := thenS f (fun d env g => thenS h (fun d' env g => .nx ((env.set i (.sh d)).set j (.ow d')) g) env g)
def sParOS (i j : Nat) (f h : E1) : Sd := thenS f (fun d env g => thenS h (fun d' env g => .nx ((env.set i (.ow d)).set j (.sh d')) g) env g)
theorem s_parSO {i j : Nat} {x y : Str} {a b : Expr} {f h : E1} {px py pt pos : Pos} {kt k2 pt2} (hc : X.calm = true) (hN : X.N.Nodup) (hi : X.N[i]? = some x) (hj : X.N[j]? = some y) (hij : i ≠ j)
    (hx : X.env.scope.names.lookup x = some .local) (hy : X.env.scope.names.lookup y = some .local) (ha : Pe X S W a f) (hb : Pf X S W b h)
    (hw : swappedStores [.Tuple [.Name x px, .Name y py] kt pt] (.Tuple [a, b] k2 pt2) X.env = pure (some [x, y]))
    (hst : starEach [a, b] X.env = (false, eval a X.env) :: starEach [b] X.env := by rfl) (hst2 : starEach [b] X.env = (false, eval b X.env) :: starEach [] X.env := by rfl)
    (hs : swapsWithSole [.Tuple [.Name x px, .Name y py] kt pt] (.Tuple [a, b] k2 pt2) pos.line X.env = pure false := by rfl) :
    Ps X S W (.Assign [.Tuple [.Name x px, .Name y py] kt pt] (.Tuple [a, b] k2 pt2) pos) (sParSO i j f h) :=
  PS.to (ps_par hc hN hi hj hij hx hy (pa_cons ha (pa_cons hb pa_nil hst2) hst) hw hs) fun E σ H q => Tv.st (R := RT S) q fun env g0 g m0 m H1 da va r0 gr r1 ra p => by
    refine Tv.st1 (R := RF S) r1 p fun g' m' H2 db vb gr' r1' ⟨p2, ev2, w2, u2, n2, o2⟩ p' => ?_
    subst ev2
    have ra' : Rr S m' H2 da va := Rr.grow r1.mem (gr'.s r1.mem.muW) ra
    have r2 := r1'.set i ra'
    have z2 : ∀ (k : Nat) (d' : D), env[k]? = some (Slot.ow d') → σ[k]? = some (some (V.ref p2)) → False := r1.newO n2
    refine ⟨va, .ref p2, rfl, p' _ H2 m' (.refl m' H2) (r2.setO j w2 u2 o2 fun k d' e1 e2 => ?_)⟩
    by_cases hk : i = k
    · subst hk
      have hl : i < env.length := by have := (List.getElem?_eq_some_iff.mp e1).1; simpa using this
      rw [List.getElem?_set_self hl] at e1
      cases e1
    · rw [List.getElem?_set_ne hk] at e1 e2
      exact z2 k d' e1 e2
theorem s_parOS {i j : Nat} {x y : Str} {a b : Expr} {f h : E1} {px py pt pos : Pos} {kt k2 pt2} (hc : X.calm = true) (hN : X.N.Nodup) (hi : X.N[i]? = some x) (hj : X.N[j]? = some y) (hij : i ≠ j)
    (hx : X.env.scope.names.lookup x = some .local) (hy : X.env.scope.names.lookup y = some .local) (ha : Pf X S W a f) (hb : Pe X S W b h)
    (hw : swappedStores [.Tuple [.Name x px, .Name y py] kt pt] (.Tuple [a, b] k2 pt2) X.env = pure (some [x, y]))
    (hst : starEach [a, b] X.env = (false, eval a X.env) :: starEach [b] X.env := by rfl) (hst2 : starEach [b] X.env = (false, eval b X.env) :: starEach [] X.env := by rfl)
    (hs : swapsWithSole [.Tuple [.Name x px, .Name y py] kt pt] (.Tuple [a, b] k2 pt2) pos.line X.env = pure false := by rfl) :
    Ps X S W (.Assign [.Tuple [.Name x px, .Name y py] kt pt] (.Tuple [a, b] k2 pt2) pos) (sParOS i j f h) :=
  PS.to (ps_par hc hN hi hj hij hx hy (pa_cons ha (pa_cons hb pa_nil hst2) hst) hw hs) fun E σ H q => Tv.st (R := RF S) q fun env g0 g m0 m H1 da va r0 gr r1 ⟨p1, ev, w1, u1, n1, o1⟩ p => by
    subst ev
    refine Tv.st1 (R := RT S) r1 p fun g' m' H2 db vb gr' r1' rb p' => ?_
    have live : H1 p1 ≠ none := fun z => by have := r1.mem.trk p1 (.inl w1); rw [z] at this; exact this
    have w1' := gr'.wk p1 w1
    have u1' : p1 ∉ m'.mu := fun z => (gr'.mun p1 z).elim u1 live
    have o1' : Root S m' H2 p1 da := o1.grow r1.mem (gr'.s r1.mem.muW) fun o e => gr'.keep p1 o e u1
    have z1 : ∀ (k : Nat) (d' : D), env[k]? = some (Slot.ow d') → σ[k]? = some (some (V.ref p1)) → False := r0.newO n1
    exact ⟨.ref p1, vb, rfl, p' _ H2 m' (.refl m' H2) ((r1'.setO i w1' u1' o1' z1).set j rb)⟩
/-! ### x += e of own instances without __iadd__ -/
def noIn (K : PySem.W.Frag) (C : Addr) : Bool := (PySem.W.clsIn K C).any (fun cd => decide (cd.mro = [.ref C, .type "object"])) && (He.eqO (PySem.W.findIn K (.ref C) "__iadd__") (some none) && He.eqO (PySem.W.findIn K (.type "object") "__iadd__") (some none))
theorem fillsI_no {K : PySem.W.Frag} {C : Addr} {M : Model} {h : Heap} (XK : K.In h) (hn : noIn K C = true) : PySem.W.Looks M h (fillsInplaceSlot (.ref C) "add" true) false := by
  obtain ⟨h1, h2⟩ := He.ba hn
  obtain ⟨h2, h3⟩ := He.ba h2
  obtain ⟨cd, hc, hm⟩ := PySem.W.any_some h1
  have hm := of_decide_eq_true hm
  intro A Q E s k q
  unfold fillsInplaceSlot
  refine wpAny_bind ((PySem.W.looks_clsIn XK hc).andThen (f := fun cd => pure cd.mro) .now A _ E s k ?_)
  rw [hm, List.anyM_cons]
  refine wpAny_bind (wpAny_bind (PySem.W.looks_findIn XK (He.eqO_ok h2) A _ E s k (wpAny_pure ?_)))
  simp only [Bool.false_eq_true, if_false]
  rw [List.anyM_cons]
  refine wpAny_bind (wpAny_bind (PySem.W.looks_findIn XK (He.eqO_ok h3) A _ E s k (wpAny_pure ?_)))
  simp only [Bool.false_eq_true, if_false]
  exact wpAny_pure q
theorem ip_addO {C : Addr} {k : Nat} {ps : List Str} {sp : Sp} (d : SpcS X C "__add__" k ps sp) (hc : PySem.W.selfFirst X.K C = true) (hn : noIn X.K C = true) (hr : Room k X.A) :
    PIp X .Add (fun x y H Q => ∃ a b dx dy fs gs, x = .ref a ∧ y = .ref b ∧ H a = some (.ins C dx fs) ∧ H b = some (.ins C dy gs) ∧ sp [.ref a, .ref b] H Q (fun _ _ _ => False)) := by
  intro pins s σ H x y u v Q I rx ry ⟨a, b, dx, dy, fs, gs, ex, ey, hH, hH', q⟩
  subst ex ey
  cases rx
  cases ry
  obtain ⟨f, fd, hs, hf, hb, F⟩ := d.ex
  obtain ⟨ox, od, J⟩ := inst_at I hH
  obtain ⟨ox', od', J'⟩ := inst_at I hH'
  have XK := I.kIn
  have h : wpAny (model X.prog X.w) X.A (call (.ref f) [.ref a, .ref b]) (PySem.W.CmpBack (EP X pins σ Q)) X.xe s :=
    wpAny_mono (run_sub (vs := [.ref a, .ref b]) (room_sub hr) F hb I (.cons rfl (.cons rfl .nil)) q) (fun v s' hv => cmpBack hv) fun _ _ z => z
  obtain ⟨cd, hcd, hm⟩ := PySem.W.any_some hc
  obtain ⟨rest, hm⟩ : ∃ rest, cd.mro = .ref C :: rest := by
    cases q : cd.mro with
    | nil => rw [q] at hm; cases hm
    | cons a r => rw [q] at hm; exact ⟨r, by rw [List.head?_cons] at hm; cases (beq_iff_eq.mp hm); rfl⟩
  unfold inplaceOp
  refine wpAny_holding (wpAny_bind (J.type.here (wpAny_bind ((fillsI_no XK hn).here ?_))))
  simp only [Bool.false_eq_true, if_false]
  refine wpAny_bind ?_
  unfold binaryOp1
  refine wpAny_bind (J.type.here (wpAny_bind (J'.type.here (wpAny_bind ((PySem.W.fills_K (nm := "add") XK hcd hm hs).here ?_)))))
  simp only [beq_self_eq_true, if_true]
  refine wpAny_bind (wpAny_pure ?_)
  simp only [Bool.and_false, Bool.false_eq_true, if_false, Bool.false_and]
  refine wpAny_bind (wpAny_pure ?_)
  simp only [Bool.false_eq_true, if_false]
  refine wpAny_bind (m := tryMethod (.ref a) _ (.ref b)) ?_
  unfold tryMethod
  refine wpAny_bind (PySem.W.special_fn XK J hs (beq_iff_eq.mp hf) (wpAny_mono h (fun v s' hv => ?_) fun _ _ e => e))
  cases v <;> first | exact hv.elim | exact wpAny_pure (wpAny_pure (wpAny_pure hv))
def sAugO (i c : Nat) (F : List D → Sto → Res D) (f : E1) : Sd := fun env g => match env[i]? with
  | some (.sh a) => thenS f (fun b env g => match sTwoO c F a b g with
    | .ok d g' => .nx (env.set i (.sh d)) g'
    | _ => .stuck) env g
  | _ => .stuck
theorem s_augO {i c k : Nat} {x : Str} {ps : List Str} {sp : Sp} {F : List D → Sto → Res D} {e : Expr} {f : E1} {pos pos' : Pos} (sh : Shows S W (RT S) F sp) (d : SpcD X S c "__add__" k ps sp) (hc : ∀ C, S.kc[c]? = some C → PySem.W.selfFirst X.K C = true ∧ noIn X.K C = true) (hr : Room k X.A)
    (hN : X.N.Nodup) (hi : X.N[i]? = some x) (hx : Loc X.env.scope x) (he : Pe X S W e f) (hf : X.fn x = true ∨ X.env.scope.names.lookup x = some .local := by first | exact .inl rfl | exact .inr rfl | assumption) :
    Ps X S W (.AugAssign (.Name x pos') .Add e pos) (sAugO i c F f) := by
  obtain ⟨C, hC, sd⟩ := d.ex
  refine PS.to (ps_aug hN hi hx he (ip_addO sd (hc C hC).1 (hc C hC).2 hr) hf) fun E σ H ⟨env, g, m, r, p⟩ => ?_
  unfold sAugO at p
  split at p
  · rename_i a e1
    obtain ⟨ov, e2, v, rfl, rv⟩ := r.at e1
    refine ⟨v, e2, ?_⟩
    refine Tv.st1 (R := RT S) r p fun g1 m1 H1 b y gr r1 rb p => ?_
    have rv1 : Rr S m1 H1 a v := Rr.grow r.mem (gr.s r.mem.muW) rv
    unfold sTwoO at p
    split at p
    · rename_i dd g' hq
      split at hq
      · rename_i hh
        obtain ⟨a', dx, fs, rfl, hH, _⟩ := isCls_ok r1.mem hC hh.1 rv1
        obtain ⟨b', dy, gs, rfl, hH', _⟩ := isCls_ok r1.mem hC hh.2 rb
        refine ⟨a', b', dx, dy, fs, gs, rfl, rfl, hH, hH', sh.sh σ H1 H1 g1 m1 [a, b] _ _ _ r1.mem (fun _ z => z) (.cons rv1 (.cons rb .nil)) ?_⟩
        rw [hq]
        intro w' H2 m2 gr2 ok2 rw'
        exact p _ H2 m2 (gr2.s r1.mem.muW) ((r1.grow gr2 ok2).set i rw')
      · cases hq
    · exact p.elim
  · exact p.elim
end
end Ev
namespace Ev
open PySem PySem.Spec PyProof.Rows L2
def clsBody : Stmt → List Stmt
  | .ClassDef _ _ _ b _ _ _ _ _ _ _ => b
  | _ => []
section
variable {X : Cx} {S : Stat} {W : WX}
/-! ### tests by own comparisons -/
theorem Tv.asB {f : E1} {σ : St} {H : Hp} {Q : Bool → Hp → Prop} (h : Tv S RQ W (eU asB f) σ H Q) : Tv S (RT S) W f σ H fun x H' => ∃ k, x = .bl k ∧ Q k H' := Tv.one (Ra := RT S) h fun env m g H1 a x rel _ ⟨_, ra⟩ p => by
  cases a with
  | bl k => exact ⟨k, ra.bl_inv, p.now rel.mem rfl⟩
  | _ => exact p.elim
theorem t_eqO {c k : Nat} {ps : List Str} {sp : Sp} {F : List D → Sto → Res D} {a b : Expr} {fa fb : E1} {pos : Pos} (sh : Shows S W (RT S) F sp) (d : SpcD X S c "__eq__" k ps sp) (hr : Room k X.A)
    (ha : Pe X S W a fa) (hb : Pe X S W b fb) : Pt X S W (.Compare a [.Eq] [b] pos) (eU asB (eB (sEqO c F false) fa fb)) := by
  obtain ⟨C, hC, sd⟩ := d.ex
  refine PT.to (pt_cmpR (op_eqO sd hr) ha hb (nomark _)) fun σ H Q q => Tv.two (Ra := RT S) (Rb := RT S) rt_stays (Tv.asB q) fun env m g H1 da db x y rel fz ⟨_, ra⟩ ⟨_, rb⟩ p => ?_
  unfold sEqO at p
  split at p
  · rename_i hh
    obtain ⟨a, dx, fs, rfl, hH, _⟩ := isCls_ok rel.mem hC hh.1 ra
    obtain ⟨b, dy, gs, rfl, hH', _⟩ := isCls_ok rel.mem hC hh.2 rb
    refine ⟨a, b, dx, dy, fs, gs, rfl, rfl, hH, hH', sh.go rel.mem (.cons ra (.cons rb .nil)) p fun r b g1 m1 H2 gr ok rr p2 => ?_⟩
    split at p2
    · rename_i t
      cases rr
      exact p2.now ok (by simp; exact .bl t)
    · exact p2.elim
  · exact p.elim
theorem t_neO {c k : Nat} {ps : List Str} {sp : Sp} {F : List D → Sto → Res D} {a b : Expr} {fa fb : E1} {pos : Pos} (sh : Shows S W (RT S) F sp) (d : SpcD X S c "__eq__" k ps sp) (hn : ∀ C, S.kc[c]? = some C → PySem.W.findIn X.K (.ref C) "__ne__" = some (some (.builtin "object.__ne__")) ∧ PySem.W.mroIn X.K C (.type "object") = some true) (hr : Room (k + 1) X.A)
    (ha : Pe X S W a fa) (hb : Pe X S W b fb) : Pt X S W (.Compare a [.NotEq] [b] pos) (eU asB (eB (sEqO c F true) fa fb)) := by
  obtain ⟨C, hC, sd⟩ := d.ex
  refine PT.to (pt_cmpR (op_neO sd (hn C hC).1 (hn C hC).2 hr) ha hb (nomark _)) fun σ H Q q => Tv.two (Ra := RT S) (Rb := RT S) rt_stays (Tv.asB q) fun env m g H1 da db x y rel fz ⟨_, ra⟩ ⟨_, rb⟩ p => ?_
  unfold sEqO at p
  split at p
  · rename_i hh
    obtain ⟨a, dx, fs, rfl, hH, _⟩ := isCls_ok rel.mem hC hh.1 ra
    obtain ⟨b, dy, gs, rfl, hH', _⟩ := isCls_ok rel.mem hC hh.2 rb
    refine ⟨a, b, dx, dy, fs, gs, rfl, rfl, hH, hH', sh.go rel.mem (.cons ra (.cons rb .nil)) p fun r b g1 m1 H2 gr ok rr p2 => ?_⟩
    split at p2
    · rename_i t
      cases rr
      exact ⟨t, rfl, p2.now ok (by simp; exact .bl _)⟩
    · exact p2.elim
  · exact p.elim
theorem t_inO {c k : Nat} {ps : List Str} {sp : Sp} {F : List D → Sto → Res D} {a b : Expr} {fa fb : E1} {pos : Pos} (sh : Shows S W (RT S) F sp) (d : SpcD X S c "__contains__" k ps sp) (hr : Room k X.A)
    (ha : Pe X S W a fa) (hb : Pe X S W b fb) (hm : behindInMarks .In b = false := by rfl) : Pt X S W (.Compare a [.In] [b] pos) (eU asB (eB (sInO c F false) fa fb)) := by
  obtain ⟨C, hC, sd⟩ := d.ex
  refine PT.to (pt_cmpR (op_inO sd hr) ha hb hm) fun σ H Q q => Tv.two (Ra := RT S) (Rb := RT S) rt_stays (Tv.asB q) fun env m g H1 da db x y rel fz ⟨_, ra⟩ ⟨_, rb⟩ p => ?_
  unfold sInO at p
  split at p
  · rename_i hh
    obtain ⟨b, dy, gs, rfl, hH', _⟩ := isCls_ok rel.mem hC hh rb
    refine ⟨b, dy, gs, rfl, hH', sh.go rel.mem (.cons rb (.cons ra .nil)) p fun r b g1 m1 H2 gr ok rr p2 => ?_⟩
    split at p2
    · rename_i t
      cases rr
      exact ⟨t, rfl, p2.now ok (by simp; exact .bl t)⟩
    · exact p2.elim
  · exact p.elim
theorem t_notInO {c k : Nat} {ps : List Str} {sp : Sp} {F : List D → Sto → Res D} {a b : Expr} {fa fb : E1} {pos : Pos} (sh : Shows S W (RT S) F sp) (d : SpcD X S c "__contains__" k ps sp) (hr : Room k X.A)
    (ha : Pe X S W a fa) (hb : Pe X S W b fb) (hm : behindInMarks .NotIn b = false := by rfl) : Pt X S W (.Compare a [.NotIn] [b] pos) (eU asB (eB (sInO c F true) fa fb)) := by
  obtain ⟨C, hC, sd⟩ := d.ex
  refine PT.to (pt_cmpR (op_notInO sd hr) ha hb hm) fun σ H Q q => Tv.two (Ra := RT S) (Rb := RT S) rt_stays (Tv.asB q) fun env m g H1 da db x y rel fz ⟨_, ra⟩ ⟨_, rb⟩ p => ?_
  unfold sInO at p
  split at p
  · rename_i hh
    obtain ⟨b, dy, gs, rfl, hH', _⟩ := isCls_ok rel.mem hC hh rb
    refine ⟨b, dy, gs, rfl, hH', sh.go rel.mem (.cons rb (.cons ra .nil)) p fun r b g1 m1 H2 gr ok rr p2 => ?_⟩
    split at p2
    · rename_i t
      cases rr
      exact ⟨t, rfl, p2.now ok (by simp; exact .bl _)⟩
    · exact p2.elim
  · exact p.elim
theorem t_chain {op op' : CmpOp} {p q : Int → Int → Bool} {a b c : Expr} {fa fb fc : E1} {pos : Pos} (ho : OpR X (compareOp op) (rI0 fun i j => .bl (p i j))) (ho' : OpR X (compareOp op') (rI0 fun i j => .bl (q i j)))
    (ha : Pb X S W a fa) (hb : Pb X S W b fb) (hc : Pb X S W c fc) (hm : lastMarks [op, op'] [b, c] = false := by with_unfolding_all rfl) : Pt X S W (.Compare a [op, op'] [b, c] pos) (eU asB (eChain p q fa fb fc)) :=
  PT.to (pt_chain ho ho' ha hb hc hm) fun σ H Q h => by
    refine Tv.go (Ra := RB S) (k := kChain p q fb fc) (Tv.asB h) fun env m g H1 da x rel fz ra p1 => ?_
    refine Post.bindE (R := RB S) rel p1 fun g2 m2 H2 db y rel2 gr2 rb p2 => ?_
    have ra2 := Rb.grow rel.mem gr2 rel2.mem ra
    split at p2
    · rename_i i j
      refine ⟨i, j, ra2.int, Rb.int rb, p i j, rfl, ?_⟩
      split at p2
      · rename_i hp
        rw [hp]
        simp only [if_true]
        refine Post.bindE (R := RB S) rel2 p2 fun g3 m3 H3 dc z rel3 gr3 rc p3 => ?_
        split at p3
        · rename_i k
          have rb3 := Rb.grow rel2.mem gr3 rel3.mem rb
          exact ⟨j, k, rb3.int, Rb.int rc, p3.now rel3.mem (Rr.bl _)⟩
        · exact p3.elim
      · rename_i hp
        rw [show p i j = false by simpa using hp]
        simp only [Bool.false_eq_true, if_false]
        exact p2.now rel2.mem (Rr.bl _)
    · exact p2.elim
end
end Ev
/-! What a reading comes to: from its end back. -/
namespace Ev
open PySem PySem.Spec PyProof.Rows L2
section
variable {α β γ : Type}
/-- a mark: what it hangs on is let alone by simp -/
structure Tk {σ : Type} (p : σ) : Type where
def Ok (r : Res α) (P : α → Sto → Prop) (_ : Tk P := ⟨⟩) : Prop := match r with
  | .ok a g => P a g
  | _ => False
theorem Ok.ex {r : Res α} {P : α → Sto → Prop} (h : Ok r P) : ∃ a g, r = .ok a g ∧ P a g := by
  cases r with
  | ok a g => exact ⟨a, g, rfl, h⟩
  | exc x g => exact h.elim
  | stuck => exact h.elim
theorem Ok.mono {r : Res α} {P Q : α → Sto → Prop} (h : Ok r P) (i : ∀ a g, P a g → Q a g) : Ok r Q := by
  cases r with
  | ok a g => exact i a g h
  | exc x g => exact h
  | stuck => exact h
theorem Ok_iff {r : Res α} {P Q : α → Sto → Prop} (h : ∀ a g, P a g ↔ Q a g) : Ok r P ↔ Ok r Q := by
  cases r with
  | ok a g => exact h a g
  | exc x g => exact Iff.rfl
  | stuck => exact Iff.rfl
@[simp] theorem Ok_ok {a : α} {g : Sto} {P : α → Sto → Prop} : Ok (.ok a g) P ↔ P a g := Iff.rfl
@[simp] theorem Ok_stuck {P : α → Sto → Prop} : Ok .stuck P ↔ False := Iff.rfl
@[simp] theorem Ok_bind {r : Res α} {k : α → Sto → Res β} {P : β → Sto → Prop} : Ok (r.bind k) P ↔ Ok r fun a g => Ok (k a g) P := by cases r <;> rfl
@[simp] theorem Ok_ite {c : Prop} [Decidable c] {a b : Res α} {P : α → Sto → Prop} : Ok (if c then a else b) P ↔ if c then Ok a P else Ok b P := by split <;> rfl
@[simp] theorem Ok_eB {sem : α → β → Sto → Res γ} {fa : En α} {fb : En β} {env : Env} {g : Sto} {P : γ → Sto → Prop} : Ok (eB sem fa fb env g) P ↔ Ok (fa env g) fun a g1 => Ok (fb env g1) fun b g2 => Ok (sem a b g2) P := Ok_bind.trans (Ok_iff fun _ _ => Ok_bind)
@[simp] theorem Ok_eU {sem : α → Sto → Res γ} {fa : En α} {env : Env} {g : Sto} {P : γ → Sto → Prop} : Ok (eU sem fa env g) P ↔ Ok (fa env g) fun a g1 => Ok (sem a g1) P := Ok_bind
@[simp] theorem Ok_eC {d : D} {env : Env} {g : Sto} {P : D → Sto → Prop} : Ok (eC d env g) P ↔ P d g := Iff.rfl
def rdS : Option Slot → Sto → Res D
  | some (.sh d), g => .ok d g
  | _, _ => .stuck
def rdB : Option Slot → Sto → Res D
  | some (.sh d), g => .ok d g
  | some (.ow d), g => .ok d g
  | _, _ => .stuck
@[simp] theorem eVar_rd {i : Nat} {env : Env} {g : Sto} : eVar i env g = rdS env[i]? g := by
  unfold eVar rdS
  rcases env[i]? with _ | s
  · rfl
  · cases s <;> rfl
@[simp] theorem eVarB_rd {i : Nat} {env : Env} {g : Sto} : eVarB i env g = rdB env[i]? g := by
  unfold eVarB rdB
  rcases env[i]? with _ | s
  · rfl
  · cases s <;> rfl
@[simp] theorem rdS_sh {d : D} {g : Sto} : rdS (some (.sh d)) g = .ok d g := rfl
@[simp] theorem rdB_sh {d : D} {g : Sto} : rdB (some (.sh d)) g = .ok d g := rfl
@[simp] theorem rdB_ow {d : D} {g : Sto} : rdB (some (.ow d)) g = .ok d g := rfl
@[simp] theorem Ok_eNil {env : Env} {g : Sto} {P : List D → Sto → Prop} : Ok (eNil env g) P ↔ P [] g := Iff.rfl
@[simp] theorem Ok_eCons {f : E1} {fs : En (List D)} {env : Env} {g : Sto} {P : List D → Sto → Prop} : Ok (eCons f fs env g) P ↔ Ok (f env g) fun a g1 => Ok (fs env g1) fun as g2 => P (a :: as) g2 := Ok_eB.trans (Ok_iff fun _ _ => Ok_iff fun _ _ => Iff.rfl)
@[simp] theorem Ok_eCall {n : Nat} {F : Fn} {fs : En (List D)} {env : Env} {g : Sto} {P : D → Sto → Prop} : Ok (eCall n F fs env g) P ↔ Ok (fs env g) fun ds g1 => ds.length = n ∧ Ok (F ds g1) P := by
  simp only [eCall, Ok_bind]
  constructor
  · intro h
    refine h.mono fun ds g1 h => ?_
    by_cases c : ds.length = n
    · rw [if_pos c] at h
      refine ⟨c, ?_⟩
      cases q : F ds g1 with
      | ok d g => rw [q] at h; exact h
      | exc x g => rw [q] at h; exact h.elim
      | stuck => rw [q] at h; exact h.elim
    · rw [if_neg c] at h; exact h.elim
  · intro h
    refine h.mono fun ds g1 ⟨c, h⟩ => ?_
    rw [if_pos c]
    cases q : F ds g1 with
    | ok d g => rw [q] at h; exact h
    | exc x g => rw [q] at h; exact h.elim
    | stuck => rw [q] at h; exact h.elim
@[simp] theorem Ok_eFn {F : List D → Sto → Res D} {fs : En (List D)} {env : Env} {g : Sto} {P : D → Sto → Prop} : Ok (eFn F fs env g) P ↔ Ok (fs env g) fun ds g1 => Ok (F ds g1) P := Ok_bind
theorem purF_ok {n : Nat} {F : Fn} {ds : List D} {g g' : Sto} {d : D} (h : F ds [] = .ok d g') (hn : ds.length = n) (hl : noLocL ds = true) (hd : noLoc d = true) : purF n F ds g = .ok d g := by
  unfold purF
  rw [if_pos ⟨hn, hl⟩, h]
  simp [pur, hd]
@[simp] theorem Ok_eIf {t : En Bool} {f h : En α} {env : Env} {g : Sto} {P : α → Sto → Prop} : Ok (eIf t f h env g) P ↔ Ok (t env g) fun c g1 => if c = true then Ok (f env g1) P else Ok (h env g1) P := Ok_bind.trans (Ok_iff fun _ _ => Ok_ite)
@[simp] theorem Ok_tAndF {f h : En Bool} {env : Env} {g : Sto} {P : Bool → Sto → Prop} : Ok (tAndF f h env g) P ↔ Ok (f env g) fun c g1 => if c = true then Ok (h env g1) P else P false g1 := Ok_bind.trans (Ok_iff fun _ _ => Ok_ite)
@[simp] theorem Ok_tOrF {f h : En Bool} {env : Env} {g : Sto} {P : Bool → Sto → Prop} : Ok (tOrF f h env g) P ↔ Ok (f env g) fun c g1 => if c = true then P true g1 else Ok (h env g1) P := Ok_bind.trans (Ok_iff fun _ _ => Ok_ite)
@[simp] theorem Ok_tNotF {f : En Bool} {env : Env} {g : Sto} {P : Bool → Sto → Prop} : Ok (tNotF f env g) P ↔ Ok (f env g) fun c g1 => P (!c) g1 := Ok_eU.trans (Ok_iff fun _ _ => Iff.rfl)
@[simp] theorem Ok_tYesF {env : Env} {g : Sto} {P : Bool → Sto → Prop} : Ok (tYesF env g) P ↔ P true g := Iff.rfl
@[simp] theorem Ok_asB {b : Bool} {g : Sto} {P : Bool → Sto → Prop} : Ok (asB (.bl b) g) P ↔ P b g := Iff.rfl
@[simp] theorem Ok_eLst {fs : En (List D)} {env : Env} {g : Sto} {P : D → Sto → Prop} : Ok (eLst fs env g) P ↔ Ok (fs env g) fun ds g1 => if ds.length ≤ big then P (.lst ds) g1 else False := Ok_eU.trans (Ok_iff fun _ _ => Ok_ite)
@[simp] theorem Ok_eTup {fs : En (List D)} {env : Env} {g : Sto} {P : D → Sto → Prop} : Ok (eTup fs env g) P ↔ Ok (fs env g) fun ds g1 => if ds.length ≤ big then P (.tup ds) g1 else False := Ok_eU.trans (Ok_iff fun _ _ => Ok_ite)
@[simp] theorem Ok_eNew {f : E1} {env : Env} {g : Sto} {P : D → Sto → Prop} : Ok (eNew f env g) P ↔ Ok (f env g) fun d g1 => P (.loc g1.length) (g1 ++ [d]) := Ok_eU.trans (Ok_iff fun _ _ => Iff.rfl)
@[simp] theorem Ok_eSl {sem : D → Option Int → Option Int → Sto → Res D} {f : E1} {lo hi : En (Option Int)} {env : Env} {g : Sto} {P : D → Sto → Prop} : Ok (eSl sem f lo hi env g) P ↔ Ok (f env g) fun d g1 => Ok (lo env g1) fun l g2 => Ok (hi env g2) fun h g3 => Ok (sem d l h g3) P := Ok_bind.trans (Ok_iff fun _ _ => Ok_bind.trans (Ok_iff fun _ _ => Ok_bind))
@[simp] theorem Ok_oNo {env : Env} {g : Sto} {P : Option Int → Sto → Prop} : Ok (oNo env g) P ↔ P none g := Iff.rfl
def asI : D → Sto → Res (Option Int)
  | .int i, g => .ok (some i) g
  | _, _ => .stuck
@[simp] theorem asI_int {i : Int} {g : Sto} : asI (.int i) g = .ok (some i) g := rfl
@[simp] theorem Ok_oSo {f : E1} {env : Env} {g : Sto} {P : Option Int → Sto → Prop} : Ok (oSo f env g) P ↔ Ok (f env g) fun d g1 => Ok (asI d g1) P := by
  simp only [oSo, Ok_eU]
  constructor
  · intro h
    refine h.mono fun d g h => ?_
    cases d <;> exact h
  · intro h
    refine h.mono fun d g h => ?_
    cases d <;> exact h
@[simp] theorem Ok_ePairs0 {env : Env} {g : Sto} {P : List (D × D) → Sto → Prop} : Ok (ePairs [] env g) P ↔ P [] g := Iff.rfl
@[simp] theorem Ok_ePairs {fk fv : E1} {r : List (E1 × E1)} {env : Env} {g : Sto} {P : List (D × D) → Sto → Prop} : Ok (ePairs ((fk, fv) :: r) env g) P ↔ Ok (fk env g) fun k g1 => Ok (fv env g1) fun v g2 => Ok (ePairs r env g2) fun ps g3 => P ((k, v) :: ps) g3 :=
  Ok_bind.trans (Ok_iff fun _ _ => Ok_bind.trans (Ok_iff fun _ _ => Ok_bind.trans (Ok_iff fun _ _ => Iff.rfl)))
@[simp] theorem Ok_eDisp {fs : List (E1 × E1)} {env : Env} {g : Sto} {P : D → Sto → Prop} : Ok (eDisp fs env g) P ↔ Ok (ePairs fs env g) fun ps g1 => Ok (sDisp ps g1) P := Ok_bind
theorem Ok_eq {r : Res α} {a : α} {g : Sto} (h : Ok r fun b g' => b = a ∧ g' = g) : r = .ok a g := by
  obtain ⟨b, g', e, rfl, rfl⟩ := h.ex
  exact e
def vAnd : D → Res D → Sto → Res D
  | .bl true, r, _ => r
  | .bl false, _, g => .ok (.bl false) g
  | _, _, _ => .stuck
def vOr : D → Res D → Sto → Res D
  | .bl true, _, g => .ok (.bl true) g
  | .bl false, r, _ => r
  | _, _, _ => .stuck
@[simp] theorem vAnd_t {r : Res D} {g : Sto} : vAnd (.bl true) r g = r := rfl
@[simp] theorem vAnd_f {r : Res D} {g : Sto} : vAnd (.bl false) r g = .ok (.bl false) g := rfl
@[simp] theorem vOr_t {r : Res D} {g : Sto} : vOr (.bl true) r g = .ok (.bl true) g := rfl
@[simp] theorem vOr_f {r : Res D} {g : Sto} : vOr (.bl false) r g = r := rfl
@[simp] theorem Ok_vAndF {f h : E1} {env : Env} {g : Sto} {P : D → Sto → Prop} : Ok (vAndF f h env g) P ↔ Ok (f env g) fun c g1 => Ok (vAnd c (h env g1) g1) P := Ok_bind.trans (Ok_iff fun c g => by
  cases c <;> first | exact Iff.rfl | (rename_i b; cases b <;> exact Iff.rfl))
@[simp] theorem Ok_vOrF {f h : E1} {env : Env} {g : Sto} {P : D → Sto → Prop} : Ok (vOrF f h env g) P ↔ Ok (f env g) fun c g1 => Ok (vOr c (h env g1) g1) P := Ok_bind.trans (Ok_iff fun c g => by
  cases c <;> first | exact Iff.rfl | (rename_i b; cases b <;> exact Iff.rfl))
def vNot : D → Sto → Res D
  | .bl b, g => .ok (.bl (!b)) g
  | _, _ => .stuck
@[simp] theorem vNot_b {b : Bool} {g : Sto} : vNot (.bl b) g = .ok (.bl (!b)) g := rfl
@[simp] theorem Ok_vNotF {f : E1} {env : Env} {g : Sto} {P : D → Sto → Prop} : Ok (vNotF f env g) P ↔ Ok (f env g) fun c g1 => Ok (vNot c g1) P := Ok_bind.trans (Ok_iff fun c g => by cases c <;> exact Iff.rfl)
def vStr : D → Res D → Res D
  | .str _, r => r
  | _, _ => .stuck
@[simp] theorem vStr_s {z : Str} {r : Res D} : vStr (.str z) r = r := rfl
@[simp] theorem Ok_eMt {sem : D → D → Sto → Res D} {fo fa : E1} {env : Env} {g : Sto} {P : D → Sto → Prop} : Ok (eMt sem fo fa env g) P ↔ Ok (fo env g) fun a g1 => Ok (vStr a ((fa env g1).bind fun b g2 => sem a b g2)) P := Ok_bind.trans (Ok_iff fun a g => by cases a <;> exact Iff.rfl)
def vStar : D → Res (List D) → Res (List D)
  | .lst xs, r => r.bind fun as g => .ok (xs ++ as) g
  | .tup xs, r => r.bind fun as g => .ok (xs ++ as) g
  | _, _ => .stuck
@[simp] theorem Ok_vStarL {xs : List D} {r : Res (List D)} {P : List D → Sto → Prop} : Ok (vStar (.lst xs) r) P ↔ Ok r fun as g => P (xs ++ as) g := Ok_bind.trans (Ok_iff fun _ _ => Iff.rfl)
@[simp] theorem Ok_vStarT {xs : List D} {r : Res (List D)} {P : List D → Sto → Prop} : Ok (vStar (.tup xs) r) P ↔ Ok r fun as g => P (xs ++ as) g := Ok_bind.trans (Ok_iff fun _ _ => Iff.rfl)
@[simp] theorem Ok_eStar {f : E1} {fs : En (List D)} {env : Env} {g : Sto} {P : List D → Sto → Prop} : Ok (eStar f fs env g) P ↔ Ok (f env g) fun a g1 => Ok (vStar a (fs env g1)) P := Ok_bind.trans (Ok_iff fun a g => by cases a <;> exact Iff.rfl)
@[simp] theorem Ok_eMet {c : Nat} {mn : Str} {F : List D → Sto → Res D} {fo : E1} {fs : En (List D)} {env : Env} {g : Sto} {P : D → Sto → Prop} : Ok (eMet c mn F fo fs env g) P ↔ Ok (fo env g) fun d g1 => if isCls c mn (dr g1 d) = true then Ok (fs env g1) fun ds g2 => Ok (F (d :: ds) g2) P else False :=
  Ok_bind.trans (Ok_iff fun a g => by
    split
    · exact Ok_bind
    · exact Iff.rfl)
@[simp] theorem Ok_ePro {c : Nat} {F : List D → Sto → Res D} {fo : E1} {env : Env} {g : Sto} {P : D → Sto → Prop} : Ok (ePro c F fo env g) P ↔ Ok (fo env g) fun d g1 => if isCls c "" (dr g1 d) = true then Ok (F [d] g1) P else False := Ok_bind.trans (Ok_iff fun a g => Ok_ite)
def vCls : Option Slot → Nat → Res D → Res D
  | some (.sh (.cls c')), c, r => if c' = c then r else .stuck
  | _, _, _ => .stuck
@[simp] theorem vCls_c {c : Nat} {r : Res D} : vCls (some (.sh (.cls c))) c r = r := by simp [vCls]
@[simp] theorem eMakeL_v {i c n : Nat} {F : Fn} {fs : En (List D)} {env : Env} {g : Sto} : eMakeL i c n F fs env g = vCls env[i]? c (eFn (purF n F) fs env g) := by
  unfold eMakeL vCls
  rcases env[i]? with _ | s
  · rfl
  · cases s with
    | sh d => cases d <;> rfl
    | no => rfl
    | ow d => rfl
@[simp] theorem Ok_eSet3 {sem : D → D → D → Sto → Res D} {fe fo fi : E1} {env : Env} {g : Sto} {P : D → Sto → Prop} : Ok (eSet3 sem fe fo fi env g) P ↔ Ok (fe env g) fun v g1 => Ok (fo env g1) fun o g2 => Ok (fi env g2) fun i g3 => Ok (sem v o i g3) P := Ok_bind.trans (Ok_iff fun _ _ => Ok_bind.trans (Ok_iff fun _ _ => Ok_bind))
/-! statements -/
structure Pst where
  nx : Env → Sto → Prop
  rt : D → Sto → Prop
  ct : Env → Sto → Prop := fun _ _ => False
  bk : Env → Sto → Prop := fun _ _ => False
def So (r : SRes) (P : Pst) (_ : Tk P := ⟨⟩) : Prop := match r with
  | .nx e g => P.nx e g
  | .rt d g => P.rt d g
  | .rtO d g => P.rt d g
  | .ct e g => P.ct e g
  | .bk e g => P.bk e g
  | _ => False
@[simp] theorem So_nx {e : Env} {g : Sto} {P : Pst} : So (.nx e g) P ↔ P.nx e g := Iff.rfl
@[simp] theorem So_rt {d : D} {g : Sto} {P : Pst} : So (.rt d g) P ↔ P.rt d g := Iff.rfl
@[simp] theorem So_rtO {d : D} {g : Sto} {P : Pst} : So (.rtO d g) P ↔ P.rt d g := Iff.rfl
@[simp] theorem So_stuck {P : Pst} : So .stuck P ↔ False := Iff.rfl
@[simp] theorem So_ite {c : Prop} [Decidable c] {a b : SRes} {P : Pst} : So (if c then a else b) P ↔ if c then So a P else So b P := by split <;> rfl
theorem So.mono {r : SRes} {P Q : Pst} (h : So r P) (h1 : ∀ e g, P.nx e g → Q.nx e g) (h2 : ∀ d g, P.rt d g → Q.rt d g) (h3 : ∀ e g, P.ct e g → Q.ct e g) (h4 : ∀ e g, P.bk e g → Q.bk e g) : So r Q := by
  cases r with
  | nx e g => exact h1 e g h
  | rt d g => exact h2 d g h
  | rtO d g => exact h2 d g h
  | ct e g => exact h3 e g h
  | bk e g => exact h4 e g h
  | exc x e g => exact h
  | stuck => exact h
@[simp] theorem So_thenS {f : En α} {k : α → Env → Sto → SRes} {env : Env} {g : Sto} {P : Pst} : So (thenS f k env g) P ↔ Ok (f env g) fun a g1 => So (k a env g1) P := by
  unfold thenS
  cases f env g <;> rfl
@[simp] theorem So_seq {f h : Sd} {env : Env} {g : Sto} {P : Pst} : So (sSeq f h env g) P ↔ So (f env g) { P with nx := fun e g => So (h e g) P } := by
  unfold sSeq
  cases f env g <;> rfl
@[simp] theorem So_if {t : En Bool} {a b : Sd} {env : Env} {g : Sto} {P : Pst} : So (sIf t a b env g) P ↔ Ok (t env g) fun c g1 => if c = true then So (a env g1) P else So (b env g1) P := So_thenS.trans (Ok_iff fun _ _ => So_ite)
@[simp] theorem So_set {i : Nat} {f : E1} {env : Env} {g : Sto} {P : Pst} : So (sSet i f env g) P ↔ Ok (f env g) fun d g1 => P.nx (env.set i (.sh d)) g1 := So_thenS.trans (Ok_iff fun _ _ => Iff.rfl)
@[simp] theorem So_setO {i : Nat} {f : E1} {env : Env} {g : Sto} {P : Pst} : So (sSetO i f env g) P ↔ Ok (f env g) fun d g1 => P.nx (env.set i (.ow d)) g1 := So_thenS.trans (Ok_iff fun _ _ => Iff.rfl)
@[simp] theorem So_ret {f : E1} {env : Env} {g : Sto} {P : Pst} : So (sRet f env g) P ↔ Ok (f env g) fun d g1 => P.rt d g1 := So_thenS.trans (Ok_iff fun _ _ => Iff.rfl)
@[simp] theorem So_retN {env : Env} {g : Sto} {P : Pst} : So (sRetN env g) P ↔ P.rt .non g := Iff.rfl
@[simp] theorem So_do {f : E1} {env : Env} {g : Sto} {P : Pst} : So (sDo f env g) P ↔ Ok (f env g) fun _ g1 => P.nx env g1 := So_thenS.trans (Ok_iff fun _ _ => Iff.rfl)
@[simp] theorem So_nil {env : Env} {g : Sto} {P : Pst} : So (sNil env g) P ↔ P.nx env g := Iff.rfl
@[simp] theorem So_un {is : List Nat} {f : Sd} {env : Env} {g : Sto} {P : Pst} : So (sUn is f env g) P ↔ So (f (unown is env) g) P := Iff.rfl
@[simp] theorem So_cont {env : Env} {g : Sto} {P : Pst} : So (sCont env g) P ↔ P.ct env g := Iff.rfl
@[simp] theorem So_break {env : Env} {g : Sto} {P : Pst} : So (sBreak env g) P ↔ P.bk env g := Iff.rfl
@[simp] theorem So_par {i j : Nat} {f h : E1} {env : Env} {g : Sto} {P : Pst} : So (sPar i j f h env g) P ↔ Ok (f env g) fun a g1 => Ok (h env g1) fun b g2 => P.nx ((env.set i (.sh a)).set j (.sh b)) g2 := So_thenS.trans (Ok_eCons.trans (Ok_iff fun _ _ => Ok_eCons.trans (Ok_iff fun _ _ => Iff.rfl)))
@[simp] theorem So_parO {i j : Nat} {f h : E1} {env : Env} {g : Sto} {P : Pst} : So (sParO i j f h env g) P ↔ Ok (f env g) fun a g1 => Ok (h env g1) fun b g2 => P.nx ((env.set i (.ow a)).set j (.ow b)) g2 := So_thenS.trans (Ok_iff fun _ _ => So_thenS.trans (Ok_iff fun _ _ => Iff.rfl))
@[simp] theorem So_parSO {i j : Nat} {f h : E1} {env : Env} {g : Sto} {P : Pst} : So (sParSO i j f h env g) P ↔ Ok (f env g) fun a g1 => Ok (h env g1) fun b g2 => P.nx ((env.set i (.sh a)).set j (.ow b)) g2 := So_thenS.trans (Ok_iff fun _ _ => So_thenS.trans (Ok_iff fun _ _ => Iff.rfl))
@[simp] theorem So_parOS {i j : Nat} {f h : E1} {env : Env} {g : Sto} {P : Pst} : So (sParOS i j f h env g) P ↔ Ok (f env g) fun a g1 => Ok (h env g1) fun b g2 => P.nx ((env.set i (.ow a)).set j (.sh b)) g2 := So_thenS.trans (Ok_iff fun _ _ => So_thenS.trans (Ok_iff fun _ _ => Iff.rfl))
@[simp] theorem So_for {it : En (List D)} {tg : Tg} {body : Sd} {env : Env} {g : Sto} {P : Pst} : So (sFor it tg body env g) P ↔ Ok (it env g) fun ds g1 => So (forL tg body ds env g1) P := So_thenS
def vTg : Option Env → Sto → SRes
  | some e, g => .nx e g
  | none, _ => .stuck
@[simp] theorem vTg_s {e : Env} {g : Sto} : vTg (some e) g = .nx e g := rfl
@[simp] theorem So_asg {f : E1} {tg : Tg} {env : Env} {g : Sto} {P : Pst} : So (sAsg f tg env g) P ↔ Ok (f env g) fun d g1 => So (vTg (tg d env) g1) P := So_thenS.trans (Ok_iff fun d g => by
  cases tg d env <;> exact Iff.rfl)
def vOwL : Option Slot → SRes → SRes
  | some (.ow (.lst _)), r => r
  | _, _ => .stuck
@[simp] theorem vOwL_l {xs : List D} {r : SRes} : vOwL (some (.ow (.lst xs))) r = r := rfl
@[simp] theorem So_append {i : Nat} {f : E1} {env : Env} {g : Sto} {P : Pst} : So (sAppend i f env g) P ↔ So (vOwL env[i]? (thenS f (putApp i) env g)) P := by
  unfold sAppend isOwL vOwL
  rcases env[i]? with _ | s
  · exact Iff.rfl
  · cases s with
    | ow d => cases d <;> exact Iff.rfl
    | no => exact Iff.rfl
    | sh d => exact Iff.rfl
@[simp] theorem So_extend {i : Nat} {f : E1} {env : Env} {g : Sto} {P : Pst} : So (sExtend i f env g) P ↔ So (vOwL env[i]? (thenS f (putExt i) env g)) P := by
  unfold sExtend isOwL vOwL
  rcases env[i]? with _ | s
  · exact Iff.rfl
  · cases s with
    | ow d => cases d <;> exact Iff.rfl
    | no => exact Iff.rfl
    | sh d => exact Iff.rfl
def vSh : Option Slot → (D → SRes) → SRes
  | some (.sh d), k => k d
  | _, _ => .stuck
@[simp] theorem vSh_s {d : D} {k : D → SRes} : vSh (some (.sh d)) k = k d := rfl
def vRes : Res D → (D → Sto → SRes) → SRes
  | .ok d g, k => k d g
  | _, _ => .stuck
@[simp] theorem So_vRes {r : Res D} {k : D → Sto → SRes} {P : Pst} : So (vRes r k) P ↔ Ok r fun d g => So (k d g) P := by cases r <;> exact Iff.rfl
@[simp] theorem sAugO_v {i c : Nat} {F : List D → Sto → Res D} {f : E1} {env : Env} {g : Sto} : sAugO i c F f env g = vSh env[i]? fun a => thenS f (fun b env g => vRes (sTwoO c F a b g) fun d g' => .nx (env.set i (.sh d)) g') env g := by
  unfold sAugO vSh
  rcases env[i]? with _ | s
  · rfl
  · cases s with
    | sh d =>
      simp only
      congr 1
      funext b env g
      unfold vRes
      cases sTwoO c F d b g <;> rfl
    | no => rfl
    | ow d => rfl
def vInt : D → (Int → SRes) → SRes
  | .int i, k => k i
  | _, _ => .stuck
@[simp] theorem vInt_i {i : Int} {k : Int → SRes} : vInt (.int i) k = k i := rfl
theorem So_no {env : Env} {g : Sto} {P : Pst} : So (sNo env g) P ↔ False := Iff.rfl
/-- a function's body -/
theorem Ok_fnOf {N : Nat} {body : Sd} {ds : List D} {g : Sto} {P : D → Sto → Prop} : Ok (fnOf N body ds g) P ↔ So (body (ds.map Slot.sh ++ List.replicate (N - ds.length) .no) g) { nx := fun _ g => P .non g, rt := P } := by
  unfold fnOf
  cases body (ds.map Slot.sh ++ List.replicate (N - ds.length) .no) g <;> rfl
def vInit : Option D → Res D
  | some d => if noLoc d = true then .ok d [] else .stuck
  | none => .stuck
@[simp] theorem Ok_vInit {d : D} {P : D → Sto → Prop} : Ok (vInit (some d)) P ↔ if noLoc d = true then P d [] else False := Ok_ite
theorem Ok_fnOfI {N c : Nat} {body : Sd} {ds : List D} {g : Sto} {P : D → Sto → Prop} : Ok (fnOfI N c body ds g) P ↔ So (body (.sh (.loc 0) :: (ds.map Slot.sh ++ List.replicate (N - (ds.length + 1)) .no)) [.ins c [] []]) { nx := fun _ g' => Ok (vInit g'[0]?) P, rt := fun _ _ => False } := by
  unfold fnOfI
  cases body (.sh (.loc 0) :: (ds.map Slot.sh ++ List.replicate (N - (ds.length + 1)) .no)) [.ins c [] []] with
  | nx e g' =>
    simp only [So_nx]
    cases g'[0]? <;> exact Iff.rfl
  | _ => exact Iff.rfl
/-- a loop by what stays -/
theorem for_inv {tg : Tg} {body : Sd} {P : Pst} (I : Env → Sto → Prop) : ∀ {ds : List D} {env : Env} {g : Sto}, I env g → (∀ d ∈ ds, ∀ env g, I env g → ∃ env1, tg d env = some env1 ∧ So (body env1 g) { nx := I, rt := P.rt, ct := I, bk := P.nx }) → (∀ env g, I env g → P.nx env g) → So (forL tg body ds env g) P
  | [], env, g, h0, hs, hf => hf env g h0
  | d :: ds, env, g, h0, hs, hf => by
    obtain ⟨env1, e, h⟩ := hs d List.mem_cons_self env g h0
    unfold forL
    rw [e]
    have next : ∀ env' g', I env' g' → So (forL tg body ds env' g') P := fun env' g' h' => for_inv I h' (fun x hx => hs x (List.mem_cons_of_mem _ hx)) hf
    simp only
    cases q : body env1 g with
    | nx e1 g1 => rw [q] at h; exact next e1 g1 h
    | ct e1 g1 => rw [q] at h; exact next e1 g1 h
    | bk e1 g1 => rw [q] at h; exact h
    | rt d1 g1 => rw [q] at h; exact h
    | rtO d1 g1 => rw [q] at h; exact h
    | exc x e1 g1 => rw [q] at h; exact h
    | stuck => rw [q] at h; exact h
/-- .. and how many passes are done -/
theorem for_idx {tg : Tg} {body : Sd} {P : Pst} (I : Nat → Env → Sto → Prop) : ∀ {ds : List D} {env : Env} {g : Sto} (k : Nat), I k env g → (∀ (i : Nat) (hi : i < ds.length) env g, I (k + i) env g → ∃ env1, tg ds[i] env = some env1 ∧ So (body env1 g) { nx := I (k + i + 1), rt := P.rt, ct := I (k + i + 1), bk := P.nx }) → (∀ env g, I (k + ds.length) env g → P.nx env g) → So (forL tg body ds env g) P
  | [], env, g, k, h0, hs, hf => hf env g h0
  | d :: ds, env, g, k, h0, hs, hf => by
    obtain ⟨env1, e, h⟩ := hs 0 (by simp) env g h0
    have e : tg d env = some env1 := e
    unfold forL
    rw [e]
    have next : ∀ env' g', I (k + 1) env' g' → So (forL tg body ds env' g') P := fun env' g' h' => for_idx I (k + 1) h' (fun i hi env g hI => by
      have := hs (i + 1) (by simpa using hi) env g (by rw [show k + (i + 1) = k + 1 + i by omega]; exact hI)
      rw [show k + (i + 1) + 1 = k + 1 + i + 1 by omega] at this
      simpa using this) fun env g hI => hf env g (by rw [List.length_cons, show k + (ds.length + 1) = k + 1 + ds.length by omega]; exact hI)
    simp only
    cases q : body env1 g with
    | nx e1 g1 => rw [q] at h; exact next e1 g1 h
    | ct e1 g1 => rw [q] at h; exact next e1 g1 h
    | bk e1 g1 => rw [q] at h; exact h
    | rt d1 g1 => rw [q] at h; exact h
    | rtO d1 g1 => rw [q] at h; exact h
    | exc x e1 g1 => rw [q] at h; exact h
    | stuck => rw [q] at h; exact h
theorem while_inv {t : En Bool} {body : Sd} {P : Pst} (I : Nat → Env → Sto → Prop) : ∀ {n : Nat} {env : Env} {g : Sto}, I n env g → (∀ n env g, I n env g → ∃ k, n = k + 1 ∧ Ok (t env g) fun c g1 => if c = true then So (body env g1) { nx := I k, rt := P.rt, ct := I k, bk := P.nx } else P.nx env g1) → So (whileL t body n env g) P
  | 0, env, g, h0, hs => by
    obtain ⟨k, e, _⟩ := hs 0 env g h0
    omega
  | n + 1, env, g, h0, hs => by
    obtain ⟨k, e, h⟩ := hs (n + 1) env g h0
    have e : k = n := by omega
    subst e
    unfold whileL
    rw [So_thenS]
    refine h.mono fun c g1 h => ?_
    by_cases c : c = true
    · rw [if_pos c] at h ⊢
      cases q : body env g1 with
      | nx e1 g2 => rw [q] at h; exact while_inv I h hs
      | ct e1 g2 => rw [q] at h; exact while_inv I h hs
      | bk e1 g2 => rw [q] at h; exact h
      | rt d1 g2 => rw [q] at h; exact h
      | rtO d1 g2 => rw [q] at h; exact h
      | exc x e1 g2 => rw [q] at h; exact h
      | stuck => rw [q] at h; exact h
    · rw [if_neg c] at h ⊢; exact h
@[simp] theorem So_while {n : Nat} {t : En Bool} {body : Sd} {env : Env} {g : Sto} {P : Pst} : So (sWhile n t body env g) P ↔ So (whileL t body n env g) P := Iff.rfl
/-- a comprehension, the store let alone -/
theorem comp_map {tg : Tg} {t : En Bool} {e : E1} {env : Env} {g : Sto} (f : D → D) : ∀ {ds : List D}, (∀ d ∈ ds, ∃ env1, tg d env = some env1 ∧ t env1 g = .ok true g ∧ e env1 g = .ok (f d) g) → compL tg t e env ds g = some (ds.map f, g)
  | [], _ => rfl
  | d :: ds, h => by
    obtain ⟨env1, e1, e2, e3⟩ := h d List.mem_cons_self
    simp only [compL, e1, e2, e3, comp_map f fun x hx => h x (List.mem_cons_of_mem _ hx), List.map_cons]
inductive All2 {α β : Type} (Q : α → β → Prop) : List α → List β → Prop where
  | nil : All2 Q [] []
  | cons {a : α} {b : β} {as : List α} {bs : List β} : Q a b → All2 Q as bs → All2 Q (a :: as) (b :: bs)
theorem All2.length {α β : Type} {Q : α → β → Prop} : ∀ {as : List α} {bs : List β}, All2 Q as bs → as.length = bs.length
  | _, _, .nil => rfl
  | _, _, .cons _ t => by simp [t.length]
theorem All2.right {α β : Type} {Q : α → β → Prop} : ∀ {as : List α} {bs : List β}, All2 Q as bs → ∀ b ∈ bs, ∃ a ∈ as, Q a b
  | _, _, .cons q t, b, hb => by
    rcases List.mem_cons.mp hb with rfl | hb
    · exact ⟨_, List.mem_cons_self, q⟩
    · obtain ⟨a, ha, h⟩ := t.right b hb
      exact ⟨a, List.mem_cons_of_mem _ ha, h⟩
/-- .. each with what holds of it -/
theorem comp_inv {tg : Tg} {t : En Bool} {e : E1} {env : Env} (J : Sto → Prop) (Q : D → D → Prop) : ∀ {ds : List D} {g : Sto}, J g → (∀ d ∈ ds, ∀ g, J g → ∃ env1, tg d env = some env1 ∧ Ok (t env1 g) fun c g1 => c = true ∧ Ok (e env1 g1) fun y g2 => Q d y ∧ J g2) → ∃ ys g', compL tg t e env ds g = some (ys, g') ∧ J g' ∧ All2 Q ds ys
  | [], g, h0, _ => ⟨[], g, rfl, h0, .nil⟩
  | d :: ds, g, h0, h => by
    obtain ⟨env1, e1, h1⟩ := h d List.mem_cons_self g h0
    obtain ⟨c, g1, e2, rfl, h2⟩ := h1.ex
    obtain ⟨y, g2, e3, hq, hj⟩ := h2.ex
    obtain ⟨ys, g', e4, hj', hf⟩ := comp_inv J Q hj fun x hx => h x (List.mem_cons_of_mem _ hx)
    exact ⟨y :: ys, g', by simp only [compL, e1, e2, e3, e4], hj', .cons hq hf⟩
theorem Ok_eLc {it : En (List D)} {tg : Tg} {t : En Bool} {e : E1} {vs : List Nat} {env : Env} {g : Sto} {P : D → Sto → Prop} : Ok (eLc it tg t e vs env g) P ↔ Ok (it env g) fun ds g1 => ∃ ys g2, compL tg t e (wipeE env vs) ds g1 = some (ys, g2) ∧ ys.length ≤ big ∧ P (.lst ys) g2 := by
  simp only [eLc, Ok_bind]
  constructor
  · intro h
    refine h.mono fun ds g1 h => ?_
    split at h
    · rename_i ys g2 q
      split at h
      · rename_i c
        exact ⟨ys, g2, q, c, h⟩
      · exact h.elim
    · exact h.elim
  · intro h
    refine h.mono fun ds g1 ⟨ys, g2, q, c, h⟩ => ?_
    rw [q]
    simp only
    rw [if_pos c]
    exact h
theorem Ok_eLc2 {it it2 : En (List D)} {t1 t2 : Tg} {c1 c2 : En Bool} {e : E1} {vs vs1 : List Nat} {env : Env} {g : Sto} {P : D → Sto → Prop} : Ok (eLc2 it t1 c1 it2 t2 c2 e vs vs1 env g) P ↔ Ok (it env g) fun ds g1 => ∃ ys g2, comp2L t1 c1 it2 t2 c2 e vs1 (wipeE env vs) ds g1 = some (ys, g2) ∧ ys.length ≤ big ∧ P (.lst ys) g2 := by
  simp only [eLc2, Ok_bind]
  constructor
  · intro h
    refine h.mono fun ds g1 h => ?_
    split at h
    · rename_i ys g2 q
      split at h
      · rename_i c
        exact ⟨ys, g2, q, c, h⟩
      · exact h.elim
    · exact h.elim
  · intro h
    refine h.mono fun ds g1 ⟨ys, g2, q, c, h⟩ => ?_
    rw [q]
    simp only
    rw [if_pos c]
    exact h
theorem Ok_eSortSc2 {it it2 : En (List D)} {t1 t2 : Tg} {c1 c2 : En Bool} {e : E1} {vs vs1 : List Nat} {env : Env} {g : Sto} {P : D → Sto → Prop} : Ok (eSortSc2 it t1 c1 it2 t2 c2 e vs vs1 env g) P ↔ Ok (it env g) fun ds g1 => ∃ ys g2, comp2L t1 c1 it2 t2 c2 e vs1 (wipeE env vs) ds g1 = some (ys, g2) ∧ Ok (sSortK ys g2) P := by
  simp only [eSortSc2, Ok_bind]
  constructor
  · intro h
    refine h.mono fun ds g1 h => ?_
    split at h
    · rename_i ys g2 q
      exact ⟨ys, g2, q, h⟩
    · exact h.elim
  · intro h
    refine h.mono fun ds g1 ⟨ys, g2, q, h⟩ => ?_
    rw [q]
    exact h
/-- two clauses, the store let alone -/
theorem comp2_map {t1 t2 : Tg} {it2 : En (List D)} {e : E1} {vs1 : List Nat} {env : Env} {g : Sto} (sub : D → List D) (f : D → D → D) : ∀ {ds : List D}, (∀ d ∈ ds, ∃ env1, t1 d env = some env1 ∧ it2 env1 g = .ok (sub d) g ∧ ∀ x ∈ sub d, ∃ env2, t2 x (wipeE env1 vs1) = some env2 ∧ e env2 g = .ok (f d x) g) →
    comp2L t1 tYesF it2 t2 tYesF e vs1 env ds g = some (ds.flatMap fun d => (sub d).map (f d), g)
  | [], _ => rfl
  | d :: ds, h => by
    obtain ⟨env1, e1, e2, h3⟩ := h d List.mem_cons_self
    have e3 : compL t2 tYesF e (wipeE env1 vs1) (sub d) g = some ((sub d).map (f d), g) := comp_map (f d) fun x hx => by
      obtain ⟨env2, q1, q2⟩ := h3 x hx
      exact ⟨env2, q1, rfl, q2⟩
    simp only [comp2L, e1, e2, tYesF, List.flatMap_cons]
    rw [e3]
    have ih := comp2_map sub f fun x hx => h x (List.mem_cons_of_mem _ hx)
    simp only
    rw [ih]
@[simp] theorem dr_non {g : Sto} : dr g .non = .non := rfl
@[simp] theorem dr_bl {g : Sto} {b : Bool} : dr g (.bl b) = .bl b := rfl
@[simp] theorem dr_int {g : Sto} {i : Int} : dr g (.int i) = .int i := rfl
@[simp] theorem dr_str {g : Sto} {z : Str} : dr g (.str z) = .str z := rfl
@[simp] theorem dr_lst {g : Sto} {xs : List D} : dr g (.lst xs) = .lst xs := rfl
@[simp] theorem dr_frz {g : Sto} {xs : List D} : dr g (.frz xs) = .frz xs := rfl
@[simp] theorem dr_tup {g : Sto} {xs : List D} : dr g (.tup xs) = .tup xs := rfl
@[simp] theorem dr_ctup {g : Sto} {xs : List D} : dr g (.ctup xs) = .ctup xs := rfl
@[simp] theorem dr_dic {g : Sto} {t : Nat} {ks vs : List D} : dr g (.dic t ks vs) = .dic t ks vs := rfl
@[simp] theorem dr_ins {g : Sto} {c : Nat} {ns : List Str} {vs : List D} : dr g (.ins c ns vs) = .ins c ns vs := rfl
@[simp] theorem dr1_v {γ : Type} {sem : D → Sto → Res γ} {d : D} {g : Sto} : dr1 sem d g = sem (dr g d) g := rfl
@[simp] theorem dr2_v {γ : Type} {sem : D → D → Sto → Res γ} {d e : D} {g : Sto} : dr2 sem d e g = sem (dr g d) (dr g e) g := rfl
def vUn : Option Slot → Env → Nat → Env
  | some (.ow d), env, i => env.set i (.sh d)
  | _, env, _ => env
@[simp] theorem vUn_ow {d : D} {env : Env} {i : Nat} : vUn (some (.ow d)) env i = env.set i (.sh d) := rfl
@[simp] theorem vUn_sh {d : D} {env : Env} {i : Nat} : vUn (some (.sh d)) env i = env := rfl
@[simp] theorem vUn_no {env : Env} {i : Nat} : vUn (some .no) env i = env := rfl
@[simp] theorem unown_nil {env : Env} : unown [] env = env := rfl
@[simp] theorem unown_cons {i : Nat} {is : List Nat} {env : Env} : unown (i :: is) env = unown is (vUn env[i]? env i) := by
  show unown is (unown1 env i) = _
  congr 1
  unfold unown1 vUn
  rcases env[i]? with _ | s
  · rfl
  · cases s <;> rfl
end
end Ev
/-! Deals as dicts. -/
namespace Ev
open PySem PySem.Spec PyProof.Rows L2
section
variable {key : Str} {c1 c2 c3 : Int}
def DeN (key : Str) (n k : Nat) (mx : Int) (g : Sto) : Prop := n ≠ k ∧ g[n]? = some (.dic 0 [.str "great", .str key] [.loc k, .int mx])
def DeK (k : Nat) (xs : List Int) (g : Sto) : Prop := g[k]? = some (.lst (xs.map .int))
/-- at n stands a deal -/
def Dealt (key : Str) (n : Nat) (g : Sto) : Prop := ∃ k xs mx, DeN key n k mx g ∧ DeK k xs g ∧ xs.length < 70
def drawT2 : En Bool := tAndF (eU asB (eB (dr2 sNe) (eVarB 2) (eLst eNil))) (eU asB (eB (dr2 sEq) (eB (dr2 sIxA) (eVarB 2) (eU sNeg (eC (.int 1)))) (eC (.int 0))))
def drawD (key : Str) (c1 c2 c3 : Int) : Sd := sSeq (sSet 2 (eB (dr2 sIxA) (eVarB 0) (eC (.str "great")))) (sSeq (sWhile 70 drawT2 (sDo (eU sPop (eVar 2)))) (sSeq (sIf (eU asB (eB (dr2 sNe) (eVarB 2) (eLst eNil))) (sSeq (sSet 3 (eU sPop (eVar 2))) (sSeq (sDo (eApp (eVar 2) (eB sFdiv (eVarB 3) (eVarB 1)))) (sRet (eB sMod (eU (dr1 sInt) (eVarB 3)) (eVarB 1))))) sNil) (sSeq (sDo (eSet3 sPutA (eB sMod (eU (dr1 sInt) (eB (dr2 sAddA) (eB sMulI (eB (dr2 sIxA) (eVarB 0) (eC (.str key))) (eC (.int c1))) (eC (.int c2)))) (eC (.int 2147483647))) (eVar 0) (eC (.str key)))) (sRet (eB sMod (eU (dr1 sInt) (eB sFdiv (eB (dr2 sIxA) (eVarB 0) (eC (.str key))) (eC (.int c3)))) (eVarB 1))))))
theorem DeN.set {n k : Nat} {mx : Int} {g : Sto} {d : D} (h : DeN key n k mx g) : DeN key n k mx (g.set k d) := ⟨h.1, by rw [List.getElem?_set_ne (Ne.symm h.1)]; exact h.2⟩
theorem DeK.set {k : Nat} {xs ys : List Int} {g : Sto} (h : DeK k xs g) : DeK k ys (g.set k (.lst (ys.map .int))) := by
  unfold DeK at h ⊢
  rw [List.getElem?_set_self (List.getElem?_eq_some_iff.mp h).1]
theorem atI_last {α : Type} (xs : List α) (x : α) : L2.atI (xs ++ [x]) (-1) = some x := by
  have hi : L2.ixN (xs.length + 1) (-1) = some xs.length := by simp [L2.ixN]; omega
  simp [L2.atI, hi]
theorem full2 {env : Env} {g : Sto} {k : Nat} {xs : List Int} {P : Bool → Sto → Prop} (he : env[2]? = some (.sh (.loc k))) (hk : DeK k xs g) : Ok ((eU asB (eB (dr2 sNe) (eVarB 2) (eLst eNil))) env g) P ↔ P (!decide (xs = [])) g := by
  unfold DeK at hk
  simp [he, dr2, dr, hk, sNe, ne_nil, big, asB]
theorem pop2 {env : Env} {g : Sto} {k : Nat} {xs : List Int} {x : Int} {P : D → Sto → Prop} (he : env[2]? = some (.sh (.loc k))) (hk : DeK k (xs ++ [x]) g) : Ok ((eU sPop (eVar 2)) env g) P ↔ P (.int x) (g.set k (.lst (xs.map .int))) := by
  unfold DeK at hk
  simp [he, sPop, lstAt, hk]
theorem draw_wh {n k : Nat} {mx w : Int} {g : Sto} {xs : List Int} (hn : DeN key n k mx g) (hk : DeK k xs g) (hl : xs.length < 70) {P : Pst} {s : Slot}
    (h : ∀ g' ys, DeN key n k mx g' → DeK k ys g' → ys.length ≤ xs.length → P.nx [.sh (.loc n), .sh (.int w), .sh (.loc k), s] g') : So (whileL drawT2 (sDo (eU sPop (eVar 2))) 70 [.sh (.loc n), .sh (.int w), .sh (.loc k), s] g) P := by
  refine while_inv (fun m env g => env = [.sh (.loc n), .sh (.int w), .sh (.loc k), s] ∧ DeN key n k mx g ∧ ∃ ys, DeK k ys g ∧ ys.length ≤ xs.length ∧ ys.length < m) ⟨rfl, hn, xs, hk, Nat.le_refl _, hl⟩ ?_
  rintro m env g ⟨rfl, hn, ys, hk, hl1, hl2⟩
  refine ⟨m - 1, by omega, ?_⟩
  unfold drawT2
  rw [Ok_tAndF, full2 (by rfl) hk]
  rcases List.eq_nil_or_concat ys with rfl | ⟨zs, z, rfl⟩
  · simp
    exact h g [] hn hk (by simp)
  · rw [List.concat_eq_append] at *
    have hk' := hk
    unfold DeK at hk'
    simp only [List.append_eq_nil_iff, List.cons_ne_nil, and_false, decide_false, Bool.not_false, if_true]
    by_cases hz : z = 0
    · subst hz
      simp [dr2, dr, hk', sIxA, sIx, sNeg, atI_last, sEq, deq, asB]
      simp [sPop, lstAt, hk']
      refine ⟨hn.set, zs, hk.set, by simp at hl1; omega, by simp at hl2; omega⟩
    · simp [dr2, dr, hk', sIxA, sIx, sNeg, atI_last, sEq, deq, asB, hz]
      exact h g _ hn hk hl1
@[simp] theorem kindK_s {z : Str} : kindK 0 (.str z) = true := rfl
theorem big_ge {n : Nat} (h : n < 1000) : n < big := by unfold big; omega
theorem draw_dic (hkey : key ≠ "great") (hc1 : -(2 ^ 64) < c1 ∧ c1 < 2 ^ 64) (hc3 : 0 < c3 ∧ c3 < 1073741824) {n : Nat} {g : Sto} {w : Int} (h : Dealt key n g) (h0 : 0 < w) (h1 : w < 1073741824) {P : D → Sto → Prop}
    (hP : ∀ (i : Nat) g', (i : Int) < w → Dealt key n g' → P (.int i) g') : Ok (fnOf 4 (drawD key c1 c2 c3) [.loc n, .int w] g) P := by
  obtain ⟨k, xs, mx, hn, hk, hl⟩ := h
  have hn' := hn.2
  rw [Ok_fnOf]
  unfold drawD
  have s1 : sameK (.str "great") (.str "great") = true := by simp [sameK, same1]
  have s2 : sameK (.str "great") (.str key) = false := by simp [sameK, same1]; exact fun e => hkey e.symm
  have s3 : sameK (.str key) (.str key) = true := by simp [sameK, same1]
  simp [dr2, dr, hn', sIxA, dix, dget, s1, List.replicate]
  refine draw_wh hn hk hl fun g' ys hn hk hl' => ?_
  have hn' := hn.2
  have hk' := hk
  unfold DeK at hk'
  show So (sSeq _ _ _ _) _
  rw [So_seq, So_if, full2 (by rfl) hk]
  have ri : ∀ x : Int, ∃ i : Nat, x % w = i ∧ (i : Int) < w := fun x => ⟨(x % w).toNat, by rw [Int.toNat_of_nonneg (Int.emod_nonneg _ (by omega))], by rw [Int.toNat_of_nonneg (Int.emod_nonneg _ (by omega))]; exact Int.emod_lt_of_pos _ h0⟩
  rcases List.eq_nil_or_concat ys with rfl | ⟨zs, z, rfl⟩
  · simp [eSet3, dr2, dr, hn', sIxA, dix, dget, s2, s3, sMulI, hc1, sAddA, sInt, dr1, sMod, sPutA, dicAt, dputK, dputV, dhas, drep, big, sFdiv, hc3, h0]
    have hs : (g'.set n (.dic 0 [.str "great", .str key] [.loc k, .int ((mx * c1 + c2) % 2147483647)]))[n]? = some (.dic 0 [.str "great", .str key] [.loc k, .int ((mx * c1 + c2) % 2147483647)]) := List.getElem?_set_self (List.getElem?_eq_some_iff.mp hn').1
    simp [hs, dget, s2, s3, sFdiv, hc3, sInt, sMod, h0]
    obtain ⟨i, e, hi⟩ := ri ((mx * c1 + c2) % 2147483647 / c3)
    rw [e]
    refine ⟨.inr ⟨by have := hc1.1; omega, by have := hc1.2; omega⟩, hP i _ hi ⟨k, [], _, ⟨hn.1, hs⟩, ?_, by simp⟩⟩
    unfold DeK
    rw [List.getElem?_set_ne hn.1]
    exact hk'
  · rw [List.concat_eq_append] at *
    simp only [List.append_eq_nil_iff, List.cons_ne_nil, and_false, decide_false, Bool.not_false, if_true, So_seq, So_set]
    rw [pop2 (by rfl) hk]
    have hk2 : DeK k zs (g'.set k (.lst (zs.map .int))) := hk.set
    have hk3 := hk2
    unfold DeK at hk3
    have hz : zs.length < big := by simp at hl'; exact big_ge (by omega)
    simp [eApp, lstAt, hk3, sApp, hz, sFdiv, h0, h1, dr1, dr, sInt, sMod]
    obtain ⟨i, e, hi⟩ := ri z
    rw [e]
    refine hP i _ hi ⟨k, zs ++ [z / w], mx, hn.set, ?_, by simp at hl' ⊢; omega⟩
    have := hk.set (ys := zs ++ [z / w])
    simpa using this
/-! ### mixed -/
/-- a def that draws -/
def Draws (J : Nat → Sto → Prop) (fd : Fn) : Prop := ∀ {n : Nat} {g : Sto} {w : Int} {P : D → Sto → Prop}, J n g → 0 < w → w < 1073741824 → (∀ (i : Nat) g', (i : Int) < w → J n g' → P (.int i) g') → Ok (fd [.loc n, .int w] g) P
theorem appPop_ok {a b : Nat} {env : Env} {as bs : List D} {f : E1} {g : Sto} {P : Pst} (ha : env[a]? = some (.ow (.lst as))) (hb : env[b]? = some (.ow (.lst bs))) (hl : bs.length < big) (h63 : as.length < 1000000)
    (h : Ok (f env g) fun d g1 => ∃ i : Nat, d = .int i ∧ ∃ hi : i < as.length, P.nx ((env.set a (.ow (.lst (as.eraseIdx i)))).set b (.ow (.lst (bs ++ [as[i]])))) g1) : So (sAppPop b a f env g) P := by
  unfold sAppPop
  rw [if_pos ⟨by simp [isOwL, hb], by simp [isOwL, ha]⟩, So_thenS]
  refine h.mono fun d g1 ⟨i, e, hi, h⟩ => ?_
  subst e
  simp only [putAppPop, ha, hb]
  rw [if_pos ⟨hl, by omega, by omega⟩]
  have e1 : seqIndex? (i : Int) as.length = some i := by
    rw [seqIndex_of (by omega) (by omega)]
    simp
  rw [e1]
  simp only [List.getElem?_eq_getElem hi]
  exact h
theorem rng_ok {n : Nat} {g : Sto} (h : n < 1000) : sRng (.int 0) (.int (n : Nat)) g = .ok ((List.range n).map fun k => D.int (k : Nat)) g := by
  simp only [sRng]
  rw [if_pos (by omega)]
  simp
theorem mix_for {J : Nat → Sto → Prop} {fd : Fn} (hd : Draws J fd) {n : Nat} {sm t : Slot} {xs : List D} {g : Sto} {P : Pst} (hj : J n g) (hl : xs.length < 70)
    (h : ∀ t ys g', ys.Perm xs → J n g' → P.nx [.sh (.loc n), sm, t, .ow (.lst []), .ow (.lst ys)] g') : So (forL (tgN 2) (sAppPop 4 3 (eCall 2 fd (eCons (eVar 0) (eCons (eU (dr1 sLenA) (eVarB 3)) eNil)))) ((List.range xs.length).map fun k => D.int (k : Nat)) [.sh (.loc n), sm, t, .ow (.lst xs), .ow (.lst [])] g) P := by
  refine for_idx (fun i env g => ∃ t as bs, env = [.sh (.loc n), sm, t, .ow (.lst as), .ow (.lst bs)] ∧ as.length + i = xs.length ∧ (bs ++ as).Perm xs ∧ J n g) 0 ⟨t, xs, [], rfl, by simp, by simp, hj⟩ ?_ ?_
  · rintro i hi env g ⟨t, as, bs, rfl, hl2, hp, hj⟩
    simp only [List.length_map, List.length_range] at hi
    simp only [List.getElem_map, List.getElem_range]
    refine ⟨_, rfl, appPop_ok (as := as) (bs := bs) (by simp) (by simp) ?_ (by omega) ?_⟩
    · have := hp.length_eq
      simp at this
      unfold big
      omega
    · simp [dr1, dr, sLenA]
      refine hd hj (by omega) (by omega) fun j g' hj1 hj' => ⟨j, rfl, by omega, .sh (.int (i : Nat)), as.eraseIdx j, bs ++ [as[j]'(by omega)], rfl, ?_, ?_, hj'⟩
      · rw [List.length_eraseIdx_of_lt (by omega)]
        omega
      · rw [List.append_assoc]
        exact ((erase_perm as j (by omega)).append_left bs).trans hp
  · rintro env g ⟨t, as, bs, rfl, hl2, hp, hj⟩
    simp only [List.length_map, List.length_range] at hl2
    have : as = [] := List.eq_nil_of_length_eq_zero (by omega)
    subst this
    exact h t bs g (by simpa using hp) hj
/-! ### the deal is made -/
abbrev srcB (c3 c4 c5 : Int) : Sd := sSet 3 (eB sMod (eU (dr1 sInt) (eB (dr2 sAddA) (eB (dr2 sAddA) (eB sMulI (eVarB 3) (eC (.int c3))) (eB sMod (eU (dr1 sInt) (eVarB 4)) (eC (.int c4)))) (eC (.int c5)))) (eC (.int 2147483647)))
abbrev greatE : E1 := eNew (eU sRev (eLc (eU sIter (eVar 2)) (tgN 4) (eU asB (eB sGe (eVarB 4) (eB sPow (eC (.int 10)) (eC (.int 18))))) (eVar 4) [4]))
def srcD (key : Str) (c1 c2 c3 c4 c5 lim : Int) : Sd := sSeq (sSetO 2 (eLc (eU sIter (eSl (fun d l h g => sSlA (dr g d) l h g) (eVarB 0) (oSo (eVar 1)) (oSo (eC (.int lim))))) (tgN 4) tYesF (eU (dr1 sAbs) (eU (dr1 sInt) (eVarB 4))) [4])) (sSeq (sSet 3 (eB (dr2 sAddA) (eC (.int c1)) (eB sMulI (eC (.int c2)) (eVarB 1)))) (sSeq (sUn [2] (sFor (eU sIter (eVar 2)) (tgN 4) (srcB c3 c4 c5))) (sUn [2] (sRet (eNew (eDisp [((eC (.str "great")), greatE), ((eC (.str key)), (eVar 3))]))))))
theorem cut_le' {α : Type} (xs : List α) (lo : Option Int) {lim : Int} (h0 : 0 ≤ lim) (h : lim < 70) : (cutL xs lo (some lim)).length < 70 := by
  unfold cutL
  have h : HT.sIx xs.length xs.length (some lim) ≤ lim.toNat := by
    unfold HT.sIx
    simp [show ¬ lim < 0 by omega]
    omega
  rw [List.length_take]
  omega
theorem wipe4 {a b c d e : Slot} : wipeE [a, b, c, d, e] [4] = [a, b, c, d, .no] := rfl
theorem source_dic (hkey : key ≠ "great") {c1 c2 c3 c4 c5 lim : Int} (hc2 : -(2 ^ 64) < c2 ∧ c2 < 2 ^ 64) (hc3 : -(2 ^ 64) < c3 ∧ c3 < 2 ^ 64) (hc4 : 0 < c4) (hl0 : 0 ≤ lim) (hl : lim < 70) {ns : List Int} {i : Int} {g : Sto} {P : D → Sto → Prop}
    (hP : ∀ n g', Dealt key n g' → P (.loc n) g') : Ok (fnOf 5 (srcD key c1 c2 c3 c4 c5 lim) [.frz (ns.map .int), .int i] g) P := by
  obtain ⟨ms, em⟩ : ∃ ms : List Int, ms = (cutL ns (some i) (some lim)).map fun i => if i < 0 then -i else i := ⟨_, rfl⟩
  have lm : ms.length < 70 := by rw [em, List.length_map]; exact cut_le' ns (some i) hl0 hl
  have hb : ∀ {n : Nat}, n < 70 → n ≤ big := fun h => by unfold big; omega
  rw [Ok_fnOf]
  unfold srcD
  rw [So_seq, So_setO, Ok_eLc]
  simp [sSlA, dr, cutL_map, sIter, itemsOf, List.replicate, wipe4]
  refine ⟨_, _, compL_abs _ _, by simpa using hb (cut_le' ns (some i) hl0 hl), ?_⟩
  have e3 : (cutL ns (some i) (some lim)).map (fun i => D.int (if i < 0 then -i else i)) = ms.map .int := by rw [em, List.map_map]; rfl
  rw [e3]
  simp [sMulI, dr2, dr, sAddA]
  refine ⟨.inl ⟨by have := hc2.1; omega, by have := hc2.2; omega⟩, ?_⟩
  simp [sIter, itemsOf]
  refine for_inv (fun env g' => g' = g ∧ ∃ m' e4, env = [.sh (.frz (ns.map .int)), .sh (.int i), .sh (.lst (ms.map .int)), .sh (.int m'), e4]) ⟨rfl, _, _, rfl⟩ ?_ ?_
  · rintro d hd env g' ⟨rfl, m', e4, rfl⟩
    obtain ⟨x, _, rfl⟩ := List.mem_map.mp hd
    refine ⟨_, rfl, ?_⟩
    unfold srcB
    simp [sMulI, dr2, dr, sAddA, dr1, sInt, sMod, hc4]
    exact .inr ⟨by have := hc3.1; omega, by have := hc3.2; omega⟩
  · rintro env g' ⟨rfl, m', e4, rfl⟩
    show So (sUn [2] _ _ _) _
    simp
    rw [Ok_eLc]
    simp [sIter, itemsOf, wipe4]
    have lf : (ms.filter fun i => decide ((10 : Int) ^ 18 ≤ i)).length < 70 := Nat.lt_of_le_of_lt (List.length_filter_le _ _) lm
    refine ⟨_, _, compL_great _ _, by simpa using hb lf, ?_⟩
    have s2 : sameK (.str "great") (.str key) = false := by simp [sameK, same1]; exact fun e => hkey e.symm
    simp [sRev, sDisp, keysOf, keyD, dmerge, dputK, dputV, dhas, s2]
    refine hP _ _ ⟨g'.length, (ms.filter fun i => decide ((10 : Int) ^ 18 ≤ i)).reverse, m', ⟨by omega, ?_⟩, ?_, by simpa using lf⟩
    · rw [List.getElem?_append_right (by omega)]
      simp
    · unfold DeK
      rw [List.getElem?_append_right (by omega)]
      simp
end
end Ev
/-! Texts: joined and split. -/
namespace Ev
open PySem PySem.Spec PyProof.Rows L2
theorem pre_second {a b c : Nat} {l : List Nat} (h : l[1]? ≠ some b) : TL.pre [a, b, c] l = false := by
  unfold TL.pre
  cases q : l.take [a, b, c].length == [a, b, c] with
  | false => rfl
  | true =>
    have e := congrArg (fun l => l[1]?) (eq_of_beq q)
    simp only [List.length_cons, List.length_nil] at e
    rw [List.getElem?_take] at e
    exact absurd (by simpa using e) h
/-- a separator of three signs whose middle one stands in no part -/
theorem bar_free {a b c : Nat} {p rest : List Nat} (hab : a ≠ b) (h : b ∉ p) : ∀ i, i < p.length → TL.pre [a, b, c] ((p ++ ([a, b, c] ++ rest)).drop i) = false := fun i hi => by
  refine pre_second ?_
  rw [List.getElem?_drop]
  by_cases hp : i + 1 < p.length
  · rw [List.getElem?_append_left hp, List.getElem?_eq_getElem hp]
    intro e
    exact h ((Option.some.inj e) ▸ List.getElem_mem hp)
  · rw [List.getElem?_append_right (by omega), show i + 1 - p.length = 0 by omega]
    simpa using hab
theorem bar_last {a b c : Nat} {p : List Nat} (h : b ∉ p) : ∀ i, i < p.length → TL.pre [a, b, c] (p.drop i) = false := fun i hi => by
  refine pre_second ?_
  rw [List.getElem?_drop]
  intro e
  exact h (List.mem_of_getElem? e)
theorem spl_bar {a b c : Nat} (hab : a ≠ b) : ∀ {parts : List (List Nat)}, parts ≠ [] → (∀ p ∈ parts, b ∉ p) → TL.spl [a, b, c] 0 [] (TL.joinL [a, b, c] parts) = parts
  | [], h, _ => absurd rfl h
  | [p], _, hp => by
    show TL.spl [a, b, c] 0 [] p = [p]
    rw [TL.spl_last (bar_last (hp p (List.mem_singleton.mpr rfl))), List.nil_append]
  | p :: q :: r, _, hp => by
    show TL.spl [a, b, c] 0 [] (p ++ ([a, b, c] ++ TL.joinL [a, b, c] (q :: r))) = p :: q :: r
    rw [TL.spl_part (by simp) (bar_free hab (hp p List.mem_cons_self)), List.nil_append, spl_bar hab (by simp) fun z hz => hp z (List.mem_cons_of_mem _ hz)]
/-- split at " | " -/
theorem split_bar {parts : List Str} (hne : parts ≠ []) (hp : ∀ p ∈ parts, 124 ∉ TL.tl p) : Txt.split (Txt.join " | " parts) " | " = parts := by
  refine TL.map_tl_inj ?_
  have ey : TL.tl " | " = [32, 124, 32] := by decide
  rw [TL.split_spl _ " | " (by rw [ey]; simp) (TL.kind_ok (by decide +kernel)), TL.join_eq, TL.tl_join, ey]
  refine spl_bar (by decide) (fun e => hne (List.map_eq_nil_iff.mp e)) fun p h => ?_
  obtain ⟨z, hz, rfl⟩ := List.mem_map.mp h
  exact hp z hz
/-- split at " " -/
theorem split_gap {parts : List Str} (hne : parts ≠ []) (hp : ∀ p ∈ parts, 32 ∉ TL.tl p) : Txt.split (Txt.join " " parts) " " = parts :=
  TL.split_join (s := 32) (S := []) (by decide) (by decide +kernel) hne hp
theorem tl_join' (y : Str) (parts : List Str) : TL.tl (Txt.join y parts) = TL.joinL (TL.tl y) (parts.map TL.tl) := by rw [TL.join_eq]; exact TL.tl_join y parts
theorem mem_joinL {S : List Nat} {c : Nat} : ∀ {parts : List (List Nat)}, c ∈ TL.joinL S parts → c ∈ S ∨ ∃ p ∈ parts, c ∈ p
  | [], h => by cases h
  | [p], h => .inr ⟨p, List.mem_singleton.mpr rfl, h⟩
  | p :: q :: r, h => by
    have h : c ∈ p ++ (S ++ TL.joinL S (q :: r)) := h
    rcases List.mem_append.mp h with h | h
    · exact .inr ⟨p, List.mem_cons_self, h⟩
    · rcases List.mem_append.mp h with h | h
      · exact .inl h
      · rcases mem_joinL h with h | ⟨x, hx, hc⟩
        · exact .inl h
        · exact .inr ⟨x, List.mem_cons_of_mem _ hx, hc⟩
theorem joinL_app {S : List Nat} : ∀ {as bs : List (List Nat)}, as ≠ [] → bs ≠ [] → TL.joinL S (as ++ bs) = TL.joinL S as ++ (S ++ TL.joinL S bs)
  | [], _, h, _ => absurd rfl h
  | [p], b :: bs, _, _ => rfl
  | [p], [], _, h => absurd rfl h
  | p :: q :: r, bs, _, hb => by
    have ih := joinL_app (S := S) (as := q :: r) (by simp) hb
    show p ++ (S ++ TL.joinL S ((q :: r) ++ bs)) = p ++ (S ++ TL.joinL S (q :: r)) ++ (S ++ TL.joinL S bs)
    rw [ih]
    simp
theorem join_app {y : Str} {as bs : List Str} (ha : as ≠ []) (hb : bs ≠ []) : Txt.join y (as ++ bs) = Txt.join y as ++ y ++ Txt.join y bs := by
  refine TL.ext_tl ?_
  show TL.tl _ = TL.tl _
  have e : ∀ a b : Str, TL.tl (a ++ b) = TL.tl a ++ TL.tl b := TL.tl_append
  rw [e, e, tl_join', tl_join', tl_join', List.map_append, joinL_app (by simpa using ha) (by simpa using hb), List.append_assoc]
theorem len_join (y : Str) (parts : List Str) : (Txt.join y parts).length ≤ (parts.map (·.length)).sum + parts.length * y.length := by rw [TL.join_eq]; exact StrLaws.join_length_le y parts
end Ev
/-! Plain: equal trees, sorted texts. -/
namespace Ev
open PySem PySem.Spec PyProof.Rows L2
section
variable {α : Type} [DecidableEq α]
theorem deqL_map {f : α → D} {n : Nat} (h : ∀ a b, deq n (f a) (f b) = some (decide (a = b))) : ∀ l m : List α, ∃ b, deqL n (l.map f) (m.map f) = some b ∧ (b && (l.length == m.length)) = decide (l = m)
  | [], [] => ⟨true, by simp [deqL], by simp⟩
  | [], b :: m => ⟨true, by simp [deqL], by simp⟩
  | a :: l, [] => ⟨true, by simp [deqL], by simp⟩
  | a :: l, b :: m => by
    obtain ⟨c, e1, e2⟩ := deqL_map h l m
    refine ⟨decide (a = b) && c, by simp only [List.map_cons, deqL, h, e1], ?_⟩
    have e3 : ((a :: l).length == (b :: m).length) = (l.length == m.length) := by simp
    rw [e3, Bool.and_assoc, e2]
    by_cases h1 : a = b <;> by_cases h2 : l = m <;> simp [h1, h2]
theorem deq_tup {f : α → D} {n : Nat} (h : ∀ a b, deq n (f a) (f b) = some (decide (a = b))) (l m : List α) : deq (n + 1) (.tup (l.map f)) (.tup (m.map f)) = some (decide (l = m)) := by
  obtain ⟨b, e1, e2⟩ := deqL_map h l m
  simp only [deq, e1, List.length_map, e2]
theorem deq_lst {f : α → D} {n : Nat} (h : ∀ a b, deq n (f a) (f b) = some (decide (a = b))) (l m : List α) : deq (n + 1) (.lst (l.map f)) (.lst (m.map f)) = some (decide (l = m)) := by
  obtain ⟨b, e1, e2⟩ := deqL_map h l m
  simp only [deq, List.length_map]
  by_cases c : l.length = m.length
  · rw [if_pos c, e1]
    simpa [c] using e2
  · rw [if_neg c]
    have : l ≠ m := fun e => c (by rw [e])
    simp [this]
end
theorem deq_str (n : Nat) (a b : Str) : deq n (.str a) (.str b) = some (decide (a = b)) := by
  cases n <;> simp [deq] <;> rfl
theorem deq_bl (n : Nat) (a b : Bool) : deq n (.bl a) (.bl b) = some (decide (a = b)) := by
  cases n <;> cases a <;> cases b <;> simp [deq]
theorem deq_int (n : Nat) (a b : Int) : deq n (.int a) (.int b) = some (decide (a = b)) := by
  cases n <;> simp [deq] <;> rfl
/-! ### texts, each once, sorted -/
theorem mem_insU {z x : Str} {zs : List Str} : x ∈ insU z zs ↔ x = z ∨ x ∈ zs := by
  unfold insU
  split
  · rename_i h
    obtain ⟨j, hj, e⟩ := List.any_eq_true.mp h
    have e := of_decide_eq_true e
    subst e
    constructor
    · exact .inr
    · rintro (rfl | h)
      · exact hj
      · exact h
  · simp
theorem nodup_insU {z : Str} {zs : List Str} (h : zs.Nodup) : (insU z zs).Nodup := by
  unfold insU
  split
  · exact h
  · rename_i hn
    refine List.nodup_cons.mpr ⟨fun hm => hn (List.any_eq_true.mpr ⟨z, hm, by simp⟩), h⟩
theorem mem_foldU {x : Str} : ∀ {zs ks : List Str}, x ∈ zs.foldl (fun ks k => insU k ks) ks ↔ x ∈ zs ∨ x ∈ ks
  | [], ks => by simp
  | z :: zs, ks => by
    rw [List.foldl_cons, mem_foldU, mem_insU, List.mem_cons]
    constructor
    · rintro (h | h | h)
      · exact .inl (.inr h)
      · exact .inl (.inl h)
      · exact .inr h
    · rintro ((h | h) | h)
      · exact .inr (.inl h)
      · exact .inl h
      · exact .inr (.inr h)
theorem nodup_foldU : ∀ {zs ks : List Str}, ks.Nodup → (zs.foldl (fun ks k => insU k ks) ks).Nodup
  | [], ks, h => h
  | z :: zs, ks, h => by
    rw [List.foldl_cons]
    exact nodup_foldU (zs := zs) (nodup_insU h)
theorem mem_dedS {x : Str} {zs : List Str} : x ∈ dedS zs ↔ x ∈ zs := by
  unfold dedS
  rw [mem_foldU]
  simp
theorem nodup_dedS (zs : List Str) : (dedS zs).Nodup := nodup_foldU List.nodup_nil
theorem mem_sortS {x : Str} {zs : List Str} : x ∈ sortS zs ↔ x ∈ zs := (sortS_perm zs).mem_iff
theorem sort_same {a b : List Str} (ha : a.Nodup) (hb : b.Nodup) (h : ∀ x, x ∈ a ↔ x ∈ b) : sortS a = sortS b :=
  List.Perm.eq_of_pairwise (fun a b _ _ => leS_anti) (sortS_sorted a) (sortS_sorted b) ((sortS_perm a).trans (((List.perm_ext_iff_of_nodup ha hb).mpr h).trans (sortS_perm b).symm))
theorem ded_same {a b : List Str} (h : ∀ x, x ∈ a ↔ x ∈ b) : sortS (dedS a) = sortS (dedS b) := sort_same (nodup_dedS a) (nodup_dedS b) fun x => by rw [mem_dedS, mem_dedS]; exact h x
end Ev
namespace Ev
open PySem PySem.Spec PyProof.Rows L2
/-! ### dicts that are walked: locked meanwhile -/
section
variable {S : Stat}
structure Sim (H H2 : Hp) (a : Addr) (od : Obj) (kvs : List (Key × V)) : Prop where
  ne : ∀ b, b ≠ a → H2 b = H b
  l : H a = some (.dK kvs) ∨ H a = some (.frz od (.dK kvs))
  r : H2 a = some (.dK kvs) ∨ H2 a = some (.frz od (.dK kvs))
variable {H H2 : Hp} {a : Addr} {od : Obj} {kvs : List (Key × V)} {m m' : Mv} {g : Sto}
theorem Sim.other (s : Sim H H2 a od kvs) {b : Addr} {o : HO} (h : H b = some o) (n1 : ∀ kvs, o ≠ .dK kvs) (n2 : ∀ u kvs, o ≠ .frz u (.dK kvs)) : H2 b = some o := by
  by_cases e : b = a
  · subst e
    rcases s.l with l | l
    · rw [h] at l; cases l; exact absurd rfl (n1 _)
    · rw [h] at l; cases l; exact absurd rfl (n2 _ _)
  · rw [s.ne b e]; exact h
theorem Sim.rd (s : Sim H H2 a od kvs) {b : Addr} {o : HO} (h : L2.Rd H b o) (n1 : ∀ kvs, o ≠ .dK kvs) (n2 : ∀ u kvs, o ≠ .frz u (.dK kvs)) : L2.Rd H2 b o := by
  rcases h with h | ⟨u, h⟩
  · exact .inl (s.other h n1 n2)
  · exact .inr ⟨u, s.other h (fun _ => nofun) fun u' k e => by cases e; exact n1 _ rfl⟩
theorem dicO_frz {t : Nat} {ks : List D} {vs : List V} {u : Obj} {o : HO} (h : DicO t ks vs (.frz u o)) : False := by
  rcases h with ⟨_, _, e, _⟩ | ⟨_, _, e, _⟩ <;> cases e
theorem Sim.rdD (s : Sim H H2 a od kvs) {b : Addr} {o : HO} {t : Nat} {ks : List D} {vs : List V} (hd : DicO t ks vs o) (h : RdD H b o) : RdD H2 b o := by
  by_cases e : b = a
  · subst e
    have eo : o = .dK kvs := by
      rcases h with h | ⟨u, k, e, h⟩
      · rcases s.l with l | l
        · rw [h] at l; cases l; rfl
        · rw [h] at l
          cases l
          exact (dicO_frz hd).elim
      · subst e
        rcases s.l with l | l
        · rw [h] at l; cases l
        · rw [h] at l; cases l; rfl
    subst eo
    rcases s.r with r | r
    · exact .inl r
    · exact .inr ⟨od, kvs, rfl, r⟩
  · rcases h with h | ⟨u, k, e', h⟩
    · exact .inl (by rw [s.ne b e]; exact h)
    · exact .inr ⟨u, k, e', by rw [s.ne b e]; exact h⟩
mutual
theorem Rr.sim (s : Sim H H2 a od kvs) : ∀ {d : D} {v : V}, Rr S m H d v → Rr S m H2 d v
  | _, _, .non => .non
  | _, _, .bl b => .bl b
  | _, _, .int i => .int i
  | _, _, .str x => .str x
  | _, _, .lst h f r => .lst (s.other h (fun _ => nofun) (fun _ _ => nofun)) f (Rl.sim s r)
  | _, _, .frz h r => .frz (by
      rcases h with ⟨h, f⟩ | h
      · exact .inl ⟨s.rd h (fun _ => nofun) (fun _ _ => nofun), f⟩
      · exact .inr h) (Rl.sim s r)
  | _, _, .tup h r => .tup (s.other h (fun _ => nofun) (fun _ _ => nofun)) (Rl.sim s r)
  | _, _, .ctup h r => .ctup (by
      rcases h with h | h
      · exact .inl (s.rd h (fun _ => nofun) (fun _ _ => nofun))
      · exact .inr h) (Rl.sim s r)
  | _, _, .dic h f d r => .dic (s.rdD d h) f d (Rl.sim s r)
  | _, _, .ins h f c e r => .ins (s.other h (fun _ => nofun) (fun _ _ => nofun)) f c e (Rl.sim s r)
  | _, _, .loc e => .loc e
  | _, _, .cls e => .cls e
theorem Rl.sim (s : Sim H H2 a od kvs) : ∀ {ds : List D} {vs : List V}, Rl S m H ds vs → Rl S m H2 ds vs
  | _, _, .nil => .nil
  | _, _, .cons r t => .cons (Rr.sim s r) (Rl.sim s t)
end
theorem Root.sim (s : Sim H H2 a od kvs) {b : Addr} {d : D} (hb : b ≠ a) (h : Root S m H b d) : Root S m H2 b d := by
  cases h with
  | lst e r => exact .lst (by rw [s.ne b hb]; exact e) (r.sim s)
  | dic e f r => exact .dic (by rw [s.ne b hb]; exact e) f (r.sim s)
  | ins e c n r => exact .ins (by rw [s.ne b hb]; exact e) c n (r.sim s)
theorem MOk.sim (s : Sim H H2 a od kvs) (fr : m.fr a) (ok : MOk S H g m) : MOk S H2 g m :=
  ⟨ok.len, fun n d b e1 e2 => (ok.sto n d b e1 e2).sim s fun z => fr.1 (z ▸ ok.muW b (List.mem_of_getElem? e2)), ok.nd, ok.muW, fun b hb => by
    rw [s.ne b fun z => by subst z; exact hb.elim fr.1 fr.2]
    exact ok.trk b hb, ok.dis⟩
theorem Rel.sim (s : Sim H H2 a od kvs) (fr : m.fr a) {σ : St} {env : Env} (r : Rel S H σ env g m) : Rel S H2 σ env g m := by
  refine ⟨r.mem.sim s fr, r.len, fun i sl ov he hs => ?_, r.own⟩
  have h := r.slot i sl ov he hs
  cases sl with
  | no => trivial
  | sh d =>
    obtain ⟨v, e, h⟩ := h
    exact ⟨v, e, h.sim s⟩
  | ow d =>
    obtain ⟨b, e, hw, hm, h⟩ := h
    exact ⟨b, e, hw, hm, h.sim s fun z => fr.1 (z ▸ hw)⟩
theorem sim_lock (h : H a = some (.dK kvs)) : Sim H (upd H a (.frz od (.dK kvs))) a od kvs := ⟨fun b n => upd_ne n, .inl h, .inr upd_same⟩
theorem sim_unlock (h : H a = some (.frz od (.dK kvs))) : Sim H (upd H a (.dK kvs)) a od kvs := ⟨fun b n => upd_ne n, .inr h, .inl upd_same⟩
theorem GrowS.unlock {H' : Hp} (h : H a = some (.dK kvs)) (q : GrowS m (upd H a (.frz od (.dK kvs))) m' H') : GrowS m H m' (upd H' a (.dK kvs)) := by
  have back : ∀ b, upd H a (.frz od (.dK kvs)) b = none → H b = none := fun b e => by
    by_cases hb : b = a
    · subst hb; rw [upd_same] at e; cases e
    · rwa [upd_ne hb] at e
  refine ⟨fun b o e n => ?_, fun b e => ?_, q.mu, fun b hb => (q.mun b hb).imp id (back b), fun b hb => (q.wn b hb).imp id (back b), q.b⟩
  · by_cases hb : b = a
    · subst hb; rw [h] at e; cases e; exact upd_same
    · rw [upd_ne hb]; exact q.keep b o (by rw [upd_ne hb]; exact e) n
  · by_cases hb : b = a
    · subst hb; rw [upd_same] at e; cases e
    · rw [upd_ne hb] at e; exact back b (q.liv b e)
theorem Grow.unlock {H' : Hp} (h : H a = some (.dK kvs)) (ham : a ∉ m.mu) (q : Grow m (upd H a (.frz od (.dK kvs))) m' H') : Grow m H m' (upd H' a (.dK kvs)) := by
  have back : ∀ b, upd H a (.frz od (.dK kvs)) b = none → H b = none := fun b e => by
    by_cases hb : b = a
    · subst hb; rw [upd_same] at e; cases e
    · rwa [upd_ne hb] at e
  refine ⟨fun b o e n => ?_, fun b e => ?_, q.mu, fun b hb => (q.mun b hb).imp id (back b), q.wk, fun b hb => (q.wn b hb).imp id (back b), q.b⟩
  · by_cases hb : b = a
    · subst hb; rw [h] at e; cases e; exact upd_same
    · rw [upd_ne hb]; exact q.keep b o (by rw [upd_ne hb]; exact e) n
  · by_cases hb : b = a
    · subst hb; rw [upd_same] at e; cases e
    · rw [upd_ne hb] at e; exact back b (q.liv b e)
end
section
variable {X : Cx} {S : Stat} {W : WX}
/-- the keys of the dict in slot i -/
def eKeys (i : Nat) : En (List D) := fun env g => match env[i]? with
  | some (.sh (.dic 0 ks _)) => .ok ks g
  | _ => .stuck
def Lk (σ : St) (i : Nat) (H : Hp) : Prop := ∃ a u kvs, σ[i]? = some (some (.ref a)) ∧ H a = some (.frz u (.dK kvs))
theorem eKeys_ok {i : Nat} {env : Env} {g g' : Sto} {ks : List D} (h : eKeys i env g = .ok ks g') : g' = g ∧ ∃ vs, env[i]? = some (.sh (.dic 0 ks vs)) := by
  unfold eKeys at h
  split at h
  · rename_i ks' vs e
    cases h
    exact ⟨rfl, vs, e⟩
  · cases h
theorem eKeys_exc {i : Nat} {env : Env} {g g' : Sto} {x : Xc} (h : eKeys i env g = .exc x g') : False := by
  unfold eKeys at h
  split at h <;> cases h
/-- a dict in a slot -/
theorem slot_dic {H : Hp} {σ : St} {env : Env} {g : Sto} {m : Mv} {i : Nat} {ks vs : List D} (r : Rel S H σ env g m) (e : env[i]? = some (.sh (.dic 0 ks vs))) :
    ∃ a kvs, σ[i]? = some (some (.ref a)) ∧ RdD H a (.dK kvs) ∧ m.fr a ∧ ks = kvs.map (fun p => kD p.1) := by
  obtain ⟨ov, e1, v, rfl, h⟩ := r.at e
  cases h with
  | @dic a t o _ ws _ h1 h2 h3 h4 =>
    rcases h3 with ⟨_, kvs, rfl, e3, _⟩ | ⟨e0, _⟩
    · exact ⟨a, kvs, e1, h1, h2, e3⟩
    · cases e0
def TIvL (S : Stat) (W : WX) (i : Nat) (f : En (List D)) : TI := fun σ H R => ∃ env g m, Rel S H σ env g m ∧ Lk σ i H ∧ match f env g with
  | .ok ds g' => ∀ J H' m', Grow m H m' H' → MOk S H' g' m' → Yields S J m' H' ds → R J H'
  | .exc x g' => False
  | .stuck => False
theorem yields_keys {a : Addr} {u : Obj} {kvs : List (Key × V)} {m : Mv} {H : Hp} (h : H a = some (.frz u (.dK kvs))) (fr : m.fr a) : Yields S (Itk a u kvs) m H (kvs.map fun p => kD p.1) := fun m1 H1 g1 q ok => by
  have h1 : H1 a = some (.frz u (.dK kvs)) := q.keep a _ h fr.1
  refine ⟨fun i d hd => ?_, h1, by simp⟩
  rw [List.getElem?_map] at hd
  obtain ⟨⟨k, v⟩, hk, rfl⟩ := Option.map_eq_some_iff.mp hd
  refine ⟨⟨h1, (List.getElem?_eq_some_iff.mp hk).1⟩, fun x H2 ⟨e, k', v', e1, e2⟩ => ?_⟩
  subst e e2
  rw [hk] at e1
  cases e1
  refine ⟨.refl _ _, ok, ?_⟩
  cases k with
  | inl i => exact .int i
  | inr z => exact .str z
theorem i_keysL {tg e : Expr} {i : Nat} (he : PE X e (tVar i)) : PI X tg e (TIvL S W i (eKeys i)) :=
  PI.to (pi_keys he) fun σ H R ⟨env, g, m, r, ⟨a, u, kvs, hσ, hl⟩, p⟩ => by
    cases q : eKeys i env g with
    | stuck => rw [q] at p; exact p.elim
    | exc x g' => rw [q] at p; exact p.elim
    | ok ds g' =>
      rw [q] at p
      obtain ⟨rfl, vs, e⟩ := eKeys_ok q
      obtain ⟨a', kvs', h1, h2, fr, rfl⟩ := slot_dic r e
      rw [hσ] at h1
      cases h1
      have ek : kvs' = kvs := by
        rcases h2 with h2 | ⟨u', k', e', h2⟩
        · rw [hl] at h2; cases h2
        · rw [hl] at h2; cases h2; rfl
      subst ek
      exact ⟨.ref a, hσ, a, u, rfl, .inl ⟨kvs', hl, p _ H m (.refl m H) r.mem (yields_keys hl fr)⟩⟩
/-! for x in d -/
def TSvL (S : Stat) (W : WX) (i : Nat) (f : Sd) : TS := fun E σ H => ∃ env g m, Rel S H σ env g m ∧ Lk σ i H ∧ SPost S W E (f env g) m H
def sNoX (f : Sd) : Sd := fun env g => match f env g with
  | .exc _ _ _ => .stuck
  | r => r
theorem s_forL {tg iter : Expr} {i : Nat} {ws : List Nat} {b : List Stmt} {t : Tg} {body : Sd} {pos : Pos} (hp : PassesOwn (model X.prog X.w) X.A X.env X.xe) (hc : X.calm = true) (hi : PE X iter (tVar i)) (hg : Pg X S ws tg t) (hb : Pss X S W b body)
    (hs : ∀ x, foldedSetIterable iter X.env x = pure x := by intro _; rfl) : PS X (.For tg iter b [] pos) (TSvL S W i (sFor (eKeys i) t body)) :=
  PS.to (ps_for hp hc (i_keysL (S := S) (W := W) hi) hg hb hs) fun E σ H ⟨env, g, m, r, lk, p⟩ => by
    refine ⟨env, g, m, r, lk, ?_⟩
    unfold sFor thenS at p
    cases q : eKeys i env g with
    | stuck => rw [q] at p; exact p
    | exc x g' => exact (eKeys_exc q).elim
    | ok ds g1 =>
      rw [q] at p
      intro J H1 m1 gr ok yl
      have r1 := r.grow gr ok
      have p1 : SPost S W E (forL t body ds env g1) m1 H1 := SPost.mono (gr.s r.mem.muW) p
      refine ⟨fun i k σ H => k = ds.length - i ∧ i ≤ ds.length ∧ ∃ env g m, Rel S H σ env g m ∧ GrowS m1 H1 m H ∧ SPost S W E (forL t body (ds.drop i) env g) m H, ⟨ds.length, by simp, Nat.zero_le _, env, g1, m1, r1, .refl _ _, by simpa using p1⟩, ?_⟩
      rintro i k σ H ⟨rfl, hi, env, g, m, r, gr0, p⟩
      obtain ⟨y1, y2⟩ := yl m H g gr0 r.mem
      by_cases hlt : i < ds.length
      · have hd : ds[i]? = some ds[i] := by simp [hlt]
        obtain ⟨go, yd⟩ := y1 i _ hd
        have ed : ds.drop i = ds[i] :: ds.drop (i + 1) := List.drop_eq_getElem_cons hlt
        rw [ed] at p
        refine .inr ⟨go, fun σ H => ∃ env g m, Rel S H σ env g m ∧ GrowS m1 H1 m H ∧ SPost S W E (forL t body (ds.drop (i + 1)) env g) m H, fun σ' H' h => ⟨ds.length - (i + 1), by omega, rfl, hlt, h⟩, fun x H' hy => ?_⟩
        obtain ⟨gr2, ok2, rx⟩ := yd x H' hy
        have r2 := r.grow gr2 ok2
        refine ⟨env, g, m, ds[i], r2, rx, ?_⟩
        simp only [forL] at p
        cases q2 : t ds[i] env with
        | none => rw [q2] at p; exact p.elim
        | some env1 =>
          rw [q2] at p
          intro σ' r3 _
          have g3 : GrowS m1 H1 m H' := gr0.trans (gr2.s r.mem.muW)
          have p3 := SPost.mono (gr2.s r.mem.muW) p
          refine ⟨env1, g, m, r3, ?_⟩
          dsimp only at p3
          cases q3 : body env1 g with
          | nx env' g' => rw [q3] at p3; exact fun σ' H' m' gr' r' => ⟨env', g', m', r', g3.trans gr', SPost.mono gr' p3⟩
          | ct env' g' => rw [q3] at p3; exact fun σ' H' m' gr' r' => ⟨env', g', m', r', g3.trans gr', SPost.mono gr' p3⟩
          | bk env' g' => rw [q3] at p3; exact p3
          | rt d g' => rw [q3] at p3; exact p3
          | rtO d g' => rw [q3] at p3; exact p3
          | exc x env' g' => rw [q3] at p3; exact p3
          | stuck => rw [q3] at p3; exact p3
      · have e : i = ds.length := by omega
        subst e
        rw [List.drop_length] at p
        exact .inl ⟨y2, p σ H m (.refl m H) r⟩
theorem PS.or {st : Stmt} {t t' : TS} (h : PS X st t) (h' : PS X st t') : PS X st (fun D σ H => t D σ H ∨ t' D σ H) := ⟨fun pins s σ H D I q => q.elim (h.run pins s σ H D I) (h'.run pins s σ H D I)⟩
theorem PE.or {e : Expr} {t t' : TE} (h : PE X e t) (h' : PE X e t') : PE X e (fun σ H Q => t σ H Q ∨ t' σ H Q) := ⟨fun pins s σ H Q I q => q.elim (h.run pins s σ H Q I) (h'.run pins s σ H Q I)⟩
/-- locked, or locked now -/
theorem s_lock {st : Stmt} {i : Nat} {f : Sd} (h : PS X st (TSvL S W i f)) (hd : ∀ env g, f env g = .stuck ∨ ∃ ks vs, env[i]? = some (.sh (.dic 0 ks vs))) : Ps X S W st (sNoX f) :=
  PS.to (PS.or h (ps_lock h)) fun E σ H ⟨env, g, m, r, p⟩ => by
    rcases hd env g with e | ⟨ks, vs, e⟩
    · simp only [sNoX, e] at p
      exact p.elim
    · obtain ⟨a, kvs, h1, h2, fr, _⟩ := slot_dic r e
      rcases h2 with h2 | ⟨u, k', e', h2⟩
      · refine .inr ⟨a, _, h2, trivial, fun od => ⟨env, g, m, r.sim (sim_lock h2) fr, ⟨a, od, kvs, h1, upd_same⟩, ?_⟩⟩
        have kp : ∀ {m' : Mv} {H' : Hp}, GrowS m (upd H a (.frz od (.dK kvs))) m' H' → H' a = some (.frz od (.dK kvs)) ∧ m'.fr a := fun q => ⟨q.keep a _ upd_same fr.1, fr_grow q fr (by rw [upd_same]; simp)⟩
        have back : ∀ b, upd H a (.frz od (.dK kvs)) b = none → H b = none := fun b e => by
          by_cases hb : b = a
          · subst hb; rw [upd_same] at e; cases e
          · rwa [upd_ne hb] at e
        unfold sNoX at p
        cases q : f env g with
        | nx e' g' => rw [q] at p; exact fun σ' H' m' gr r' => ⟨(kp gr).1, p σ' _ m' (gr.unlock h2) (r'.sim (sim_unlock (kp gr).1) (kp gr).2)⟩
        | ct e' g' => rw [q] at p; exact fun σ' H' m' gr r' => ⟨(kp gr).1, p σ' _ m' (gr.unlock h2) (r'.sim (sim_unlock (kp gr).1) (kp gr).2)⟩
        | bk e' g' => rw [q] at p; exact fun σ' H' m' gr r' => ⟨(kp gr).1, p σ' _ m' (gr.unlock h2) (r'.sim (sim_unlock (kp gr).1) (kp gr).2)⟩
        | rt d g' => rw [q] at p; exact fun v H' m' gr ok rr => ⟨(kp gr).1, p v _ m' (gr.unlock h2) (ok.sim (sim_unlock (kp gr).1) (kp gr).2) (rr.sim (sim_unlock (kp gr).1))⟩
        | rtO d g' => rw [q] at p; exact fun b H' m' gr ok hw hm ro => ⟨(kp gr).1, p b _ m' (gr.unlock h2) (ok.sim (sim_unlock (kp gr).1) (kp gr).2) hw hm (ro.sim (sim_unlock (kp gr).1) fun z => (kp gr).2.1 (z ▸ hw))⟩
        | exc x e' g' => rw [q] at p; exact p.elim
        | stuck => rw [q] at p; exact p.elim
      · cases e'
        refine .inl ⟨env, g, m, r, ⟨a, u, kvs, h1, h2⟩, ?_⟩
        unfold sNoX at p
        cases q : f env g with
        | exc x e' g' => rw [q] at p; exact p.elim
        | _ => rw [q] at p; exact p
theorem s_forD {tg iter : Expr} {i : Nat} {ws : List Nat} {b : List Stmt} {t : Tg} {body : Sd} {pos : Pos} (hp : PassesOwn (model X.prog X.w) X.A X.env X.xe) (hc : X.calm = true) (hi : PE X iter (tVar i)) (hg : Pg X S ws tg t) (hb : Pss X S W b body)
    (hs : ∀ x, foldedSetIterable iter X.env x = pure x := by intro _; rfl) : Ps X S W (.For tg iter b [] pos) (sNoX (sFor (eKeys i) t body)) :=
  s_lock (s_forL hp hc hi hg hb hs) fun env g => by
    cases q : eKeys i env g with
    | stuck => exact .inl (by simp only [sFor, thenS, q])
    | exc x g' => exact (eKeys_exc q).elim
    | ok ds g' =>
      obtain ⟨_, vs, e⟩ := eKeys_ok q
      exact .inr ⟨ds, vs, e⟩
/-! [e for x in d] -/
theorem lcL_read {i : Nat} {tg : Tg} {t : En Bool} {e : E1} {vs ws : List Nat} {σ : St} {H : Hp} {Q : VK} (hw : ∀ i ∈ ws, i ∈ vs) (h : ∃ env g m, Rel S H σ env g m ∧ Lk σ i H ∧ Post S (RF S) W σ H (eLc (eKeys i) tg t e vs env g) m H Q) : tLc (TIvL S W i (eKeys i)) (TGv S ws tg) (Tv S RQ W0 t) (Tv S (RT S) W0 e) vs σ H Q := by
  obtain ⟨env, g, m, r, lk, p⟩ := h
  refine ⟨env, g, m, r, lk, ?_⟩
  unfold eLc at p
  cases q : eKeys i env g with
  | stuck => rw [q] at p; exact p.elim
  | exc x g' => exact (eKeys_exc q).elim
  | ok ds g1 =>
    rw [q] at p
    simp only [Res.bind] at p
    intro J H1 m1 gr ok yl Da hDa
    have r1 := r.grow gr ok
    cases qc : compL tg t e (wipeE env vs) ds g1 with
    | none => rw [qc] at p; exact p.elim
    | some yg =>
      obtain ⟨ys, g2⟩ := yg
      rw [qc] at p
      dsimp only at p
      split at p
      · rename_i hbig
        exact lc_loop hw hDa (newO_wipe (r1.newO hDa) r1.len vs) (newO_wipe (r1.newO hDa) r1.len vs) (comp_start r1 hDa vs) (yl.later ((grow_own hDa).s ok.muW)) qc (by simpa using hbig) fun Hc mc cc _ => p _ Hc mc (gr.trans cc.grow) cc.rel.mem ⟨Da, rfl, cc.dw, cc.dm, gr.liv Da hDa, cc.root⟩
      · exact p.elim
/-- an expression, locked or locked now -/
theorem e_lock {R : Hp → Mv → Hp → D → V → Prop} {e : Expr} {i : Nat} {f : E1} (hR : ∀ {H0 H0' : Hp} {m : Mv} {H H2 : Hp} {a : Addr} {od : Obj} {kvs : List (Key × V)} {d : D} {v : V}, Sim H H2 a od kvs → m.fr a → (∀ z, H0 z = none → H0' z = none) → R H0 m H d v → R H0' m H2 d v)
    (h : PE X e (fun σ H Q => ∃ env g m, Rel S H σ env g m ∧ Lk σ i H ∧ Post S R W σ H (f env g) m H Q)) (hd : ∀ env g, f env g = .stuck ∨ ∃ ks vs, env[i]? = some (.sh (.dic 0 ks vs))) (hx : ∀ env g x g', f env g ≠ .exc x g') : PE X e (Tv S R W f) :=
  PE.to (PE.or h (pe_lock h)) fun σ H Q ⟨env, g, m, r, p⟩ => by
    rcases hd env g with e | ⟨ks, vs, e⟩
    · rw [e] at p
      exact p.elim
    · obtain ⟨a, kvs, h1, h2, fr, _⟩ := slot_dic r e
      rcases h2 with h2 | ⟨u, k', e', h2⟩
      · refine .inr ⟨a, _, h2, trivial, fun od => ⟨env, g, m, r.sim (sim_lock h2) fr, ⟨a, od, kvs, h1, upd_same⟩, ?_⟩⟩
        have back : ∀ b, upd H a (.frz od (.dK kvs)) b = none → H b = none := fun b e => by
          by_cases hb : b = a
          · subst hb; rw [upd_same] at e; cases e
          · rwa [upd_ne hb] at e
        have ham : a ∉ m.mu := fun z => fr.1 (r.mem.muW a z)
        cases q : f env g with
        | ok d g' =>
          rw [q] at p
          intro v H' m' gr ok rr
          have k1 : H' a = some (.frz od (.dK kvs)) := gr.keep a _ upd_same ham
          have k2 : m'.fr a := ⟨fun z => (gr.wn a z).elim fr.1 fun z => (by rw [upd_same] at z; cases z), fun z => fr.2 (gr.b ▸ z)⟩
          exact ⟨k1, p v _ m' (gr.unlock h2 ham) (ok.sim (sim_unlock k1) k2) (hR (sim_unlock k1) k2 back rr)⟩
        | exc x g' => exact (hx _ _ _ _ q).elim
        | stuck => rw [q] at p; exact p.elim
      · cases e'
        exact .inl ⟨env, g, m, r, ⟨a, u, kvs, h1, h2⟩, p⟩
theorem rf_sim {H0 H0' : Hp} {m : Mv} {H H2 : Hp} {a : Addr} {od : Obj} {kvs : List (Key × V)} {d : D} {v : V} (s : Sim H H2 a od kvs) (fr : m.fr a) (hb : ∀ z, H0 z = none → H0' z = none) (h : RF S H0 m H d v) : RF S H0' m H2 d v := by
  obtain ⟨b, e, hw, hm, hn, ro⟩ := h
  exact ⟨b, e, hw, hm, hb b hn, ro.sim s fun z => fr.1 (z ▸ hw)⟩
theorem rt_sim {H0 H0' : Hp} {m : Mv} {H H2 : Hp} {a : Addr} {od : Obj} {kvs : List (Key × V)} {d : D} {v : V} (s : Sim H H2 a od kvs) (fr : m.fr a) (hb : ∀ z, H0 z = none → H0' z = none) (h : RT S H0 m H d v) : RT S H0' m H2 d v := Rr.sim s h
theorem eLc_keys {i : Nat} {tg : Tg} {t : En Bool} {e : E1} {vs : List Nat} (env : Env) (g : Sto) : (eLc (eKeys i) tg t e vs env g = .stuck ∨ ∃ ks ws, env[i]? = some (.sh (.dic 0 ks ws))) ∧ ∀ x g', eLc (eKeys i) tg t e vs env g ≠ .exc x g' := by
  unfold eLc
  cases q : eKeys i env g with
  | stuck => exact ⟨.inl rfl, fun _ _ => nofun⟩
  | exc x g' => exact (eKeys_exc q).elim
  | ok ds g' =>
    obtain ⟨_, vs, e⟩ := eKeys_ok q
    refine ⟨.inr ⟨ds, vs, e⟩, fun x g' => ?_⟩
    simp only [Res.bind]
    split
    · split <;> exact nofun
    · exact nofun
theorem f_lcD {elt tg iter : Expr} {i : Nat} {ifs : List Expr} {scope : Scope} {own : List (Str × Nat)} {ws : List Nat} {pos : Pos} {t : Tg} {tt : En Bool} {e : E1} (hc : X.calm = true) (hN : X.N.Nodup) (hi : PE X iter (tVar i)) (ok : BlkOk X.N X.env.scope scope own)
    (hg : ∀ (s : Shared) (H : Hp) (C : Addr) (cl : List (Str × Addr)) (fp : List Addr), Pg (X.blk s H scope (compEnvC scope cl C X.env) fp) S ws tg t) (ht : ∀ (s : Shared) (H : Hp) (C : Addr) (cl : List (Str × Addr)) (fp : List Addr), Pts (X.blk s H scope (compEnvC scope cl C X.env) fp) S W0 ifs tt)
    (he : ∀ (s : Shared) (H : Hp) (C : Addr) (cl : List (Str × Addr)) (fp : List Addr), Pe (X.blk s H scope (compEnvC scope cl C X.env) fp) S W0 elt e) (hw : ∀ i ∈ ws, i ∈ own.map (·.2)) (hs : ∀ x, foldedSetIterable iter X.env x = pure x := by intro _; rfl) :
    Pf X S W (.ListComp elt [⟨tg, iter, ifs, 0⟩] scope pos) (eLc (eKeys i) t tt e (own.map (·.2))) :=
  e_lock (i := i) rf_sim (PE.to (pe_lc hc hN (i_keysL (S := S) (W := W) hi) ok hg ht he hs) fun σ H Q h => lcL_read hw h) (fun env g => (eLc_keys env g).1) (fun env g => (eLc_keys env g).2)
end
/-! plain -/
@[simp] theorem So_noX {f : Sd} {env : Env} {g : Sto} {P : Pst} : So (sNoX f env g) P ↔ So (f env g) P := by
  unfold sNoX
  cases f env g <;> exact Iff.rfl
def vKeys (o : Option Slot) (g : Sto) : Res (List D) := match o with
  | some (.sh (.dic 0 ks _)) => .ok ks g
  | _ => .stuck
@[simp] theorem eKeys_v {i : Nat} {env : Env} {g : Sto} : eKeys i env g = vKeys env[i]? g := rfl
@[simp] theorem vKeys_d {ks vs : List D} {g : Sto} : vKeys (some (.sh (.dic 0 ks vs))) g = .ok ks g := rfl
end Ev
namespace Ev
open PySem PySem.Spec PyProof.Rows L2
section
variable {X : Cx} {S : Stat} {W : WX}
/-! ### dict(pairs) -/
def prsD : List D → Option (List (D × D))
  | [] => some []
  | .tup [k, v] :: r => if isKey k = true then (match prsD r with
    | some ps => some ((k, v) :: ps)
    | none => none) else none
  | _ :: _ => none
theorem prsD_ok {m : Mv} {H : Hp} : ∀ {xs : List D} {ps : List (D × D)} {vs : List V}, prsD xs = some ps → Rl S m H xs vs →
    ∃ (as : List Addr) (kvs : List (Key × V)), vs = as.map V.ref ∧ Paired (fun p kv => SqT S.K H p [kV kv.1, kv.2]) as kvs ∧ ps.map (·.1) = (kvs.map (·.1)).map kD ∧ Rl S m H (ps.map (·.2)) (kvs.map (·.2))
  | [], ps, vs, h, r => by
    cases r
    cases h
    exact ⟨[], [], rfl, .nil, rfl, .nil⟩
  | d :: xs, ps, vs, h, r => by
    cases r with
    | @cons _ v _ vs' r1 r2 =>
      unfold prsD at h
      split at h
      · cases ‹d :: xs = []›
      · rename_i k x r' e
        cases e
        split at h
        · rename_i hk
          split at h
          · rename_i ps' e2
            cases h
            obtain ⟨as, kvs, rfl, hp, e3, rl⟩ := prsD_ok e2 r2
            obtain ⟨a, ws, rfl, hs, rw⟩ := r1.tup_inv
            obtain ⟨kk, ek⟩ := Option.isSome_iff_exists.mp hk
            cases rw with
            | cons q1 t1 =>
              cases t1 with
              | cons q2 t2 =>
                cases t2
                have e4 := keyD_rel ek q1
                subst e4
                exact ⟨a :: as, (kk, _) :: kvs, rfl, .cons hs hp, by rw [List.map_cons, e3]; simp only [List.map_cons]; rw [keyD_kD ek], .cons q2 rl⟩
          · cases h
        · cases h
      · cases h
theorem zip_maps {α β : Type} : ∀ l : List (α × β), (l.map (·.1)).zip (l.map (·.2)) = l
  | [] => rfl
  | (a, b) :: l => by simp only [List.map_cons, List.zip_cons_cons, zip_maps l]
def sDict : D → Sto → Res D
  | .lst xs, g => (match prsD xs with
    | some ps => .ok (.dic 0 (dmerge [] [] ps).1 (dmerge [] [] ps).2) g
    | none => .stuck)
  | .dic 0 ks vs, g => .ok (.dic 0 ks vs) g
  | _, _ => .stuck
theorem f_dict {e : Expr} {f : E1} {p pos : Pos} (hK : S.K = X.K) (hc : X.calm = true) (hg : Gl X "dict") (hm : X.mg "dict" = none) (he : Pb X S W e f) (hst : starEach [e] X.env = (false, eval e X.env) :: starEach [] X.env := by rfl) : Pf X S W (.Call (.Name "dict" p) [e] [] pos) (eU (dr1 sDict) f) :=
  callT1 (CallR.or (call_dictP hc) call_dictD) hg hm (by decide +kernel) (fun σ H0 m g H a x Q ok fz ra q => by
    cases a with
    | lst xs =>
      simp only [sDict] at q
      cases e1 : prsD xs with
      | none => rw [e1] at q; exact q.elim
      | some ps =>
        rw [e1] at q
        obtain ⟨l, vs, rfl, h1, r1⟩ := ra.lst
        obtain ⟨as, kvs, rfl, hp, e3, rl⟩ := prsD_ok e1 r1
        refine .inl ⟨l, as, kvs, rfl, hK ▸ h1, hK ▸ hp, fun p hp => ?_⟩
        obtain ⟨q1, q2⟩ := dmerge_val (kvs := []) (ds := []) e3 rl .nil
        rw [zip_maps] at q1 q2
        have gr : Grow m H (m.own p) (upd H p (.dK (mergeK [] kvs))) := grow_own hp
        exact q _ _ (m.own p) gr (ok.own hp trivial) ⟨p, rfl, List.mem_cons_self, fun z => (ok.free hp).1 (ok.muW p z), fz p hp, .dic upd_same (.inl ⟨rfl, _, rfl, q1, rfl⟩) (Rl.grow ok (gr.s ok.muW) q2)⟩
    | dic t ks vs =>
      match t, q, ra with
      | 0, q, ra =>
        obtain ⟨a, o, ws, rfl, h1, h2, rl⟩ := ra.dic
        rcases h2 with ⟨_, kvs, rfl, rfl, rfl⟩ | ⟨e0, _⟩
        · refine .inr ⟨a, kvs, rfl, h1.rd, fun p hp => ?_⟩
          have gr : Grow m H (m.own p) (upd H p (.dK kvs)) := grow_own hp
          exact q _ _ (m.own p) gr (ok.own hp trivial) ⟨p, rfl, List.mem_cons_self, fun z => (ok.free hp).1 (ok.muW p z), fz p hp, .dic upd_same (.inl ⟨rfl, _, rfl, rfl, rfl⟩) (Rl.grow ok (gr.s ok.muW) rl)⟩
        · cases e0
      | n + 1, q, ra => exact q.elim
    | _ => exact q.elim) he (by decide) (by decide) hst
/-! ### {k: v for x in ..} -/
def dcL (tg : Tg) (t : En Bool) (ek ev : E1) (env : Env) : List D → List D → List D → Sto → Option (List D × List D × Sto)
  | [], ks, vs, g => some (ks, vs, g)
  | d :: ds, ks, vs, g => match tg d env with
    | none => none
    | some env1 => match t env1 g with
      | .ok true g1 => (match ek env1 g1 with
        | .ok k g2 => (match ev env1 g2 with
          | .ok v g3 => if kindK 0 k = true ∧ ks.length < big then dcL tg t ek ev env ds (dputK ks k) (dputV ks vs k v) g3 else none
          | _ => none)
        | _ => none)
      | .ok false g1 => dcL tg t ek ev env ds ks vs g1
      | _ => none
def eDc (it : En (List D)) (tg : Tg) (t : En Bool) (ek ev : E1) (vs : List Nat) : E1 := fun env g => (it env g).bind fun ds g1 => match dcL tg t ek ev (wipeE env vs) ds [] [] g1 with
  | some (ks, ws, g2) => .ok (.dic 0 ks ws) g2
  | none => .stuck
structure CompOkD (S : Stat) (σ : St) (env : Env) (m1 : Mv) (H1 : Hp) (Da : Addr) (ks vs : List D) (Hc : Hp) (gc : Sto) (mc : Mv) : Prop where
  rel : Rel S Hc σ env gc mc
  grow : Grow m1 H1 mc Hc
  dw : Da ∈ mc.W
  dm : Da ∉ mc.mu
  root : Root S mc Hc Da (.dic 0 ks vs)
theorem CompOkD.step {σ : St} {env : Env} {m1 mc m' : Mv} {H1 Hc H' : Hp} {Da : Addr} {ks vs : List D} {gc g' : Sto} (c : CompOkD S σ env m1 H1 Da ks vs Hc gc mc) (q : Grow mc Hc m' H') (ok : MOk S H' g' m') : CompOkD S σ env m1 H1 Da ks vs H' g' m' := by
  have ne : Hc Da ≠ none := by
    cases c.root with
    | dic e _ _ => rw [e]; simp
  refine ⟨c.rel.grow q ok, c.grow.trans q, q.wk _ c.dw, fun z => ?_, c.root.grow c.rel.mem (q.s c.rel.mem.muW) fun o e => q.keep Da o e c.dm⟩
  rcases q.mun Da z with z | z
  · exact c.dm z
  · exact ne z
theorem kind0 {m : Mv} {H : Hp} {k : D} {y : V} (hk : kindK 0 k = true) (hy : Rr S m H k y) : ∃ kk : Key, k = kD kk ∧ y = kV kk := by
  cases k with
  | int i => exact ⟨.inl i, rfl, hy.int_inv⟩
  | str z => exact ⟨.inr z, rfl, hy.str_inv⟩
  | _ => simp [kindK] at hk
theorem CompOkD.add {σ : St} {env : Env} {m1 mc : Mv} {H1 Hc : Hp} {Da : Addr} {ks vs : List D} {gc : Sto} {kk : Key} {yd : D} {yv : V} (c : CompOkD S σ env m1 H1 Da ks vs Hc gc mc) (hD : H1 Da = none) (hn : NoSlot σ env Da) (r : Rr S mc Hc yd yv) :
    ∃ kvs, Hc Da = some (.dK kvs) ∧ kvs.length = ks.length ∧ CompOkD S σ env m1 H1 Da (dputK ks (kD kk)) (dputV ks vs (kD kk) yd) (upd Hc Da (.dK (putK kvs kk yv))) gc mc ∧ GrowS mc Hc mc (upd Hc Da (.dK (putK kvs kk yv))) := by
  cases c.root with
  | @dic _ o _ ws _ e d rl =>
    rcases d with ⟨_, kvs, rfl, rfl, rfl⟩ | ⟨e0, _⟩
    · have q : GrowS mc Hc mc (upd Hc Da (.dK (putK kvs kk yv))) := grow_put c.dw
      refine ⟨kvs, e, by simp, ⟨c.rel.put2 c.dw c.dm hn trivial, ⟨fun a o ha hm => ?_, fun a ha => ?_, c.grow.mu, c.grow.mun, c.grow.wk, c.grow.wn, c.grow.b⟩, c.dw, c.dm, .dic upd_same (.inl ⟨rfl, _, rfl, (dputK_val kD sameK_kD kk yv kvs).symm, rfl⟩) (dputV_val kD sameK_kD kk (Rr.grow c.rel.mem q r) (Rl.grow c.rel.mem q rl))⟩, q⟩
      · rw [upd_ne (ne_of_none ha hD)]; exact c.grow.keep a o ha hm
      · by_cases hx : a = Da
        · subst hx; exact hD
        · rw [upd_ne hx] at ha; exact c.grow.liv a ha
    · cases e0
theorem dc_read {it : En (List D)} {tg : Tg} {t : En Bool} {ek ev : E1} {vs ws : List Nat} {σ : St} {H : Hp} {Q : VK} (hw : ∀ i ∈ ws, i ∈ vs) (h : Tv S (RF S) W (eDc it tg t ek ev vs) σ H Q) : tDc (TIv S W it) (TGv S ws tg) (Tv S RQ W0 t) (Tv S (RT S) W0 ek) (Tv S (RT S) W0 ev) vs σ H Q := by
  obtain ⟨env, g, m, r, p⟩ := h
  refine ⟨env, g, m, r, ?_⟩
  unfold eDc at p
  cases q : it env g with
  | stuck => rw [q] at p; exact p.elim
  | exc x g' => rw [q] at p; exact p
  | ok ds g1 =>
    rw [q] at p
    simp only [Res.bind] at p
    intro J H1 m1 gr ok yl Da hDa
    have r1 := r.grow gr ok
    cases qc : dcL tg t ek ev (wipeE env vs) ds [] [] g1 with
    | none => rw [qc] at p; exact p.elim
    | some yg =>
      obtain ⟨ksF, vsF, gE⟩ := yg
      rw [qc] at p
      dsimp only at p
      have hn := newO_wipe (r1.newO hDa) r1.len vs
      have c0 : CompOkD S (L2.wipe σ vs) (wipeE env vs) m1 H1 Da [] [] (upd H1 Da (.dK [])) g1 (m1.own Da) :=
        ⟨(r1.wipe vs).grow (grow_own hDa) (r1.mem.own hDa trivial), grow_own hDa, List.mem_cons_self, fun z => (r1.mem.free hDa).1 (r1.mem.muW Da z), .dic upd_same (.inl ⟨rfl, [], rfl, rfl, rfl⟩) .nil⟩
      have yl0 := yl.later ((grow_own (o := .dK []) hDa).s ok.muW)
      let Inv0 : Nat → Hp → Prop := fun i Hc => ∃ gc mc ks' vs', CompOkD S (L2.wipe σ vs) (wipeE env vs) m1 H1 Da ks' vs' Hc gc mc ∧ GrowS (m1.own Da) (upd H1 Da (.dK [])) mc Hc ∧ dcL tg t ek ev (wipeE env vs) (ds.drop i) ks' vs' gc = some (ksF, vsF, gE)
      refine ⟨fun i k Hc => k = ds.length - i ∧ i ≤ ds.length ∧ Inv0 i Hc, ⟨ds.length, by simp, Nat.zero_le _, g1, m1.own Da, [], [], c0, .refl _ _, by simpa using qc⟩, ?_⟩
      rintro i k Hc ⟨rfl, hi, gc, mc, ks', vs', cc, gsc, ec⟩
      obtain ⟨y1, y2⟩ := yl0 mc Hc gc gsc cc.rel.mem
      by_cases hlt : i < ds.length
      · have hd : ds[i]? = some ds[i] := by simp [hlt]
        obtain ⟨go, yd⟩ := y1 i _ hd
        have ed : ds.drop i = ds[i] :: ds.drop (i + 1) := List.drop_eq_getElem_cons hlt
        rw [ed] at ec
        simp only [dcL] at ec
        refine .inr ⟨go, Inv0 (i + 1), fun H' h => ⟨ds.length - (i + 1), by omega, rfl, hlt, h⟩, fun x H' hy => ?_⟩
        obtain ⟨gr2, ok2, rx⟩ := yd x H' hy
        have c2 := cc.step gr2 ok2
        have s2 := gsc.trans (gr2.s cc.rel.mem.muW)
        refine ⟨_, gc, mc, ds[i], c2.rel, rx, ?_⟩
        cases qt : tg ds[i] (wipeE env vs) with
        | none => rw [qt] at ec; cases ec
        | some env1 =>
          rw [qt] at ec
          dsimp only at ec
          intro σ2 r3 b3
          refine ⟨wipe_but b3 hw, env1, gc, mc, r3, ?_⟩
          cases qb : t env1 gc with
          | stuck => rw [qb] at ec; cases ec
          | exc x g' => rw [qb] at ec; cases ec
          | ok b gb =>
            rw [qb] at ec
            intro b' H3 m3 gr3 ok3 eb
            have eb : b = b' := eb
            subst eb
            have r4 := r3.grow gr3 ok3
            have c3 := c2.step gr3 ok3
            have s3 := s2.trans (gr3.s c2.rel.mem.muW)
            cases b with
            | false => exact ⟨gb, m3, ks', vs', c3, s3, ec⟩
            | true =>
              dsimp only at ec
              refine ⟨env1, gb, m3, r4, ?_⟩
              cases qe : ek env1 gb with
              | stuck => rw [qe] at ec; cases ec
              | exc x g' => rw [qe] at ec; cases ec
              | ok kd gk =>
                rw [qe] at ec
                dsimp only at ec
                intro kv H5 m5 gr5 ok5 rk
                have c5 := c3.step gr5 ok5
                have s5 := s3.trans (gr5.s c3.rel.mem.muW)
                have r5 := r4.grow gr5 ok5
                refine ⟨env1, gk, m5, r5, ?_⟩
                cases qv : ev env1 gk with
                | stuck => rw [qv] at ec; cases ec
                | exc x g' => rw [qv] at ec; cases ec
                | ok vd gv =>
                  rw [qv] at ec
                  dsimp only at ec
                  intro vv H6 m6 gr6 ok6 rv
                  have c6 := c5.step gr6 ok6
                  have s6 := s5.trans (gr6.s c5.rel.mem.muW)
                  split at ec
                  · rename_i hkc
                    obtain ⟨kk, rfl, rfl⟩ := kind0 hkc.1 rk
                    obtain ⟨kvs, e1, e2, c7, s7⟩ := c6.add (kk := kk) hDa hn rv
                    exact ⟨kvs, kk, rfl, e1, by rw [e2]; exact big_lt hkc.2, gv, m6, _, _, c7, s6.trans s7, ec⟩
                  · cases ec
      · have ei : i = ds.length := by omega
        subst ei
        rw [List.drop_length] at ec
        simp only [dcL, Option.some.injEq, Prod.mk.injEq] at ec
        obtain ⟨e1, e2, e3⟩ := ec
        subst e1 e2 e3
        exact .inl ⟨y2, p _ Hc mc (gr.trans cc.grow) cc.rel.mem ⟨Da, rfl, cc.dw, cc.dm, gr.liv Da hDa, cc.root⟩⟩
theorem f_dc {kx vx tg iter : Expr} {ifs : List Expr} {scope : Scope} {own : List (Str × Nat)} {ws : List Nat} {pos : Pos} {it : En (List D)} {t : Tg} {tt : En Bool} {ek ev : E1} (hc : X.calm = true) (hN : X.N.Nodup) (hi : Pi X S W tg iter it) (ok : BlkOk X.N X.env.scope scope own)
    (hg : ∀ (s : Shared) (H : Hp) (C : Addr) (cl : List (Str × Addr)) (fp : List Addr), Pg (X.blk s H scope (compEnvC scope cl C X.env) fp) S ws tg t) (ht : ∀ (s : Shared) (H : Hp) (C : Addr) (cl : List (Str × Addr)) (fp : List Addr), Pts (X.blk s H scope (compEnvC scope cl C X.env) fp) S W0 ifs tt)
    (hk : ∀ (s : Shared) (H : Hp) (C : Addr) (cl : List (Str × Addr)) (fp : List Addr), Pe (X.blk s H scope (compEnvC scope cl C X.env) fp) S W0 kx ek)
    (he : ∀ (s : Shared) (H : Hp) (C : Addr) (cl : List (Str × Addr)) (fp : List Addr), Pe (X.blk s H scope (compEnvC scope cl C X.env) fp) S W0 vx ev) (hw : ∀ i ∈ ws, i ∈ own.map (·.2)) (hs : ∀ x, foldedSetIterable iter X.env x = pure x := by intro _; rfl) :
    Pf X S W (.DictComp kx vx [⟨tg, iter, ifs, 0⟩] scope pos) (eDc it t tt ek ev (own.map (·.2))) :=
  PE.to (pe_dc hc hN hi ok hg ht hk he hs) fun σ H Q h => dc_read hw h
end
/-! plain -/
theorem Ok_eDc {it : En (List D)} {tg : Tg} {t : En Bool} {ek ev : E1} {vs : List Nat} {env : Env} {g : Sto} {P : D → Sto → Prop} : Ok (eDc it tg t ek ev vs env g) P ↔ Ok (it env g) fun ds g1 => ∃ ks ws g2, dcL tg t ek ev (wipeE env vs) ds [] [] g1 = some (ks, ws, g2) ∧ P (.dic 0 ks ws) g2 := by
  simp only [eDc, Ok_bind]
  constructor
  · intro h
    refine h.mono fun ds g1 h => ?_
    split at h
    · rename_i ks ws g2 q
      exact ⟨ks, ws, g2, q, h⟩
    · exact h.elim
  · intro h
    refine h.mono fun ds g1 ⟨ks, ws, g2, q, h⟩ => ?_
    rw [q]
    exact h
end Ev
namespace Ev
open PySem PySem.Spec PyProof.Rows L2
section
variable {X : Cx}
/-! ### {e for x in ..}, ints and texts -/
def tSc1 (P : Program) (w : World) (wi : TI) (g : TG) (tt : TT) (te : TE) (vs : List Nat) : TE := fun σ H Q => wi σ H fun J H1 => ∀ D, H1 D = none → ∃ W : Nat → Nat → Hp → Prop, (∃ m, W 0 m (upd H1 D (SetMO P w D []))) ∧ ∀ i m H, W i m H →
  (J.stop i H ∧ Q (.ref D) H) ∨ (J.go i H ∧ ∃ Nx : Hp → Prop, (∀ H', Nx H' → ∃ m', m' < m ∧ W (i + 1) m' H') ∧ ∀ x H', J.yld i H x H' → g x (L2.wipe σ vs) H' fun σ2 H2 => L2.wipe σ2 vs = L2.wipe σ vs ∧ tt σ2 H2 fun b H3 =>
    if b = true then te σ2 H3 fun y H4 => ∃ kx ks, y = kV kx ∧ H4 D = some (SetMO P w D ks) ∧ ks.length + 1 < scanBound ∧ Nx (upd H4 D (SetMO P w D (insK kx ks))) else Nx H3)
theorem sc1_core {pins : List (Addr × Obj)} {s : Shared} {σ : L2.St} {H : Hp} {Q : VK} {elt tg iter : Expr} {fs0 : List Expr} {scope : Scope} {own : List (PySem.Str × Nat)} {pos : Pos} {wi : TI} {g : TG} {tt : TT} {te : TE} {pos' : Pos} {use : Option (Value → Sem Unit)} {Qf : Value → Shared → Prop}
    (hc : X.calm = true) (hN : X.N.Nodup) (hi : PI X tg iter wi) (ok : BlkOk X.N X.env.scope scope own)
    (hg : ∀ (s : Shared) (H : Hp) (C : Addr) (cl : List (PySem.Str × Addr)) (fp : List Addr), PG (X.blk s H scope (compEnvC scope cl C X.env) fp) tg g) (ht : ∀ (s : Shared) (H : Hp) (C : Addr) (cl : List (PySem.Str × Addr)) (fp : List Addr), PTs (X.blk s H scope (compEnvC scope cl C X.env) fp) fs0 tt) (he : ∀ (s : Shared) (H : Hp) (C : Addr) (cl : List (PySem.Str × Addr)) (fp : List Addr), PE (X.blk s H scope (compEnvC scope cl C X.env) fp) elt te)
    (hs : ∀ x, foldedSetIterable iter X.env x = pure x) (I : Inv X pins σ H s) (h : tSc1 X.prog X.w wi g tt te (own.map (·.2)) σ H Q)
    (hRR : ∀ D C s' m H', Inv X pins σ H' s' → Q (.ref D) H' → s'.heap.Ns C m → FpOk X pins H' C → compPost (model X.prog X.w) X.A X.xe use Qf (.ref D) C (.ok .next) s') :
    wpAny (model X.prog X.w) X.A (comprehension (.SetComp elt [⟨tg, iter, fs0, 0⟩] scope pos) scope X.env pos' (newSet (.type "set")) false (eval iter X.env) use) Qf X.xe s := by
  have hfree : ∀ y ∈ scope.names, y.2 = .free → ∃ c, X.env.cells.lookup y.1 = some c := fun y hy e => (ok.free y hy e).elim (fun k => I.ok.has _ (.inl k)) fun k => I.ok.has _ (.inr k)
  refine wpAny_comprehension_free (use := use) rfl hs (closure_ok hfree) ok.kind (fun y hy e => by rw [ok.uniq y hy, e]) (thn (hi.run pins s σ H _ I h) fun xv s1 hx => thn hx fun itv s2 h2 => ?_)
  obtain ⟨it, fp, tn, J, H2, e, I2, T, st2, f2, q⟩ := h2
  subst e
  refine PpSet.newSet_ok (newEnv_comp ?_)
  generalize hD : s2.heap.objs.size = D
  have hDn : H2 D = none := I2.hok.fresh (Nat.le_of_eq hD)
  obtain ⟨W, ⟨m0, w0⟩, turn⟩ := q D hDn
  generalize hs3 : ({ s2 with heap := s2.heap.push { cls := .type "set", dict := none, data := .set #[] 0 (.fresh 0 0 (!X.w.params.followText "set-order")) } } : Shared) = s3
  have h3 : s3.heap = s2.heap.push { cls := .type "set", dict := none, data := .set #[] 0 (.fresh 0 0 (!X.w.params.followText "set-order")) } := by rw [← hs3]
  have new : SetM X.prog X.w s3.heap D [] := by rw [h3, ← hD]; exact setM_fresh X.w
  have I3 : Inv X pins σ (upd H2 D (SetMO X.prog X.w D [])) s3 := by
    have z := I2.laid (t' := s2.toks) (h' := s3.heap) (fun b o e => by rw [h3]; exact Heap.get?_push_of_some _ e) (Nat.le_of_eq hD) (setMO_new (H := upd H2 D (SetMO X.prog X.w D [])) new)
    rw [← hs3] at z ⊢
    exact z
  have lt2 : ∀ b ∈ fp, b < s2.heap.objs.size := fun b hb => let ⟨o, e, _⟩ := T.obj _ _ st2 b hb; Heap.lt_size e
  have f3 : ∀ b ∈ fp, FpOk X pins (upd H2 D (SetMO X.prog X.w D [])) b ∧ b < s3.heap.objs.size := fun b hb => by
    refine ⟨⟨?_, (f2 b hb).2⟩, by rw [h3, Heap.size_push]; exact Nat.lt_succ_of_lt (lt2 b hb)⟩
    rw [upd_ne (by rw [← hD]; exact Nat.ne_of_lt (lt2 b hb))]
    exact (f2 b hb).1
  have st3 : tn 0 s3.heap := T.keep _ _ _ st2 fun b _ o e => by rw [h3]; exact Heap.get?_push_of_some _ e
  have I4 := block_start I3 ok hN f3
  let cl := cellsFrom (s3.heap.objs.size + 1) scope.names (cloFrom X.env.cells scope.names [])
  have pg := hg s3 (upd H2 D (SetMO X.prog X.w D [])) s3.heap.objs.size cl fp
  have pt := ht s3 (upd H2 D (SetMO X.prog X.w D [])) s3.heap.objs.size cl fp
  have pe := he s3 (upd H2 D (SetMO X.prog X.w D [])) s3.heap.objs.size cl fp
  show codeAny _ _ (.compStart (.SetComp elt [⟨tg, iter, fs0, 0⟩] scope pos) 0 (.ref it) (.ref D) (compEnvC scope cl s3.heap.objs.size X.env)) (compPost (model X.prog X.w) X.A X.xe use Qf (.ref D) s3.heap.objs.size) { s3 with heap := pushCells (s3.heap.push { cls := .type "dict", data := .dict #[] }) scope.names }
  have nfp : ∀ b ∈ fp, (upd H2 D (SetMO X.prog X.w D [])) b = none := fun b hb => (f3 b hb).1.1
  generalize hce : compEnvC scope cl s3.heap.objs.size X.env = ce at I4 pg pt pe ⊢
  have cL : ce.locals = s3.heap.objs.size := by subst hce; rfl
  generalize hH3 : upd H2 D (SetMO X.prog X.w D []) = H3 at I3 I4 pg pt pe w0 nfp f3
  generalize hs4 : ({ s3 with heap := pushCells (s3.heap.push { cls := .type "dict", data := .dict #[] }) scope.names } : Shared) = s4 at I4 ⊢
  have st4 : tn 0 s4.heap := T.keep _ _ _ st3 fun b _ o e => by rw [← hs4]; exact pushCells_keeps _ _ _ _ (Heap.get?_push_of_some _ e)
  let B := X.blk s3 H3 scope ce fp
  let σ0 := L2.wipe σ (own.map (·.2))
  have stat : ∀ {σ' : L2.St} {H' : Hp} {s' : Shared}, Inv B [] σ' H' s' → (∀ b ∈ fp, H' b = none) → ∀ b ∈ fp, FpOk B [] H' b := fun {σ' H' s'} I' hn b hb =>
    ⟨hn b hb, (I'.ok.exf b hb).1, I'.ok.exfs b hb, .inl hb, fun x c e => (I'.ok.exf b hb).2 x c e, fun p hp => absurd (show p ∈ ([] : List (Addr × Obj)) ++ [] from hp) (by simp)⟩
  let Inv0 : Nat → Shared → Prop := fun n s' => ∃ i H', Inv B [] σ0 H' s' ∧ tn i s'.heap ∧ (∀ b ∈ fp, H' b = none) ∧ W i n H'
  have loop : codeAny (model X.prog X.w) X.A (.compLoop (.SetComp elt [⟨tg, iter, fs0, 0⟩] scope pos) 0 (.ref it) (.ref D) ce) (compPost (model X.prog X.w) X.A X.xe use Qf (.ref D) s3.heap.objs.size) s4 := by
    refine PpSet.compLoopS_any Inv0 ?_ m0 ⟨0, H3, I4, st4, nfp, w0⟩
    rintro n s5 ⟨i, H5, I5, st5, n5, w5⟩
    rcases turn i n H5 w5 with ⟨stop, qq⟩ | ⟨go, Nx, hNx, step⟩
    · refine thnF (T.done B rfl rfl rfl hc i [] s5 _ H5 (fun _ _ => False) I5 (stat I5 n5) st5 stop) fun r s6 ⟨hr, I6⟩ => ?_
      subst hr
      have I7 : Inv X pins σ H5 s6 := I3.call' (ch := fp) I6.os I6.base I6.hok I6.bare fun b hb => ⟨(f3 b hb).1.2.2.2.1, (f3 b hb).1.2.1, (f3 b hb).1.2.2.2.2.1, (f3 b hb).1.2.2.2.2.2⟩
      have nC : H5 s3.heap.objs.size = none := by
        have z : H5 ce.locals = none := I6.free
        rwa [cL] at z
      obtain ⟨m, hn, _⟩ := I6.loc
      have hn : s6.heap.Ns ce.locals m := hn
      rw [cL] at hn
      exact hRR D s3.heap.objs.size s6 m H5 I7 qq hn (I3.fpOk (Nat.le_refl _) nC)
    · refine thnF (T.item B rfl rfl rfl hc i [] s5 _ H5 (fun _ _ => False) I5 (stat I5 n5) st5 go) fun r s6 ⟨u, hr, h6⟩ => ?_
      subst hr
      refine thnF h6 fun _ s7 ⟨x, H7, I7, r7, y7, st7, n7⟩ => ?_
      have P7 := I7.pinned (stat I7 n7) (T.obj _ _ st7)
      refine thnF (pg.run _ s7 _ H7 x u _ P7 r7 (step x H7 y7)) fun _ s8 ⟨σ8, H8, I8, hw8, q8⟩ => thnF (pt.run _ s8 σ8 H8 _ I8 q8) fun b s9 ⟨H9, I9, q9⟩ => ?_
      have hl8 : σ0.length = σ8.length := by
        show (L2.wipe σ (own.map (·.2))).length = _
        rw [← hw8, wipe_length]
      have fin : ∀ {s' : Shared} {H' : Hp}, Inv B ([] ++ pinsAt fp s7.heap) σ8 H' s' → Nx H' → ∃ m, m < n ∧ Inv0 m s' := fun {s' H'} I' nx => by
        obtain ⟨m', hm, w'⟩ := hNx H' nx
        have pin' : ∀ b ∈ fp, ∀ o, s7.heap.get? b = some o → s'.heap.get? b = some o ∧ H' b = none := fun b hb o e =>
          let z := I'.pin (b, o) (List.mem_append_right _ (List.mem_append_right _ (mem_pinsAt hb e)))
          ⟨z.1, z.2.1⟩
        refine ⟨m', hm, i + 1, H', (I'.unpinned (pins := [])).weak hl8 (fun j v e => ?_), T.keep _ _ _ st7 fun b hb o e => (pin' b hb o e).1, fun b hb => let ⟨o, e, _⟩ := T.obj _ _ st7 b hb; (pin' b hb o e).2, w'⟩
        have e : (L2.wipe σ (own.map (·.2)))[j]? = some (some v) := e
        rw [← hw8] at e
        exact (wipe_some e).1
      cases b with
      | false =>
        simp only [Bool.false_eq_true, if_false] at q9 ⊢
        exact fin I9 q9
      | true =>
        simp only [if_true] at q9 ⊢
        refine thnF (pe.run _ s9 σ8 H9 _ I9 q9) fun z s17 ⟨yv, H17, I17, r17, kx, ks, ey, hD17, hz17, nx⟩ => ?_
        subst ey
        exact addM_ok (X := B) I17 hD17 r17 hz17 fun s18 I18 => fin I18 nx
  exact PpSet.codeAny_compStart_set loop (T.self X.A 0 _ _ _ st4 loop)
theorem pe_sc1 {elt tg iter : Expr} {fs0 : List Expr} {scope : Scope} {own : List (PySem.Str × Nat)} {pos : Pos} {wi : TI} {g : TG} {tt : TT} {te : TE}
    (hc : X.calm = true) (hN : X.N.Nodup) (hi : PI X tg iter wi) (ok : BlkOk X.N X.env.scope scope own)
    (hg : ∀ (s : Shared) (H : Hp) (C : Addr) (cl : List (PySem.Str × Addr)) (fp : List Addr), PG (X.blk s H scope (compEnvC scope cl C X.env) fp) tg g) (ht : ∀ (s : Shared) (H : Hp) (C : Addr) (cl : List (PySem.Str × Addr)) (fp : List Addr), PTs (X.blk s H scope (compEnvC scope cl C X.env) fp) fs0 tt) (he : ∀ (s : Shared) (H : Hp) (C : Addr) (cl : List (PySem.Str × Addr)) (fp : List Addr), PE (X.blk s H scope (compEnvC scope cl C X.env) fp) elt te) (hs : ∀ x, foldedSetIterable iter X.env x = pure x := by intro _; rfl) :
    PE X (.SetComp elt [⟨tg, iter, fs0, 0⟩] scope pos) (tSc1 X.prog X.w wi g tt te (own.map (·.2))) := by
  refine ⟨fun pins s σ H Q I h => ?_⟩
  rw [PpSet.eval_SetComp]
  refine sc1_core hc hN hi ok hg ht he hs I h fun D C s' m H' I' q hn f => ⟨m, hn, fun h'' sb => ?_⟩
  obtain ⟨f0, f1, f2, f3, f4, f5⟩ := f
  exact ⟨.ref D, H', I'.turned (t' := s'.toks) (fun b o hb e => (sb.2 b hb).trans e) f0 f1 f3 f4 f5, rfl, q⟩
end
section
variable {X : Cx} {S : Stat} {W : WX}
/-- len({e for x in it}) -/
def sLenK (ys : List D) (g : Sto) : Res D := if ys.length < 64 ∧ ys.all isKey = true then .ok (.int (dedK ys).length) g else .stuck
def eLenSc (it : En (List D)) (tg : Tg) (t : En Bool) (e : E1) (vs : List Nat) : E1 := fun env g => (it env g).bind fun ds g1 => match compL tg t e (wipeE env vs) ds g1 with
  | some (ys, g2) => sLenK ys g2
  | none => .stuck
theorem sc1L_read {P : Program} {w : World} {i : Nat} {tg : Tg} {t : En Bool} {e : E1} {vs ws : List Nat} {σ : St} {H : Hp} {Q : VK} (hw : ∀ i ∈ ws, i ∈ vs) (h : ∃ env g m, Rel S H σ env g m ∧ Lk σ i H ∧ Post S (RT S) W σ H (eLenSc (eKeys i) tg t e vs env g) m H Q) :
    tSc1 P w (TIvL S W i (eKeys i)) (TGv S ws tg) (Tv S RQ W0 t) (Tv S (RT S) W0 e) vs σ H (fun v H' => rLenM P w [v] H' Q) := by
  obtain ⟨env, g, m, r, lk, p⟩ := h
  refine ⟨env, g, m, r, lk, ?_⟩
  unfold eLenSc at p
  cases q : eKeys i env g with
  | stuck => rw [q] at p; exact p.elim
  | exc x g' => exact (eKeys_exc q).elim
  | ok ds g1 =>
    rw [q] at p
    simp only [Res.bind] at p
    intro J H1 m1 gr ok yl Da hDa
    have r1 := r.grow gr ok
    cases qc : compL tg t e (wipeE env vs) ds g1 with
    | none => rw [qc] at p; exact p.elim
    | some yg =>
      obtain ⟨ys, g2⟩ := yg
      rw [qc] at p
      dsimp only [sLenK] at p
      split at p
      · rename_i hb
        have no2 := newO_wipe (r1.newO hDa) r1.len vs
        exact lcS_loop hw hDa no2 no2 (compS_start (P := P) (w := w) r1 hDa vs) (yl.later ((grow_own (o := SetMO P w Da []) hDa).s ok.muW)) qc (by simpa using hb.1) (by simpa using hb.2) fun Hc mc cc _ => ⟨Da, dedK ([] ++ ys), rfl, cc.root, by
          rw [List.nil_append]
          exact p _ Hc mc (gr.trans cc.grow) cc.rel.mem (.int _)⟩
      · exact p.elim
theorem eLenSc_keys {i : Nat} {tg : Tg} {t : En Bool} {e : E1} {vs : List Nat} (env : Env) (g : Sto) : (eLenSc (eKeys i) tg t e vs env g = .stuck ∨ ∃ ks ws, env[i]? = some (.sh (.dic 0 ks ws))) ∧ ∀ x g', eLenSc (eKeys i) tg t e vs env g ≠ .exc x g' := by
  unfold eLenSc
  cases q : eKeys i env g with
  | stuck => exact ⟨.inl rfl, fun _ _ => nofun⟩
  | exc x g' => exact (eKeys_exc q).elim
  | ok ds g' =>
    obtain ⟨_, vs, e⟩ := eKeys_ok q
    refine ⟨.inr ⟨ds, vs, e⟩, fun x g' => ?_⟩
    simp only [Res.bind, sLenK]
    split
    · split <;> exact nofun
    · exact nofun
theorem e_lenScD {elt tg iter : Expr} {i : Nat} {ifs : List Expr} {scope : Scope} {own : List (Str × Nat)} {ws : List Nat} {p pos pos2 : Pos} {t : Tg} {tt : En Bool} {e : E1} (hg0 : Gl X "len") (hm0 : X.mg "len" = none) (hc : X.calm = true) (hN : X.N.Nodup) (hi : PE X iter (tVar i)) (ok : BlkOk X.N X.env.scope scope own)
    (hg : ∀ (s : Shared) (H : Hp) (C : Addr) (cl : List (Str × Addr)) (fp : List Addr), Pg (X.blk s H scope (compEnvC scope cl C X.env) fp) S ws tg t) (ht : ∀ (s : Shared) (H : Hp) (C : Addr) (cl : List (Str × Addr)) (fp : List Addr), Pts (X.blk s H scope (compEnvC scope cl C X.env) fp) S W0 ifs tt)
    (he : ∀ (s : Shared) (H : Hp) (C : Addr) (cl : List (Str × Addr)) (fp : List Addr), Pe (X.blk s H scope (compEnvC scope cl C X.env) fp) S W0 elt e) (hw : ∀ i ∈ ws, i ∈ own.map (·.2)) (hs : ∀ x, foldedSetIterable iter X.env x = pure x := by intro _; rfl) :
    Pe X S W (.Call (.Name "len" p) [.SetComp elt [⟨tg, iter, ifs, 0⟩] scope pos2] [] pos) (eLenSc (eKeys i) t tt e (own.map (·.2))) :=
  e_lock (i := i) rt_sim (PE.to (pe_callB cr_lenM hg0 hm0 PySem.boot_len (pa_cons (pe_sc1 hc hN (i_keysL (S := S) (W := W) hi) ok hg ht he hs) pa_nil)) fun σ H Q h => sc1L_read hw h) (fun env g => (eLenSc_keys env g).1) (fun env g => (eLenSc_keys env g).2)
/-! ### x[k] = e, x an own dict -/
def putDO (i : Nat) (v k : D) (env : Env) (g : Sto) : SRes := match env[i]? with
  | some (.ow (.dic t ks vs)) => if kindK t k = true ∧ ks.length < big then .nx (env.set i (.ow (.dic t (dputK ks k) (dputV ks vs k v)))) g else .stuck
  | _ => .stuck
def sPutDO (i : Nat) (fe fk : E1) : Sd := thenS fe fun v env g => match env[i]? with
  | some (.ow _) => thenS fk (fun k env g => putDO i v k env g) env g
  | _ => .stuck
theorem s_putDO {i : Nat} {e o k : Expr} {fe fk : E1} {p1 pos : Pos} (hu : X.A.units + 64 < cLine) (he : Pe X S W e fe) (ho : PE X o (tVar i)) (hi : Pe X S W k fk)
    (ha : ∀ v, assign (.Subscript o k p1) X.env v = (do
      let ov ← holding [v] (eval o X.env)
      let iv ← holding [v, ov] (eval k X.env)
      standAt p1
      holding [v, ov, iv] (setItem ov iv v)
      release [v, ov, iv] []) := by intro _; rfl)
    (hsw : swapsWithSole [.Subscript o k p1] e pos.line X.env = pure false := by rfl) (hw : swappedStores [.Subscript o k p1] e X.env = pure none := by rfl)
    (h1 : (assignEach [.Subscript o k p1] X.env).map (·.2) = [assign (.Subscript o k p1) X.env] := by rfl) : Ps X S W (.Assign [.Subscript o k p1] e pos) (sPutDO i fe fk) :=
  PS.to (ps_asg he (pg_sub ho hi (set_dict (by omega)) ha) hsw hw h1) fun E σ H h => Tv.st (R := RT S) h fun env g0 g m0 m H1 v x r0 gr r1 ra p => by
    cases q : env[i]? with
    | none => rw [q] at p; exact p.elim
    | some s =>
      rw [q] at p
      cases s with
      | no => exact p.elim
      | sh d => exact p.elim
      | ow d =>
        obtain ⟨ov, e1, a, rfl, hw1, hm1, ro⟩ := r1.at q
        refine ⟨.ref a, e1, Tv.st1 (R := RT S) r1 p fun g' m' H2 kd z gr' r1' rk p' => ?_⟩
        unfold putDO at p'
        rw [q] at p'
        have rv := Rr.grow r1.mem (gr'.s r1.mem.muW) ra
        obtain ⟨ov', e1', a', ea, hw2, hm2, ro2⟩ := r1'.at q
        rw [e1] at e1'
        cases e1'
        cases ea
        cases ro2 with
        | @dic t o ks vs ds hH hd rl =>
          dsimp only at p'
          split at p'
          · rename_i hc
            obtain ⟨o', vs', hp, hd', rl', hmu⟩ := dput_ok hH hd rl hc.1 (.inl rk) rv hc.2
            have qg : GrowS m' H2 m' (upd H2 a o') := grow_put hw2
            exact ⟨a, _, rfl, hp, p' _ _ m' qg (r1'.put q e1 hmu (.dic upd_same hd' (rl'.grow r1'.mem qg)))⟩
          · exact p'.elim
        | _ => exact p'.elim
/-! ### a list times an int -/
def sMulL : D → D → Sto → Res D
  | .lst xs, .int k, g => if 0 ≤ k ∧ k ≤ 1000 ∧ xs.length ≤ 1000 then .ok (.lst (List.replicate k.toNat xs).flatten) g else .stuck
  | _, _, _ => .stuck
theorem Rl.rep {m : Mv} {H : Hp} {ds : List D} {vs : List V} (r : Rl S m H ds vs) : ∀ n : Nat, Rl S m H (List.replicate n ds).flatten (List.replicate n vs).flatten
  | 0 => .nil
  | n + 1 => by
    rw [List.replicate_succ, List.replicate_succ, List.flatten_cons, List.flatten_cons]
    exact r.append (Rl.rep r n)
theorem Rv.lstH {m : Mv} {H : Hp} {ds : List D} {v : V} (h : Rv S m H (.lst ds) v) : ∃ a vs, v = .ref a ∧ H a = some (.lst vs) ∧ Rl S m H ds vs := by
  rcases h with h | ⟨a, rfl, h⟩
  · cases h with
    | lst h _ r => exact ⟨_, _, rfl, h, r⟩
  · cases h with
    | lst h r => exact ⟨_, _, rfl, h, r⟩
theorem f_mulL {a b : Expr} {fa fb : E1} {pos : Pos} (ha : Pb X S W a fa) (hb : Pb X S W b fb) : Pf X S W (.BinOp a .Mult b pos) (eB sMulL fa fb) :=
  e_op op_rep (fun σ H0 m g H a b x y Q ok fz ra rb p => by
    cases a with
    | lst xs =>
      cases b with
      | int k =>
        have e := rb.int
        subst e
        simp only [sMulL] at p
        split at p
        · rename_i c
          obtain ⟨l, vs, rfl, h1, r1⟩ := ra.lstH
          have h2 : vs.length * k.toNat ≤ 1000 * 1000 := Nat.mul_le_mul (by rw [← r1.length]; exact c.2.2) (by omega)
          exact ⟨l, k, vs, rfl, rfl, h1, by omega, by omega, Nat.le_trans h2 (by decide), fun p' hp => p.ownL ok (r1.rep k.toNat) hp fz⟩
        · exact p.elim
      | _ => exact p.elim
    | _ => exact p.elim) ha hb
/-! ### repr of plain values -/
def sRepr0 : D → Sto → Res D
  | .bl b, g => .ok (.str (if b then "True" else "False")) g
  | .int i, g => if i.natAbs < 10 ^ 18 then .ok (.str (toString i)) g else .stuck
  | _, _ => .stuck
theorem call_repr_b : CallR X (.builtin "repr") (fun xs H Q => ∃ b, xs = [.bl b] ∧ Q (.str (if b then "True" else "False")) H) := by
  intro pins s σ H xs us Q I r h
  obtain ⟨b, rfl, q⟩ := h
  obtain ⟨u, rfl, rfl⟩ := vals1 r
  cases b with
  | true => exact PySem.P.repr_of_bool ⟨.str "True", H, I.tok _, ⟨s.toks, rfl⟩, q⟩
  | false => exact PySem.P.repr_of_bool ⟨.str "False", H, I.tok _, ⟨s.toks, rfl⟩, q⟩
theorem e_repr0 {e : Expr} {f : E1} {p pos : Pos} (hg : Gl X "repr") (hm : X.mg "repr" = none) (he : Pb X S W e f) (hst : starEach [e] X.env = (false, eval e X.env) :: starEach [] X.env := by rfl) : Pe X S W (.Call (.Name "repr" p) [e] [] pos) (eU (dr1 sRepr0) f) :=
  call1 (CallR.or call_repr_b SkE.call_repr_int) hg hm (by decide +kernel) (fun σ H0 m g H a x Q ok fz ra q => by
    cases a with
    | bl b => exact .inl ⟨b, by rw [ra.bl], q.now ok (.str _)⟩
    | int i =>
      simp only [sRepr0] at q
      split at q
      · rename_i c
        exact .inr ⟨i, by rw [ra.int], log_small c, q.now ok (.str _)⟩
      · exact q.elim
    | _ => exact q.elim) he (by decide) (by decide) hst
end
/-! plain -/
theorem Ok_eLenSc {it : En (List D)} {tg : Tg} {t : En Bool} {e : E1} {vs : List Nat} {env : Env} {g : Sto} {P : D → Sto → Prop} : Ok (eLenSc it tg t e vs env g) P ↔ Ok (it env g) fun ds g1 => ∃ ys g2, compL tg t e (wipeE env vs) ds g1 = some (ys, g2) ∧ Ok (sLenK ys g2) P := by
  simp only [eLenSc, Ok_bind]
  constructor
  · intro h
    refine h.mono fun ds g1 h => ?_
    split at h
    · rename_i ys g2 q
      exact ⟨ys, g2, q, h⟩
    · exact h.elim
  · intro h
    refine h.mono fun ds g1 ⟨ys, g2, q, h⟩ => ?_
    rw [q]
    exact h
end Ev
namespace Ev
open PySem PySem.Spec PyProof.Rows L2
/-! Plain tools. -/
def vChain (p q : Int → Int → Bool) (a b : D) (r : Sto → Res D) (g : Sto) : Res D := match a, b with
  | .int i, .int j => if p i j = true then (r g).bind fun c g3 => (match c with
    | .int k => .ok (.bl (q j k)) g3
    | _ => .stuck) else .ok (.bl false) g
  | _, _ => .stuck
@[simp] theorem Ok_eChain {p q : Int → Int → Bool} {fa fb fc : E1} {env : Env} {g : Sto} {P : D → Sto → Prop} : Ok (eChain p q fa fb fc env g) P ↔ Ok (fa env g) fun a g1 => Ok (fb env g1) fun b g2 => Ok (vChain p q a b (fc env) g2) P := Ok_bind.trans (Ok_iff fun _ _ => Ok_bind.trans (Ok_iff fun _ _ => Iff.rfl))
def asIk : D → (Int → Res D) → Res D
  | .int k, f => f k
  | _, _ => .stuck
@[simp] theorem Ok_vChain {p q : Int → Int → Bool} {i j : Int} {r : Sto → Res D} {g : Sto} {P : D → Sto → Prop} : Ok (vChain p q (.int i) (.int j) r g) P ↔ if p i j = true then Ok (r g) fun c g3 => Ok (asIk c fun k => .ok (.bl (q j k)) g3) P else P (.bl false) g := by
  unfold vChain
  simp only
  split
  · rw [Ok_bind]
    exact Ok_iff fun c g => by cases c <;> exact Iff.rfl
  · exact Iff.rfl
@[simp] theorem Ok_asIk {k : Int} {f : Int → Res D} {P : D → Sto → Prop} : Ok (asIk (.int k) f) P ↔ Ok (f k) P := Iff.rfl
@[simp] theorem sCmp_i {p : Int → Int → Bool} {i j : Int} {g : Sto} : sCmp p (.int i) (.int j) g = .ok (.bl (p i j)) g := rfl
theorem dhas_str (zs : List Str) (z : Str) : dhas (zs.map .str) (.str z) = decide (z ∈ zs) := by
  unfold dhas
  rw [List.any_map]
  induction zs with
  | nil => rfl
  | cons a zs ih =>
    rw [List.any_cons, ih]
    simp only [Function.comp, sameK, same1]
    by_cases h : a = z
    · simp [h]
    · have h' : ¬ z = a := fun e => h e.symm
      simp [h, h']
theorem dput_new {zs : List Str} {vs : List D} {z : Str} {d : D} (h : z ∉ zs) : dputK (zs.map .str) (.str z) = (zs ++ [z]).map .str ∧ dputV (zs.map .str) vs (.str z) d = vs ++ [d] := by
  unfold dputK dputV
  rw [dhas_str]
  simp [h]
/-- a dict comprehension over different texts -/
theorem dc_map {tg : Tg} {t : En Bool} {ek ev : E1} {env : Env} {g : Sto} (f : Str → D) : ∀ (zs ks : List Str) (vs : List D), zs.Nodup → (∀ z ∈ zs, z ∉ ks) → ks.length + zs.length < big → (∀ z ∈ zs, ∃ env1, tg (.str z) env = some env1 ∧ t env1 g = .ok true g ∧ ek env1 g = .ok (.str z) g ∧ ev env1 g = .ok (f z) g) →
    dcL tg t ek ev env (zs.map .str) (ks.map .str) vs g = some ((ks ++ zs).map .str, vs ++ zs.map f, g)
  | [], ks, vs, _, _, _, _ => by simp [dcL]
  | z :: zs, ks, vs, hn, hk, hl, h => by
    obtain ⟨env1, e1, e2, e3, e4⟩ := h z List.mem_cons_self
    have hn' := List.nodup_cons.mp hn
    obtain ⟨p1, p2⟩ := dput_new (vs := vs) (d := f z) (hk z List.mem_cons_self)
    simp only [List.length_cons] at hl
    simp only [List.map_cons, dcL, e1, e2, e3, e4]
    rw [if_pos ⟨rfl, by simp; omega⟩, p1, p2, dc_map f zs (ks ++ [z]) (vs ++ [f z]) hn'.2 (fun y hy hm => ?_) (by simp; omega) fun y hy => h y (List.mem_cons_of_mem _ hy)]
    · simp
    · rcases List.mem_append.mp hm with hm | hm
      · exact hk y (List.mem_cons_of_mem _ hy) hm
      · rw [List.mem_singleton.mp hm] at hy
        exact hn'.1 hy
theorem dedK_same {α : Type} (i : Int) : ∀ l : List α, (dedK (l.map fun _ => D.int i)).length ≤ 1 := fun l => by
  have step : ∀ (l : List α) (acc : List Key), acc = [] ∨ acc = [.inl i] → (((l.map fun _ => D.int i).filterMap keyD).foldl (fun ks k => insK k ks) acc) = [] ∨ (((l.map fun _ => D.int i).filterMap keyD).foldl (fun ks k => insK k ks) acc) = [.inl i] := fun l => by
    induction l with
    | nil => intro acc h; exact h
    | cons a l ih =>
      intro acc h
      have e : ((a :: l).map fun _ => D.int i).filterMap keyD = Sum.inl i :: (l.map fun _ => D.int i).filterMap keyD := rfl
      rw [e, List.foldl_cons]
      refine ih _ (.inr ?_)
      rcases h with rfl | rfl
      · exact insK_out (by simp)
      · exact insK_in (by simp)
  unfold dedK
  rcases step l [] (.inl rfl) with h | h <;> rw [h] <;> simp
theorem all_keys_i {α : Type} (i : Int) (l : List α) : (l.map fun _ => D.int i).all isKey = true := by
  rw [List.all_map]
  exact List.all_eq_true.mpr fun _ _ => rfl
/-- a target's slot, others -/
theorem get_set_self {env : Env} {i : Nat} {s : Slot} (h : i < env.length) : (env.set i s)[i]? = some s := List.getElem?_set_self h
theorem get_set_ne {env : Env} {i j : Nat} {s : Slot} (h : i ≠ j) : (env.set i s)[j]? = env[j]? := List.getElem?_set_ne h
theorem atI_nat {α : Type} {xs : List α} {i : Nat} {x : α} (h : xs[i]? = some x) : L2.atI xs (i : Int) = some x := by
  have hi := (List.getElem?_eq_some_iff.mp h).1
  have hi' : L2.ixN xs.length (i : Int) = some i := by simp [L2.ixN]; omega
  simp [L2.atI, hi', h]
theorem ix_lst {xs : List D} {i : Nat} {x : D} {g : Sto} (h : xs[i]? = some x) : sIxA (.lst xs) (.int (i : Nat)) g = .ok x g := by
  simp [sIxA, sIx, atI_nat h]
theorem ix_tup {xs : List D} {i : Nat} {x : D} {g : Sto} (h : xs[i]? = some x) : sIxA (.tup xs) (.int (i : Nat)) g = .ok x g := by
  simp [sIxA, sIx, atI_nat h]
@[simp] theorem ix_lst0 {xs : List D} {x : D} {g : Sto} : sIxA (.lst (x :: xs)) (.int 0) g = .ok x g := ix_lst (i := 0) rfl
@[simp] theorem ix_tup0 {xs : List D} {x : D} {g : Sto} : sIxA (.tup (x :: xs)) (.int 0) g = .ok x g := ix_tup (i := 0) rfl
@[simp] theorem ix_lst1 {xs : List D} {x y : D} {g : Sto} : sIxA (.lst (x :: y :: xs)) (.int 1) g = .ok y g := ix_lst (i := 1) rfl
@[simp] theorem ix_tup1 {xs : List D} {x y : D} {g : Sto} : sIxA (.tup (x :: y :: xs)) (.int 1) g = .ok y g := ix_tup (i := 1) rfl
end Ev
/-! list(zip(x, y)) of lists and tuples. -/
namespace Ev
open PySem PySem.Spec PyProof.Rows L2
section
variable {prog : Program} {w : World} {A : Around} {s : Shared} {E : Value → Shared → Prop} {z p q T c d : Addr} {fl : Bool} {oT : Obj} {fp1 fp2 : List Addr} {n1 n2 i : Nat} {P1 P2 : Nat → Value → Prop} {St1 St2 : Nat → Heap → Prop} {Q : Option Value → Shared → Prop}
/-- the zip's next pair while an elder pair is out -/
theorem zx_item (ap : ZipSep2 z p q c d fp1 fp2) (D1 : PySem.Draws prog w A.in1 c fp1 n1 P1 St1) (D2 : PySem.Draws prog w A.in1 d fp2 n2 P2 St2) (kz : IsZipHeld s.heap z p q T fl) (kT : s.heap.get? T = some oT) (kp : IsPair s.heap p (.ref c) (.ref d)) (s1 : St1 i s.heap) (s2 : St2 i s.heap) (h1 : i < n1) (h2 : i < n2)
    (fin : ∀ u v h' tk, P1 i u → P2 i v → IsZipHeld h' z p q T true → St1 (i + 1) h' → St2 (i + 1) h' → IsPair h' s.heap.objs.size u v → h'.objs.size = s.heap.objs.size + 1 →
      (∀ b o, b ≠ z → b ≠ c → b ≠ d → s.heap.get? b = some o → h'.get? b = some o) → Q (some (.ref s.heap.objs.size)) { s with heap := h', toks := tk }) :
    wpAny (model prog w) A (pyNext (.ref z)) Q E s := by
  have ty : s.TypeIs (.ref z) "zip" := ⟨_, kz, rfl⟩
  unfold pyNext
  refine wpAny_bind (wpAny_attempt (wpAny_callSpecial?_slot (name := Str.ofString "__next__") ty F.slot_zip_next (wpAny_call_entry F.slot_zip_next ty F.entry_zip_next ?_ (F.args_zip_next_1 _))))
  show wpAny _ _ (field (.ref z) 2 >>= _) _ _ s
  refine wpAny_bind (wpAny_field kz rfl (x := .bool false) rfl ?_)
  show wpAny _ _ (field (.ref z) 3 >>= _) _ _ s
  refine wpAny_bind (wpAny_field kz rfl (x := .ref p) rfl (wpAny_bind (wpAny_seqItems kp rfl ?_)))
  show wpAny _ _ (Builtin.SmallTypes.ownedTupleIsFree (.ref z) >>= _) _ _ s
  refine wpAny_bind (wpAny_tupleHeld_zip kz kT fun g1 z1 b1 => ?_)
  simp only [Bool.false_eq_true, if_false]
  refine wpAny_bind ?_
  rw [← Array.forIn_toList]
  simp only [List.forIn_cons, List.forIn_nil]
  refine wpAny_bind (wpAny_bind (wpAny_holding ?_))
  show wpAny _ _ (Builtin.SmallTypes.nextOf (.ref c) >>= _) _ _ _
  refine wpAny_bind (D1.item i { s with heap := g1 } _ _ h1 (D1.over s1 b1 ap.zf1) fun u g2 t2 pu c2 b2 => wpAny_pure (wpAny_pure ?_))
  refine wpAny_bind (wpAny_bind (wpAny_holding ?_))
  show wpAny _ _ (Builtin.SmallTypes.nextOf (.ref d) >>= _) _ _ _
  refine wpAny_bind (D2.item i { s with heap := g2, toks := t2 } _ _ h2 (D2.over (D2.over s2 b1 ap.zf2) b2 ap.sep1_2) fun v g3 t3 pv d3 b3 => wpAny_pure (wpAny_pure (wpAny_pure ?_)))
  show wpAny _ _ (newTuple [u, v] >>= _) _ _ _
  refine wpAny_bind (wpAny_newTuple (wpAny_pure ⟨_, rfl, wpAny_pure ?_⟩))
  have sz : g3.objs.size = s.heap.objs.size := by rw [b3.1, b2.1, b1.1]
  have z3 : IsZipHeld g3 z p q T true := b3.extBut _ _ ap.zi2 (b2.extBut _ _ ap.zi1 z1)
  have kk : ∀ b o, b ≠ z → b ≠ c → b ≠ d → s.heap.get? b = some o → g3.get? b = some o := fun b o n1 n2 n3 e => b3.extBut _ _ n3 (b2.extBut _ _ n2 (b1.extBut _ _ n1 e))
  have c3 : St1 (i + 1) g3 := D1.over c2 b3 ap.sep2_1
  show Q (some (.ref g3.objs.size)) _
  have np : IsPair (g3.push { cls := .type "tuple", data := .seq #[u, v] }) g3.objs.size u v := Heap.get?_push_size _ rfl
  have ns : (g3.push { cls := .type "tuple", data := .seq #[u, v] }).objs.size = g3.objs.size + 1 := Heap.size_push ..
  rw [sz] at np ns ⊢
  exact fin u v _ _ pu pv (Heap.get?_push_of_some _ z3) (D1.frame _ _ _ c3 fun _ _ _ e => Heap.get?_push_of_some _ e) (D2.frame _ _ _ d3 fun _ _ _ e => Heap.get?_push_of_some _ e) np ns fun b o n1 n2 n3 e => Heap.get?_push_of_some _ (kk b o n1 n2 n3 e)
theorem zx_end (ap : ZipSep2 z p q c d fp1 fp2) (D1 : PySem.Draws prog w A.in1 c fp1 n1 P1 St1) (D2 : PySem.Draws prog w A.in1 d fp2 n2 P2 St2) (kz : IsZipHeld s.heap z p q T fl) (kT : s.heap.get? T = some oT) (kp : IsPair s.heap p (.ref c) (.ref d)) (s1 : St1 i s.heap) (s2 : St2 i s.heap) (h1 : i ≤ n1) (h2 : i ≤ n2) (no : i = n1 ∨ i = n2)
    (fin : ∀ h' tk, (∀ b o, b ≠ z → b ≠ c → b ≠ d → s.heap.get? b = some o → h'.get? b = some o) → Q none { s with heap := h', toks := tk }) :
    wpAny (model prog w) A (pyNext (.ref z)) Q E s := by
  have ty : s.TypeIs (.ref z) "zip" := ⟨_, kz, rfl⟩
  have last : ∀ h' tk e, (∀ b o, b ≠ z → b ≠ c → b ≠ d → s.heap.get? b = some o → h'.get? b = some o) → (∃ o, h'.get? e = some o ∧ o.cls = .type "StopIteration") → wpAny (model prog w) A (isInstance (.ref e) (.type "StopIteration") >>= fun b => if b = true then pure none else throw (.ref e)) Q E { s with heap := h', toks := tk } := fun h' tk e k1 ⟨o, k2, k3⟩ =>
    wpAny_bind (wpAny_isInstance (T := "StopIteration") (b := true) ⟨o, k2, k3⟩ isSubtype_stop (wpAny_pure (fin _ _ k1)))
  unfold pyNext
  refine wpAny_bind (wpAny_attempt (wpAny_callSpecial?_slot (name := Str.ofString "__next__") ty F.slot_zip_next (wpAny_call_entry F.slot_zip_next ty F.entry_zip_next ?_ (F.args_zip_next_1 _))))
  show wpAny _ _ (field (.ref z) 2 >>= _) _ _ s
  refine wpAny_bind (wpAny_field kz rfl (x := .bool false) rfl ?_)
  show wpAny _ _ (field (.ref z) 3 >>= _) _ _ s
  refine wpAny_bind (wpAny_field kz rfl (x := .ref p) rfl (wpAny_bind (wpAny_seqItems kp rfl ?_)))
  show wpAny _ _ (Builtin.SmallTypes.ownedTupleIsFree (.ref z) >>= _) _ _ s
  refine wpAny_bind (wpAny_tupleHeld_zip kz kT fun g1 z1 b1 => ?_)
  simp only [Bool.false_eq_true, if_false]
  refine wpAny_bind ?_
  rw [← Array.forIn_toList]
  simp only [List.forIn_cons, List.forIn_nil]
  refine wpAny_bind (wpAny_bind (wpAny_holding ?_))
  show wpAny _ _ (Builtin.SmallTypes.nextOf (.ref c) >>= _) _ _ _
  have s1' := D1.over s1 b1 ap.zf1
  by_cases hi : i = n1
  · subst hi
    exact wpAny_bind (D1.done { s with heap := g1 } _ _ s1' fun g2 e b2 he => last g2 _ e (fun b o n1 n2 _ y => b2 _ _ n2 (b1.extBut _ _ n1 y)) he)
  · have hj : i = n2 := no.elim (fun y => absurd y hi) id
    refine wpAny_bind (D1.item i { s with heap := g1 } _ _ (Nat.lt_of_le_of_ne h1 hi) s1' fun u g2 t2 pu c2 b2 => wpAny_pure (wpAny_pure ?_))
    refine wpAny_bind (wpAny_bind (wpAny_holding ?_))
    show wpAny _ _ (Builtin.SmallTypes.nextOf (.ref d) >>= _) _ _ _
    have s2' := D2.over (D2.over s2 b1 ap.zf2) b2 ap.sep1_2
    subst hj
    exact wpAny_bind (D2.done { s with heap := g2, toks := t2 } _ _ s2' fun g3 e b3 he => last g3 _ e (fun b o n1 n2 n3 y => b3 _ _ n3 (b2.extBut _ _ n2 (b1.extBut _ _ n1 y))) he)
/-- the zip: the next pair is the i-th -/
structure Zx (St1 St2 : Nat → Heap → Prop) (z p q c d S : Addr) (i : Nat) (h : Heap) : Prop where
  kp : IsPair h p (.ref c) (.ref d)
  kc : St1 i h
  kd : St2 i h
  out : (IsZip h z p q .none ∧ ∃ x y, IsPair h q x y) ∨ ∃ T f oT, IsZipHeld h z p q T f ∧ h.get? T = some oT ∧ T ≠ z ∧ T ≠ c ∧ T ≠ d ∧ T ≠ S
theorem Zx.stay {S : Addr} {h h' : Heap} (D1 : PySem.Draws prog w A.in1 c fp1 n1 P1 St1) (D2 : PySem.Draws prog w A.in1 d fp2 n2 P2 St2) (k : Zx St1 St2 z p q c d S i h) (n : z ≠ S ∧ p ≠ S ∧ q ≠ S) (n1 : S ∉ fp1) (n2 : S ∉ fp2) (e : ∀ b o, b ≠ S → h.get? b = some o → h'.get? b = some o) : Zx St1 St2 z p q c d S i h' := by
  obtain ⟨m1, m2, m3⟩ := n
  obtain ⟨x1, x2, x3, x6⟩ := k
  refine ⟨e _ _ m2 x1, D1.frame _ _ _ x2 fun b hb o => e b o fun y => n1 (y ▸ hb), D2.frame _ _ _ x3 fun b hb o => e b o fun y => n2 (y ▸ hb), ?_⟩
  rcases x6 with ⟨y1, x, y, y2⟩ | ⟨T, f, oT, y1, y2, y3, y4, y5, y6⟩
  · exact .inl ⟨e _ _ m1 y1, x, y, e _ _ m3 y2⟩
  · exact .inr ⟨T, f, oT, e _ _ m1 y1, e _ _ y6 y2, y3, y4, y5, y6⟩
theorem Zx.step {S : Addr} (ap : ZipSep2 z p q c d fp1 fp2) (D1 : PySem.Draws prog w A.in1 c fp1 n1 P1 St1) (D2 : PySem.Draws prog w A.in1 d fp2 n2 P2 St2) (k : Zx St1 St2 z p q c d S i s.heap) (kS : S < s.heap.objs.size) (h1 : i < n1) (h2 : i < n2)
    (fin : ∀ u v h' tk, P1 i u → P2 i v → Zx St1 St2 z p q c d S (i + 1) h' → IsPair h' s.heap.objs.size u v → h'.objs.size = s.heap.objs.size + 1 → (∀ b o, b ≠ z → b ≠ q → b ≠ c → b ≠ d → s.heap.get? b = some o → h'.get? b = some o) → Q (some (.ref s.heap.objs.size)) { s with heap := h', toks := tk }) :
    wpAny (model prog w) A (pyNext (.ref z)) Q E s := by
  obtain ⟨x1, x2, x3, x6⟩ := k
  obtain ⟨_, ec⟩ := D1.live _ _ x2
  obtain ⟨_, ed⟩ := D2.live _ _ x3
  have lc := Heap.lt_size ec
  have ld := Heap.lt_size ed
  rcases x6 with ⟨y1, x, y, y2⟩ | ⟨T, f, oT, y1, y2, y3, y4, y5, y6⟩
  · refine wpAny_pyNext_zipD2_item ap D1 D2 y1 x1 y2 x2 x3 h1 h2 fun u v h' tk pu pv a1 a2 a3 a4 a5 a6 a7 => fin u v h' tk pu pv ⟨a7 _ _ ap.TIz ap.TITO ap.TIi1 ap.TIi2 x1, a3, a4, .inr ⟨_, false, _, a1, a5, ?_, ?_, ?_, ?_⟩⟩ a5 a6 a7
    · exact Nat.ne_of_gt (Heap.lt_size y1)
    · exact Nat.ne_of_gt lc
    · exact Nat.ne_of_gt ld
    · exact Nat.ne_of_gt kS
  · exact zx_item ap D1 D2 y1 y2 x1 x2 x3 h1 h2 fun u v h' tk pu pv a1 a3 a4 a5 a6 a7 => fin u v h' tk pu pv ⟨a7 _ _ ap.TIz ap.TIi1 ap.TIi2 x1, a3, a4, .inr ⟨T, true, oT, a1, a7 _ _ y3 y4 y5 y2, y3, y4, y5, y6⟩⟩ a5 a6 fun b o n1 _ n3 n4 e => a7 b o n1 n3 n4 e
theorem Zx.halt {S : Addr} (ap : ZipSep2 z p q c d fp1 fp2) (D1 : PySem.Draws prog w A.in1 c fp1 n1 P1 St1) (D2 : PySem.Draws prog w A.in1 d fp2 n2 P2 St2) (k : Zx St1 St2 z p q c d S i s.heap) (h1 : i ≤ n1) (h2 : i ≤ n2) (no : i = n1 ∨ i = n2)
    (fin : ∀ h' tk, (∀ b o, b ≠ z → b ≠ q → b ≠ c → b ≠ d → s.heap.get? b = some o → h'.get? b = some o) → Q none { s with heap := h', toks := tk }) :
    wpAny (model prog w) A (pyNext (.ref z)) Q E s := by
  obtain ⟨x1, x2, x3, x6⟩ := k
  rcases x6 with ⟨y1, x, y, y2⟩ | ⟨T, f, oT, y1, y2, y3, y4, y5, y6⟩
  · exact wpAny_pyNext_zipD2_end ap D1 D2 y1 x1 y2 x2 x3 h1 h2 no fin
  · exact zx_end ap D1 D2 y1 y2 x1 x2 x3 h1 h2 no fun h' tk k => fin h' tk fun b o n1 _ n3 n4 e => k b o n1 n3 n4 e
theorem zx_loop {R : Result → Shared → Prop} {S : Addr} {us ws : Array Value} (ap : ZipSep2 z p q c d fp1 fp2) (D1 : PySem.Draws prog w A.in1.in1 c fp1 us.size (fun i v => us[i]? = some v) St1) (D2 : PySem.Draws prog w A.in1.in1 d fp2 ws.size (fun i v => ws[i]? = some v) St2) (f1 : ∀ b ∈ fp1, b < S) (f2 : ∀ b ∈ fp2, b < S) (ns : z < S ∧ p < S ∧ q < S ∧ c < S ∧ d < S) (fit : us.size ≤ sizeLine) (res : Value) {h0 : Heap}
    (old : ∀ b o, h0.get? b = some o → b < z ∧ b ≠ z ∧ b ≠ q ∧ b ≠ c ∧ b ≠ d)
    (fin : ∀ h' tk acc k ts, (∀ b o, h0.get? b = some o → h'.get? b = some o) → h'.get? S = some { cls := .type "list", dict := none, data := .seq acc k, slots := #[] } → ts.length = min us.size ws.size → Zg us ws S h' ts → acc.toList = ts.map Value.ref → R (.ok (.ret res)) { s with heap := h', toks := tk }) :
    ∀ (m i : Nat) (h : Heap) (tk k : Nat) (acc : Array Value) (ts : List Addr), min us.size ws.size - i = m → i ≤ min us.size ws.size → Zx St1 St2 z p q c d S i h → (∀ b o, h0.get? b = some o → h.get? b = some o) → h.get? S = some { cls := .type "list", dict := none, data := .seq acc k, slots := #[] } → acc.toList = ts.map Value.ref → ts.length = i → Zg us ws S h ts →
      codeAny (model prog w) A (.builtin "list.extend.loop" ⟨[.ref S, .ref z, res], []⟩) R { s with heap := h, toks := tk } := by
  intro m
  induction m with
  | zero =>
    intro i h tk k acc ts hm hi st kb kS ka kt g
    have ei : i = min us.size ws.size := by omega
    refine codeAny_builtin PySem.F.entry_extend_loop ?_
    rw [Around.under_plainId PySem.F.plain_extend_loop _]
    show wpAny _ A.in1 (pyNext (.ref z) >>= _) _ _ _
    refine wpAny_bind (Zx.halt (s := { s with heap := h, toks := tk }) (A := A.in1) ap D1 D2 st (by omega) (by omega) (by omega) fun h' tk kk => wpAny_pure (fin h' tk acc k ts (fun b o e => ?_) ?_ (by omega) ⟨g.rise, fun t ht => ?_, fun j t hj => ?_⟩ ka))
    · obtain ⟨_, n1, n2, n3, n4⟩ := old b o e
      exact kk b o n1 n2 n3 n4 (kb b o e)
    · exact kk S _ (Nat.ne_of_gt ns.1) (Nat.ne_of_gt ns.2.2.1) (Nat.ne_of_gt ns.2.2.2.1) (Nat.ne_of_gt ns.2.2.2.2) kS
    · obtain ⟨r1, _⟩ := g.room t ht
      obtain ⟨j, hj⟩ := List.mem_iff_getElem?.mp ht
      obtain ⟨_, _, _, _, pp⟩ := g.pair j t hj
      exact ⟨r1, Heap.lt_size (kk t _ (Nat.ne_of_gt (Nat.lt_trans ns.1 r1)) (Nat.ne_of_gt (Nat.lt_trans ns.2.2.1 r1)) (Nat.ne_of_gt (Nat.lt_trans ns.2.2.2.1 r1)) (Nat.ne_of_gt (Nat.lt_trans ns.2.2.2.2 r1)) pp)⟩
    · obtain ⟨u, v, e1, e2, pp⟩ := g.pair j t hj
      obtain ⟨r1, _⟩ := g.room t (List.mem_of_getElem? hj)
      exact ⟨u, v, e1, e2, kk t _ (Nat.ne_of_gt (Nat.lt_trans ns.1 r1)) (Nat.ne_of_gt (Nat.lt_trans ns.2.2.1 r1)) (Nat.ne_of_gt (Nat.lt_trans ns.2.2.2.1 r1)) (Nat.ne_of_gt (Nat.lt_trans ns.2.2.2.2 r1)) pp⟩
  | succ m ih =>
    intro i h tk k acc ts hm hi st kb kS ka kt g
    have il : i < min us.size ws.size := by omega
    have i1 : i < us.size := by omega
    have i2 : i < ws.size := by omega
    have as : acc.size = i := by rw [← Array.length_toList, ka, List.length_map, kt]
    have Sl : S < h.objs.size := Heap.lt_size kS
    refine codeAny_builtin PySem.F.entry_extend_loop ?_
    rw [Around.under_plainId PySem.F.plain_extend_loop _]
    show wpAny _ A.in1 (pyNext (.ref z) >>= _) _ _ _
    refine wpAny_bind (Zx.step (s := { s with heap := h, toks := tk }) (A := A.in1) ap D1 D2 st Sl i1 i2 fun u v h' tk pu pv st' np sz kk => ?_)
    dsimp only at np sz kk ⊢
    have kS' := kk S _ (Nat.ne_of_gt ns.1) (Nat.ne_of_gt ns.2.2.1) (Nat.ne_of_gt ns.2.2.2.1) (Nat.ne_of_gt ns.2.2.2.2) kS
    have up : ∀ b o, b ≠ S → h'.get? b = some o → (h'.update S (Obj.mapSeq (·.push (Value.ref h.objs.size)))).get? b = some o := fun b o hb e => (Heap.get?_update_other _ _ (Ne.symm hb)).trans e
    show wpAny _ A.in1 (updateSeq S (·.push (Value.ref h.objs.size)) >>= _) _ _ _
    refine wpAny_bind (wpAny_updateSeq kS' rfl (wpAny_pure ⟨plainId_quiet PySem.F.plain_extend_loop _, ih (i + 1) _ tk _ (acc.push (Value.ref h.objs.size)) (ts ++ [h.objs.size]) (by omega) il
      (st'.stay D1 D2 ⟨Nat.ne_of_lt ns.1, Nat.ne_of_lt ns.2.1, Nat.ne_of_lt ns.2.2.1⟩ (fun y => Nat.lt_irrefl _ (f1 _ y)) (fun y => Nat.lt_irrefl _ (f2 _ y)) up) (fun b o e => ?_) (Heap.get?_update_self _ kS' rfl)
      (by rw [Array.toList_push, ka, List.map_append]; rfl) (by rw [List.length_append, kt]; rfl) ⟨?_, fun t ht => ?_, fun j t hj => ?_⟩⟩) (by rw [as]; omega) (by show (acc.push _).size ≤ sizeLine + 1; rw [Array.size_push, as]; omega))
    · obtain ⟨n0, n1, n2, n3, n4⟩ := old b o e
      exact up b o (Nat.ne_of_lt (Nat.lt_trans n0 ns.1)) (kk b o n1 n2 n3 n4 (kb b o e))
    · exact List.pairwise_append.mpr ⟨g.rise, List.pairwise_singleton _ _, fun a ha b hb => by rw [List.mem_singleton.mp hb]; exact (g.room a ha).2⟩
    · have en : (h'.update S (Obj.mapSeq (·.push (Value.ref h.objs.size)))).objs.size = h'.objs.size := by simp [Heap.update]
      rw [en, sz]
      rcases List.mem_append.mp ht with ht | ht
      · exact ⟨(g.room t ht).1, Nat.lt_succ_of_lt (g.room t ht).2⟩
      · rw [List.mem_singleton.mp ht]; exact ⟨Sl, Nat.lt_succ_self _⟩
    · rcases Nat.lt_trichotomy j ts.length with y | y | y
      · rw [List.getElem?_append_left y] at hj
        obtain ⟨u, v, e1, e2, pp⟩ := g.pair j t hj
        obtain ⟨r1, _⟩ := g.room t (List.mem_of_getElem? hj)
        exact ⟨u, v, e1, e2, up t _ (Nat.ne_of_gt r1) (kk t _ (Nat.ne_of_gt (Nat.lt_trans ns.1 r1)) (Nat.ne_of_gt (Nat.lt_trans ns.2.2.1 r1)) (Nat.ne_of_gt (Nat.lt_trans ns.2.2.2.1 r1)) (Nat.ne_of_gt (Nat.lt_trans ns.2.2.2.2 r1)) pp)⟩
      · subst y
        have et : h.objs.size = t := by simpa using hj
        subst et
        exact ⟨u, v, by rw [kt]; exact pu, by rw [kt]; exact pv, up _ _ (Nat.ne_of_gt Sl) np⟩
      · rw [List.getElem?_eq_none (by rw [List.length_append, List.length_singleton]; omega)] at hj; cases hj
end
section
variable {prog : Program} {w : World} {A : Around} {E : Value → Shared → Prop} {s : Shared}
theorem hasX_keep {k : Kd} {a : Addr} {its : Array Value} {h h' : Heap} (e : HasX h k a its) (kk : ∀ b o, h.get? b = some o → h'.get? b = some o) : HasX h' k a its := by
  cases k <;> (obtain ⟨o, ho, y⟩ := e; exact ⟨o, kk _ _ ho, y⟩)
/-- list(zip(x, y)) -/
theorem zx_call (k1 k2 : Kd) {l r : Addr} {us ws : Array Value} {Q : Value → Shared → Prop} (hh : A.handled = none) (kl : HasX s.heap k1 l us) (kr : HasX s.heap k2 r ws) (fit : us.size ≤ sizeLine)
    (fin : ∀ h' tk acc k ts p, s.heap.objs.size ≤ p → (∀ b o, s.heap.get? b = some o → h'.get? b = some o) → h'.get? p = some { cls := .type "list", dict := none, data := .seq acc k, slots := #[] } → ts.length = min us.size ws.size → Zg us ws p h' ts → acc.toList = ts.map Value.ref → Q (.ref p) { s with heap := h', toks := tk }) :
    wpAny (model prog w) A (call (.type "zip") [.ref l, .ref r]) (fun z s' => wpAny (model prog w) A (call (.type "list") [z]) Q E s') E s := by
  have ll := hasX_lt kl
  have lr := hasX_lt kr
  refine zip_begins2 (begins_x k1 l us) (begins_x k2 r ws) kl kr fun h1 kz kp kq kc kd sz kk => ?_
  have ap := zip_sep2 (N := s.heap.objs.size) (fp1 := [l]) (fp2 := [r]) (by simp; exact ll) (by simp; exact lr)
  have D1 := draws_x (prog := prog) (w := w) (A := A.in1.in1.in1) k1 hh s.heap.objs.size l (Nat.ne_of_lt ll) us
  have D2 := draws_x (prog := prog) (w := w) (A := A.in1.in1.in1) k2 hh (s.heap.objs.size + 1) r (Nat.ne_of_lt (Nat.lt_succ_of_lt lr)) ws
  have hl1 : HasX h1 k1 l us := hasX_keep kl kk
  have hr1 : HasX h1 k2 r ws := hasX_keep kr kk
  refine callType_codes (Q₁ := fun obj s2 => obj = .ref h1.objs.size ∧ s2 = { s with heap := h1.push { cls := .type "list", data := .seq #[] } }) PySem.F.called_list (PySem.F.typeCall_list_1 _) PySem.F.entry_list_init (code_list_new _ ⟨rfl, rfl⟩) fun obj s2 y => ?_
  obtain ⟨rfl, rfl⟩ := y
  have kS : (h1.push { cls := .type "list", data := .seq #[] }).get? h1.objs.size = some { cls := .type "list", data := .seq #[] } := Heap.get?_push_size _ rfl
  refine ⟨⟨_, kS, rfl⟩, PySem.F.args_list_init_2 _ _, ?_⟩
  have ns : s.heap.objs.size + 4 < h1.objs.size ∧ s.heap.objs.size + 2 < h1.objs.size ∧ s.heap.objs.size + 3 < h1.objs.size ∧ s.heap.objs.size < h1.objs.size ∧ s.heap.objs.size + 1 < h1.objs.size := by
    rw [sz]
    refine ⟨Nat.lt_succ_self _, Nat.add_lt_add_left (by decide) _, Nat.add_lt_add_left (by decide) _, Nat.lt_add_of_pos_right (by decide), Nat.add_lt_add_left (by decide) _⟩
  have f1 : ∀ b ∈ [s.heap.objs.size, l], b < h1.objs.size := fun b hb => by
    rw [sz]
    rcases List.mem_cons.mp hb with y | y
    · omega
    · rw [List.mem_singleton.mp y]; exact Nat.lt_of_lt_of_le ll (Nat.le_add_right _ _)
  have f2 : ∀ b ∈ [s.heap.objs.size + 1, r], b < h1.objs.size := fun b hb => by
    rw [sz]
    rcases List.mem_cons.mp hb with y | y
    · omega
    · rw [List.mem_singleton.mp y]; exact Nat.lt_of_lt_of_le lr (Nat.le_add_right _ _)
  have zs0 : Zx (fun i h => IterX h k1 s.heap.objs.size l i ∧ HasX h k1 l us) (fun i h => IterX h k2 (s.heap.objs.size + 1) r i ∧ HasX h k2 r ws) (s.heap.objs.size + 4) (s.heap.objs.size + 2) (s.heap.objs.size + 3) s.heap.objs.size (s.heap.objs.size + 1) h1.objs.size 0 h1 := ⟨kp, ⟨iterX_new kc, hl1⟩, ⟨iterX_new kd, hr1⟩, .inl ⟨kz, _, _, kq⟩⟩
  have nS : s.heap.objs.size + 4 ≠ h1.objs.size ∧ s.heap.objs.size + 2 ≠ h1.objs.size ∧ s.heap.objs.size + 3 ≠ h1.objs.size := ⟨Nat.ne_of_lt ns.1, Nat.ne_of_lt ns.2.1, Nat.ne_of_lt ns.2.2.1⟩
  -- the loop, from any heap that is h1 but for the list
  have key : ∀ (g : Heap) (k tk : Nat) (R : Result → Shared → Prop), (∀ b o, b ≠ h1.objs.size → h1.get? b = some o → g.get? b = some o) → g.get? h1.objs.size = some { cls := .type "list", data := .seq #[] k } →
      (∀ h' tk acc k ts, (∀ b o, s.heap.get? b = some o → h'.get? b = some o) → h'.get? h1.objs.size = some { cls := .type "list", dict := none, data := .seq acc k, slots := #[] } → ts.length = min us.size ws.size → Zg us ws h1.objs.size h' ts → acc.toList = ts.map Value.ref → R (.ok (.ret .none)) { s with heap := h', toks := tk }) →
      codeAny (model prog w) A.in1 (.builtin "list.extend.loop" ⟨[.ref h1.objs.size, .ref (s.heap.objs.size + 4), .none], []⟩) R { s with heap := g, toks := tk } := fun g k tk R kg kS2 fr => by
    refine zx_loop (s := s) (h0 := s.heap) (A := A.in1) ap D1 D2 f1 f2 ns fit .none (fun b o e => ?_) fr _ 0 g tk k #[] [] rfl (Nat.zero_le _) (zs0.stay D1 D2 nS (fun y => Nat.lt_irrefl _ (f1 _ y)) (fun y => Nat.lt_irrefl _ (f2 _ y)) kg) (fun b o e => kg b o (Nat.ne_of_lt (Nat.lt_of_lt_of_le (Heap.lt_size e) (by rw [sz]; exact Nat.le_add_right _ _))) (kk b o e)) kS2 rfl rfl ⟨List.Pairwise.nil, fun t ht => by simp at ht, fun j t hj => by simp at hj⟩
    have lb := Heap.lt_size e
    exact ⟨Nat.lt_of_lt_of_le lb (Nat.le_add_right _ _), Nat.ne_of_lt (Nat.lt_of_lt_of_le lb (Nat.le_add_right _ _)), Nat.ne_of_lt (Nat.lt_of_lt_of_le lb (Nat.le_add_right _ _)), Nat.ne_of_lt lb, Nat.ne_of_lt (Nat.lt_of_lt_of_le lb (Nat.le_add_right _ _))⟩
  show wpAny _ _ (do let old ← Builtin.List.listItems (.ref h1.objs.size); Builtin.List.listUpdate (.ref h1.objs.size) (fun _ => #[]); letGo old.toList.reverse; Builtin.List.listExtendWith (.ref h1.objs.size) (.ref (s.heap.objs.size + 4)) .none) _ _ _
  refine wpAny_bind ?_
  unfold Builtin.List.listItems
  refine wpAny_bind (wpAny_seqItems kS rfl (wpAny_pure ?_))
  show wpAny _ _ (updateSeq h1.objs.size (fun _ => #[]) >>= fun _ => letGo (#[] : Array Value).toList.reverse >>= fun _ => Builtin.List.listExtendWith (.ref h1.objs.size) (.ref (s.heap.objs.size + 4)) .none) _ _ _
  refine wpAny_bind (wpAny_updateSeq kS rfl (wpAny_bind (wpAny_letGo ?_)))
  have kS1 := Heap.get?_update_self (Obj.mapSeq (fun _ => (#[] : Array Value))) kS rfl
  have ot1 : ∀ b o, b ≠ h1.objs.size → h1.get? b = some o → ((h1.push { cls := .type "list", data := .seq #[] }).update h1.objs.size (Obj.mapSeq (fun _ => (#[] : Array Value)))).get? b = some o :=
    fun b o hb e => (Heap.get?_update_other _ _ (Ne.symm hb)).trans (Heap.get?_push_of_some _ e)
  have kz1 := ot1 _ _ nS.1 kz
  unfold Builtin.List.listExtendWith
  refine wpAny_bind (wpAny_typeOf (T := "zip") ⟨_, kz1, rfl⟩ ?_)
  have t1 : Builtin.List.listSameRef (.ref h1.objs.size) (.ref (s.heap.objs.size + 4)) = false := by simp [Builtin.List.listSameRef, Ne.symm nS.1]
  have t2 : (Value.type "zip" == Value.type "list") = false := by decide
  have t3 : (Value.type "zip" == Value.type "tuple") = false := by decide
  simp only [t1, t2, t3, Bool.or_false, Bool.false_eq_true, if_false]
  refine wpAny_bind (wpAny_pyIter_zip kz1 (wpAny_bind (wpAny_holding ?_)))
  unfold Builtin.List.listLengthHint
  refine wpAny_bind (wpAny_specialOf ⟨_, kz1, rfl⟩ zip_len0 ?_)
  show wpAny _ _ (specialOf (Value.ref (s.heap.objs.size + 4)) (Str.ofString "__length_hint__") >>= _) _ _ _
  refine wpAny_bind (wpAny_specialOf ⟨_, kz1, rfl⟩ zip_hint0 (wpAny_pure ?_))
  show wpAny _ _ (rule "list.extend.makes-room" >>= fun _ => Builtin.List.listTouch (.ref h1.objs.size) >>= fun _ => again (.builtin "list.extend.loop" ⟨[.ref h1.objs.size, .ref (s.heap.objs.size + 4), .none], []⟩)) _ _ _
  refine wpAny_bind (wpAny_rule (wpAny_bind ?_))
  show wpAny _ _ (updateSeq h1.objs.size (·.push .none) >>= fun _ => updateSeq h1.objs.size (·.pop)) _ _ _
  refine wpAny_bind (wpAny_updateSeq kS1 rfl ?_)
  have kS2 := Heap.get?_update_self (Obj.mapSeq (·.push Value.none)) kS1 rfl
  refine wpAny_updateSeq (hz := by seq_fits) kS2 rfl ?_
  have kS3 := Heap.get?_update_self (Obj.mapSeq (·.pop)) kS2 rfl
  refine wpAny_pure ⟨plainId_quiet PySem.F.plain_extend_loop _, key _ _ _ _ (fun b o hb e => ?_) kS3 fun h' tk acc k ts a1 a2 a3 a4 a5 => ⟨rfl, fin h' tk acc k ts _ (by rw [sz]; exact Nat.le_add_right _ _) a1 a2 a3 a4 a5⟩⟩
  exact (Heap.get?_update_other _ _ (Ne.symm hb)).trans ((Heap.get?_update_other _ _ (Ne.symm hb)).trans (ot1 b o hb e))
end
section
variable {X : Cx}
/-- list(zip(x, y)) -/
def rZipX (K : PySem.W.Frag) : List V → Hp → VK → Prop := fun vs H Q => ∃ k1 k2 a b xs ys, vs = [.ref a, .ref b] ∧ SqX K H k1 a xs ∧ SqX K H k2 b ys ∧ xs.length ≤ sizeLine ∧
  ∀ (p : Addr) (ts : List Addr), ts.Nodup → p ∉ ts → (∀ t ∈ ts, H t = none) → H p = none → ts.length = (xs.zip ys).length → Q (.ref p) (putP (upd H p (.lst (ts.map V.ref))) ts (xs.zip ys))
theorem pe_listZipX {e e2 : Expr} {ta : TA} {p1 p2 pos1 pos2 : Pos} (hc : X.calm = true) (hg : Gl X "list") (hm : X.mg "list" = none) (hg2 : Gl X "zip") (hm2 : X.mg "zip" = none) (hv : bootBuiltins "list" = some (.type "list")) (ha : PA X [e, e2] ta)
    (hs : starEach [e, e2] X.env = (false, eval e X.env) :: starEach [e2] X.env := by rfl) (hpl : (backTo pos2 (starEach [e2] X.env)).any (·.1) = false := by rfl)
    (hst : starEach [.Call (.Name "zip" p2) [e, e2] [] pos2] X.env = (false, eval (.Call (.Name "zip" p2) [e, e2] [] pos2) X.env) :: starEach [] X.env := by rfl) :
    PE X (.Call (.Name "list" p1) [.Call (.Name "zip" p2) [e, e2] [] pos2] [] pos1) (fun σ H Q => ta σ H fun vs H1 => rZipX X.K vs H1 Q) := by
  refine ⟨fun pins s σ H Q I hq => ?_⟩
  refine wpAny_Call_Name_kw (ld_blt I hg hm hv ?_)
  refine PyProof.Rows.callWith_type1 ?_ hst rfl
  rw [hst]
  show wpAny _ _ (spliced ((false, eval (.Call (.Name "zip" p2) [e, e2] [] pos2) X.env) :: backTo pos1 (starEach [] X.env))) _ _ s
  refine Calls.spliced_cons ?_
  refine Call_ (ld_blt I hg2 hm2 PyProof.Rows.boot_zip (PyProof.Rows.callWith_type1 (thn (ha.run pos2 pins s σ H _ I hq) fun us s1 ⟨vs, H1, I1, r1, q1⟩ => ?_) hs hpl))
  obtain ⟨k1, k2, a, b, xs, ys, rfl, ka, kb, fit, q⟩ := q1
  obtain ⟨u1, u2, rfl, c1, c2⟩ := vals2 r1
  cases c1
  cases c2
  obtain ⟨i1, v1, t1⟩ := inv_x I1 ka
  obtain ⟨i2, v2, t2⟩ := inv_x I1 kb
  have hl1 := v1.length
  refine wpAny_mono (zx_call k1 k2 (us := i1.toArray) (ws := i2.toArray) (E := X.xe) (Q := EP X pins σ Q) (I1.ok.hd hc) t1 t2 (by simp; omega) fun h' tk acc k ts p hp kk kS lt G kc => ?_) (fun z s' y => Calls.spliced_nil y) fun _ _ y => y
  obtain ⟨J, nd, pn, nw, np, lz⟩ := zl_laid (tk := tk) I1 fit v1 v2 hp kk kS (by simpa using lt) G kc
  exact ⟨.ref p, _, J, rfl, q p ts nd pn nw np lz⟩
end
section
variable {X : Cx} {S : Stat} {W : WX}
def sZipX : List D → Sto → Res D := fun ds g => match ds with
  | [d, e] => (match seqOf d, seqOf e with
    | some (_, xs), some (_, ys) => if xs.length ≤ big then .ok (.lst (pairsD xs ys)) g else .stuck
    | _, _ => .stuck)
  | _ => .stuck
theorem f_listZipX {e e2 : Expr} {fs : En (List D)} {p1 p2 pos1 pos2 : Pos} (hK : S.K = X.K) (hc : X.calm = true) (hg : Gl X "list") (hm : X.mg "list" = none) (hg2 : Gl X "zip") (hm2 : X.mg "zip" = none) (ha : Pas X S W [e, e2] fs)
    (hs : starEach [e, e2] X.env = (false, eval e X.env) :: starEach [e2] X.env := by rfl) (hpl : (backTo pos2 (starEach [e2] X.env)).any (·.1) = false := by rfl)
    (hst : starEach [.Call (.Name "zip" p2) [e, e2] [] pos2] X.env = (false, eval (.Call (.Name "zip" p2) [e, e2] [] pos2) X.env) :: starEach [] X.env := by rfl) :
    Pf X S W (.Call (.Name "list" p1) [.Call (.Name "zip" p2) [e, e2] [] pos2] [] pos1) (eU sZipX fs) :=
  PE.to (pe_listZipX hc hg hm hg2 hm2 (by decide +kernel) ha hs hpl hst) fun σ H Q q => Tv.one (Ra := RL S) q fun env m g H1 ds vs rel fz ⟨_, ra⟩ p => by
    have ra : Rl S m H1 ds vs := ra
    unfold sZipX at p
    split at p
    · rename_i d e
      cases ra with
      | cons r1 ra =>
        cases ra with
        | cons r2 ra =>
          cases ra
          split at p
          · rename_i kd1 xs kd2 ys e1 e2
            obtain ⟨a, us, rfl, k1, l1⟩ := seqOf_v e1 (.inl r1)
            obtain ⟨b, ws, rfl, k2, l2⟩ := seqOf_v e2 (.inl r2)
            split at p
            · rename_i c
              refine ⟨kd1, kd2, a, b, us, ws, rfl, hK ▸ k1, hK ▸ k2, by rw [← l1.length]; exact big_line c, fun q ts nd pn nw np lz => ?_⟩
              have keep : ∀ b o, H1 b = some o → putP (upd H1 q (.lst (ts.map V.ref))) ts (us.zip ws) b = some o := fun b o e => by
                rw [putP_off ts _ _ (fun y => by rw [nw b y] at e; cases e), upd_ne (fun y => by rw [y, np] at e; cases e)]; exact e
              have eq : putP (upd H1 q (.lst (ts.map V.ref))) ts (us.zip ws) q = some (.lst (ts.map V.ref)) := (putP_off ts _ _ pn).trans upd_same
              have gr : Grow m H1 (m.own q) (putP (upd H1 q (.lst (ts.map V.ref))) ts (us.zip ws)) :=
                ⟨fun b o e _ => keep b o e, fun b e => none_of_keep (keep b) e, ⟨[], by simp [Mv.own]⟩, fun _ h => .inl h, fun a ha => List.mem_cons_of_mem _ ha, fun a ha => by
                  rcases List.mem_cons.mp ha with rfl | ha
                  · exact .inr np
                  · exact .inl ha, rfl⟩
              have ok : MOk S (putP (upd H1 q (.lst (ts.map V.ref))) ts (us.zip ws)) g (m.own q) := rel.mem.of_grow gr rfl (fun a _ u e => keep a u e) (fun a h1 h2 => by
                rcases List.mem_cons.mp h1 with rfl | h1
                · rw [eq]; trivial
                · exact absurd h1 h2) fun a h1 h2 => by
                rcases List.mem_cons.mp h1 with rfl | h1
                · exact (rel.mem.free np).2
                · exact absurd h1 h2
              exact p _ _ _ gr ok ⟨q, rfl, List.mem_cons_self, fun y => (rel.mem.free np).1 (rel.mem.muW q y), fz q np, .lst eq (Rl.zip (H := H1) (Rl.grow rel.mem (gr.s rel.mem.muW) l1) (Rl.grow rel.mem (gr.s rel.mem.muW) l2) lz fun j t p e1 e2 => putP_at ts _ _ nd j t p e1 e2)⟩
            · exact p.elim
          · exact p.elim
    · exact p.elim
end
end Ev
namespace Ev
theorem Ok_fnOfO {N : Nat} {f : E1} {ds : List D} {g : Sto} {P : D → Sto → Prop} : Ok (fnOfO N (sRetF f) ds g) P ↔ Ok (f (ds.map Slot.sh ++ List.replicate (N - ds.length) .no) g) P := by
  unfold fnOfO sRetF thenS
  cases f (ds.map Slot.sh ++ List.replicate (N - ds.length) .no) g <;> exact Iff.rfl
end Ev
namespace Ev
open PySem PySem.Spec PyProof.Rows L2
/-! Plain tools. -/
/-- a comprehension with a test, the store let alone -/
theorem comp_filter {tg : Tg} {t : En Bool} {e : E1} {env : Env} {g : Sto} (pr : D → Bool) (f : D → D) : ∀ {ds : List D}, (∀ d ∈ ds, ∃ env1, tg d env = some env1 ∧ t env1 g = .ok (pr d) g ∧ (pr d = true → e env1 g = .ok (f d) g)) → compL tg t e env ds g = some ((ds.filter pr).map f, g)
  | [], _ => rfl
  | d :: ds, h => by
    obtain ⟨env1, e1, e2, e3⟩ := h d List.mem_cons_self
    have ih := comp_filter pr f fun x hx => h x (List.mem_cons_of_mem _ hx)
    cases hp : pr d with
    | true =>
      rw [hp] at e2
      simp only [compL, e1, e2, e3 hp, ih, List.filter_cons_of_pos hp, List.map_cons]
    | false =>
      rw [hp] at e2
      simp only [compL, e1, e2, ih, List.filter_cons_of_neg (show ¬ pr d = true by rw [hp]; simp)]
def vAug (o : Option Slot) (k : Int → SRes) : SRes := match o with
  | some (.sh (.int a)) => k a
  | _ => .stuck
@[simp] theorem vAug_i {a : Int} {k : Int → SRes} : vAug (some (.sh (.int a))) k = k a := rfl
@[simp] theorem sAugI_v {i : Nat} {p : Int → Int → Int} {f : E1} {env : Env} {g : Sto} : sAugI i p f env g = vAug env[i]? fun a => thenS f (fun d env g => vInt d fun b => .nx (env.set i (.sh (.int (p a b)))) g) env g := by
  unfold sAugI vAug
  generalize env[i]? = o
  rcases o with _ | s
  · rfl
  · cases s with
    | no => rfl
    | ow d => rfl
    | sh d =>
      cases d with
      | int a =>
        simp only
        congr 1
        funext d env g
        cases d <;> rfl
      | _ => rfl
theorem deq_nil (xs : List D) : deq 40 (.lst xs) (.lst []) = some (decide (xs = [])) := ne_nilD xs
theorem inL_strs (z : Str) : ∀ zs : List Str, inL (.str z) (zs.map .str) = some (decide (z ∈ zs))
  | [] => rfl
  | a :: zs => by
    simp only [List.map_cons, inL, inL_strs z zs, deq_str]
    by_cases e : a = z
    · subst e
      simp
    · have e' : ¬ z = a := fun h => e h.symm
      simp [e, e']
theorem in_strs {z : Str} {zs : List Str} {g : Sto} : sInA (.str z) (.lst (zs.map .str)) g = .ok (.bl (decide (z ∈ zs))) g := by
  simp only [sInA, sIn, isIn, inL_strs]
theorem cut_drop {α : Type} (xs : List α) (k : Nat) (h : k ≤ xs.length) : cutL xs (some (k : Int)) none = xs.drop k := by
  unfold cutL HT.sIx
  simp [show ¬ ((k : Int) < 0) by omega]
  rw [Nat.min_eq_left h, List.take_of_length_le]
  simp
@[simp] theorem sSub_i {i j : Int} {g : Sto} : sSub (.int i) (.int j) g = .ok (.int (i - j)) g := rfl
def vPutD (o : Option Slot) (env : Env) (i : Nat) (v k : D) (g : Sto) : SRes := match o with
  | some (.ow (.dic t ks vs)) => if kindK t k = true ∧ ks.length < big then .nx (env.set i (.ow (.dic t (dputK ks k) (dputV ks vs k v)))) g else .stuck
  | _ => .stuck
@[simp] theorem putDO_v {i : Nat} {v k : D} {env : Env} {g : Sto} : putDO i v k env g = vPutD env[i]? env i v k g := rfl
@[simp] theorem vPutD_d {env : Env} {i : Nat} {v k : D} {g : Sto} {t : Nat} {ks vs : List D} {P : Pst} : So (vPutD (some (.ow (.dic t ks vs))) env i v k g) P ↔ if kindK t k = true ∧ ks.length < big then P.nx (env.set i (.ow (.dic t (dputK ks k) (dputV ks vs k v)))) g else False := So_ite
def vOwn (o : Option Slot) (r : SRes) : SRes := match o with
  | some (.ow _) => r
  | _ => .stuck
@[simp] theorem vOwn_o {d : D} {r : SRes} : vOwn (some (.ow d)) r = r := rfl
@[simp] theorem So_putDO {i : Nat} {fe fk : E1} {env : Env} {g : Sto} {P : Pst} : So (sPutDO i fe fk env g) P ↔ Ok (fe env g) fun v g1 => So (vOwn env[i]? (thenS fk (fun k env g => putDO i v k env g) env g1)) P := So_thenS.trans (Ok_iff fun v g => by
  unfold vOwn
  rcases env[i]? with _ | s
  · exact Iff.rfl
  · cases s <;> exact Iff.rfl)
end Ev
namespace Ev
open PySem PySem.Spec PyProof.Rows L2
/-! ### == of dicts -/
def deqDL : List D → List D → List D → List D → Option Bool
  | k :: ks, v :: vs, ks2, vs2 => match dget ks2 vs2 k with
    | none => some false
    | some v2 => (match deq 38 v v2, deqDL ks vs ks2 vs2 with
      | some e, some b => some (e && b)
      | _, _ => none)
  | _, _, _, _ => some true
def deqDic (ks vs ks2 vs2 : List D) : Option Bool := if ks.length = ks2.length then deqDL ks vs ks2 vs2 else some false
section
variable {X : Cx} {S : Stat} {pins : List (Addr × Obj)} {σ : St} {H : Hp} {s : Shared} {m : Mv}
theorem hits_dic (I : Inv X pins σ H s) (hK : S.K = X.K) {A : Around} (hu : A.units + 38 < cLine) {kvs2 : List (Key × V)} {vb : List (Key × Value)} (rb : KV kvs2 vb) {ds2 : List D} (rl2 : Rl S m H ds2 (kvs2.map (·.2))) :
    ∀ {kvs : List (Key × V)} {va : List (Key × Value)} {ds : List D} {b : Bool}, KV kvs va → Rl S m H ds (kvs.map (·.2)) → deqDL (kvs.map fun p => kD p.1) ds (kvs2.map fun p => kD p.1) ds2 = some b → PySem.W.KeqHits A s vb va b := by
  intro kvs
  induction kvs with
  | nil =>
    intro va ds b ra rl h
    unfold KV at ra
    cases ra
    cases rl
    cases h
    exact .nil
  | cons p kvs ih =>
    intro va ds b ra rl h
    unfold KV at ra
    cases ra with
    | @cons _ q _ qs hq t =>
      obtain ⟨k, v⟩ := q
      obtain ⟨h1, h2⟩ := hq
      have h1 : p.1 = k := h1
      subst h1
      cases rl with
      | @cons d _ ds' _ r1 r2 =>
        simp only [List.map_cons, deqDL] at h
        have g := dget_val kD sameK_kD p.1 rl2
        have rr := rb.val p.1
        cases e : dget (kvs2.map fun p => kD p.1) ds2 (kD p.1) with
        | none =>
          rw [e] at h g
          cases h
          rw [g] at rr
          have hn : valueAt vb p.1 = none := by
            cases qv : valueAt vb p.1 with
            | none => rfl
            | some y => rw [qv] at rr; cases rr
          exact .miss hn
        | some d2 =>
          rw [e] at h g
          obtain ⟨v2, e2, r3⟩ := g
          rw [e2] at rr
          obtain ⟨y, hy, ry⟩ := rr.some_of
          dsimp only at h
          cases e3 : deq 38 d d2 with
          | none => rw [e3] at h; cases h
          | some eb =>
            cases e4 : deqDL (kvs.map fun p => kD p.1) ds' (kvs2.map fun p => kD p.1) ds2 with
            | none => rw [e3, e4] at h; cases h
            | some b' =>
              rw [e3, e4] at h
              cases h
              exact .hit hy (deq_ok I hK 38 d d2 eb A _ _ _ _ hu e3 r1 r3 h2 ry).2 (ih t r2 e4)
def rEqDic (S : Stat) (neg : Bool) : R2 := fun x y H Q => ∃ m ks vs ks2 vs2 b, Rr S m H (.dic 0 ks vs) x ∧ Rr S m H (.dic 0 ks2 vs2) y ∧ deqDic ks vs ks2 vs2 = some b ∧ Q (.bl (neg != b)) H
theorem dic0 {ks ds : List D} {v : V} (h : Rr S m H (.dic 0 ks ds) v) : ∃ a kvs, v = .ref a ∧ L2.Rd H a (.dK kvs) ∧ ks = kvs.map (fun p => kD p.1) ∧ Rl S m H ds (kvs.map (·.2)) := by
  cases h with
  | dic h1 h2 h3 h4 =>
    rcases h3 with ⟨_, kvs, rfl, e, rfl⟩ | ⟨e0, _⟩
    · exact ⟨_, kvs, rfl, h1.rd, e, h4⟩
    · cases e0
end
section
variable {X : Cx} {S : Stat} {W : WX}
theorem dic_core {pins : List (Addr × Obj)} {σ : St} {H : Hp} {s : Shared} {m : Mv} (I : Inv X pins σ H s) (hK : S.K = X.K) (hu : X.A.units + 64 < cLine) {ks vs ks2 vs2 : List D} {b : Bool} {x y : V} (r1 : Rr S m H (.dic 0 ks vs) x) (r2 : Rr S m H (.dic 0 ks2 vs2) y) (h : deqDic ks vs ks2 vs2 = some b) :
    ∃ (a a2 : Addr) (va vb : List (Key × Value)) (r : Bool), x = .ref a ∧ y = .ref a2 ∧ (a == sysModules) = false ∧ (a2 == sysModules) = false ∧ s.heap.DictOf (mixKind X.prog X.w) a va ∧ s.heap.DictOf (mixKind X.prog X.w) a2 vb ∧ (va.length = vb.length → PySem.W.KeqHits X.A.in1 s vb va r) ∧ (va.length == vb.length && r) = b := by
  obtain ⟨a, kvs, rfl, h1, rfl, rl1⟩ := dic0 r1
  obtain ⟨a2, kvs2, rfl, h2, rfl, rl2⟩ := dic0 r2
  obtain ⟨_, ya, va, ra, da⟩ := (show ObjOk X.prog X.w H s.heap a (.dK kvs) from h1.ok I.hok)
  obtain ⟨_, yb, vb, rb, db⟩ := (show ObjOk X.prog X.w H s.heap a2 (.dK kvs2) from h2.ok I.hok)
  have l1 : va.length = kvs.length := ra.length.symm
  have l2 : vb.length = kvs2.length := rb.length.symm
  unfold deqDic at h
  simp only [List.length_map] at h
  by_cases hl : kvs.length = kvs2.length
  · rw [if_pos hl] at h
    exact ⟨a, a2, va, vb, b, rfl, rfl, ya, yb, da, db, fun _ => hits_dic I hK (by show X.A.units + 1 + 38 < cLine; omega) rb rl2 ra rl1 h, by simp [l1, l2, hl]⟩
  · rw [if_neg hl] at h
    cases h
    exact ⟨a, a2, va, vb, true, rfl, rfl, ya, yb, da, db, fun e => absurd (by rw [← l1, ← l2]; exact e) hl, by simp [l1, l2, hl]⟩
theorem op_eqDic (hK : S.K = X.K) (hu : X.A.units + 64 < cLine) : OpR X (compareOp .Eq) (rEqDic S false) := by
  intro pins s σ H x y v u Q I rx ry h
  obtain ⟨m, ks, vs, ks2, vs2, b, h1, h2, h3, q⟩ := h
  obtain ⟨a, a2, va, vb, r, rfl, rfl, ya, yb, da, db, hits, e⟩ := dic_core I hK hu h1 h2 h3
  obtain rfl : v = Value.ref a := rx
  obtain rfl : u = Value.ref a2 := ry
  exact PySem.W.keq_eq (knd := mixKind X.prog X.w) (r := r) ya yb da db (by omega) hits ⟨.bl b, H, I, by rw [e]; rfl, by cases b <;> exact q⟩
theorem op_neDic (hK : S.K = X.K) (hu : X.A.units + 64 < cLine) : OpR X (compareOp .NotEq) (rEqDic S true) := by
  intro pins s σ H x y v u Q I rx ry h
  obtain ⟨m, ks, vs, ks2, vs2, b, h1, h2, h3, q⟩ := h
  obtain ⟨a, a2, va, vb, r, rfl, rfl, ya, yb, da, db, hits, e⟩ := dic_core I hK hu h1 h2 h3
  obtain rfl : v = Value.ref a := rx
  obtain rfl : u = Value.ref a2 := ry
  exact PySem.W.keq_ne (knd := mixKind X.prog X.w) (r := r) ya yb da db (by omega) hits ⟨.bl (!b), H, I, by rw [e]; rfl, by cases b <;> exact q⟩
def sEqD (neg : Bool) : D → D → Sto → Res D := fun a b g => match a, b with
  | .dic 0 ks vs, .dic 0 ks2 vs2 => (match deqDic ks vs ks2 vs2 with
    | some k => .ok (.bl (neg != k)) g
    | none => .stuck)
  | _, _ => .stuck
theorem sem_eqD {neg : Bool} : Sem2 S W (RT S) (rEqDic S neg) (sEqD neg) := fun σ H0 m g H a b x y Q ok fz ra rb p => by
  unfold sEqD at p
  split at p
  · rename_i ks vs ks2 vs2
    split at p
    · rename_i k e
      exact ⟨m.bare, ks, vs, ks2, vs2, k, ra.bare, rb.bare, e, p.now ok (.bl _)⟩
    · exact p.elim
  · exact p.elim
end
/-! plain: dicts by texts -/
theorem dget_strs {f : Str → D} {z : Str} : ∀ zs : List Str, dget (zs.map .str) (zs.map f) (.str z) = if z ∈ zs then some (f z) else none
  | [] => rfl
  | a :: zs => by
    simp only [List.map_cons, dget, sameK, same1, dget_strs zs]
    by_cases e : a = z
    · subst e
      simp
    · have e' : ¬ z = a := fun h => e h.symm
      simp [e, e']
theorem deqDic_same {f g : Str → D} (zs : List Str) (h : ∀ z ∈ zs, deq 38 (f z) (g z) = some true) : deqDic (zs.map .str) (zs.map f) (zs.map .str) (zs.map g) = some true := by
  unfold deqDic
  rw [if_pos rfl]
  have key : ∀ l : List Str, (∀ z ∈ l, z ∈ zs) → deqDL (l.map .str) (l.map f) (zs.map .str) (zs.map g) = some true := fun l => by
    induction l with
    | nil => intro _; rfl
    | cons a l ih =>
      intro hl
      have ha := hl a List.mem_cons_self
      simp only [List.map_cons, deqDL, dget_strs, if_pos ha, h a ha, ih fun z hz => hl z (List.mem_cons_of_mem _ hz), Bool.and_self]
  exact key zs fun _ h => h
end Ev
namespace Lw
open PySem PySem.Spec PyProof.Rows L2 Ev
def top (i : Nat) : Stmt := PySem.Challenge.pw_poisonruns_k08_texts_of_tables.main.body.getD i (.Pass ⟨0, 0, 0, 0⟩)
def meth (i j : Nat) : Stmt := (clsBody (top i)).getD j (.Pass ⟨0, 0, 0, 0⟩)
def clsL : List PySem.Str := ["Table"]
abbrev St0 (K : PySem.W.Frag) : Stat := ⟨K, clsL.map (He.ga K)⟩
structure Bl (K : PySem.W.Frag) (mg : PySem.Str → Option Value) : Prop where
  x_len : mg "len" = none
  x_min : mg "min" = none
  x_max : mg "max" = none
  x_range : mg "range" = none
  g_Table : mg "Table" = some (.ref (He.ga K "Table"))
  ne_Table : chNe "Table" K = true
  x_str : mg "str" = none
  x_list : mg "list" = none
  x_int : mg "int" = none
  x_abs : mg "abs" = none
  x_dict : mg "dict" = none
  x_sorted : mg "sorted" = none
  so : StatOk (St0 K)
  x_isinstance : mg "isinstance" = none
  na_Table_names : NoAttr K (He.ga K "Table") "names"
  x_tuple : mg "tuple" = none
  na_Table_things : NoAttr K (He.ga K "Table") "things"
  na_Table_sign_rows : NoAttr K (He.ga K "Table") "sign_rows"
  k_BARRED : ∃ t, mg "BARRED" = some (.str "none" t)
  k_MOST_LETTERS : ∃ t, mg "MOST_LETTERS" = some (.int 4 t)
  k_LETTERS : ∃ t, mg "LETTERS" = some (.str "abcdefghijklmnopqrstuvwxyz" t)
  x_all : mg "all" = none
  k_MOST_THINGS : ∃ t, mg "MOST_THINGS" = some (.int 2 t)
  k_DOES : mg "DOES" = some (.ref (He.ga K "DOES"))
  t_DOES : He.tupB K "DOES" [.str "sets", .str "clears", .str "leaves"] = true
  k_LOOKS : mg "LOOKS" = some (.ref (He.ga K "LOOKS"))
  t_LOOKS : He.tupB K "LOOKS" [.str "never", .str "on", .str "off"] = true
  x_enumerate : mg "enumerate" = none
  c_Table : chCls "Table" K = true
  mk_Table : chMk "Table" K = true
  cm_Table_read : chCmt "Table" "read" K = true
  me_Table_eq : chMeth "Table" "__eq__" K = true
  me_Table_str : chMeth "Table" "__str__" K = true
  me_Table_contains : chMeth "Table" "__contains__" K = true
  me_Table_need : chMeth "Table" "need" K = true
  me_Table_look : chMeth "Table" "look" K = true
  me_Table_does : chMeth "Table" "does" K = true
section
variable {P : Program} {w : World} {K : PySem.W.Frag} {mg : PySem.Str → Option Value} {base : Heap}
/-! ### _law_source -/
abbrev s__law_source : Stmt := top 21
theorem sc__law_source : FnScope ["_law_script", "_law_base", "_law_cells", "_law_mixed_here", "_law_cell"] ["_law_script", "_law_base"] (defScope s__law_source) := ⟨rfl, rfl, rfl, by decide +kernel, rfl, by decide +kernel, by decide +kernel⟩
def Q__law_source : Sd := (sSeq (sSetO 2 (eLc (eU sIter (eSl (fun d l h g => sSlA (dr g d) l h g) (eVarB 0) (oSo (eVar 1)) (oSo (eC (.int 62))))) (tgN 4) tYesF (eU (dr1 sAbs) (eU (dr1 sInt) (eVarB 4))) [4])) (sSeq (sSet 3 (eB (dr2 sAddA) (eC (.int 91283743)) (eB sMulI (eC (.int 61)) (eVarB 1)))) (sSeq (sUn [2] (sFor (eU sIter (eVar 2)) (tgN 4) (sSet 3 (eB sMod (eU (dr1 sInt) (eB (dr2 sAddA) (eB (dr2 sAddA) (eB sMulI (eVarB 3) (eC (.int 30529))) (eB sMod (eU (dr1 sInt) (eVarB 4)) (eC (.int 2147483477)))) (eC (.int 29)))) (eC (.int 2147483647)))))) (sUn [2] (sRet (eNew (eDisp [((eC (.str "great")), (eNew (eU sRev (eLc (eU sIter (eVar 2)) (tgN 4) (eU asB (eB sGe (eVarB 4) (eB sPow (eC (.int 10)) (eC (.int 18))))) (eVar 4) [4])))), ((eC (.str "mixed")), (eVar 3))])))))))
def F__law_source : Fn := fnOf 5 Q__law_source
theorem ok__law_source (b : Bl K mg) (G : Got K mg "_law_source" s__law_source) : Def P w K mg base (St0 K) "_law_source" 1 ["_law_script", "_law_base"] F__law_source :=
  def_mk (k := 0) G sc__law_source (fun _ _ _ _ _ _ us hl => match us, hl with | [_, _], _ => rfl) fun f cdv A outer s H E hr => (ss_cons (s_lc (i := 2) (own := [("_law_cell", 4)]) rfl sc__law_source.nd rfl rfl rfl (i_seq rfl (e_slA rfl (b_var (pv 0)) (o_so (e_var (pv 1))) (o_so e_int))) (blkOk_by rfl) (fun _ _ _ _ _ => (g_name (i := 4) sc__law_source.nd rfl (by first | exact Or.inl rfl | exact Or.inr rfl))) (fun _ _ _ _ _ => ts_nil) (fun _ _ _ _ _ => (e_abs rfl b.x_abs (b_of (e_int1 rfl b.x_int (b_var (pv 4)))))) (by decide)) (ss_cons (s_set (i := 3) sc__law_source.nd rfl (by first | exact Or.inl rfl | exact Or.inr rfl) (e_addA rfl (b_of e_int) (b_of (e_mul (b_of e_int) (b_var (pv 1)))))) (ss_cons (s_un [2] (s_for PassesOwn.never rfl (i_seq rfl (e_var (pv 2))) (g_name (i := 4) sc__law_source.nd rfl (by first | exact Or.inl rfl | exact Or.inr rfl)) (ss_one (s_set (i := 3) sc__law_source.nd rfl (by first | exact Or.inl rfl | exact Or.inr rfl) (e_mod (b_of (e_int1 rfl b.x_int (b_of (e_addA rfl (b_of (e_addA rfl (b_of (e_mul (b_var (pv 3)) (b_of e_int))) (b_of (e_mod (b_of (e_int1 rfl b.x_int (b_var (pv 4)))) (b_of e_int))))) (b_of e_int))))) (b_of e_int)))))) (ss_one (s_un [2] (s_ret (l_of (f_disp (fs := [((eC (.str "great")), (eNew (eU sRev (eLc (eU sIter (eVar 2)) (tgN 4) (eU asB (eB sGe (eVarB 4) (eB sPow (eC (.int 10)) (eC (.int 18))))) (eVar 4) [4])))), ((eC (.str "mixed")), (eVar 3))]) (pps_cons e_str (l_of (f_rev rfl (b_of (e_of (f_lc (own := [("_law_cell", 4)]) rfl sc__law_source.nd (i_seq rfl (e_var (pv 2))) (blkOk_by rfl) (fun _ _ _ _ _ => (g_name (i := 4) sc__law_source.nd rfl (by first | exact Or.inl rfl | exact Or.inr rfl))) (fun _ _ _ _ _ => (ts_one (t_cmp op_ge (sem_cmp _) (b_var (pv 4)) (b_of (e_pow (b_of e_int) (b_of e_int))) (nomark _)))) (fun _ _ _ _ _ => (e_var (pv 4))) (by decide)))))) (pps_cons e_str (e_var (pv 3)) pps_nil))))))))))
/-! ### _law_draw -/
abbrev s__law_draw : Stmt := top 22
theorem sc__law_draw : FnScope ["_law_deal", "_law_wide", "_law_great", "_law_cell"] ["_law_deal", "_law_wide"] (defScope s__law_draw) := ⟨rfl, rfl, rfl, by decide +kernel, rfl, by decide +kernel, by decide +kernel⟩
def Q__law_draw : Sd := (sSeq (sSet 2 (eB (dr2 sIxA) (eVarB 0) (eC (.str "great")))) (sSeq (sWhile 70 (tAndF (eU asB (eB (dr2 sNe) (eVarB 2) (eLst eNil))) (eU asB (eB (dr2 sEq) (eB (dr2 sIxA) (eVarB 2) (eU sNeg (eC (.int 1)))) (eC (.int 0))))) (sDo (eU sPop (eVar 2)))) (sSeq (sIf (eU asB (eB (dr2 sNe) (eVarB 2) (eLst eNil))) (sSeq (sSet 3 (eU sPop (eVar 2))) (sSeq (sDo (eApp (eVar 2) (eB sFdiv (eVarB 3) (eVarB 1)))) (sRet (eB sMod (eU (dr1 sInt) (eVarB 3)) (eVarB 1))))) sNil) (sSeq (sDo (eSet3 sPutA (eB sMod (eU (dr1 sInt) (eB (dr2 sAddA) (eB sMulI (eB (dr2 sIxA) (eVarB 0) (eC (.str "mixed"))) (eC (.int 30529))) (eC (.int 53)))) (eC (.int 2147483647))) (eVar 0) (eC (.str "mixed")))) (sRet (eB sMod (eU (dr1 sInt) (eB sFdiv (eB (dr2 sIxA) (eVarB 0) (eC (.str "mixed"))) (eC (.int 64)))) (eVarB 1)))))))
def F__law_draw : Fn := fnOf 4 Q__law_draw
theorem ok__law_draw (b : Bl K mg) (G : Got K mg "_law_draw" s__law_draw) : Def P w K mg base (St0 K) "_law_draw" 1 ["_law_deal", "_law_wide"] F__law_draw :=
  def_mk (k := 0) G sc__law_draw (fun _ _ _ _ _ _ us hl => match us, hl with | [_, _], _ => rfl) fun f cdv A outer s H E hr => (ss_cons (s_set (i := 2) sc__law_draw.nd rfl (by first | exact Or.inl rfl | exact Or.inr rfl) (e_ixA rfl (unitsOf hr) (b_var (pv 0)) (b_of e_str) (fun _ _ => rfl))) (ss_cons (s_while 70 PassesOwn.never (PW.pt (w_and (t_cmp (op_neX rfl (unitsOf hr)) (Sem2.dr sem_ne) (b_var (pv 2)) (b_of (e_of (f_lst a_nil))) (nomark _)) (w_and1 (t_cmp (op_eqX rfl (unitsOf hr)) (Sem2.dr sem_eq) (b_of (e_ixA rfl (unitsOf hr) (b_var (pv 2)) (b_of (e_neg e_int)) (fun _ _ => rfl))) (b_of e_int) (nomark _))))) (ss_one (s_do (e_popS (e_var (pv 2)))))) (ss_cons (s_if (t_cmp (op_neX rfl (unitsOf hr)) (Sem2.dr sem_ne) (b_var (pv 2)) (b_of (e_of (f_lst a_nil))) (nomark _)) (ss_cons (s_set (i := 3) sc__law_draw.nd rfl (by first | exact Or.inl rfl | exact Or.inr rfl) (e_popS (e_var (pv 2)))) (ss_cons (s_do (e_appS (e_var (pv 2)) (e_fdiv (b_var (pv 3)) (b_var (pv 1))))) (ss_one (s_ret (e_mod (b_of (e_int1 rfl b.x_int (b_var (pv 3)))) (b_var (pv 1))))))) ss_nil) (ss_cons (s_putA (unitsOf hr) (e_mod (b_of (e_int1 rfl b.x_int (b_of (e_addA rfl (b_of (e_mul (b_of (e_ixA rfl (unitsOf hr) (b_var (pv 0)) (b_of e_str) (fun _ _ => rfl))) (b_of e_int))) (b_of e_int))))) (b_of e_int)) (e_var (pv 0)) e_str) (ss_one (s_ret (e_mod (b_of (e_int1 rfl b.x_int (b_of (e_fdiv (b_of (e_ixA rfl (unitsOf hr) (b_var (pv 0)) (b_of e_str) (fun _ _ => rfl))) (b_of e_int))))) (b_var (pv 1)))))))))
/-! ### _law_pick -/
abbrev s__law_pick : Stmt := top 23
theorem sc__law_pick : FnScope ["_law_deal", "_law_some"] ["_law_deal", "_law_some"] (defScope s__law_pick) := ⟨rfl, rfl, rfl, by decide +kernel, rfl, by decide +kernel, by decide +kernel⟩
def Q__law_pick : Sd := (sRet (eB (dr2 sIxA) (eVarB 1) (eCall 2 F__law_draw (eCons (eVar 0) (eCons (eU (dr1 sLenA) (eVarB 1)) eNil)))))
def F__law_pick : Fn := fnOf 2 Q__law_pick
theorem ok__law_pick (b : Bl K mg) (G : Got K mg "_law_pick" s__law_pick) (d__law_draw : Def P w K mg base (St0 K) "_law_draw" 1 ["_law_deal", "_law_wide"] F__law_draw) : Def P w K mg base (St0 K) "_law_pick" 2 ["_law_deal", "_law_some"] F__law_pick :=
  def_mk (k := 1) G sc__law_pick (fun _ _ _ _ _ _ us hl => match us, hl with | [_, _], _ => rfl) fun f cdv A outer s H E hr => (ss_one (s_ret (e_ixA rfl (unitsOf hr) (b_var (pv 1)) (b_of (c_call d__law_draw (hr.mono (by omega)) rfl (a_cons (e_var (pv 0)) (a_cons (e_lenA rfl rfl b.x_len (b_var (pv 1))) a_nil)))) (fun _ _ => rfl))))
/-! ### _law_sign -/
abbrev s__law_sign : Stmt := top 26
theorem sc__law_sign : FnScope ["_law_deal"] ["_law_deal"] (defScope s__law_sign) := ⟨rfl, rfl, rfl, by decide +kernel, rfl, by decide +kernel, by decide +kernel⟩
def Q__law_sign : Sd := (sRet (eTup (eCons (eCall 2 F__law_pick (eCons (eVar 0) (eCons (eLst (eCons (eC (.str "sets")) (eCons (eC (.str "clears")) (eCons (eC (.str "leaves")) eNil)))) eNil))) (eCons (eCall 2 F__law_pick (eCons (eVar 0) (eCons (eLst (eCons (eC (.str "never")) (eCons (eC (.str "on")) (eCons (eC (.str "off")) eNil)))) eNil))) eNil))))
def F__law_sign : Fn := fnOf 1 Q__law_sign
theorem ok__law_sign (b : Bl K mg) (G : Got K mg "_law_sign" s__law_sign) (d__law_pick : Def P w K mg base (St0 K) "_law_pick" 2 ["_law_deal", "_law_some"] F__law_pick) : Def P w K mg base (St0 K) "_law_sign" 3 ["_law_deal"] F__law_sign :=
  def_mk (k := 2) G sc__law_sign (fun _ _ _ _ _ _ us hl => match us, hl with | [_], _ => rfl) fun f cdv A outer s H E hr => (ss_one (s_ret (e_tup (a_cons (c_call d__law_pick (hr.mono (by omega)) rfl (a_cons (e_var (pv 0)) (a_cons (e_of (f_lst (a_cons e_str (a_cons e_str (a_cons e_str a_nil))))) a_nil))) (a_cons (c_call d__law_pick (hr.mono (by omega)) rfl (a_cons (e_var (pv 0)) (a_cons (e_of (f_lst (a_cons e_str (a_cons e_str (a_cons e_str a_nil))))) a_nil))) a_nil)))))
/-! ### _law_table -/
abbrev s__law_table : Stmt := top 27
theorem sc__law_table : FnScope ["_law_deal", "_law_names_here", "_law_things", "_law_name", "_law_thing"] ["_law_deal", "_law_names_here", "_law_things"] (defScope s__law_table) := ⟨rfl, rfl, rfl, by decide +kernel, rfl, by decide +kernel, by decide +kernel⟩
def Q__law_table : Sd := (sRet (eU (dr1 sDict) (eLc (eU sIter (eVar 1)) (tgN 3) tYesF (eTup (eCons (eVar 3) (eCons (eLc (eU (fun d g => sRng (.int 0) d g) (eVar 2)) (tgN 4) tYesF (eCall 1 F__law_sign (eCons (eVar 0) eNil)) [4]) eNil))) [3])))
def F__law_table : Fn := fnOf 5 Q__law_table
theorem ok__law_table (b : Bl K mg) (G : Got K mg "_law_table" s__law_table) (d__law_sign : Def P w K mg base (St0 K) "_law_sign" 3 ["_law_deal"] F__law_sign) : Def P w K mg base (St0 K) "_law_table" 4 ["_law_deal", "_law_names_here", "_law_things"] F__law_table :=
  def_mk (k := 3) G sc__law_table (fun _ _ _ _ _ _ us hl => match us, hl with | [_, _, _], _ => rfl) fun f cdv A outer s H E hr => (ss_one (s_ret (e_of (f_dict rfl rfl rfl b.x_dict (b_of (e_of (f_lc (own := [("_law_name", 3)]) rfl sc__law_table.nd (i_seq rfl (e_var (pv 1))) (blkOk_by rfl) (fun _ _ _ _ _ => (g_name (i := 3) sc__law_table.nd rfl (by first | exact Or.inl rfl | exact Or.inr rfl))) (fun _ _ _ _ _ => ts_nil) (fun _ _ _ _ _ => (e_tup (a_cons (e_var (pv 3)) (a_cons (e_of (f_lc (own := [("_law_thing", 4)]) rfl sc__law_table.nd (i_range1 rfl b.x_range (e_var (pv 2))) (blkOk_by rfl) (fun _ _ _ _ _ => (g_name (i := 4) sc__law_table.nd rfl (by first | exact Or.inl rfl | exact Or.inr rfl))) (fun _ _ _ _ _ => ts_nil) (fun _ _ _ _ _ => (c_call d__law_sign (hr.mono (by omega)) rfl (a_cons (e_var (pv 0)) a_nil))) (by decide))) a_nil)))) (by decide))))))))
/-! ### _law_mixed -/
abbrev s__law_mixed : Stmt := top 24
theorem sc__law_mixed : FnScope ["_law_deal", "_law_some", "_law_turn", "_law_others", "_law_found"] ["_law_deal", "_law_some"] (defScope s__law_mixed) := ⟨rfl, rfl, rfl, by decide +kernel, rfl, by decide +kernel, by decide +kernel⟩
def Q__law_mixed : Sd := (sSeq (sParO 3 4 (eU (dr1 sList) (eVarB 1)) (eLst eNil)) (sSeq (sFor (eU (fun d g => sRng (.int 0) d g) (eU (dr1 sLenA) (eVarB 3))) (tgN 2) (sAppPop 4 3 (eCall 2 F__law_draw (eCons (eVar 0) (eCons (eU (dr1 sLenA) (eVarB 3)) eNil))))) (sUn [4] (sRet (eVar 4)))))
def F__law_mixed : Fn := fnOf 5 Q__law_mixed
theorem ok__law_mixed (b : Bl K mg) (G : Got K mg "_law_mixed" s__law_mixed) (d__law_draw : Def P w K mg base (St0 K) "_law_draw" 1 ["_law_deal", "_law_wide"] F__law_draw) : Def P w K mg base (St0 K) "_law_mixed" 2 ["_law_deal", "_law_some"] F__law_mixed :=
  def_mk (k := 1) G sc__law_mixed (fun _ _ _ _ _ _ us hl => match us, hl with | [_, _], _ => rfl) fun f cdv A outer s H E hr => (ss_cons (s_parO (i := 3) (j := 4) rfl sc__law_mixed.nd rfl rfl (by decide) rfl rfl (f_list rfl rfl b.x_list (b_var (pv 1))) (f_lst a_nil) rfl) (ss_cons (s_for PassesOwn.never rfl (i_range1 rfl b.x_range (e_lenA rfl rfl b.x_len (b_var (pv 3)))) (g_name (i := 2) sc__law_mixed.nd rfl (by first | exact Or.inl rfl | exact Or.inr rfl)) (ss_one (s_appPop (by decide) (pv 4) (pv 3) (c_call d__law_draw (hr.mono (by omega)) rfl (a_cons (e_var (pv 0)) (a_cons (e_lenA rfl rfl b.x_len (b_var (pv 3))) a_nil)))))) (ss_one (s_un [4] (s_ret (e_var (pv 4)))))))
/-! ### _law_names -/
abbrev s__law_names : Stmt := top 25
theorem sc__law_names : FnScope ["_law_deal", "_law_amount", "_law_every"] ["_law_deal", "_law_amount"] (defScope s__law_names) := ⟨rfl, rfl, rfl, by decide +kernel, rfl, by decide +kernel, by decide +kernel⟩
def Q__law_names : Sd := (sSeq (sSet 2 (eLst (eCons (eC (.str "a")) (eCons (eC (.str "b")) (eCons (eC (.str "c")) (eCons (eC (.str "ab")) (eCons (eC (.str "test")) (eCons (eC (.str "zzzz")) (eCons (eC (.str "two")) (eCons (eC (.str "on")) (eCons (eC (.str "off")) (eCons (eC (.str "sets")) (eCons (eC (.str "seen")) (eCons (eC (.str "x")) eNil)))))))))))))) (sRet (eSl (fun d l h g => sSlA (dr g d) l h g) (eCall 2 F__law_mixed (eCons (eVar 0) (eCons (eVar 2) eNil))) oNo (oSo (eVar 1)))))
def F__law_names : Fn := fnOf 3 Q__law_names
theorem ok__law_names (b : Bl K mg) (G : Got K mg "_law_names" s__law_names) (d__law_mixed : Def P w K mg base (St0 K) "_law_mixed" 2 ["_law_deal", "_law_some"] F__law_mixed) : Def P w K mg base (St0 K) "_law_names" 3 ["_law_deal", "_law_amount"] F__law_names :=
  def_mk (k := 2) G sc__law_names (fun _ _ _ _ _ _ us hl => match us, hl with | [_, _], _ => rfl) fun f cdv A outer s H E hr => (ss_cons (s_set (i := 2) sc__law_names.nd rfl (by first | exact Or.inl rfl | exact Or.inr rfl) (e_of (f_lst (a_cons e_str (a_cons e_str (a_cons e_str (a_cons e_str (a_cons e_str (a_cons e_str (a_cons e_str (a_cons e_str (a_cons e_str (a_cons e_str (a_cons e_str (a_cons e_str a_nil))))))))))))))) (ss_one (s_ret (e_slA rfl (b_of (c_call d__law_mixed (hr.mono (by omega)) rfl (a_cons (e_var (pv 0)) (a_cons (e_var (pv 2)) a_nil)))) o_no (o_so (e_var (pv 1)))))))
/-! ### _law_table_text -/
abbrev s__law_table_text : Stmt := top 28
theorem sc__law_table_text : FnScope ["_law_table_here", "_law_lines", "_law_name", "_law_one", "_law_does", "_law_look"] ["_law_table_here"] (defScope s__law_table_text) := ⟨rfl, rfl, rfl, by decide +kernel, rfl, by decide +kernel, by decide +kernel⟩
def Q__law_table_text : Sd := (sSeq (sSetO 1 (eLst eNil)) (sSeq (sFor (eU sIter (eU (dr1 sSorted) (eLc (eKeys 0) (tgN 3) tYesF (eU (dr1 sStr) (eVarB 3)) [3]))) (tgN 2) (sAppend 1 (eB (dr2 sAddA) (eB (dr2 sAddA) (eVarB 2) (eC (.str " "))) (eMt sJoin (eC (.str ", ")) (eLc (eU sIter (eB (dr2 sIxA) (eVarB 0) (eVarB 2))) (tgT 2 (tgCons (tgN 4) (tgCons (tgN 5) tgNil))) tYesF (eB (dr2 sAddA) (eB (dr2 sAddA) (eVarB 4) (eC (.str " "))) (eVarB 5)) [4, 5]))))) (sRet (eMt sJoin (eC (.str "\n")) (eVarB 1)))))
def F__law_table_text : Fn := fnOf 6 Q__law_table_text
theorem ok__law_table_text (b : Bl K mg) (G : Got K mg "_law_table_text" s__law_table_text) : Def P w K mg base (St0 K) "_law_table_text" 1 ["_law_table_here"] F__law_table_text :=
  def_mk (k := 0) G sc__law_table_text (fun _ _ _ _ _ _ us hl => match us, hl with | [_], _ => rfl) fun f cdv A outer s H E hr => (ss_cons (s_setO (i := 1) sc__law_table_text.nd rfl (by first | exact Or.inl rfl | exact Or.inr rfl) (f_lst a_nil)) (ss_cons (s_for PassesOwn.never rfl (i_seq rfl (e_of (f_sorted rfl rfl b.x_sorted (b_of (e_of (f_lcD (own := [("_law_one", 3)]) rfl sc__law_table_text.nd (pv 0) (blkOk_by rfl) (fun _ _ _ _ _ => (g_name (i := 3) sc__law_table_text.nd rfl (by first | exact Or.inl rfl | exact Or.inr rfl))) (fun _ _ _ _ _ => ts_nil) (fun _ _ _ _ _ => (e_str1 rfl b.x_str (b_var (pv 3)))) (by decide))))))) (g_name (i := 2) sc__law_table_text.nd rfl (by first | exact Or.inl rfl | exact Or.inr rfl)) (ss_one (s_append (pv 1) (e_addA rfl (b_of (e_addA rfl (b_var (pv 2)) (b_of e_str))) (b_of (e_join rfl (b_of e_str) (b_of (e_of (f_lc (own := [("_law_does", 4), ("_law_look", 5)]) rfl sc__law_table_text.nd (i_seq rfl (e_ixA rfl (unitsOf hr) (b_var (pv 0)) (b_var (pv 2)) (fun _ _ => rfl))) (blkOk_by rfl) (fun _ _ _ _ _ => (g_tup rfl rfl (gs_cons (g_name (i := 4) sc__law_table_text.nd rfl (by first | exact Or.inl rfl | exact Or.inr rfl)) (gs_cons (g_name (i := 5) sc__law_table_text.nd rfl (by first | exact Or.inl rfl | exact Or.inr rfl)) gs_nil)))) (fun _ _ _ _ _ => ts_nil) (fun _ _ _ _ _ => (e_addA rfl (b_of (e_addA rfl (b_var (pv 4)) (b_of e_str))) (b_var (pv 5)))) (by decide)))))))))) (ss_one (s_ret (e_join rfl (b_of e_str) (b_var (pv 1)))))))
/-! ### is_name -/
abbrev s_is_name : Stmt := top 13
theorem sc_is_name : FnScope ["value", "letter"] ["value"] (defScope s_is_name) := ⟨rfl, rfl, rfl, by decide +kernel, rfl, by decide +kernel, by decide +kernel⟩
def Q_is_name : Sd := (sSeq (sIf (tOrF (tNotF (eU asB (eU (dr1 (sIsiX [.ty "str"])) (eVarB 0)))) (tOrF (eU asB (eB (dr2 sEq) (eVarB 0) (eC (.str "none")))) (tNotF (eU asB (eChain (fun i j => decide (i ≤ j)) (fun i j => decide (i ≤ j)) (eC (.int 1)) (eU (dr1 sLenA) (eVarB 0)) (eC (.int 4))))))) (sRet (eC (.bl false))) sNil) (sRet (eU (dr1 sAll) (eLc (eU sIter (eVar 0)) (tgN 1) tYesF (eB (dr2 sInA) (eVarB 1) (eC (.str "abcdefghijklmnopqrstuvwxyz"))) [1]))))
def F_is_name : Fn := fnOf 2 Q_is_name
theorem ok_is_name (b : Bl K mg) (G : Got K mg "is_name" s_is_name) : Def P w K mg base (St0 K) "is_name" 1 ["value"] F_is_name :=
  def_mk (k := 0) G sc_is_name (fun _ _ _ _ _ _ us hl => match us, hl with | [_], _ => rfl) fun f cdv A outer s H E hr => (ss_cons (s_if (PW.pt (w_or (t_not (t_val (e_isiB (T := "str") b.so rfl (by decide) rfl b.x_isinstance rfl b.x_str (by decide +kernel) (b_var (pv 0))))) (w_or (t_cmp (op_eqX rfl (unitsOf hr)) (Sem2.dr sem_eq) (b_var (pv 0)) (b_of (e_globS rfl b.k_BARRED)) (nomark _)) (w_or1 (t_not (t_chain op_le op_le (b_of e_int) (b_of (e_lenA rfl rfl b.x_len (b_var (pv 0)))) (b_of (e_globI rfl b.k_MOST_LETTERS)))))))) (ss_one (s_ret e_bl)) ss_nil) (ss_one (s_ret (e_all rfl rfl rfl b.x_all (b_of (e_of (f_lc (own := [("letter", 1)]) rfl sc_is_name.nd (i_seq rfl (e_var (pv 0))) (blkOk_by rfl) (fun _ _ _ _ _ => (g_name (i := 1) sc_is_name.nd rfl (by first | exact Or.inl rfl | exact Or.inr rfl))) (fun _ _ _ _ _ => ts_nil) (fun _ _ _ _ _ => (e_cmp (op_inA rfl (unitsOf hr)) (Sem2.dr sem_inA) (b_var (pv 1)) (b_of (e_globS rfl b.k_LETTERS)) rfl)) (by decide))))))))
/-! ### is_sequence -/
abbrev s_is_sequence : Stmt := top 12
theorem sc_is_sequence : FnScope ["value"] ["value"] (defScope s_is_sequence) := ⟨rfl, rfl, rfl, by decide +kernel, rfl, by decide +kernel, by decide +kernel⟩
def Q_is_sequence : Sd := (sRet (eU (dr1 (sIsiX [.ty "list", .ty "tuple"])) (eVarB 0)))
def F_is_sequence : Fn := fnOf 1 Q_is_sequence
theorem ok_is_sequence (b : Bl K mg) (G : Got K mg "is_sequence" s_is_sequence) : Def P w K mg base (St0 K) "is_sequence" 1 ["value"] F_is_sequence :=
  def_mk (k := 0) G sc_is_sequence (fun _ _ _ _ _ _ us hl => match us, hl with | [_], _ => rfl) fun f cdv A outer s H E hr => (ss_one (s_ret (e_isiT2 (T := "list") (T2 := "tuple") b.so rfl (by decide) (by decide) rfl b.x_isinstance rfl b.x_list (by decide +kernel) rfl b.x_tuple (by decide +kernel) (b_var (pv 0)))))
/-! ### is_sign -/
abbrev s_is_sign : Stmt := top 16
theorem sc_is_sign : FnScope ["value"] ["value"] (defScope s_is_sign) := ⟨rfl, rfl, rfl, by decide +kernel, rfl, by decide +kernel, by decide +kernel⟩
def Q_is_sign : Sd := (sRet (vAndF (eU (dr1 (sIsiX [.ty "tuple"])) (eVarB 0)) (vAndF (eB (dr2 sEq) (eU (dr1 sLenA) (eVarB 0)) (eC (.int 2))) (vAndF (eB (dr2 sInA) (eB (dr2 sIxA) (eVarB 0) (eC (.int 0))) (eC (.ctup [.str "sets", .str "clears", .str "leaves"]))) (eB (dr2 sInA) (eB (dr2 sIxA) (eVarB 0) (eC (.int 1))) (eC (.ctup [.str "never", .str "on", .str "off"])))))))
def F_is_sign : Fn := fnOf 1 Q_is_sign
theorem ok_is_sign (b : Bl K mg) (G : Got K mg "is_sign" s_is_sign) : Def P w K mg base (St0 K) "is_sign" 1 ["value"] F_is_sign :=
  def_mk (k := 0) G sc_is_sign (fun _ _ _ _ _ _ us hl => match us, hl with | [_], _ => rfl) fun f cdv A outer s H E hr => (ss_one (s_ret (v_and (e_isiB (T := "tuple") b.so rfl (by decide) rfl b.x_isinstance rfl b.x_tuple (by decide +kernel) (b_var (pv 0))) (v_and (e_cmp (op_eqX rfl (unitsOf hr)) (Sem2.dr sem_eq) (b_of (e_lenA rfl rfl b.x_len (b_var (pv 0)))) (b_of e_int) (nomark _)) (v_and (e_cmp (op_inA rfl (unitsOf hr)) (Sem2.dr sem_inA) (b_of (e_ixA rfl (unitsOf hr) (b_var (pv 0)) (b_of e_int) (fun _ _ => rfl))) (b_of (e_globT rfl b.k_DOES (fun H => He.tupB_ok b.t_DOES H) (fun _ _ => (.cons (.str _) (.cons (.str _) (.cons (.str _) .nil)))))) rfl) (v_one (e_cmp (op_inA rfl (unitsOf hr)) (Sem2.dr sem_inA) (b_of (e_ixA rfl (unitsOf hr) (b_var (pv 0)) (b_of e_int) (fun _ _ => rfl))) (b_of (e_globT rfl b.k_LOOKS (fun H => He.tupB_ok b.t_LOOKS H) (fun _ _ => (.cons (.str _) (.cons (.str _) (.cons (.str _) .nil)))))) rfl)))))))
/-! ### are_signs -/
abbrev s_are_signs : Stmt := top 17
theorem sc_are_signs : FnScope ["value", "sign"] ["value"] (defScope s_are_signs) := ⟨rfl, rfl, rfl, by decide +kernel, rfl, by decide +kernel, by decide +kernel⟩
def Q_are_signs : Sd := (sSeq (sIf (tOrF (tNotF (eU asB (eFn (purF 1 F_is_sequence) (eCons (eVar 0) eNil)))) (tNotF (eU asB (eChain (fun i j => decide (i ≤ j)) (fun i j => decide (i ≤ j)) (eC (.int 1)) (eU (dr1 sLenA) (eVarB 0)) (eC (.int 2)))))) (sRet (eC (.bl false))) sNil) (sRet (eU (dr1 sAll) (eLc (eU sIter (eVar 0)) (tgN 1) tYesF (eFn (purF 1 F_is_sign) (eCons (eVar 1) eNil)) [1]))))
def F_are_signs : Fn := fnOf 2 Q_are_signs
theorem ok_are_signs (b : Bl K mg) (G : Got K mg "are_signs" s_are_signs) (d_is_sequence : Def P w K mg base (St0 K) "is_sequence" 1 ["value"] F_is_sequence) (d_is_sign : Def P w K mg base (St0 K) "is_sign" 1 ["value"] F_is_sign) : Def P w K mg base (St0 K) "are_signs" 2 ["value"] F_are_signs :=
  def_mk (k := 1) G sc_are_signs (fun _ _ _ _ _ _ us hl => match us, hl with | [_], _ => rfl) fun f cdv A outer s H E hr => (ss_cons (s_if (PW.pt (w_or (t_not (t_val (x_call shows_pur d_is_sequence.s (hr.mono (by omega)) rfl (a_cons (e_var (pv 0)) a_nil)))) (w_or1 (t_not (t_chain op_le op_le (b_of e_int) (b_of (e_lenA rfl rfl b.x_len (b_var (pv 0)))) (b_of (e_globI rfl b.k_MOST_THINGS))))))) (ss_one (s_ret e_bl)) ss_nil) (ss_one (s_ret (e_all rfl rfl rfl b.x_all (b_of (e_of (f_lc (own := [("sign", 1)]) rfl sc_are_signs.nd (i_seq rfl (e_var (pv 0))) (blkOk_by rfl) (fun _ _ _ _ _ => (g_name (i := 1) sc_are_signs.nd rfl (by first | exact Or.inl rfl | exact Or.inr rfl))) (fun _ _ _ _ _ => ts_nil) (fun _ _ _ _ _ => (x_call shows_pur d_is_sign.s (hr.mono (by omega)) rfl (a_cons (e_var (pv 1)) a_nil))) (by decide))))))))
/-! ### Table.__init__ -/
abbrev s_Table_init : Stmt := meth 19 0
theorem sc_Table_init : FnScope ["self", "signs", "name"] ["self", "signs"] (defScope s_Table_init) := ⟨rfl, rfl, rfl, by decide +kernel, rfl, by decide +kernel, by decide +kernel⟩
def Q_Table_init : Sd := (sSeq (sIf (tOrF (tNotF (eU asB (eU (dr1 (sIsiX [.ty "dict"])) (eVarB 1)))) (eU asB (eB (dr2 sEq) (eU (dr1 sLenA) (eVarB 1)) (eC (.int 0))))) sNo sNil) (sSeq (sNoX (sFor (eKeys 1) (tgN 2) (sIf (tOrF (tNotF (eU asB (eFn (purF 1 F_is_name) (eCons (eVar 2) eNil)))) (tNotF (eU asB (eFn (purF 1 F_are_signs) (eCons (eB (dr2 sIxA) (eVarB 1) (eVarB 2)) eNil))))) sNo sNil))) (sSeq (sIf (eU asB (eB sGt (eLenSc (eKeys 1) (tgN 2) tYesF (eU (dr1 sLenA) (eB (dr2 sIxA) (eVarB 1) (eVarB 2))) [2]) (eC (.int 1)))) sNo sNil) (sSeq (sDo (eB (sPutF 0 "names") (eU (dr1 sTuple) (eU (dr1 sSorted) (eLc (eKeys 1) (tgN 2) tYesF (eU (dr1 sStr) (eVarB 2)) [2]))) (eVar 0))) (sSeq (sDo (eB (sPutF 0 "things") (eU (dr1 sLenA) (eB (dr2 sIxA) (eVarB 1) (eB (dr2 sIxA) (eU (dr1 (sFldG "names")) (eVarB 0)) (eC (.int 0))))) (eVar 0))) (sDo (eB (sPutF 0 "sign_rows") (eDc (eU sIter (eU (dr1 (sFldG "names")) (eVarB 0))) (tgN 2) tYesF (eVar 2) (eU (dr1 sTuple) (eB (dr2 sIxA) (eVarB 1) (eVarB 2))) [2]) (eVar 0))))))))
def F_Table_init : Fn := fnOfI 3 0 Q_Table_init
theorem ok_Table_init (b : Bl K mg) (G : GotP K (.met "Table" "__init__") "__init__" "Table.__init__" s_Table_init []) (d_is_name : Def P w K mg base (St0 K) "is_name" 1 ["value"] F_is_name) (d_are_signs : Def P w K mg base (St0 K) "are_signs" 2 ["value"] F_are_signs) : DefI P w K mg base (St0 K) "Table" 0 3 ["self", "signs"] F_Table_init :=
  init_mk (k := 2) G b.g_Table b.c_Table b.mk_Table rfl sc_Table_init (by decide) (fun _ _ _ _ _ _ us hl => match us, hl with | [_, _], _ => rfl) fun f cdv A outer s H E hr => (ss_cons (s_if (PW.pt (w_or (t_not (t_val (e_isiB (T := "dict") b.so rfl (by decide) rfl b.x_isinstance rfl b.x_dict (by decide +kernel) (b_var (pv 1))))) (w_or1 (t_cmp (op_eqX rfl (unitsOf hr)) (Sem2.dr sem_eq) (b_of (e_lenA rfl rfl b.x_len (b_var (pv 1)))) (b_of e_int) (nomark _))))) (ss_one s_no) ss_nil) (ss_cons (s_forD PassesOwn.never rfl (pv 1) (g_name (i := 2) sc_Table_init.nd rfl (by first | exact Or.inl rfl | exact Or.inr rfl)) (ss_one (s_if (PW.pt (w_or (t_not (t_val (x_call shows_pur d_is_name.s (hr.mono (by omega)) rfl (a_cons (e_var (pv 2)) a_nil)))) (w_or1 (t_not (t_val (x_call shows_pur d_are_signs.s (hr.mono (by omega)) rfl (a_cons (e_ixA rfl (unitsOf hr) (b_var (pv 1)) (b_var (pv 2)) (fun _ _ => rfl)) a_nil))))))) (ss_one s_no) ss_nil))) (ss_cons (s_if (t_cmp op_gt (sem_cmp _) (b_of (e_lenScD (own := [("name", 2)]) rfl b.x_len rfl sc_Table_init.nd (pv 1) (blkOk_by rfl) (fun _ _ _ _ _ => (g_name (i := 2) sc_Table_init.nd rfl (by first | exact Or.inl rfl | exact Or.inr rfl))) (fun _ _ _ _ _ => ts_nil) (fun _ _ _ _ _ => (e_lenA rfl rfl b.x_len (b_of (e_ixA rfl (unitsOf hr) (b_var (pv 1)) (b_var (pv 2)) (fun _ _ => rfl))))) (by decide))) (b_of e_int) (nomark _)) (ss_one s_no) ss_nil) (ss_cons (s_fldS (c := 0) rfl rfl b.na_Table_names (e_var (pv 0)) (e_tuple rfl rfl b.x_tuple (b_of (e_of (f_sorted rfl rfl b.x_sorted (b_of (e_of (f_lcD (own := [("name", 2)]) rfl sc_Table_init.nd (pv 1) (blkOk_by rfl) (fun _ _ _ _ _ => (g_name (i := 2) sc_Table_init.nd rfl (by first | exact Or.inl rfl | exact Or.inr rfl))) (fun _ _ _ _ _ => ts_nil) (fun _ _ _ _ _ => (e_str1 rfl b.x_str (b_var (pv 2)))) (by decide))))))))) (ss_cons (s_fldS (c := 0) rfl rfl b.na_Table_things (e_var (pv 0)) (e_lenA rfl rfl b.x_len (b_of (e_ixA rfl (unitsOf hr) (b_var (pv 1)) (b_of (e_ixA rfl (unitsOf hr) (b_of (e_fld rfl (b_var (pv 0)))) (b_of e_int) (fun _ _ => rfl))) (fun _ _ => rfl))))) (ss_one (s_fldS (c := 0) rfl rfl b.na_Table_sign_rows (e_var (pv 0)) (e_of (f_dc (own := [("name", 2)]) rfl sc_Table_init.nd (i_seq rfl (e_fld rfl (b_var (pv 0)))) (blkOk_by rfl) (fun _ _ _ _ _ => (g_name (i := 2) sc_Table_init.nd rfl (by first | exact Or.inl rfl | exact Or.inr rfl))) (fun _ _ _ _ _ => ts_nil) (fun _ _ _ _ _ => (e_var (pv 2))) (fun _ _ _ _ _ => (e_tuple rfl rfl b.x_tuple (b_of (e_ixA rfl (unitsOf hr) (b_var (pv 1)) (b_var (pv 2)) (fun _ _ => rfl))))) (by decide))))))))))
/-! ### signs_in -/
abbrev s_signs_in : Stmt := top 18
theorem sc_signs_in : FnScope ["line", "signs", "name", "gap", "others", "part"] ["line"] (defScope s_signs_in) := ⟨rfl, rfl, rfl, by decide +kernel, rfl, by decide +kernel, by decide +kernel⟩
def Q_signs_in : Sd := (sSeq (sAsg (eMt sPart (eVarB 0) (eC (.str " "))) (tgT 3 (tgCons (tgN 2) (tgCons (tgN 3) (tgCons (tgN 4) tgNil))))) (sSeq (sSet 1 (eU (dr1 sTuple) (eLc (eU sIter (eMt sSplit (eVarB 4) (eC (.str ", ")))) (tgN 5) tYesF (eU (dr1 sTuple) (eMt sSplit (eVarB 5) (eC (.str " ")))) [5]))) (sRet (eIf (tAndF (eU asB (eFn (purF 1 F_is_name) (eCons (eVar 2) eNil))) (eU asB (eFn (purF 1 F_are_signs) (eCons (eVar 1) eNil)))) (eTup (eCons (eVar 2) (eCons (eVar 1) eNil))) (eC .non)))))
def F_signs_in : Fn := fnOf 6 Q_signs_in
theorem ok_signs_in (b : Bl K mg) (G : Got K mg "signs_in" s_signs_in) (d_is_name : Def P w K mg base (St0 K) "is_name" 1 ["value"] F_is_name) (d_are_signs : Def P w K mg base (St0 K) "are_signs" 2 ["value"] F_are_signs) : Def P w K mg base (St0 K) "signs_in" 3 ["line"] F_signs_in :=
  def_mk (k := 2) G sc_signs_in (fun _ _ _ _ _ _ us hl => match us, hl with | [_], _ => rfl) fun f cdv A outer s H E hr => (ss_cons (s_asg (e_part (b_var (pv 0)) (b_of e_str)) (g_tup rfl rfl (gs_cons (g_name (i := 2) sc_signs_in.nd rfl (by first | exact Or.inl rfl | exact Or.inr rfl)) (gs_cons (g_name (i := 3) sc_signs_in.nd rfl (by first | exact Or.inl rfl | exact Or.inr rfl)) (gs_cons (g_name (i := 4) sc_signs_in.nd rfl (by first | exact Or.inl rfl | exact Or.inr rfl)) gs_nil))))) (ss_cons (s_set (i := 1) sc_signs_in.nd rfl (by first | exact Or.inl rfl | exact Or.inr rfl) (e_tuple rfl rfl b.x_tuple (b_of (e_of (f_lc (own := [("part", 5)]) rfl sc_signs_in.nd (i_seq rfl (e_of (f_split (b_var (pv 4)) (b_of e_str)))) (blkOk_by rfl) (fun _ _ _ _ _ => (g_name (i := 5) sc_signs_in.nd rfl (by first | exact Or.inl rfl | exact Or.inr rfl))) (fun _ _ _ _ _ => ts_nil) (fun _ _ _ _ _ => (e_tuple rfl rfl b.x_tuple (b_of (e_of (f_split (b_var (pv 5)) (b_of e_str)))))) (by decide)))))) (ss_one (s_ret (e_if (PW.pt (w_and (t_val (x_call shows_pur d_is_name.s (hr.mono (by omega)) rfl (a_cons (e_var (pv 2)) a_nil))) (w_and1 (t_val (x_call shows_pur d_are_signs.s (hr.mono (by omega)) rfl (a_cons (e_var (pv 1)) a_nil)))))) (e_tup (a_cons (e_var (pv 2)) (a_cons (e_var (pv 1)) a_nil))) e_non)))))
/-! ### Table.read -/
abbrev s_Table_read : Stmt := meth 19 1
theorem sc_Table_read : FnScope ["cls", "text", "found", "many", "at", "line", "told", "name", "signs"] ["cls", "text"] (defScope s_Table_read) := ⟨rfl, rfl, rfl, by decide +kernel, rfl, by decide +kernel, by decide +kernel⟩
def Q_Table_read : Sd := (sSeq (sParOS 2 3 (eC (.dic 0 [] [])) (eC (.int 0))) (sSeq (sFor (eU sEnum (eMt sSplit (eVarB 1) (eC (.str "\n")))) (tgT 2 (tgCons (tgN 4) (tgCons (tgN 5) tgNil))) (sSeq (sSet 6 (eFn (purF 1 F_signs_in) (eCons (eVar 5) eNil))) (sSeq (sIf (eU asB (eB sIsN (eVarB 6) (eC .non))) sNo sNil) (sSeq (sAsg (eVar 6) (tgT 2 (tgCons (tgN 7) (tgCons (tgN 8) tgNil)))) (sSeq (sSet 3 (eIf (eU asB (eB (dr2 sEq) (eVarB 4) (eC (.int 0)))) (eU (dr1 sLenA) (eVarB 8)) (eVar 3))) (sSeq (sIf (tOrF (eU asB (eB (dr2 sInA) (eVarB 7) (eVarB 2))) (eU asB (eB (dr2 sNe) (eU (dr1 sLenA) (eVarB 8)) (eVarB 3)))) sNo sNil) (sPutDO 2 (eVar 8) (eVar 7)))))))) (sUn [2] (sRet (eMakeL 0 0 1 F_Table_init (eCons (eVar 2) eNil))))))
def F_Table_read : Fn := fnOf 9 Q_Table_read
theorem ok_Table_read (b : Bl K mg) (G : GotP K (.cmt "Table" "read") "read" "Table.read" s_Table_read []) (d_signs_in : Def P w K mg base (St0 K) "signs_in" 3 ["line"] F_signs_in) (d_Table_init : DefI P w K mg base (St0 K) "Table" 0 3 ["self", "signs"] F_Table_init) : CmtS P w K mg base (St0 K) "Table" 0 "read" 5 ["cls", "text"] (Spec (St0 K) 2 F_Table_read) :=
  cmt_mk (k := 4) G b.g_Table b.cm_Table_read rfl sc_Table_read (fun _ _ _ _ _ _ us hl => match us, hl with | [_, _], _ => rfl) fun f cdv A outer s H E hr => (ss_cons (s_parOS (i := 2) (j := 3) rfl sc_Table_read.nd rfl rfl (by decide) rfl rfl f_dnewK e_int rfl) (ss_cons (s_for PassesOwn.never rfl (i_enum rfl rfl b.x_enumerate (e_of (f_split (b_var (pv 1)) (b_of e_str)))) (g_tup rfl rfl (gs_cons (g_name (i := 4) sc_Table_read.nd rfl (by first | exact Or.inl rfl | exact Or.inr rfl)) (gs_cons (g_name (i := 5) sc_Table_read.nd rfl (by first | exact Or.inl rfl | exact Or.inr rfl)) gs_nil))) (ss_cons (s_set (i := 6) sc_Table_read.nd rfl (by first | exact Or.inl rfl | exact Or.inr rfl) (x_call shows_pur d_signs_in.s (hr.mono (by omega)) rfl (a_cons (e_var (pv 5)) a_nil))) (ss_cons (s_if (t_cmp op_isN sem_isN (b_var (pv 6)) (b_of e_non) (nomark _)) (ss_one s_no) ss_nil) (ss_cons (s_asg (e_var (pv 6)) (g_tup rfl rfl (gs_cons (g_name (i := 7) sc_Table_read.nd rfl (by first | exact Or.inl rfl | exact Or.inr rfl)) (gs_cons (g_name (i := 8) sc_Table_read.nd rfl (by first | exact Or.inl rfl | exact Or.inr rfl)) gs_nil)))) (ss_cons (s_set (i := 3) sc_Table_read.nd rfl (by first | exact Or.inl rfl | exact Or.inr rfl) (e_if (t_cmp (op_eqX rfl (unitsOf hr)) (Sem2.dr sem_eq) (b_var (pv 4)) (b_of e_int) (nomark _)) (e_lenA rfl rfl b.x_len (b_var (pv 8))) (e_var (pv 3)))) (ss_cons (s_if (PW.pt (w_or (t_cmp (op_inA rfl (unitsOf hr)) (Sem2.dr sem_inA) (b_var (pv 7)) (b_var (pv 2)) rfl) (w_or1 (t_cmp (op_neX rfl (unitsOf hr)) (Sem2.dr sem_ne) (b_of (e_lenA rfl rfl b.x_len (b_var (pv 8)))) (b_var (pv 3)) (nomark _))))) (ss_one s_no) ss_nil) (ss_one (s_putDO (unitsOf hr) (e_var (pv 8)) (pv 2) (e_var (pv 7)))))))))) (ss_one (s_un [2] (s_ret (e_of (f_makeL (i := 0) rfl d_Table_init (hr.mono (by omega)) rfl (by first | exact Or.inl rfl | exact Or.inr (Or.inl rfl) | exact Or.inr (Or.inr rfl)) (a_cons (e_var (pv 2)) a_nil))))))))
/-! ### Table.__eq__ -/
abbrev s_Table_eq : Stmt := meth 19 15
theorem sc_Table_eq : FnScope ["self", "other"] ["self", "other"] (defScope s_Table_eq) := ⟨rfl, rfl, rfl, by decide +kernel, rfl, by decide +kernel, by decide +kernel⟩
def Q_Table_eq : Sd := (sRet (vAndF (eU (dr1 (sIsiX [.own 0])) (eVarB 1)) (eB (dr2 (sEqD false)) (eU (dr1 (sFldG "sign_rows")) (eVarB 0)) (eU (dr1 (sFldG "sign_rows")) (eVarB 1)))))
def F_Table_eq : Fn := fnOf 2 Q_Table_eq
theorem ok_Table_eq (b : Bl K mg) (G : GotP K (.met "Table" "__eq__") "__eq__" "Table.__eq__" s_Table_eq []) : MetS P w K mg base (St0 K) 0 "__eq__" 1 ["self", "other"] (Spec (St0 K) 2 F_Table_eq) :=
  met_mk (k := 0) G b.c_Table b.me_Table_eq rfl sc_Table_eq (fun _ _ _ _ _ _ us hl => match us, hl with | [_, _], _ => rfl) fun f cdv A outer s H E hr => (ss_one (s_ret (v_and (e_isiC b.so rfl rfl rfl b.x_isinstance rfl b.g_Table (b_var (pv 1))) (v_one (e_cmp (op_eqDic rfl (unitsOf hr)) (Sem2.dr sem_eqD) (b_of (e_fld rfl (b_var (pv 0)))) (b_of (e_fld rfl (b_var (pv 1)))) (nomark _))))))
/-! ### Table.__str__ -/
abbrev s_Table_str : Stmt := meth 19 16
theorem sc_Table_str : FnScope ["self", "lines", "name", "sign"] ["self"] (defScope s_Table_str) := ⟨rfl, rfl, rfl, by decide +kernel, rfl, by decide +kernel, by decide +kernel⟩
def Q_Table_str : Sd := (sSeq (sSetO 1 (eLst eNil)) (sSeq (sFor (eU sIter (eU (dr1 (sFldG "names")) (eVarB 0))) (tgN 2) (sAppend 1 (eMt sJoin (eC (.str " ")) (eLst (eCons (eVar 2) (eCons (eMt sJoin (eC (.str ", ")) (eLc (eU sIter (eB (dr2 sIxA) (eU (dr1 (sFldG "sign_rows")) (eVarB 0)) (eVarB 2))) (tgN 3) tYesF (eMt sJoin (eC (.str " ")) (eVarB 3)) [3])) eNil)))))) (sRet (eMt sJoin (eC (.str "\n")) (eVarB 1)))))
def F_Table_str : Fn := fnOf 4 Q_Table_str
theorem ok_Table_str (b : Bl K mg) (G : GotP K (.met "Table" "__str__") "__str__" "Table.__str__" s_Table_str []) : MetS P w K mg base (St0 K) 0 "__str__" 1 ["self"] (Spec (St0 K) 1 F_Table_str) :=
  met_mk (k := 0) G b.c_Table b.me_Table_str rfl sc_Table_str (fun _ _ _ _ _ _ us hl => match us, hl with | [_], _ => rfl) fun f cdv A outer s H E hr => (ss_cons (s_setO (i := 1) sc_Table_str.nd rfl (by first | exact Or.inl rfl | exact Or.inr rfl) (f_lst a_nil)) (ss_cons (s_for PassesOwn.never rfl (i_seq rfl (e_fld rfl (b_var (pv 0)))) (g_name (i := 2) sc_Table_str.nd rfl (by first | exact Or.inl rfl | exact Or.inr rfl)) (ss_one (s_append (pv 1) (e_join rfl (b_of e_str) (b_of (e_of (f_lst (a_cons (e_var (pv 2)) (a_cons (e_join rfl (b_of e_str) (b_of (e_of (f_lc (own := [("sign", 3)]) rfl sc_Table_str.nd (i_seq rfl (e_ixA rfl (unitsOf hr) (b_of (e_fld rfl (b_var (pv 0)))) (b_var (pv 2)) (fun _ _ => rfl))) (blkOk_by rfl) (fun _ _ _ _ _ => (g_name (i := 3) sc_Table_str.nd rfl (by first | exact Or.inl rfl | exact Or.inr rfl))) (fun _ _ _ _ _ => ts_nil) (fun _ _ _ _ _ => (e_join rfl (b_of e_str) (b_var (pv 3)))) (by decide))))) a_nil))))))))) (ss_one (s_ret (e_join rfl (b_of e_str) (b_var (pv 1)))))))
/-! ### Table.__contains__ -/
abbrev s_Table_contains : Stmt := meth 19 12
theorem sc_Table_contains : FnScope ["self", "name"] ["self", "name"] (defScope s_Table_contains) := ⟨rfl, rfl, rfl, by decide +kernel, rfl, by decide +kernel, by decide +kernel⟩
def Q_Table_contains : Sd := (sRet (vAndF (eU (dr1 (sIsiX [.ty "str"])) (eVarB 1)) (eB (dr2 sInA) (eVarB 1) (eU (dr1 (sFldG "sign_rows")) (eVarB 0)))))
def F_Table_contains : Fn := fnOf 2 Q_Table_contains
theorem ok_Table_contains (b : Bl K mg) (G : GotP K (.met "Table" "__contains__") "__contains__" "Table.__contains__" s_Table_contains []) : MetS P w K mg base (St0 K) 0 "__contains__" 1 ["self", "name"] (Spec (St0 K) 2 F_Table_contains) :=
  met_mk (k := 0) G b.c_Table b.me_Table_contains rfl sc_Table_contains (fun _ _ _ _ _ _ us hl => match us, hl with | [_, _], _ => rfl) fun f cdv A outer s H E hr => (ss_one (s_ret (v_and (e_isiB (T := "str") b.so rfl (by decide) rfl b.x_isinstance rfl b.x_str (by decide +kernel) (b_var (pv 1))) (v_one (e_cmp (op_inA rfl (unitsOf hr)) (Sem2.dr sem_inA) (b_var (pv 1)) (b_of (e_fld rfl (b_var (pv 0)))) rfl)))))
/-! ### Table.need -/
abbrev s_Table_need : Stmt := meth 19 2
theorem sc_Table_need : FnScope ["self", "name"] ["self", "name"] (defScope s_Table_need) := ⟨rfl, rfl, rfl, by decide +kernel, rfl, by decide +kernel, by decide +kernel⟩
def Q_Table_need : Sd := (sIf (eU asB (eB (sInO 0 (purF 2 F_Table_contains) true) (eVar 1) (eVar 0))) sNo sNil)
def F_Table_need : Fn := fnOf 2 Q_Table_need
theorem ok_Table_need (b : Bl K mg) (G : GotP K (.met "Table" "need") "need" "Table.need" s_Table_need []) (d_Table_contains : MetS P w K mg base (St0 K) 0 "__contains__" 1 ["self", "name"] (Spec (St0 K) 2 F_Table_contains)) : MetS P w K mg base (St0 K) 0 "need" 2 ["self", "name"] (Spec (St0 K) 2 F_Table_need) :=
  met_mk (k := 1) G b.c_Table b.me_Table_need rfl sc_Table_need (fun _ _ _ _ _ _ us hl => match us, hl with | [_, _], _ => rfl) fun f cdv A outer s H E hr => (ss_one (s_if (t_notInO shows_pur d_Table_contains.spc (hr.mono (by omega)) (e_var (pv 1)) (e_var (pv 0))) (ss_one s_no) ss_nil))
/-! ### Table.look -/
abbrev s_Table_look : Stmt := meth 19 4
theorem sc_Table_look : FnScope ["self", "name", "thing"] ["self", "name", "thing"] (defScope s_Table_look) := ⟨rfl, rfl, rfl, by decide +kernel, rfl, by decide +kernel, by decide +kernel⟩
def Q_Table_look : Sd := (sSeq (sDo (eMet 0 "need" (purF 2 F_Table_need) (eVar 0) (eCons (eVar 1) eNil))) (sRet (eB (dr2 sIxA) (eB (dr2 sIxA) (eB (dr2 sIxA) (eU (dr1 (sFldG "sign_rows")) (eVarB 0)) (eVarB 1)) (eVarB 2)) (eC (.int 1)))))
def F_Table_look : Fn := fnOf 3 Q_Table_look
theorem ok_Table_look (b : Bl K mg) (G : GotP K (.met "Table" "look") "look" "Table.look" s_Table_look []) (d_Table_need : MetS P w K mg base (St0 K) 0 "need" 2 ["self", "name"] (Spec (St0 K) 2 F_Table_need)) : MetS P w K mg base (St0 K) 0 "look" 3 ["self", "name", "thing"] (Spec (St0 K) 3 F_Table_look) :=
  met_mk (k := 2) G b.c_Table b.me_Table_look rfl sc_Table_look (fun _ _ _ _ _ _ us hl => match us, hl with | [_, _, _], _ => rfl) fun f cdv A outer s H E hr => (ss_cons (s_do (x_met shows_pur d_Table_need (hr.mono (by omega)) (e_var (pv 0)) (a_cons (e_var (pv 1)) a_nil))) (ss_one (s_ret (e_ixA rfl (unitsOf hr) (b_of (e_ixA rfl (unitsOf hr) (b_of (e_ixA rfl (unitsOf hr) (b_of (e_fld rfl (b_var (pv 0)))) (b_var (pv 1)) (fun _ _ => rfl))) (b_var (pv 2)) (fun _ _ => rfl))) (b_of e_int) (fun _ _ => rfl)))))
/-! ### Table.does -/
abbrev s_Table_does : Stmt := meth 19 3
theorem sc_Table_does : FnScope ["self", "name", "thing"] ["self", "name", "thing"] (defScope s_Table_does) := ⟨rfl, rfl, rfl, by decide +kernel, rfl, by decide +kernel, by decide +kernel⟩
def Q_Table_does : Sd := (sSeq (sDo (eMet 0 "need" (purF 2 F_Table_need) (eVar 0) (eCons (eVar 1) eNil))) (sRet (eB (dr2 sIxA) (eB (dr2 sIxA) (eB (dr2 sIxA) (eU (dr1 (sFldG "sign_rows")) (eVarB 0)) (eVarB 1)) (eVarB 2)) (eC (.int 0)))))
def F_Table_does : Fn := fnOf 3 Q_Table_does
theorem ok_Table_does (b : Bl K mg) (G : GotP K (.met "Table" "does") "does" "Table.does" s_Table_does []) (d_Table_need : MetS P w K mg base (St0 K) 0 "need" 2 ["self", "name"] (Spec (St0 K) 2 F_Table_need)) : MetS P w K mg base (St0 K) 0 "does" 3 ["self", "name", "thing"] (Spec (St0 K) 3 F_Table_does) :=
  met_mk (k := 2) G b.c_Table b.me_Table_does rfl sc_Table_does (fun _ _ _ _ _ _ us hl => match us, hl with | [_, _, _], _ => rfl) fun f cdv A outer s H E hr => (ss_cons (s_do (x_met shows_pur d_Table_need (hr.mono (by omega)) (e_var (pv 0)) (a_cons (e_var (pv 1)) a_nil))) (ss_one (s_ret (e_ixA rfl (unitsOf hr) (b_of (e_ixA rfl (unitsOf hr) (b_of (e_ixA rfl (unitsOf hr) (b_of (e_fld rfl (b_var (pv 0)))) (b_var (pv 1)) (fun _ _ => rfl))) (b_var (pv 2)) (fun _ _ => rfl))) (b_of e_int) (fun _ _ => rfl)))))
/-! ### law -/
abbrev s_law : Stmt := top 29
theorem sc_law : FnScope ["_law_script", "_law_base", "_law_deal", "_law_turn", "_law_table_here", "_law_lines", "_law_read", "_law_text", "_law_made", "_law_name", "_law_thing"] ["_law_script"] (defScope s_law) := ⟨rfl, rfl, rfl, by decide +kernel, rfl, by decide +kernel, by decide +kernel⟩
def Q_law : Sd := (sSeq (sFor (eU (fun d g => sRng (.int 0) d g) (eB sMax2 (eC (.int 1)) (eB sMin2 (eC (.int 3)) (eU (dr1 sLenA) (eVarB 0))))) (tgN 1) (sSeq (sSet 2 (eCall 2 F__law_source (eCons (eVar 0) (eCons (eVar 1) eNil)))) (sFor (eU (fun d g => sRng (.int 0) d g) (eC (.int 5))) (tgN 3) (sSeq (sSet 4 (eCall 3 F__law_table (eCons (eVar 2) (eCons (eCall 2 F__law_names (eCons (eVar 2) (eCons (eB (dr2 sAddA) (eC (.int 1)) (eCall 2 F__law_draw (eCons (eVar 2) (eCons (eC (.int 6)) eNil)))) eNil))) (eCons (eB (dr2 sAddA) (eC (.int 1)) (eCall 2 F__law_draw (eCons (eVar 2) (eCons (eC (.int 2)) eNil)))) eNil))))) (sSeq (sPar 7 8 (eFn (purF 1 F__law_table_text) (eCons (eVar 4) eNil)) (eFn (purF 1 F_Table_init) (eCons (eVar 4) eNil))) (sSeq (sSet 5 (eCall 2 F__law_mixed (eCons (eVar 2) (eCons (eMt sSplit (eVarB 7) (eC (.str "\n"))) eNil)))) (sSeq (sSet 6 (eFn (fun ds g => purF 2 F_Table_read (.cls 0 :: ds) g) (eCons (eMt sJoin (eC (.str "\n")) (eVarB 5)) eNil))) (sSeq (sIf (tOrF (eU asB (eB (sEqO 0 (purF 2 F_Table_eq) true) (eVar 6) (eVar 8))) (tOrF (eU asB (eB (dr2 sNe) (eU (sStrO 0 (purF 1 F_Table_str)) (eVar 6)) (eVarB 7))) (tOrF (eU asB (eB (sEqO 0 (purF 2 F_Table_eq) true) (eFn (fun ds g => purF 2 F_Table_read (.cls 0 :: ds) g) (eCons (eVar 7) eNil)) (eVar 8))) (eU asB (eB (sEqO 0 (purF 2 F_Table_eq) true) (eFn (fun ds g => purF 2 F_Table_read (.cls 0 :: ds) g) (eCons (eU (sStrO 0 (purF 1 F_Table_str)) (eVar 6)) eNil)) (eVar 6)))))) (sRet (eC (.bl false))) sNil) (sSeq (sIf (tOrF (eU asB (eB (dr2 sNe) (eU (dr1 (sFldG "names")) (eVarB 6)) (eU (dr1 (sFldG "names")) (eVarB 8)))) (eU asB (eB (dr2 sNe) (eU (dr1 (sFldG "things")) (eVarB 6)) (eU (dr1 (sFldG "things")) (eVarB 8))))) (sRet (eC (.bl false))) sNil) (sSeq (sPar 9 10 (eCall 2 F__law_pick (eCons (eVar 2) (eCons (eU (dr1 sList) (eU (dr1 (sFldG "names")) (eVarB 8))) eNil))) (eCall 2 F__law_draw (eCons (eVar 2) (eCons (eU (dr1 (sFldG "things")) (eVarB 8)) eNil)))) (sIf (eU asB (eB (dr2 sNe) (eTup (eCons (eMet 0 "does" (purF 3 F_Table_does) (eVar 6) (eCons (eVar 9) (eCons (eVar 10) eNil))) (eCons (eMet 0 "look" (purF 3 F_Table_look) (eVar 6) (eCons (eVar 9) (eCons (eVar 10) eNil))) eNil))) (eB (dr2 sIxA) (eB (dr2 sIxA) (eVarB 4) (eVarB 9)) (eVarB 10)))) (sRet (eC (.bl false))) sNil))))))))))) (sRet (eC (.bl true))))
def F_law : Fn := fnOf 11 Q_law
theorem ok_law {f : Addr} {fd : FuncData} (b : Bl K mg) (F : FunD K "law" "law" (defArgs s_law) (defBody s_law) (defScope s_law) [] [] f fd) (d__law_source : Def P w K mg base (St0 K) "_law_source" 1 ["_law_script", "_law_base"] F__law_source) (d__law_table : Def P w K mg base (St0 K) "_law_table" 4 ["_law_deal", "_law_names_here", "_law_things"] F__law_table) (d__law_draw : Def P w K mg base (St0 K) "_law_draw" 1 ["_law_deal", "_law_wide"] F__law_draw) (d__law_names : Def P w K mg base (St0 K) "_law_names" 3 ["_law_deal", "_law_amount"] F__law_names) (d__law_table_text : Def P w K mg base (St0 K) "_law_table_text" 1 ["_law_table_here"] F__law_table_text) (d_Table_init : DefI P w K mg base (St0 K) "Table" 0 3 ["self", "signs"] F_Table_init) (d__law_mixed : Def P w K mg base (St0 K) "_law_mixed" 2 ["_law_deal", "_law_some"] F__law_mixed) (d_Table_read : CmtS P w K mg base (St0 K) "Table" 0 "read" 5 ["cls", "text"] (Spec (St0 K) 2 F_Table_read)) (d_Table_eq : MetS P w K mg base (St0 K) 0 "__eq__" 1 ["self", "other"] (Spec (St0 K) 2 F_Table_eq)) (d_Table_str : MetS P w K mg base (St0 K) 0 "__str__" 1 ["self"] (Spec (St0 K) 1 F_Table_str)) (d__law_pick : Def P w K mg base (St0 K) "_law_pick" 2 ["_law_deal", "_law_some"] F__law_pick) (d_Table_look : MetS P w K mg base (St0 K) 0 "look" 3 ["self", "name", "thing"] (Spec (St0 K) 3 F_Table_look)) (d_Table_does : MetS P w K mg base (St0 K) 0 "does" 3 ["self", "name", "thing"] (Spec (St0 K) 3 F_Table_does)) : FnOk P w K mg base CX0 6 f fd ["_law_script"] (Spec (St0 K) 1 F_law) :=
  fn_ok (k := 5) F sc_law fun cdv A outer s H E hr => (ss_cons (s_for PassesOwn.never rfl (i_range1 rfl b.x_range (e_max2 rfl rfl b.x_max (b_of e_int) (b_of (e_min2 rfl rfl b.x_min (b_of e_int) (b_of (e_lenA rfl rfl b.x_len (b_var (pv 0)))))))) (g_name (i := 1) sc_law.nd rfl (by first | exact Or.inl rfl | exact Or.inr rfl)) (ss_cons (s_set (i := 2) sc_law.nd rfl (by first | exact Or.inl rfl | exact Or.inr rfl) (c_call d__law_source (hr.mono (by omega)) rfl (a_cons (e_var (pv 0)) (a_cons (e_var (pv 1)) a_nil)))) (ss_one (s_for PassesOwn.never rfl (i_range1 rfl b.x_range e_int) (g_name (i := 3) sc_law.nd rfl (by first | exact Or.inl rfl | exact Or.inr rfl)) (ss_cons (s_set (i := 4) sc_law.nd rfl (by first | exact Or.inl rfl | exact Or.inr rfl) (c_call d__law_table (hr.mono (by omega)) rfl (a_cons (e_var (pv 2)) (a_cons (c_call d__law_names (hr.mono (by omega)) rfl (a_cons (e_var (pv 2)) (a_cons (e_addA rfl (b_of e_int) (b_of (c_call d__law_draw (hr.mono (by omega)) rfl (a_cons (e_var (pv 2)) (a_cons e_int a_nil))))) a_nil))) (a_cons (e_addA rfl (b_of e_int) (b_of (c_call d__law_draw (hr.mono (by omega)) rfl (a_cons (e_var (pv 2)) (a_cons e_int a_nil))))) a_nil))))) (ss_cons (s_par (i := 7) (j := 8) rfl sc_law.nd rfl rfl (by decide) rfl rfl (x_call shows_pur d__law_table_text.s (hr.mono (by omega)) rfl (a_cons (e_var (pv 4)) a_nil)) (e_of (x_make rfl d_Table_init (hr.mono (by omega)) rfl (a_cons (e_var (pv 4)) a_nil))) rfl) (ss_cons (s_set (i := 5) sc_law.nd rfl (by first | exact Or.inl rfl | exact Or.inr rfl) (c_call d__law_mixed (hr.mono (by omega)) rfl (a_cons (e_var (pv 2)) (a_cons (e_of (f_split (b_var (pv 7)) (b_of e_str))) a_nil)))) (ss_cons (s_set (i := 6) sc_law.nd rfl (by first | exact Or.inl rfl | exact Or.inr rfl) (x_cmet shows_pur d_Table_read (hr.mono (by omega)) rfl (a_cons (e_join rfl (b_of e_str) (b_var (pv 5))) a_nil))) (ss_cons (s_if (PW.pt (w_or (t_neO shows_pur d_Table_eq.spc (fun _ h => (Option.some.inj h) ▸ chNe_ok b.ne_Table) (hr.mono (by omega)) (e_var (pv 6)) (e_var (pv 8))) (w_or (t_cmp (op_neX rfl (unitsOf hr)) (Sem2.dr sem_ne) (b_of (e_strO shows_pur d_Table_str.spc (hr.mono (by omega)) rfl b.x_str (e_var (pv 6)))) (b_var (pv 7)) (nomark _)) (w_or (t_neO shows_pur d_Table_eq.spc (fun _ h => (Option.some.inj h) ▸ chNe_ok b.ne_Table) (hr.mono (by omega)) (x_cmet shows_pur d_Table_read (hr.mono (by omega)) rfl (a_cons (e_var (pv 7)) a_nil)) (e_var (pv 8))) (w_or1 (t_neO shows_pur d_Table_eq.spc (fun _ h => (Option.some.inj h) ▸ chNe_ok b.ne_Table) (hr.mono (by omega)) (x_cmet shows_pur d_Table_read (hr.mono (by omega)) rfl (a_cons (e_strO shows_pur d_Table_str.spc (hr.mono (by omega)) rfl b.x_str (e_var (pv 6))) a_nil)) (e_var (pv 6)))))))) (ss_one (s_ret e_bl)) ss_nil) (ss_cons (s_if (PW.pt (w_or (t_cmp (op_neX rfl (unitsOf hr)) (Sem2.dr sem_ne) (b_of (e_fld rfl (b_var (pv 6)))) (b_of (e_fld rfl (b_var (pv 8)))) (nomark _)) (w_or1 (t_cmp (op_neX rfl (unitsOf hr)) (Sem2.dr sem_ne) (b_of (e_fld rfl (b_var (pv 6)))) (b_of (e_fld rfl (b_var (pv 8)))) (nomark _))))) (ss_one (s_ret e_bl)) ss_nil) (ss_cons (s_par (i := 9) (j := 10) rfl sc_law.nd rfl rfl (by decide) rfl rfl (c_call d__law_pick (hr.mono (by omega)) rfl (a_cons (e_var (pv 2)) (a_cons (e_of (f_list rfl rfl b.x_list (b_of (e_fld rfl (b_var (pv 8)))))) a_nil))) (c_call d__law_draw (hr.mono (by omega)) rfl (a_cons (e_var (pv 2)) (a_cons (e_fld rfl (b_var (pv 8))) a_nil))) rfl) (ss_one (s_if (t_cmp (op_neX rfl (unitsOf hr)) (Sem2.dr sem_ne) (b_of (e_tup (a_cons (x_met shows_pur d_Table_does (hr.mono (by omega)) (e_var (pv 6)) (a_cons (e_var (pv 9)) (a_cons (e_var (pv 10)) a_nil))) (a_cons (x_met shows_pur d_Table_look (hr.mono (by omega)) (e_var (pv 6)) (a_cons (e_var (pv 9)) (a_cons (e_var (pv 10)) a_nil))) a_nil)))) (b_of (e_ixA rfl (unitsOf hr) (b_of (e_ixA rfl (unitsOf hr) (b_var (pv 4)) (b_var (pv 9)) (fun _ _ => rfl))) (b_var (pv 10)) (fun _ _ => rfl))) (nomark _)) (ss_one (s_ret e_bl)) ss_nil))))))))))))) (ss_one (s_ret e_bl)))
end
end Lw
namespace Lw
open PySem PySem.Spec PyProof.Rows L2 Ev
/-! ### draws -/
theorem draw_spec : Draws (Dealt "mixed") F__law_draw := fun h h0 h1 hP => draw_dic (key := "mixed") (c1 := 30529) (c2 := 53) (c3 := 64) (by decide) (by decide) (by decide) h h0 h1 hP
theorem mixed_spec {n : Nat} {g : Sto} {xs : List D} {P : D → Sto → Prop} (h : Dealt "mixed" n g) (hl : xs.length < 70) (hP : ∀ ys g', ys.Perm xs → Dealt "mixed" n g' → P (.lst ys) g') : Ok (F__law_mixed [.loc n, .lst xs] g) P := by
  unfold F__law_mixed Q__law_mixed
  rw [Ok_fnOf]
  simp [dr1, dr, sList, List.replicate, big, sLenA, rng_ok (show xs.length < 1000 by omega)]
  refine mix_for (J := Dealt "mixed") draw_spec h hl fun t ys g' hp hd => ?_
  have e : unown [4] [.sh (.loc n), .sh (.lst xs), t, .ow (.lst []), .ow (.lst ys)] = [.sh (.loc n), .sh (.lst xs), t, .ow (.lst []), .sh (.lst ys)] := rfl
  simp
  exact hP ys g' hp hd
def every : List Str := ["a", "b", "c", "ab", "test", "zzzz", "two", "on", "off", "sets", "seen", "x"]
theorem cut_take {α : Type} (xs : List α) (k : Nat) : cutL xs none (some (k : Int)) = xs.take k := by
  unfold cutL HT.sIx
  simp [show ¬ ((k : Int) < 0) by omega]
def unS : D → Str
  | .str z => z
  | _ => ""
theorem perm_strs {ys : List D} {zs : List Str} (h : ys.Perm (zs.map .str)) : ∃ ws : List Str, ys = ws.map .str ∧ ws.Perm zs := by
  have h1 : ∀ d ∈ ys, ∃ z, d = .str z := fun d hd => by
    obtain ⟨z, _, e⟩ := List.mem_map.mp (h.mem_iff.mp hd)
    exact ⟨z, e.symm⟩
  have h2 : ∃ ws : List Str, ys = ws.map .str := by
    clear h
    induction ys with
    | nil => exact ⟨[], rfl⟩
    | cons d r ih =>
      obtain ⟨z, rfl⟩ := h1 d List.mem_cons_self
      obtain ⟨ws, e⟩ := ih fun d hd => h1 d (List.mem_cons_of_mem _ hd)
      exact ⟨z :: ws, by rw [e]; rfl⟩
  obtain ⟨ws, rfl⟩ := h2
  refine ⟨ws, rfl, ?_⟩
  have := h.map unS
  rw [List.map_map, List.map_map] at this
  have e : unS ∘ D.str = id := rfl
  rw [e, List.map_id, List.map_id] at this
  exact this
theorem names_spec {n : Nat} {g : Sto} {k : Nat} {P : D → Sto → Prop} (h : Dealt "mixed" n g) (hk : k ≤ 12) (hP : ∀ (ys : List Str) g', (∀ y ∈ ys, y ∈ every) → ys.Nodup → ys.length = k → Dealt "mixed" n g' → P (.lst (ys.map .str)) g') : Ok (F__law_names [.loc n, .int k] g) P := by
  unfold F__law_names Q__law_names
  rw [Ok_fnOf]
  simp [List.replicate, big]
  refine mixed_spec h (by decide) fun ys g' hp hd => ?_
  obtain ⟨ws, rfl, hp'⟩ := perm_strs (zs := every) hp
  simp [sSlA, dr, cut_take]
  rw [← List.map_take]
  refine hP _ g' (fun y hy => hp'.mem_iff.mp (List.mem_of_mem_take hy)) ?_ ?_ hd
  · exact ((hp'.nodup_iff).mpr (by decide)).sublist (List.take_sublist _ _)
  · rw [List.length_take, hp'.length_eq]
    exact Nat.min_eq_left hk
theorem pick_spec {n : Nat} {g : Sto} {xs : List D} {P : D → Sto → Prop} (h : Dealt "mixed" n g) (hne : xs ≠ []) (hl : xs.length < 1000) (hP : ∀ x ∈ xs, ∀ g', Dealt "mixed" n g' → P x g') : Ok (F__law_pick [.loc n, .lst xs] g) P := by
  have h0 : 0 < xs.length := List.length_pos_iff.mpr hne
  unfold F__law_pick Q__law_pick
  rw [Ok_fnOf]
  simp [List.replicate, dr1, dr, sLenA]
  refine draw_spec h (by omega) (by omega) fun i g' hi hd => ?_
  have e : L2.atI xs (i : Int) = some (xs[i]'(by omega)) := by
    have hi' : L2.ixN xs.length (i : Int) = some i := by simp [L2.ixN]; omega
    simp [L2.atI, hi', List.getElem?_eq_getElem (show i < xs.length by omega)]
  simp [dr2, dr, sIxA, sIx, e]
  exact hP _ (List.getElem_mem _) g' hd
theorem strs_of {ys : List D} {zs : List Str} (h : ∀ d ∈ ys, ∃ z ∈ zs, d = .str z) : ∃ ws : List Str, ys = ws.map .str ∧ ∀ w ∈ ws, w ∈ zs := by
  induction ys with
  | nil => exact ⟨[], rfl, by simp⟩
  | cons d r ih =>
    obtain ⟨z, hz, rfl⟩ := h d List.mem_cons_self
    obtain ⟨ws, e, hw⟩ := ih fun d hd => h d (List.mem_cons_of_mem _ hd)
    exact ⟨z :: ws, by rw [e]; rfl, fun w hw' => by
      rcases List.mem_cons.mp hw' with rfl | hw'
      · exact hz
      · exact hw w hw'⟩
theorem source_spec {ns : List Int} {i : Int} {g : Sto} {P : D → Sto → Prop} (hP : ∀ n g', Dealt "mixed" n g' → P (.loc n) g') : Ok (F__law_source [.frz (ns.map .int), .int i] g) P :=
  source_dic (key := "mixed") (c1 := 91283743) (c2 := 61) (c3 := 30529) (c4 := 2147483477) (c5 := 29) (lim := 62) (by decide) (by decide) (by decide) (by decide) (by decide) (by decide) hP
theorem rng_nat {m : Int} {g : Sto} {P : List D → Sto → Prop} (h0 : 0 ≤ m) (h1 : m < 1000) (hP : ∀ k : Nat, P ((List.range k).map fun j => D.int (j : Nat)) g) : Ok (sRng (.int 0) (.int m) g) P := by
  obtain ⟨k, rfl⟩ := Int.eq_ofNat_of_zero_le h0
  rw [rng_ok (by omega)]
  exact hP k
theorem enum_mem {d : D} : ∀ {ds : List D} {i : Nat}, d ∈ enumD ds i → ∃ (k : Nat) (x : D), x ∈ ds ∧ d = .tup [.int k, x]
  | x :: ds, i, h => by
    unfold enumD at h
    rcases List.mem_cons.mp h with rfl | h
    · exact ⟨i, x, List.mem_cons_self, rfl⟩
    · obtain ⟨k, y, hy, e⟩ := enum_mem h
      exact ⟨k, y, List.mem_cons_of_mem _ hy, e⟩
theorem _root_.Ev.All2.left {α β : Type} {Q : α → β → Prop} : ∀ {as : List α} {bs : List β}, All2 Q as bs → ∀ a ∈ as, ∃ b ∈ bs, Q a b
  | _, _, .cons q t, a, ha => by
    rcases List.mem_cons.mp ha with rfl | ha
    · exact ⟨_, List.mem_cons_self, q⟩
    · obtain ⟨b, hb, h⟩ := t.left a ha
      exact ⟨b, List.mem_cons_of_mem _ hb, h⟩
theorem bls_all {α : Type} (l : List α) : blsOf (l.map fun _ => D.bl true) = some (l.map fun _ => true) := by
  induction l with
  | nil => rfl
  | cons a l ih => simp [blsOf, ih]
theorem wipe_len {env : Ev.Env} {vs : List Nat} : (wipeE env vs).length = env.length := by
  induction vs generalizing env with
  | nil => rfl
  | cons v vs ih => simp [wipeE, ih]
theorem noLoc_strs {α : Type} (f : α → Str) (l : List α) : noLocL (l.map fun a => D.str (f a)) = true := by
  induction l with
  | nil => rfl
  | cons a l ih => simp [noLocL, noLoc, ih]
theorem is_name_ok {z : Str} (h : z ∈ every) : F_is_name [.str z] [] = .ok (.bl true) [] := by
  simp only [every, List.mem_cons, List.mem_nil_iff, or_false] at h
  rcases h with rfl | rfl | rfl | rfl | rfl | rfl | rfl | rfl | rfl | rfl | rfl | rfl <;> rfl
theorem is_sequence_lst {ds : List D} : F_is_sequence [.lst ds] [] = .ok (.bl true) [] := rfl
theorem enumD_at (ds : List D) (i : Nat) (hi : i < (enumD ds).length) : (enumD ds)[i] = .tup [.int (i : Nat), ds[i]'(by rw [enumD_len] at hi; exact hi)] := by
  have h : (enumD ds)[i]? = some (enumD ds)[i] := List.getElem?_eq_getElem hi
  obtain ⟨x, e1, e2⟩ := enumD_get ds 0 i _ h
  rw [e2]
  have := (List.getElem?_eq_some_iff.mp e1).2
  rw [this]
  simp
/-! ### signs, drawn tables -/
abbrev Sg := Str × Str
def does3 : List Str := ["sets", "clears", "leaves"]
def looks3 : List Str := ["never", "on", "off"]
def okS (s : Sg) : Prop := s.1 ∈ does3 ∧ s.2 ∈ looks3
def sgD (s : Sg) : D := .tup [.str s.1, .str s.2]
theorem sign_spec {n : Nat} {g : Sto} {P : D → Sto → Prop} (h : Dealt "mixed" n g) (hP : ∀ s g', okS s → Dealt "mixed" n g' → P (sgD s) g') : Ok (F__law_sign [.loc n] g) P := by
  unfold F__law_sign Q__law_sign
  rw [Ok_fnOf]
  simp [List.replicate, big]
  refine pick_spec h (by simp) (by simp) fun x hx g1 hd1 => ?_
  simp [big]
  refine pick_spec (xs := looks3.map D.str) hd1 (by simp [looks3]) (by simp [looks3]) fun y hy g2 hd2 => ?_
  obtain ⟨a, ha, rfl⟩ := List.mem_map.mp (show x ∈ does3.map D.str from hx)
  obtain ⟨b, hb, rfl⟩ := List.mem_map.mp (show y ∈ looks3.map D.str from hy)
  exact hP (a, b) g2 ⟨ha, hb⟩ hd2
abbrev Tab := List (Str × List Sg)
def sgs (l : List Sg) : D := .lst (l.map sgD)
def sgT (l : List Sg) : D := .tup (l.map sgD)
theorem sgs_of {ys : List D} (h : ∀ d ∈ ys, ∃ s, okS s ∧ d = sgD s) : ∃ ws : List Sg, ys = ws.map sgD ∧ ∀ w ∈ ws, okS w := by
  induction ys with
  | nil => exact ⟨[], rfl, by simp⟩
  | cons d r ih =>
    obtain ⟨z, hz, rfl⟩ := h d List.mem_cons_self
    obtain ⟨ws, e, hw⟩ := ih fun d hd => h d (List.mem_cons_of_mem _ hd)
    exact ⟨z :: ws, by rw [e]; rfl, fun w hw' => by
      rcases List.mem_cons.mp hw' with rfl | hw'
      · exact hz
      · exact hw w hw'⟩
def rowOf (f : List Sg → D) (p : Str × List Sg) : D := .tup [.str p.1, f p.2]
theorem tab_of {f : List Sg → D} {k : Nat} : ∀ {zs : List Str} {ys : List D}, All2 (fun d y => ∃ z sg, d = D.str z ∧ y = rowOf f (z, sg) ∧ sg.length = k ∧ ∀ s ∈ sg, okS s) (zs.map .str) ys →
    ∃ T : Tab, T.map (·.1) = zs ∧ ys = T.map (rowOf f) ∧ ∀ p ∈ T, p.2.length = k ∧ ∀ s ∈ p.2, okS s
  | [], _, .nil => ⟨[], rfl, rfl, by simp⟩
  | z :: zs, _, .cons ⟨z', sg, e, e', h1, h2⟩ t => by
    obtain ⟨T, e1, e2, h3⟩ := tab_of t
    cases e
    subst e'
    refine ⟨(z, sg) :: T, by rw [List.map_cons, e1], by rw [e2]; rfl, fun p hp => ?_⟩
    rcases List.mem_cons.mp hp with rfl | hp
    · exact ⟨h1, h2⟩
    · exact h3 p hp
theorem prs_tab (f : List Sg → D) : ∀ T : Tab, prsD (T.map (rowOf f)) = some (T.map fun p => (D.str p.1, f p.2))
  | [] => rfl
  | p :: T => by
    have h := prs_tab f T
    show (if isKey (.str p.1) = true then (match prsD (T.map (rowOf f)) with
      | some ps => some ((D.str p.1, f p.2) :: ps)
      | none => none) else none) = _
    rw [h]
    rfl
theorem dmerge_new {f : List Sg → D} : ∀ (T : Tab) (zs : List Str) (vs : List D), (T.map (·.1)).Nodup → (∀ p ∈ T, p.1 ∉ zs) → dmerge (zs.map .str) vs (T.map fun p => (D.str p.1, f p.2)) = ((zs ++ T.map (·.1)).map .str, vs ++ T.map fun p => f p.2)
  | [], zs, vs, _, _ => by simp [dmerge]
  | p :: T, zs, vs, hn, hz => by
    have h1 := dput_new (vs := vs) (d := f p.2) (hz p List.mem_cons_self)
    rw [List.map_cons] at hn
    have hn' := List.nodup_cons.mp hn
    simp only [List.map_cons, dmerge]
    rw [h1.1, h1.2, dmerge_new T (zs ++ [p.1]) (vs ++ [f p.2]) hn'.2 fun q hq => ?_]
    · simp
    · intro h
      rcases List.mem_append.mp h with h | h
      · exact hz q (List.mem_cons_of_mem _ hq) h
      · have e := List.mem_singleton.mp h
        exact hn'.1 (List.mem_map.mpr ⟨q, hq, e⟩)
def tabL (f : List Sg → D) (T : Tab) : D := .dic 0 (T.map fun p => .str p.1) (T.map fun p => f p.2)
theorem dict_tab {f : List Sg → D} {T : Tab} {g : Sto} (h : (T.map (·.1)).Nodup) : sDict (.lst (T.map (rowOf f))) g = .ok (tabL f T) g := by
  have e := dmerge_new (f := f) T [] [] h (by simp)
  rw [List.map_nil] at e
  simp only [sDict, prs_tab, e]
  simp [tabL]
theorem table_spec {n : Nat} {g : Sto} {names : List Str} {k : Nat} {P : D → Sto → Prop} (h : Dealt "mixed" n g) (hl : names.length < 70) (hn : names.Nodup) (hk : k < 100)
    (hP : ∀ T g', T.map (·.1) = names → (∀ p ∈ T, p.2.length = k ∧ ∀ s ∈ p.2, okS s) → Dealt "mixed" n g' → P (tabL sgs T) g') : Ok (F__law_table [.loc n, .lst (names.map .str), .int k] g) P := by
  unfold F__law_table Q__law_table
  rw [Ok_fnOf]
  simp [List.replicate]
  rw [Ok_eLc]
  simp [sIter, itemsOf]
  obtain ⟨ys, g2, e1, hj, ha⟩ := comp_inv (tg := tgN 3) (t := tYesF) (e := eTup (eCons (eVar 3) (eCons (eLc (eU (fun d g => sRng (.int 0) d g) (eVar 2)) (tgN 4) tYesF (eCall 1 F__law_sign (eCons (eVar 0) eNil)) [4]) eNil))) (env := wipeE [.sh (.loc n), .sh (.lst (names.map .str)), .sh (.int k), .no, .no] [3]) (Dealt "mixed" n)
    (fun d y => ∃ z sg, d = D.str z ∧ y = rowOf sgs (z, sg) ∧ sg.length = k ∧ ∀ s ∈ sg, okS s) (ds := names.map .str) h fun d hd g hj => by
      obtain ⟨z, _, rfl⟩ := List.mem_map.mp hd
      refine ⟨_, rfl, ?_⟩
      simp [wipeE]
      rw [Ok_eLc]
      simp
      rw [rng_ok (by omega)]
      simp only [Ok_ok]
      obtain ⟨ys, g2, e1, hj, ha⟩ := comp_inv (tg := tgN 4) (t := tYesF) (e := eCall 1 F__law_sign (eCons (eVar 0) eNil)) (env := wipeE [.sh (.loc n), .sh (.lst (names.map .str)), .sh (.int k), .sh (.str z), .no] [4]) (Dealt "mixed" n) (fun _ y => ∃ s, okS s ∧ y = sgD s)
        (ds := (List.range k).map fun k => D.int (k : Nat)) hj fun d hd' g hj => ⟨_, rfl, by
          simp [wipeE]
          exact sign_spec hj fun s g' hs hd => ⟨⟨s, hs, rfl⟩, hd⟩⟩
      have hlen := ha.length
      simp at hlen
      obtain ⟨ws, rfl, hw⟩ := sgs_of fun d hd => by
        obtain ⟨_, _, q⟩ := ha.right d hd
        exact q
      simp at hlen
      refine ⟨_, _, e1, by simp; unfold big; omega, ?_⟩
      simp [big]
      exact ⟨⟨ws, rfl, hlen.symm, fun a b h => hw (a, b) h⟩, hj⟩
  obtain ⟨T, e2, rfl, h3⟩ := tab_of ha
  have hlen : T.length = names.length := by rw [← e2, List.length_map]
  refine ⟨_, _, e1, by simp; unfold big; omega, ?_⟩
  rw [dict_tab (by rw [e2]; exact hn)]
  exact hP T g2 e2 h3 hj
/-! ### a table made -/
def lookT (T : Tab) (z : Str) : List Sg := ((T.find? fun p => decide (p.1 = z)).map (·.2)).getD []
def IsSg (d : D) (l : List Sg) : Prop := d = sgs l ∨ d = sgT l
structure GoodT (T : Tab) (n : Nat) : Prop where
  ne : T ≠ []
  few : T.length ≤ 12
  nd : (T.map (·.1)).Nodup
  nm : ∀ p ∈ T, p.1 ∈ every
  sg : ∀ p ∈ T, p.2.length = n ∧ ∀ s ∈ p.2, okS s
  n1 : 1 ≤ n
  n2 : n ≤ 2
def nmsT (T : Tab) : List Str := sortS (T.map (·.1))
def tabD (T : Tab) (n : Nat) : D := .ins 0 ["names", "things", "sign_rows"] [.tup ((nmsT T).map .str), .int n, .dic 0 ((nmsT T).map .str) ((nmsT T).map fun z => sgT (lookT T z))]
theorem look_mem {T : Tab} {z : Str} (h : z ∈ T.map (·.1)) : (z, lookT T z) ∈ T := by
  obtain ⟨p, hp, rfl⟩ := List.mem_map.mp h
  unfold lookT
  cases q : T.find? fun x => decide (x.1 = p.1) with
  | none =>
    have := List.find?_eq_none.mp q p hp
    simp at this
  | some x =>
    have h1 := List.mem_of_find?_eq_some q
    have h2 := List.find?_some q
    have h2 := of_decide_eq_true h2
    simp only [Option.map_some, Option.getD_some]
    rw [← h2]
    exact h1
theorem look_head {p : Str × List Sg} {T : Tab} : lookT (p :: T) p.1 = p.2 := by simp [lookT]
theorem look_tail {p : Str × List Sg} {T : Tab} {z : Str} (h : p.1 ≠ z) : lookT (p :: T) z = lookT T z := by simp [lookT, h]
theorem dget_tab {z : Str} : ∀ {vs : List D} {T : Tab}, All2 (fun d p => IsSg d p.2) vs T → z ∈ T.map (·.1) → ∃ d, dget (T.map fun p => D.str p.1) vs (.str z) = some d ∧ IsSg d (lookT T z)
  | _, _, .nil, h => by simp at h
  | d :: vs, p :: T, .cons q t, h => by
    simp only [List.map_cons, dget, sameK, same1]
    by_cases e : p.1 = z
    · subst e
      exact ⟨d, by simp, by rw [look_head]; exact q⟩
    · obtain ⟨d', e1, e2⟩ := dget_tab (z := z) t (by
        rcases List.mem_cons.mp h with h | h
        · exact absurd h.symm e
        · exact h)
      exact ⟨d', by simp [e, e1], by rw [look_tail e]; exact e2⟩
theorem is_sign_ok {s : Sg} (h : okS s) : F_is_sign [sgD s] [] = .ok (.bl true) [] := by
  obtain ⟨a, b⟩ := s
  obtain ⟨h1, h2⟩ := h
  simp only [does3, looks3, List.mem_cons, List.mem_nil_iff, or_false] at h1 h2
  rcases h1 with rfl | rfl | rfl <;> rcases h2 with rfl | rfl | rfl <;> rfl
theorem noLoc_sgs (l : List Sg) : noLocL (l.map sgD) = true := by
  induction l with
  | nil => rfl
  | cons s l ih => simp [noLocL, noLoc, sgD, ih]
theorem noLoc_sg {d : D} {l : List Sg} (h : IsSg d l) : noLoc d = true := by
  rcases h with rfl | rfl <;> exact noLoc_sgs l
theorem is_seq_sg {d : D} {l : List Sg} (h : IsSg d l) : F_is_sequence [d] [] = .ok (.bl true) [] := by
  rcases h with rfl | rfl <;> rfl
theorem are_signs_ok {d : D} {l : List Sg} (h : IsSg d l) (h1 : 1 ≤ l.length) (h2 : l.length ≤ 2) (hs : ∀ s ∈ l, okS s) : F_are_signs [d] [] = .ok (.bl true) [] := by
  refine Ok_eq ?_
  unfold F_are_signs Q_are_signs
  rw [Ok_fnOf]
  have e1 : decide ((1 : Int) ≤ (l.length : Int)) = true := by simp; omega
  have e2 : decide ((l.length : Int) ≤ 2) = true := by simp; omega
  have hb : l.length ≤ big := by unfold big; omega
  have hc : ∀ env : Ev.Env, 1 < env.length → compL (tgN 1) tYesF (eFn (purF 1 F_is_sign) (eCons (eVar 1) eNil)) env (l.map sgD) [] = some ((l.map sgD).map fun _ => .bl true, []) := fun env hl => comp_map (fun _ => .bl true) fun d hd => by
    obtain ⟨s, hs', rfl⟩ := List.mem_map.mp hd
    refine ⟨_, rfl, rfl, Ok_eq ?_⟩
    simp [List.getElem?_set_self hl, purF_ok (n := 1) (is_sign_ok (hs s hs')) rfl rfl rfl]
  have hall := bls_all (l.map sgD)
  have hp := purF_ok (n := 1) (g := []) (is_seq_sg h) rfl (by simpa [noLocL] using noLoc_sg h) rfl
  rcases h with rfl | rfl
  · simp only [List.replicate, List.map_cons, List.map_nil, List.length_cons, List.length_nil]
    simp [hp]
    simp [sgs, sLenA, e1, e2]
    rw [Ok_eLc]
    simp [sIter, itemsOf]
    refine ⟨_, _, hc _ (by simp [wipeE]), by simpa using hb, ?_⟩
    simp only [sAll, hall]
    simp
  · simp only [List.replicate, List.map_cons, List.map_nil, List.length_cons, List.length_nil]
    simp [hp]
    simp [sgT, sLenA, e1, e2]
    rw [Ok_eLc]
    simp [sIter, itemsOf]
    refine ⟨_, _, hc _ (by simp [wipeE]), by simpa using hb, ?_⟩
    simp only [sAll, hall]
    simp
theorem mem_nms {T : Tab} {z : Str} : z ∈ nmsT T ↔ z ∈ T.map (·.1) := (sortS_perm _).mem_iff
theorem nms_len (T : Tab) : (nmsT T).length = T.length := by
  unfold nmsT
  rw [(sortS_perm _).length_eq, List.length_map]
theorem nms_nd {T : Tab} {n : Nat} (h : GoodT T n) : (nmsT T).Nodup := (sortS_perm _).nodup_iff.mpr h.nd
theorem noLoc_vals : ∀ {vs : List D} {T : Tab}, All2 (fun d p => IsSg d p.2) vs T → noLocL vs = true
  | _, _, .nil => rfl
  | _, _, .cons q t => by simp [noLocL, noLoc_sg q, noLoc_vals t]
theorem noLoc_sgTs {α : Type} (f : α → List Sg) (l : List α) : noLocL (l.map fun a => sgT (f a)) = true := by
  induction l with
  | nil => rfl
  | cons a l ih => rw [List.map_cons, noLocL, ih, noLoc_sg (.inr rfl : IsSg (sgT (f a)) (f a))]; rfl
theorem noLoc_tab (T : Tab) (n : Nat) : noLoc (tabD T n) = true := by
  have h1 := noLoc_strs id (nmsT T)
  simp only [id] at h1
  simp [tabD, noLoc, noLocL, h1, noLoc_sgTs]
def dictT (T : Tab) (vs : List D) : D := .dic 0 (T.map fun p => .str p.1) vs
theorem dget_ok' {vs : List D} {T : Tab} {z : Str} {g : Sto} (h : All2 (fun d p => IsSg d p.2) vs T) (hz : z ∈ T.map (·.1)) : ∃ d, sIxA (dictT T vs) (.str z) g = .ok d g ∧ IsSg d (lookT T z) := by
  obtain ⟨d, e1, e2⟩ := dget_tab h hz
  exact ⟨d, by simp [dictT, sIxA, dix, kindK, e1], e2⟩
theorem len_sg {d : D} {l : List Sg} {g : Sto} (h : IsSg d l) : sLenA d g = .ok (.int l.length) g := by
  rcases h with rfl | rfl <;> simp [sLenA, sgs, sgT]
theorem dr_sg {d : D} {l : List Sg} {g : Sto} (h : IsSg d l) : dr g d = d := by
  rcases h with rfl | rfl <;> rfl
theorem tup_sg {d : D} {l : List Sg} {g : Sto} (h : IsSg d l) : sTuple d g = .ok (sgT l) g := by
  rcases h with rfl | rfl <;> rfl
theorem tinit_ok {vs : List D} {T : Tab} {n : Nat} (h : All2 (fun d p => IsSg d p.2) vs T) (hg : GoodT T n) : F_Table_init [dictT T vs] [] = .ok (tabD T n) [] := by
  refine Ok_eq ?_
  unfold F_Table_init Q_Table_init
  rw [Ok_fnOfI]
  have h0 : ¬ (T = []) := hg.ne
  have hT : T.length < 64 := by have := hg.few; omega
  have hmem : ∀ z ∈ T.map (·.1), (z, lookT T z) ∈ T := fun z hz => look_mem hz
  have dr0 : ∀ g, dr g (dictT T vs) = dictT T vs := fun g => rfl
  have vk : ∀ g, vKeys (some (.sh (dictT T vs))) g = .ok (T.map fun p => .str p.1) g := fun g => rfl
  have isi : ∀ g, sIsiX [.ty "dict"] (dictT T vs) g = .ok (.bl true) g := fun g => rfl
  have len0 : ∀ g, sLenA (dictT T vs) g = .ok (.int T.length) g := fun g => by simp [dictT, sLenA]
  simp [List.replicate, dr0, isi, len0, vk, sEq, deq, h0]
  refine for_inv (fun env g => g = [.ins 0 [] []] ∧ ∃ a, env = [.sh (.loc 0), .sh (dictT T vs), a]) ⟨rfl, _, rfl⟩ ?_ ?_
  · rintro d hd env g ⟨rfl, a, rfl⟩
    obtain ⟨p, hp, rfl⟩ := List.mem_map.mp hd
    refine ⟨_, rfl, ?_⟩
    obtain ⟨d, e1, e2⟩ := dget_ok' (g := [.ins 0 [] []]) h (List.mem_map.mpr ⟨p, hp, rfl⟩ : p.1 ∈ T.map (·.1))
    have hs := hg.sg _ (hmem p.1 (List.mem_map.mpr ⟨p, hp, rfl⟩))
    simp only at hs
    simp [purF_ok (n := 1) (is_name_ok (hg.nm p hp)) rfl rfl rfl, dr0, e1, purF_ok (n := 1) (are_signs_ok e2 (by rw [hs.1]; exact hg.n1) (by rw [hs.1]; exact hg.n2) hs.2) rfl (by simpa [noLocL] using noLoc_sg e2) rfl]
  · rintro env g ⟨rfl, a, rfl⟩
    simp
    rw [Ok_eLenSc]
    simp [vk]
    have hl : ∀ env : Ev.Env, 2 < env.length → env[1]? = some (.sh (dictT T vs)) → ∀ g, compL (tgN 2) tYesF (eU (dr1 sLenA) (eB (dr2 sIxA) (eVarB 1) (eVarB 2))) env (T.map fun p => .str p.1) g = some ((T.map fun p => D.str p.1).map fun _ => .int n, g) := fun env hl he g => comp_map (fun _ => .int n) fun d hd => by
      obtain ⟨p, hp, rfl⟩ := List.mem_map.mp hd
      refine ⟨_, rfl, rfl, Ok_eq ?_⟩
      obtain ⟨d, e1, e2⟩ := dget_ok' (g := g) h (List.mem_map.mpr ⟨p, hp, rfl⟩ : p.1 ∈ T.map (·.1))
      have hs := (hg.sg _ (hmem p.1 (List.mem_map.mpr ⟨p, hp, rfl⟩))).1
      simp only at hs
      simp [List.getElem?_set_self hl, List.getElem?_set_ne, he, dr0, e1, dr_sg e2, len_sg e2, hs]
    refine ⟨_, _, hl _ (by simp [wipeE]) (by simp [wipeE]) _, ?_⟩
    have hd1 := dedK_same (n : Int) (T.map fun p => D.str p.1)
    have hd2 : ¬ (1 < ((dedK ((T.map fun p => D.str p.1).map fun _ => .int n)).length : Int)) := by omega
    have hd3 := all_keys_i (n : Int) (T.map fun p => D.str p.1)
    simp only [sLenK]
    rw [if_pos ⟨by simpa using hT, hd3⟩]
    simp [-List.map_map, hd2]
    rw [Ok_eLc]
    simp [vk]
    have hk : ∀ env : Ev.Env, 2 < env.length → ∀ g, compL (tgN 2) tYesF (eU (dr1 sStr) (eVarB 2)) env (T.map fun p => .str p.1) g = some ((T.map fun p => D.str p.1).map id, g) := fun env hl g => comp_map id fun d hd => by
      obtain ⟨p, hp, rfl⟩ := List.mem_map.mp hd
      refine ⟨_, rfl, rfl, Ok_eq ?_⟩
      simp [List.getElem?_set_self hl, sStr]
    refine ⟨_, _, hk _ (by simp [wipeE]) _, by simp; unfold big; omega, ?_⟩
    have k1 : ¬ (("names" : Str) = "things") := by decide
    have k2 : ¬ (("names" : Str) = "sign_rows") := by decide
    have k3 : ¬ (("things" : Str) = "sign_rows") := by decide
    have k4 : ¬ (("things" : Str) = "names") := by decide
    have ks : strsOf (T.map fun p => D.str p.1) = some (T.map (·.1)) := by
      rw [← strsOf_map_self (T.map (·.1)), List.map_map]
      rfl
    have ez : ∃ z0 zr, nmsT T = z0 :: zr := by
      cases q : nmsT T with
      | nil =>
        have := nms_len T
        rw [q] at this
        exact absurd (List.eq_nil_of_length_eq_zero this.symm) h0
      | cons z0 zr => exact ⟨z0, zr, rfl⟩
    obtain ⟨z0, zr, ez⟩ := ez
    have hz0 : z0 ∈ T.map (·.1) := mem_nms.mp (by rw [ez]; exact List.mem_cons_self)
    have e0 : ∀ g, sIxA (.tup ((nmsT T).map .str)) (.int 0) g = .ok (.str z0) g := fun g => by rw [ez]; exact ix_tup0
    simp [sSorted, ks, hT, sTuple, sPutF, insAt, putN, putVs]
    rw [show sortS (List.map (fun x => x.fst) T) = nmsT T from rfl]
    have d1 : ∀ ns vs, dr [D.ins 0 ns vs] (.loc 0) = .ins 0 ns vs := fun ns vs => rfl
    obtain ⟨d0, e1, e2⟩ := dget_ok' (g := [D.ins 0 ["names"] [.tup ((nmsT T).map .str)]]) h hz0
    have hs0 := (hg.sg _ (hmem z0 hz0)).1
    simp only at hs0
    simp [d1, sFldG, lookF, e0, dr0, e1, dr_sg e2, len_sg e2, hs0, k1, k2, k3, k4]
    rw [Ok_eDc]
    simp [d1, sIter, itemsOf]
    have hdc : ∀ env : Ev.Env, 2 < env.length → env[1]? = some (.sh (dictT T vs)) → ∀ g, dcL (tgN 2) tYesF (eVar 2) (eU (dr1 sTuple) (eB (dr2 sIxA) (eVarB 1) (eVarB 2))) env ((nmsT T).map .str) [] [] g = some ((nmsT T).map .str, (nmsT T).map (fun z => sgT (lookT T z)), g) := fun env hl he g => by
      have := dc_map (tg := tgN 2) (t := tYesF) (ek := eVar 2) (ev := eU (dr1 sTuple) (eB (dr2 sIxA) (eVarB 1) (eVarB 2))) (env := env) (g := g) (fun z => sgT (lookT T z)) (nmsT T) [] [] (nms_nd hg) (by simp) (by rw [nms_len]; simp; unfold big; omega) fun z hz => by
        obtain ⟨d, e1, e2⟩ := dget_ok' (g := g) h (mem_nms.mp hz)
        refine ⟨_, rfl, rfl, Ok_eq ?_, Ok_eq ?_⟩
        · simp [List.getElem?_set_self hl]
        · simp [List.getElem?_set_self hl, List.getElem?_set_ne, he, dr0, e1, dr_sg e2, tup_sg e2]
      simpa using this
    refine ⟨_, _, _, hdc _ (by simp [wipeE]) (by simp [wipeE]) _, ?_⟩
    simp [d1, sPutF, insAt, putN, putVs, k1, k2, k3, k4]
    exact ⟨noLoc_tab T n, rfl⟩
theorem dget_map {f : Str → D} {z : Str} : ∀ zs : List Str, dget (zs.map .str) (zs.map f) (.str z) = if z ∈ zs then some (f z) else none
  | [] => rfl
  | a :: zs => by
    simp only [List.map_cons, dget, sameK, same1, dget_map zs]
    by_cases e : a = z
    · subst e
      simp
    · have e' : ¬ z = a := fun h => e h.symm
      simp [e, e']
def rowsT (T : Tab) : D := .dic 0 ((nmsT T).map .str) ((nmsT T).map fun z => sgT (lookT T z))
theorem ix_rows {T : Tab} {z : Str} {g : Sto} (h : z ∈ T.map (·.1)) : sIxA (rowsT T) (.str z) g = .ok (sgT (lookT T z)) g := by
  have h' := mem_nms.mpr h
  simp [rowsT, sIxA, dix, kindK, dget_map, h']
section
variable {T : Tab} {n : Nat} {g : Sto}
@[simp] theorem tab_names : sFldG "names" (tabD T n) g = .ok (.tup ((nmsT T).map .str)) g := rfl
@[simp] theorem tab_things : sFldG "things" (tabD T n) g = .ok (.int n) g := rfl
@[simp] theorem tab_rows : sFldG "sign_rows" (tabD T n) g = .ok (rowsT T) g := rfl
@[simp] theorem dr_tab : dr g (tabD T n) = tabD T n := rfl
@[simp] theorem dr_rows : dr g (rowsT T) = rowsT T := rfl
@[simp] theorem tag_tab : tagD (tabD T n) = some (.own 0) := rfl
theorem cls_tab {mn : Str} (h : (["names", "things", "sign_rows"] : List Str).contains mn = false) : isCls 0 mn (tabD T n) = true := by
  simp only [tabD, isCls, h]
  rfl
@[simp] theorem cls_tab0 : isCls 0 "" (tabD T n) = true := cls_tab (by decide)
end
theorem contains_ok (T : Tab) (n : Nat) (z : Str) : F_Table_contains [tabD T n, .str z] [] = .ok (.bl (decide (z ∈ T.map (·.1)))) [] := by
  refine Ok_eq ?_
  unfold F_Table_contains Q_Table_contains
  rw [Ok_fnOf]
  have e : decide (z ∈ nmsT T) = decide (z ∈ T.map (·.1)) := by
    by_cases h : z ∈ T.map (·.1)
    · rw [decide_eq_true h, decide_eq_true (mem_nms.mpr h)]
    · rw [decide_eq_false h, decide_eq_false fun h' => h (mem_nms.mp h')]
  have e2 : ∀ g, sInA (.str z) (rowsT T) g = .ok (.bl (decide (z ∈ nmsT T))) g := fun g => by
    simp only [sInA, rowsT, din, kindK, dget_map]
    by_cases h : z ∈ nmsT T <;> simp [h]
  have e3 : ∀ g, sIsiX [.ty "str"] (.str z) g = .ok (.bl true) g := fun g => rfl
  rw [← e]
  simp [List.replicate, e2, e3]
theorem need_ok {T : Tab} {n : Nat} {z : Str} (h : z ∈ T.map (·.1)) : F_Table_need [tabD T n, .str z] [] = .ok .non [] := by
  refine Ok_eq ?_
  unfold F_Table_need Q_Table_need
  rw [Ok_fnOf]
  have e := purF_ok (n := 2) (g := []) (contains_ok T n z) rfl (by simp [noLocL, noLoc_tab, noLoc]) rfl
  rw [decide_eq_true h] at e
  simp [List.replicate, sInO, e]
theorem dr_sgD {s : Sg} {g : Sto} : dr g (sgD s) = sgD s := rfl
theorem ix_sg0 {s : Sg} {g : Sto} : sIxA (sgD s) (.int 0) g = .ok (.str s.1) g := ix_tup0
theorem ix_sg1 {s : Sg} {g : Sto} : sIxA (sgD s) (.int 1) g = .ok (.str s.2) g := ix_tup1
def sgAt (l : List Sg) (i : Nat) : Sg := l[i]?.getD ("", "")
theorem ix_sgd {d : D} {l : List Sg} {i : Nat} {g : Sto} (h : IsSg d l) (hi : i < l.length) : sIxA d (.int (i : Nat)) g = .ok (sgD (sgAt l i)) g := by
  have e : (l.map sgD)[i]? = some (sgD (sgAt l i)) := by simp [sgAt, List.getElem?_eq_getElem hi]
  rcases h with rfl | rfl
  · exact ix_lst e
  · exact ix_tup e
theorem noLoc_dictT {T : Tab} {vs : List D} (h : All2 (fun d p => IsSg d p.2) vs T) : noLoc (dictT T vs) = true := by
  simp [dictT, noLoc, noLoc_vals h]
theorem noLoc_nm (zs : List Str) : noLocL (zs.map .str) = true := by
  have := noLoc_strs id zs
  simpa using this
theorem need_p {T : Tab} {n : Nat} {z : Str} {g : Sto} (h : z ∈ T.map (·.1)) : purF 2 F_Table_need [tabD T n, .str z] g = .ok .non g := purF_ok (n := 2) (need_ok h) rfl (by simp [noLocL, noLoc_tab, noLoc]) rfl
theorem tinit_p {vs : List D} {T : Tab} {n : Nat} {g : Sto} (h : All2 (fun d p => IsSg d p.2) vs T) (hg : GoodT T n) : purF 1 F_Table_init [dictT T vs] g = .ok (tabD T n) g :=
  purF_ok (n := 1) (tinit_ok h hg) rfl (by simp [noLocL, noLoc_dictT h]) (noLoc_tab T n)
theorem all_sgs (T : Tab) : All2 (fun d p => IsSg d p.2) (T.map fun p => sgs p.2) T := by
  induction T with
  | nil => exact .nil
  | cons p T ih => exact .cons (.inl rfl) ih
theorem tabL_dict (T : Tab) : tabL sgs T = dictT T (T.map fun p => sgs p.2) := rfl
/-! ### texts of tables -/
def sgTxt (s : Sg) : Str := Txt.join " " [s.1, s.2]
def sgsTxt (l : List Sg) : Str := Txt.join ", " (l.map sgTxt)
def lineT (z : Str) (l : List Sg) : Str := Txt.join " " [z, sgsTxt l]
theorem join_one (y a : Str) : Txt.join y [a] = a := TL.ext_tl (by show TL.tl _ = TL.tl _; rw [tl_join']; rfl)
theorem join_two (y a b : Str) : Txt.join y [a, b] = a ++ y ++ b := by
  have := join_app (y := y) (as := [a]) (bs := [b]) (by simp) (by simp)
  rw [join_one, join_one] at this
  exact this
theorem tl_gap : TL.tl (" " : Str) = [32] := by decide
theorem tl_com : TL.tl (", " : Str) = [44, 32] := by decide
theorem tl_nl : TL.tl ("\n" : Str) = [10] := by decide
theorem len_com : (", " : Str).length = 2 := by decide +kernel
theorem len_nl : ("\n" : Str).length = 1 := by decide +kernel
theorem len_gap : (" " : Str).length = 1 := by decide +kernel
def plainZ (z : Str) : Bool := decide (32 ∉ TL.tl z ∧ 44 ∉ TL.tl z ∧ 10 ∉ TL.tl z ∧ z.length ≤ 6)
theorem plain_ok {z : Str} (h : plainZ z = true) : 32 ∉ TL.tl z ∧ 44 ∉ TL.tl z ∧ 10 ∉ TL.tl z ∧ z.length ≤ 6 := of_decide_eq_true h
theorem every_plain {z : Str} (h : z ∈ every) : plainZ z = true := by
  have : every.all plainZ = true := by decide +kernel
  exact List.all_eq_true.mp this z h
theorem does_plain {z : Str} (h : z ∈ does3) : plainZ z = true := by
  have : does3.all plainZ = true := by decide +kernel
  exact List.all_eq_true.mp this z h
theorem looks_plain {z : Str} (h : z ∈ looks3) : plainZ z = true := by
  have : looks3.all plainZ = true := by decide +kernel
  exact List.all_eq_true.mp this z h
theorem sgTxt_tl (s : Sg) : TL.tl (sgTxt s) = TL.tl s.1 ++ ([32] ++ TL.tl s.2) := by
  unfold sgTxt
  rw [tl_join', tl_gap]
  rfl
theorem sgTxt_split {s : Sg} (h : okS s) : Txt.split (sgTxt s) " " = [s.1, s.2] := split_gap (by simp) fun x hx => by
  rcases List.mem_cons.mp hx with rfl | hx
  · exact (plain_ok (does_plain h.1)).1
  · rw [List.mem_singleton.mp hx]; exact (plain_ok (looks_plain h.2)).1
theorem sgTxt_len {s : Sg} (h : okS s) : (sgTxt s).length ≤ 14 := by
  have h1 := (plain_ok (does_plain h.1)).2.2.2
  have h2 := (plain_ok (looks_plain h.2)).2.2.2
  have := len_join " " [s.1, s.2]
  simp [len_gap] at this
  unfold sgTxt
  omega
theorem sgTxt_free {s : Sg} (h : okS s) : 44 ∉ TL.tl (sgTxt s) ∧ 10 ∉ TL.tl (sgTxt s) := by
  have h1 := plain_ok (does_plain h.1)
  have h2 := plain_ok (looks_plain h.2)
  rw [sgTxt_tl]
  simp [h1.2.1, h1.2.2.1, h2.2.1, h2.2.2.1]
theorem sgs_split {l : List Sg} (hne : l ≠ []) (h : ∀ s ∈ l, okS s) : Txt.split (sgsTxt l) ", " = l.map sgTxt :=
  TL.split_join (s := 44) (S := [32]) tl_com (by decide +kernel) (by simpa using hne) fun x hx => by
    obtain ⟨s, hs, rfl⟩ := List.mem_map.mp hx
    exact (sgTxt_free (h s hs)).1
theorem sgs_len {l : List Sg} (h2 : l.length ≤ 2) (h : ∀ s ∈ l, okS s) : (sgsTxt l).length ≤ 40 := by
  have h1 := len_join ", " (l.map sgTxt)
  have h3 : ((l.map sgTxt).map (·.length)).sum ≤ 28 := by
    match l, h2 with
    | [], _ => simp
    | [a], _ => have := sgTxt_len (h a (by simp)); simp; omega
    | [a, b], _ => have := sgTxt_len (h a (by simp)); have := sgTxt_len (h b (by simp)); simp; omega
  rw [len_com, List.length_map] at h1
  unfold sgsTxt
  omega
theorem sgs_free {l : List Sg} (h : ∀ s ∈ l, okS s) : 10 ∉ TL.tl (sgsTxt l) := by
  unfold sgsTxt
  rw [tl_join', tl_com]
  intro hm
  rcases mem_joinL hm with hm | ⟨x, hx, hc⟩
  · simp at hm
  · obtain ⟨z, hz, rfl⟩ := List.mem_map.mp hx
    obtain ⟨s, hs, rfl⟩ := List.mem_map.mp hz
    exact (sgTxt_free (h s hs)).2 hc
theorem line_free {z : Str} {l : List Sg} (hz : z ∈ every) (h : ∀ s ∈ l, okS s) : 10 ∉ TL.tl (lineT z l) := by
  unfold lineT
  rw [join_two, TL.tl_append, TL.tl_append, tl_gap]
  simp [(plain_ok (every_plain hz)).2.2.1, sgs_free h]
theorem line_len {z : Str} {l : List Sg} (hz : z ∈ every) (h2 : l.length ≤ 2) (h : ∀ s ∈ l, okS s) : (lineT z l).length ≤ 60 := by
  have h1 := len_join " " [z, sgsTxt l]
  have h3 := (plain_ok (every_plain hz)).2.2.2
  have h4 := sgs_len h2 h
  simp [len_gap] at h1
  unfold lineT
  omega
theorem line_part {z : Str} {l : List Sg} (hz : z ∈ every) : Txt.partition (lineT z l) " " = (z, (" " : Str), sgsTxt l) := by
  unfold lineT
  rw [join_two]
  exact TL.partition_app (s := 32) (S := []) tl_gap (plain_ok (every_plain hz)).1
theorem law_line (z : Str) (l : List Sg) : z ++ " " ++ Txt.join ", " (l.map fun s => s.1 ++ " " ++ s.2) = lineT z l := by
  unfold lineT sgsTxt
  rw [join_two]
  have e : (l.map fun s : Sg => (s.1 ++ (" " : Str) ++ s.2 : Str)) = l.map sgTxt := List.map_congr_left fun s _ => by
    unfold sgTxt
    rw [join_two]
  rw [e]
theorem signs_in_ok {z : Str} {l : List Sg} (hz : z ∈ every) (h1 : 1 ≤ l.length) (h2 : l.length ≤ 2) (h : ∀ s ∈ l, okS s) : F_signs_in [.str (lineT z l)] [] = .ok (.tup [.str z, sgT l]) [] := by
  refine Ok_eq ?_
  unfold F_signs_in Q_signs_in
  rw [Ok_fnOf]
  have hl := line_len hz h2 h
  have hs := sgs_len h2 h
  have sl : sizeLine ≥ 1000 := by rw [sizeLine_eq]; omega
  have p1 : ∀ g, sPart (.str (lineT z l)) (.str " ") g = .ok (.tup [.str z, .str " ", .str (sgsTxt l)]) g := fun g => by
    simp only [sPart]
    rw [if_pos ⟨by rw [len_gap]; rfl, by omega⟩, line_part hz]
  have p2 : ∀ g, sSplit (.str (sgsTxt l)) (.str ", ") g = .ok (.lst ((l.map sgTxt).map .str)) g := fun g => by
    simp only [sSplit]
    rw [if_pos ⟨by rw [len_com]; rfl, by omega⟩, sgs_split (by intro e; rw [e] at h1; simp at h1) h]
    rfl
  have p3 : ∀ s ∈ l, ∀ g, sSplit (.str (sgTxt s)) (.str " ") g = .ok (.lst [.str s.1, .str s.2]) g := fun s hs g => by
    have := sgTxt_len (h s hs)
    simp only [sSplit]
    rw [if_pos ⟨by rw [len_gap]; rfl, by omega⟩, sgTxt_split (h s hs)]
    rfl
  have hc : ∀ env : Ev.Env, 5 < env.length → compL (tgN 5) tYesF (eU (dr1 sTuple) (eMt sSplit (eVarB 5) (eC (.str " ")))) env ((l.map sgTxt).map .str) [] = some (l.map sgD, []) := fun env hle => by
    clear h1 h2 hs p2 p1 hl
    induction l with
    | nil => rfl
    | cons s l ih =>
      have e : (eU (dr1 sTuple) (eMt sSplit (eVarB 5) (eC (.str " ")))) (env.set 5 (.sh (.str (sgTxt s)))) [] = .ok (sgD s) [] := by
        refine Ok_eq ?_
        simp [List.getElem?_set_self hle, p3 s List.mem_cons_self, sTuple, sgD]
      simp only [List.map_cons, compL, tgN, tYesF, e]
      have := ih (fun s hs => h s (List.mem_cons_of_mem _ hs)) (fun s hs => p3 s (List.mem_cons_of_mem _ hs))
      rw [this]
  have hb : l.length ≤ big := by unfold big; omega
  simp [List.replicate, p1, tgT, tgCons, tgN, tgNil]
  rw [Ok_eLc]
  simp [p2, sIter, itemsOf]
  have hc' := hc (wipeE [.sh (.str (lineT z l)), .no, .sh (.str z), .sh (.str " "), .sh (.str (sgsTxt l)), .no] [5]) (by simp [wipeE])
  rw [List.map_map] at hc'
  refine ⟨_, _, hc', by simpa using hb, ?_⟩
  have e1 := purF_ok (n := 1) (g := []) (is_name_ok hz) rfl rfl rfl
  have e2 := purF_ok (n := 1) (g := []) (are_signs_ok (d := sgT l) (.inr rfl) h1 h2 h) rfl (by simpa [noLocL] using noLoc_sg (.inr rfl : IsSg (sgT l) l)) rfl
  have e3 : (D.tup (l.map sgD)) = sgT l := rfl
  simp [sTuple, e1, e3, e2, big]
def textT (T : Tab) : Str := Txt.join "\n" (T.map fun p => lineT p.1 p.2)
/-- the rows by names -/
def sortT (T : Tab) : Tab := (nmsT T).map fun z => (z, lookT T z)
theorem row_ok {T : Tab} {n : Nat} (h : GoodT T n) {p : Str × List Sg} (hp : p ∈ T) : p.1 ∈ every ∧ 1 ≤ p.2.length ∧ p.2.length ≤ 2 ∧ ∀ s ∈ p.2, okS s := by
  have := h.sg p hp
  have h1 := h.n1
  have h2 := h.n2
  exact ⟨h.nm p hp, by omega, by omega, this.2⟩
theorem text_split {T : Tab} {n : Nat} (h : GoodT T n) : Txt.split (textT T) "\n" = T.map fun p => lineT p.1 p.2 :=
  TL.split_join (s := 10) (S := []) tl_nl (by decide +kernel) (by simpa using h.ne) fun x hx => by
    obtain ⟨p, hp, rfl⟩ := List.mem_map.mp hx
    obtain ⟨h1, h2, h3, h4⟩ := row_ok h hp
    exact line_free h1 h4
theorem text_sumT {T : Tab} {n : Nat} (h : GoodT T n) : ((T.map fun p => lineT p.1 p.2).map (·.length)).sum ≤ 720 := by
  have : ∀ l : Tab, (∀ p ∈ l, (lineT p.1 p.2).length ≤ 60) → ((l.map fun p => lineT p.1 p.2).map (·.length)).sum ≤ l.length * 60 := fun l => by
    induction l with
    | nil => intro _; simp
    | cons p l ih =>
      intro hl
      have h1 := hl p List.mem_cons_self
      have h2 := ih fun q hq => hl q (List.mem_cons_of_mem _ hq)
      simp only [List.map_cons, List.sum_cons, List.length_cons, Nat.succ_mul]
      omega
  have h1 := this T fun p hp => by
    obtain ⟨h1, h2, h3, h4⟩ := row_ok h hp
    exact line_len h1 h3 h4
  have h2 := h.few
  omega
theorem text_len {T : Tab} {n : Nat} (h : GoodT T n) : (textT T).length ≤ 800 := by
  have h1 := len_join "\n" (T.map fun p => lineT p.1 p.2)
  have h2 := text_sumT h
  have h3 := h.few
  rw [len_nl, List.length_map] at h1
  unfold textT
  omega
theorem sl_big : sizeLine ≥ 1000 := by rw [sizeLine_eq]; omega
theorem split_p {T : Tab} {n : Nat} {g : Sto} (h : GoodT T n) : sSplit (.str (textT T)) (.str "\n") g = .ok (.lst ((T.map fun p => lineT p.1 p.2).map .str)) g := by
  have h1 := text_len h
  have h2 := sl_big
  simp only [sSplit]
  rw [if_pos ⟨by rw [len_nl]; rfl, by omega⟩, text_split h]
  rfl
theorem strs_mapT {α : Type} (f : α → Str) (l : List α) : strsOf (l.map fun a => D.str (f a)) = some (l.map f) := by
  rw [← strsOf_map_self (l.map f), List.map_map]
  rfl
theorem join_p {T : Tab} {n : Nat} {g : Sto} (h : GoodT T n) : sJoin (.str "\n") (.lst ((T.map fun p => lineT p.1 p.2).map .str)) g = .ok (.str (textT T)) g := by
  have h1 := text_sumT h
  have h3 := h.few
  simp only [sJoin, dr_lst, strSeq, strsOf_map_self]
  rw [if_pos (by rw [len_nl, List.length_map]; omega)]
  rfl
/-! ### a table's order does not matter -/
theorem sort_perm {T T' : Tab} (h : T'.Perm T) : nmsT T' = nmsT T := by
  unfold nmsT
  refine List.Perm.eq_of_pairwise (le := leS) (fun a b _ _ h1 h2 => leS_anti h1 h2) (sortS_sorted _) (sortS_sorted _) ?_
  exact ((sortS_perm _).trans (h.map _)).trans (sortS_perm _).symm
theorem look_of {T : Tab} (hnd : (T.map (·.1)).Nodup) {p : Str × List Sg} (hp : p ∈ T) : lookT T p.1 = p.2 := by
  induction T with
  | nil => cases hp
  | cons q T ih =>
    rw [List.map_cons] at hnd
    have hn := List.nodup_cons.mp hnd
    rcases List.mem_cons.mp hp with rfl | hp
    · exact look_head
    · rw [look_tail fun e => hn.1 (by rw [e]; exact List.mem_map.mpr ⟨p, hp, rfl⟩)]
      exact ih hn.2 hp
theorem look_perm {T T' : Tab} (h : T'.Perm T) (hnd : (T.map (·.1)).Nodup) {z : Str} (hz : z ∈ T.map (·.1)) : lookT T' z = lookT T z := by
  obtain ⟨p, hp, rfl⟩ := List.mem_map.mp hz
  rw [look_of hnd hp, look_of ((h.map _).nodup_iff.mpr hnd) (h.mem_iff.mpr hp)]
theorem tab_perm {T T' : Tab} {n : Nat} (h : T'.Perm T) (hg : GoodT T n) : tabD T' n = tabD T n := by
  unfold tabD
  rw [sort_perm h]
  have e : ((nmsT T).map fun z => sgT (lookT T' z)) = (nmsT T).map fun z => sgT (lookT T z) := List.map_congr_left fun z hz => by rw [look_perm h hg.nd (mem_nms.mp hz)]
  rw [e]
theorem good_perm {T T' : Tab} {n : Nat} (h : T'.Perm T) (hg : GoodT T n) : GoodT T' n :=
  ⟨fun e => hg.ne (by subst e; exact List.nil_perm.mp h), by rw [h.length_eq]; exact hg.few, (h.map _).nodup_iff.mpr hg.nd, fun p hp => hg.nm p (h.mem_iff.mp hp), fun p hp => hg.sg p (h.mem_iff.mp hp), hg.n1, hg.n2⟩
theorem sortT_perm {T : Tab} {n : Nat} (hg : GoodT T n) : (sortT T).Perm T := by
  have e : T.map (fun p => (p.1, lookT T p.1)) = T := by
    have : T.map (fun p => (p.1, lookT T p.1)) = T.map id := List.map_congr_left fun p hp => by rw [look_of hg.nd hp]; rfl
    rw [this, List.map_id]
  have h1 : (sortT T).Perm ((T.map (·.1)).map fun z => (z, lookT T z)) := (sortS_perm _).map _
  rw [List.map_map] at h1
  have e2 : T.map ((fun z => (z, lookT T z)) ∘ fun x => x.1) = T := e
  rw [e2] at h1
  exact h1
theorem perm_map_inv {α β : Type} {f : α → β} : ∀ {ws : List β} {l : List α}, ws.Perm (l.map f) → ∃ l' : List α, l'.Perm l ∧ ws = l'.map f := by
  intro ws l h
  generalize hm : l.map f = ms at h
  induction h generalizing l with
  | nil => exact ⟨[], by rw [List.map_eq_nil_iff.mp hm], rfl⟩
  | @cons x l1 l2 _ ih =>
    cases l with
    | nil => cases hm
    | cons a l =>
      simp only [List.map_cons, List.cons.injEq] at hm
      obtain ⟨l', h1, h2⟩ := ih hm.2
      exact ⟨a :: l', h1.cons a, by rw [List.map_cons, hm.1, ← h2]⟩
  | swap x y l1 =>
    match l, hm with
    | a :: b :: l, hm =>
      simp only [List.map_cons, List.cons.injEq] at hm
      exact ⟨b :: a :: l, List.Perm.swap _ _ _, by rw [List.map_cons, List.map_cons, hm.1, hm.2.1, hm.2.2]⟩
  | trans _ _ ih1 ih2 =>
    obtain ⟨l2, p2, e2⟩ := ih2 hm
    obtain ⟨l1, p1, e1⟩ := ih1 e2.symm
    exact ⟨l1, p1.trans p2, e1⟩
/-! ### read -/
theorem all_sgT (T : Tab) : All2 (fun d p => IsSg d p.2) (T.map fun p => sgT p.2) T := by
  induction T with
  | nil => exact .nil
  | cons p T ih => exact .cons (.inr rfl) ih
theorem din_tab {T : Tab} {z : Str} {g : Sto} : sInA (.str z) (tabL sgT T) g = .ok (.bl (decide (z ∈ T.map (·.1)))) g := by
  have key : ∀ T : Tab, (dget (T.map fun p => D.str p.1) (T.map fun p => sgT p.2) (.str z)).isSome = decide (z ∈ T.map (·.1)) := fun T => by
    induction T with
    | nil => rfl
    | cons p T ih =>
      simp only [List.map_cons, dget, sameK, same1]
      by_cases e : p.1 = z
      · simp [e]
      · have e' : ¬ z = p.1 := fun h => e h.symm
        simp only [e, decide_false, Bool.false_eq_true, if_false, ih]
        simp [e']
  simp only [sInA, tabL, din, kindK, key]
  simp
theorem read_ok {T : Tab} {n : Nat} (hg : GoodT T n) : F_Table_read [.cls 0, .str (textT T)] [] = .ok (tabD T n) [] := by
  refine Ok_eq ?_
  unfold F_Table_read Q_Table_read
  rw [Ok_fnOf]
  simp [List.replicate, split_p hg, sEnum, seqOf, -List.map_map]
  refine for_idx (fun i env g => g = [] ∧ ∃ a3 a4 a5 a6 a7 a8, env = [.sh (.cls 0), .sh (.str (textT T)), .ow (tabL sgT (T.take i)), a3, a4, a5, a6, a7, a8] ∧ (0 < i → a3 = .sh (.int n))) 0 ⟨rfl, .sh (.int 0), .no, .no, .no, .no, .no, by simp [tabL], by simp⟩ ?_ ?_
  · rintro i hi env g ⟨rfl, a3, a4, a5, a6, a7, a8, rfl, h3⟩
    have hi' : i < T.length := by rw [enumD_len] at hi; simpa using hi
    rw [enumD_at]
    simp only [List.getElem_map]
    refine ⟨_, rfl, ?_⟩
    generalize hp : T[i] = p
    have hpm : p ∈ T := by rw [← hp]; exact List.getElem_mem _
    obtain ⟨h1, h2, h4, h5⟩ := row_ok hg hpm
    have hln := (hg.sg p hpm).1
    have es := purF_ok (n := 1) (g := []) (signs_in_ok h1 h2 h4 h5) rfl rfl (by simp [noLoc, noLocL, sgT, noLoc_sgs])
    have hnot : p.1 ∉ (T.take i).map (·.1) := fun hm => by
      have hnd := hg.nd
      have e : T = T.take i ++ (p :: T.drop (i + 1)) := by
        rw [← hp, ← List.drop_eq_getElem_cons hi', List.take_append_drop]
      rw [e, List.map_append] at hnd
      have := (List.nodup_append.mp hnd).2.2 p.1 hm p.1 (by simp)
      exact this rfl
    have htk : T.take (i + 1) = T.take i ++ [p] := by rw [List.take_succ_eq_append_getElem hi', hp]
    have hfew : (T.take i).length < big := by rw [List.length_take]; have := hg.few; unfold big; omega
    simp only [Nat.zero_add] at h3 ⊢
    have htk' : T.take (0 + i + 1) = T.take i ++ [p] := by rw [Nat.zero_add]; exact htk
    generalize T.take (0 + i + 1) = Ti1 at htk' ⊢
    subst htk'
    clear htk
    generalize T.take i = Ti at hnot hfew
    have drT : ∀ g, dr g (tabL sgT Ti) = tabL sgT Ti := fun g => rfl
    have lsg : ∀ g, sLenA (sgT p.2) g = .ok (.int n) g := fun g => by rw [len_sg (.inr rfl : IsSg (sgT p.2) p.2), hln]
    have drs : ∀ g, dr g (sgT p.2) = sgT p.2 := fun g => rfl
    have din : ∀ g, sInA (.str p.1) (tabL sgT Ti) g = .ok (.bl false) g := fun g => by rw [din_tab, decide_eq_false hnot]
    have hput := dput_new (zs := Ti.map (·.1)) (vs := Ti.map fun p => sgT p.2) (d := sgT p.2) hnot
    have hso : ∀ (env : Ev.Env) (P : Pst), So (vPutD (some (.ow (tabL sgT Ti))) env 2 (sgT p.2) (.str p.1) []) P ↔ P.nx (env.set 2 (.ow (tabL sgT (Ti ++ [p])))) [] := fun env P => by
      have e : tabL sgT Ti = .dic 0 ((Ti.map (·.1)).map .str) (Ti.map fun p => sgT p.2) := by rw [List.map_map]; rfl
      rw [e, vPutD_d, if_pos ⟨rfl, by simpa using hfew⟩, hput.1, hput.2]
      have e2 : tabL sgT (Ti ++ [p]) = .dic 0 ((Ti.map (·.1) ++ [p.1]).map .str) ((Ti.map fun p => sgT p.2) ++ [sgT p.2]) := by
        simp [tabL, Function.comp_def]
      rw [e2]
    simp [es, sIsN, Ev.isNon, tgT, tgCons, tgN, tgNil, sEq, deq_int, drs, lsg]
    by_cases h0 : i = 0
    · simp [h0, drT, din, drs, lsg, sNe, deq_int]
      rw [hso]
      exact ⟨rfl, _, _, _, _, _, _, rfl, fun _ => rfl⟩
    · rw [h3 (by omega)]
      simp [h0, drT, din, drs, lsg, sNe, deq_int]
      rw [hso]
      exact ⟨rfl, _, _, _, _, _, _, rfl, fun _ => rfl⟩
  · rintro env g ⟨rfl, a3, a4, a5, a6, a7, a8, rfl, _⟩
    have e : T.take (0 + (enumD ((T.map fun p => lineT p.1 p.2).map D.str)).length) = T := by
      rw [enumD_len]
      simp
    rw [e]
    have ti : ∀ g, purF 1 F_Table_init [tabL sgT T] g = .ok (tabD T n) g := fun g => tinit_p (all_sgT T) hg
    simp [ti]
/-! ### the text of a table -/
theorem join_sg {s : Sg} {g : Sto} (h : okS s) : sJoin (.str " ") (sgD s) g = .ok (.str (sgTxt s)) g := by
  have h1 := (plain_ok (does_plain h.1)).2.2.2
  have h2 := (plain_ok (looks_plain h.2)).2.2.2
  have e : strSeq (dr g (sgD s)) = some [s.1, s.2] := rfl
  simp only [sJoin, e]
  rw [if_pos (by simp [len_gap]; omega)]
  rfl
theorem join_sgs {l : List Sg} {g : Sto} (h2 : l.length ≤ 2) (h : ∀ s ∈ l, okS s) : sJoin (.str ", ") (.lst (l.map fun s => .str (sgTxt s))) g = .ok (.str (sgsTxt l)) g := by
  have h3 : ((l.map sgTxt).map (·.length)).sum ≤ 28 := by
    match l, h2 with
    | [], _ => simp
    | [a], _ => have := sgTxt_len (h a (by simp)); simp; omega
    | [a, b], _ => have := sgTxt_len (h a (by simp)); have := sgTxt_len (h b (by simp)); simp; omega
  simp only [sJoin, dr_lst, strSeq, strs_mapT]
  rw [if_pos (by rw [len_com, List.length_map]; omega)]
  rfl
theorem join_line {z : Str} {l : List Sg} {g : Sto} (hz : z ∈ every) (h2 : l.length ≤ 2) (h : ∀ s ∈ l, okS s) : sJoin (.str " ") (.lst [.str z, .str (sgsTxt l)]) g = .ok (.str (lineT z l)) g := by
  have h3 := (plain_ok (every_plain hz)).2.2.2
  have h4 := sgs_len h2 h
  have e : strSeq (dr g (.lst [.str z, .str (sgsTxt l)])) = some [z, sgsTxt l] := rfl
  simp only [sJoin, e]
  rw [if_pos (by simp [len_gap]; omega)]
  rfl
theorem sortT_map (T : Tab) : ((sortT T).map fun p => lineT p.1 p.2) = (nmsT T).map fun z => lineT z (lookT T z) := by
  unfold sortT
  rw [List.map_map]
  rfl
theorem lines_p {T : Tab} {n : Nat} {g : Sto} (h : GoodT T n) : sJoin (.str "\n") (.lst ((nmsT T).map fun z => .str (lineT z (lookT T z)))) g = .ok (.str (textT (sortT T))) g := by
  have := join_p (g := g) (good_perm (sortT_perm h) h)
  rw [sortT_map, List.map_map] at this
  exact this
theorem look_ok {T : Tab} {n : Nat} (h : GoodT T n) {z : Str} (hz : z ∈ nmsT T) : z ∈ T.map (·.1) ∧ z ∈ every ∧ (lookT T z).length ≤ 2 ∧ ∀ s ∈ lookT T z, okS s := by
  have hm := mem_nms.mp hz
  obtain ⟨h1, h2, h3, h4⟩ := row_ok h (look_mem hm)
  exact ⟨hm, h1, h3, h4⟩
theorem tstr_ok {T : Tab} {n : Nat} (h : GoodT T n) : F_Table_str [tabD T n] [] = .ok (.str (textT (sortT T))) [] := by
  refine Ok_eq ?_
  unfold F_Table_str Q_Table_str
  rw [Ok_fnOf]
  have hf := h.few
  have hl := nms_len T
  simp [List.replicate, big, sIter, itemsOf]
  refine for_idx (fun i env g => g = [] ∧ ∃ a2 a3, env = [.sh (tabD T n), .ow (.lst (((nmsT T).take i).map fun z => .str (lineT z (lookT T z)))), a2, a3]) 0 ⟨rfl, .no, .no, by simp⟩ ?_ ?_
  · rintro i hi env g ⟨rfl, a2, a3, rfl⟩
    have hi' : i < (nmsT T).length := by simpa using hi
    simp only [List.getElem_map]
    refine ⟨_, rfl, ?_⟩
    generalize hz : (nmsT T)[i] = z
    obtain ⟨hm, hev, h2, hs⟩ := look_ok h (show z ∈ nmsT T by rw [← hz]; exact List.getElem_mem _)
    have htk' : (nmsT T).take (0 + i + 1) = (nmsT T).take i ++ [z] := by rw [Nat.zero_add, List.take_succ_eq_append_getElem hi', hz]
    generalize (nmsT T).take (0 + i + 1) = N1 at htk' ⊢
    subst htk'
    have hn : ((nmsT T).take i).length < big := by rw [List.length_take]; unfold big; omega
    simp only [Nat.zero_add]
    generalize (nmsT T).take i = N0 at hn
    have hc : ∀ env : Ev.Env, 3 < env.length → compL (tgN 3) tYesF (eMt sJoin (eC (.str " ")) (eVarB 3)) env ((lookT T z).map sgD) [] = some ((lookT T z).map fun s => .str (sgTxt s), []) := fun env hle => by
      generalize lookT T z = l at hs
      induction l with
      | nil => rfl
      | cons s l ih =>
        have e : (eMt sJoin (eC (.str " ")) (eVarB 3)) (env.set 3 (.sh (sgD s))) [] = .ok (.str (sgTxt s)) [] := by
          refine Ok_eq ?_
          simp [List.getElem?_set_self hle, join_sg (hs s List.mem_cons_self)]
        simp only [List.map_cons, compL, tgN, tYesF, e]
        have := ih fun s hs' => hs s (List.mem_cons_of_mem _ hs')
        rw [this]
    have isg : ∀ g, sIter (sgT (lookT T z)) g = .ok ((lookT T z).map sgD) g := fun g => rfl
    simp [ix_rows hm]
    rw [Ok_eLc]
    simp [ix_rows hm, isg]
    refine ⟨_, _, hc _ (by simp [wipeE]), by simp; unfold big; omega, ?_⟩
    simp [join_sgs h2 hs, big, join_line hev h2 hs, putApp, hn]
    have hn' : N0.length < 1000000 := hn
    simp [hn']
  · rintro env g ⟨rfl, a2, a3, rfl⟩
    have e : (nmsT T).take (0 + ((nmsT T).map D.str).length) = nmsT T := by simp
    rw [e]
    simp [lines_p h]
theorem lawtext_ok {T : Tab} {n : Nat} (h : GoodT T n) : F__law_table_text [tabL sgs T] [] = .ok (.str (textT (sortT T))) [] := by
  refine Ok_eq ?_
  unfold F__law_table_text Q__law_table_text
  rw [Ok_fnOf]
  have hf := h.few
  have hl := nms_len T
  have vk : ∀ g, vKeys (some (.sh (tabL sgs T))) g = .ok (T.map fun p => .str p.1) g := fun g => rfl
  have ks : strsOf (T.map fun p => D.str p.1) = some (T.map (·.1)) := strs_mapT (fun p : Str × List Sg => p.1) T
  simp [List.replicate, big]
  rw [Ok_eLc]
  simp [vk]
  have hk : ∀ env : Ev.Env, 3 < env.length → ∀ g, compL (tgN 3) tYesF (eU (dr1 sStr) (eVarB 3)) env (T.map fun p => .str p.1) g = some ((T.map fun p => D.str p.1).map id, g) := fun env hl g => comp_map id fun d hd => by
    obtain ⟨p, hp, rfl⟩ := List.mem_map.mp hd
    refine ⟨_, rfl, rfl, Ok_eq ?_⟩
    simp [List.getElem?_set_self hl, sStr]
  refine ⟨_, _, hk _ (by simp [wipeE]) _, by simp; unfold big; omega, ?_⟩
  have hT : T.length < 64 := by omega
  simp [sSorted, ks, hT, sIter, itemsOf]
  rw [show sortS (List.map (fun x => x.fst) T) = nmsT T from rfl]
  refine for_idx (fun i env g => g = [] ∧ ∃ a2 a3 a4 a5, env = [.sh (tabL sgs T), .ow (.lst (((nmsT T).take i).map fun z => .str (lineT z (lookT T z)))), a2, a3, a4, a5]) 0 ⟨rfl, .no, .no, .no, .no, by simp⟩ ?_ ?_
  · rintro i hi env g ⟨rfl, a2, a3, a4, a5, rfl⟩
    have hi' : i < (nmsT T).length := by simpa using hi
    simp only [List.getElem_map]
    refine ⟨_, rfl, ?_⟩
    generalize hz : (nmsT T)[i] = z
    obtain ⟨hm, hev, h2, hs⟩ := look_ok h (show z ∈ nmsT T by rw [← hz]; exact List.getElem_mem _)
    have htk' : (nmsT T).take (0 + i + 1) = (nmsT T).take i ++ [z] := by rw [Nat.zero_add, List.take_succ_eq_append_getElem hi', hz]
    generalize (nmsT T).take (0 + i + 1) = N1 at htk' ⊢
    subst htk'
    have hn : ((nmsT T).take i).length < big := by rw [List.length_take]; unfold big; omega
    simp only [Nat.zero_add]
    generalize (nmsT T).take i = N0 at hn
    have hn' : N0.length < 1000000 := hn
    obtain ⟨d, e1, e2⟩ := dget_ok' (g := []) (all_sgs T) hm
    have e1 : sIxA (tabL sgs T) (.str z) [] = .ok d [] := e1
    have isg : sIter d [] = .ok ((lookT T z).map sgD) [] := by rcases e2 with rfl | rfl <;> rfl
    have dr0 : dr [] (tabL sgs T) = tabL sgs T := rfl
    have hc : ∀ env : Ev.Env, 5 < env.length → compL (tgT 2 (tgCons (tgN 4) (tgCons (tgN 5) tgNil))) tYesF (eB (dr2 sAddA) (eB (dr2 sAddA) (eVarB 4) (eC (.str " "))) (eVarB 5)) env ((lookT T z).map sgD) [] = some ((lookT T z).map fun s => .str (sgTxt s), []) := fun env hle => by
      generalize lookT T z = l at hs
      induction l with
      | nil => rfl
      | cons s l ih =>
        have g1 : ((env.set 4 (.sh (.str s.1))).set 5 (.sh (.str s.2)))[4]? = some (.sh (.str s.1)) := by rw [List.getElem?_set_ne (by decide), List.getElem?_set_self (by omega)]
        have g2 : ((env.set 4 (.sh (.str s.1))).set 5 (.sh (.str s.2)))[5]? = some (.sh (.str s.2)) := List.getElem?_set_self (by simpa using hle)
        have l1 := (plain_ok (does_plain (hs s List.mem_cons_self).1)).2.2.2
        have l2 := (plain_ok (looks_plain (hs s List.mem_cons_self).2)).2.2.2
        have b1 : s.1.length + (" " : Str).length ≤ big := by rw [len_gap]; unfold big; omega
        have b2 : (s.1 ++ (" " : Str)).length + s.2.length ≤ big := by
          have : (s.1 ++ (" " : Str)).length = s.1.length + 1 := by rw [← len_gap]; simp [Str.length, Str.cps_append]
          rw [this]
          unfold big
          omega
        have e : (eB (dr2 sAddA) (eB (dr2 sAddA) (eVarB 4) (eC (.str " "))) (eVarB 5)) ((env.set 4 (.sh (.str s.1))).set 5 (.sh (.str s.2))) [] = .ok (.str (sgTxt s)) [] := by
          refine Ok_eq ?_
          simp [g1, g2, sAddA, b1, b2]
          unfold sgTxt
          rw [join_two]
        have etg : tgT 2 (tgCons (tgN 4) (tgCons (tgN 5) tgNil)) (sgD s) env = some ((env.set 4 (.sh (.str s.1))).set 5 (.sh (.str s.2))) := rfl
        simp only [List.map_cons, compL, etg, tYesF, e]
        have := ih fun s hs' => hs s (List.mem_cons_of_mem _ hs')
        rw [this]
    have l3 := (plain_ok (every_plain hev)).2.2.2
    have l4 := sgs_len h2 hs
    have b1 : z.length + (" " : Str).length ≤ big := by rw [len_gap]; unfold big; omega
    have b2 : (z ++ (" " : Str)).length + (sgsTxt (lookT T z)).length ≤ big := by
      have : (z ++ (" " : Str)).length = z.length + 1 := by rw [← len_gap]; simp [Str.length, Str.cps_append]
      rw [this]
      unfold big
      omega
    simp [sAddA, b1]
    rw [Ok_eLc]
    simp [dr0, e1, isg]
    refine ⟨_, _, hc _ (by simp [wipeE]), by simp; unfold big; omega, ?_⟩
    simp [join_sgs h2 hs, sAddA, b2, putApp, hn]
    unfold lineT
    rw [join_two]
  · rintro env g ⟨rfl, a2, a3, a4, a5, rfl⟩
    have e : (nmsT T).take (0 + ((nmsT T).map D.str).length) = nmsT T := by simp
    rw [e]
    simp [lines_p h]
theorem teq_ok {T : Tab} {n : Nat} : F_Table_eq [tabD T n, tabD T n] [] = .ok (.bl true) [] := by
  refine Ok_eq ?_
  unfold F_Table_eq Q_Table_eq
  rw [Ok_fnOf]
  have e : ∀ g, sEqD false (rowsT T) (rowsT T) g = .ok (.bl true) g := fun g => by
    have := deqDic_same (f := fun z => sgT (lookT T z)) (g := fun z => sgT (lookT T z)) (nmsT T) fun z _ => by
      have := deq_tup (f := sgD) (n := 37) (fun a b => by
        have := deq_tup (f := D.str) (n := 36) (deq_str 36) [a.1, a.2] [b.1, b.2]
        have e : ([a.1, a.2] = [b.1, b.2]) ↔ a = b := by
          constructor
          · intro h
            simp only [List.cons.injEq, and_true] at h
            exact Prod.ext h.1 h.2
          · intro h; rw [h]
        simp only [e] at this
        exact this) (lookT T z) (lookT T z)
      rw [decide_eq_true rfl] at this
      exact this
    simp only [sEqD, rowsT, this]
    rfl
  have i : ∀ g, sIsiX [.own 0] (tabD T n) g = .ok (.bl true) g := fun g => by simp [sIsiX, subT]
  simp [List.replicate, i, e]
theorem does_ok {T : Tab} {n i : Nat} {z : Str} (hg : GoodT T n) (hz : z ∈ T.map (·.1)) (hi : i < n) : F_Table_does [tabD T n, .str z, .int (i : Nat)] [] = .ok (.str (sgAt (lookT T z) i).1) [] := by
  refine Ok_eq ?_
  unfold F_Table_does Q_Table_does
  rw [Ok_fnOf]
  have c1 : isCls 0 "need" (tabD T n) = true := cls_tab (by decide)
  have hlk : (lookT T z).length = n := (hg.sg _ (look_mem hz)).1
  have ds : ∀ g, dr g (sgT (lookT T z)) = sgT (lookT T z) := fun g => rfl
  simp [List.replicate, c1, need_p hz, ix_rows hz, ds, ix_sgd (.inr rfl : IsSg (sgT (lookT T z)) (lookT T z)) (show i < (lookT T z).length by omega), dr_sgD, ix_sg0]
theorem tlook_ok {T : Tab} {n i : Nat} {z : Str} (hg : GoodT T n) (hz : z ∈ T.map (·.1)) (hi : i < n) : F_Table_look [tabD T n, .str z, .int (i : Nat)] [] = .ok (.str (sgAt (lookT T z) i).2) [] := by
  refine Ok_eq ?_
  unfold F_Table_look Q_Table_look
  rw [Ok_fnOf]
  have c1 : isCls 0 "need" (tabD T n) = true := cls_tab (by decide)
  have hlk : (lookT T z).length = n := (hg.sg _ (look_mem hz)).1
  have ds : ∀ g, dr g (sgT (lookT T z)) = sgT (lookT T z) := fun g => rfl
  simp [List.replicate, c1, need_p hz, ix_rows hz, ds, ix_sgd (.inr rfl : IsSg (sgT (lookT T z)) (lookT T z)) (show i < (lookT T z).length by omega), dr_sgD, ix_sg1]
/-! ### the law -/
section
variable {T : Tab} {n : Nat} {g : Sto}
theorem read_p (h : GoodT T n) : purF 2 F_Table_read [.cls 0, .str (textT T)] g = .ok (tabD T n) g := purF_ok (n := 2) (read_ok h) rfl rfl (noLoc_tab T n)
theorem lawtext_p (h : GoodT T n) : purF 1 F__law_table_text [tabL sgs T] g = .ok (.str (textT (sortT T))) g := purF_ok (n := 1) (lawtext_ok h) rfl (by rw [tabL_dict]; simp [noLocL, noLoc_dictT (all_sgs T)]) rfl
theorem str_s (h : GoodT T n) : sStrO 0 (purF 1 F_Table_str) (tabD T n) g = .ok (.str (textT (sortT T))) g := by
  simp [sStrO, purF_ok (n := 1) (tstr_ok h) rfl (by simp [noLocL, noLoc_tab]) rfl, Res.bind]
theorem ne_s : sEqO 0 (purF 2 F_Table_eq) true (tabD T n) (tabD T n) g = .ok (.bl false) g := by
  simp [sEqO, purF_ok (n := 2) (teq_ok (T := T) (n := n)) rfl (by simp [noLocL, noLoc_tab]) rfl, Res.bind]
theorem does_p {i : Nat} {z : Str} (hg : GoodT T n) (hz : z ∈ T.map (·.1)) (hi : i < n) : purF 3 F_Table_does [tabD T n, .str z, .int (i : Nat)] g = .ok (.str (sgAt (lookT T z) i).1) g := purF_ok (n := 3) (does_ok hg hz hi) rfl (by simp [noLocL, noLoc_tab, noLoc]) rfl
theorem look_p {i : Nat} {z : Str} (hg : GoodT T n) (hz : z ∈ T.map (·.1)) (hi : i < n) : purF 3 F_Table_look [tabD T n, .str z, .int (i : Nat)] g = .ok (.str (sgAt (lookT T z) i).2) g := purF_ok (n := 3) (tlook_ok hg hz hi) rfl (by simp [noLocL, noLoc_tab, noLoc]) rfl
end
theorem turn_ok {nd : Nat} {s0 s1 s3 s4 s5 s6 s7 s8 s9 s10 : Slot} {g : Sto} {P : Pst} (h : Dealt "mixed" nd g)
    (hP : ∀ s4 s5 s6 s7 s8 s9 s10 g', Dealt "mixed" nd g' → P.nx [s0, s1, .sh (.loc nd), s3, s4, s5, s6, s7, s8, s9, s10] g') :
    So ((sSeq (sSet 4 (eCall 3 F__law_table (eCons (eVar 2) (eCons (eCall 2 F__law_names (eCons (eVar 2) (eCons (eB (dr2 sAddA) (eC (.int 1)) (eCall 2 F__law_draw (eCons (eVar 2) (eCons (eC (.int 6)) eNil)))) eNil))) (eCons (eB (dr2 sAddA) (eC (.int 1)) (eCall 2 F__law_draw (eCons (eVar 2) (eCons (eC (.int 2)) eNil)))) eNil))))) (sSeq (sPar 7 8 (eFn (purF 1 F__law_table_text) (eCons (eVar 4) eNil)) (eFn (purF 1 F_Table_init) (eCons (eVar 4) eNil))) (sSeq (sSet 5 (eCall 2 F__law_mixed (eCons (eVar 2) (eCons (eMt sSplit (eVarB 7) (eC (.str "\n"))) eNil)))) (sSeq (sSet 6 (eFn (fun ds g => purF 2 F_Table_read (.cls 0 :: ds) g) (eCons (eMt sJoin (eC (.str "\n")) (eVarB 5)) eNil))) (sSeq (sIf (tOrF (eU asB (eB (sEqO 0 (purF 2 F_Table_eq) true) (eVar 6) (eVar 8))) (tOrF (eU asB (eB (dr2 sNe) (eU (sStrO 0 (purF 1 F_Table_str)) (eVar 6)) (eVarB 7))) (tOrF (eU asB (eB (sEqO 0 (purF 2 F_Table_eq) true) (eFn (fun ds g => purF 2 F_Table_read (.cls 0 :: ds) g) (eCons (eVar 7) eNil)) (eVar 8))) (eU asB (eB (sEqO 0 (purF 2 F_Table_eq) true) (eFn (fun ds g => purF 2 F_Table_read (.cls 0 :: ds) g) (eCons (eU (sStrO 0 (purF 1 F_Table_str)) (eVar 6)) eNil)) (eVar 6)))))) (sRet (eC (.bl false))) sNil) (sSeq (sIf (tOrF (eU asB (eB (dr2 sNe) (eU (dr1 (sFldG "names")) (eVarB 6)) (eU (dr1 (sFldG "names")) (eVarB 8)))) (eU asB (eB (dr2 sNe) (eU (dr1 (sFldG "things")) (eVarB 6)) (eU (dr1 (sFldG "things")) (eVarB 8))))) (sRet (eC (.bl false))) sNil) (sSeq (sPar 9 10 (eCall 2 F__law_pick (eCons (eVar 2) (eCons (eU (dr1 sList) (eU (dr1 (sFldG "names")) (eVarB 8))) eNil))) (eCall 2 F__law_draw (eCons (eVar 2) (eCons (eU (dr1 (sFldG "things")) (eVarB 8)) eNil)))) (sIf (eU asB (eB (dr2 sNe) (eTup (eCons (eMet 0 "does" (purF 3 F_Table_does) (eVar 6) (eCons (eVar 9) (eCons (eVar 10) eNil))) (eCons (eMet 0 "look" (purF 3 F_Table_look) (eVar 6) (eCons (eVar 9) (eCons (eVar 10) eNil))) eNil))) (eB (dr2 sIxA) (eB (dr2 sIxA) (eVarB 4) (eVarB 9)) (eVarB 10)))) (sRet (eC (.bl false))) sNil)))))))) [s0, s1, .sh (.loc nd), s3, s4, s5, s6, s7, s8, s9, s10] g) P := by
  rw [So_seq]
  simp [sAddA]
  refine draw_spec (w := 6) h (by decide) (by decide) fun j g1 hj hd1 => ?_
  have ej : (1 + (j : Int)) = ((1 + j : Nat) : Int) := by omega
  simp [sAddA]
  rw [ej]
  refine names_spec (k := 1 + j) hd1 (by omega) fun names g2 hn1 hn2 hn3 hd2 => ?_
  simp [sAddA]
  refine draw_spec (w := 2) hd2 (by decide) (by decide) fun i g3 hi hd3 => ?_
  have e : (1 + (i : Int)) = ((1 + i : Nat) : Int) := by omega
  simp [sAddA]
  rw [e]
  have hne : names ≠ [] := by intro e; rw [e] at hn3; simp at hn3; omega
  refine table_spec hd3 (by omega) hn2 (by omega) fun T g4 eT h3 hd4 => ?_
  have hg : GoodT T (1 + i) := ⟨fun z => hne (by rw [← eT, z]; rfl), by have := congrArg List.length eT; simp at this; omega, by rw [eT]; exact hn2, fun p hp => hn1 _ (by rw [← eT]; exact List.mem_map.mpr ⟨p, hp, rfl⟩), h3, by omega, by omega⟩
  generalize 1 + i = n at hg
  have hS := good_perm (sortT_perm hg) hg
  have ti : ∀ g, purF 1 F_Table_init [tabL sgs T] g = .ok (tabD T n) g := fun g => tinit_p (all_sgs T) hg
  simp [lawtext_p hg, ti, split_p hS, -List.map_map]
  refine mixed_spec hd4 (by simp; rw [(sortT_perm hg).length_eq]; have := hg.few; omega) fun ys g5 hp hd5 => ?_
  obtain ⟨ws, rfl, hp'⟩ := perm_strs hp
  obtain ⟨T2, hT2, rfl⟩ := perm_map_inv hp'
  have hT2' := hT2.trans (sortT_perm hg)
  have g2' := good_perm hT2' hg
  have r2 : ∀ g, purF 2 F_Table_read [.cls 0, .str (textT T2)] g = .ok (tabD T n) g := fun g => by rw [read_p g2', tab_perm hT2' hg]
  have r3 : ∀ g, purF 2 F_Table_read [.cls 0, .str (textT (sortT T))] g = .ok (tabD T n) g := fun g => by rw [read_p hS, tab_perm (sortT_perm hg) hg]
  have nes : ∀ z g, sNe (.str z) (.str z) g = .ok (.bl false) g := fun z g => by simp [sNe, deq_str]
  have net : ∀ g, sNe (.tup ((nmsT T).map .str)) (.tup ((nmsT T).map .str)) g = .ok (.bl false) g := fun g => by
    have := deq_tup (f := D.str) (n := 39) (deq_str 39) (nmsT T) (nmsT T)
    simp [sNe, this]
  have nei : ∀ g, sNe (.int (n : Nat)) (.int (n : Nat)) g = .ok (.bl false) g := fun g => by simp [sNe, deq_int]
  simp [join_p g2', r2, ne_s, str_s hg, nes, r3, net, nei, sList, -List.map_map]
  refine pick_spec hd5 (by simp; intro e; have := nms_len T; rw [e] at this; exact hg.ne (List.eq_nil_of_length_eq_zero this.symm)) (by simp; rw [nms_len]; have := hg.few; omega) fun x hx g6 hd6 => ?_
  obtain ⟨z, hz, rfl⟩ := List.mem_map.mp hx
  have hzm := mem_nms.mp hz
  have hn1' := hg.n1
  have hn2' := hg.n2
  simp
  refine draw_spec (w := n) hd6 (by omega) (by omega) fun c g7 hc hd7 => ?_
  have hc : c < n := by omega
  have cd : isCls 0 "does" (tabD T n) = true := cls_tab (by decide)
  have ck : isCls 0 "look" (tabD T n) = true := cls_tab (by decide)
  obtain ⟨d, e1, e2⟩ := dget_ok' (g := g7) (all_sgs T) hzm
  have e1 : sIxA (tabL sgs T) (.str z) g7 = .ok d g7 := e1
  have dr0 : ∀ g, dr g (tabL sgs T) = tabL sgs T := fun g => rfl
  have hlk : (lookT T z).length = n := (hg.sg _ (look_mem hzm)).1
  have nsg : ∀ g, sNe (.tup [.str (sgAt (lookT T z) c).1, .str (sgAt (lookT T z) c).2]) (sgD (sgAt (lookT T z) c)) g = .ok (.bl false) g := fun g => by
    have := deq_tup (f := D.str) (n := 39) (deq_str 39) [(sgAt (lookT T z) c).1, (sgAt (lookT T z) c).2] [(sgAt (lookT T z) c).1, (sgAt (lookT T z) c).2]
    rw [decide_eq_true rfl] at this
    have this : deq 40 (.tup [.str (sgAt (lookT T z) c).1, .str (sgAt (lookT T z) c).2]) (sgD (sgAt (lookT T z) c)) = some true := this
    simp [sNe, this]
  simp [cd, ck, does_p hg hzm hc, look_p hg hzm hc, big, dr0, e1, dr_sg e2, ix_sgd e2 (show c < (lookT T z).length by omega), dr_sgD, nsg]
  exact hP _ _ _ _ _ _ _ _ hd7
theorem law_ok (ns : List Int) : ∃ g, F_law [.frz (ns.map .int)] [] = .ok (.bl true) g := by
  have key : Ok (F_law [.frz (ns.map .int)] []) (fun d _ => d = .bl true) := by
    unfold F_law Q_law
    rw [Ok_fnOf, So_seq]
    simp [List.replicate, sLenA, sMin2, sMax2]
    refine rng_nat (by split <;> split <;> omega) (by split <;> split <;> omega) fun k => ?_
    refine for_inv (fun env g => ∃ s1 s2 s3 s4 s5 s6 s7 s8 s9 s10, env = [.sh (.frz (ns.map .int)), s1, s2, s3, s4, s5, s6, s7, s8, s9, s10]) ⟨_, _, _, _, _, _, _, _, _, _, rfl⟩ ?_ ?_
    · rintro d hd env g ⟨s1, s2, s3, s4, s5, s6, s7, s8, s9, s10, rfl⟩
      obtain ⟨b, _, rfl⟩ := List.mem_map.mp hd
      refine ⟨_, rfl, ?_⟩
      rw [So_seq]
      simp
      refine source_spec fun n g' hdl => ?_
      rw [So_for]
      simp
      refine rng_nat (m := 5) (by decide) (by decide) fun k => ?_
      refine for_inv (fun env g => Dealt "mixed" n g ∧ ∃ s3 s4 s5 s6 s7 s8 s9 s10, env = [.sh (.frz (ns.map .int)), .sh (.int (b : Nat)), .sh (.loc n), s3, s4, s5, s6, s7, s8, s9, s10]) ⟨hdl, _, _, _, _, _, _, _, _, rfl⟩ ?_ ?_
      · rintro d hd env g ⟨hdl, s3, s4, s5, s6, s7, s8, s9, s10, rfl⟩
        refine ⟨_, rfl, ?_⟩
        exact turn_ok hdl fun s4 s5 s6 s7 s8 s9 s10 g' hd => ⟨hd, _, _, _, _, _, _, _, _, rfl⟩
      · rintro env g ⟨hdl, s3, s4, s5, s6, s7, s8, s9, s10, rfl⟩
        exact ⟨_, _, _, _, _, _, _, _, _, _, rfl⟩
    · rintro env g ⟨s1, s2, s3, s4, s5, s6, s7, s8, s9, s10, rfl⟩
      simp
  obtain ⟨d, g, e, rfl⟩ := key.ex
  exact ⟨g, e⟩
end Lw
namespace Lw
open PySem PySem.Spec PyProof.Rows L2 Ev
def D__law_source : DefE := ⟨(.glo "_law_source"), "_law_source", "_law_source", s__law_source, []⟩
def D__law_draw : DefE := ⟨(.glo "_law_draw"), "_law_draw", "_law_draw", s__law_draw, []⟩
def D__law_pick : DefE := ⟨(.glo "_law_pick"), "_law_pick", "_law_pick", s__law_pick, []⟩
def D__law_sign : DefE := ⟨(.glo "_law_sign"), "_law_sign", "_law_sign", s__law_sign, []⟩
def D__law_table : DefE := ⟨(.glo "_law_table"), "_law_table", "_law_table", s__law_table, []⟩
def D__law_mixed : DefE := ⟨(.glo "_law_mixed"), "_law_mixed", "_law_mixed", s__law_mixed, []⟩
def D__law_names : DefE := ⟨(.glo "_law_names"), "_law_names", "_law_names", s__law_names, []⟩
def D__law_table_text : DefE := ⟨(.glo "_law_table_text"), "_law_table_text", "_law_table_text", s__law_table_text, []⟩
def D_is_name : DefE := ⟨(.glo "is_name"), "is_name", "is_name", s_is_name, []⟩
def D_is_sequence : DefE := ⟨(.glo "is_sequence"), "is_sequence", "is_sequence", s_is_sequence, []⟩
def D_is_sign : DefE := ⟨(.glo "is_sign"), "is_sign", "is_sign", s_is_sign, []⟩
def D_are_signs : DefE := ⟨(.glo "are_signs"), "are_signs", "are_signs", s_are_signs, []⟩
def D_Table_init : DefE := ⟨(.met "Table" "__init__"), "__init__", "Table.__init__", s_Table_init, []⟩
def D_signs_in : DefE := ⟨(.glo "signs_in"), "signs_in", "signs_in", s_signs_in, []⟩
def D_Table_read : DefE := ⟨(.cmt "Table" "read"), "read", "Table.read", s_Table_read, []⟩
def D_Table_eq : DefE := ⟨(.met "Table" "__eq__"), "__eq__", "Table.__eq__", s_Table_eq, []⟩
def D_Table_str : DefE := ⟨(.met "Table" "__str__"), "__str__", "Table.__str__", s_Table_str, []⟩
def D_Table_contains : DefE := ⟨(.met "Table" "__contains__"), "__contains__", "Table.__contains__", s_Table_contains, []⟩
def D_Table_need : DefE := ⟨(.met "Table" "need"), "need", "Table.need", s_Table_need, []⟩
def D_Table_look : DefE := ⟨(.met "Table" "look"), "look", "Table.look", s_Table_look, []⟩
def D_Table_does : DefE := ⟨(.met "Table" "does"), "does", "Table.does", s_Table_does, []⟩
def D_law : DefE := ⟨(.glo "law"), "law", "law", s_law, []⟩
def fnL : List DefE := [D__law_source, D__law_draw, D__law_pick, D__law_sign, D__law_table, D__law_mixed, D__law_names, D__law_table_text, D_is_name, D_is_sequence, D_is_sign, D_are_signs, D_Table_init, D_signs_in, D_Table_read, D_Table_eq, D_Table_str, D_Table_contains, D_Table_need, D_Table_look, D_Table_does, D_law]
def feL : List Chk := [chGlo "_law_source",
  chGlo "_law_draw",
  chGlo "_law_pick",
  chGlo "_law_sign",
  chGlo "_law_table",
  chGlo "_law_mixed",
  chGlo "_law_names",
  chGlo "_law_table_text",
  chGlo "is_name",
  chGlo "is_sequence",
  chGlo "is_sign",
  chGlo "are_signs",
  chGlo "signs_in",
  chGlo "law",
  chFree "len",
  chFree "min",
  chFree "max",
  chFree "range",
  chGlo "Table",
  chNe "Table",
  chFree "str",
  chFree "list",
  chFree "int",
  chFree "abs",
  chFree "dict",
  chFree "sorted",
  chStat clsL,
  chFree "isinstance",
  chNoat "Table" "names",
  chFree "tuple",
  chNoat "Table" "things",
  chNoat "Table" "sign_rows",
  chStr "BARRED" "none",
  chInt "MOST_LETTERS" 4,
  chStr "LETTERS" "abcdefghijklmnopqrstuvwxyz",
  chFree "all",
  chInt "MOST_THINGS" 2,
  chGlo "DOES",
  chTup "DOES" [.str "sets", .str "clears", .str "leaves"],
  chGlo "LOOKS",
  chTup "LOOKS" [.str "never", .str "on", .str "off"],
  chFree "enumerate",
  chCls "Table",
  chMk "Table",
  chCmt "Table" "read",
  chMeth "Table" "__eq__",
  chMeth "Table" "__str__",
  chMeth "Table" "__contains__",
  chMeth "Table" "need",
  chMeth "Table" "look",
  chMeth "Table" "does"]
abbrev R : PySem.W.OpenRow := PySem.W.OpenLaw.row PySem.Challenge.rw_poisonruns_k08_texts_of_tables
abbrev hk : PySem.W.Hook := hookE 6 feL fnL
def ob (s : PySem.W.SharedT) : AlE := obsEG 6 feL fnL (HandSHeadRun.getT s)
theorem ob_eq (s : PySem.W.SharedT) : ob s = hk.obs s.abs := obsEG_eq (HandSHeadRun.getT_eq s)
def loose : List PySem.Str := (["_wall", "PoisonError", "InvalidTable", "InvalidText", "NoTest", "LETTERS", "MOST_LETTERS", "BARRED", "DOES", "LOOKS", "is_sequence", "is_name", "MOST_THINGS", "is_sign", "are_signs", "signs_in", "Table", "_law_source", "_law_draw", "_law_pick", "_law_mixed", "_law_names", "_law_sign", "_law_table", "_law_table_text"] : List PySem.Str)
theorem runF (w : World) : HandSHeadRun.RunEq R (PySem.W.view R.prog [29]) hk ob 4000 loose (w.withFollow "special-get-raises" false) := by
  intro os
  kernel_rfl
theorem runT (w : World) : HandSHeadRun.RunEq R (PySem.W.view R.prog [29]) hk ob 4000 loose (w.withFollow "special-get-raises" true) := by
  intro os
  kernel_rfl
theorem run (w : World) : HandSHeadRun.RunEq R (PySem.W.view R.prog [29]) hk ob 4000 loose w :=
  PySem.W.byRow2 "special-get-raises" (P := fun w => HandSHeadRun.RunEq R (PySem.W.view R.prog [29]) hk ob 4000 loose w) runF runT w
theorem facts {P : Program} {w : World} {K : PySem.W.Frag} {h : Heap} {mg : PySem.Str → Option Value} {f : Addr} (X : K.In h) (G : h.Ns mainGlobals mg) (hfa : mg ("law" : PySem.Str) = some (.ref f)) (c : SaysE feL fnL K) :
    ∃ fd : FuncData, (∀ (s : Shared) (v : Value), BindsTo s fd ⟨[v], []⟩ [("_law_script", v)]) ∧ ∀ base : Heap, K.In base → base.Ns mainGlobals mg → FnOk P w K mg base CX0 6 f fd ["_law_script"] (Spec (St0 K) 1 F_law) := by
  have e := hfa.symm.trans (He.glo_ok X G (c.fact 13 (f := chGlo "law") rfl))
  cases e
  have gp__law_source : GotP K (.glo "_law_source") "_law_source" "_law_source" s__law_source [] := c.got 0 (d := D__law_source) rfl
  have g__law_source : Got K mg "_law_source" s__law_source := gp__law_source.got (He.glo_ok X G (c.fact 0 (f := chGlo "_law_source") rfl))
  have gp__law_draw : GotP K (.glo "_law_draw") "_law_draw" "_law_draw" s__law_draw [] := c.got 1 (d := D__law_draw) rfl
  have g__law_draw : Got K mg "_law_draw" s__law_draw := gp__law_draw.got (He.glo_ok X G (c.fact 1 (f := chGlo "_law_draw") rfl))
  have gp__law_pick : GotP K (.glo "_law_pick") "_law_pick" "_law_pick" s__law_pick [] := c.got 2 (d := D__law_pick) rfl
  have g__law_pick : Got K mg "_law_pick" s__law_pick := gp__law_pick.got (He.glo_ok X G (c.fact 2 (f := chGlo "_law_pick") rfl))
  have gp__law_sign : GotP K (.glo "_law_sign") "_law_sign" "_law_sign" s__law_sign [] := c.got 3 (d := D__law_sign) rfl
  have g__law_sign : Got K mg "_law_sign" s__law_sign := gp__law_sign.got (He.glo_ok X G (c.fact 3 (f := chGlo "_law_sign") rfl))
  have gp__law_table : GotP K (.glo "_law_table") "_law_table" "_law_table" s__law_table [] := c.got 4 (d := D__law_table) rfl
  have g__law_table : Got K mg "_law_table" s__law_table := gp__law_table.got (He.glo_ok X G (c.fact 4 (f := chGlo "_law_table") rfl))
  have gp__law_mixed : GotP K (.glo "_law_mixed") "_law_mixed" "_law_mixed" s__law_mixed [] := c.got 5 (d := D__law_mixed) rfl
  have g__law_mixed : Got K mg "_law_mixed" s__law_mixed := gp__law_mixed.got (He.glo_ok X G (c.fact 5 (f := chGlo "_law_mixed") rfl))
  have gp__law_names : GotP K (.glo "_law_names") "_law_names" "_law_names" s__law_names [] := c.got 6 (d := D__law_names) rfl
  have g__law_names : Got K mg "_law_names" s__law_names := gp__law_names.got (He.glo_ok X G (c.fact 6 (f := chGlo "_law_names") rfl))
  have gp__law_table_text : GotP K (.glo "_law_table_text") "_law_table_text" "_law_table_text" s__law_table_text [] := c.got 7 (d := D__law_table_text) rfl
  have g__law_table_text : Got K mg "_law_table_text" s__law_table_text := gp__law_table_text.got (He.glo_ok X G (c.fact 7 (f := chGlo "_law_table_text") rfl))
  have gp_is_name : GotP K (.glo "is_name") "is_name" "is_name" s_is_name [] := c.got 8 (d := D_is_name) rfl
  have g_is_name : Got K mg "is_name" s_is_name := gp_is_name.got (He.glo_ok X G (c.fact 8 (f := chGlo "is_name") rfl))
  have gp_is_sequence : GotP K (.glo "is_sequence") "is_sequence" "is_sequence" s_is_sequence [] := c.got 9 (d := D_is_sequence) rfl
  have g_is_sequence : Got K mg "is_sequence" s_is_sequence := gp_is_sequence.got (He.glo_ok X G (c.fact 9 (f := chGlo "is_sequence") rfl))
  have gp_is_sign : GotP K (.glo "is_sign") "is_sign" "is_sign" s_is_sign [] := c.got 10 (d := D_is_sign) rfl
  have g_is_sign : Got K mg "is_sign" s_is_sign := gp_is_sign.got (He.glo_ok X G (c.fact 10 (f := chGlo "is_sign") rfl))
  have gp_are_signs : GotP K (.glo "are_signs") "are_signs" "are_signs" s_are_signs [] := c.got 11 (d := D_are_signs) rfl
  have g_are_signs : Got K mg "are_signs" s_are_signs := gp_are_signs.got (He.glo_ok X G (c.fact 11 (f := chGlo "are_signs") rfl))
  have g_Table_init : GotP K (.met "Table" "__init__") "__init__" "Table.__init__" s_Table_init [] := c.got 12 (d := D_Table_init) rfl
  have gp_signs_in : GotP K (.glo "signs_in") "signs_in" "signs_in" s_signs_in [] := c.got 13 (d := D_signs_in) rfl
  have g_signs_in : Got K mg "signs_in" s_signs_in := gp_signs_in.got (He.glo_ok X G (c.fact 12 (f := chGlo "signs_in") rfl))
  have g_Table_read : GotP K (.cmt "Table" "read") "read" "Table.read" s_Table_read [] := c.got 14 (d := D_Table_read) rfl
  have g_Table_eq : GotP K (.met "Table" "__eq__") "__eq__" "Table.__eq__" s_Table_eq [] := c.got 15 (d := D_Table_eq) rfl
  have g_Table_str : GotP K (.met "Table" "__str__") "__str__" "Table.__str__" s_Table_str [] := c.got 16 (d := D_Table_str) rfl
  have g_Table_contains : GotP K (.met "Table" "__contains__") "__contains__" "Table.__contains__" s_Table_contains [] := c.got 17 (d := D_Table_contains) rfl
  have g_Table_need : GotP K (.met "Table" "need") "need" "Table.need" s_Table_need [] := c.got 18 (d := D_Table_need) rfl
  have g_Table_look : GotP K (.met "Table" "look") "look" "Table.look" s_Table_look [] := c.got 19 (d := D_Table_look) rfl
  have g_Table_does : GotP K (.met "Table" "does") "does" "Table.does" s_Table_does [] := c.got 20 (d := D_Table_does) rfl
  have gp_law : GotP K (.glo "law") "law" "law" s_law [] := c.got 21 (d := D_law) rfl
  have b : Bl K mg := ⟨He.free_ok X G (c.fact 14 (f := chFree "len") rfl),
    He.free_ok X G (c.fact 15 (f := chFree "min") rfl),
    He.free_ok X G (c.fact 16 (f := chFree "max") rfl),
    He.free_ok X G (c.fact 17 (f := chFree "range") rfl),
    He.glo_ok X G (c.fact 18 (f := chGlo "Table") rfl),
    (c.fact 19 (f := chNe "Table") rfl),
    He.free_ok X G (c.fact 20 (f := chFree "str") rfl),
    He.free_ok X G (c.fact 21 (f := chFree "list") rfl),
    He.free_ok X G (c.fact 22 (f := chFree "int") rfl),
    He.free_ok X G (c.fact 23 (f := chFree "abs") rfl),
    He.free_ok X G (c.fact 24 (f := chFree "dict") rfl),
    He.free_ok X G (c.fact 25 (f := chFree "sorted") rfl),
    chStat_ok (c.fact 26 (f := chStat clsL) rfl),
    He.free_ok X G (c.fact 27 (f := chFree "isinstance") rfl),
    He.noat_ok (c.fact 28 (f := chNoat "Table" "names") rfl),
    He.free_ok X G (c.fact 29 (f := chFree "tuple") rfl),
    He.noat_ok (c.fact 30 (f := chNoat "Table" "things") rfl),
    He.noat_ok (c.fact 31 (f := chNoat "Table" "sign_rows") rfl),
    He.str_ok X G (c.fact 32 (f := chStr "BARRED" "none") rfl),
    He.int_ok X G (c.fact 33 (f := chInt "MOST_LETTERS" 4) rfl),
    He.str_ok X G (c.fact 34 (f := chStr "LETTERS" "abcdefghijklmnopqrstuvwxyz") rfl),
    He.free_ok X G (c.fact 35 (f := chFree "all") rfl),
    He.int_ok X G (c.fact 36 (f := chInt "MOST_THINGS" 2) rfl),
    He.glo_ok X G (c.fact 37 (f := chGlo "DOES") rfl),
    (c.fact 38 (f := chTup "DOES" [.str "sets", .str "clears", .str "leaves"]) rfl),
    He.glo_ok X G (c.fact 39 (f := chGlo "LOOKS") rfl),
    (c.fact 40 (f := chTup "LOOKS" [.str "never", .str "on", .str "off"]) rfl),
    He.free_ok X G (c.fact 41 (f := chFree "enumerate") rfl),
    (c.fact 42 (f := chCls "Table") rfl),
    (c.fact 43 (f := chMk "Table") rfl),
    (c.fact 44 (f := chCmt "Table" "read") rfl),
    (c.fact 45 (f := chMeth "Table" "__eq__") rfl),
    (c.fact 46 (f := chMeth "Table" "__str__") rfl),
    (c.fact 47 (f := chMeth "Table" "__contains__") rfl),
    (c.fact 48 (f := chMeth "Table" "need") rfl),
    (c.fact 49 (f := chMeth "Table" "look") rfl),
    (c.fact 50 (f := chMeth "Table" "does") rfl)⟩
  obtain ⟨fd_law, X_law⟩ := gp_law.ex
  have bb := FunD.bindsA (ps := ["_law_script"]) X_law fun _ _ _ _ _ _ us hl => match us, hl with | [_], _ => rfl
  refine ⟨fd_law, fun s v => bb s [v] rfl, fun base _ _ => ?_⟩
  have d__law_source : Def P w K mg base (St0 K) "_law_source" 1 ["_law_script", "_law_base"] F__law_source := ok__law_source b g__law_source
  have d__law_draw : Def P w K mg base (St0 K) "_law_draw" 1 ["_law_deal", "_law_wide"] F__law_draw := ok__law_draw b g__law_draw
  have d__law_pick : Def P w K mg base (St0 K) "_law_pick" 2 ["_law_deal", "_law_some"] F__law_pick := ok__law_pick b g__law_pick d__law_draw
  have d__law_sign : Def P w K mg base (St0 K) "_law_sign" 3 ["_law_deal"] F__law_sign := ok__law_sign b g__law_sign d__law_pick
  have d__law_table : Def P w K mg base (St0 K) "_law_table" 4 ["_law_deal", "_law_names_here", "_law_things"] F__law_table := ok__law_table b g__law_table d__law_sign
  have d__law_mixed : Def P w K mg base (St0 K) "_law_mixed" 2 ["_law_deal", "_law_some"] F__law_mixed := ok__law_mixed b g__law_mixed d__law_draw
  have d__law_names : Def P w K mg base (St0 K) "_law_names" 3 ["_law_deal", "_law_amount"] F__law_names := ok__law_names b g__law_names d__law_mixed
  have d__law_table_text : Def P w K mg base (St0 K) "_law_table_text" 1 ["_law_table_here"] F__law_table_text := ok__law_table_text b g__law_table_text
  have d_is_name : Def P w K mg base (St0 K) "is_name" 1 ["value"] F_is_name := ok_is_name b g_is_name
  have d_is_sequence : Def P w K mg base (St0 K) "is_sequence" 1 ["value"] F_is_sequence := ok_is_sequence b g_is_sequence
  have d_is_sign : Def P w K mg base (St0 K) "is_sign" 1 ["value"] F_is_sign := ok_is_sign b g_is_sign
  have d_are_signs : Def P w K mg base (St0 K) "are_signs" 2 ["value"] F_are_signs := ok_are_signs b g_are_signs d_is_sequence d_is_sign
  have d_Table_init : DefI P w K mg base (St0 K) "Table" 0 3 ["self", "signs"] F_Table_init := ok_Table_init b g_Table_init d_is_name d_are_signs
  have d_signs_in : Def P w K mg base (St0 K) "signs_in" 3 ["line"] F_signs_in := ok_signs_in b g_signs_in d_is_name d_are_signs
  have d_Table_read : CmtS P w K mg base (St0 K) "Table" 0 "read" 5 ["cls", "text"] (Spec (St0 K) 2 F_Table_read) := ok_Table_read b g_Table_read d_signs_in d_Table_init
  have d_Table_eq : MetS P w K mg base (St0 K) 0 "__eq__" 1 ["self", "other"] (Spec (St0 K) 2 F_Table_eq) := ok_Table_eq b g_Table_eq
  have d_Table_str : MetS P w K mg base (St0 K) 0 "__str__" 1 ["self"] (Spec (St0 K) 1 F_Table_str) := ok_Table_str b g_Table_str
  have d_Table_contains : MetS P w K mg base (St0 K) 0 "__contains__" 1 ["self", "name"] (Spec (St0 K) 2 F_Table_contains) := ok_Table_contains b g_Table_contains
  have d_Table_need : MetS P w K mg base (St0 K) 0 "need" 2 ["self", "name"] (Spec (St0 K) 2 F_Table_need) := ok_Table_need b g_Table_need d_Table_contains
  have d_Table_look : MetS P w K mg base (St0 K) 0 "look" 3 ["self", "name", "thing"] (Spec (St0 K) 3 F_Table_look) := ok_Table_look b g_Table_look d_Table_need
  have d_Table_does : MetS P w K mg base (St0 K) 0 "does" 3 ["self", "name", "thing"] (Spec (St0 K) 3 F_Table_does) := ok_Table_does b g_Table_does d_Table_need
  exact ok_law b X_law d__law_source d__law_table d__law_draw d__law_names d__law_table_text d_Table_init d__law_mixed d_Table_read d_Table_eq d_Table_str d__law_pick d_Table_look d_Table_does
end Lw
open PySem PySem.W PySem.Calls PyProof.Rows
theorem PySem.Challenge.cw_poisonruns_k08_texts_of_tables_holds : PySem.Challenge.rw_poisonruns_k08_texts_of_tables.Holds := by
  w_on; o_law
  refine HandSHeadRun.head_any (r := OpenLaw.row PySem.Challenge.rw_poisonruns_k08_texts_of_tables) (q := view (OpenLaw.row PySem.Challenge.rw_poisonruns_k08_texts_of_tables).prog [29]) (H := Lw.hk) (ob := Lw.ob) (M := 4000) (loose := Lw.loose) (d := HandSHeadRun.topDef (OpenLaw.row PySem.Challenge.rw_poisonruns_k08_texts_of_tables).prog 29) (kwd := []) Lw.ob_eq
    (by kernel_rfl) (fun s => by kernel_rfl) Lw.run (by kernel_rfl) (by kernel_rfl) (by kernel_rfl) (by rfl) (by first | assumption | decide +kernel) (by decide +kernel) ⟨rfl, rfl, rfl, rfl, rfl, by decide +kernel⟩ ?hw ?hc
  case hw => w_witness2
  case hc =>
    refine L2.walk_ofE (l := PySem.Challenge.rw_poisonruns_k08_texts_of_tables) (n := 63) (k := 6) (x := "_law_script") (CX := L2.CX0) rfl (by decide) (by kernel_rfl) ⟨rfl, by decide, by decide⟩ ?F (fun _ _ _ _ z => z)
    intro w mg fa h Y G hmg0
    obtain ⟨K, KX, c⟩ := Y
    have hmg : mg ("law" : PySem.Str) = some (.ref fa) := by
      have e : (HandSHeadRun.topDef (OpenLaw.row PySem.Challenge.rw_poisonruns_k08_texts_of_tables).prog 29).name = ("law" : PySem.Str) := by kernel_rfl
      rw [← e]
      exact hmg0
    obtain ⟨fd, hb, hF⟩ := Lw.facts (P := (PySem.Challenge.rw_poisonruns_k08_texts_of_tables).prog) (w := w) KX G hmg c
    exact ⟨K, fd, Ev.Spec (Lw.St0 K) 1 Lw.F_law, KX, hb, fun H a ns hl _ hS => Ev.law_start (S := Lw.St0 K) hS (Lw.law_ok ns), hF⟩
