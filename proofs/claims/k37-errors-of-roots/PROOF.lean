import PyProof.Rows.All
import Wide.All
import OpenK.AllK
import Wide.FinOn
import HandS.ForMost
import HandS.ForExc
import HandS.ExcInit
import HandS.ExcSuper
import KE.KExcSuper
import KE.KExcIs
import HandS.Wide
import HandS.TupAny
import HandS.Style
import HandS.TupLe
import HandS.Deep
import HandS.StrMore
import KE.KRevSl
import HandS.Iter
import KE.GoesMore
import HandS.Property
import HandS.SortInts
import HandS.Star
import PyProof.Rows.SortShellAny
import HandS.Ends
import HandS.SetFor
import HandS.SetTxt0
import HandS.Conv
import HandS.OwnEq
import HandS.IsInst
import PyProof.InstEq
import KE.DataMinMax
import PyProof.SetRoads
import HandS.TryOnly
import KE.GoesRev
import PyProof.FactsAll.range_1
import HandS.WideBits
import HandS.Replace
import HandS.HotCalls
import HandS.ExcField
import PyProof.ReprLen
import PySem.Challenge.RW_wordhulls_k37_errors_of_roots
set_option Elab.async false
set_option linter.all false
set_option maxRecDepth 100000
set_option maxHeartbeats 4000000
/-! DCore: the data layer over HandS. Data (PyData), slots with an owner, the judgements. -/
namespace DL
open PySem PySem.Spec L2
abbrev strOk (x : Str) : Bool := PyData.strOk x

abbrev D := PyData
/-- what the program's top says -/
structure G where
  K : PySem.W.Frag
  mg : Str → Option Value
def keyD : Key → D
  | .inl i => .int i
  | .inr x => .str x
def keyOk1 : Key → Bool
  | .inl _ => true
  | .inr x => strOk x
def keysOk (l : List Key) : Bool := l.all keyOk1
def keysOkT (l : List (List Key)) : Bool := l.all keysOk
/-- a list that is read alone (the script) -/
def roD (ds : List D) : D := .dict [(.bool true, .list ds)]
/-- an instance as data: a dict that begins with None -/
def insD (c : Str) (ns : List Str) (ds : List D) : D := .dict ((.none, .str c) :: (ns.map PyData.str).zip ds)

/-- an error's object, its class and its dict -/
def xco (a C dd : Addr) : HO := .ext fun h => ∃ (oe : Obj) (vs : Array Value), h.get? a = some oe ∧ Zc (.ref C) (some dd) oe ∧ oe.data = .fields vs
/-- an error as data -/
def excD (c : Str) (d : D) : D := .dict [(.none, .none), (.str c, d)]

def Sub (F H : Hp) : Prop := ∀ a o, F a = some o → H a = some o
theorem Sub.refl {F : Hp} : Sub F F := fun _ _ h => h
theorem Sub.trans {F H J : Hp} (a : Sub F H) (b : Sub H J) : Sub F J := fun x o h => b x o (a x o h)
theorem Sub.rd {F H : Hp} {a : Addr} {u : HO} (s : Sub F H) (r : Rd F a u) : Rd H a u := by
  rcases r with r | ⟨o, r⟩
  · exact .inl (s _ _ r)
  · exact .inr ⟨o, s _ _ r⟩
theorem Sub.sqL {K : PySem.W.Frag} {F H : Hp} {a : Addr} {xs : List V} (s : Sub F H) (h : SqL K F a xs) : SqL K H a xs := by
  rcases h with h | h
  · exact .inl (s.rd h)
  · exact .inr h
theorem Sub.sqT {K : PySem.W.Frag} {F H : Hp} {a : Addr} {xs : List V} (s : Sub F H) (h : SqT K F a xs) : SqT K H a xs := by
  rcases h with h | h
  · exact .inl (s.rd h)
  · exact .inr h

mutual
/-- v is the data d, all its objects stand in F -/
inductive Den (g : G) (F : Hp) : V → D → Prop
  | non : Den g F .non .none
  | bl (b : Bool) : Den g F (.bl b) (.bool b)
  | int (i : Int) : Den g F (.int i) (.int i)
  | str (x : Str) : strOk x = true → Den g F (.str x) (.str x)
  | lst {a : Addr} {xs : List V} {ds : List D} : F a = some (.lst xs) → DenL g F xs ds → Den g F (.ref a) (.list ds)
  | ro {a : Addr} {xs : List V} {ds : List D} {d : D} : SqL g.K F a xs → DenL g F xs ds → d = roD ds → Den g F (.ref a) d
  | tup {a : Addr} {xs : List V} {ds : List D} : SqT g.K F a xs → DenL g F xs ds → Den g F (.ref a) (.tuple ds)
  | ins {a C dx : Addr} {c : Str} {fs : List (Str × V)} {vs : List V} {ds : List D} {d : D} : g.mg c = some (.ref C) → F a = some (.ins C dx fs) → vs = fs.map (·.2) → DenL g F vs ds → d = insD c (fs.map (·.1)) ds → Den g F (.ref a) d
  | dctK {a : Addr} {kvs : List (Key × V)} {vs : List V} {ds : List D} {d : D} : Rd F a (.dK kvs) → keysOk (kvs.map (·.1)) = true → vs = kvs.map (·.2) → DenL g F vs ds → d = .dict ((kvs.map fun p => keyD p.1).zip ds) → Den g F (.ref a) d
  | dctT {a : Addr} {kvs : List (List Key × V)} {vs : List V} {ds : List D} {d : D} : Rd F a (.dT kvs) → keysOkT (kvs.map (·.1)) = true → vs = kvs.map (·.2) → DenL g F vs ds → d = .dict ((kvs.map fun p => .tuple (p.1.map keyD)).zip ds) → Den g F (.ref a) d
  | exc {a C dd : Addr} {c : Str} {v : V} {d1 d : D} : g.mg c = some (.ref C) → F a = some (xco a C dd) → F dd = some (.xd [(("value" : Str), v)]) → Den g F v d1 → d = excD c d1 → Den g F (.ref a) d
inductive DenL (g : G) (F : Hp) : List V → List D → Prop
  | nil : DenL g F [] []
  | cons {v : V} {vs : List V} {d : D} {ds : List D} : Den g F v d → DenL g F vs ds → DenL g F (v :: vs) (d :: ds)
end
variable {g : G}
mutual
theorem Den.mono {F F' : Hp} (s : Sub F F') : ∀ {v : V} {d : D}, Den g F v d → Den g F' v d
  | _, _, .non => .non
  | _, _, .bl b => .bl b
  | _, _, .int i => .int i
  | _, _, .str x h => .str x h
  | _, _, .lst h r => .lst (s _ _ h) (DenL.mono s r)
  | _, _, .ro h r e => .ro (s.sqL h) (DenL.mono s r) e
  | _, _, .tup h r => .tup (s.sqT h) (DenL.mono s r)
  | _, _, .ins h1 h2 h3 r e => .ins h1 (s _ _ h2) h3 (DenL.mono s r) e
  | _, _, .dctK h1 h2 h3 r e => .dctK (s.rd h1) h2 h3 (DenL.mono s r) e
  | _, _, .dctT h1 h2 h3 r e => .dctT (s.rd h1) h2 h3 (DenL.mono s r) e
  | _, _, .exc h1 h2 h3 r e => .exc h1 (s _ _ h2) (s _ _ h3) (Den.mono s r) e
theorem DenL.mono {F F' : Hp} (s : Sub F F') : ∀ {vs : List V} {ds : List D}, DenL g F vs ds → DenL g F' vs ds
  | _, _, .nil => .nil
  | _, _, .cons h r => .cons (Den.mono s h) (DenL.mono s r)
end
theorem DenL.length {F : Hp} : ∀ {vs : List V} {ds : List D}, DenL g F vs ds → vs.length = ds.length
  | _, _, .nil => rfl
  | _, _, .cons _ r => congrArg (· + 1) (DenL.length r)
theorem DenL.get {F : Hp} : ∀ {vs : List V} {ds : List D} {i : Nat} {d : D}, DenL g F vs ds → ds[i]? = some d → ∃ v, vs[i]? = some v ∧ Den g F v d
  | _, _, 0, _, .cons h _, e => by simp at e; subst e; exact ⟨_, by simp, h⟩
  | _, _, i + 1, _, .cons _ r, e => by
    obtain ⟨v, h1, h2⟩ := DenL.get (i := i) r (by simpa using e)
    exact ⟨v, by simpa using h1, h2⟩
  | _, _, _, _, .nil, e => by simp at e
theorem DenL.get' {F : Hp} : ∀ {vs : List V} {ds : List D} {i : Nat} {v : V}, DenL g F vs ds → vs[i]? = some v → ∃ d, ds[i]? = some d ∧ Den g F v d
  | _, _, 0, _, .cons h _, e => by simp at e; subst e; exact ⟨_, by simp, h⟩
  | _, _, i + 1, _, .cons _ r, e => by
    obtain ⟨v, h1, h2⟩ := DenL.get' (i := i) r (by simpa using e)
    exact ⟨v, by simpa using h1, h2⟩
  | _, _, _, _, .nil, e => by simp at e
theorem DenL.append {F : Hp} : ∀ {vs ws : List V} {ds es : List D}, DenL g F vs ds → DenL g F ws es → DenL g F (vs ++ ws) (ds ++ es)
  | _, _, _, _, .nil, s => s
  | _, _, _, _, .cons h r, s => .cons h (DenL.append r s)
theorem DenL.take {F : Hp} : ∀ {vs : List V} {ds : List D} (n : Nat), DenL g F vs ds → DenL g F (vs.take n) (ds.take n)
  | _, _, 0, _ => .nil
  | _, _, _ + 1, .nil => .nil
  | _, _, n + 1, .cons h r => .cons h (DenL.take n r)
theorem DenL.drop {F : Hp} : ∀ {vs : List V} {ds : List D} (n : Nat), DenL g F vs ds → DenL g F (vs.drop n) (ds.drop n)
  | _, _, 0, r => r
  | _, _, _ + 1, .nil => .nil
  | _, _, n + 1, .cons _ r => DenL.drop n r
theorem DenL.set {F : Hp} {v : V} {d : D} (h : Den g F v d) : ∀ {vs : List V} {ds : List D} (n : Nat), DenL g F vs ds → DenL g F (vs.set n v) (ds.set n d)
  | _, _, _, .nil => .nil
  | _, _, 0, .cons _ r => .cons h r
  | _, _, n + 1, .cons k r => .cons k (DenL.set h n r)

/-- an object of one's own: it alone may change, what it holds stands in F -/
inductive OwnAt (g : G) (F H : Hp) (a : Addr) : D → Prop
  | lst {xs : List V} {ds : List D} : H a = some (.lst xs) → DenL g F xs ds → OwnAt g F H a (.list ds)
  | dctK {kvs : List (Key × V)} {vs : List V} {ds : List D} {d : D} : H a = some (.dK kvs) → keysOk (kvs.map (·.1)) = true → vs = kvs.map (·.2) → DenL g F vs ds → d = .dict ((kvs.map fun p => keyD p.1).zip ds) → OwnAt g F H a d
  | dctT {kvs : List (List Key × V)} {vs : List V} {ds : List D} {d : D} : H a = some (.dT kvs) → keysOkT (kvs.map (·.1)) = true → vs = kvs.map (·.2) → DenL g F vs ds → d = .dict ((kvs.map fun p => .tuple (p.1.map keyD)).zip ds) → OwnAt g F H a d
  | ins {C dx : Addr} {c : Str} {fs : List (Str × V)} {vs : List V} {ds : List D} {d : D} : g.mg c = some (.ref C) → H a = some (.ins C dx fs) → vs = fs.map (·.2) → DenL g F vs ds → d = insD c (fs.map (·.1)) ds → OwnAt g F H a d
theorem OwnAt.mono {F F' H H' : Hp} {a : Addr} {d : D} (s : Sub F F') (k : ∀ o, H a = some o → H' a = some o) (h : OwnAt g F H a d) : OwnAt g F' H' a d := by
  cases h with
  | lst h r => exact .lst (k _ h) (r.mono s)
  | dctK h1 h2 h3 r e => exact .dctK (k _ h1) h2 h3 (r.mono s) e
  | dctT h1 h2 h3 r e => exact .dctT (k _ h1) h2 h3 (r.mono s) e
  | ins h1 h2 h3 r e => exact .ins h1 (k _ h2) h3 (r.mono s) e
theorem OwnAt.there {F H : Hp} {a : Addr} {d : D} (h : OwnAt g F H a d) : ∃ o, H a = some o := by
  cases h with
  | lst h _ => exact ⟨_, h⟩
  | dctK h _ _ _ _ => exact ⟨_, h⟩
  | dctT h _ _ _ _ => exact ⟨_, h⟩
  | ins _ h _ _ _ => exact ⟨_, h⟩
/-- it stands still from now on -/
theorem OwnAt.den {F H : Hp} {a : Addr} {d : D} {o : HO} (h : OwnAt g F H a d) (ho : H a = some o) (hn : F a = none) : Den g (upd F a o) (.ref a) d := by
  have s : Sub F (upd F a o) := fun b u e => by
    by_cases hb : b = a
    · subst hb; rw [hn] at e; cases e
    · rw [upd_ne hb]; exact e
  cases h with
  | lst h r => rw [h] at ho; cases ho; exact .lst upd_same (r.mono s)
  | dctK h1 h2 h3 r e => rw [h1] at ho; cases ho; exact .dctK (.inl upd_same) h2 h3 (r.mono s) e
  | dctT h1 h2 h3 r e => rw [h1] at ho; cases ho; exact .dctT (.inl upd_same) h2 h3 (r.mono s) e
  | ins h1 h2 h3 r e => rw [h2] at ho; cases ho; exact .ins h1 upd_same h3 (r.mono s) e

/-! ### slots -/
inductive Kd | fr | lk | pn
  deriving DecidableEq
inductive Sl
  | no
  | fz (d : D)
  | ow (k : Kd) (d : D)
abbrev Env := List Sl
def SlOk (g : G) (F H : Hp) (o : Option V) : Sl → Prop
  | .no => True
  | .fz d => ∃ v, o = some v ∧ Den g F v d
  | .ow _ d => ∃ a, o = some (.ref a) ∧ F a = none ∧ OwnAt g F H a d
def Adr (σ : St) (env : Env) (i : Nat) (a : Addr) : Prop := (∃ k d, env[i]? = some (.ow k d)) ∧ σ[i]? = some (some (.ref a))
def Own (σ : St) (env : Env) (a : Addr) : Prop := ∃ i, Adr σ env i a
structure EnvOk (g : G) (F H : Hp) (σ : St) (env : Env) : Prop where
  len : σ.length = env.length
  sub : Sub F H
  sl : ∀ (i : Nat) (s : Sl), env[i]? = some s → ∃ o, σ[i]? = some o ∧ SlOk g F H o s
  dis : ∀ (i j : Nat) (a : Addr), Adr σ env i a → Adr σ env j a → i = j
/-- from F, H with the own objects O to F', H' with O' -/
structure Ext (F H : Hp) (O : Addr → Prop) (F' H' : Hp) (O' : Addr → Prop) : Prop where
  sub : Sub F F'
  keep : ∀ b o, H b = some o → ¬ O b → H' b = some o
  dom : ∀ b, H b ≠ none → H' b ≠ none
  new : ∀ b, F b = none → F' b ≠ none → H b = none ∨ O b
  own : ∀ b, O' b → H b = none ∨ O b
theorem Ext.refl {F H : Hp} {O : Addr → Prop} : Ext F H O F H O := ⟨.refl, fun _ _ h _ => h, fun _ h => h, fun _ h h' => absurd h h', fun _ h => .inr h⟩
theorem Ext.trans {F H F1 H1 F2 H2 : Hp} {O O1 O2 : Addr → Prop} (a : Ext F H O F1 H1 O1) (b : Ext F1 H1 O1 F2 H2 O2) : Ext F H O F2 H2 O2 := by
  have back : ∀ x, H1 x = none ∨ O1 x → H x = none ∨ O x := fun x h => by
    rcases h with h | h
    · by_cases e : H x = none
      · exact .inl e
      · exact absurd h (a.dom x e)
    · exact a.own x h
  refine ⟨a.sub.trans b.sub, fun x o h n => b.keep x o (a.keep x o h n) fun q => ?_, fun x h => b.dom x (a.dom x h), fun x h h' => ?_, fun x h => back x (b.own x h)⟩
  · rcases a.own x q with e | e
    · rw [h] at e; cases e
    · exact n e
  · by_cases e : F1 x = none
    · exact back x (b.new x e h')
    · exact a.new x h e
/-- nothing that stood changes -/
structure Grow (F H F' H' : Hp) : Prop where
  sub : Sub F F'
  keep : Sub H H'
  new : ∀ b, F b = none → F' b ≠ none → H b = none
  fr : Sub F' H'
theorem Sub.dom {H H' : Hp} (s : Sub H H') : ∀ b, H b ≠ none → H' b ≠ none := fun b h e => by
  cases q : H b with
  | none => exact h q
  | some o => rw [s b o q] at e; cases e
theorem Grow.ext {F H F' H' : Hp} {O : Addr → Prop} (x : Grow F H F' H') : Ext F H O F' H' O :=
  ⟨x.sub, fun b o h _ => x.keep b o h, x.keep.dom, fun b h h' => .inl (x.new b h h'), fun b h => .inr h⟩
theorem EnvOk.grow {F H F' H' : Hp} {σ : St} {env : Env} (k : EnvOk g F H σ env) (x : Grow F H F' H') : EnvOk g F' H' σ env := by
  refine ⟨k.len, x.fr, fun i s e => ?_, k.dis⟩
  obtain ⟨o, h1, h2⟩ := k.sl i s e
  refine ⟨o, h1, ?_⟩
  cases s with
  | no => trivial
  | fz d =>
    obtain ⟨v, e1, h3⟩ := h2
    exact ⟨v, e1, h3.mono x.sub⟩
  | ow kd d =>
    obtain ⟨a, e1, h3, h4⟩ := h2
    refine ⟨a, e1, ?_, h4.mono x.sub fun o h => x.keep a o h⟩
    cases q : F' a with
    | none => rfl
    | some u =>
      obtain ⟨o', q'⟩ := h4.there
      have := x.new a h3 (by rw [q]; simp)
      rw [q'] at this; cases this

inductive Rv
  | val (d : D)
  | new (d : D)
  | sl (i : Nat)
inductive Res (α : Type)
  | ok (a : α)
  | ex (c : Str) (d : D) (env : Env)
  | stuck
def Res.bind {α β : Type} (m : Res α) (k : α → Res β) : Res β :=
  match m with
  | .ok a => k a
  | .ex c d e => .ex c d e
  | .stuck => .stuck
instance : Monad Res where
  pure := .ok
  bind := Res.bind
@[simp] theorem Res.pure_eq {α : Type} (a : α) : (pure a : Res α) = .ok a := rfl
@[simp] theorem Res.ok_bind {α β : Type} (a : α) (k : α → Res β) : (Res.ok a >>= k) = k a := rfl
@[simp] theorem Res.ex_bind {α β : Type} (c : Str) (d : D) (e : Env) (k : α → Res β) : (Res.ex c d e >>= k) = .ex c d e := rfl
@[simp] theorem Res.stuck_bind {α β : Type} (k : α → Res β) : ((Res.stuck : Res α) >>= k) = .stuck := rfl

def Rv.data (r : Rv) (env : Env) : Res D :=
  match r with
  | .val d => .ok d
  | .new d => .ok d
  | .sl i => match env[i]? with
    | some (.fz d) => .ok d
    | some (.ow _ d) => .ok d
    | _ => .stuck
def Rv.frz (r : Rv) (env : Env) : Res (D × Env) :=
  match r with
  | .val d => .ok (d, env)
  | .new d => .ok (d, env)
  | .sl i => match env[i]? with
    | some (.fz d) => .ok (d, env)
    | some (.ow .fr d) => .ok (d, env.set i (.fz d))
    | _ => .stuck
def RvOk (g : G) (H0 F H : Hp) (σ : St) (env : Env) (v : V) : Rv → Prop
  | .val d => Den g F v d
  | .new d => ∃ a, v = .ref a ∧ H0 a = none ∧ F a = none ∧ ¬ Own σ env a ∧ OwnAt g F H a d
  | .sl i => σ[i]? = some (some v)
/-- v is d as the heap is now: to be looked at at once -/
def Pk (g : G) (F H : Hp) (v : V) (d : D) : Prop := Den g F v d ∨ ∃ a, v = .ref a ∧ OwnAt g F H a d
theorem RvOk.ext {H0 F H F' H' : Hp} {σ : St} {env env' : Env} {v : V} {r : Rv} (h : RvOk g H0 F H σ env v r) (x : Ext F H (Own σ env) F' H' (Own σ env')) : RvOk g H0 F' H' σ env' v r := by
  cases r with
  | val d => exact Den.mono x.sub h
  | new d =>
    obtain ⟨a, e, h0, hf, ho, w⟩ := h
    obtain ⟨o, q⟩ := w.there
    have nn : ¬ (H a = none ∨ Own σ env a) := fun z => z.elim (fun z => by rw [q] at z; cases z) ho
    refine ⟨a, e, h0, ?_, fun z => nn (x.own a z), w.mono x.sub fun o' e' => x.keep a o' e' ho⟩
    cases q' : F' a with
    | none => rfl
    | some u => exact absurd (x.new a hf (by rw [q']; simp)) nn
  | sl i => exact h
theorem RvOk.earlier {H0 H1 F H : Hp} {σ : St} {env : Env} {v : V} {r : Rv} (h : RvOk g H1 F H σ env v r) (k : ∀ b, H0 b ≠ none → H1 b ≠ none) : RvOk g H0 F H σ env v r := by
  cases r with
  | val d => exact h
  | new d =>
    obtain ⟨a, e, h0, r⟩ := h
    refine ⟨a, e, ?_, r⟩
    cases q : H0 a with
    | none => rfl
    | some u => exact absurd h0 (k a (by rw [q]; simp))
  | sl i => exact h
theorem RvOk.pk {H0 F H : Hp} {σ : St} {env : Env} {v : V} {r : Rv} {d : D} (h : RvOk g H0 F H σ env v r) (k : EnvOk g F H σ env) (e : r.data env = .ok d) : Pk g F H v d := by
  cases r with
  | val d' => cases e; exact .inl h
  | new d' =>
    cases e
    obtain ⟨a, e, _, _, _, w⟩ := h
    exact .inr ⟨a, e, w⟩
  | sl i =>
    have h : σ[i]? = some (some v) := h
    unfold Rv.data at e
    simp only at e
    split at e
    · rename_i d' q
      cases e
      obtain ⟨o, h1, v', h2, h3⟩ := k.sl i _ q
      rw [h] at h1; cases h1; cases h2
      exact .inl h3
    · rename_i kd d' q
      cases e
      obtain ⟨o, h1, a, h2, h3, h4⟩ := k.sl i _ q
      rw [h] at h1; cases h1; cases h2
      exact .inr ⟨a, rfl, h4⟩
    · cases e

section
variable {F H : Hp} {v : V}
theorem Pk.int {i : Int} (h : Pk g F H v (.int i)) : v = .int i := by
  rcases h with h | ⟨a, e, h⟩
  · cases h <;> first | rfl | (rename_i e; first | exact absurd e (by simp [insD, roD, excD]) | cases e)
  · cases h <;> (rename_i e; cases e)
theorem Pk.bl {i : Bool} (h : Pk g F H v (.bool i)) : v = .bl i := by
  rcases h with h | ⟨a, e, h⟩
  · cases h <;> first | rfl | (rename_i e; first | exact absurd e (by simp [insD, roD, excD]) | cases e)
  · cases h <;> (rename_i e; cases e)
theorem Pk.non (h : Pk g F H v .none) : v = .non := by
  rcases h with h | ⟨a, e, h⟩
  · cases h <;> first | rfl | (rename_i e; first | exact absurd e (by simp [insD, roD, excD]) | cases e)
  · cases h <;> (rename_i e; cases e)
theorem Pk.str {x : Str} (h : Pk g F H v (.str x)) : v = .str x ∧ strOk x = true := by
  rcases h with h | ⟨a, e, h⟩
  · cases h <;> first | exact ⟨rfl, by assumption⟩ | (rename_i e; first | exact absurd e (by simp [insD, roD, excD]) | cases e)
  · cases h <;> (rename_i e; cases e)
theorem Pk.lst {ds : List D} (s : Sub F H) (h : Pk g F H v (.list ds)) : ∃ a xs, v = .ref a ∧ H a = some (.lst xs) ∧ DenL g F xs ds := by
  rcases h with h | ⟨a, e, h⟩
  · cases h <;> first | exact ⟨_, _, rfl, s _ _ (by assumption), by assumption⟩ | (rename_i e; first | exact absurd e (by simp [insD, roD, excD]) | cases e)
  · cases h <;> first | exact ⟨a, _, e, by assumption, by assumption⟩ | (rename_i e; cases e)
theorem Pk.tup {ds : List D} (s : Sub F H) (h : Pk g F H v (.tuple ds)) : ∃ a xs, v = .ref a ∧ SqT g.K H a xs ∧ DenL g F xs ds := by
  rcases h with h | ⟨a, e, h⟩
  · cases h <;> first | exact ⟨_, _, rfl, s.sqT (by assumption), by assumption⟩ | (rename_i e; first | exact absurd e (by simp [insD, roD, excD]) | cases e)
  · cases h <;> (rename_i e; cases e)
end
/-- objects held or walked stay where they are -/
def Keep (σ : St) (env : Env) (σ' : St) (env' : Env) : Prop :=
  ∀ (i : Nat) (k : Kd) (d : D), env[i]? = some (.ow k d) → k ≠ .fr → σ'[i]? = σ[i]? ∧ ∃ d', env'[i]? = some (.ow k d') ∧ (k = .lk → d' = d)
theorem Keep.refl {σ : St} {env : Env} : Keep σ env σ env := fun _ _ d e _ => ⟨rfl, d, e, fun _ => rfl⟩
theorem Keep.trans {σ σ1 σ2 : St} {e e1 e2 : Env} (a : Keep σ e σ1 e1) (b : Keep σ1 e1 σ2 e2) : Keep σ e σ2 e2 := fun i k d h n => by
  obtain ⟨h1, d1, h2, h3⟩ := a i k d h n
  obtain ⟨h4, d2, h5, h6⟩ := b i k d1 h2 n
  exact ⟨h4.trans h1, d2, h5, fun q => (h6 q).trans (h3 q)⟩

/-- an own object of a slot that stands still from now on -/
theorem EnvOk.freeze {F H : Hp} {σ : St} {env : Env} {a : Addr} {o : HO} (k : EnvOk g F H σ env) (ho : H a = some o) (hf : F a = none) (hn : ¬ Own σ env a) : EnvOk g (upd F a o) H σ env := by
  have s : Sub F (upd F a o) := fun b u e => by
    by_cases hb : b = a
    · subst hb; rw [hf] at e; cases e
    · rw [upd_ne hb]; exact e
  refine ⟨k.len, fun b u e => ?_, fun i sl e => ?_, k.dis⟩
  · by_cases hb : b = a
    · subst hb; rw [upd_same] at e; cases e; exact ho
    · rw [upd_ne hb] at e; exact k.sub b u e
  · obtain ⟨o', h1, h2⟩ := k.sl i sl e
    refine ⟨o', h1, ?_⟩
    cases sl with
    | no => trivial
    | fz d =>
      obtain ⟨v, e1, h3⟩ := h2
      exact ⟨v, e1, h3.mono s⟩
    | ow kd d =>
      obtain ⟨b, e1, h3, h4⟩ := h2
      refine ⟨b, e1, ?_, h4.mono s fun _ h => h⟩
      have nb : b ≠ a := fun z => hn ⟨i, ⟨kd, d, e⟩, by rw [h1, e1, z]⟩
      rw [upd_ne nb]; exact h3
theorem upd_sub {F : Hp} {a : Addr} {o : HO} (hf : F a = none) : Sub F (upd F a o) := fun b u e => by
  by_cases hb : b = a
  · subst hb; rw [hf] at e; cases e
  · rw [upd_ne hb]; exact e
theorem upd_new {F : Hp} {a b : Addr} {o : HO} (hf : F b = none) (h : upd F a o b ≠ none) : b = a := by
  by_cases hb : b = a
  · exact hb
  · rw [upd_ne hb] at h; exact absurd hf h
theorem get_set {α : Type} {l : List α} {i j : Nat} {x y : α} (h : (l.set i x)[j]? = some y) : (i = j ∧ y = x ∧ i < l.length) ∨ (i ≠ j ∧ l[j]? = some y) := by
  by_cases e : i = j
  · subst e
    by_cases hl : i < l.length
    · rw [List.getElem?_set_self hl] at h; cases h; exact .inl ⟨rfl, rfl, hl⟩
    · rw [List.getElem?_eq_none (by simpa using hl)] at h; cases h
  · rw [List.getElem?_set_ne e] at h
    exact .inr ⟨e, h⟩
theorem lt_of_get {α : Type} {l : List α} {i : Nat} {x : α} (h : l[i]? = some x) : i < l.length := by
  by_cases e : i < l.length
  · exact e
  · rw [List.getElem?_eq_none (by omega)] at h; cases h
/-- a value that is kept: what it is stands still from now on -/
theorem RvOk.frz {F0 H0 F H : Hp} {O : Addr → Prop} {σ : St} {env env' : Env} {v : V} {r : Rv} {d : D} (h : RvOk g H0 F H σ env v r) (x : Ext F0 H0 O F H (Own σ env)) (k : EnvOk g F H σ env) (e : r.frz env = .ok (d, env')) :
    ∃ F', Ext F0 H0 O F' H (Own σ env') ∧ EnvOk g F' H σ env' ∧ Keep σ env σ env' ∧ Den g F' v d := by
  cases r with
  | val d' => cases e; exact ⟨F, x, k, .refl, h⟩
  | new d' =>
    cases e
    obtain ⟨a, e, h0, hf, hn, w⟩ := h
    obtain ⟨o, ho⟩ := w.there
    subst e
    refine ⟨upd F a o, ⟨x.sub.trans (upd_sub hf), x.keep, x.dom, fun b q q' => ?_, x.own⟩, k.freeze ho hf hn, .refl, w.den ho hf⟩
    by_cases qb : F b = none
    · have := upd_new qb q'
      subst this
      exact .inl h0
    · exact x.new b q qb
  | sl i =>
    have h : σ[i]? = some (some v) := h
    unfold Rv.frz at e
    simp only at e
    split at e
    · rename_i d' q
      cases e
      obtain ⟨o, h1, v', h2, h3⟩ := k.sl i _ q
      rw [h] at h1; cases h1; cases h2
      exact ⟨F, x, k, .refl, h3⟩
    · rename_i d' q
      cases e
      obtain ⟨o, h1, a, h2, h3, h4⟩ := k.sl i _ q
      rw [h] at h1; cases h1; cases h2
      obtain ⟨o, ho⟩ := h4.there
      have oa : Own σ env a := ⟨i, ⟨.fr, d, q⟩, h⟩
      have hd := h4.den ho h3
      have hs : ∀ j s, (env.set i (.fz d))[j]? = some s → (j = i ∧ s = .fz d) ∨ (j ≠ i ∧ env[j]? = some s) := fun j s z => by
        rcases get_set z with ⟨z1, z2, _⟩ | ⟨z1, z2⟩
        · exact .inl ⟨z1.symm, z2⟩
        · exact .inr ⟨Ne.symm z1, z2⟩
      have adr : ∀ j b, Adr σ (env.set i (.fz d)) j b → j ≠ i ∧ Adr σ env j b := fun j b ⟨⟨kd, d2, z⟩, z2⟩ => by
        rcases hs j _ z with ⟨_, z3⟩ | ⟨z3, z4⟩
        · cases z3
        · exact ⟨z3, ⟨kd, d2, z4⟩, z2⟩
      refine ⟨upd F a o, ⟨x.sub.trans (upd_sub h3), x.keep, x.dom, fun b q1 q2 => ?_, fun b ⟨j, z⟩ => x.own b ⟨j, (adr j b z).2⟩⟩, ⟨by simpa using k.len, fun b u q1 => ?_, fun j s z => ?_, fun j1 j2 b z1 z2 => k.dis j1 j2 b (adr _ _ z1).2 (adr _ _ z2).2⟩, fun j kd d2 z nk => ?_, hd⟩
      · by_cases qb : F b = none
        · have := upd_new qb q2
          subst this
          exact x.own b oa
        · exact x.new b q1 qb
      · by_cases hb : b = a
        · subst hb; rw [upd_same] at q1; cases q1; exact ho
        · rw [upd_ne hb] at q1; exact k.sub b u q1
      · rcases hs j s z with ⟨z1, z2⟩ | ⟨z1, z2⟩
        · subst z1; subst z2
          exact ⟨_, h, _, rfl, hd⟩
        · obtain ⟨o', y1, y2⟩ := k.sl j s z2
          refine ⟨o', y1, ?_⟩
          cases s with
          | no => trivial
          | fz d2 => obtain ⟨v2, y3, y4⟩ := y2; exact ⟨v2, y3, y4.mono (upd_sub h3)⟩
          | ow kd d2 =>
            obtain ⟨b, y3, y4, y5⟩ := y2
            refine ⟨b, y3, ?_, y5.mono (upd_sub h3) fun _ z => z⟩
            have nb : b ≠ a := fun zz => z1 (k.dis j i a ⟨⟨kd, d2, z2⟩, by rw [y1, y3, zz]⟩ ⟨⟨.fr, d, q⟩, h⟩)
            rw [upd_ne nb]; exact y4
      · have hj : i ≠ j := fun zz => by subst zz; rw [q] at z; cases z; exact nk rfl
        exact ⟨rfl, d2, by rw [List.getElem?_set_ne hj]; exact z, fun _ => rfl⟩
    · cases e
end DL
/-! DExc: WordError.__init__ (super().__init__(value); self.value = value), walked once. -/
namespace DL
open PySem PySem.Spec PySem.W PySem.Calls PyProof.Rows

def initSc : Scope := ⟨.function, [(Str.ofString "self", .local), (Str.ofString "value", .local), (Str.ofString "__class__", .free), (Str.ofString "super", .globalImplicit)], false, false, []⟩
/-- the text of the def -/
structure InitTx (st : Stmt) : Prop where
  body : ∃ n a b c d₁ d₂ d₃ p0 p1 p3 p5 p6 p7 p8 p9, (n = 5 ∨ n = 8) ∧ L2.defBody st = [.Expr (.Call (.Attribute (.Call (.Name "super" p0) [] [] p1) "__init__" ⟨a, b, n, c⟩) [.Name "value" p3] [] ⟨n, d₁, d₂, d₃⟩) p5, .Assign [.Attribute (.Name "self" p6) "value" p7] (.Name "value" p8) p9]
  par : ∃ ar, ((L2.defArgs st).posonlyargs ++ (L2.defArgs st).args).head? = some ar ∧ ar.arg = "self"
  sc : L2.defScope st = initSc
/-- what is written of the def -/
structure InitK (P : Program) (K : PySem.W.Frag) (f D : Addr) (st : Stmt) (fd : FuncData) : Prop where
  ex : ∃ oc od osl kV dV doc pm an ct cda cc ccl cdd vs ccs file tf cl cld csl cdD, fd = ksFn "__init__" "WordError.__init__" (L2.defArgs st) (L2.defBody st) (L2.defScope st) dV kV doc pm an (.ref cda) ct cc ∧
    K.lookup f = some ⟨oc, od, .func fd, osl⟩ ∧ codeIn K (.ref cda) "WordError.__init__" = true ∧ K.lookup cda = some ⟨ccl, cdd, .fields vs, ccs⟩ ∧ vs[2]? = some (.str file tf) ∧ ((P.main.file : Str) == file) = true ∧
    K.lookup cc = some ⟨cl, cld, .cell (some (.ref D)), csl⟩ ∧ clsIn K D = some cdD
  tx : InitTx st
  top : (P.main.scope.names.lookup ("super" : Str)).isSome = false
  sup : nsIn K mainGlobals "super" = some none
  any : nsIn K cStatics "thirdparty.any" = some none
/-- what is written of a class under it -/
structure InitC (K : PySem.W.Frag) (C D : Addr) : Prop where
  ox : L2.OexC K C
  sub : mroIn K C (.ref D) = some true
  ini : ks_superIn K C D "__init__" = some (some (.builtin "ValueError.__init__"))
  isV : subIn K (.ref C) (.type "ValueError") = some true
  noV : findIn K (.ref C) "value" = some none

section
variable {prog : Program} {w : World} {A : Around} {E : Value → Shared → Prop} {h : Heap} {g : Array GenState} {d : Drawn} {t : Nat} {os : OsState}
theorem call_mw {u e t0 C : Addr} {nm q : Str} {N : Addr} {bs bm : List Value} {hdct : Bool} {sn : List Str} {sub : List Value} {ab : Bool} {col : Option Bool} {dd : Option Addr} {k0 k1 k2 k3 k5 : Option Value} {rest : List Value} {Q : Value → Shared → Prop}
    (hC : h.get? C = some (excClassObj nm q C N bs bm hdct sn sub ab col dd k0 k1 k2 k3 k5 "ValueError.__new__")) (he : h.get? e = some (HandSPX.excO C t0)) (hu : h.get? u = some (kxs_mw "ValueError.__init__" e)) (hrest : rest.length ≤ sizeLine)
    (hq : ∀ h' t1, (∀ b o, b ≠ e → h.get? b = some o → h'.get? b = some o) → h'.get? e = some (HandSPX.excO C t1) → Q .none ⟨h', g, d, t, os⟩) :
    wpAny (model prog w) A (call (.ref u) rest) Q E ⟨h, g, d, t, os⟩ := by
  refine wpAny_call (codeAny_of_tree ?_)
  show wpAny _ A.in1 (callAny (.ref u) ⟨rest, []⟩) _ _ _
  simp only [callAny]
  refine wpAny_bind (wpAny_load hu ?_)
  simp only [kxs_mw, show (Value.type "method-wrapper" == Value.type "method" || Value.type "method-wrapper" == Value.type "builtin_function_or_method" || Value.type "method-wrapper" == Value.type "method-wrapper") = true by decide, if_true]
  refine KFB.if_so (by decide) ?_
  refine wpAny_bind (PySem.ESX.check_bound PySem.F.excBase_ValueError hC he rfl ?_)
  refine wpAny_bind (wpAny_pure (wpAny_pure ?_))
  refine ⟨Code.quiet_builtin _ (by decide +kernel), codeAny_builtin PySem.F.excBase_ValueError.initEntry ?_⟩
  rw [Around.under_plainId PySem.F.excBase_ValueError.init.plain _]
  wp_walk
  refine hq _ h.objs.size (fun b o hb ho => ?_) ?_
  · rw [Heap.get?_update_other _ _ (Ne.symm hb)]
    exact Heap.get?_push_of_some _ ho
  · rw [Heap.get?_update_self _ (Heap.get?_push_of_some _ he) rfl]
    rfl
end

section
variable {P : Program} {w : World} {A : Around} {K : PySem.W.Frag} {mg mb : Str → Option Value} {R : Result → Shared → Prop} {hp : Heap} {g : Array GenState} {d : Drawn} {t : Nat} {os : OsState}
theorem init_raw {f e C D t0 : Addr} {st : Stmt} {fd : FuncData} {v : Value} (IK : InitK P K f D st fd) (IC : InitC K C D) (X : K.In hp) (lim : hp.NoLimit) (gl : hp.Ns mainGlobals mg) (bl : hp.Ns builtinsNs mb) (hbb : ∀ x : Str, x ≠ "__name__" → mb x = bootBuiltins x)
    (hroom : A.depth < recursionLimit) (he : hp.get? e = some (HandSPX.excO C t0)) (hKe : K.lookup e = none) {args : Args} (hbind : BindsTo ⟨hp, g, d, t, os⟩ fd args [("self", .ref e), ("value", v)])
    (hq : ∀ h' t' dx t1, (∀ b o, b ≠ e → hp.get? b = some o → h'.get? b = some o) → hp.objs.size ≤ dx → dx ≠ e → h'.get? e = some ({ cls := .ref C, dict := some dx, data := .fields #[.ref t1, .none, .none, .none, .bool false, .none] } : Obj) →
      h'.Ns1 dx (fun y => if y = "value" then some v else none) → R (.ok (.ret .none)) ⟨h', g, d, t', os⟩) :
    codeAny (model P w) A (.call (.ref f) args) R ⟨hp, g, d, t, os⟩ := by
  obtain ⟨oc, od, osl, kV, dV, doc, pm, an, ct, cda, cc, ccl, cdd, vs, ccs, file, tf, cl, cld, csl, cdD, rfl, lk, hcd, lcode, hvs, hfile, lcell, hD⟩ := IK.ex
  obtain ⟨n, a, b, c, d₁, d₂, d₃, p0, p1, p3, p5, p6, p7, p8, p9, hn, hb⟩ := IK.tx.body
  obtain ⟨ar, har, harn⟩ := IK.tx.par
  have hs := IK.tx.sc
  generalize L2.defScope st = sc at *
  subst hs
  have sup : initSc.names.lookup ("super" : Str) = some .globalImplicit := by decide
  have scls : initSc.names.lookup ("__class__" : Str) = some .free := by decide
  have slf : initSc.names.lookup ("self" : Str) = some .local := by decide
  have sval : initSc.names.lookup ("value" : Str) = some .local := by decide
  obtain ⟨nm, q, N, bs, bm, sn, sub, ab, col, dd, k0, k1, k2, k3, k5, hC, hbm⟩ := IC.ox.cls
  have hcl : clsIn K C = some { name := nm, bases := bs, mro := .ref C :: bm, ns := N, qualname := q, hasDict := true, slotNames := sn, subclasses := sub, abstract := ab, collection := col, hasDel := false } := by unfold clsIn; rw [hC] <;> rfl
  obtain ⟨oD, hD1, hD2⟩ : ∃ oD, K.lookup D = some oD ∧ oD.data = .cls cdD := by
    unfold clsIn at hD
    split at hD
    · rename_i c d cd' sl ho
      cases hD
      exact ⟨_, ho, rfl⟩
    · cases hD
  refine ks_codeAny_call_defAt (body := L2.defBody st) (binds := [("self", .ref e), ("value", v)]) hroom (X _ _ lk) rfl lim (codeRec_of X hcd) rfl hbind (show ∀ x ∈ initSc.names, x.2 ≠ .cell by decide) (fun x hx => ?_) (fun h₁ hns hk => ?_) rfl rfl rfl
  · rcases List.mem_cons.mp hx with rfl | hx
    · exact slf
    · rcases List.mem_cons.mp hx with rfl | hx
      · exact sval
      · cases hx
  have X1 : K.In h₁ := X.keeps hk
  have he1 := hk _ _ he
  have n1 : h₁.Ns hp.objs.size (fun x => List.lookup x [(("self" : Str), Value.ref e), (("value" : Str), v)].reverse) := hns
  have hself : List.lookup ("self" : Str) [(("self" : Str), Value.ref e), (("value" : Str), v)].reverse = some (.ref e) := by
    show List.lookup ("self" : Str) [(("value" : Str), v), (("self" : Str), Value.ref e)] = _
    rw [List.lookup, show (("self" : Str) == ("value" : Str)) = false by decide]
    show List.lookup ("self" : Str) [(("self" : Str), Value.ref e)] = _
    rw [List.lookup, show (("self" : Str) == ("self" : Str)) = true by decide]
  have hval : List.lookup ("value" : Str) [(("self" : Str), Value.ref e), (("value" : Str), v)].reverse = some v := by
    show List.lookup ("value" : Str) [(("value" : Str), v), (("self" : Str), Value.ref e)] = _
    rw [List.lookup, show (("value" : Str) == ("value" : Str)) = true by decide]
  have hkf : initSc.kind = .function := rfl
  rw [hb]
  have I1 : InstAt h₁ e (HandSPX.excO C t0) C none := ⟨he1, rfl, rfl, trivial⟩
  have heq : ∃ pl, eval (.Call (.Attribute (.Call (.Name "super" p0) [] [] p1) "__init__" ⟨a, b, n, c⟩) [.Name "value" p3] [] ⟨n, d₁, d₂, d₃⟩) (callEnv (ksFn "__init__" "WordError.__init__" (L2.defArgs st) [.Expr (.Call (.Attribute (.Call (.Name "super" p0) [] [] p1) "__init__" ⟨a, b, n, c⟩) [.Name "value" p3] [] ⟨n, d₁, d₂, d₃⟩) p5, .Assign [.Attribute (.Name "self" p6) "value" p7] (.Name "value" p8) p9] initSc dV kV doc pm an (.ref cda) ct cc) hp.objs.size f) = (do
      let ov ← attributeBase (.Call (.Name "super" p0) [] [] p1) "__init__" (callEnv (ksFn "__init__" "WordError.__init__" (L2.defArgs st) [.Expr (.Call (.Attribute (.Call (.Name "super" p0) [] [] p1) "__init__" ⟨a, b, n, c⟩) [.Name "value" p3] [] ⟨n, d₁, d₂, d₃⟩) p5, .Assign [.Attribute (.Name "self" p6) "value" p7] (.Name "value" p8) p9] initSc dV kV doc pm an (.ref cda) ct cc) hp.objs.size f) (eval (.Call (.Name "super" p0) [] [] p1) (callEnv (ksFn "__init__" "WordError.__init__" (L2.defArgs st) [.Expr (.Call (.Attribute (.Call (.Name "super" p0) [] [] p1) "__init__" ⟨a, b, n, c⟩) [.Name "value" p3] [] ⟨n, d₁, d₂, d₃⟩) p5, .Assign [.Attribute (.Name "self" p6) "value" p7] (.Name "value" p8) p9] initSc dV kV doc pm an (.ref cda) ct cc) hp.objs.size f))
      standAt (Pos.atName ⟨a, b, n, c⟩)
      let (fx, first) ← holding [ov] (getMethod ov "__init__" pl)
      callWith ⟨n, d₁, d₂, d₃⟩ fx first (backTo ⟨n, d₁, d₂, d₃⟩ (starEach [.Name "value" p3] (callEnv (ksFn "__init__" "WordError.__init__" (L2.defArgs st) [.Expr (.Call (.Attribute (.Call (.Name "super" p0) [] [] p1) "__init__" ⟨a, b, n, c⟩) [.Name "value" p3] [] ⟨n, d₁, d₂, d₃⟩) p5, .Assign [.Attribute (.Name "self" p6) "value" p7] (.Name "value" p8) p9] initSc dV kV doc pm an (.ref cda) ct cc) hp.objs.size f))) []) := by
    rcases hn with rfl | rfl <;> exact ⟨_, rfl⟩
  obtain ⟨pl, heq⟩ := heq
  refine ks_wpAt_execs_cons (ks_wpAt_Expr_any (ks_wpAt_MethodCall (pl := pl) ?_ heq))
  refine ks_wpAt_super_base (env := callEnv _ hp.objs.size f) sup scls (by decide) rfl (X1 _ _ lk) rfl har rfl (X1 _ _ lcode) rfl hvs hfile IK.top ?_
  refine ks_loadName_global hkf sup (loadGlobal_builtin (gl.keeps hk) (mg_none_of X gl IK.sup) (bl.keeps hk) ((hbb _ (by decide +kernel)).trans (by decide +kernel)) ⟨rfl, ?_⟩)
  refine wpAny_loadName_free hkf scls rfl ⟨_, X1 _ _ lcell, rfl⟩ ?_
  rw [harn]
  refine wpAny_loadName_local hkf slf n1 hself ?_
  refine ks_wpAny_isType_cls (X1 _ _ hD1) hD2 ⟨rfl, ?_⟩
  refine ks_wpAny_call_super (X1 _ _ hD1) hD2 I1.at_ I1.cls (fun c z => by cases z) (looks_mroIn X1 IC.sub) (fun h2 hso hk2 => ?_)
  have X2 : K.In h2 := X1.keeps hk2
  have he2 := hk2 _ _ he1
  have I2 : InstAt h2 e (HandSPX.excO C t0) C none := ⟨he2, rfl, rfl, trivial⟩
  have hI : Looks (model P w) h2 (isInstance (.ref e) (.type "ValueError")) true := I2.type.andThen (looks_subIn X2 IC.isV)
  have hm := IC.ini
  unfold ks_superIn at hm
  rw [hcl] at hm
  refine kxs_getMethod kxs_ValueError hso (looks_opaque X2 IK.any) (l₀ := .ref C :: bm) (fun A Q E s k q => wpAny_bind ((looks_clsIn X2 hcl) A _ E s k (wpAny_pure q))) rfl X2 hm hI (ks_ne X2 I2 hcl) (by decide) ?_
  have k3 : ∀ b o, h2.get? b = some o → (h2.push (kxs_mw "ValueError.__init__" e)).get? b = some o := fun b o z => Heap.get?_push_of_some _ z
  have hu : (h2.push (kxs_mw "ValueError.__init__" e)).get? h2.objs.size = some (kxs_mw "ValueError.__init__" e) := Heap.get?_push_at rfl rfl
  have n3 := (n1.keeps hk2).keeps k3
  have he3 := k3 _ _ he2
  have X3 := X2.keeps k3
  refine kxs_callWith (i := "ValueError.__init__") (x := e) rfl (evalArgs_plain ?_)
  refine Calls.spliced_cons (PySem.ESX.ldL n3 hval ?_)
  refine Calls.spliced_nil ⟨hu, ?_⟩
  refine call_mw (X3 _ _ hC) he3 hu (by show 1 ≤ sizeLine; rw [sizeLine_eq]; omega) (fun h4 t1 k4 he4 => ?_)
  have k14 : ∀ b o, b ≠ e → h₁.get? b = some o → h4.get? b = some o := fun b o hb z => k4 b o hb (k3 b o (hk2 b o z))
  have Le : hp.objs.size ≠ e := fun z => Nat.ne_of_lt (Heap.lt_size he) z.symm
  have n4 : h4.Ns hp.objs.size (fun x => List.lookup x [(("self" : Str), Value.ref e), (("value" : Str), v)].reverse) := by
    obtain ⟨o, es, ep, ho, hr⟩ := n1
    exact ⟨o, es, ep, k14 _ _ Le ho, hr⟩
  have X4 : K.In h4 := fun b o z => by
    by_cases hb : b = e
    · rw [hb, hKe] at z
      cases z
    · exact k4 b o hb (X3 b o z)
  refine ks_wpAt_execs_cons (ks_wpAt_Assign_Attr (wpAt_of_wpAny (PySem.ESX.ldL n4 hval (PySem.ESX.ldL n4 hself ?_))))
  refine PySem.W.set_plain X4 (ox := { cls := .ref C, dict := none, data := .fields #[.ref t1, .none, .none, .none, .bool false, .none] }) (od := none) ⟨he4, rfl, rfl, trivial⟩ IC.ox.sa ?_
  refine PySem.HandSPX.exc_osa X4 he4 hcl (show PySem.HandSPX.refsVE (.ref C :: bm) = true from hbm) rfl IC.noV (fun h5 tk dx k5' dn dne hx5 hn5 => ?_)
  refine wpAt_of_wpAny (wpAny_execs_nil ?_)
  refine hq h5 _ dx t1 (fun b o hb z => k5' b o hb (k14 b o hb (hk b o z))) ?_ dne hx5 hn5
  obtain ⟨o, _, _, ho, _⟩ := n4
  exact Nat.le_trans (Nat.le_of_lt (Heap.lt_size ho)) dn
end
/-- the promise of the def -/
def initSp (K : PySem.W.Frag) (D : Addr) : L2.Sp := fun vs H Q _ => ∃ (a C : Addr) (y : L2.V), vs = [.ref a, y] ∧ InitC K C D ∧ K.lookup a = none ∧ H a = some (L2.exo a C none) ∧
  ∀ dx, H dx = none → dx ≠ a → Q .non (L2.upd (L2.upd H dx (L2.exd dx [("value", y)])) a (L2.exo a C (some dx)))
open L2 in
theorem fnok_init {P : Program} {w : World} {K : PySem.W.Frag} {mg : Str → Option Value} {base : Heap} {CX : CXT} {f D : Addr} {st : Stmt} {fd : FuncData} (IK : InitK P K f D st fd) : FnOk P w K mg base CX 1 f fd ["self", "value"] (initSp K D) := by
  refine ⟨fun vs H Q E h => ?_, fun A outer s H args us vs Q E hr e0 hb r hsp => ?_⟩
  · obtain ⟨a, C, y, rfl, _⟩ := h
    rfl
  obtain ⟨a, C, y, rfl, IC, hKa, ea, hq⟩ := hsp
  cases r with
  | @cons _ u1 _ ur ra rw' =>
    obtain rfl : u1 = Value.ref a := ra
    cases rw' with
    | @cons _ v _ ur2 ry rn =>
      cases rn
      obtain ⟨t0, he⟩ := exo_at e0.hok ea
      have kb : ∀ b o, base.get? b = some o → s.heap.get? b = some o := fun b o e => (e0.bs b o e).1
      have KX : K.In s.heap := e0.mod.kin.keeps kb
      obtain ⟨mb, hbl, hbb⟩ := e0.mod.blt
      have hok := e0.hok
      have bare := e0.bare
      obtain ⟨hp, g, d, t, os⟩ := s
      refine init_raw IK IC KX (e0.mod.nolimit.keeps kb) (e0.mod.glob.keeps kb) (hbl.keeps kb) hbb (by have := hr.dp; omega) he hKa hb (fun h' t' dx t1 k dn dne hx hn => ?_)
      have hnd : H dx = none := hok.fresh dn
      have nd : ∀ {b : Addr} {o : Obj}, hp.get? b = some o → b ≠ dx := fun {b o} q => Nat.ne_of_lt (Nat.lt_of_lt_of_le (Heap.lt_size q) dn)
      have na : ∀ {b : Addr}, H b = none → b ≠ a := fun {b} n z => by
        rw [z, ea] at n
        cases n
      refine ⟨.non, _, rfl, bare, ⟨fun b o q n _ _ => k b o (na n) q, fun b o q n _ _ => ⟨o.slots, k b o (na n) q⟩, fun b o q n _ => by rw [upd_ne (na n), upd_ne (nd q)]; exact n, fun b o q _ => ?_, fun b xs q => by rw [upd_ne (at_ne ea q exo_tup), upd_ne (ne_of_none q hnd)]; exact q,
        fun b o v q => by rw [upd_ne (at_ne ea q exo_frz), upd_ne (ne_of_none q hnd)]; exact q, fun b ps q => ⟨#[], by rw [upd_ne (at_ne ea q exo_tbl), upd_ne (ne_of_none q hnd), q]; simp⟩⟩, fun b o q => ?_, rfl, hq dx hnd dne⟩
      · by_cases hb : b = a
        · exact ⟨_, by rw [hb]; exact hx⟩
        · exact ⟨o, k b o hb q⟩
      · by_cases hb : b = a
        · subst hb
          rw [upd_same] at q
          cases q
          exact exo_ok hx
        · rw [upd_ne hb] at q
          by_cases hd : b = dx
          · subst hd
            rw [upd_same] at q
            cases q
            exact exd_ok hn (relO_put (fs := []) ry fun g => True.intro)
          · rw [upd_ne hd] at q
            exact (hok b o q).stay (fun c v hc z => k c v (by
                rcases hc with hc | hc
                · rw [hc]
                  exact hb
                · exact at_ne ea hc exo_own) z)
              (fun c hc => by rw [upd_ne (at_ne ea hc exo_own), upd_ne (ne_of_none hc hnd)]; exact hc) (fun c xs hc => by rw [upd_ne (at_ne ea hc exo_tup), upd_ne (ne_of_none hc hnd)]; exact hc)
end DL
namespace DL
open PySem PySem.Spec L2
variable {g : G} {W : WX}

/-- how a result is what the mirror says: the heap ahead, then F, H, the env behind -/
abbrev RelB (β α : Type) := Hp → Hp → Hp → St → Env → β → α → Prop
structure Early {β α : Type} (R : RelB β α) : Prop where
  run : ∀ H0 H1 F H σ env b a, (∀ x, H0 x ≠ none → H1 x ≠ none) → R H1 F H σ env b a → R H0 F H σ env b a
/-- what is wanted behind a part -/
def Post {β α : Type} (R : RelB β α) (g : G) (W : WX) (F H : Hp) (σ : St) (env : Env) (Q : β → Hp → Prop) : Res (α × Env) → Prop
  | .ok (r, env') => ∀ F' H' v, Ext F H (Own σ env) F' H' (Own σ env') → EnvOk g F' H' σ env' → Keep σ env σ env' → R H F' H' σ env' v r → Q v H'
  | .ex c d env' => ∀ F' H' dd C v, Ext F H (Own σ env) F' H' (Own σ env') → EnvOk g F' H' σ env' → Keep σ env σ env' → g.mg c = some (.ref C) → F' dd = some (.xd [(("value" : Str), v)]) → Den g F' v d → W (.ref C) (some dd) σ H'
  | .stuck => False
theorem Post.after {β α : Type} {R : RelB β α} (er : Early R) {F H F1 H1 : Hp} {σ : St} {env e1 : Env} {Q : β → Hp → Prop} {m : Res (α × Env)} (x : Ext F H (Own σ env) F1 H1 (Own σ e1)) (k : Keep σ env σ e1) (h : Post R g W F H σ env Q m) : Post R g W F1 H1 σ e1 Q m := by
  cases m with
  | ok p => obtain ⟨r, e2⟩ := p; exact fun F' H' v x' ok k' rv => h F' H' v (x.trans x') ok (k.trans k') (er.run _ _ _ _ _ _ _ _ x.dom rv)
  | ex c d e2 => exact fun F' H' dd C v x' ok k' => h F' H' dd C v (x.trans x') ok (k.trans k')
  | stuck => exact h
/-- one part, then what is made of it -/
theorem Post.bind {β α β' α' : Type} {R : RelB β α} {R' : RelB β' α'} (er : Early R') {F H : Hp} {σ : St} {env : Env} {Q : β' → Hp → Prop} {Qa : β → Hp → Prop} {m : Res (α × Env)} {k : α × Env → Res (α' × Env)} (h : Post R' g W F H σ env Q (m >>= k))
    (hk : ∀ r e1 F1 H1 v, Ext F H (Own σ env) F1 H1 (Own σ e1) → EnvOk g F1 H1 σ e1 → Keep σ env σ e1 → R H F1 H1 σ e1 v r → Post R' g W F1 H1 σ e1 Q (k (r, e1)) → Qa v H1) : Post R g W F H σ env Qa m := by
  cases m with
  | ok p =>
    obtain ⟨r, e1⟩ := p
    exact fun F1 H1 v x ok kp rv => hk r e1 F1 H1 v x ok kp rv (Post.after er x kp h)
  | ex c d e => exact h
  | stuck => exact h
def RE (g : G) : RelB V Rv := fun H0 F H σ env v r => RvOk g H0 F H σ env v r
def RB : RelB Bool Bool := fun _ _ _ _ _ b c => b = c
def RD (g : G) : RelB V D := fun _ F _ _ _ v d => Den g F v d
def RDs (g : G) : RelB (List V) (List D) := fun _ F _ _ _ v d => DenL g F v d
def ROI : RelB (Option Int) (Option Int) := fun _ _ _ _ _ b c => b = c
theorem RE.early : Early (RE g) := ⟨fun _ _ _ _ _ _ _ _ k h => RvOk.earlier h k⟩
theorem RB.early : Early RB := ⟨fun _ _ _ _ _ _ _ _ _ h => h⟩
theorem RD.early : Early (RD g) := ⟨fun _ _ _ _ _ _ _ _ _ h => h⟩
theorem RDs.early : Early (RDs g) := ⟨fun _ _ _ _ _ _ _ _ _ h => h⟩
theorem ROI.early : Early ROI := ⟨fun _ _ _ _ _ _ _ _ _ h => h⟩
abbrev ME := Env → Res (Rv × Env)
abbrev MT := Env → Res (Bool × Env)
def Good {β α : Type} (R : RelB β α) (g : G) (W : WX) (t : St → Hp → (β → Hp → Prop) → Prop) (f : Env → Res (α × Env)) : Prop := ∀ F H σ env Q, EnvOk g F H σ env → Post R g W F H σ env Q (f env) → t σ H Q
abbrev GoodE (g : G) (W : WX) (t : TE) (f : ME) : Prop := Good (RE g) g W t f
abbrev GoodT (g : G) (W : WX) (t : TT) (f : MT) : Prop := Good RB g W t f
/-- an expression of the text and what it is worth; a test -/
structure DE (X : Cx) (W : WX) (e : Expr) (f : ME) : Prop where
  ex : ∃ t, PE X e t ∧ GoodE ⟨X.K, X.mg⟩ W t f
structure DT (X : Cx) (W : WX) (e : Expr) (f : MT) : Prop where
  ex : ∃ t, PT X e t ∧ GoodT ⟨X.K, X.mg⟩ W t f
structure DW (X : Cx) (W : WX) (e : Expr) (f : MT) : Prop where
  ex : ∃ t, PW X e t ∧ GoodT ⟨X.K, X.mg⟩ W t f

/-! ### names, constants -/
def mVar (i : Nat) : ME := fun env => match env[i]? with
  | some (.fz d) => .ok (.val d, env)
  | some (.ow _ _) => .ok (.sl i, env)
  | _ => .stuck
def mC (d : D) : ME := fun env => .ok (.val d, env)
theorem good_var {i : Nat} : GoodE g W (tVar i) (mVar i) := fun F H σ env Q k h => by
  unfold mVar at h
  split at h
  · rename_i d q
    obtain ⟨o, h1, v, h2, h3⟩ := k.sl i _ q
    subst h2
    exact ⟨v, h1, h F H v .refl k .refl h3⟩
  · rename_i kd d q
    obtain ⟨o, h1, a, h2, h3⟩ := k.sl i _ q
    subst h2
    exact ⟨_, h1, h F H _ .refl k .refl h1⟩
  · exact h.elim
theorem good_c {v : V} {d : D} (hd : ∀ F, Den g F v d) : GoodE g W (tC v) (mC d) := fun F H σ env Q k h => h F H v .refl k .refl (hd F)
section
variable {X : Cx} {pos : Pos}
theorem de_var {i : Nat} {x : Str} (hN : X.N[i]? = some x) (hv : Vis X.env.scope x) (hd : (x == ("__debug__" : Str)) = false := by decide) (hcd : (x == ("__classdict__" : Str)) = false := by decide) : DE X W (.Name x pos) (mVar i) :=
  ⟨_, pe_var hN hv hd hcd, good_var⟩
theorem de_int {i j} : DE X W (.Constant (.int i) j pos) (mC (.int i)) := ⟨_, pe_int, good_c fun _ => .int i⟩
theorem de_str {i j} (h : strOk i = true := by decide +kernel) : DE X W (.Constant (.str i) j pos) (mC (.str i)) := ⟨_, pe_str, good_c fun _ => .str i h⟩
theorem de_bl {i j} : DE X W (.Constant (.bool i) j pos) (mC (.bool i)) := ⟨_, pe_bl, good_c fun _ => .bl i⟩
theorem de_non {j} : DE X W (.Constant .none j pos) (mC .none) := ⟨_, pe_non, good_c fun _ => .non⟩
/-- a module's constant -/
theorem de_glob {x : Str} {v : V} {u : Value} {d : D} (hg : Gl X x) (hm : X.mg x = some u) (r : RelV v u) (hd : ∀ F, Den ⟨X.K, X.mg⟩ F v d) (hdb : (x == ("__debug__" : Str)) = false := by decide) : DE X W (.Name x pos) (mC d) :=
  ⟨_, pe_glob hg hm r hdb, good_c hd⟩
end

/-! ### what is made of values at once -/
/-- r does what o says, of values looked at -/
def Post0 (g : G) (F H : Hp) (Q : VK) : Option Rv → Prop
  | some (.val d) => ∀ F' H' v, Grow F H F' H' → Den g F' v d → Q v H'
  | some (.new d) => ∀ H' a, H a = none → Grow F H F H' → OwnAt g F H' a d → Q (.ref a) H'
  | _ => False
def orStuck {α : Type} (o : Option α) (env : Env) : Res (α × Env) := match o with | some r => .ok (r, env) | none => .stuck
@[simp] theorem orStuck_some {α : Type} (r : α) (env : Env) : orStuck (some r) env = .ok (r, env) := rfl
@[simp] theorem orStuck_none {α : Type} (env : Env) : orStuck (none : Option α) env = .stuck := rfl
def NoSl (o : Option Rv) : Prop := ∀ i, o ≠ some (.sl i)
theorem NoSl.none : NoSl Option.none := fun _ h => nomatch h
theorem NoSl.val {d : D} : NoSl (some (.val d)) := fun _ h => nomatch h
theorem NoSl.new {d : D} : NoSl (some (.new d)) := fun _ h => nomatch h
theorem EnvOk.fresh {F H : Hp} {σ : St} {env : Env} {a : Addr} (k : EnvOk g F H σ env) (hn : H a = none) : F a = none ∧ ¬ Own σ env a := by
  refine ⟨?_, fun ⟨i, ⟨kd, d2, z⟩, z2⟩ => ?_⟩
  · cases q : F a with
    | none => rfl
    | some u => rw [k.sub a u q] at hn; cases hn
  · obtain ⟨o, h1, b, h2, h3, h4⟩ := k.sl i _ z
    rw [z2] at h1; cases h1; cases h2
    obtain ⟨u, q⟩ := h4.there
    rw [hn] at q; cases q
theorem post0_of {F H : Hp} {σ : St} {env : Env} {Q : VK} {o : Option Rv} (k : EnvOk g F H σ env) (h : Post (RE g) g W F H σ env Q (orStuck o env)) (hs : NoSl o) : Post0 g F H Q o := by
  cases o with
  | none => exact h
  | some r =>
    cases r with
    | val d => exact fun F' H' v x hv => h F' H' v x.ext (k.grow x) .refl hv
    | new d =>
      refine fun H' a hn x w => h F H' (.ref a) x.ext (k.grow x) .refl ⟨a, rfl, hn, (k.fresh hn).1, (k.fresh hn).2, w⟩
    | sl i => exact absurd rfl (hs i)
theorem Grow.refl {F H : Hp} (s : Sub F H) : Grow F H F H := ⟨.refl, .refl, fun _ h h' => absurd h h', s⟩
/-- a new object is laid -/
theorem Grow.laid {F H : Hp} {a : Addr} {o : HO} (s : Sub F H) (hn : H a = none) : Grow F H F (upd H a o) :=
  ⟨.refl, upd_sub hn, fun _ h h' => absurd h h', s.trans (upd_sub hn)⟩
/-- a new object is laid that never changes -/
theorem Grow.laidF {F H : Hp} {a : Addr} {o : HO} (s : Sub F H) (hn : H a = none) : Grow F H (upd F a o) (upd H a o) := by
  have hf : F a = none := by
    cases q : F a with
    | none => rfl
    | some u => rw [s a u q] at hn; cases hn
  refine ⟨upd_sub hf, upd_sub hn, fun b h h' => ?_, fun b u e => ?_⟩
  · rw [upd_new h h']; exact hn
  · by_cases hb : b = a
    · subst hb; rw [upd_same] at e ⊢; exact e
    · rw [upd_ne hb] at e ⊢; exact s b u e
theorem Post0.val0 {F H : Hp} {Q : VK} {d : D} {v : V} (s : Sub F H) (h : Post0 g F H Q (some (.val d))) (hv : Den g F v d) : Q v H := h F H v (.refl s) hv
theorem Post0.newL {F H : Hp} {Q : VK} {ds : List D} {vs : List V} {a : Addr} (s : Sub F H) (h : Post0 g F H Q (some (.new (.list ds)))) (hn : H a = none) (hv : DenL g F vs ds) : Q (.ref a) (upd H a (.lst vs)) :=
  h _ a hn (.laid s hn) (.lst upd_same hv)
theorem Post0.valT {F H : Hp} {Q : VK} {ds : List D} {vs : List V} {a : Addr} (s : Sub F H) (h : Post0 g F H Q (some (.val (.tuple ds)))) (hn : H a = none) (hv : DenL g F vs ds) : Q (.ref a) (upd H a (.tup vs)) := by
  have x := Grow.laidF (o := .tup vs) s hn
  exact h _ _ _ x (.tup (.inl (.inl upd_same)) (hv.mono x.sub))
theorem data_cases (r : Rv) (env : Env) : (∃ d, r.data env = .ok d) ∨ r.data env = .stuck := by
  unfold Rv.data
  cases r with
  | val d => exact .inl ⟨d, rfl⟩
  | new d => exact .inl ⟨d, rfl⟩
  | sl i =>
    show (∃ d, (match env[i]? with | some (.fz d) => Res.ok d | some (.ow _ d) => .ok d | _ => .stuck) = .ok d) ∨ (match env[i]? with | some (.fz d) => Res.ok d | some (.ow _ d) => .ok d | _ => .stuck) = .stuck
    split
    · exact .inl ⟨_, rfl⟩
    · exact .inl ⟨_, rfl⟩
    · exact .inr rfl
theorem frz_cases (r : Rv) (env : Env) : (∃ d e, r.frz env = .ok (d, e)) ∨ r.frz env = .stuck := by
  unfold Rv.frz
  cases r with
  | val d => exact .inl ⟨d, _, rfl⟩
  | new d => exact .inl ⟨d, _, rfl⟩
  | sl i =>
    show (∃ d e, (match env[i]? with | some (.fz d) => Res.ok (d, env) | some (.ow .fr d) => .ok (d, env.set i (.fz d)) | _ => .stuck) = .ok (d, e)) ∨ (match env[i]? with | some (.fz d) => Res.ok (d, env) | some (.ow .fr d) => .ok (d, env.set i (.fz d)) | _ => .stuck) = .stuck
    split
    · exact .inl ⟨_, _, rfl⟩
    · exact .inl ⟨_, _, rfl⟩
    · exact .inr rfl
/-- the reading r of two values (an operator) is good for o -/
structure Good2 (g : G) (r : R2) (o : D → D → Option Rv) : Prop where
  run : ∀ F H x y d e Q, Sub F H → Pk g F H x d → Pk g F H y e → Post0 g F H Q (o d e) → r x y H Q
  nosl : ∀ d e, NoSl (o d e)
def mBin (o : D → D → Option Rv) (f h : ME) : ME := fun env => do
  let (r1, e1) ← f env
  let (r2, e2) ← h e1
  let d1 ← r1.data e2
  let d2 ← r2.data e2
  orStuck (o d1 d2) e2
theorem good_bin {ta tb : TE} {r : R2} {o : D → D → Option Rv} {f h : ME} (ha : GoodE g W ta f) (hb : GoodE g W tb h) (ho : Good2 g r o) : GoodE g W (tOp r ta tb) (mBin o f h) := fun F H σ env Q k p => by
  refine ha F H σ env _ k (Post.bind RE.early p fun r1 e1 F1 H1 x x1 k1 kp1 rv1 p1 => ?_)
  refine hb F1 H1 σ e1 _ k1 (Post.bind RE.early p1 fun r2 e2 F2 H2 y x2 k2 kp2 rv2 p2 => ?_)
  have rv1' := RvOk.ext rv1 x2
  rcases data_cases r1 e2 with ⟨d1, q1⟩ | q1
  · rcases data_cases r2 e2 with ⟨d2, q2⟩ | q2
    · simp only [q1, q2, Res.ok_bind] at p2
      exact ho.run F2 H2 x y d1 d2 Q k2.sub (rv1'.pk k2 q1) (RvOk.pk rv2 k2 q2) (post0_of k2 p2 (ho.nosl d1 d2))
    · simp only [q1, q2, Res.ok_bind, Res.stuck_bind] at p2; exact p2.elim
  · simp only [q1, Res.stuck_bind] at p2; exact p2.elim
section
variable {X : Cx} {a b : Expr} {pos : Pos} {f h : ME} {r : R2} {o : D → D → Option Rv}
theorem de_op {op : Operator} (ho : OpR X (binaryOp op) r) (hg : Good2 ⟨X.K, X.mg⟩ r o) (ha : DE X W a f) (hb : DE X W b h) : DE X W (.BinOp a op b pos) (mBin o f h) := by
  obtain ⟨ta, pa, ga⟩ := ha
  obtain ⟨tb, pb, gb⟩ := hb
  exact ⟨_, pe_op ho pa pb, good_bin ga gb hg⟩
theorem de_cmp {op : CmpOp} (ho : OpR X (compareOp op) r) (hg : Good2 ⟨X.K, X.mg⟩ r o) (ha : DE X W a f) (hb : DE X W b h) (hm : behindInMarks op b = false) : DE X W (.Compare a [op] [b] pos) (mBin o f h) := by
  obtain ⟨ta, pa, ga⟩ := ha
  obtain ⟨tb, pb, gb⟩ := hb
  exact ⟨_, pe_cmpR ho pa pb hm, good_bin ga gb hg⟩
theorem de_ix (ho : IxR X r) (hg : Good2 ⟨X.K, X.mg⟩ r o) (ha : DE X W a f) (hb : DE X W b h) (hs : PlainIx b) : DE X W (.Subscript a b pos) (mBin o f h) := by
  obtain ⟨ta, pa, ga⟩ := ha
  obtain ⟨tb, pb, gb⟩ := hb
  exact ⟨_, pe_ix ho pa pb hs, good_bin ga gb hg⟩
end

/-! ### tests -/
def asB : D → Option Bool
  | .bool b => some b
  | _ => none
def mTest (f : ME) : MT := fun env => do
  let (r, e) ← f env
  let d ← r.data e
  orStuck (asB d) e
theorem good_test {t : TE} {f : ME} (h : GoodE g W t f) : GoodT g W (tTest t) (mTest f) := fun F H σ env Q k p => by
  refine h F H σ env _ k (Post.bind RB.early p fun r1 e1 F1 H1 x x1 k1 kp1 rv1 p1 => ?_)
  rcases data_cases r1 e1 with ⟨d, q1⟩ | q1
  · have pk := RvOk.pk rv1 k1 q1
    simp only [q1, Res.ok_bind] at p1
    cases d with
    | bool b => exact ⟨b, pk.bl, p1 F1 H1 b .refl k1 .refl rfl⟩
    | _ => exact p1.elim
  · simp only [q1, Res.stuck_bind] at p1; exact p1.elim
def mAnd (f h : MT) : MT := fun env => do
  let (b, e) ← f env
  if b = true then h e else .ok (false, e)
def mOr (f h : MT) : MT := fun env => do
  let (b, e) ← f env
  if b = true then .ok (true, e) else h e
def mNot (f : MT) : MT := fun env => do
  let (b, e) ← f env
  .ok (!b, e)
theorem good_and {t u : TT} {f h : MT} (ha : GoodT g W t f) (hb : GoodT g W u h) : GoodT g W (tAnd t u) (mAnd f h) := fun F H σ env Q k p => by
  refine ha F H σ env _ k (Post.bind RB.early p fun r1 e1 F1 H1 x x1 k1 kp1 rv1 p1 => ?_)
  have rv1 : x = r1 := rv1
  subst rv1
  cases x with
  | true => exact hb F1 H1 σ e1 Q k1 p1
  | false => exact p1 F1 H1 false .refl k1 .refl rfl
theorem good_or {t u : TT} {f h : MT} (ha : GoodT g W t f) (hb : GoodT g W u h) : GoodT g W (tOr t u) (mOr f h) := fun F H σ env Q k p => by
  refine ha F H σ env _ k (Post.bind RB.early p fun r1 e1 F1 H1 x x1 k1 kp1 rv1 p1 => ?_)
  have rv1 : x = r1 := rv1
  subst rv1
  cases x with
  | false => exact hb F1 H1 σ e1 Q k1 p1
  | true => exact p1 F1 H1 true .refl k1 .refl rfl
theorem good_not {t : TT} {f : MT} (ha : GoodT g W t f) : GoodT g W (tNot t) (mNot f) := fun F H σ env Q k p => by
  refine ha F H σ env _ k (Post.bind RB.early p fun r1 e1 F1 H1 x x1 k1 kp1 rv1 p1 => ?_)
  have rv1 : x = r1 := rv1
  subst rv1
  exact p1 F1 H1 _ .refl k1 .refl rfl
/-- a test as a value -/
def mVal (f : MT) : ME := fun env => do
  let (b, e) ← f env
  .ok (.val (.bool b), e)
/-- and, or, not of bools as values -/
theorem good_andV {ta tb : TE} {f h : ME} (ha : GoodE g W ta f) (hb : GoodE g W tb h) : GoodE g W (tAndV ta tb) (mVal (mAnd (mTest f) (mTest h))) := fun F H σ env Q k p => by
  have e : mVal (mAnd (mTest f) (mTest h)) env = (f env >>= fun q => q.1.data q.2 >>= fun d => orStuck (asB d) q.2 >>= fun w => (if w.1 = true then mTest h w.2 else .ok (false, w.2)) >>= fun z => .ok (.val (.bool z.1), z.2)) := by
    unfold mVal mAnd
    show ((mTest f env >>= _) >>= _) = _
    unfold mTest
    cases f env with
    | ok q =>
      simp only [Res.ok_bind]
      cases q.1.data q.2 with
      | ok d => simp only [Res.ok_bind]; cases asB d <;> rfl
      | ex => rfl
      | stuck => rfl
    | ex => rfl
    | stuck => rfl
  rw [e] at p
  refine ha F H σ env _ k (Post.bind RE.early p fun r1 e1 F1 H1 x x1 k1 kp1 rv1 p1 => ?_)
  rcases data_cases r1 e1 with ⟨d, q1⟩ | q1
  · have pk := RvOk.pk rv1 k1 q1
    simp only [q1, Res.ok_bind] at p1
    cases d with
    | bool b =>
      refine ⟨b, pk.bl, ?_⟩
      cases b with
      | false => exact p1 F1 H1 _ .refl k1 .refl (.bl false)
      | true =>
        rw [if_pos rfl]
        have e2 : (orStuck (asB (.bool true)) e1 >>= fun w => (if w.1 = true then mTest h w.2 else .ok (false, w.2)) >>= fun z => Res.ok (Rv.val (.bool z.1), z.2)) = (h e1 >>= fun q => (q.1.data q.2 >>= fun d => orStuck (asB d) q.2) >>= fun z => .ok (.val (.bool z.1), z.2)) := by
          show (mTest h e1 >>= _) = _
          unfold mTest
          cases h e1 <;> rfl
        rw [e2] at p1
        refine hb F1 H1 σ e1 _ k1 (Post.bind RE.early p1 fun r2 e2 F2 H2 y x2 k2 kp2 rv2 p2 => ?_)
        rcases data_cases r2 e2 with ⟨d2, q2⟩ | q2
        · have pk2 := RvOk.pk rv2 k2 q2
          simp only [q2, Res.ok_bind] at p2
          cases d2 with
          | bool b2 => rw [pk2.bl]; exact p2 F2 H2 _ .refl k2 .refl (.bl b2)
          | _ => exact p2.elim
        · simp only [q2, Res.stuck_bind] at p2; exact p2.elim
    | _ => exact p1.elim
  · simp only [q1, Res.stuck_bind] at p1; exact p1.elim
theorem good_orV {ta tb : TE} {f h : ME} (ha : GoodE g W ta f) (hb : GoodE g W tb h) : GoodE g W (tOrV ta tb) (mVal (mOr (mTest f) (mTest h))) := fun F H σ env Q k p => by
  have e : mVal (mOr (mTest f) (mTest h)) env = (f env >>= fun q => q.1.data q.2 >>= fun d => orStuck (asB d) q.2 >>= fun w => (if w.1 = true then .ok (true, w.2) else mTest h w.2) >>= fun z => .ok (.val (.bool z.1), z.2)) := by
    unfold mVal mOr
    show ((mTest f env >>= _) >>= _) = _
    unfold mTest
    cases f env with
    | ok q =>
      simp only [Res.ok_bind]
      cases q.1.data q.2 with
      | ok d => simp only [Res.ok_bind]; cases asB d <;> rfl
      | ex => rfl
      | stuck => rfl
    | ex => rfl
    | stuck => rfl
  rw [e] at p
  refine ha F H σ env _ k (Post.bind RE.early p fun r1 e1 F1 H1 x x1 k1 kp1 rv1 p1 => ?_)
  rcases data_cases r1 e1 with ⟨d, q1⟩ | q1
  · have pk := RvOk.pk rv1 k1 q1
    simp only [q1, Res.ok_bind] at p1
    cases d with
    | bool b =>
      refine ⟨b, pk.bl, ?_⟩
      cases b with
      | true => exact p1 F1 H1 _ .refl k1 .refl (.bl true)
      | false =>
        rw [if_neg Bool.false_ne_true]
        have e2 : (orStuck (asB (.bool false)) e1 >>= fun w => (if w.1 = true then Res.ok (true, w.2) else mTest h w.2) >>= fun z => Res.ok (Rv.val (.bool z.1), z.2)) = (h e1 >>= fun q => (q.1.data q.2 >>= fun d => orStuck (asB d) q.2) >>= fun z => .ok (.val (.bool z.1), z.2)) := by
          show (mTest h e1 >>= _) = _
          unfold mTest
          cases h e1 <;> rfl
        rw [e2] at p1
        refine hb F1 H1 σ e1 _ k1 (Post.bind RE.early p1 fun r2 e2 F2 H2 y x2 k2 kp2 rv2 p2 => ?_)
        rcases data_cases r2 e2 with ⟨d2, q2⟩ | q2
        · have pk2 := RvOk.pk rv2 k2 q2
          simp only [q2, Res.ok_bind] at p2
          cases d2 with
          | bool b2 => rw [pk2.bl]; exact p2 F2 H2 _ .refl k2 .refl (.bl b2)
          | _ => exact p2.elim
        · simp only [q2, Res.stuck_bind] at p2; exact p2.elim
    | _ => exact p1.elim
  · simp only [q1, Res.stuck_bind] at p1; exact p1.elim
theorem good_notV {ta : TE} {f : ME} (ha : GoodE g W ta f) : GoodE g W (tNotV ta) (mVal (mNot (mTest f))) := fun F H σ env Q k p => by
  have e : mVal (mNot (mTest f)) env = (f env >>= fun q => q.1.data q.2 >>= fun d => orStuck (asB d) q.2 >>= fun w => .ok (.val (.bool (!w.1)), w.2)) := by
    unfold mVal mNot
    show ((mTest f env >>= _) >>= _) = _
    unfold mTest
    cases f env with
    | ok q =>
      simp only [Res.ok_bind]
      cases q.1.data q.2 with
      | ok d => simp only [Res.ok_bind]; cases asB d <;> rfl
      | ex => rfl
      | stuck => rfl
    | ex => rfl
    | stuck => rfl
  rw [e] at p
  refine ha F H σ env _ k (Post.bind RE.early p fun r1 e1 F1 H1 x x1 k1 kp1 rv1 p1 => ?_)
  rcases data_cases r1 e1 with ⟨d, q1⟩ | q1
  · have pk := RvOk.pk rv1 k1 q1
    simp only [q1, Res.ok_bind] at p1
    cases d with
    | bool b => exact ⟨b, pk.bl, p1 F1 H1 _ .refl k1 .refl (.bl _)⟩
    | _ => exact p1.elim
  · simp only [q1, Res.stuck_bind] at p1; exact p1.elim
def mIf (c : MT) (f h : ME) : ME := fun env => do
  let (b, e) ← c env
  if b = true then f e else h e
theorem good_if {t : TT} {ta tb : TE} {c : MT} {f h : ME} (hc : GoodT g W t c) (ha : GoodE g W ta f) (hb : GoodE g W tb h) : GoodE g W (tIf t ta tb) (mIf c f h) := fun F H σ env Q k p => by
  refine hc F H σ env _ k (Post.bind RE.early p fun r1 e1 F1 H1 x x1 k1 kp1 rv1 p1 => ?_)
  have rv1 : x = r1 := rv1
  subst rv1
  cases x with
  | true => exact ha F1 H1 σ e1 Q k1 p1
  | false => exact hb F1 H1 σ e1 Q k1 p1
section
variable {X : Cx} {a b c : Expr} {pos : Pos} {f h : ME} {p q : MT} {rest : List Expr}
/-- a bool's expression as a test -/
theorem dt_val (ha : DE X W a f) (he : ∀ whole, isTrue a X.env whole = (do let v ← whole; standAt a.pos; holding [v] (truthy v)) := by intro _; rfl) : DT X W a (mTest f) := by
  obtain ⟨t, pa, ga⟩ := ha
  exact ⟨_, pt_val pa he, good_test ga⟩
theorem dt_cmp {op : CmpOp} {r : R2} {o : D → D → Option Rv} (ho : OpR X (compareOp op) r) (hg : Good2 ⟨X.K, X.mg⟩ r o) (ha : DE X W a f) (hb : DE X W b h) (hm : behindInMarks op b = false) : DT X W (.Compare a [op] [b] pos) (mTest (mBin o f h)) := by
  obtain ⟨ta, pa, ga⟩ := ha
  obtain ⟨tb, pb, gb⟩ := hb
  exact ⟨_, pt_cmpR ho pa pb hm, good_test (good_bin ga gb hg)⟩
theorem dt_not (ha : DT X W a p) : DT X W (.UnaryOp .Not a pos) (mNot p) := by
  obtain ⟨t, pa, ga⟩ := ha
  exact ⟨_, pt_not pa, good_not ga⟩
theorem dw_and1 (ha : DT X W a p) : DW X W (.BoolOp .And [a] pos) p := by obtain ⟨t, pa, ga⟩ := ha; exact ⟨_, pw_and1 pa, ga⟩
theorem dw_or1 (ha : DT X W a p) : DW X W (.BoolOp .Or [a] pos) p := by obtain ⟨t, pa, ga⟩ := ha; exact ⟨_, pw_or1 pa, ga⟩
theorem dw_and (ha : DT X W a p) (hb : DW X W (.BoolOp .And (b :: rest) pos) q) : DW X W (.BoolOp .And (a :: b :: rest) pos) (mAnd p q) := by
  obtain ⟨t, pa, ga⟩ := ha
  obtain ⟨u, pb, gb⟩ := hb
  exact ⟨_, pw_and pa pb, good_and ga gb⟩
theorem dw_or (ha : DT X W a p) (hb : DW X W (.BoolOp .Or (b :: rest) pos) q) : DW X W (.BoolOp .Or (a :: b :: rest) pos) (mOr p q) := by
  obtain ⟨t, pa, ga⟩ := ha
  obtain ⟨u, pb, gb⟩ := hb
  exact ⟨_, pw_or pa pb, good_or ga gb⟩
theorem dt_w (ha : DW X W a p) : DT X W a p := by obtain ⟨t, pa, ga⟩ := ha; exact ⟨_, pa.pt, ga⟩
theorem de_one {op} (ha : DE X W a f) : DE X W (.BoolOp op [a] pos) f := by obtain ⟨t, pa, ga⟩ := ha; exact ⟨_, pe_one pa, ga⟩
theorem de_and (ha : DE X W a f) (hb : DE X W (.BoolOp .And (b :: rest) pos) h) : DE X W (.BoolOp .And (a :: b :: rest) pos) (mVal (mAnd (mTest f) (mTest h))) := by
  obtain ⟨t, pa, ga⟩ := ha
  obtain ⟨u, pb, gb⟩ := hb
  exact ⟨_, pe_and pa pb, good_andV ga gb⟩
theorem de_or (ha : DE X W a f) (hb : DE X W (.BoolOp .Or (b :: rest) pos) h) : DE X W (.BoolOp .Or (a :: b :: rest) pos) (mVal (mOr (mTest f) (mTest h))) := by
  obtain ⟨t, pa, ga⟩ := ha
  obtain ⟨u, pb, gb⟩ := hb
  exact ⟨_, pe_or pa pb, good_orV ga gb⟩
theorem de_not (ha : DE X W a f) : DE X W (.UnaryOp .Not a pos) (mVal (mNot (mTest f))) := by
  obtain ⟨t, pa, ga⟩ := ha
  exact ⟨_, pe_not pa, good_notV ga⟩
theorem de_if (hc : DT X W c p) (ha : DE X W a f) (hb : DE X W b h) : DE X W (.IfExp c a b pos) (mIf p f h) := by
  obtain ⟨t, pc, gc⟩ := hc
  obtain ⟨ta, pa, ga⟩ := ha
  obtain ⟨tb, pb, gb⟩ := hb
  exact ⟨_, pe_ifExp pc pa pb, good_if gc ga gb⟩
/-- a < b < c -/
def mChain (o o' : D → D → Option Rv) (f h k : ME) : ME := fun env => do
  let (r1, e1) ← f env
  let (r2, e2) ← h e1
  let d1 ← r1.data e2
  let d2 ← r2.data e2
  let (r, _) ← orStuck (o d1 d2) e2
  match r with
  | .val (.bool true) => (do
      let (r3, e3) ← k e2
      let d2' ← r2.data e3
      let d3 ← r3.data e3
      orStuck (o' d2' d3) e3)
  | .val (.bool false) => .ok (.val (.bool false), e2)
  | _ => .stuck
/-- an operator that tells a bool and changes nothing -/
structure Good2B (g : G) (r : R2) (o : D → D → Option Rv) : Prop extends Good2 g r o where
  tells : ∀ F H x y d e b, Sub F H → Pk g F H x d → Pk g F H y e → o d e = some (.val (.bool b)) → ∀ Q : VK, Q (.bl b) H → r x y H Q
theorem good_chain {ta tb tc : TE} {r r' : R2} {o o' : D → D → Option Rv} {f h k : ME} (ha : GoodE g W ta f) (hb : GoodE g W tb h) (hc : GoodE g W tc k) (ho : Good2B g r o) (ho' : Good2 g r' o') : GoodE g W (tChain r r' ta tb tc) (mChain o o' f h k) := fun F H σ env Q k0 p => by
  refine ha F H σ env _ k0 (Post.bind RE.early p fun r1 e1 F1 H1 x x1 k1 kp1 rv1 p1 => ?_)
  refine hb F1 H1 σ e1 _ k1 (Post.bind RE.early p1 fun r2 e2 F2 H2 y x2 k2 kp2 rv2 p2 => ?_)
  have rv1' := RvOk.ext rv1 x2
  rcases data_cases r1 e2 with ⟨d1, q1⟩ | q1
  · rcases data_cases r2 e2 with ⟨d2, q2⟩ | q2
    · simp only [q1, q2, Res.ok_bind] at p2
      cases ho12 : o d1 d2 with
      | none => rw [ho12] at p2; exact p2.elim
      | some rr =>
        rw [ho12] at p2
        simp only [orStuck_some, Res.ok_bind] at p2
        cases rr with
        | val d =>
          cases d with
          | bool b =>
            refine ho.tells F2 H2 x y d1 d2 b k2.sub (rv1'.pk k2 q1) (RvOk.pk rv2 k2 q2) ho12 _ ⟨b, rfl, ?_⟩
            cases b with
            | true =>
              rw [if_pos rfl]
              refine hc F2 H2 σ e2 _ k2 (Post.bind RE.early p2 fun r3 e3 F3 H3 z x3 k3 kp3 rv3 p3 => ?_)
              have rv2' := RvOk.ext rv2 x3
              rcases data_cases r2 e3 with ⟨d2', q2'⟩ | q2'
              · rcases data_cases r3 e3 with ⟨d3, q3⟩ | q3
                · simp only [q2', q3, Res.ok_bind] at p3
                  exact ho'.run F3 H3 y z d2' d3 Q k3.sub (rv2'.pk k3 q2') (RvOk.pk rv3 k3 q3) (post0_of k3 p3 (ho'.nosl d2' d3))
                · simp only [q2', q3, Res.ok_bind, Res.stuck_bind] at p3; exact p3.elim
              · simp only [q2', Res.stuck_bind] at p3; exact p3.elim
            | false => rw [if_neg Bool.false_ne_true]; exact p2 F2 H2 _ .refl k2 .refl (.bl false)
          | _ => exact p2.elim
        | _ => exact p2.elim
    · simp only [q1, q2, Res.ok_bind, Res.stuck_bind] at p2; exact p2.elim
  · simp only [q1, Res.stuck_bind] at p2; exact p2.elim
theorem de_chain {op op' : CmpOp} {r r' : R2} {o o' : D → D → Option Rv} {k : ME} (ho : OpR X (compareOp op) r) (hg : Good2B ⟨X.K, X.mg⟩ r o) (ho' : OpR X (compareOp op') r') (hg' : Good2 ⟨X.K, X.mg⟩ r' o') (ha : DE X W a f) (hb : DE X W b h) (hc : DE X W c k)
    (hm : lastMarks [op, op'] [b, c] = false := by with_unfolding_all rfl) : DE X W (.Compare a [op, op'] [b, c] pos) (mChain o o' f h k) := by
  obtain ⟨ta, pa, ga⟩ := ha
  obtain ⟨tb, pb, gb⟩ := hb
  obtain ⟨tc, pc, gc⟩ := hc
  exact ⟨_, pe_chain ho ho' pa pb pc hm, good_chain ga gb gc hg hg'⟩
theorem dt_chain {op op' : CmpOp} {r r' : R2} {o o' : D → D → Option Rv} {k : ME} (ho : OpR X (compareOp op) r) (hg : Good2B ⟨X.K, X.mg⟩ r o) (ho' : OpR X (compareOp op') r') (hg' : Good2 ⟨X.K, X.mg⟩ r' o') (ha : DE X W a f) (hb : DE X W b h) (hc : DE X W c k)
    (hm : lastMarks [op, op'] [b, c] = false := by with_unfolding_all rfl) : DT X W (.Compare a [op, op'] [b, c] pos) (mTest (mChain o o' f h k)) := by
  obtain ⟨ta, pa, ga⟩ := ha
  obtain ⟨tb, pb, gb⟩ := hb
  obtain ⟨tc, pc, gc⟩ := hc
  exact ⟨_, pt_chain ho ho' pa pb pc hm, good_test (good_chain ga gb gc hg hg')⟩
end
end DL
namespace DL
open PySem PySem.Spec L2
variable {g : G} {W : WX}

/-- one part that is kept, then what is made of it -/
theorem Post.bindF {β' α' : Type} {R' : RelB β' α'} (er : Early R') {F H : Hp} {σ : St} {env : Env} {Q : β' → Hp → Prop} {Qa : V → Hp → Prop} {m : Res (Rv × Env)} {k : D × Env → Res (α' × Env)} (h : Post R' g W F H σ env Q (m >>= fun z => z.1.frz z.2 >>= k))
    (hk : ∀ d e2 F2 H1 v, Ext F H (Own σ env) F2 H1 (Own σ e2) → EnvOk g F2 H1 σ e2 → Keep σ env σ e2 → Den g F2 v d → Post R' g W F2 H1 σ e2 Q (k (d, e2)) → Qa v H1) : Post (RE g) g W F H σ env Qa m := by
  cases m with
  | ok p =>
    obtain ⟨r, e1⟩ := p
    intro F1 H1 v x ok kp rv
    rcases frz_cases r e1 with ⟨d, e2, q⟩ | q
    · simp only [q, Res.ok_bind] at h
      obtain ⟨F2, x2, k2, kp2, hd⟩ := RvOk.frz rv x ok q
      exact hk d e2 F2 H1 v x2 k2 (kp.trans kp2) hd (Post.after er x2 (kp.trans kp2) h)
    · simp only [q, Res.ok_bind, Res.stuck_bind] at h; exact h.elim
  | ex c d e => exact h
  | stuck => exact h

/-! ### argument lists -/
inductive AllE (g : G) (W : WX) : TA → List ME → Prop
  | nil : AllE g W tNil []
  | cons {t : TE} {tr : TA} {f : ME} {fs : List ME} : GoodE g W t f → AllE g W tr fs → AllE g W (tCons t tr) (f :: fs)
structure DA (X : Cx) (W : WX) (es : List Expr) (fs : List ME) : Prop where
  ex : ∃ t, PA X es t ∧ AllE ⟨X.K, X.mg⟩ W t fs
theorem da_nil {X : Cx} : DA X W [] [] := ⟨_, pa_nil, .nil⟩
theorem da_cons {X : Cx} {e : Expr} {es : List Expr} {f : ME} {fs : List ME} (h : DE X W e f) (hr : DA X W es fs) (hs : starEach (e :: es) X.env = (false, eval e X.env) :: starEach es X.env := by rfl) : DA X W (e :: es) (f :: fs) := by
  obtain ⟨t, p, q⟩ := h
  obtain ⟨tr, pr, qr⟩ := hr
  exact ⟨_, pa_cons p pr hs, .cons q qr⟩
/-- all are kept -/
def evDs : List ME → Env → Res (List D × Env)
  | [], env => .ok ([], env)
  | f :: fs, env => do
    let z ← f env
    let y ← z.1.frz z.2
    let x ← evDs fs y.2
    .ok (y.1 :: x.1, x.2)
theorem AllE.ds {t : TA} {fs : List ME} (h : AllE g W t fs) : Good (RDs g) g W t (evDs fs) := by
  induction h with
  | nil => exact fun F H σ env Q k p => p F H [] .refl k .refl .nil
  | @cons t tr f fs hf hr ih =>
    intro F H σ env Q k p
    refine hf F H σ env _ k (Post.bindF RDs.early p fun d e2 F2 H1 v x2 k2 kp2 hd p2 => ?_)
    refine ih F2 H1 σ e2 _ k2 (Post.bind RDs.early p2 fun ds e3 F3 H3 vs x3 k3 kp3 hds p3 => ?_)
    exact p3 F3 H3 (v :: vs) .refl k3 .refl (.cons (hd.mono x3.sub) hds)
/-- all are looked at, at the end -/
def noH : Hp := fun _ => none
def RRs (g : G) : RelB (List V) (List Rv) := fun _ F H σ env vs rs => Paired (fun v r => RvOk g noH F H σ env v r) vs rs
theorem RRs.early : Early (RRs g) := ⟨fun _ _ _ _ _ _ _ _ _ h => h⟩
def evRs : List ME → Env → Res (List Rv × Env)
  | [], env => .ok ([], env)
  | f :: fs, env => do
    let z ← f env
    let x ← evRs fs z.2
    .ok (z.1 :: x.1, x.2)
theorem AllE.rs {t : TA} {fs : List ME} (h : AllE g W t fs) : Good (RRs g) g W t (evRs fs) := by
  induction h with
  | nil => exact fun F H σ env Q k p => p F H [] .refl k .refl .nil
  | @cons t tr f fs hf hr ih =>
    intro F H σ env Q k p
    refine hf F H σ env _ k (Post.bind RRs.early p fun r1 e1 F1 H1 v x1 k1 kp1 rv1 p1 => ?_)
    refine ih F1 H1 σ e1 _ k1 (Post.bind RRs.early p1 fun rs e2 F2 H2 vs x2 k2 kp2 hrs p2 => ?_)
    exact p2 F2 H2 (v :: vs) .refl k2 .refl (.cons ((RvOk.earlier rv1 fun _ z => absurd rfl z).ext x2) hrs)
def datas (env : Env) : List Rv → Option (List D)
  | [] => some []
  | r :: rs => match r.data env with
    | .ok d => match datas env rs with
      | some ds => some (d :: ds)
      | none => none
    | _ => none
abbrev Pks (g : G) (F H : Hp) : List V → List D → Prop := Paired (Pk g F H)
theorem datas_pk {F H : Hp} {σ : St} {env : Env} (k : EnvOk g F H σ env) : ∀ {vs : List V} {rs : List Rv} {ds : List D}, Paired (fun v r => RvOk g noH F H σ env v r) vs rs → datas env rs = some ds → Pks g F H vs ds
  | _, _, _, .nil, e => by cases e; exact .nil
  | _, _, _, .cons (b := r) (l₂ := rs) h t, e => by
    unfold datas at e
    split at e
    · rename_i d q
      split at e
      · rename_i ds' q'
        cases e
        exact .cons (RvOk.pk h k q) (datas_pk k t q')
      · cases e
    · cases e
/-- a call of a built-in: r of the values, o of their data -/
structure GoodC (g : G) (r : List V → Hp → VK → Prop) (o : List D → Option Rv) : Prop where
  run : ∀ F H vs ds Q, Sub F H → Pks g F H vs ds → Post0 g F H Q (o ds) → r vs H Q
  nosl : ∀ ds, NoSl (o ds)
def mCallB (o : List D → Option Rv) (fs : List ME) : ME := fun env => do
  let z ← evRs fs env
  let ds ← orStuck (datas z.2 z.1) z.2
  orStuck (o ds.1) ds.2
theorem good_callB {t : TA} {fs : List ME} {r : List V → Hp → VK → Prop} {o : List D → Option Rv} (h : AllE g W t fs) (ho : GoodC g r o) : GoodE g W (tCB r t) (mCallB o fs) := fun F H σ env Q k p => by
  refine h.rs F H σ env _ k (Post.bind RE.early p fun rs e1 F1 H1 vs x1 k1 kp1 hrs p1 => ?_)
  cases q : datas e1 rs with
  | none => rw [q] at p1; exact p1.elim
  | some ds =>
    rw [q] at p1
    simp only [orStuck_some, Res.ok_bind] at p1
    exact ho.run F1 H1 vs ds Q k1.sub (datas_pk k1 hrs q) (post0_of k1 p1 (ho.nosl ds))
section
variable {X : Cx} {x : Str} {p pos : Pos} {e : Expr} {es : List Expr} {fs : List ME} {id T : String} {r : List V → Hp → VK → Prop} {o : List D → Option Rv}
theorem de_callB (hc : CallR X (.builtin id) r) (ho : GoodC ⟨X.K, X.mg⟩ r o) (hg : Gl X x) (hm : X.mg x = none) (hv : bootBuiltins x = some (.builtin id)) (ha : DA X W (e :: es) fs) (hn : x ≠ "__name__" := by decide) (hdb : (x == ("__debug__" : Str)) = false := by decide)
    (he : starEach (e :: es) X.env = (false, eval e X.env) :: starEach es X.env := by rfl) (hpl : (backTo pos (starEach es X.env)).any (·.1) = false := by rfl) : DE X W (.Call (.Name x p) (e :: es) [] pos) (mCallB o fs) := by
  obtain ⟨t, pt, gt⟩ := ha
  exact ⟨_, pe_callB hc hg hm hv pt hn hdb he hpl, good_callB gt ho⟩
theorem de_callTy (hc : CallR X (.type T) r) (ho : GoodC ⟨X.K, X.mg⟩ r o) (hg : Gl X x) (hm : X.mg x = none) (hv : bootBuiltins x = some (.type T)) (ha : DA X W (e :: es) fs) (hn : x ≠ "__name__" := by decide) (hdb : (x == ("__debug__" : Str)) = false := by decide)
    (he : starEach (e :: es) X.env = (false, eval e X.env) :: starEach es X.env := by rfl) (hpl : (backTo pos (starEach es X.env)).any (·.1) = false := by rfl) : DE X W (.Call (.Name x p) (e :: es) [] pos) (mCallB o fs) := by
  obtain ⟨t, pt, gt⟩ := ha
  exact ⟨_, pe_callTy hc hg hm hv pt hn hdb he hpl, good_callB gt ho⟩
end
/-! ### displays -/
def lineM : Nat := 16777216
theorem lineM_eq : sizeLine = lineM := sizeLine_eq
def mList (fs : List ME) : ME := fun env => do
  let z ← evDs fs env
  if z.1.length ≤ lineM then .ok (.new (.list z.1), z.2) else .stuck
def mTup (fs : List ME) : ME := fun env => do
  let z ← evDs fs env
  if z.1.length ≤ lineM then .ok (.val (.tuple z.1), z.2) else .stuck
theorem good_lst {t : TA} {fs : List ME} (h : AllE g W t fs) : GoodE g W (tLst t) (mList fs) := fun F H σ env Q k p => by
  refine h.ds F H σ env _ k (Post.bind RE.early p fun ds e1 F1 H1 vs x1 k1 kp1 hds p1 => ?_)
  have hds : DenL g F1 vs ds := hds
  by_cases z : ds.length ≤ lineM
  · simp only [z, if_true] at p1
    have p2 := post0_of (o := some (.new (.list ds))) k1 p1 NoSl.new
    exact ⟨by rw [hds.length, lineM_eq]; exact z, fun a hn => Post0.newL k1.sub p2 hn hds⟩
  · simp only [z, if_false] at p1; exact p1.elim
theorem good_tup {t : TA} {fs : List ME} (h : AllE g W t fs) : GoodE g W (tTup t) (mTup fs) := fun F H σ env Q k p => by
  refine h.ds F H σ env _ k (Post.bind RE.early p fun ds e1 F1 H1 vs x1 k1 kp1 hds p1 => ?_)
  have hds : DenL g F1 vs ds := hds
  by_cases z : ds.length ≤ lineM
  · simp only [z, if_true] at p1
    have p2 := post0_of (o := some (.val (.tuple ds))) k1 p1 NoSl.val
    exact ⟨by rw [hds.length, lineM_eq]; exact z, fun a hn => Post0.valT k1.sub p2 hn hds⟩
  · simp only [z, if_false] at p1; exact p1.elim
section
variable {X : Cx} {pos : Pos} {es : List Expr} {fs : List ME}
theorem de_list (h : DA X W es fs) : DE X W (.List es pos) (mList fs) := by
  obtain ⟨t, pt, gt⟩ := h
  exact ⟨_, pe_lst pt, good_lst gt⟩
theorem de_tup {n} (h : DA X W es fs) : DE X W (.Tuple es n pos) (mTup fs) := by
  obtain ⟨t, pt, gt⟩ := h
  exact ⟨_, pe_tup pt, good_tup gt⟩
end

/-! ### slices -/
abbrev MO := Env → Res (Option Int × Env)
abbrev GoodO (g : G) (W : WX) (t : TO) (f : MO) : Prop := Good ROI g W t f
structure DO (X : Cx) (W : WX) (e : Option Expr) (f : MO) : Prop where
  ex : ∃ t, PO X e t ∧ GoodO ⟨X.K, X.mg⟩ W t f
def asI : D → Option (Option Int)
  | .int i => some (some i)
  | _ => none
def mNoPart : MO := fun env => .ok (none, env)
def mPart (f : ME) : MO := fun env => do
  let z ← f env
  let d ← z.1.data z.2
  orStuck (asI d) z.2
theorem do_none {X : Cx} : DO X W none mNoPart := ⟨_, po_none, fun F H σ env Q k p => p F H none .refl k .refl rfl⟩
theorem do_some {X : Cx} {e : Expr} {f : ME} (h : DE X W e f) : DO X W (some e) (mPart f) := by
  obtain ⟨t, pt, gt⟩ := h
  refine ⟨_, po_some pt, fun F H σ env Q k p => ?_⟩
  refine gt F H σ env _ k (Post.bind ROI.early p fun r1 e1 F1 H1 x x1 k1 kp1 rv1 p1 => ?_)
  rcases data_cases r1 e1 with ⟨d, q1⟩ | q1
  · have pk := RvOk.pk rv1 k1 q1
    simp only [q1, Res.ok_bind] at p1
    cases d with
    | int i => exact ⟨i, pk.int, p1 F1 H1 (some i) .refl k1 .refl rfl⟩
    | _ => exact p1.elim
  · simp only [q1, Res.stuck_bind] at p1; exact p1.elim
structure GoodSl (g : G) (r : V → Option Int → Option Int → Hp → VK → Prop) (o : D → Option Int → Option Int → Option Rv) : Prop where
  run : ∀ F H x d lo hi Q, Sub F H → Pk g F H x d → Post0 g F H Q (o d lo hi) → r x lo hi H Q
  nosl : ∀ d lo hi, NoSl (o d lo hi)
def mSl (o : D → Option Int → Option Int → Option Rv) (f : ME) (l h : MO) : ME := fun env => do
  let z ← f env
  let y ← l z.2
  let x ← h y.2
  let d ← z.1.data x.2
  orStuck (o d y.1 x.1) x.2
theorem good_sl {te : TE} {tl th : TO} {r : V → Option Int → Option Int → Hp → VK → Prop} {o : D → Option Int → Option Int → Option Rv} {f : ME} {l h : MO} (ha : GoodE g W te f) (hl : GoodO g W tl l) (hh : GoodO g W th h) (ho : GoodSl g r o) : GoodE g W (tSl r te tl th) (mSl o f l h) := fun F H σ env Q k p => by
  refine ha F H σ env _ k (Post.bind RE.early p fun r1 e1 F1 H1 x x1 k1 kp1 rv1 p1 => ?_)
  refine hl F1 H1 σ e1 _ k1 (Post.bind RE.early p1 fun lo e2 F2 H2 b2 x2 k2 kp2 rv2 p2 => ?_)
  have rv2 : b2 = lo := rv2
  subst rv2
  refine hh F2 H2 σ e2 _ k2 (Post.bind RE.early p2 fun hi e3 F3 H3 b3 x3 k3 kp3 rv3 p3 => ?_)
  have rv3 : b3 = hi := rv3
  subst rv3
  have rv1' := (RvOk.ext rv1 x2).ext x3
  rcases data_cases r1 e3 with ⟨d, q1⟩ | q1
  · simp only [q1, Res.ok_bind] at p3
    exact ho.run F3 H3 x d b2 b3 Q k3.sub (rv1'.pk k3 q1) (post0_of k3 p3 (ho.nosl d b2 b3))
  · simp only [q1, Res.stuck_bind] at p3; exact p3.elim
theorem de_slice {X : Cx} {e : Expr} {lo hi : Option Expr} {p2 pos : Pos} {r : V → Option Int → Option Int → Hp → VK → Prop} {o : D → Option Int → Option Int → Option Rv} {f : ME} {l h : MO} (hr : SlR X r) (ho : GoodSl ⟨X.K, X.mg⟩ r o) (he : DE X W e f) (hl : DO X W lo l) (hu : DO X W hi h) : DE X W (.Subscript e (.Slice lo hi none p2) pos) (mSl o f l h) := by
  obtain ⟨t, pt, gt⟩ := he
  obtain ⟨tl, pl, gl⟩ := hl
  obtain ⟨th, ph, gh⟩ := hu
  exact ⟨_, pe_slice hr pt pl ph, good_sl gt gl gh ho⟩

/-! ### methods of built-in types that change nothing -/
structure GoodM (g : G) (T : String) (r : V → List V → Hp → VK → Prop) (o : D → List D → Option Rv) : Prop where
  run : ∀ F H x vs d ds Q, Sub F H → Pk g F H x d → Pks g F H vs ds → Post0 g F H Q (o d ds) → r x vs H Q
  ty : ∀ F H x d, Sub F H → Pk g F H x d → (∃ ds, o d ds ≠ none) → tyV g.K T x H
  nosl : ∀ d ds, NoSl (o d ds)
def mMeth (o : D → List D → Option Rv) (isT : D → Bool) (f : ME) (fs : List ME) : ME := fun env => do
  let z ← f env
  let d0 ← z.1.data z.2
  if isT d0 = true then do
    let y ← evRs fs z.2
    let d ← z.1.data y.2
    let ds ← orStuck (datas y.2 y.1) y.2
    orStuck (o d ds.1) ds.2
  else .stuck
theorem good_meth {T : String} {to : TE} {t : TA} {fs : List ME} {f : ME} {r : V → List V → Hp → VK → Prop} {o : D → List D → Option Rv} {isT : D → Bool} (hf : GoodE g W to f) (h : AllE g W t fs) (ho : ∀ F H x vs d ds Q, Sub F H → Pk g F H x d → Pks g F H vs ds → Post0 g F H Q (o d ds) → r x vs H Q)
    (hty : ∀ F H x d, Sub F H → Pk g F H x d → isT d = true → tyV g.K T x H) (nosl : ∀ d ds, NoSl (o d ds)) : GoodE g W (tBM g.K T r to t) (mMeth o isT f fs) := fun F H σ env Q k p => by
  refine hf F H σ env _ k (Post.bind RE.early p fun r1 e1 F1 H1 x x1 k1 kp1 rv1 p1 => ?_)
  rcases data_cases r1 e1 with ⟨d0, q0⟩ | q0
  · simp only [q0, Res.ok_bind] at p1
    by_cases ht : isT d0 = true
    · simp only [ht, if_true] at p1
      refine ⟨hty F1 H1 x d0 k1.sub (RvOk.pk rv1 k1 q0) ht, ?_⟩
      refine h.rs F1 H1 σ e1 _ k1 (Post.bind RE.early p1 fun rs e2 F2 H2 vs x2 k2 kp2 hrs p2 => ?_)
      have rv1' := RvOk.ext rv1 x2
      rcases data_cases r1 e2 with ⟨d, q1⟩ | q1
      · simp only [q1, Res.ok_bind] at p2
        cases q : datas e2 rs with
        | none => simp only [q] at p2; exact p2.elim
        | some ds =>
          simp only [q, orStuck_some, Res.ok_bind] at p2
          exact ho F2 H2 x vs d ds Q k2.sub (rv1'.pk k2 q1) (datas_pk k2 hrs q) (post0_of k2 p2 (nosl d ds))
      · simp only [q1, Res.stuck_bind] at p2; exact p2.elim
    · simp only [ht, if_false] at p1; exact p1.elim
  · simp only [q0, Res.stuck_bind] at p1; exact p1.elim
theorem good_meth0 {T : String} {to : TE} {f : ME} {r : V → List V → Hp → VK → Prop} {o : D → List D → Option Rv} {isT : D → Bool} (hf : GoodE g W to f) (ho : ∀ F H x vs d ds Q, Sub F H → Pk g F H x d → Pks g F H vs ds → Post0 g F H Q (o d ds) → r x vs H Q)
    (hty : ∀ F H x d, Sub F H → Pk g F H x d → isT d = true → tyV g.K T x H) (nosl : ∀ d ds, NoSl (o d ds)) : GoodE g W (tBM0 g.K T r to) (mMeth o isT f []) := fun F H σ env Q k p =>
  good_meth (t := tNil) hf .nil ho hty nosl F H σ env Q k p
end DL
namespace DL
open PySem PySem.Spec L2
variable {g : G} {W : WX}

inductive Fl
  | nx
  | rt (r : Rv)
  | bk
  | ct
def EndOk (g : G) (H0 F H : Hp) (σ : St) (env : Env) (Dn : Ends) : Fl → Prop
  | .nx => Dn.nx σ H
  | .bk => Dn.bk σ H
  | .ct => Dn.ct σ H
  | .rt r => ∀ v, RvOk g H0 F H σ env v r → Dn.rt v H
theorem EndOk.later {H0 H1 F H : Hp} {σ : St} {env : Env} {Dn : Ends} {f : Fl} (k : ∀ x, H0 x ≠ none → H1 x ≠ none) (h : EndOk g H0 F H σ env Dn f) : EndOk g H1 F H σ env Dn f := by
  cases f with
  | rt r => exact fun v q => h v (RvOk.earlier q k)
  | nx => exact h
  | bk => exact h
  | ct => exact h
abbrev MS := Env → Res (Fl × Env)
def PostS (g : G) (W : WX) (F H : Hp) (σ : St) (env : Env) (Dn : Ends) : Res (Fl × Env) → Prop
  | .ok (f, env') => ∀ F' H' σ', Ext F H (Own σ env) F' H' (Own σ' env') → EnvOk g F' H' σ' env' → Keep σ env σ' env' → EndOk g H F' H' σ' env' Dn f
  | .ex c d env' => ∀ F' H' σ' dd C v, Ext F H (Own σ env) F' H' (Own σ' env') → EnvOk g F' H' σ' env' → Keep σ env σ' env' → g.mg c = some (.ref C) → F' dd = some (.xd [(("value" : Str), v)]) → Den g F' v d → W (.ref C) (some dd) σ' H'
  | .stuck => False
theorem PostS.after {F H F1 H1 : Hp} {σ σ1 : St} {env e1 : Env} {Dn : Ends} {m : Res (Fl × Env)} (x : Ext F H (Own σ env) F1 H1 (Own σ1 e1)) (k : Keep σ env σ1 e1) (h : PostS g W F H σ env Dn m) : PostS g W F1 H1 σ1 e1 Dn m := by
  cases m with
  | ok p => obtain ⟨r, e2⟩ := p; exact fun F' H' σ' x' ok k' => (h F' H' σ' (x.trans x') ok (k.trans k')).later x.dom
  | ex c d e2 => exact fun F' H' σ' dd C v x' ok k' => h F' H' σ' dd C v (x.trans x') ok (k.trans k')
  | stuck => exact h
/-- the end nx alone is another one -/
theorem PostS.bind {F H : Hp} {σ : St} {env : Env} {Dn : Ends} {nx : St → Hp → Prop} {m : Res (Fl × Env)} {k : Env → Res (Fl × Env)}
    (h : PostS g W F H σ env Dn (m >>= fun z => match z.1 with | .nx => k z.2 | _ => .ok z))
    (hk : ∀ e1 F1 H1 σ1, Ext F H (Own σ env) F1 H1 (Own σ1 e1) → EnvOk g F1 H1 σ1 e1 → Keep σ env σ1 e1 → PostS g W F1 H1 σ1 e1 Dn (k e1) → nx σ1 H1) : PostS g W F H σ env { Dn with nx := nx } m := by
  cases m with
  | ok p =>
    obtain ⟨f, e1⟩ := p
    cases f with
    | nx => exact fun F' H' σ' x ok kp => hk e1 F' H' σ' x ok kp (PostS.after x kp h)
    | rt r => exact h
    | bk => exact h
    | ct => exact h
  | ex c d e => exact h
  | stuck => exact h
/-- a part's value, what is made of it told from the start -/
theorem PostS.bindE {β α : Type} {R : RelB β α} {F H : Hp} {σ : St} {env : Env} {Dn : Ends} {Qa : β → Hp → Prop} {m : Res (α × Env)} {k : α × Env → Res (Fl × Env)} (h : PostS g W F H σ env Dn (m >>= k))
    (hk : ∀ r e1 F1 H1 v, Ext F H (Own σ env) F1 H1 (Own σ e1) → EnvOk g F1 H1 σ e1 → Keep σ env σ e1 → R H F1 H1 σ e1 v r → PostS g W F H σ env Dn (k (r, e1)) → Qa v H1) : Post R g W F H σ env Qa m := by
  cases m with
  | ok p =>
    obtain ⟨r, e1⟩ := p
    exact fun F1 H1 v x ok kp rv => hk r e1 F1 H1 v x ok kp rv h
  | ex c d e => exact fun F' H' dd C v => h F' H' σ dd C v
  | stuck => exact h
def GoodS (g : G) (W : WX) (t : TS) (m : MS) : Prop := ∀ F H σ env Dn, EnvOk g F H σ env → PostS g W F H σ env Dn (m env) → t Dn σ H
structure DS (X : Cx) (W : WX) (st : Stmt) (m : MS) : Prop where
  ex : ∃ t, PS X st t ∧ GoodS ⟨X.K, X.mg⟩ W t m
structure DSs (X : Cx) (W : WX) (st : List Stmt) (m : MS) : Prop where
  ex : ∃ t, PSs X st t ∧ GoodS ⟨X.K, X.mg⟩ W t m

def mPass : MS := fun env => .ok (.nx, env)
def mSeq (m n : MS) : MS := fun env => m env >>= fun z => match z.1 with | .nx => n z.2 | _ => .ok z
def mBreak : MS := fun env => .ok (.bk, env)
def mCont : MS := fun env => .ok (.ct, env)
def mRet (f : ME) : MS := fun env => f env >>= fun z => .ok (.rt z.1, z.2)
def mRetN : MS := fun env => .ok (.rt (.val .none), env)
def mIfS (c : MT) (m n : MS) : MS := fun env => c env >>= fun z => if z.1 = true then m z.2 else n z.2
theorem good_pass : GoodS g W tNext mPass := fun F H σ env Dn k p => p F H σ .refl k .refl
theorem good_seq {t u : TS} {m n : MS} (h1 : GoodS g W t m) (h2 : GoodS g W u n) : GoodS g W (tSeq t u) (mSeq m n) := fun F H σ env Dn k p =>
  h1 F H σ env _ k (PostS.bind p fun e1 F1 H1 σ1 x1 k1 kp1 p1 => h2 F1 H1 σ1 e1 Dn k1 p1)
theorem good_break : GoodS g W tBreak mBreak := fun F H σ env Dn k p => p F H σ .refl k .refl
theorem good_cont : GoodS g W tCont mCont := fun F H σ env Dn k p => p F H σ .refl k .refl
theorem good_ret {t : TE} {f : ME} (h : GoodE g W t f) : GoodS g W (tRet t) (mRet f) := fun F H σ env Dn k p =>
  h F H σ env _ k (PostS.bindE p fun r e1 F1 H1 v x1 k1 kp1 rv p1 => p1 F1 H1 σ x1 k1 kp1 v rv)
theorem good_retN : GoodS g W tRetN mRetN := fun F H σ env Dn k p => p F H σ .refl k .refl .non .non
theorem good_ifS {c : TT} {t u : TS} {mc : MT} {m n : MS} (hc : GoodT g W c mc) (h1 : GoodS g W t m) (h2 : GoodS g W u n) : GoodS g W (tIfS c t u) (mIfS mc m n) := fun F H σ env Dn k p => by
  refine hc F H σ env _ k (PostS.bindE p fun r e1 F1 H1 v x1 k1 kp1 rv p1 => ?_)
  have rv : v = r := rv
  subst rv
  have p2 := PostS.after x1 kp1 p1
  cases v with
  | true => exact h1 F1 H1 σ e1 Dn k1 p2
  | false => exact h2 F1 H1 σ e1 Dn k1 p2
/-- a value dropped -/
def mDrop (f : ME) : MS := fun env => f env >>= fun z => .ok (.nx, z.2)
theorem good_drop {t : TE} {f : ME} (h : GoodE g W t f) : GoodS g W (tDrop t) (mDrop f) := fun F H σ env Dn k p =>
  h F H σ env _ k (PostS.bindE p fun r e1 F1 H1 v x1 k1 kp1 rv p1 => p1 F1 H1 σ x1 k1 kp1)

/-! ### targets -/
abbrev MG := Rv → Env → Res (Fl × Env)
/-- told from the start: the value was made since -/
def GoodG (g : G) (W : WX) (t : TG) (m : MG) : Prop := ∀ F0 H0 σ0 env0 F H σ env v r (Dn : Ends), Ext F0 H0 (Own σ0 env0) F H (Own σ env) → EnvOk g F H σ env → Keep σ0 env0 σ env → RvOk g H0 F H σ env v r → PostS g W F0 H0 σ0 env0 Dn (m r env) → t v σ H Dn.nx
structure DG (X : Cx) (W : WX) (e : Expr) (m : MG) : Prop where
  ex : ∃ t, PG X e t ∧ GoodG ⟨X.K, X.mg⟩ W t m
def free (env : Env) (i : Nat) : Bool := match env[i]? with
  | some .no => true
  | some (.fz _) => true
  | some (.ow .fr _) => true
  | _ => false
def storeR (i : Nat) (r : Rv) (env : Env) : Res (Fl × Env) :=
  if free env i = true then
    match r with
    | .val d => .ok (.nx, env.set i (.fz d))
    | .new d => .ok (.nx, env.set i (.ow .fr d))
    | .sl j => if j = i then .ok (.nx, env) else (Rv.sl j).frz env >>= fun z => .ok (.nx, z.2.set i (.fz z.1))
  else .stuck
def mName (i : Nat) : MG := fun r env => storeR i r env
theorem free_lt {env : Env} {i : Nat} (h : free env i = true) : i < env.length := by
  unfold free at h
  split at h <;> first | exact lt_of_get (by assumption) | cases h
theorem free_keep {env : Env} {i j : Nat} {k : Kd} {d : D} (h : free env i = true) (e : env[j]? = some (.ow k d)) (n : k ≠ .fr) : i ≠ j := by
  intro z; subst z
  unfold free at h
  rw [e] at h
  cases k with
  | fr => exact n rfl
  | lk => cases h
  | pn => cases h
theorem adr_set {σ : St} {env : Env} {i j : Nat} {v : V} {s : Sl} {a : Addr} (h : Adr (σ.set i (some v)) (env.set i s) j a) : (j = i ∧ (∃ k d, s = .ow k d) ∧ v = .ref a) ∨ (j ≠ i ∧ Adr σ env j a) := by
  obtain ⟨⟨k, d, h1⟩, h2⟩ := h
  rcases get_set h1 with ⟨e, h3, _⟩ | ⟨e, h3⟩
  · subst e
    rcases get_set h2 with ⟨_, h4, _⟩ | ⟨e, _⟩
    · exact .inl ⟨rfl, ⟨k, d, h3.symm⟩, by cases h4; rfl⟩
    · exact absurd rfl e
  · rcases get_set h2 with ⟨e', _, _⟩ | ⟨_, h4⟩
    · exact absurd e' e
    · exact .inr ⟨Ne.symm e, ⟨k, d, h3⟩, h4⟩
theorem EnvOk.store {F H : Hp} {σ : St} {env : Env} {i : Nat} {v : V} {s : Sl} (k : EnvOk g F H σ env) (hi : i < env.length) (hs : SlOk g F H (some v) s) (hn : ∀ a, v = .ref a → (∃ kd d, s = .ow kd d) → ∀ j, j ≠ i → ¬ Adr σ env j a) : EnvOk g F H (σ.set i (some v)) (env.set i s) := by
  refine ⟨by simpa using k.len, k.sub, fun j t e => ?_, fun j1 j2 a h1 h2 => ?_⟩
  · rcases get_set e with ⟨e1, e2, _⟩ | ⟨e1, e2⟩
    · subst e1; subst e2
      exact ⟨some v, List.getElem?_set_self (by rw [k.len]; exact hi), hs⟩
    · obtain ⟨o, h1, h2⟩ := k.sl j t e2
      exact ⟨o, by rw [List.getElem?_set_ne e1]; exact h1, h2⟩
  · rcases adr_set h1 with ⟨e1, w1, v1⟩ | ⟨e1, a1⟩
    · rcases adr_set h2 with ⟨e2, _, _⟩ | ⟨e2, a2⟩
      · rw [e1, e2]
      · exact absurd a2 (hn a v1 w1 j2 e2)
    · rcases adr_set h2 with ⟨e2, w2, v2⟩ | ⟨e2, a2⟩
      · exact absurd a1 (hn a v2 w2 j1 e1)
      · exact k.dis j1 j2 a a1 a2
theorem keep_set {σ : St} {env : Env} {i : Nat} {v : V} {s : Sl} (h : free env i = true) : Keep σ env (σ.set i (some v)) (env.set i s) := fun j k d e n => by
  have hij := free_keep h e n
  exact ⟨List.getElem?_set_ne hij, d, by rw [List.getElem?_set_ne hij]; exact e, fun _ => rfl⟩
theorem free_frz {env e1 : Env} {i j : Nat} {d : D} (h : free env i = true) (q : (Rv.sl j).frz env = .ok (d, e1)) : free e1 i = true := by
  unfold Rv.frz at q
  simp only at q
  split at q
  · cases q; exact h
  · rename_i d' q'
    cases q
    by_cases e : j = i
    · subst e
      unfold free
      rw [List.getElem?_set_self (lt_of_get q')]
    · unfold free at h ⊢
      rw [List.getElem?_set_ne e]; exact h
  · cases q
theorem set_same {σ : St} {i : Nat} {v : V} (h : σ[i]? = some (some v)) : σ.set i (some v) = σ := by
  apply List.ext_getElem?
  intro j
  by_cases e : i = j
  · subst e; rw [List.getElem?_set_self (lt_of_get h), h]
  · rw [List.getElem?_set_ne e]
theorem good_name {i : Nat} : GoodG g W (gName i) (mName i) := fun F0 H0 σ0 env0 F H σ env v r Dn x k kp rv p => by
  unfold mName storeR at p
  by_cases hf : free env i = true
  · rw [if_pos hf] at p
    have hl := free_lt hf
    cases r with
    | val d =>
      have ks := k.store (v := v) (s := .fz d) hl ⟨v, rfl, rv⟩ fun _ _ ⟨kd, d2, z⟩ => nomatch z
      refine p F H (σ.set i (some v)) ⟨x.sub, x.keep, x.dom, x.new, fun b ⟨j, hb⟩ => ?_⟩ ks (kp.trans (keep_set hf))
      rcases adr_set hb with ⟨_, ⟨_, _, z⟩, _⟩ | ⟨_, a1⟩
      · cases z
      · exact x.own b ⟨j, a1⟩
    | new d =>
      obtain ⟨a, e, h0, hF, hO, w⟩ := rv
      have ks := k.store (v := v) (s := .ow .fr d) hl ⟨a, by rw [e], hF, w⟩ fun b e' _ j _ hb => by
        rw [e] at e'; cases e'; exact hO ⟨j, hb⟩
      refine p F H (σ.set i (some v)) ⟨x.sub, x.keep, x.dom, x.new, fun b ⟨j, hb⟩ => ?_⟩ ks (kp.trans (keep_set hf))
      rcases adr_set hb with ⟨_, _, z⟩ | ⟨_, a1⟩
      · rw [e] at z; cases z; exact .inl h0
      · exact x.own b ⟨j, a1⟩
    | sl j =>
      by_cases e : j = i
      · simp only [if_pos e] at p
        subst e
        have rv : σ[j]? = some (some v) := rv
        have := p F H σ x k kp
        show Dn.nx (σ.set j (some v)) H
        rw [set_same rv]; exact this
      · simp only [if_neg e] at p
        rcases frz_cases (.sl j) env with ⟨d, e1, q⟩ | q
        · simp only [q, Res.ok_bind] at p
          obtain ⟨F2, x2, k2, kp2, hd⟩ := RvOk.frz rv x k q
          have hf2 := free_frz hf q
          have ks := k2.store (v := v) (s := .fz d) (free_lt hf2) ⟨v, rfl, hd⟩ fun _ _ ⟨kd, d2, z⟩ => nomatch z
          refine p F2 H (σ.set i (some v)) ⟨x2.sub, x2.keep, x2.dom, x2.new, fun b ⟨j, hb⟩ => ?_⟩ ks ((kp.trans kp2).trans (keep_set hf2))
          rcases adr_set hb with ⟨_, ⟨_, _, z⟩, _⟩ | ⟨_, a1⟩
          · cases z
          · exact x2.own b ⟨j, a1⟩
        · simp only [q, Res.stuck_bind] at p; exact p.elim
  · rw [if_neg hf] at p; exact p.elim
/-- several targets, data that stands still -/
inductive AllG (g : G) (W : WX) : TGs → List MG → Prop
  | nil : AllG g W gNil []
  | cons {t : TG} {u : TGs} {m : MG} {ms : List MG} : GoodG g W t m → AllG g W u ms → AllG g W (gCons t u) (m :: ms)
def asgAll : List MG → List D → Env → Res (Fl × Env)
  | [], [], env => .ok (.nx, env)
  | m :: ms, d :: ds, env => m (.val d) env >>= fun z => match z.1 with | .nx => asgAll ms ds z.2 | _ => .stuck
  | _, _, _ => .stuck
theorem AllG.run {u : TGs} {ms : List MG} (h : AllG g W u ms) : ∀ F H σ env vs ds (Dn : Ends), EnvOk g F H σ env → DenL g F vs ds → PostS g W F H σ env Dn (asgAll ms ds env) → u vs σ H Dn.nx := by
  induction h with
  | nil =>
    intro F H σ env vs ds Dn k hd p
    cases hd with
    | nil => exact ⟨rfl, p F H σ .refl k .refl⟩
    | cons => exact p.elim
  | @cons t u m ms hm hr ih =>
    intro F H σ env vs ds Dn k hd p
    cases hd with
    | nil => exact p.elim
    | @cons v vs d ds h1 h2 =>
      refine ⟨v, vs, rfl, ?_⟩
      have p' : PostS g W F H σ env Dn (m (.val d) env >>= fun z => match z.1 with | .nx => asgAll ms ds z.2 | _ => .stuck) := p
      refine hm F H σ env F H σ env v (.val d) { Dn with nx := fun σ' H' => u vs σ' H' Dn.nx } .refl k .refl h1 ?_
      cases q : m (.val d) env with
      | ok z =>
        obtain ⟨f, e1⟩ := z
        rw [q] at p'
        cases f with
        | nx => exact fun F1 H1 σ1 x1 k1 kp1 => ih F1 H1 σ1 e1 vs ds Dn k1 (h2.mono x1.sub) (PostS.after x1 kp1 p')
        | _ => exact p'.elim
      | ex c d e => rw [q] at p'; exact p'
      | stuck => rw [q] at p'; exact p'
def mTupG (ms : List MG) : MG := fun r env => r.data env >>= fun d => match d with
  | .tuple ds => if ds.length = ms.length then asgAll ms ds env else .stuck
  | _ => .stuck
theorem good_tupG {u : TGs} {ms : List MG} {n : Nat} (h : AllG g W u ms) (hn : ms.length = n) : GoodG g W (gTup g.K n u) (mTupG ms) := fun F0 H0 σ0 env0 F H σ env v r Dn x k kp rv p => by
  unfold mTupG at p
  rcases data_cases r env with ⟨d, q⟩ | q
  · have pk := RvOk.pk rv k q
    simp only [q, Res.ok_bind] at p
    cases d with
    | tuple ds =>
      obtain ⟨a, xs, e, hq, hd⟩ := pk.tup k.sub
      by_cases hl : ds.length = ms.length
      · simp only [hl, if_true] at p
        exact ⟨a, xs, e, hq, by rw [hd.length, hl, hn], h.run F H σ env xs ds Dn k hd (PostS.after x kp p)⟩
      · simp only [hl, if_false] at p; exact p.elim
    | _ => exact p.elim
  · simp only [q, Res.stuck_bind] at p; exact p.elim
structure DGs (X : Cx) (W : WX) (es : List Expr) (ms : List MG) : Prop where
  ex : ∃ t, PGs X es t ∧ AllG ⟨X.K, X.mg⟩ W t ms
def mAsg (f : ME) (m : MG) : MS := fun env => f env >>= fun z => m z.1 z.2
theorem good_asg {t : TE} {u : TG} {f : ME} {m : MG} (h : GoodE g W t f) (hg : GoodG g W u m) : GoodS g W (tAsg t u) (mAsg f m) := fun F H σ env Dn k p =>
  h F H σ env _ k (PostS.bindE p fun r e1 F1 H1 v x1 k1 kp1 rv p1 => hg F H σ env F1 H1 σ e1 v r Dn x1 k1 kp1 rv p1)

section
variable {X : Cx} {pos : Pos} {st : Stmt} {rest : List Stmt} {m n : MS} {e c : Expr} {f : ME} {q : MT} {a b : List Stmt}
theorem dss_nil : DSs X W [] mPass := ⟨_, pss_nil, good_pass⟩
theorem dss_cons (h : DS X W st m) (hr : DSs X W rest n) : DSs X W (st :: rest) (mSeq m n) := by
  obtain ⟨t, p, q⟩ := h
  obtain ⟨u, p2, q2⟩ := hr
  exact ⟨_, pss_cons p p2, good_seq q q2⟩
theorem dss_one (h : DS X W st m) : DSs X W [st] m := by
  obtain ⟨t, p, q⟩ := h
  exact ⟨_, pss_one p, q⟩
theorem ds_pass : DS X W (.Pass pos) mPass := ⟨_, ps_pass, good_pass⟩
theorem ds_break : DS X W (.Break pos) mBreak := ⟨_, ps_break, good_break⟩
theorem ds_cont : DS X W (.Continue pos) mCont := ⟨_, ps_continue, good_cont⟩
theorem ds_ret (h : DE X W e f) : DS X W (.Return (some e) pos) (mRet f) := by
  obtain ⟨t, p, q⟩ := h
  exact ⟨_, ps_ret p, good_ret q⟩
theorem ds_retN : DS X W (.Return none pos) mRetN := ⟨_, ps_retN, good_retN⟩
theorem ds_expr (h : DE X W e f) (hs : swapsWith e none pos.line X.env = pure false := by rfl) : DS X W (.Expr e pos) (mDrop f) := by
  obtain ⟨t, p, q⟩ := h
  exact ⟨_, ps_expr p hs, good_drop q⟩
theorem ds_if (hc : DT X W c q) (ha : DSs X W a m) (hb : DSs X W b n) : DS X W (.If c a b pos) (mIfS q m n) := by
  obtain ⟨t, pc, gc⟩ := hc
  obtain ⟨ta, pa, ga⟩ := ha
  obtain ⟨tb, pb, gb⟩ := hb
  exact ⟨_, ps_if pc pa pb, good_ifS gc ga gb⟩
theorem dg_name {i : Nat} {x : Str} (hN : X.N.Nodup) (hi : X.N[i]? = some x) (hx : Loc X.env.scope x) (hf : X.fn x = true ∨ X.env.scope.names.lookup x = some .local := by first | exact .inl rfl | exact .inr rfl | assumption) : DG X W (.Name x pos) (mName i) :=
  ⟨_, pg_name hN hi hx hf, good_name⟩
theorem dgs_nil : DGs X W [] [] := ⟨_, pgs_nil, .nil⟩
theorem dgs_cons {es : List Expr} {m : MG} {ms : List MG} (h : DG X W e m) (hr : DGs X W es ms) (hs : (assignEach (e :: es) X.env).map (·.2) = assign e X.env :: (assignEach es X.env).map (·.2) := by rfl) : DGs X W (e :: es) (m :: ms) := by
  obtain ⟨t, p, q⟩ := h
  obtain ⟨u, p2, q2⟩ := hr
  exact ⟨_, pgs_cons p p2 hs, .cons q q2⟩
theorem dg_tup {es : List Expr} {k : Nat} {ms : List MG} (hc : X.calm = true) (h : DGs X W es ms) (hn : (assignEach es X.env).length = ms.length := by rfl) (hst : (assignEach es X.env).findIdx? (·.1) = none := by rfl) : DG X W (.Tuple es k pos) (mTupG ms) := by
  obtain ⟨t, p, q⟩ := h
  exact ⟨_, pg_tup hc p hn hst, good_tupG q rfl⟩
theorem ds_set {i : Nat} {x : Str} {pos' : Pos} (hN : X.N.Nodup) (hi : X.N[i]? = some x) (hx : Loc X.env.scope x) (he : DE X W e f) (hs : swapsWith e (some (.Name x pos')) pos.line X.env = pure false := by rfl) (hf : X.fn x = true ∨ X.env.scope.names.lookup x = some .local := by first | exact .inl rfl | exact .inr rfl | assumption) :
    DS X W (.Assign [.Name x pos'] e pos) (mAsg f (mName i)) := by
  obtain ⟨t, p, q⟩ := he
  exact ⟨_, ps_set hN hi hx p hs hf, good_asg q good_name⟩
theorem ds_asg {tg : Expr} {m : MG} (he : DE X W e f) (hg : DG X W tg m) (hs : swapsWithSole [tg] e pos.line X.env = pure false := by rfl) (hw : swappedStores [tg] e X.env = pure none := by rfl)
    (h1 : (assignEach [tg] X.env).map (·.2) = [assign tg X.env] := by rfl) : DS X W (.Assign [tg] e pos) (mAsg f m) := by
  obtain ⟨t, p, q⟩ := he
  obtain ⟨u, p2, q2⟩ := hg
  exact ⟨_, ps_asg p p2 hs hw h1, good_asg q q2⟩
end
end DL
namespace DL
open PySem PySem.Spec L2
variable {g : G} {W : WX}

/-! ### while -/
/-- behind a turn -/
def turnEnd (k : MS) : Fl × Env → Res (Fl × Env)
  | (.nx, e) => k e
  | (.ct, e) => k e
  | (.bk, e) => .ok (.nx, e)
  | (.rt r, e) => .ok (.rt r, e)
def whileN (c : MT) (b : MS) : Nat → MS
  | 0, _ => .stuck
  | n + 1, env => c env >>= fun z => if z.1 = true then b z.2 >>= turnEnd (whileN c b n) else .ok (.nx, z.2)
theorem turnEnd_mono {k k' : MS} (h : ∀ e, k e ≠ .stuck → k' e = k e) : ∀ z, turnEnd k z ≠ .stuck → turnEnd k' z = turnEnd k z
  | (.nx, e), n => h e n
  | (.ct, e), n => h e n
  | (.bk, _), _ => rfl
  | (.rt _, _), _ => rfl
theorem bind_mono {α β : Type} {m : Res α} {k k' : α → Res β} (h : ∀ a, k a ≠ .stuck → k' a = k a) (n : (m >>= k) ≠ .stuck) : (m >>= k') = (m >>= k) := by
  cases m with
  | ok a => exact h a n
  | ex c d e => rfl
  | stuck => rfl
theorem whileN_succ {c : MT} {b : MS} : ∀ (n : Nat) (env : Env), whileN c b n env ≠ .stuck → whileN c b (n + 1) env = whileN c b n env
  | 0, env, h => absurd rfl h
  | n + 1, env, h => by
    show (c env >>= fun z => if z.1 = true then b z.2 >>= turnEnd (whileN c b (n + 1)) else .ok (.nx, z.2)) = (c env >>= fun z => if z.1 = true then b z.2 >>= turnEnd (whileN c b n) else .ok (.nx, z.2))
    refine bind_mono (fun z hz => ?_) h
    by_cases e : z.1 = true
    · simp only [if_pos e] at hz ⊢
      exact bind_mono (turnEnd_mono fun e he => whileN_succ n e he) hz
    · simp only [if_neg e]
theorem whileN_le {c : MT} {b : MS} {n m : Nat} {env : Env} (h : n ≤ m) (s : whileN c b n env ≠ .stuck) : whileN c b m env = whileN c b n env := by
  induction h with
  | refl => rfl
  | @step m _ ih => rw [whileN_succ m env (by rw [ih]; exact s), ih]
open Classical in
noncomputable def mWhile (c : MT) (b : MS) : MS := fun env => if h : ∃ n, whileN c b n env ≠ .stuck then whileN c b (Classical.choose h) env else .stuck
theorem mWhile_of {c : MT} {b : MS} {n : Nat} {env : Env} {r : Res (Fl × Env)} (h : whileN c b n env = r) (s : r ≠ .stuck) : mWhile c b env = r := by
  have ex : ∃ n, whileN c b n env ≠ .stuck := ⟨n, by rw [h]; exact s⟩
  unfold mWhile
  rw [dif_pos ex]
  have q := Classical.choose_spec ex
  rcases Nat.le_total n (Classical.choose ex) with l | l
  · rw [whileN_le l (by rw [h]; exact s), h]
  · rw [← h, whileN_le l q]
theorem mWhile_ex {c : MT} {b : MS} {env : Env} (s : mWhile c b env ≠ .stuck) : ∃ n, whileN c b n env = mWhile c b env := by
  unfold mWhile at s ⊢
  by_cases ex : ∃ n, whileN c b n env ≠ .stuck
  · rw [dif_pos ex]; exact ⟨_, rfl⟩
  · rw [dif_neg ex] at s; exact absurd rfl s
theorem PostS.stuck_ne {F H : Hp} {σ : St} {env : Env} {Dn : Ends} {m : Res (Fl × Env)} (h : PostS g W F H σ env Dn m) : m ≠ .stuck := fun e => by subst e; exact h
theorem PostS.turn {F H : Hp} {σ : St} {env : Env} {Dn : Ends} {N : St → Hp → Prop} {m : Res (Fl × Env)} {k : MS} (h : PostS g W F H σ env Dn (m >>= turnEnd k))
    (hk : ∀ e1 F1 H1 σ1, Ext F H (Own σ env) F1 H1 (Own σ1 e1) → EnvOk g F1 H1 σ1 e1 → Keep σ env σ1 e1 → PostS g W F H σ env Dn (k e1) → N σ1 H1) : PostS g W F H σ env { Dn with nx := N, ct := N, bk := Dn.nx } m := by
  cases m with
  | ok p =>
    obtain ⟨f, e1⟩ := p
    cases f with
    | nx => exact fun F' H' σ' x ok kp => hk e1 F' H' σ' x ok kp h
    | ct => exact fun F' H' σ' x ok kp => hk e1 F' H' σ' x ok kp h
    | bk => exact h
    | rt r => exact h
  | ex c d e => exact h
  | stuck => exact h
theorem good_while {c : TT} {tb : TS} {mc : MT} {b : MS} (hc : GoodT g W c mc) (hb : GoodS g W tb b) : GoodS g W (tWhile c tb) (mWhile mc b) := fun F H σ env Dn k p => by
  obtain ⟨n, hn⟩ := mWhile_ex p.stuck_ne
  rw [← hn] at p
  refine ⟨fun m σ H => ∃ F env, EnvOk g F H σ env ∧ PostS g W F H σ env Dn (whileN mc b m env), ⟨n, F, env, k, p⟩, ?_⟩
  rintro m σ H ⟨F, env, k, p⟩
  cases m with
  | zero => exact p.elim
  | succ m =>
    refine hc F H σ env _ k (PostS.bindE p fun r e1 F1 H1 v x1 k1 kp1 rv p1 => ?_)
    have rv : v = r := rv
    subst rv
    have p2 := PostS.after x1 kp1 p1
    cases v with
    | true =>
      rw [if_pos rfl]
      refine ⟨fun σ' H' => ∃ F env, EnvOk g F H' σ' env ∧ PostS g W F H' σ' env Dn (whileN mc b m env), fun σ' H' h => ⟨m, Nat.lt_succ_self _, h⟩, ?_⟩
      exact hb F1 H1 σ e1 _ k1 (PostS.turn p2 fun e2 F2 H2 σ2 x2 k2 kp2 p3 => ⟨F2, e2, k2, PostS.after x2 kp2 p3⟩)
    | false => rw [if_neg Bool.false_ne_true]; exact p2 F1 H1 σ .refl k1 .refl
theorem ds_while {X : Cx} {c : Expr} {body : List Stmt} {pos : Pos} {mc : MT} {b : MS} (hp : PassesOwn (model X.prog X.w) X.A X.env X.xe) (hc : DT X W c mc) (hb : DSs X W body b) : DS X W (.While c body [] pos) (mWhile mc b) := by
  obtain ⟨t, pt, gt⟩ := hc
  obtain ⟨u, pu, gu⟩ := hb
  exact ⟨_, ps_while hp pt pu, good_while gt gu⟩

/-! ### for -/
/-- J gives the items ds, whatever comes, as long as what is walked stands -/
def IterOk (g : G) (J : It) (ds : List D) (F H : Hp) (σ : St) (env : Env) : Prop := ∀ (i : Nat) (F2 H2 : Hp) (σ2 : St) (env2 : Env), Ext F H (Own σ env) F2 H2 (Own σ2 env2) → Keep σ env σ2 env2 → EnvOk g F2 H2 σ2 env2 →
  (∀ d, ds[i]? = some d → J.go i H2 ∧ ∀ x H3, J.yld i H2 x H3 → ∃ F3, Grow F2 H2 F3 H3 ∧ Den g F3 x d) ∧ (i = ds.length → J.stop i H2)
abbrev MI := Env → Res ((List D × Option Nat) × Env)
def RI (g : G) : RelB It (List D × Option Nat) := fun _ F H σ env J r => IterOk g J r.1 F H σ env
theorem RI.early : Early (RI g) := ⟨fun _ _ _ _ _ _ _ _ _ h => h⟩
def unlock : Option Nat → Env → Env
  | none, e => e
  | some j, e => match e[j]? with
    | some (.ow .lk d) => e.set j (.ow .fr d)
    | _ => e
theorem unlock_adr {o : Option Nat} {σ : St} {env : Env} {i : Nat} {a : Addr} : Adr σ (unlock o env) i a ↔ Adr σ env i a := by
  cases o with
  | none => exact Iff.rfl
  | some j =>
    unfold unlock
    simp only
    split
    · rename_i d q
      constructor
      · rintro ⟨⟨k, d2, h1⟩, h2⟩
        rcases get_set h1 with ⟨e, _, _⟩ | ⟨_, h3⟩
        · subst e; exact ⟨⟨_, _, q⟩, h2⟩
        · exact ⟨⟨k, d2, h3⟩, h2⟩
      · rintro ⟨⟨k, d2, h1⟩, h2⟩
        by_cases e : j = i
        · subst e; exact ⟨⟨.fr, d, List.getElem?_set_self (lt_of_get q)⟩, h2⟩
        · exact ⟨⟨k, d2, by rw [List.getElem?_set_ne e]; exact h1⟩, h2⟩
    · exact Iff.rfl
theorem unlock_own {o : Option Nat} {σ : St} {env : Env} : Own σ (unlock o env) = Own σ env := by
  funext a
  exact propext ⟨fun ⟨i, h⟩ => ⟨i, unlock_adr.mp h⟩, fun ⟨i, h⟩ => ⟨i, unlock_adr.mpr h⟩⟩
theorem unlock_ok {o : Option Nat} {F H : Hp} {σ : St} {env : Env} (k : EnvOk g F H σ env) : EnvOk g F H σ (unlock o env) := by
  refine ⟨?_, k.sub, fun i s e => ?_, fun i j a h1 h2 => k.dis i j a (unlock_adr.mp h1) (unlock_adr.mp h2)⟩
  · rw [k.len]
    cases o with
    | none => rfl
    | some j => unfold unlock; simp only; split <;> simp
  · cases o with
    | none => exact k.sl i s e
    | some j =>
      unfold unlock at e
      simp only at e
      split at e
      · rename_i d q
        rcases get_set e with ⟨e1, e2, _⟩ | ⟨_, e2⟩
        · subst e1; subst e2
          obtain ⟨o', h1, h2⟩ := k.sl j _ q
          exact ⟨o', h1, h2⟩
        · exact k.sl i s e2
      · exact k.sl i s e
theorem unlock_rv {o : Option Nat} {H0 F H : Hp} {σ : St} {env : Env} {v : V} {r : Rv} (h : RvOk g H0 F H σ env v r) : RvOk g H0 F H σ (unlock o env) v r := by
  cases r with
  | val d => exact h
  | sl i => exact h
  | new d =>
    obtain ⟨a, h1, h2, h3, h4, h5⟩ := h
    exact ⟨a, h1, h2, h3, by rw [unlock_own]; exact h4, h5⟩
/-- the one that was locked was free ahead -/
def LockOk (o : Option Nat) (env : Env) : Prop := ∀ j, o = some j → ∀ k d, env[j]? = some (.ow k d) → k = .fr
theorem unlock_keep {o : Option Nat} {σ0 σ : St} {env0 env : Env} (h : Keep σ0 env0 σ env) (l : LockOk o env0) : Keep σ0 env0 σ (unlock o env) := fun i k d e n => by
  obtain ⟨h1, d', h2, h3⟩ := h i k d e n
  refine ⟨h1, d', ?_, h3⟩
  cases o with
  | none => exact h2
  | some j =>
    unfold unlock
    simp only
    split
    · have ne : j ≠ i := fun z => by subst z; exact n (l j rfl k d e)
      rw [List.getElem?_set_ne ne]; exact h2
    · exact h2
def unl (o : Option Nat) : Res (Fl × Env) → Res (Fl × Env)
  | .ok (f, e) => .ok (f, unlock o e)
  | .ex c d e => .ex c d (unlock o e)
  | .stuck => .stuck
def mForL (gm : MG) (b : MS) : List D → MS
  | [], env => .ok (.nx, env)
  | d :: ds, env => gm (.val d) env >>= fun z => match z.1 with
    | .nx => b z.2 >>= turnEnd (mForL gm b ds)
    | _ => .stuck
def lockB (o : Option Nat) (env : Env) : Bool := match o with
  | none => true
  | some j => match env[j]? with
    | some (.ow .fr _) => true
    | some (.ow _ _) => false
    | _ => true
theorem lockB_ok {o : Option Nat} {env : Env} (h : lockB o env = true) : LockOk o env := fun j e k d q => by
  subst e
  unfold lockB at h
  simp only [q] at h
  cases k with
  | fr => rfl
  | lk => cases h
  | pn => cases h
def mFor (mi : MI) (gm : MG) (b : MS) : MS := fun env => mi env >>= fun z => if lockB z.1.2 env = true then unl z.1.2 (mForL gm b z.1.1 z.2) else .stuck
abbrev GoodI (g : G) (W : WX) (t : TI) (m : MI) : Prop := Good (RI g) g W t m
structure DI (X : Cx) (W : WX) (tg e : Expr) (m : MI) : Prop where
  ex : ∃ t, PI X tg e t ∧ GoodI ⟨X.K, X.mg⟩ W t m
/-- told from the start, behind the unlocking -/
theorem PostS.unl_end {F H F1 H1 : Hp} {σ σ1 : St} {env e1 : Env} {o : Option Nat} {Dn : Ends} {f : Fl} (l : LockOk o env) (h : PostS g W F H σ env Dn (unl o (.ok (f, e1)))) (x : Ext F H (Own σ env) F1 H1 (Own σ1 e1)) (ok : EnvOk g F1 H1 σ1 e1) (kp : Keep σ env σ1 e1) : EndOk g H F1 H1 σ1 e1 Dn f := by
  have q := h F1 H1 σ1 (by rw [unlock_own]; exact x) (unlock_ok ok) (unlock_keep kp l)
  cases f with
  | nx => exact q
  | bk => exact q
  | ct => exact q
  | rt r => exact fun v rv => q v (unlock_rv rv)
theorem PostS.unl_ex {F H F1 H1 : Hp} {σ σ1 : St} {env e1 : Env} {o : Option Nat} {Dn : Ends} {c : Str} {d : D} {dd C : Addr} {v : V} (l : LockOk o env) (h : PostS g W F H σ env Dn (unl o (.ex c d e1))) (x : Ext F H (Own σ env) F1 H1 (Own σ1 e1)) (ok : EnvOk g F1 H1 σ1 e1) (kp : Keep σ env σ1 e1)
    (h1 : g.mg c = some (.ref C)) (h2 : F1 dd = some (.xd [(("value" : Str), v)])) (h3 : Den g F1 v d) : W (.ref C) (some dd) σ1 H1 :=
  h F1 H1 σ1 dd C v (by rw [unlock_own]; exact x) (unlock_ok ok) (unlock_keep kp l) h1 h2 h3
theorem good_for {wi : TI} {t : TG} {tb : TS} {mi : MI} {gm : MG} {b : MS} (hi : GoodI g W wi mi) (hg : GoodG g W t gm) (hb : GoodS g W tb b) : GoodS g W (tFor wi t tb) (mFor mi gm b) := fun F H σ env Dn k p => by
  cases hmi : mi env with
  | stuck => exact (hi F H σ env _ k (by unfold mFor at p; rw [hmi] at p ⊢; exact p.elim))
  | ex c d e => exact (hi F H σ env _ k (by unfold mFor at p; rw [hmi] at p ⊢; exact fun F' H' dd C v => p F' H' σ dd C v))
  | ok z =>
    obtain ⟨⟨ds, o⟩, e1⟩ := z
    unfold mFor at p
    rw [hmi] at p
    by_cases hlo : lockB o env = true
    rotate_left
    · simp only [Res.ok_bind, hlo, if_false] at p; exact p.elim
    have lo : LockOk o env := lockB_ok hlo
    simp only [Res.ok_bind, hlo, if_true] at p
    refine hi F H σ env _ k ?_
    rw [hmi]
    intro F1 H1 J x1 k1 kp1 it
    have it : IterOk g J ds F1 H1 σ e1 := it
    have p : PostS g W F H σ env Dn (unl o (mForL gm b ds e1)) := p
    refine ⟨fun i m σ2 H2 => ∃ F2 env2, Ext F1 H1 (Own σ e1) F2 H2 (Own σ2 env2) ∧ Keep σ e1 σ2 env2 ∧ EnvOk g F2 H2 σ2 env2 ∧ m = ds.length - i ∧ i ≤ ds.length ∧ PostS g W F H σ env Dn (unl o (mForL gm b (ds.drop i) env2)), ⟨ds.length, F1, e1, .refl, .refl, k1, rfl, Nat.zero_le _, p⟩, ?_⟩
    rintro i m σ2 H2 ⟨F2, env2, x2, kp2, k2, rfl, hle, p2⟩
    obtain ⟨itg, its⟩ := it i F2 H2 σ2 env2 x2 kp2 k2
    by_cases hl : i < ds.length
    · obtain ⟨d, hd⟩ : ∃ d, ds[i]? = some d := ⟨ds[i], by simp [hl]⟩
      obtain ⟨hgo, hy⟩ := itg d hd
      refine .inr ⟨hgo, fun σ' H' => ∃ F2 env2, Ext F1 H1 (Own σ e1) F2 H' (Own σ' env2) ∧ Keep σ e1 σ' env2 ∧ EnvOk g F2 H' σ' env2 ∧ PostS g W F H σ env Dn (unl o (mForL gm b (ds.drop (i + 1)) env2)),
        fun σ' H' ⟨F3, e3, a1, a2, a3, a4⟩ => ⟨ds.length - (i + 1), by omega, F3, e3, a1, a2, a3, rfl, hl, a4⟩, fun x H3 y => ?_⟩
      obtain ⟨F3, gr, hden⟩ := hy x H3 y
      have hdrop : ds.drop i = d :: ds.drop (i + 1) := by
        rw [List.drop_eq_getElem_cons hl]
        have : ds[i] = d := by
          have := hd
          rw [List.getElem?_eq_getElem hl] at this
          exact Option.some.inj this
        rw [this]
      rw [hdrop] at p2
      have p2 : PostS g W F H σ env Dn (unl o (gm (.val d) env2 >>= fun z => match z.1 with | .nx => b z.2 >>= turnEnd (mForL gm b (ds.drop (i + 1))) | _ => .stuck)) := p2
      have k3 := k2.grow gr
      have x3 : Ext F1 H1 (Own σ e1) F3 H3 (Own σ2 env2) := x2.trans gr.ext
      refine hg F3 H3 σ2 env2 F3 H3 σ2 env2 x (.val d) { nx := fun σ' H' => tb { Dn with nx := _, ct := _, bk := Dn.nx } σ' H', rt := Dn.rt } .refl k3 .refl hden ?_
      cases hgm : gm (.val d) env2 with
      | stuck => rw [hgm] at p2; exact p2.elim
      | ex c dd e => rw [hgm] at p2; exact fun F' H' σ' dd' C v x' ok' kp' a1 a2 a3 => PostS.unl_ex lo p2 ((x1.trans x3).trans x') ok' ((kp1.trans kp2).trans kp') a1 a2 a3
      | ok z =>
        obtain ⟨f, e3⟩ := z
        rw [hgm] at p2
        cases f with
        | nx =>
          intro F4 H4 σ4 x4 k4 kp4
          have p3 : PostS g W F H σ env Dn (unl o (b e3 >>= turnEnd (mForL gm b (ds.drop (i + 1))))) := p2
          refine hb F4 H4 σ4 e3 _ k4 ?_
          have xs := (x1.trans x3).trans x4
          have ks := (kp1.trans kp2).trans kp4
          cases hbb : b e3 with
          | stuck => rw [hbb] at p3; exact p3.elim
          | ex c dd e => rw [hbb] at p3; exact fun F' H' σ' dd' C v x' ok' kp' a1 a2 a3 => PostS.unl_ex lo p3 (xs.trans x') ok' (ks.trans kp') a1 a2 a3
          | ok y =>
            obtain ⟨f2, e4⟩ := y
            rw [hbb] at p3
            intro F5 H5 σ5 x5 k5 kp5
            cases f2 with
            | nx => exact ⟨F5, e4, (x3.trans x4).trans x5, (kp2.trans kp4).trans kp5, k5, p3⟩
            | ct => exact ⟨F5, e4, (x3.trans x4).trans x5, (kp2.trans kp4).trans kp5, k5, p3⟩
            | bk => exact PostS.unl_end (f := .nx) lo p3 (xs.trans x5) k5 (ks.trans kp5)
            | rt r => exact fun v rv => PostS.unl_end (f := .rt r) lo p3 (xs.trans x5) k5 (ks.trans kp5) v (RvOk.earlier rv xs.dom)
        | _ => exact p2.elim
    · have e : i = ds.length := by omega
      have e0 : ds.drop i = [] := List.drop_eq_nil_of_le (by omega)
      rw [e0] at p2
      exact .inl ⟨its e, PostS.unl_end (f := .nx) lo p2 (x1.trans x2) k2 (kp1.trans kp2)⟩
theorem ds_for {X : Cx} {tg iter : Expr} {body : List Stmt} {pos : Pos} {mi : MI} {gm : MG} {b : MS} (hp : PassesOwn (model X.prog X.w) X.A X.env X.xe) (hc : X.calm = true) (hi : DI X W tg iter mi) (hg : DG X W tg gm) (hb : DSs X W body b)
    (hs : ∀ x, foldedSetIterable iter X.env x = pure x := by intro _; rfl) : DS X W (.For tg iter body [] pos) (mFor mi gm b) := by
  obtain ⟨t, pt, gt⟩ := hi
  obtain ⟨u, pu, gu⟩ := hg
  obtain ⟨v, pv, gv⟩ := hb
  exact ⟨_, ps_for hp hc pt pu pv hs, good_for gt gu gv⟩
end DL
namespace DL
open PySem PySem.Spec L2
variable {g : G} {W : WX}

abbrev WNo : WX := fun _ _ _ _ => False
/-- the target stores within vs alone -/
def Wi (vs : List Nat) (t : TG) : Prop := ∀ x σ H (Q Q' : St → Hp → Prop), t x σ H Q → (∀ σ2 H2, wipe σ2 vs = wipe σ vs → Q σ2 H2 → Q' σ2 H2) → t x σ H Q'
def WiS (vs : List Nat) (t : TGs) : Prop := ∀ xs σ H (Q Q' : St → Hp → Prop), t xs σ H Q → (∀ σ2 H2, wipe σ2 vs = wipe σ vs → Q σ2 H2 → Q' σ2 H2) → t xs σ H Q'
theorem wipe_get (σ : St) (j : Nat) : ∀ vs : List Nat, (wipe σ vs)[j]? = if j ∈ vs ∧ j < σ.length then some none else σ[j]?
  | [] => by simp [wipe]
  | v :: vs => by
    unfold wipe
    by_cases e : v = j
    · subst e
      by_cases hl : v < σ.length
      · rw [List.getElem?_set_self (by rw [wipe_length]; exact hl)]; simp [hl]
      · rw [List.getElem?_eq_none (by rw [List.length_set, wipe_length]; omega)]
        simp [hl]
    · rw [List.getElem?_set_ne e, wipe_get σ j vs]
      have : (j = v ∨ j ∈ vs) ↔ j ∈ vs := ⟨fun h => h.resolve_left (Ne.symm e), .inr⟩
      simp [this]
theorem wipe_set {σ : St} {i : Nat} {x : Option V} {vs : List Nat} (h : i ∈ vs) : wipe (σ.set i x) vs = wipe σ vs := by
  apply List.ext_getElem?
  intro j
  rw [wipe_get, wipe_get]
  by_cases e : j = i
  · subst e
    by_cases hl : j < σ.length
    · simp [h, hl]
    · have h1 : (σ.set j x)[j]? = none := List.getElem?_eq_none (by rw [List.length_set]; omega)
      have h2 : σ[j]? = none := List.getElem?_eq_none (by omega)
      simp [h1, h2]
  · rw [List.length_set, List.getElem?_set_ne (Ne.symm e)]
theorem wipe_wipe {σ : St} {vs : List Nat} : wipe (wipe σ vs) vs = wipe σ vs := by
  apply List.ext_getElem?
  intro j
  rw [wipe_get, wipe_length, wipe_get]
  by_cases e : j ∈ vs ∧ j < σ.length
  · simp [e]
  · simp [e]
theorem wi_name {i : Nat} {vs : List Nat} (h : i ∈ vs) : Wi vs (gName i) := fun x σ H Q Q' q k => k _ _ (wipe_set h) q
theorem wi_nil {vs : List Nat} : WiS vs gNil := fun xs σ H Q Q' q k => ⟨q.1, k _ _ rfl q.2⟩
theorem wi_cons {vs : List Nat} {t : TG} {u : TGs} (h : Wi vs t) (hr : WiS vs u) : WiS vs (gCons t u) := fun xs σ H Q Q' ⟨v, r, e, q⟩ k =>
  ⟨v, r, e, h v σ H _ _ q fun σ2 H2 e2 q2 => hr r σ2 H2 _ _ q2 fun σ3 H3 e3 q3 => k σ3 H3 (e3.trans e2) q3⟩
theorem wi_tup {K : PySem.W.Frag} {n : Nat} {vs : List Nat} {u : TGs} (h : WiS vs u) : Wi vs (gTup K n u) := fun x σ H Q Q' ⟨a, xs, e1, e2, e3, q⟩ k => ⟨a, xs, e1, e2, e3, h xs σ H _ _ q k⟩

def wipeE (env : Env) : List Nat → Env
  | [] => env
  | v :: vs => (wipeE env vs).set v .no
def backE (orig env : Env) : List Nat → Env
  | [] => env
  | v :: vs => (backE orig env vs).set v (orig.getD v .no)
def plainAt (env : Env) (v : Nat) : Bool := match env[v]? with
  | some .no => true
  | some (.fz _) => true
  | _ => false
theorem wipeE_length (env : Env) : ∀ vs : List Nat, (wipeE env vs).length = env.length
  | [] => rfl
  | v :: vs => by unfold wipeE; rw [List.length_set, wipeE_length env vs]
theorem wipeE_get (env : Env) (j : Nat) : ∀ vs : List Nat, (wipeE env vs)[j]? = if j ∈ vs ∧ j < env.length then some .no else env[j]?
  | [] => by simp [wipeE]
  | v :: vs => by
    unfold wipeE
    by_cases e : v = j
    · subst e
      by_cases hl : v < env.length
      · rw [List.getElem?_set_self (by rw [wipeE_length]; exact hl)]; simp [hl]
      · rw [List.getElem?_eq_none (by rw [List.length_set, wipeE_length]; omega)]
        simp [hl]
    · rw [List.getElem?_set_ne e, wipeE_get env j vs]
      have : (j = v ∨ j ∈ vs) ↔ j ∈ vs := ⟨fun h => h.resolve_left (Ne.symm e), .inr⟩
      simp [this]
theorem backE_length (o env : Env) : ∀ vs : List Nat, (backE o env vs).length = env.length
  | [] => rfl
  | v :: vs => by unfold backE; rw [List.length_set, backE_length o env vs]
theorem backE_get (o env : Env) (j : Nat) : ∀ vs : List Nat, (backE o env vs)[j]? = if j ∈ vs ∧ j < env.length then some (o.getD j .no) else env[j]?
  | [] => by simp [backE]
  | v :: vs => by
    unfold backE
    by_cases e : v = j
    · subst e
      by_cases hl : v < env.length
      · rw [List.getElem?_set_self (by rw [backE_length]; exact hl)]; simp [hl]
      · rw [List.getElem?_eq_none (by rw [List.length_set, backE_length]; omega)]
        simp [hl]
    · rw [List.getElem?_set_ne e, backE_get o env j vs]
      have : (j = v ∨ j ∈ vs) ↔ j ∈ vs := ⟨fun h => h.resolve_left (Ne.symm e), .inr⟩
      simp [this]
theorem wipe_adr {σ : St} {env : Env} {vs : List Nat} {i : Nat} {a : Addr} (h : Adr (wipe σ vs) (wipeE env vs) i a) : i ∉ vs ∧ Adr σ env i a := by
  obtain ⟨⟨k, d, h1⟩, h2⟩ := h
  rw [wipeE_get] at h1
  rw [wipe_get] at h2
  by_cases e : i ∈ vs ∧ i < env.length
  · rw [if_pos e] at h1; cases h1
  · rw [if_neg e] at h1
    by_cases e2 : i ∈ vs ∧ i < σ.length
    · rw [if_pos e2] at h2; cases h2
    · rw [if_neg e2] at h2
      exact ⟨fun z => e ⟨z, lt_of_get h1⟩, ⟨k, d, h1⟩, h2⟩
theorem adr_wipe {σ : St} {env : Env} {vs : List Nat} {i : Nat} {a : Addr} (hv : i ∉ vs) (h : Adr σ env i a) : Adr (wipe σ vs) (wipeE env vs) i a := by
  obtain ⟨⟨k, d, h1⟩, h2⟩ := h
  exact ⟨⟨k, d, by rw [wipeE_get, if_neg (fun z => hv z.1)]; exact h1⟩, by rw [wipe_get, if_neg (fun z => hv z.1)]; exact h2⟩
theorem EnvOk.wipe {F H : Hp} {σ : St} {env : Env} {vs : List Nat} (k : EnvOk g F H σ env) : EnvOk g F H (L2.wipe σ vs) (wipeE env vs) := by
  refine ⟨by rw [wipe_length, wipeE_length, k.len], k.sub, fun i s e => ?_, fun i j a h1 h2 => k.dis i j a (wipe_adr h1).2 (wipe_adr h2).2⟩
  rw [wipeE_get] at e
  by_cases h : i ∈ vs ∧ i < env.length
  · rw [if_pos h] at e
    cases e
    exact ⟨none, by rw [wipe_get, if_pos ⟨h.1, by rw [k.len]; exact h.2⟩], trivial⟩
  · rw [if_neg h] at e
    obtain ⟨o, h1, h2⟩ := k.sl i s e
    exact ⟨o, by rw [wipe_get, if_neg (fun z => h ⟨z.1, lt_of_get e⟩)]; exact h1, h2⟩
/-- out of the block: the def's own again -/
theorem back_adr {σ : St} {o env : Env} {vs : List Nat} {i : Nat} {a : Addr} (hp : vs.all (plainAt o) = true) (h : Adr σ (backE o env vs) i a) : Adr (wipe σ vs) (wipeE env vs) i a := by
  obtain ⟨⟨k, d, h1⟩, h2⟩ := h
  rw [backE_get] at h1
  by_cases e : i ∈ vs ∧ i < env.length
  · rw [if_pos e] at h1
    have hp := List.all_eq_true.mp hp i e.1
    unfold plainAt at hp
    rw [List.getD_eq_getElem?_getD] at h1
    cases q : o[i]? with
    | none => rw [q] at h1; simp at h1
    | some s => rw [q] at h1 hp; simp at h1; subst h1; cases hp
  · rw [if_neg e] at h1
    exact adr_wipe (fun z => e ⟨z, lt_of_get h1⟩) ⟨⟨k, d, h1⟩, h2⟩
theorem EnvOk.back {F0 H0 F H : Hp} {σ : St} {o env : Env} {vs : List Nat} (hp : vs.all (plainAt o) = true) (k0 : EnvOk g F0 H0 σ o) (s : Sub F0 F) (k : EnvOk g F H (L2.wipe σ vs) (wipeE env vs)) : EnvOk g F H σ (backE o env vs) := by
  have hl : σ.length = env.length := by have := k.len; rw [wipe_length, wipeE_length] at this; exact this
  refine ⟨by rw [backE_length]; exact hl, k.sub, fun i t e => ?_, fun i j a h1 h2 => k.dis i j a (back_adr hp h1) (back_adr hp h2)⟩
  rw [backE_get] at e
  by_cases h : i ∈ vs ∧ i < env.length
  · rw [if_pos h] at e
    have hp := List.all_eq_true.mp hp i h.1
    unfold plainAt at hp
    have e' := Option.some.inj e
    cases q : o[i]? with
    | none => rw [q] at hp; cases hp
    | some u =>
      rw [List.getD_eq_getElem?_getD, q] at e'
      simp at e'
      subst e'
      obtain ⟨w, h1, h2⟩ := k0.sl i _ q
      refine ⟨w, h1, ?_⟩
      rw [q] at hp
      cases u with
      | no => trivial
      | fz d => obtain ⟨v, h3, h4⟩ := h2; exact ⟨v, h3, h4.mono s⟩
      | ow kd d => cases hp
  · rw [if_neg h] at e
    have hv : i ∉ vs := fun z => h ⟨z, lt_of_get e⟩
    obtain ⟨w, h1, h2⟩ := k.sl i t (by rw [wipeE_get, if_neg (fun z => hv z.1)]; exact e)
    rw [wipe_get, if_neg (fun z => hv z.1)] at h1
    exact ⟨w, h1, h2⟩
/-- something else changes -/
theorem EnvOk.beside {F H : Hp} {σ : St} {env : Env} {a : Addr} {o : HO} (k : EnvOk g F H σ env) (hf : F a = none) (hn : ¬ Own σ env a) : EnvOk g F (upd H a o) σ env := by
  refine ⟨k.len, fun b u e => ?_, fun i s e => ?_, k.dis⟩
  · have hb : b ≠ a := fun z => by subst z; rw [hf] at e; cases e
    rw [upd_ne hb]; exact k.sub b u e
  · obtain ⟨w, h1, h2⟩ := k.sl i s e
    refine ⟨w, h1, ?_⟩
    cases s with
    | no => trivial
    | fz d => exact h2
    | ow kd d =>
      obtain ⟨b, h3, h4, h5⟩ := h2
      have hb : b ≠ a := fun z => hn ⟨i, ⟨kd, d, e⟩, by rw [h1, h3, z]⟩
      exact ⟨b, h3, h4, h5.mono .refl fun u q => by rw [upd_ne hb]; exact q⟩

def bindN {α β : Type} (m : Res α) (k : α → Res β) : Res β := match m with
  | .ok a => k a
  | _ => .stuck
@[simp] theorem bindN_ok {α β : Type} (a : α) (k : α → Res β) : bindN (.ok a) k = k a := rfl
def mLcL (gm : MG) (tt : MT) (f : ME) (vs : List Nat) : List D → List D → Env → Res (List D × Env)
  | [], acc, env => .ok (acc, env)
  | d :: ds, acc, env => bindN (gm (.val d) env) fun z => match z.1 with
    | .nx => bindN (tt z.2) fun y => if y.1 = true then
        bindN (f y.2) fun x => bindN (x.1.frz x.2) fun u => if acc.length < lineM then mLcL gm tt f vs ds (acc ++ [u.1]) (wipeE u.2 vs) else .stuck
      else mLcL gm tt f vs ds acc (wipeE y.2 vs)
    | _ => .stuck
def mLc (mi : MI) (gm : MG) (tt : MT) (f : ME) (vs : List Nat) : ME := fun env => mi env >>= fun z =>
  if vs.all (plainAt z.2) = true ∧ lockB z.1.2 env = true then bindN (mLcL gm tt f vs z.1.1 [] (wipeE z.2 vs)) fun y => .ok (.new (.list y.1), unlock z.1.2 (backE z.2 y.2 vs))
  else .stuck
theorem good_lc {wi : TI} {t : TG} {tt : TT} {te : TE} {mi : MI} {gm : MG} {mt : MT} {f : ME} {vs : List Nat} (hi : GoodI g W wi mi) (hw : Wi vs t) (hg : GoodG g WNo t gm) (ht : GoodT g WNo tt mt) (he : GoodE g WNo te f) : GoodE g W (tLc wi t tt te vs) (mLc mi gm mt f vs) := fun F H σ env Q k p => by
  cases hmi : mi env with
  | stuck => exact (hi F H σ env _ k (by unfold mLc at p; rw [hmi] at p ⊢; exact p.elim))
  | ex c d e => exact (hi F H σ env _ k (by unfold mLc at p; rw [hmi] at p ⊢; exact fun F' H' dd C v => p F' H' dd C v))
  | ok z =>
    obtain ⟨⟨ds, o⟩, e1⟩ := z
    unfold mLc at p
    rw [hmi] at p
    refine hi F H σ env _ k ?_
    rw [hmi]
    intro F1 H1 J x1 k1 kp1 it a ha
    have it : IterOk g J ds F1 H1 σ e1 := it
    by_cases hpl : vs.all (plainAt e1) = true ∧ lockB o env = true
    · have hp := hpl.1
      have lo : LockOk o env := lockB_ok hpl.2
      simp only [Res.ok_bind] at p
      rw [if_pos hpl] at p
      have k1w : EnvOk g F1 H1 (wipe σ vs) (wipeE e1 vs) := k1.wipe
      have own_w : ∀ {e : Env} {b : Addr}, Own (wipe σ vs) (wipeE e vs) b → Own σ e b := fun ⟨i, h⟩ => ⟨i, (wipe_adr h).2⟩
      have fa := k1.fresh ha
      -- what a state within the block is to the def's own
      have outE : ∀ {F2 H2 : Hp} {e2 : Env}, e2 = wipeE e2 vs → Ext F1 H1 (Own (wipe σ vs) (wipeE e1 vs)) F2 H2 (Own (wipe σ vs) e2) → EnvOk g F2 H2 (wipe σ vs) e2 → Keep (wipe σ vs) (wipeE e1 vs) (wipe σ vs) e2 →
          Ext F1 H1 (Own σ e1) F2 H2 (Own σ (backE e1 e2 vs)) ∧ EnvOk g F2 H2 σ (backE e1 e2 vs) ∧ Keep σ e1 σ (backE e1 e2 vs) := fun {F2 H2 e2} hw2 x ok kp => by
        refine ⟨⟨x.sub, fun b u q n => x.keep b u q fun z => n (own_w z), x.dom, fun b q1 q2 => (x.new b q1 q2).imp id own_w, fun b ⟨i, q⟩ => ?_⟩, EnvOk.back hp k1 x.sub (by rw [← hw2]; exact ok), fun i kd d e n => ?_⟩
        · exact (x.own b ⟨i, by rw [hw2]; exact back_adr hp q⟩).imp id own_w
        · have hv : i ∉ vs := fun z => by
            have := List.all_eq_true.mp hp i z
            unfold plainAt at this
            rw [e] at this; cases this
          obtain ⟨q1, d', q2, q3⟩ := kp i kd d (by rw [wipeE_get, if_neg (fun z => hv z.1)]; exact e) n
          exact ⟨rfl, d', by rw [backE_get, if_neg (fun z => hv z.1)]; exact q2, q3⟩
      have wipe_id : ∀ e : Env, wipeE (wipeE e vs) vs = wipeE e vs := fun e => by
        apply List.ext_getElem?
        intro j
        rw [wipeE_get, wipeE_length, wipeE_get]
        by_cases q : j ∈ vs ∧ j < e.length
        · simp [q]
        · simp [q]
      refine ⟨fun i m H2 => ∃ F2 env2 acc vacc, env2 = wipeE env2 vs ∧ Ext F1 H1 (Own (wipe σ vs) (wipeE e1 vs)) F2 H2 (Own (wipe σ vs) env2) ∧ Keep (wipe σ vs) (wipeE e1 vs) (wipe σ vs) env2 ∧ EnvOk g F2 H2 (wipe σ vs) env2 ∧ H2 a = some (.lst vacc) ∧ F2 a = none ∧ ¬ Own (wipe σ vs) env2 a ∧ DenL g F2 vacc acc ∧
        m = ds.length - i ∧ i ≤ ds.length ∧ Post (RE g) g W F H σ env Q (bindN (mLcL gm mt f vs (ds.drop i) acc env2) fun y => .ok (.new (.list y.1), unlock o (backE e1 y.2 vs))),
        ⟨ds.length, F1, wipeE e1 vs, [], [], (wipe_id e1).symm, ?_, .refl, k1w.beside fa.1 (fun z => fa.2 (own_w z)), upd_same, fa.1, fun z => fa.2 (own_w z), .nil, rfl, Nat.zero_le _, p⟩, ?_⟩
      · refine ⟨.refl, fun b u q n => by rw [upd_ne (ne_of_none q ha)]; exact q, fun b q => ?_, fun b q1 q2 => absurd q1 q2, fun b q => .inr q⟩
        by_cases e : b = a
        · subst e; rw [upd_same]; simp
        · rw [upd_ne e]; exact q
      rintro i m H2 ⟨F2, env2, acc, vacc, w2, x2, kp2, k2, hD, hF, hO, hden, rfl, hle, p2⟩
      obtain ⟨x2', k2', kp2'⟩ := outE w2 x2 k2 kp2
      obtain ⟨itg, its⟩ := it i F2 H2 σ _ x2' kp2' k2'
      by_cases hl : i < ds.length
      · obtain ⟨d, hd⟩ : ∃ d, ds[i]? = some d := ⟨ds[i], by simp [hl]⟩
        obtain ⟨hgo, hy⟩ := itg d hd
        have hdrop : ds.drop i = d :: ds.drop (i + 1) := by
          rw [List.drop_eq_getElem_cons hl]
          have : ds[i] = d := by
            have := hd
            rw [List.getElem?_eq_getElem hl] at this
            exact Option.some.inj this
          rw [this]
        rw [hdrop] at p2
        refine .inr ⟨hgo, fun H' => ∃ F2 env2 acc vacc, env2 = wipeE env2 vs ∧ Ext F1 H1 (Own (wipe σ vs) (wipeE e1 vs)) F2 H' (Own (wipe σ vs) env2) ∧ Keep (wipe σ vs) (wipeE e1 vs) (wipe σ vs) env2 ∧ EnvOk g F2 H' (wipe σ vs) env2 ∧ H' a = some (.lst vacc) ∧ F2 a = none ∧ ¬ Own (wipe σ vs) env2 a ∧ DenL g F2 vacc acc ∧
          Post (RE g) g W F H σ env Q (bindN (mLcL gm mt f vs (ds.drop (i + 1)) acc env2) fun y => .ok (.new (.list y.1), unlock o (backE e1 y.2 vs))),
          fun H' ⟨F3, e3, a1, a2, b1, b2, b3, b4, b5, b6, b7, b8, b9⟩ => ⟨ds.length - (i + 1), by omega, F3, e3, a1, a2, b1, b2, b3, b4, b5, b6, b7, b8, rfl, hl, b9⟩, fun x H3 y => ?_⟩
        obtain ⟨F3, gr, hdn⟩ := hy x H3 y
        have k3 := k2.grow gr
        have x3 : Ext F1 H1 (Own (wipe σ vs) (wipeE e1 vs)) F3 H3 (Own (wipe σ vs) env2) := x2.trans gr.ext
        have hD3 : H3 a = some (.lst vacc) := gr.keep _ _ hD
        have hF3 : F3 a = none := by
          cases q : F3 a with
          | none => rfl
          | some u =>
            have := gr.new a hF (by rw [q]; simp)
            rw [hD] at this; cases this
        have stay : ∀ {Fa Ha Fb Hb : Hp} {sa : St} {ea eb : Env}, Ext Fa Ha (Own sa ea) Fb Hb (Own sa eb) → Ha a = some (.lst vacc) → Fa a = none → ¬ Own sa ea a → Hb a = some (.lst vacc) ∧ Fb a = none ∧ ¬ Own sa eb a := fun {Fa Ha Fb Hb sa ea eb} xx h1 h2 h3 => by
          refine ⟨xx.keep _ _ h1 h3, ?_, fun z => ?_⟩
          · cases q : Fb a with
            | none => rfl
            | some u =>
              rcases xx.new a h2 (by rw [q]; simp) with z | z
              · rw [h1] at z; cases z
              · exact absurd z h3
          · rcases xx.own a z with z | z
            · rw [h1] at z; cases z
            · exact h3 z
        cases hgm : gm (.val d) env2 with
        | stuck => unfold mLcL at p2; rw [hgm] at p2; exact p2.elim
        | ex c dd e => unfold mLcL at p2; rw [hgm] at p2; exact p2.elim
        | ok z =>
          obtain ⟨fl, e3⟩ := z
          unfold mLcL at p2
          rw [hgm] at p2
          cases fl with
          | nx =>
            simp only [bindN_ok] at p2
            refine hw x (wipe σ vs) H3 (fun σ2 H2 => wipe σ2 vs = wipe σ vs → tt σ2 H2 _) _ ?_ fun σ2 H2 e q => ⟨e.trans wipe_wipe, q (e.trans wipe_wipe)⟩
            refine hg F3 H3 (wipe σ vs) env2 F3 H3 (wipe σ vs) env2 x (.val d) ⟨_, fun _ _ => True, fun _ _ => False, fun _ _ => False⟩ .refl k3 .refl hdn ?_
            rw [hgm]
            intro F4 H4 σ4 x4 k4 kp4 s4
            -- the test
            refine ht F4 H4 σ4 e3 _ k4 ?_
            have hD4 : H4 a = some (.lst vacc) ∧ F4 a = none ∧ ¬ Own σ4 e3 a := by
              refine ⟨x4.keep _ _ hD3 hO, ?_, fun z => ?_⟩
              · cases q : F4 a with
                | none => rfl
                | some u =>
                  rcases x4.new a hF3 (by rw [q]; simp) with z | z
                  · rw [hD3] at z; cases z
                  · exact absurd z hO
              · rcases x4.own a z with z | z
                · rw [hD3] at z; cases z
                · exact hO z
            have xs4 : Ext F1 H1 (Own (wipe σ vs) (wipeE e1 vs)) F4 H4 (Own σ4 e3) := x3.trans x4
            -- back to the turn's start
            have toW : ∀ {Fb Hb : Hp} {eb : Env}, Ext F1 H1 (Own (wipe σ vs) (wipeE e1 vs)) Fb Hb (Own σ4 eb) → EnvOk g Fb Hb σ4 eb → Keep (wipe σ vs) (wipeE e1 vs) σ4 eb → Ext F1 H1 (Own (wipe σ vs) (wipeE e1 vs)) Fb Hb (Own (wipe σ vs) (wipeE eb vs)) ∧ EnvOk g Fb Hb (wipe σ vs) (wipeE eb vs) ∧ Keep (wipe σ vs) (wipeE e1 vs) (wipe σ vs) (wipeE eb vs) := fun {Fb Hb eb} xx ok kk => by
              have ok' : EnvOk g Fb Hb (wipe σ4 vs) (wipeE eb vs) := ok.wipe
              rw [s4] at ok'
              refine ⟨⟨xx.sub, xx.keep, xx.dom, xx.new, fun b ⟨j, q⟩ => ?_⟩, ok', fun j kd dj e n => ?_⟩
              · rw [← s4] at q
                exact xx.own b ⟨j, (wipe_adr q).2⟩
              · obtain ⟨q1, d', q2, q3⟩ := kk j kd dj e n
                have hv : j ∉ vs := fun z => by
                  rw [wipeE_get] at e
                  by_cases hj : j ∈ vs ∧ j < e1.length
                  · rw [if_pos hj] at e; cases e
                  · rw [if_neg hj] at e; exact hj ⟨z, lt_of_get e⟩
                exact ⟨rfl, d', by rw [wipeE_get, if_neg (fun z => hv z.1)]; exact q2, q3⟩
            have kps4 : Keep (wipe σ vs) (wipeE e1 vs) σ4 e3 := kp2.trans kp4
            cases hmt : mt e3 with
            | stuck => rw [hmt] at p2; exact p2.elim
            | ex c dd e => rw [hmt] at p2; exact p2.elim
            | ok y' =>
              obtain ⟨b, e4⟩ := y'
              rw [hmt] at p2
              simp only [bindN_ok] at p2
              intro F5 H5 b' x5 k5 kp5 hb'
              have hb' : b' = b := hb'
              subst hb'
              obtain ⟨hD5, hF5, hO5⟩ := stay x5 hD4.1 hD4.2.1 hD4.2.2
              cases b' with
              | true =>
                simp only [if_true] at p2 ⊢
                refine he F5 H5 σ4 e4 _ k5 ?_
                cases hf : f e4 with
                | stuck => rw [hf] at p2; exact p2.elim
                | ex c dd e => rw [hf] at p2; exact p2.elim
                | ok x' =>
                  obtain ⟨r, e5⟩ := x'
                  rw [hf] at p2
                  simp only [bindN_ok] at p2
                  intro F6 H6 v x6 k6 kp6 rv
                  rcases frz_cases r e5 with ⟨du, e6, q⟩ | q
                  · rw [q] at p2
                    simp only [bindN_ok] at p2
                    obtain ⟨F7, x7, k7, kp7, hdu⟩ := RvOk.frz rv x6 k6 q
                    obtain ⟨hD7, hF7, hO7⟩ := stay x7 hD5 hF5 hO5
                    by_cases hz : acc.length < lineM
                    · rw [if_pos hz] at p2
                      obtain ⟨y1, y2, y3⟩ := toW ((xs4.trans x5).trans x7) k7 ((kps4.trans kp5).trans (kp6.trans kp7))
                      have hO7' : ¬ Own (wipe σ vs) (wipeE e6 vs) a := fun ⟨j, z⟩ => by
                        rw [← s4] at z
                        exact hO7 ⟨j, (wipe_adr z).2⟩
                      refine ⟨vacc, hD7, by rw [(hden.length : vacc.length = acc.length), lineM_eq]; exact hz, F7, wipeE e6 vs, acc ++ [du], vacc ++ [v], (wipe_id _).symm, ⟨y1.sub, fun b u q n => ?_, fun b q => ?_, y1.new, y1.own⟩, y3, y2.beside hF7 hO7', upd_same, hF7, hO7', ((hden.mono ((gr.sub.trans x4.sub).trans (x5.sub.trans x7.sub))).append (.cons hdu .nil)), p2⟩
                      · have nb : b ≠ a := ne_of_none q ha
                        rw [upd_ne nb]; exact y1.keep b u q n
                      · by_cases e : b = a
                        · subst e; rw [upd_same]; simp
                        · rw [upd_ne e]; exact y1.dom b q
                    · rw [if_neg hz] at p2; exact p2.elim
                  · rw [q] at p2; exact p2.elim
              | false =>
                simp only [Bool.false_eq_true, if_false] at p2 ⊢
                obtain ⟨y1, y2, y3⟩ := toW (xs4.trans x5) k5 (kps4.trans kp5)
                refine ⟨F5, wipeE e4 vs, acc, vacc, (wipe_id _).symm, y1, y3, y2, hD5, hF5, fun ⟨j, z⟩ => ?_, hden.mono ((gr.sub.trans x4.sub).trans x5.sub), p2⟩
                rw [← s4] at z
                exact hO5 ⟨j, (wipe_adr z).2⟩
          | _ => exact p2.elim
      · have e : i = ds.length := by omega
        have e0 : ds.drop i = [] := List.drop_eq_nil_of_le (by omega)
        rw [e0] at p2
        have p3 : Post (RE g) g W F H σ env Q (.ok (.new (.list acc), unlock o (backE e1 env2 vs))) := p2
        refine .inl ⟨its e, p3 F2 H2 (.ref a) (by rw [unlock_own]; exact x1.trans x2') (unlock_ok k2') (unlock_keep (kp1.trans kp2') lo) ⟨a, rfl, ?_, hF, ?_, .lst hD hden⟩⟩
        · cases q : H a with
          | none => rfl
          | some u => exact absurd ha (x1.dom a (by rw [q]; simp))
        · rw [unlock_own]
          intro ⟨j, z⟩
          exact hO ⟨j, by rw [w2]; exact back_adr hp z⟩
    · simp only [Res.ok_bind] at p; rw [if_neg hpl] at p; exact p.elim
end DL
namespace DL
open PySem PySem.Spec L2
variable {g : G} {W : WX}

/-! ### a def's promise -/
abbrev FM := Env → Res (Rv × Env)
def fnSp (g : G) (f : FM) : Sp := fun vs H Q E => ∃ F env, EnvOk g F H (vs.map some) env ∧ Post (RE g) g (fun c d _ H => E c d H) F H (vs.map some) env Q (f env)
structure FnG (P : Program) (w : World) (K : PySem.W.Frag) (mg : Str → Option Value) (base : Heap) (k : Nat) (f : Addr) (fd : FuncData) (ps : List Str) (fm : FM) : Prop where
  len : ∀ env, fm env ≠ .stuck → env.length = ps.length
  run : ∀ (A : Around) (outer : List PySem.Env) (s : Shared) (H : Hp) (args : Args) (us : List Value) (vs : List V) (Q : VK) (E : XK), Room k A → A.guards = some [] → Env0 P w K mg base A outer s H →
    BindsTo s fd args (ps.zip us) → Vals vs us → fnSp ⟨K, mg⟩ fm vs H Q E → codeAny (model P w) A (.call (.ref f) args) (CR (L2.CX P w) outer P w H s Q E) s
theorem FnG.mono {P : Program} {w : World} {K : PySem.W.Frag} {mg : Str → Option Value} {base : Heap} {j k : Nat} {f : Addr} {fd : FuncData} {ps : List Str} {fm : FM} (F : FnG P w K mg base j f fd ps fm) (h : j ≤ k) : FnG P w K mg base k f fd ps fm :=
  ⟨F.len, fun A outer s H args us vs Q E hr => F.run A outer s H args us vs Q E (hr.mono h)⟩
theorem fnSp_len {f : FM} {n : Nat} (hl : ∀ env, f env ≠ .stuck → env.length = n) {vs : List V} {H : Hp} {Q : VK} {E : XK} (h : fnSp g f vs H Q E) : vs.length = n := by
  obtain ⟨F, env, k, p⟩ := h
  have := k.len
  rw [List.length_map] at this
  rw [this]
  exact hl env fun e => by rw [e] at p; exact p

/-! ### the body -/
def argOk : Sl → Bool
  | .fz _ => true
  | .ow .pn _ => true
  | .ow .lk _ => true
  | _ => false
def outEnv : Env → Env → Env
  | s :: r, t :: u => (match s with | .ow _ _ => t | s => s) :: outEnv r u
  | _, _ => []
def finR (env e : Env) : Rv → Res (Rv × Env)
  | .val d => .ok (.val d, outEnv env e)
  | .new d => .ok (.new d, outEnv env e)
  | .sl i => match e[i]? with
    | some (.fz d) => .ok (.val d, outEnv env e)
    | some (.ow .fr d) => .ok (.new d, outEnv env e)
    | _ => .stuck
def chk {α : Type} (env e : Env) (r : Res α) : Res α := if env.length ≤ e.length then r else .stuck
def fin (env : Env) : Res (Fl × Env) → Res (Rv × Env)
  | .ok (.nx, e) => chk env e (.ok (.val .none, outEnv env e))
  | .ok (.rt r, e) => chk env e (finR env e r)
  | .ex c d e => chk env e (.ex c d (outEnv env e))
  | _ => .stuck
def mDef (np nl : Nat) (m : MS) : FM := fun env => if env.length = np ∧ env.all argOk = true then fin env (m (env ++ List.replicate (nl - np) .no)) else .stuck
theorem outEnv_get {s : Sl} {i : Nat} : ∀ {env e : Env}, env.length ≤ e.length → (outEnv env e)[i]? = some s → (∃ k d, env[i]? = some (.ow k d) ∧ e[i]? = some s) ∨ ((∀ k d, s ≠ .ow k d) ∧ env[i]? = some s) := by
  intro env
  induction env generalizing i with
  | nil => intro e _ h; simp [outEnv] at h
  | cons a r ih =>
    intro e hl h
    cases e with
    | nil => simp at hl
    | cons t u =>
      cases i with
      | zero =>
        simp only [outEnv, List.getElem?_cons_zero, Option.some.injEq] at h
        cases a with
        | no => subst h; exact .inr ⟨fun _ _ z => (nomatch z), by simp⟩
        | fz d => subst h; exact .inr ⟨fun _ _ z => (nomatch z), by simp⟩
        | ow k d => subst h; exact .inl ⟨k, d, by simp, by simp⟩
      | succ i =>
        simp only [outEnv, List.getElem?_cons_succ] at h ⊢
        exact ih (by simpa using hl) h
theorem outEnv_length : ∀ {env e : Env}, env.length ≤ e.length → (outEnv env e).length = env.length
  | [], _, _ => by simp [outEnv]
  | _ :: _, [], h => by simp at h
  | a :: r, t :: u, h => by simp [outEnv, outEnv_length (env := r) (e := u) (by simpa using h)]
section
variable {F H F' H' : Hp} {vs : List V} {env e : Env} {σ' : St} {n : Nat}
theorem get_app {α : Type} {l m : List α} {i : Nat} {x : α} (h : l[i]? = some x) : (l ++ m)[i]? = some x := by rw [List.getElem?_append_left (lt_of_get h)]; exact h
theorem app_none {env : Env} {n i : Nat} {s : Sl} (h : (env ++ List.replicate n .no)[i]? = some s) : env[i]? = some s ∨ s = .no := by
  by_cases e : i < env.length
  · rw [List.getElem?_append_left e] at h; exact .inl h
  · rw [List.getElem?_append_right (by omega), List.getElem?_replicate] at h
    split at h
    · cases h; exact .inr rfl
    · cases h
theorem start_adr {i : Nat} {a : Addr} {m : Nat} (hm : vs.length = env.length) : Adr (vs.map some ++ List.replicate m none) (env ++ List.replicate n .no) i a ↔ Adr (vs.map some) env i a := by
  constructor
  · rintro ⟨⟨k, d, h1⟩, h2⟩
    rcases app_none h1 with q | q
    · refine ⟨⟨k, d, q⟩, ?_⟩
      have hi : i < (vs.map some).length := by rw [List.length_map, hm]; exact lt_of_get q
      rw [List.getElem?_append_left hi] at h2; exact h2
    · cases q
  · rintro ⟨⟨k, d, h1⟩, h2⟩
    exact ⟨⟨k, d, get_app h1⟩, get_app h2⟩
theorem start_own {m : Nat} (hm : vs.length = env.length) : Own (vs.map some ++ List.replicate m none) (env ++ List.replicate n .no) = Own (vs.map some) env := by
  funext a
  exact propext ⟨fun ⟨i, h⟩ => ⟨i, (start_adr hm).mp h⟩, fun ⟨i, h⟩ => ⟨i, (start_adr hm).mpr h⟩⟩
theorem EnvOk.start (k : EnvOk g F H (vs.map some) env) : EnvOk g F H (vs.map some ++ List.replicate n none) (env ++ List.replicate n .no) := by
  have hm : vs.length = env.length := by have := k.len; rwa [List.length_map] at this
  refine ⟨by simp [hm], k.sub, fun i s e => ?_, fun i j a h1 h2 => k.dis i j a ((start_adr hm).mp h1) ((start_adr hm).mp h2)⟩
  by_cases hi : i < env.length
  · rw [List.getElem?_append_left hi] at e
    obtain ⟨o, h1, h2⟩ := k.sl i s e
    exact ⟨o, get_app h1, h2⟩
  · have hl := lt_of_get e
    rw [List.length_append, List.length_replicate] at hl
    rcases app_none e with q | q
    · exact absurd (lt_of_get q) hi
    · subst q
      exact ⟨none, by rw [List.getElem?_append_right (by rw [List.length_map, hm]; omega), List.getElem?_replicate, if_pos (by rw [List.length_map, hm]; omega)], trivial⟩
/-- the caller's look at what a body has left -/
theorem body_out (k : EnvOk g F H (vs.map some) env) (ha : env.all argOk = true) (x : Ext F H (Own (vs.map some) env) F' H' (Own σ' e)) (k' : EnvOk g F' H' σ' e) (kp : Keep (vs.map some ++ List.replicate n none) (env ++ List.replicate n .no) σ' e) (hl : env.length ≤ e.length) :
    Ext F H (Own (vs.map some) env) F' H' (Own (vs.map some) (outEnv env e)) ∧ EnvOk g F' H' (vs.map some) (outEnv env e) ∧ Keep (vs.map some) env (vs.map some) (outEnv env e) := by
  have arg : ∀ i s, env[i]? = some s → argOk s = true := fun i s h => List.all_eq_true.mp ha s (List.mem_of_getElem? h)
  have nf : ∀ (i : Nat) (k : Kd) (d : D), env[i]? = some (Sl.ow k d) → k ≠ .fr := fun i k d h e => by
    subst e; have := arg i _ h; cases this
  have pn : ∀ (i : Nat) (k : Kd) (d : D), env[i]? = some (Sl.ow k d) → σ'[i]? = (vs.map some)[i]? ∧ ∃ d', e[i]? = some (Sl.ow k d') ∧ (k = .lk → d' = d) := fun i kd d h => by
    obtain ⟨q1, d', q2, q3⟩ := kp i kd d (get_app h) (nf i kd d h)
    have hi : i < (vs.map some).length := by rw [k.len]; exact lt_of_get h
    rw [List.getElem?_append_left hi] at q1
    exact ⟨q1, d', q2, q3⟩
  have adr : ∀ i a, Adr (vs.map some) (outEnv env e) i a → Adr (vs.map some) env i a ∧ Adr σ' e i a := fun i a ⟨⟨kd, d, h1⟩, h2⟩ => by
    rcases outEnv_get hl h1 with ⟨k0, d0, q1, q2⟩ | ⟨q1, q2⟩
    · obtain ⟨y1, d', y2, _⟩ := pn i k0 d0 q1
      exact ⟨⟨⟨_, _, q1⟩, h2⟩, ⟨⟨_, _, y2⟩, by rw [y1]; exact h2⟩⟩
    · exact absurd rfl (q1 kd d)
  refine ⟨⟨x.sub, x.keep, x.dom, x.new, fun b ⟨i, h⟩ => .inr ⟨i, (adr i b h).1⟩⟩, ⟨by rw [outEnv_length hl]; exact k.len, k'.sub, fun i s h => ?_, fun i j a h1 h2 => k.dis i j a (adr i a h1).1 (adr j a h2).1⟩, fun i kd d h nk => ?_⟩
  · rcases outEnv_get hl h with ⟨k0, d0, q1, q2⟩ | ⟨q1, q2⟩
    · obtain ⟨y1, d', y2, _⟩ := pn i k0 d0 q1
      obtain ⟨o, h1, h2⟩ := k'.sl i s q2
      exact ⟨o, by rw [← y1]; exact h1, h2⟩
    · obtain ⟨o, h1, h2⟩ := k.sl i s q2
      refine ⟨o, h1, ?_⟩
      have := arg i _ q2
      cases s with
      | no => trivial
      | fz d => obtain ⟨v, h3, h4⟩ := h2; exact ⟨v, h3, h4.mono x.sub⟩
      | ow kd d => exact absurd rfl (q1 kd d)
  · obtain ⟨y1, d', y2, y3⟩ := pn i kd d h
    refine ⟨rfl, d', ?_, y3⟩
    have hi : i < (outEnv env e).length := by rw [outEnv_length hl]; exact lt_of_get h
    have e1 : (outEnv env e)[i]? = some ((outEnv env e)[i]) := List.getElem?_eq_getElem hi
    rcases outEnv_get hl e1 with ⟨k0, d0, q1, q2⟩ | ⟨q1, q2⟩
    · rw [e1, ← q2, y2]
    · rw [h] at q2
      exact absurd (Option.some.inj q2).symm (q1 kd d)
theorem keep_len {σ : St} {env : Env} (k : EnvOk g F H σ env) (k' : EnvOk g F' H' σ' e) (h : σ.length = σ'.length) : env.length = e.length := by rw [← k.len, ← k'.len, h]
end
/-- a body's reading from the promise -/
theorem body_post {n : Nat} {m : MS} {vs : List V} {F H : Hp} {env : Env} {Q : VK} {E : XK} (k : EnvOk g F H (vs.map some) env) (ha : env.all argOk = true) (p : Post (RE g) g (fun c d _ H => E c d H) F H (vs.map some) env Q (fin env (m (env ++ List.replicate n .no)))) {t : TS} (ht : GoodS g (fun c d _ H => E c d H) t m) :
    t { nx := fun _ H' => Q .non H', rt := Q } (vs.map some ++ List.replicate n none) H := by
  have hm : vs.length = env.length := by have := k.len; rwa [List.length_map] at this
  have nf : ∀ (i : Nat) (k : Kd) (d : D), env[i]? = some (Sl.ow k d) → k ≠ .fr := fun i k d h e => by
    subst e; have := List.all_eq_true.mp ha _ (List.mem_of_getElem? h); cases this
  refine ht F H _ _ _ (k.start (n := n)) ?_
  cases q : m (env ++ List.replicate n .no) with
  | stuck => rw [q] at p; exact p.elim
  | ex c d e =>
    rw [q] at p
    intro F' H' σ' dd C v x k' kp a1 a2 a3
    rw [start_own hm] at x
    by_cases hl : env.length ≤ e.length
    · have p : Post (RE g) g (fun c d _ H => E c d H) F H (vs.map some) env Q (.ex c d (outEnv env e)) := by simpa [fin, chk, hl] using p
      obtain ⟨y1, y2, y3⟩ := body_out k ha x k' kp hl
      exact p F' H' dd C v y1 y2 y3 a1 a2 a3
    · simp [fin, chk, hl] at p; exact p.elim
  | ok z =>
    obtain ⟨f, e⟩ := z
    rw [q] at p
    intro F' H' σ' x k' kp
    rw [start_own hm] at x
    cases f with
    | bk => exact p.elim
    | ct => exact p.elim
    | nx =>
      by_cases hl : env.length ≤ e.length
      · have p : Post (RE g) g (fun c d _ H => E c d H) F H (vs.map some) env Q (.ok (.val .none, outEnv env e)) := by simpa [fin, chk, hl] using p
        obtain ⟨y1, y2, y3⟩ := body_out k ha x k' kp hl
        exact p F' H' .non y1 y2 y3 .non
      · simp [fin, chk, hl] at p; exact p.elim
    | rt r =>
      by_cases hl : env.length ≤ e.length
      · have p : Post (RE g) g (fun c d _ H => E c d H) F H (vs.map some) env Q (finR env e r) := by simpa [fin, chk, hl] using p
        obtain ⟨y1, y2, y3⟩ := body_out k ha x k' kp hl
        intro v rv
        cases r with
        | val d => exact p F' H' v y1 y2 y3 rv
        | new d =>
          obtain ⟨a, h1, h2, h3, h4, h5⟩ := rv
          refine p F' H' v y1 y2 y3 ⟨a, h1, h2, h3, fun z => ?_, h5⟩
          rcases y1.own a z with z' | z'
          · obtain ⟨i, hi⟩ := z
            obtain ⟨⟨kd, d2, w1⟩, w2⟩ := hi
            obtain ⟨o, u1, u2⟩ := y2.sl i _ w1
            rw [w2] at u1; cases u1
            obtain ⟨b, u3, u4, u5⟩ := u2
            cases u3
            -- pinned: its slot's own object, so one of the body's
            have hs : Own σ' e a := by
              rcases outEnv_get hl w1 with ⟨k0, d0, q1, q2⟩ | ⟨q1, q2⟩
              · obtain ⟨z1, d', z2, _⟩ := kp i k0 d0 (get_app q1) (nf i k0 d0 q1)
                have hi : i < (vs.map some).length := by rw [k.len]; exact lt_of_get q1
                rw [List.getElem?_append_left hi] at z1
                exact ⟨i, ⟨_, _, z2⟩, by rw [z1]; exact w2⟩
              · exact absurd rfl (q1 kd d2)
            exact absurd hs h4
          · obtain ⟨i, hi⟩ := z'
            obtain ⟨⟨kd, d2, w1⟩, w2⟩ := hi
            obtain ⟨z1, d', z2, _⟩ := kp i kd d2 (get_app w1) (nf i kd d2 w1)
            have hi : i < (vs.map some).length := by rw [k.len]; exact lt_of_get w1
            rw [List.getElem?_append_left hi] at z1
            exact absurd ⟨i, ⟨_, _, z2⟩, by rw [z1]; exact w2⟩ h4
        | sl i =>
          have rv : σ'[i]? = some (some v) := rv
          unfold finR at p
          simp only at p
          split at p
          · rename_i d q'
            obtain ⟨o, w1, v', w2, w3⟩ := k'.sl i _ q'
            rw [rv] at w1; cases w1; cases w2
            exact p F' H' v y1 y2 y3 w3
          · rename_i d q'
            obtain ⟨o, w1, a, w2, w3, w4⟩ := k'.sl i _ q'
            rw [rv] at w1; cases w1; cases w2
            have no : ¬ Own (vs.map some) (outEnv env e) a := fun ⟨j, hj⟩ => by
              obtain ⟨⟨kd, d2, u1⟩, u2⟩ := hj
              rcases outEnv_get hl u1 with ⟨k0, d0, q1, q2⟩ | ⟨q1, q2⟩
              · obtain ⟨z1, d', z2, _⟩ := kp j k0 d0 (get_app q1) (nf j k0 d0 q1)
                have hj : j < (vs.map some).length := by rw [k.len]; exact lt_of_get q1
                rw [List.getElem?_append_left hj] at z1
                have e2 := k'.dis i j a ⟨⟨_, _, q'⟩, rv⟩ ⟨⟨_, _, z2⟩, by rw [z1]; exact u2⟩
                subst e2
                rw [q'] at z2
                have z3 := Option.some.inj z2
                injection z3 with z4 _
                exact nf i k0 d0 q1 z4.symm
              · exact absurd rfl (q1 kd d2)
            refine p F' H' (.ref a) y1 y2 y3 ⟨a, rfl, ?_, w3, no, w4⟩
            rcases x.own a ⟨i, ⟨_, _, q'⟩, rv⟩ with z | ⟨j, hj⟩
            · exact z
            · obtain ⟨⟨kd, d2, u1⟩, u2⟩ := hj
              obtain ⟨z1, d', z2, _⟩ := kp j kd d2 (get_app u1) (nf j kd d2 u1)
              have hj : j < (vs.map some).length := by rw [k.len]; exact lt_of_get u1
              rw [List.getElem?_append_left hj] at z1
              have e2 := k'.dis i j a ⟨⟨_, _, q'⟩, rv⟩ ⟨⟨_, _, z2⟩, by rw [z1]; exact u2⟩
              subst e2
              rw [q'] at z2
              have z3 := Option.some.inj z2
              injection z3 with z4 _
              exact absurd z4.symm (nf i kd d2 u1)
          · exact p.elim
      · simp [fin, chk, hl] at p; exact p.elim
end DL
namespace DL
open PySem PySem.Spec L2
open PyProof.Rows (envOfC)

section
variable {P : Program} {w : World} {K : PySem.W.Frag} {mg : Str → Option Value} {base : Heap}
theorem mDef_len {np nl : Nat} {m : MS} (env : Env) (h : mDef np nl m env ≠ .stuck) : env.length = np := by
  unfold mDef at h
  by_cases e : env.length = np ∧ env.all argOk = true
  · exact e.1
  · rw [if_neg e] at h; exact absurd rfl h
/-- a def of the text by its body -/
theorem fng_of {x qual : Str} {st : Stmt} {f : Addr} {fd : FuncData} {N ps : List Str} {k : Nat} {m : MS} (Fu : Fun K x qual st f fd) (S : FnScope N ps (defScope st))
    (hb : ∀ (cdv : Value) (A : Around) (outer : List PySem.Env) (s : Shared) (H : Hp) (E : XK), Room k (A.deeper (envOfC qual (defScope st) s.heap.objs.size f cdv)) → (A.deeper (envOfC qual (defScope st) s.heap.objs.size f cdv)).guards = some [] →
      DSs (cxOf (L2.CX P w) P w K mg base N qual (defScope st) f cdv A outer s H E) (fun c d _ H => E c d H) (defBody st) m) : FnG P w K mg base (k + 1) f fd ps (mDef ps.length N.length m) := by
  obtain ⟨oc, od, kV, doc, pm, an, cdv, ct, osl, rfl, lk, hcd⟩ := Fu.ex
  refine ⟨mDef_len, fun A outer s H args us vs Q E hr hgd e0 hbd r hsp => ?_⟩
  have hl := fnSp_len (g := ⟨K, mg⟩) mDef_len hsp
  obtain ⟨F, env, ek, p⟩ := hsp
  have h0 : ∀ b o, base.get? b = some o → s.heap.get? b = some o := fun b o e => (e0.bs b o e).1
  have KX : K.In s.heap := e0.mod.kin.keeps h0
  have lim : s.heap.NoLimit := e0.mod.nolimit.keeps h0
  have hin : ∀ y ∈ ps.zip us, (defScope st).names.lookup y.1 = some .local ∨ ((defScope st).names.lookup y.1 = some .cell ∧ ((cellsFrom (s.heap.objs.size + 1) (defScope st).names []).lookup y.1).isSome = true) := by
    rintro ⟨n, v⟩ hy
    exact (S.par n (List.of_mem_zip hy).1).imp id fun q => ⟨q, PySem.W.cellsFrom_some _ _ _ (.inl q)⟩
  refine codeAny_call_function hr.depth (KX _ _ lk) rfl S.co S.gen rfl (PySem.W.codeRec_of KX hcd) (hbd _ _ _ _ ?_)
  refine wpAny_newFunctionEnv_cells S.kind hin fun env' he s1 x => ?_
  subst he
  refine ⟨lim.keeps x.toInCall.keep, codeAny_func ?_⟩
  obtain ⟨t, ht, hg⟩ := (hb cdv A outer s H E (hr.deeper _) hgd).ex
  have len1 : env.length = ps.length := by rw [← hl]; have := ek.len; rw [List.length_map] at this; exact this.symm
  have arg1 : env.all argOk = true := by
    unfold mDef at p
    by_cases e : env.length = ps.length ∧ env.all argOk = true
    · exact e.2
    · rw [if_neg e] at p; exact p.elim
  have q : t { nx := fun _ H' => Q .non H', rt := Q } (L2.start N vs) H := by
    unfold mDef at p
    rw [if_pos ⟨len1, arg1⟩] at p
    have := body_post ek arg1 p hg
    unfold L2.start
    rw [hl]
    exact this
  have I := inv_start (CX := L2.CX P w) (E := E) (qual := qual) (f := f) (cd := cdv) S hr.hd e0 hl r x
  refine wpAny_mono (ht.run [] s1 (L2.start N vs) H _ I q) (fun fl s' hs => ?_) fun e s' hs => hs
  cases fl with
  | ret u =>
    obtain ⟨v, σ', H', J, rv, q⟩ := hs
    exact ⟨v, H', J.os, J.bare, J.base, J.hok, rv, q⟩
  | next =>
    obtain ⟨σ', H', J, q⟩ := hs
    exact ⟨V.non, H', J.os, J.bare, J.base, J.hok, rfl, q⟩
  | brk => obtain ⟨_, _, _, q⟩ := hs; exact q.elim
  | cont => obtain ⟨_, _, _, q⟩ := hs; exact q.elim
end

/-! ### calls -/
variable {g : G} {W : WX}
inductive AV
  | d (d : D)
  | s (i : Nat)
  | l (i : Nat)
/-- how an argument is handed over: for good, to be changed, to be looked at -/
inductive Md | c | p | l
def AvOk (g : G) (F : Hp) (σ : St) (v : V) : AV → Prop
  | .d d => Den g F v d
  | .s i => σ[i]? = some (some v)
  | .l i => σ[i]? = some (some v)
def evAs : List Md → List ME → Env → Res (List AV × Env)
  | [], [], env => .ok ([], env)
  | m :: ms, f :: fs, env => f env >>= fun z =>
    match m with
    | .p => (match z.1 with
      | .sl i => evAs ms fs z.2 >>= fun x => .ok (.s i :: x.1, x.2)
      | _ => .stuck)
    | .l => (match z.1 with
      | .sl i => evAs ms fs z.2 >>= fun x => .ok (.l i :: x.1, x.2)
      | .val d => evAs ms fs z.2 >>= fun x => .ok (.d d :: x.1, x.2)
      | _ => .stuck)
    | .c => z.1.frz z.2 >>= fun y => evAs ms fs y.2 >>= fun x => .ok (.d y.1 :: x.1, x.2)
  | _, _, _ => .stuck
def RAs (g : G) : RelB (List V) (List AV) := fun _ F _ σ _ vs as => Paired (AvOk g F σ) vs as
theorem RAs.early : Early (RAs g) := ⟨fun _ _ _ _ _ _ _ _ _ h => h⟩
theorem AvOk.mono {F F' : Hp} {σ : St} {v : V} {a : AV} (s : Sub F F') (h : AvOk g F σ v a) : AvOk g F' σ v a := by
  cases a with
  | d d => exact Den.mono s h
  | s i => exact h
  | l i => exact h
theorem AllE.as {t : TA} {fs : List ME} (h : AllE g W t fs) : ∀ ms, Good (RAs g) g W t (evAs ms fs) := by
  induction h with
  | nil =>
    intro ms F H σ env Q k p
    cases ms with
    | nil => exact p F H [] .refl k .refl .nil
    | cons => exact p.elim
  | @cons t tr f fs hf hr ih =>
    intro ms F H σ env Q k p
    cases ms with
    | nil => exact (hf F H σ env _ k (by
        exact p.elim))
    | cons m ms =>
      cases m with
      | p =>
        refine hf F H σ env _ k (Post.bind (R := RE g) RAs.early (k := fun z => (match z.1 with
          | .sl i => evAs ms fs z.2 >>= fun x => .ok (.s i :: x.1, x.2)
          | _ => .stuck)) p fun r1 e1 F1 H1 v x1 k1 kp1 rv1 p1 => ?_)
        cases r1 with
        | sl i =>
          have rv1 : σ[i]? = some (some v) := rv1
          refine ih ms F1 H1 σ e1 _ k1 (Post.bind (R := RAs g) RAs.early p1 fun as e2 F2 H2 vs x2 k2 kp2 has p2 => ?_)
          exact p2 F2 H2 (v :: vs) .refl k2 .refl (.cons rv1 has)
        | _ => exact p1.elim
      | l =>
        refine hf F H σ env _ k (Post.bind (R := RE g) RAs.early (k := fun z => (match z.1 with
          | .sl i => evAs ms fs z.2 >>= fun x => .ok (.l i :: x.1, x.2)
          | .val d => evAs ms fs z.2 >>= fun x => .ok (.d d :: x.1, x.2)
          | _ => .stuck)) p fun r1 e1 F1 H1 v x1 k1 kp1 rv1 p1 => ?_)
        cases r1 with
        | sl i =>
          have rv1 : σ[i]? = some (some v) := rv1
          refine ih ms F1 H1 σ e1 _ k1 (Post.bind (R := RAs g) RAs.early p1 fun as e2 F2 H2 vs x2 k2 kp2 has p2 => ?_)
          exact p2 F2 H2 (v :: vs) .refl k2 .refl (.cons rv1 has)
        | val d =>
          have rv1 : Den g F1 v d := rv1
          refine ih ms F1 H1 σ e1 _ k1 (Post.bind (R := RAs g) RAs.early p1 fun as e2 F2 H2 vs x2 k2 kp2 has p2 => ?_)
          exact p2 F2 H2 (v :: vs) .refl k2 .refl (.cons (Den.mono x2.sub rv1) has)
        | _ => exact p1.elim
      | c =>
        have p' : Post (RAs g) g W F H σ env Q (f env >>= fun z => z.1.frz z.2 >>= fun y => evAs ms fs y.2 >>= fun x => .ok (.d y.1 :: x.1, x.2)) := p
        refine hf F H σ env _ k (Post.bindF RAs.early p' fun d e2 F2 H1 v x2 k2 kp2 hd p2 => ?_)
        refine ih ms F2 H1 σ e2 _ k2 (Post.bind (R := RAs g) RAs.early p2 fun as e3 F3 H3 vs x3 k3 kp3 has p3 => ?_)
        exact p3 F3 H3 (v :: vs) .refl k3 .refl (.cons (Den.mono x3.sub hd) has)
/-- the callee's slots -/
def argSl (env : Env) : AV → Option Sl
  | .d d => some (.fz d)
  | .s i => match env[i]? with
    | some (.fz d) => some (.fz d)
    | some (.ow .fr d) => some (.ow .pn d)
    | some (.ow .pn d) => some (.ow .pn d)
    | _ => none
  | .l i => match env[i]? with
    | some (.fz d) => some (.fz d)
    | some (.ow _ d) => some (.ow .lk d)
    | _ => none
/-- the slot that an argument looks at -/
def AV.at? : AV → Option Nat
  | .d _ => none
  | .s i => some i
  | .l i => some i
def mkArgs (env : Env) : List AV → Option Env
  | [] => some []
  | a :: as => match argSl env a, mkArgs env as with
    | some s, some r => some (s :: r)
    | _, _ => none
def slotsOf : List AV → List Nat
  | [] => []
  | .d _ :: r => slotsOf r
  | .s i :: r => i :: slotsOf r
  | .l i :: r => i :: slotsOf r
def noDup : List Nat → Bool
  | [] => true
  | i :: r => !r.contains i && noDup r
/-- what a callee has left in the slots -/
def putBack : List AV → Env → Env → Env
  | .s i :: as, t :: ts, env => (match env[i]?, t with
    | some (.ow k _), .ow _ d => (putBack as ts env).set i (.ow k d)
    | _, _ => putBack as ts env)
  | .l i :: as, t :: ts, env => (match env[i]?, t with
    | some (.ow k _), .ow _ d => (putBack as ts env).set i (.ow k d)
    | _, _ => putBack as ts env)
  | .d _ :: as, _ :: ts, env => putBack as ts env
  | _, _, env => env
def mCallF (fm : FM) (ms : List Md) (fs : List ME) : ME := fun env => evAs ms fs env >>= fun z =>
  if noDup (slotsOf z.1) = true then match mkArgs z.2 z.1 with
    | some ae => match fm ae with
      | .ok (.val d, ae') => .ok (.val d, putBack z.1 ae' z.2)
      | .ok (.new d, ae') => .ok (.new d, putBack z.1 ae' z.2)
      | .ok (.sl _, _) => .stuck
      | .ex c d ae' => .ex c d (putBack z.1 ae' z.2)
      | .stuck => .stuck
    | none => .stuck
  else .stuck
theorem mkArgs_get {env : Env} : ∀ {as : List AV} {ae : Env} {j : Nat}, mkArgs env as = some ae → ∀ {s : Sl}, ae[j]? = some s → ∃ a, as[j]? = some a ∧ argSl env a = some s
  | [], ae, j, h, s, e => by cases h; simp at e
  | a :: as, ae, j, h, s, e => by
    unfold mkArgs at h
    split at h
    · rename_i s' r q1 q2
      cases h
      cases j with
      | zero => simp at e; subst e; exact ⟨a, by simp, q1⟩
      | succ j => exact (mkArgs_get (j := j) q2 (by simpa using e)).imp fun a h => ⟨by simpa using h.1, h.2⟩
    · cases h
theorem mkArgs_len {env : Env} : ∀ {as : List AV} {ae : Env}, mkArgs env as = some ae → ae.length = as.length
  | [], ae, h => by cases h; rfl
  | a :: as, ae, h => by
    unfold mkArgs at h
    split at h
    · rename_i s' r q1 q2
      cases h
      simp [mkArgs_len q2]
    · cases h
theorem paired_len {α β : Type} {R : α → β → Prop} : ∀ {l : List α} {m : List β}, Paired R l m → l.length = m.length
  | _, _, .nil => rfl
  | _, _, .cons _ t => by simp [paired_len t]
theorem paired_get {α β : Type} {R : α → β → Prop} : ∀ {l : List α} {m : List β} {i : Nat} {y : β}, Paired R l m → m[i]? = some y → ∃ x, l[i]? = some x ∧ R x y
  | _, _, 0, y, .cons h _, e => by simp at e; subst e; exact ⟨_, by simp, h⟩
  | _, _, i + 1, y, .cons _ t, e => by
    obtain ⟨x, h1, h2⟩ := paired_get (i := i) t (by simpa using e)
    exact ⟨x, by simpa using h1, h2⟩
  | _, _, _, _, .nil, e => by simp at e
theorem slots_inj : ∀ {as : List AV} {j1 j2 i : Nat}, noDup (slotsOf as) = true → as[j1]?.bind AV.at? = some i → as[j2]?.bind AV.at? = some i → j1 = j2 := by
  have mem : ∀ {as : List AV} {j i : Nat}, as[j]?.bind AV.at? = some i → i ∈ slotsOf as := by
    intro as
    induction as with
    | nil => intro j i h; simp at h
    | cons a as ih =>
      intro j i h
      cases j with
      | zero =>
        simp only [List.getElem?_cons_zero, Option.bind_some] at h
        cases a with
        | d d => cases h
        | s n => cases h; simp [slotsOf]
        | l n => cases h; simp [slotsOf]
      | succ j =>
        have := ih (j := j) (by simpa using h)
        cases a <;> simp [slotsOf, this]
  intro as
  induction as with
  | nil => intro j1 j2 i _ h; simp at h
  | cons a as ih =>
    intro j1 j2 i nd h1 h2
    have nd' : noDup (slotsOf as) = true ∧ ∀ i, a.at? = some i → i ∉ slotsOf as := by
      cases a with
      | d d => exact ⟨nd, fun i e => by cases e⟩
      | s n =>
        have nd2 : (!(slotsOf as).contains n && noDup (slotsOf as)) = true := nd
        simp only [Bool.and_eq_true, Bool.not_eq_true', List.contains_eq_mem, decide_eq_false_iff_not] at nd2
        exact ⟨nd2.2, fun i e => by cases e; exact nd2.1⟩
      | l n =>
        have nd2 : (!(slotsOf as).contains n && noDup (slotsOf as)) = true := nd
        simp only [Bool.and_eq_true, Bool.not_eq_true', List.contains_eq_mem, decide_eq_false_iff_not] at nd2
        exact ⟨nd2.2, fun i e => by cases e; exact nd2.1⟩
    cases j1 with
    | zero =>
      cases j2 with
      | zero => rfl
      | succ j2 => simp only [List.getElem?_cons_zero, Option.bind_some] at h1; exact absurd (mem (j := j2) (by simpa using h2)) (nd'.2 i h1)
    | succ j1 =>
      cases j2 with
      | zero => simp only [List.getElem?_cons_zero, Option.bind_some] at h2; exact absurd (mem (j := j1) (by simpa using h1)) (nd'.2 i h2)
      | succ j2 => rw [ih nd'.1 (j1 := j1) (j2 := j2) (i := i) (by simpa using h1) (by simpa using h2)]
theorem putBack_len : ∀ (as : List AV) (ts env : Env), (putBack as ts env).length = env.length
  | [], _, _ => by simp [putBack]
  | .d _ :: as, [], _ => by simp [putBack]
  | .s _ :: as, [], _ => by simp [putBack]
  | .d _ :: as, _ :: ts, env => by unfold putBack; exact putBack_len as ts env
  | .s i :: as, t :: ts, env => by
    unfold putBack
    split
    · rw [List.length_set]; exact putBack_len as ts env
    · exact putBack_len as ts env
  | .l _ :: as, [], _ => by simp [putBack]
  | .l i :: as, t :: ts, env => by
    unfold putBack
    split
    · rw [List.length_set]; exact putBack_len as ts env
    · exact putBack_len as ts env
theorem putBack_one {a : AV} {as : List AV} {t : Sl} {ts env : Env} (n : Nat) (e : a.at? = some n) : putBack (a :: as) (t :: ts) env = (match env[n]?, t with
          | some (.ow k _), .ow _ d => (putBack as ts env).set n (.ow k d)
          | _, _ => putBack as ts env) := by
  cases a with
  | d d => cases e
  | s m => cases e; rfl
  | l m => cases e; rfl
/-- a slot behind a call: as it was, or what the callee left -/
theorem putBack_get : ∀ {as : List AV} {ts env : Env} {i : Nat} {s : Sl}, (putBack as ts env)[i]? = some s → (env[i]? = some s ∧ ∀ (j : Nat) (k1 : Kd) (d : D), as[j]?.bind AV.at? = some i → ts[j]? = some (Sl.ow k1 d) → ∀ (k : Kd) (d2 : D), env[i]? ≠ some (Sl.ow k d2)) ∨ ∃ (j : Nat) (k k1 : Kd) (d d0 : D), as[j]?.bind AV.at? = some i ∧ ts[j]? = some (Sl.ow k1 d) ∧ env[i]? = some (Sl.ow k d0) ∧ s = Sl.ow k d := by
  intro as
  induction as with
  | nil => intro ts env i s h; simp [putBack] at h; exact .inl ⟨h, fun j k1 d q => by simp at q⟩
  | cons a as ih =>
    intro ts env i s h
    cases ts with
    | nil =>
      have : putBack (a :: as) [] env = env := by cases a <;> rfl
      rw [this] at h
      exact .inl ⟨h, fun j k1 d q r => by simp at r⟩
    | cons t ts =>
      have lift : ((putBack as ts env)[i]? = some s) → (∀ (k1 : Kd) (d : D), a.at? = some i → t = Sl.ow k1 d → ∀ (k : Kd) (d2 : D), env[i]? ≠ some (Sl.ow k d2)) → (env[i]? = some s ∧ ∀ (j : Nat) (k1 : Kd) (d : D), (a :: as)[j]?.bind AV.at? = some i → (t :: ts)[j]? = some (Sl.ow k1 d) → ∀ (k : Kd) (d2 : D), env[i]? ≠ some (Sl.ow k d2)) ∨ ∃ (j : Nat) (k k1 : Kd) (d d0 : D), (a :: as)[j]?.bind AV.at? = some i ∧ (t :: ts)[j]? = some (Sl.ow k1 d) ∧ env[i]? = some (Sl.ow k d0) ∧ s = Sl.ow k d := fun h hz => by
        rcases ih h with ⟨h1, h2⟩ | ⟨j, k, k1, d, d0, h1, h2, h3, h4⟩
        · refine .inl ⟨h1, fun j k1 d q r => ?_⟩
          cases j with
          | zero => simp only [List.getElem?_cons_zero, Option.bind_some, Option.some.injEq] at q r; exact hz k1 d q r
          | succ j => exact h2 j k1 d (by simpa using q) (by simpa using r)
        · exact .inr ⟨j + 1, k, k1, d, d0, by simpa using h1, by simpa using h2, h3, h4⟩
      cases ha : a.at? with
      | none =>
        have : putBack (a :: as) (t :: ts) env = putBack as ts env := by
          cases a with
          | d d => rw [putBack]
          | s m => cases ha
          | l m => cases ha
        rw [this] at h
        exact lift h fun _ _ e => by rw [ha] at e; cases e
      | some n =>
        rw [putBack_one n ha] at h
        cases he : env[n]? with
        | none =>
          rw [he] at h
          exact lift h fun k1 d e1 e2 k d2 e3 => by rw [ha] at e1; cases e1; rw [he] at e3; cases e3
        | some s0 =>
          rw [he] at h
          cases s0 with
          | no => exact lift h fun k1 d e1 e2 k d2 e3 => by rw [ha] at e1; cases e1; rw [he] at e3; cases e3
          | fz d0 => exact lift h fun k1 d e1 e2 k d2 e3 => by rw [ha] at e1; cases e1; rw [he] at e3; cases e3
          | ow k d0 =>
            cases t with
            | no => exact lift h fun k1 d e1 e2 => by cases e2
            | fz d => exact lift h fun k1 d e1 e2 => by cases e2
            | ow k1 d =>
              rcases get_set h with ⟨e1, e2, _⟩ | ⟨e1, e2⟩
              · subst e1; subst e2
                exact .inr ⟨0, k, k1, d, d0, by simpa using ha, by simp, he, rfl⟩
              · exact lift e2 fun k' d' e => by rw [ha] at e; cases e; exact absurd rfl e1
theorem args_ok {F H : Hp} {σ : St} {env ae : Env} {vs : List V} {as : List AV} (k : EnvOk g F H σ env) (ha : Paired (AvOk g F σ) vs as) (nd : noDup (slotsOf as) = true) (hm : mkArgs env as = some ae) :
    EnvOk g F H (vs.map some) ae ∧ ∀ j a, Adr (vs.map some) ae j a → ∃ i, as[j]?.bind AV.at? = some i ∧ Adr σ env i a := by
  have adr : ∀ j a, Adr (vs.map some) ae j a → ∃ i, as[j]?.bind AV.at? = some i ∧ Adr σ env i a := fun j a ⟨⟨kd, d, h1⟩, h2⟩ => by
    obtain ⟨av, q1, q2⟩ := mkArgs_get hm h1
    obtain ⟨v, q3, q4⟩ := paired_get ha q1
    rw [List.getElem?_map, q3] at h2
    have ev : v = .ref a := by simpa using h2
    subst ev
    cases av with
    | d d' => cases q2
    | s i =>
      have q4 : σ[i]? = some (some (.ref a)) := q4
      refine ⟨i, by rw [q1]; rfl, ?_⟩
      unfold argSl at q2
      simp only at q2
      split at q2 <;> first
        | cases q2; done
        | (rename_i d' q; exact ⟨⟨_, _, q⟩, q4⟩)
        | cases q2
    | l i =>
      have q4 : σ[i]? = some (some (.ref a)) := q4
      refine ⟨i, by rw [q1]; rfl, ?_⟩
      unfold argSl at q2
      simp only at q2
      split at q2
      · cases q2
      · rename_i kd' d' q; exact ⟨⟨_, _, q⟩, q4⟩
      · cases q2
  refine ⟨⟨by rw [List.length_map, mkArgs_len hm, paired_len ha], k.sub, fun j s e => ?_, fun j1 j2 a h1 h2 => ?_⟩, adr⟩
  · obtain ⟨av, q1, q2⟩ := mkArgs_get hm e
    obtain ⟨v, q3, q4⟩ := paired_get ha q1
    refine ⟨some v, by rw [List.getElem?_map, q3]; rfl, ?_⟩
    cases av with
    | d d => cases q2; exact ⟨v, rfl, q4⟩
    | s i =>
      have q4 : σ[i]? = some (some v) := q4
      unfold argSl at q2
      simp only at q2
      split at q2
      · rename_i d' q; cases q2; obtain ⟨o, h1, v', h2, h3⟩ := k.sl i _ q; rw [q4] at h1; cases h1; cases h2; exact ⟨v, rfl, h3⟩
      · rename_i d' q; cases q2; obtain ⟨o, h1, a, h2, h3⟩ := k.sl i _ q; rw [q4] at h1; cases h1; cases h2; exact ⟨a, rfl, h3⟩
      · rename_i d' q; cases q2; obtain ⟨o, h1, a, h2, h3⟩ := k.sl i _ q; rw [q4] at h1; cases h1; cases h2; exact ⟨a, rfl, h3⟩
      · cases q2
    | l i =>
      have q4 : σ[i]? = some (some v) := q4
      unfold argSl at q2
      simp only at q2
      split at q2
      · rename_i d' q; cases q2; obtain ⟨o, h1, v', h2, h3⟩ := k.sl i _ q; rw [q4] at h1; cases h1; cases h2; exact ⟨v, rfl, h3⟩
      · rename_i kd' d' q; cases q2; obtain ⟨o, h1, a, h2, h3⟩ := k.sl i _ q; rw [q4] at h1; cases h1; cases h2; exact ⟨a, rfl, h3⟩
      · cases q2
  · obtain ⟨i1, w1, w2⟩ := adr j1 a h1
    obtain ⟨i2, w3, w4⟩ := adr j2 a h2
    have := k.dis i1 i2 a w2 w4
    subst this
    exact slots_inj nd w1 w3
/-- what a callee has of an own slot: pinned or locked; locked if it is -/
theorem arg_kd {env ae : Env} {as : List AV} {j i : Nat} {k kd : Kd} {d d0 : D} (hm : mkArgs env as = some ae) (h : as[j]?.bind AV.at? = some i) (ha : ae[j]? = some (.ow k d)) (he : env[i]? = some (.ow kd d0)) : k ≠ .fr ∧ d = d0 ∧ (kd = .lk → k = .lk) := by
  obtain ⟨av, q1, q2⟩ := mkArgs_get hm ha
  rw [q1] at h
  cases av with
  | d d => cases h
  | s n =>
    cases h
    unfold argSl at q2
    simp only [he] at q2
    cases kd <;> simp only [Option.some.injEq, Sl.ow.injEq, reduceCtorEq] at q2
    · exact ⟨by rw [← q2.1]; decide, q2.2.symm, fun z => by cases z⟩
    · exact ⟨by rw [← q2.1]; decide, q2.2.symm, fun z => by cases z⟩
  | l n =>
    cases h
    unfold argSl at q2
    simp only [he, Option.some.injEq, Sl.ow.injEq] at q2
    exact ⟨by rw [← q2.1]; decide, q2.2.symm, fun _ => q2.1.symm⟩
/-- the caller behind the call -/
theorem call_back {F H F' H' : Hp} {σ : St} {env ae ae' : Env} {vs : List V} {as : List AV} (k : EnvOk g F H σ env) (ha : Paired (AvOk g F σ) vs as) (nd : noDup (slotsOf as) = true) (hm : mkArgs env as = some ae)
    (x : Ext F H (Own (vs.map some) ae) F' H' (Own (vs.map some) ae')) (k' : EnvOk g F' H' (vs.map some) ae') (kp : Keep (vs.map some) ae (vs.map some) ae') :
    Ext F H (Own σ env) F' H' (Own σ (putBack as ae' env)) ∧ EnvOk g F' H' σ (putBack as ae' env) ∧ Keep σ env σ (putBack as ae' env) := by
  obtain ⟨ka, adr⟩ := args_ok k ha nd hm
  have sub : ∀ a, Own (vs.map some) ae a → Own σ env a := fun a ⟨j, h⟩ => let ⟨i, _, q⟩ := adr j a h; ⟨i, q⟩
  have adr2 : ∀ i a, Adr σ (putBack as ae' env) i a → Adr σ env i a := fun i a ⟨⟨kd, d, h1⟩, h2⟩ => by
    rcases putBack_get h1 with ⟨q, _⟩ | ⟨j, k2, k1, d2, d0, q1, q2, q3, q4⟩
    · exact ⟨⟨_, _, q⟩, h2⟩
    · exact ⟨⟨_, _, q3⟩, h2⟩
  refine ⟨⟨x.sub, fun b o h n => x.keep b o h fun z => n (sub b z), x.dom, fun b h h' => (x.new b h h').imp id (sub b), fun b ⟨i, h⟩ => .inr ⟨i, adr2 i b h⟩⟩,
    ⟨by rw [putBack_len]; exact k.len, k'.sub, fun i s h => ?_, fun i j a h1 h2 => k.dis i j a (adr2 i a h1) (adr2 j a h2)⟩, fun i kd d h n => ?_⟩
  · rcases putBack_get h with ⟨q, hno⟩ | ⟨j, k2, k1, d2, d0, q1, q2, q3, q4⟩
    · obtain ⟨o, h1, h2⟩ := k.sl i s q
      refine ⟨o, h1, ?_⟩
      cases s with
      | no => trivial
      | fz d => obtain ⟨v, h3, h4⟩ := h2; exact ⟨v, h3, h4.mono x.sub⟩
      | ow kd d =>
        obtain ⟨a, h3, h4, h5⟩ := h2
        obtain ⟨ho, hh⟩ := h5.there
        have na : ¬ Own (vs.map some) ae a := fun ⟨j, z⟩ => by
          obtain ⟨i', z1, z2⟩ := adr j a z
          have e := k.dis i' i a z2 ⟨⟨_, _, q⟩, by rw [h1, h3]⟩
          subst e
          obtain ⟨⟨kd2, d2, y1⟩, y2⟩ := z
          obtain ⟨w1, d', w2, w3⟩ := kp j kd2 d2 y1 (arg_kd hm z1 y1 q).1
          exact hno j kd2 d' z1 w2 kd d q
        refine ⟨a, h3, ?_, h5.mono x.sub fun o e => x.keep a o e na⟩
        cases y : F' a with
        | none => rfl
        | some u =>
          rcases x.new a h4 (by rw [y]; simp) with z | z
          · rw [hh] at z; cases z
          · exact absurd z na
    · subst q4
      obtain ⟨o, h1, h2⟩ := k.sl i _ q3
      obtain ⟨a, h3, h4, h5⟩ := h2
      obtain ⟨av, hav, hat⟩ : ∃ av, as[j]? = some av ∧ av.at? = some i := by
        cases hj : as[j]? with
        | none => rw [hj] at q1; cases q1
        | some av => rw [hj] at q1; exact ⟨av, rfl, q1⟩
      obtain ⟨v, y1, y2⟩ := paired_get ha hav
      have y2 : σ[i]? = some (some v) := by
        cases av with
        | d d => cases hat
        | s n => cases hat; exact y2
        | l n => cases hat; exact y2
      obtain ⟨o', w1, w2⟩ := k'.sl j _ q2
      rw [List.getElem?_map, y1] at w1
      cases w1
      rw [y2] at h1; cases h1
      exact ⟨_, y2, w2⟩
  · refine ⟨rfl, ?_⟩
    have hi : i < (putBack as ae' env).length := by rw [putBack_len]; exact lt_of_get h
    have e1 : (putBack as ae' env)[i]? = some ((putBack as ae' env)[i]) := List.getElem?_eq_getElem hi
    rcases putBack_get e1 with ⟨q, _⟩ | ⟨j, k2, k1, d2, d0, q1, q2, q3, q4⟩
    · rw [e1, ← q, h]
      exact ⟨d, rfl, fun _ => rfl⟩
    · rw [h] at q3
      cases q3
      refine ⟨d2, by rw [e1, q4], fun z => ?_⟩
      -- a locked one is handed over as locked
      subst z
      obtain ⟨t, y⟩ : ∃ t, ae[j]? = some t := by
        have hj : j < ae.length := by
          rw [mkArgs_len hm]
          cases hj : as[j]? with
          | none => rw [hj] at q1; cases q1
          | some av => exact lt_of_get hj
        exact ⟨_, List.getElem?_eq_getElem hj⟩
      obtain ⟨av, y3, y4⟩ := mkArgs_get hm y
      have tl : t = .ow .lk d := by
        rw [y3] at q1
        cases av with
        | d d => cases q1
        | s n => cases q1; unfold argSl at y4; simp only [h] at y4; cases y4
        | l n => cases q1; unfold argSl at y4; simp only [h, Option.some.injEq] at y4; exact y4.symm
      subst tl
      obtain ⟨w1, d', w2, w3⟩ := kp j .lk d y (by decide)
      rw [q2] at w2
      cases w2
      exact w3 rfl
def tCallG (g : G) (W : WX) (fm : FM) (t : TA) : TE := fun σ H Q => t σ H fun vs H1 => fnSp g fm vs H1 Q (fun c d H' => W c d σ H')
theorem good_callG {t : TA} {fs : List ME} (h : AllE g W t fs) (fm : FM) (ms : List Md) : GoodE g W (tCallG g W fm t) (mCallF fm ms fs) := fun F H σ env Q k p => by
  refine h.as ms F H σ env _ k (Post.bind RE.early p fun as e1 F1 H1 vs x1 k1 kp1 ha p1 => ?_)
  have ha : Paired (AvOk g F1 σ) vs as := ha
  by_cases nd : noDup (slotsOf as) = true
  · simp only [nd, if_true] at p1
    cases hm : mkArgs e1 as with
    | none => rw [hm] at p1; exact p1.elim
    | some ae =>
      rw [hm] at p1
      simp only at p1
      refine ⟨F1, ae, (args_ok k1 ha nd hm).1, ?_⟩
      cases hf : fm ae with
      | stuck => rw [hf] at p1; exact p1.elim
      | ex c d ae' =>
        rw [hf] at p1
        intro F' H' dd C v x k' kp a1 a2 a3
        obtain ⟨y1, y2, y3⟩ := call_back k1 ha nd hm x k' kp
        exact p1 F' H' dd C v y1 y2 y3 a1 a2 a3
      | ok z =>
        obtain ⟨r, ae'⟩ := z
        rw [hf] at p1
        intro F' H' v x k' kp rv
        obtain ⟨y1, y2, y3⟩ := call_back k1 ha nd hm x k' kp
        cases r with
        | val d => exact p1 F' H' v y1 y2 y3 rv
        | new d =>
          obtain ⟨a, h1, h2, h3, h4, h5⟩ := rv
          refine p1 F' H' v y1 y2 y3 ⟨a, h1, h2, h3, fun z => ?_, h5⟩
          rcases y1.own a z with z' | z'
          · -- owned behind, so owned ahead
            obtain ⟨i, ⟨kd, d2, w1⟩, w2⟩ := z
            rcases putBack_get w1 with ⟨q, _⟩ | ⟨j, k2, k3, d3, d0, q1, q2, q3, q4⟩
            · obtain ⟨o, u1, b, u2, u3, u4⟩ := k1.sl i _ q
              rw [w2] at u1; cases u1; cases u2
              obtain ⟨_, u5⟩ := u4.there
              rw [u5] at z'; cases z'
            · obtain ⟨o, u1, b, u2, u3, u4⟩ := k1.sl i _ q3
              rw [w2] at u1; cases u1; cases u2
              obtain ⟨_, u5⟩ := u4.there
              rw [u5] at z'; cases z'
          · obtain ⟨i, ⟨kd, d2, w1⟩, w2⟩ := z'
            obtain ⟨o, u1, b, u2, u3, u4⟩ := k1.sl i _ w1
            rw [w2] at u1; cases u1; cases u2
            obtain ⟨_, u5⟩ := u4.there
            rw [u5] at h2; cases h2
        | sl i => exact p1.elim
  · simp only [nd, if_false] at p1; exact p1.elim
section
variable {X : Cx} {k : Nat} {f : Addr} {fd : FuncData} {ps : List Str} {fm : FM} {x : Str} {p pos : Pos} {e : Expr} {es : List Expr} {fs : List ME} {ms : List Md}
theorem run_g {pins : List (Addr × Obj)} {σ : St} {H : Hp} {s : Shared} {Q : VK} {us : List Value} {vs : List V} (F : FnG X.prog X.w X.K X.mg X.base k f fd ps fm) (hr : Room k X.A) (gd : X.A.guards = some []) (tk : Takes X W) {args : Args}
    (hb : (us.length = ps.length) → BindsTo s fd args (ps.zip us)) (I : Inv X pins σ H s) (r : Vals vs us) (h : fnSp ⟨X.K, X.mg⟩ fm vs H Q (fun c d H' => W c d σ H')) : codeAny (model X.prog X.w) X.A (.call (.ref f) args) (fun r s' => match r with
      | .ok (.ret u) => EP X pins σ Q u s'
      | .ok _ => False
      | .error e => X.xe e s') s := by
  have hl : us.length = ps.length := by rw [← r.length]; exact fnSp_len F.len h
  refine codeAny_mono (F.run X.A X.stack s H args us vs Q _ hr gd I.env0 (hb hl) r h) fun r s' hq => ?_
  cases r with
  | error e => exact tk e s' (XE.of_call (E := fun c d H' => W c d σ H') I (fun _ _ _ z => z) hq)
  | ok fl =>
    cases fl with
    | ret u => exact I.after hq
    | next => exact hq
    | brk => exact hq
    | cont => exact hq
theorem code_end {M : Model} {A : Around} {c : Code} {s : Shared} {Q E : Value → Shared → Prop} (h : codeAny M A c (fun r s' => match r with
      | .ok (.ret u) => Q u s'
      | .ok _ => False
      | .error e => E e s') s) : codeAny M A c (fun r s' => match r with
      | .ok (.ret u) => Q u s'
      | .ok _ => False
      | .error e => E e s') s := h
end
end DL
namespace DL
open PySem PySem.Spec L2
open PyProof.Rows (envOfC)
variable {g : G} {W : WX}
section
variable {X : Cx} {k : Nat} {f : Addr} {fd : FuncData} {ps : List Str} {fm : FM} {x : Str} {p pos : Pos} {e : Expr} {es : List Expr} {fs : List ME} {ms : List Md} {t : TA}
theorem pe_callG (F : FnG X.prog X.w X.K X.mg X.base k f fd ps fm) (hr : Room k X.A) (gd : X.A.guards = some []) (tk : Takes X W) (hg : Gl X x) (hm : X.mg x = some (.ref f)) (hk : PySem.W.keepIn X.K (.ref f) = true) (hb : Binds X.K fd ps []) (ha : PA X (e :: es) t)
    (hdb : (x == ("__debug__" : Str)) = false := by decide) (he : starEach (e :: es) X.env = (false, eval e X.env) :: starEach es X.env := by rfl) (hpl : (backTo pos (starEach es X.env)).any (·.1) = false := by rfl) :
    PE X (.Call (.Name x p) (e :: es) [] pos) (tCallG ⟨X.K, X.mg⟩ W fm t) := by
  refine ⟨fun pins s σ H Q I h => wpAny_Call_Name_kw (ld_glob I hg hm ?_ hdb)⟩
  refine PySem.W.callWith_K (h₀ := X.base) I.ok.mod.kin hk (thn (ha.run pos pins s σ H _ I h) fun us s1 ⟨vs, H1, I1, r, q⟩ => ⟨I1.kIn, ?_⟩) he hpl
  refine wpAny_call (run_g F hr gd tk (args := ⟨us, []⟩) (fun hl => ?_) I1 r q)
  have := hb s1 us I1.kIn (by rw [List.append_nil]; exact hl)
  rw [List.append_nil] at this
  exact this
theorem de_call (F : FnG X.prog X.w X.K X.mg X.base k f fd ps fm) (hr : Room k X.A) (gd : X.A.guards = some []) (tk : Takes X W) (hg : Gl X x) (hm : X.mg x = some (.ref f)) (hk : PySem.W.keepIn X.K (.ref f) = true) (hb : Binds X.K fd ps []) (ms : List Md) (ha : DA X W (e :: es) fs)
    (hdb : (x == ("__debug__" : Str)) = false := by decide) (he : starEach (e :: es) X.env = (false, eval e X.env) :: starEach es X.env := by rfl) (hpl : (backTo pos (starEach es X.env)).any (·.1) = false := by rfl) :
    DE X W (.Call (.Name x p) (e :: es) [] pos) (mCallF fm ms fs) := by
  obtain ⟨t, pt, gt⟩ := ha
  exact ⟨_, pe_callG F hr gd tk hg hm hk hb pt hdb he hpl, good_callG gt fm ms⟩
end
/-! ### keywords -/
structure DK (X : Cx) (W : WX) (kws : List Keyword) (fs : List ME) : Prop where
  ex : ∃ t, PK X kws t ∧ AllE ⟨X.K, X.mg⟩ W t fs
theorem dk_nil {X : Cx} : DK X W [] [] := ⟨_, pk_nil, .nil⟩
theorem dk_cons {X : Cx} {nm : Option Str} {e : Expr} {kpos : Pos} {kws : List Keyword} {f : ME} {fs : List ME} (h : DE X W e f) (hr : DK X W kws fs) : DK X W (⟨nm, e, kpos⟩ :: kws) (f :: fs) := by
  obtain ⟨t, p, q⟩ := h
  obtain ⟨u, p2, q2⟩ := hr
  exact ⟨_, pk_cons p p2, .cons q q2⟩
def pick {α : Type} (dflt : α) (perm : List Nat) (l : List α) : List α := perm.map fun i => l.getD i dflt
def pickV (np nk : Nat) (perm : List Nat) (us ws : List Value) : List Value := if us.length = np ∧ ws.length = nk then pick Value.none perm (us ++ ws) else []
structure KB (K : PySem.W.Frag) (fd : FuncData) (ps ks : List Str) (np : Nat) (perm : List Nat) : Prop where
  to : ∀ (s : Shared) (us ws : List Value), K.In s.heap → us.length = np → ws.length = ks.length → BindsTo s fd ⟨us, ks.zip ws⟩ (ps.zip (pick Value.none perm (us ++ ws)))
  lt : ∀ i ∈ perm, i < np + ks.length
  len : perm.length = ps.length
/-- what a callee gives that is handed data alone -/
def fzRes (env : Env) : Res (Rv × Env) → Res (Rv × Env)
  | .ok (.val d, _) => .ok (.val d, env)
  | .ok (.new d, _) => .ok (.new d, env)
  | .ok (.sl _, _) => .stuck
  | .ex c d _ => .ex c d env
  | .stuck => .stuck
def mCallK (fm : FM) (perm : List Nat) (np nk : Nat) (fs ks : List ME) : ME := fun env => evDs fs env >>= fun z => evDs ks z.2 >>= fun y =>
  if z.1.length = np ∧ y.1.length = nk then fzRes y.2 (fm ((pick PyData.none perm (z.1 ++ y.1)).map .fz)) else .stuck
theorem fz_env {F H : Hp} {vs : List V} {ds : List D} (s : Sub F H) (h : DenL g F vs ds) : EnvOk g F H (vs.map some) (ds.map .fz) ∧ ∀ a, ¬ Own (vs.map some) (ds.map .fz) a := by
  have no : ∀ (i : Nat) (k : Kd) (d : D), (ds.map Sl.fz)[i]? ≠ some (.ow k d) := fun i k d e => by
    rw [List.getElem?_map] at e
    cases q : ds[i]? with
    | none => rw [q] at e; cases e
    | some u => rw [q] at e; cases e
  refine ⟨⟨by simp [h.length], s, fun i sl e => ?_, fun i j a h1 _ => by obtain ⟨⟨k, d, z⟩, _⟩ := h1; exact absurd z (no i k d)⟩, fun a ⟨i, ⟨k, d, z⟩, _⟩ => no i k d z⟩
  rw [List.getElem?_map] at e
  cases q : ds[i]? with
  | none => rw [q] at e; cases e
  | some d =>
    rw [q] at e
    cases e
    obtain ⟨v, h1, h2⟩ := h.get q
    exact ⟨some v, by rw [List.getElem?_map, h1]; rfl, v, rfl, h2⟩
theorem DenL.getD {F : Hp} {vs : List V} {ds : List D} (h : DenL g F vs ds) (i : Nat) : Den g F (vs.getD i .non) (ds.getD i .none) := by
  rw [List.getD_eq_getElem?_getD, List.getD_eq_getElem?_getD]
  cases q : ds[i]? with
  | none =>
    have : vs[i]? = none := by
      have := h.length
      rw [List.getElem?_eq_none_iff] at q ⊢
      omega
    rw [this]; exact .non
  | some d =>
    obtain ⟨v, h1, h2⟩ := h.get q
    rw [h1]; exact h2
theorem DenL.pick {F : Hp} {vs : List V} {ds : List D} (h : DenL g F vs ds) : ∀ perm : List Nat, DenL g F (DL.pick V.non perm vs) (DL.pick PyData.none perm ds)
  | [] => .nil
  | i :: r => .cons (h.getD i) (DenL.pick h r)
theorem Vals.getD {vs : List V} {us : List Value} (h : Vals vs us) (i : Nat) : RelV (vs.getD i .non) (us.getD i .none) := by
  rw [List.getD_eq_getElem?_getD, List.getD_eq_getElem?_getD]
  cases q : vs[i]? with
  | none =>
    rw [h.none_of q]; rfl
  | some d =>
    obtain ⟨v, h1, h2⟩ := h.get q
    rw [h1]; exact h2
theorem Vals.pick {vs : List V} {us : List Value} (h : Vals vs us) : ∀ perm : List Nat, Vals (DL.pick V.non perm vs) (DL.pick Value.none perm us)
  | [] => .nil
  | i :: r => .cons (Vals.getD h i) (Vals.pick h r)
/-- a callee that is handed data alone -/
theorem call_fz {F H : Hp} {σ : St} {env : Env} {vs : List V} {ds : List D} {Q : VK} {fm : FM} (k : EnvOk g F H σ env) (h : DenL g F vs ds)
    (p : Post (RE g) g W F H σ env Q (fzRes env (fm (ds.map .fz)))) : fnSp g fm vs H Q (fun c d H' => W c d σ H') := by
  obtain ⟨ke, no⟩ := fz_env k.sub h
  refine ⟨F, ds.map .fz, ke, ?_⟩
  have grow : ∀ {F' H' : Hp} {O' : Addr → Prop}, Ext F H (Own (vs.map some) (ds.map .fz)) F' H' O' → Sub F' H' → Grow F H F' H' := fun x s =>
    ⟨x.sub, fun b o e => x.keep b o e (no b), fun b e e' => (x.new b e e').resolve_right (no b), s⟩
  cases hf : fm (ds.map .fz) with
  | stuck => rw [hf] at p; exact p.elim
  | ex c d e =>
    rw [hf] at p
    intro F' H' dd C v x k' kp a1 a2 a3
    have gr := grow x k'.sub
    exact p F' H' dd C v gr.ext (k.grow gr) .refl a1 a2 a3
  | ok z =>
    obtain ⟨r, e⟩ := z
    rw [hf] at p
    intro F' H' v x k' kp rv
    have gr := grow x k'.sub
    cases r with
    | val d => exact p F' H' v gr.ext (k.grow gr) .refl rv
    | new d =>
      obtain ⟨a, h1, h2, h3, h4, h5⟩ := rv
      exact p F' H' v gr.ext (k.grow gr) .refl ⟨a, h1, h2, h3, (k.fresh h2).2, h5⟩
    | sl i => exact p.elim
def tCallKG (g : G) (W : WX) (fm : FM) (perm : List Nat) (np nk : Nat) (t tk : TA) : TE := fun σ H Q => t σ H fun vs H1 => tk σ H1 fun zs H2 => vs.length = np ∧ zs.length = nk ∧ fnSp g fm (pick V.non perm (vs ++ zs)) H2 Q (fun c d H' => W c d σ H')
theorem good_callK {t tk : TA} {fs ks : List ME} (h : AllE g W t fs) (hk : AllE g W tk ks) (fm : FM) (perm : List Nat) (np nk : Nat) : GoodE g W (tCallKG g W fm perm np nk t tk) (mCallK fm perm np nk fs ks) := fun F H σ env Q k p => by
  refine h.ds F H σ env _ k (Post.bind (R := RDs g) RE.early p fun ds e1 F1 H1 vs x1 k1 kp1 hd p1 => ?_)
  have hd : DenL g F1 vs ds := hd
  refine hk.ds F1 H1 σ e1 _ k1 (Post.bind (R := RDs g) RE.early p1 fun es e2 F2 H2 zs x2 k2 kp2 he p2 => ?_)
  have he : DenL g F2 zs es := he
  have hd2 := hd.mono x2.sub
  by_cases hl : ds.length = np ∧ es.length = nk
  · rw [if_pos hl] at p2
    exact ⟨by rw [hd.length]; exact hl.1, by rw [he.length]; exact hl.2, call_fz k2 ((hd2.append he).pick perm) p2⟩
  · rw [if_neg hl] at p2; exact p2.elim
section
variable {X : Cx} {k : Nat} {f : Addr} {fd : FuncData} {ps ks : List Str} {fm : FM} {x : Str} {p pos : Pos} {e : Expr} {es : List Expr} {kws : List Keyword} {fs gs : List ME} {t tk : TA} {np : Nat} {perm : List Nat}
theorem pick_length {α : Type} {d : α} {perm : List Nat} {l : List α} : (pick d perm l).length = perm.length := by simp [pick]
theorem run_k {pins : List (Addr × Obj)} {σ : St} {H : Hp} {s : Shared} {Q : VK} {us ws : List Value} {vs zs : List V} (F : FnG X.prog X.w X.K X.mg X.base k f fd ps fm) (hr : Room k X.A) (gd : X.A.guards = some []) (tw : Takes X W) (hb : KB X.K fd ps ks np perm)
    (I : Inv X pins σ H s) (r : Vals vs us) (r2 : Vals zs ws) (l1 : vs.length = np) (l2 : zs.length = ks.length) (h : fnSp ⟨X.K, X.mg⟩ fm (pick V.non perm (vs ++ zs)) H Q (fun c d H' => W c d σ H')) :
    wpAny (model X.prog X.w) X.A (call (.ref f) us (ks.zip ws)) (EP X pins σ Q) X.xe s :=
  wpAny_call (run_g F hr gd tw (us := pick Value.none perm (us ++ ws)) (args := ⟨us, ks.zip ws⟩) (fun _ => hb.to s us ws I.kIn (by rw [← r.length]; exact l1) (by rw [← r2.length]; exact l2)) I (Vals.pick (r.append r2) perm) h)
theorem de_callK (F : FnG X.prog X.w X.K X.mg X.base k f fd ps fm) (hr : Room k X.A) (gd : X.A.guards = some []) (tw : Takes X W) (hg : Gl X x) (hm : X.mg x = some (.ref f)) (hk : PySem.W.keepIn X.K (.ref f) = true) (hb : KB X.K fd ps ks np perm) (ha : DA X W (e :: es) fs) (hkw : DK X W kws gs)
    (hall : (backToKw pos (keywordEach kws X.env)).all (·.1.isSome) = true := by rfl) (hks : (backToKw pos (keywordEach kws X.env)).filterMap (·.1) = ks := by rfl) (hdb : (x == ("__debug__" : Str)) = false := by decide) (he : starEach (e :: es) X.env = (false, eval e X.env) :: starEach es X.env := by rfl)
    (hpl : ((backTo pos (starEach (e :: es) X.env)).any (·.1) || (backToKw pos (keywordEach kws X.env)).any (·.1.isNone)) = false := by rfl) : DE X W (.Call (.Name x p) (e :: es) kws pos) (mCallK fm perm np ks.length fs gs) := by
  obtain ⟨t, pt, gt⟩ := ha
  obtain ⟨tk, pk, gk⟩ := hkw
  refine ⟨tCallKG ⟨X.K, X.mg⟩ W fm perm np ks.length t tk, ⟨fun pins s σ H Q I h => wpAny_Call_Name_kw (ld_glob I hg hm ?_ hdb)⟩, good_callK gt gk fm perm np ks.length⟩
  refine PySem.W.callWith_KW (h₀ := X.base) I.ok.mod.kin hk hall (thn (pt.run pos pins s σ H _ I h) fun us s1 ⟨vs, H1, I1, r, q⟩ => ?_) hpl he
  refine thn (pk.run pos pins s1 σ H1 _ I1 q) fun ws s2 ⟨zs, H2, I2, rz, l1, l2, q2⟩ => ⟨I2.kIn, ?_⟩
  rw [hks]
  exact run_k F hr gd tw hb I2 r rz l1 l2 q2
/-- keywords alone -/
theorem de_callK0 (F : FnG X.prog X.w X.K X.mg X.base k f fd ps fm) (hr : Room k X.A) (gd : X.A.guards = some []) (tw : Takes X W) (hg : Gl X x) (hm : X.mg x = some (.ref f)) (hk : PySem.W.keepIn X.K (.ref f) = true) (hb : KB X.K fd ps ks 0 perm) (hkw : DK X W kws gs)
    (hall : (backToKw pos (keywordEach kws X.env)).all (·.1.isSome) = true := by rfl) (hks : (backToKw pos (keywordEach kws X.env)).filterMap (·.1) = ks := by rfl) (hdb : (x == ("__debug__" : Str)) = false := by decide)
    (hpl : ((backTo pos (starEach [] X.env)).any (·.1) || (backToKw pos (keywordEach kws X.env)).any (·.1.isNone)) = false := by rfl) : DE X W (.Call (.Name x p) [] kws pos) (mCallK fm perm 0 ks.length [] gs) := by
  obtain ⟨tk, pk, gk⟩ := hkw
  refine ⟨tCallKG ⟨X.K, X.mg⟩ W fm perm 0 ks.length tNil tk, ⟨fun pins s σ H Q I h => wpAny_Call_Name_kw (ld_glob I hg hm ?_ hdb)⟩, good_callK .nil gk fm perm 0 ks.length⟩
  refine PySem.W.callWith_KW0 (h₀ := X.base) I.ok.mod.kin hk hall (thn (pk.run pos pins s σ H _ I h) fun ws s2 ⟨zs, H2, I2, rz, l1, l2, q2⟩ => ⟨I2.kIn, ?_⟩) hpl
  rw [hks]
  exact run_k (us := []) F hr gd tw hb I2 .nil rz l1 l2 q2
end
end DL
namespace DL
open PySem PySem.Spec L2
variable {g : G} {W : WX}

/-! ### texts and their code points -/
theorem strOk_iff {x : Str} : strOk x = true ↔ ∀ c ∈ x.cps.toList, c < 0x110000 := by
  show (x.cps.all (· < 0x110000)) = true ↔ _
  rw [Array.all_eq_true_iff_forall_mem]
  simp
theorem strOk_app {x y : Str} (h : strOk x = true) (k : strOk y = true) : strOk (x ++ y) = true := by
  rw [strOk_iff] at h k ⊢
  intro c hc
  have : (x ++ y).cps.toList = x.cps.toList ++ y.cps.toList := by show (x.cps ++ y.cps).toList = _; simp
  rw [this, List.mem_append] at hc
  exact hc.elim (h c) (k c)
theorem strOk_sub {x : Str} {l : List Nat} (h : strOk x = true) (s : ∀ c ∈ l, c ∈ x.cps.toList) : strOk ⟨l.toArray⟩ = true := by
  rw [strOk_iff] at h ⊢
  intro c hc
  exact h c (s c (by simpa using hc))
theorem strOk_cut {x : Str} {lo hi : Option Int} (h : strOk x = true) : strOk (cutS x lo hi) = true :=
  strOk_sub h fun c hc => List.mem_of_mem_drop (List.mem_of_mem_take hc)

/-! ### + -/
def dAdd : D → D → Option Rv
  | .int i, .int j => some (.val (.int (i + j)))
  | .str x, .str y => if x.length + y.length ≤ lineM then some (.val (.str (x ++ y))) else none
  | .list xs, .list ys => if xs.length + ys.length ≤ lineM then some (.new (.list (xs ++ ys))) else none
  | .tuple xs, .tuple ys => if xs.length + ys.length ≤ lineM then some (.val (.tuple (xs ++ ys))) else none
  | _, _ => none
abbrev rAddD (K : PySem.W.Frag) : R2 := fun x y H Q => (rI0 (fun i j => .int (i + j)) x y H Q ∨ ∃ i j, x = .str i ∧ y = .str j ∧ i.length + j.length ≤ sizeLine ∧ Q (.str (i ++ j)) H) ∨ (rCat x y H Q ∨ rCatA K x y H Q)
theorem op_addD {X : Cx} : OpR X (binaryOp .Add) (rAddD X.K) := OpR.or (OpR.or op_add op_add_str) (OpR.or op_cat op_catA)
theorem good_add : Good2 g (rAddD g.K) dAdd := by
  refine ⟨fun F H x y d e Q s hx hy p => ?_, fun d e => ?_⟩
  · unfold dAdd at p
    split at p
    · exact .inl (.inl ⟨_, _, hx.int, hy.int, p.val0 s (.int _)⟩)
    · split at p
      · rename_i hl
        obtain ⟨e1, o1⟩ := hx.str
        obtain ⟨e2, o2⟩ := hy.str
        exact .inl (.inr ⟨_, _, e1, e2, by rw [lineM_eq]; exact hl, p.val0 s (.str _ (strOk_app o1 o2))⟩)
      · exact p.elim
    · split at p
      · rename_i hl
        obtain ⟨a, xs, e1, h1, d1⟩ := hx.lst s
        obtain ⟨b, ys, e2, h2, d2⟩ := hy.lst s
        exact .inr (.inl ⟨a, b, xs, ys, e1, e2, h1, h2, by rw [d1.length, d2.length, lineM_eq]; exact hl, fun q hq => p.newL s hq (d1.append d2)⟩)
      · exact p.elim
    · split at p
      · rename_i hl
        obtain ⟨a, xs, e1, h1, d1⟩ := hx.tup s
        obtain ⟨b, ys, e2, h2, d2⟩ := hy.tup s
        have hden : ∀ {F' : Hp}, Sub F F' → DenL g F' (xs ++ ys) _ := fun s' => (d1.append d2).mono s'
        refine .inr (.inr ⟨a, b, xs, ys, e1, e2, h1, h2, by rw [d1.length, d2.length, lineM_eq]; exact hl, fun z => ?_, fun z z2 => ?_, fun _ _ q hq => p.valT s hq (d1.append d2)⟩)
        · subst z
          cases d1
          subst e2
          rcases hy with hy | ⟨_, _, w⟩
          · exact p.val0 s (by simpa using hy)
          · cases w <;> (rename_i e; cases e)
        · subst z2
          cases d2
          subst e1
          rcases hx with hx | ⟨_, _, w⟩
          · exact p.val0 s (by simpa using hx)
          · cases w <;> (rename_i e; cases e)
      · exact p.elim
    · exact p.elim
  · unfold dAdd
    split <;> first | exact NoSl.val | exact NoSl.none | (split <;> first | exact NoSl.val | exact NoSl.new | exact NoSl.none)

/-! ### ints -/
def dSub : D → D → Option Rv
  | .int i, .int j => some (.val (.int (i - j)))
  | _, _ => none
theorem good_sub : Good2 g (rI0 fun i j => .int (i - j)) dSub := by
  refine ⟨fun F H x y d e Q s hx hy p => ?_, fun d e => ?_⟩
  · unfold dSub at p
    split at p
    · exact ⟨_, _, hx.int, hy.int, p.val0 s (.int _)⟩
    · exact p.elim
  · unfold dSub; split <;> first | exact NoSl.val | exact NoSl.none
def dDiv : D → D → Option Rv
  | .int i, .int j => if 0 < j ∧ j.natAbs.log2 < 9000 then some (.val (.int (i / j))) else none
  | _, _ => none
theorem good_div : Good2 g (rI CDivW fun i j => .int (i / j)) dDiv := by
  refine ⟨fun F H x y d e Q s hx hy p => ?_, fun d e => ?_⟩
  · unfold dDiv at p
    split at p
    · split at p
      · rename_i h; exact ⟨_, _, hx.int, hy.int, h, p.val0 s (.int _)⟩
      · exact p.elim
    · exact p.elim
  · unfold dDiv; split <;> first | exact NoSl.none | (split <;> first | exact NoSl.val | exact NoSl.none)
def dMod : D → D → Option Rv
  | .int i, .int j => if 0 < j then some (.val (.int (i % j))) else none
  | _, _ => none
theorem good_mod : Good2 g (rI (fun _ j => 0 < j) fun i j => .int (i % j)) dMod := by
  refine ⟨fun F H x y d e Q s hx hy p => ?_, fun d e => ?_⟩
  · unfold dMod at p
    split at p
    · split at p
      · rename_i h; exact ⟨_, _, hx.int, hy.int, h, p.val0 s (.int _)⟩
      · exact p.elim
    · exact p.elim
  · unfold dMod; split <;> first | exact NoSl.none | (split <;> first | exact NoSl.val | exact NoSl.none)
def CPowD (i j : Int) : Prop := 0 ≤ j ∧ ((i.natAbs.log2 + 1 : Nat) : Int) * j ≤ 100000000
instance {i j : Int} : Decidable (CPowD i j) := inferInstanceAs (Decidable (_ ∧ _))
theorem op_powD {X : Cx} : OpR X (binaryOp .Pow) (rI CPowD fun i j => .int (i ^ j.toNat)) := opI fun i j _ _ _ _ _ hc q => by
  refine PyProof.Rows.pow_int hc.1 ?_ q
  have b : Builtin.Int.intBits i ≤ i.natAbs.log2 + 1 := by
    unfold Builtin.Int.intBits
    split <;> omega
  have h1 : ((Builtin.Int.intBits i : Nat) : Int) * j ≤ ((i.natAbs.log2 + 1 : Nat) : Int) * j := Int.mul_le_mul_of_nonneg_right (by omega) hc.1
  have h2 := hc.2
  have h3 : (2 : Int) ^ 27 = 134217728 := by decide
  rw [h3]
  omega
def dPow : D → D → Option Rv
  | .int i, .int j => if CPowD i j then some (.val (.int (i ^ j.toNat))) else none
  | _, _ => none
theorem good_pow : Good2 g (rI CPowD fun i j => .int (i ^ j.toNat)) dPow := by
  refine ⟨fun F H x y d e Q s hx hy p => ?_, fun d e => ?_⟩
  · unfold dPow at p
    split at p
    · split at p
      · rename_i h; exact ⟨_, _, hx.int, hy.int, h, p.val0 s (.int _)⟩
      · exact p.elim
    · exact p.elim
  · unfold dPow; split <;> first | exact NoSl.none | (split <;> first | exact NoSl.val | exact NoSl.none)

/-! ### * -/
def repS (x : Str) (n : Nat) : Str := ⟨(List.replicate n x.cps.toList).flatten.toArray⟩
theorem strOk_rep {x : Str} {n : Nat} (h : strOk x = true) : strOk (repS x n) = true := strOk_sub h fun c hc => by
  rw [List.mem_flatten] at hc
  obtain ⟨l, h1, h2⟩ := hc
  rw [List.mem_replicate] at h1
  rw [← h1.2]; exact h2
theorem foldl_arr (a : Array Nat) : ∀ (n : Nat) (acc : Array Nat), (List.replicate n a).foldl (· ++ ·) acc = (acc.toList ++ (List.replicate n a.toList).flatten).toArray
  | 0, acc => by simp
  | n + 1, acc => by
    rw [List.replicate_succ, List.foldl_cons, foldl_arr a n]
    simp [List.replicate_succ]
def dMul : D → D → Option Rv
  | .int i, .int j => if i.natAbs.log2 + j.natAbs.log2 < 1000000 then some (.val (.int (i * j))) else none
  | .str x, .int n => if n < 10000000 ∧ -10000000 < n ∧ x.length * n.toNat ≤ 10000000 then some (.val (.str (repS x n.toNat))) else none
  | .list xs, .int n => if n < 10000000 ∧ -10000000 < n ∧ xs.length * n.toNat ≤ lineM then some (.new (.list (List.replicate n.toNat xs).flatten)) else none
  | _, _ => none
def rMulS : R2 := fun x y H Q => ∃ z n, x = .str z ∧ y = .int n ∧ n < 10000000 ∧ -10000000 < n ∧ z.length * n.toNat ≤ 10000000 ∧ Q (.str (repS z n.toNat)) H
theorem op_mulS {X : Cx} : OpR X (binaryOp .Mult) rMulS := by
  intro pins s σ H x y v u Q I rx ry h
  obtain ⟨z, n, rfl, rfl, h1, h2, h3, q⟩ := h
  obtain ⟨t, rfl⟩ := rx
  obtain ⟨t', rfl⟩ := ry
  have fits : ∀ m : Nat, m ≤ 10000000 → Builtin.Str.tooLong m = false := fun m hm => by
    unfold Builtin.Str.tooLong
    rw [sizeLine_eq]
    exact decide_eq_false (by omega)
  refine PySem.P.mul_str ?_ (fun a b c => ?_) (fun a b => fits _ h3) ?_
  · rw [decide_eq_false (by omega), decide_eq_false (by omega)]; rfl
  · have hz : (z.length : Int) ≤ 10000000 := by
      have : z.length * 1 ≤ z.length * n.toNat := Nat.mul_le_mul_left _ (by omega)
      omega
    have h9 : (10000000 : Int) ≤ (2 ^ 63 - 1) / n := by
      rw [Int.le_ediv_iff_mul_le (by omega)]
      have : (10000000 : Int) * n ≤ 10000000 * 10000000 := by omega
      have h63 : (2 : Int) ^ 63 = 9223372036854775808 := by decide
      omega
    omega
  · by_cases hn : n < 1
    · rw [if_pos hn]
      have e0 : n.toNat = 0 := by omega
      refine ⟨by decide, ⟨.str (repS z n.toNat), H, I.tok _, ⟨s.toks, ?_⟩, q⟩⟩
      rw [e0]; rfl
    · rw [if_neg hn]
      by_cases h4 : (n == 1 || z.length == 0) = true
      · rw [if_pos h4]
        have e : repS z n.toNat = z := by
          rw [Bool.or_eq_true] at h4
          rcases h4 with h4 | h4
          · have : n = 1 := by simpa using h4
            subst this
            show (⟨(List.replicate 1 z.cps.toList).flatten.toArray⟩ : Str) = z
            simp
          · have hz : z.cps.size = 0 := by simpa [Str.length] using h4
            have hz2 : z.cps = #[] := Array.eq_empty_of_size_eq_zero hz
            show (⟨(List.replicate n.toNat z.cps.toList).flatten.toArray⟩ : Str) = z
            cases z
            simp at hz2
            subst hz2
            simp
        exact ⟨.str (repS z n.toNat), H, I, ⟨t, by rw [e]⟩, q⟩
      · rw [if_neg h4]
        have e : (⟨(List.replicate n.toNat z.cps).foldl (· ++ ·) #[]⟩ : Str) = repS z n.toNat := by
          rw [foldl_arr]; simp [repS]
        rw [e]
        refine ⟨?_, ⟨.str (repS z n.toNat), H, I.tok _, ⟨s.toks, rfl⟩, q⟩⟩
        have : (repS z n.toNat).length = n.toNat * z.length := by
          show ((List.replicate n.toNat z.cps.toList).flatten.toArray).size = _
          simp [Str.length]
        rw [this, sizeLine_eq, Nat.mul_comm]
        omega
end DL
namespace DL
open PySem PySem.Spec L2
variable {g : G} {W : WX}

abbrev rMulD : R2 := fun x y H Q => (rI CMulW (fun i j => .int (i * j)) x y H Q ∨ rMulS x y H Q) ∨ rRep x y H Q
theorem op_mulD {X : Cx} : OpR X (binaryOp .Mult) rMulD := OpR.or (OpR.or op_mulW op_mulS) op_rep
theorem DenL.rep {F : Hp} {xs : List V} {ds : List D} (h : DenL g F xs ds) : ∀ n : Nat, DenL g F (List.replicate n xs).flatten (List.replicate n ds).flatten
  | 0 => .nil
  | n + 1 => by rw [List.replicate_succ, List.replicate_succ]; exact h.append (DenL.rep h n)
theorem good_mul : Good2 g rMulD dMul := by
  refine ⟨fun F H x y d e Q s hx hy p => ?_, fun d e => ?_⟩
  · unfold dMul at p
    split at p
    · split at p
      · rename_i h; exact .inl (.inl ⟨_, _, hx.int, hy.int, h, p.val0 s (.int _)⟩)
      · exact p.elim
    · split at p
      · rename_i h
        obtain ⟨e1, o1⟩ := hx.str
        exact .inl (.inr ⟨_, _, e1, hy.int, h.1, h.2.1, h.2.2, p.val0 s (.str _ (strOk_rep o1))⟩)
      · exact p.elim
    · split at p
      · rename_i xs n h
        obtain ⟨a, vs, e1, h1, d1⟩ := hx.lst s
        have h63 : (2 : Int) ^ 63 = 9223372036854775808 := by decide
        exact .inr ⟨a, _, vs, e1, hy.int, h1, by omega, by omega, by rw [d1.length, lineM_eq]; exact h.2.2, fun q hq => p.newL s hq (d1.rep _)⟩
      · exact p.elim
    · exact p.elim
  · unfold dMul
    split <;> first | exact NoSl.none | (split <;> first | exact NoSl.val | exact NoSl.new | exact NoSl.none)

/-! ### data as the library reads it -/
mutual
theorem Den.dp {F H : Hp} (s : Sub F H) : ∀ {v : V} {d : D}, Den g F v d → d.hasDict = false → Dp g.K H v d ∧ d.canLay0 = true
  | _, _, .non, _ => ⟨.non, by simp only [PyData.canLay0]⟩
  | _, _, .bl b, _ => ⟨.bl b, by simp only [PyData.canLay0]⟩
  | _, _, .int i, _ => ⟨.int i, by simp only [PyData.canLay0]⟩
  | _, _, .str x h, _ => ⟨.str x, by simp only [PyData.canLay0]; exact h⟩
  | _, _, .lst h r, n => by
    obtain ⟨q1, q2⟩ := DenL.dp s r (by simpa only [PyData.hasDict] using n)
    exact ⟨.lst (.inl (.inl (s _ _ h))) q1, by simp only [PyData.canLay0]; exact q2⟩
  | _, _, .tup h r, n => by
    obtain ⟨q1, q2⟩ := DenL.dp s r (by simpa only [PyData.hasDict] using n)
    exact ⟨.tup (s.sqT h) q1, by simp only [PyData.canLay0]; exact q2⟩
  | _, _, .ro _ _ e, n => by subst e; simp only [roD, PyData.hasDict] at n; cases n
  | _, _, .ins _ _ _ _ e, n => by subst e; simp only [insD, PyData.hasDict] at n; cases n
  | _, _, .dctK _ _ _ _ e, n => by subst e; simp only [PyData.hasDict] at n; cases n
  | _, _, .dctT _ _ _ _ e, n => by subst e; simp only [PyData.hasDict] at n; cases n
  | _, _, .exc _ _ _ _ e, n => by subst e; simp only [excD, PyData.hasDict] at n; cases n
theorem DenL.dp {F H : Hp} (s : Sub F H) : ∀ {vs : List V} {ds : List D}, DenL g F vs ds → PyData.hasDictAll ds = false → DpAll g.K H vs ds ∧ PyData.canLayAll0 ds = true
  | _, _, .nil, _ => ⟨.nil, by simp only [PyData.canLayAll0]⟩
  | _, _, .cons h r, n => by
    simp only [PyData.hasDictAll, Bool.or_eq_false_iff] at n
    obtain ⟨q1, q2⟩ := Den.dp s h n.1
    obtain ⟨q3, q4⟩ := DenL.dp s r n.2
    exact ⟨.cons q1 q3, by simp only [PyData.canLayAll0, q2, q4, Bool.and_self]⟩
end
theorem Pk.dp {F H : Hp} {v : V} {d : D} (s : Sub F H) (h : Pk g F H v d) (n : d.hasDict = false) : Dp g.K H v d ∧ d.canLay0 = true := by
  rcases h with h | ⟨a, e, h⟩
  · exact h.dp s n
  · subst e
    cases h with
    | lst h r =>
      obtain ⟨q1, q2⟩ := DenL.dp s r (by simpa only [PyData.hasDict] using n)
      exact ⟨.lst (.inl (.inl h)) q1, by simp only [PyData.canLay0]; exact q2⟩
    | dctK _ _ _ _ e => subst e; simp only [PyData.hasDict] at n; cases n
    | dctT _ _ _ _ e => subst e; simp only [PyData.hasDict] at n; cases n
    | ins _ _ _ _ e => subst e; simp only [insD, PyData.hasDict] at n; cases n
/-- data that can be compared -/
def okD (d : D) : Bool := !d.hasDict && decide (d.depth ≤ 64)
theorem Pk.cmp {F H : Hp} {v : V} {d : D} (s : Sub F H) (h : Pk g F H v d) (n : okD d = true) : Dp g.K H v d ∧ SeqAt.shaped d = true := by
  unfold okD at n
  simp only [Bool.and_eq_true, Bool.not_eq_true', decide_eq_true_eq] at n
  obtain ⟨q1, q2⟩ := h.dp s n.1
  exact ⟨q1, by unfold SeqAt.shaped; simp [q2, n.2]⟩
def dEq (d e : D) : Option Rv := if okD d && okD e then some (.val (.bool (PyData.eqv d e))) else none
def dNe (d e : D) : Option Rv := if okD d && okD e then some (.val (.bool (!PyData.eqv d e))) else none
theorem good_eq : Good2B g (rEqD g.K) dEq := by
  have k : ∀ F H x y d e b, Sub F H → Pk g F H x d → Pk g F H y e → dEq d e = some (.val (.bool b)) → ∀ Q : VK, Q (.bl b) H → rEqD g.K x y H Q := fun F H x y d e b s hx hy q Q hq => by
    unfold dEq at q
    split at q
    · rename_i h
      rw [Bool.and_eq_true] at h
      cases q
      obtain ⟨q1, q2⟩ := hx.cmp s h.1
      obtain ⟨q3, q4⟩ := hy.cmp s h.2
      exact ⟨d, e, q1, q3, q2, q4, hq⟩
    · cases q
  refine ⟨⟨fun F H x y d e Q s hx hy p => ?_, fun d e => ?_⟩, k⟩
  · cases q : dEq d e with
    | none => rw [q] at p; exact p.elim
    | some r =>
      have : ∃ b, r = .val (.bool b) := by
        unfold dEq at q
        split at q
        · cases q; exact ⟨_, rfl⟩
        · cases q
      obtain ⟨b, rfl⟩ := this
      rw [q] at p
      exact k F H x y d e b s hx hy q Q (p.val0 s (.bl b))
  · unfold dEq; split <;> first | exact NoSl.val | exact NoSl.none
theorem good_ne : Good2B g (rNeD g.K) dNe := by
  have k : ∀ F H x y d e b, Sub F H → Pk g F H x d → Pk g F H y e → dNe d e = some (.val (.bool b)) → ∀ Q : VK, Q (.bl b) H → rNeD g.K x y H Q := fun F H x y d e b s hx hy q Q hq => by
    unfold dNe at q
    split at q
    · rename_i h
      rw [Bool.and_eq_true] at h
      cases q
      obtain ⟨q1, q2⟩ := hx.cmp s h.1
      obtain ⟨q3, q4⟩ := hy.cmp s h.2
      exact ⟨d, e, q1, q3, q2, q4, hq⟩
    · cases q
  refine ⟨⟨fun F H x y d e Q s hx hy p => ?_, fun d e => ?_⟩, k⟩
  · cases q : dNe d e with
    | none => rw [q] at p; exact p.elim
    | some r =>
      have : ∃ b, r = .val (.bool b) := by
        unfold dNe at q
        split at q
        · cases q; exact ⟨_, rfl⟩
        · cases q
      obtain ⟨b, rfl⟩ := this
      rw [q] at p
      exact k F H x y d e b s hx hy q Q (p.val0 s (.bl b))
  · unfold dNe; split <;> first | exact NoSl.val | exact NoSl.none
/-- a comparison by its table on ints and texts -/
def dOrd (pi : Int → Int → Bool) (ps : Str → Str → Bool) : D → D → Option Rv
  | .int i, .int j => some (.val (.bool (pi i j)))
  | .str x, .str y => some (.val (.bool (ps x y)))
  | _, _ => none
abbrev rOrd (pi : Int → Int → Bool) (ps : Str → Str → Bool) : R2 := fun x y H Q => rI0 (fun i j => .bl (pi i j)) x y H Q ∨ ∃ i j, x = .str i ∧ y = .str j ∧ Q (.bl (ps i j)) H
theorem good_ord {pi : Int → Int → Bool} {ps : Str → Str → Bool} : Good2B g (rOrd pi ps) (dOrd pi ps) := by
  have k : ∀ F H x y d e b, Sub F H → Pk g F H x d → Pk g F H y e → dOrd pi ps d e = some (.val (.bool b)) → ∀ Q : VK, Q (.bl b) H → rOrd pi ps x y H Q := fun F H x y d e b s hx hy q Q hq => by
    unfold dOrd at q
    split at q
    · cases q; exact .inl ⟨_, _, hx.int, hy.int, hq⟩
    · cases q; exact .inr ⟨_, _, hx.str.1, hy.str.1, hq⟩
    · cases q
  refine ⟨⟨fun F H x y d e Q s hx hy p => ?_, fun d e => ?_⟩, k⟩
  · cases q : dOrd pi ps d e with
    | none => rw [q] at p; exact p.elim
    | some r =>
      have : ∃ b, r = .val (.bool b) := by
        unfold dOrd at q
        split at q <;> first | (cases q; exact ⟨_, rfl⟩) | cases q
      obtain ⟨b, rfl⟩ := this
      rw [q] at p
      exact k F H x y d e b s hx hy q Q (p.val0 s (.bl b))
  · unfold dOrd; split <;> first | exact NoSl.val | exact NoSl.none
def ltS (x y : Str) : Bool := decide (x.cps.toList < y.cps.toList)
abbrev dLt := dOrd (fun i j => decide (i < j)) ltS
abbrev dLe := dOrd (fun i j => decide (i ≤ j)) (fun x y => !ltS y x)
abbrev dGt := dOrd (fun i j => decide (j < i)) (fun x y => ltS y x)
abbrev dGe := dOrd (fun i j => decide (j ≤ i)) (fun x y => !ltS x y)
section
variable {X : Cx}
theorem op_ltD : OpR X (compareOp .Lt) (rOrd (fun i j => decide (i < j)) ltS) := OpR.or op_lt op_lt_str
theorem op_leD : OpR X (compareOp .LtE) (rOrd (fun i j => decide (i ≤ j)) fun x y => !ltS y x) := OpR.or op_le op_le_str
theorem op_gtD : OpR X (compareOp .Gt) (rOrd (fun i j => decide (j < i)) fun x y => ltS y x) := OpR.or op_gt op_gt_str
theorem op_geD : OpR X (compareOp .GtE) (rOrd (fun i j => decide (j ≤ i)) fun x y => !ltS x y) := OpR.or op_ge op_ge_str
end

/-! ### in -/
def mem1 (x y : Str) : Option Bool := match x.cps.toList with
  | [c] => some (decide (c ∈ y.cps.toList))
  | _ => none
def dIn : D → D → Option Rv
  | .str x, .str y => (mem1 x y).map fun b => .val (.bool b)
  | d, .list ds => if okD d && okD (.list ds) then some (.val (.bool (ds.any fun z => PyData.eqv z d))) else none
  | d, .tuple ds => if okD d && okD (.tuple ds) then some (.val (.bool (ds.any fun z => PyData.eqv z d))) else none
  | _, _ => none
def dNotIn : D → D → Option Rv
  | .str x, .str y => (mem1 x y).map fun b => .val (.bool (!b))
  | d, .list ds => if okD d && okD (.list ds) then some (.val (.bool (!ds.any fun z => PyData.eqv z d))) else none
  | d, .tuple ds => if okD d && okD (.tuple ds) then some (.val (.bool (!ds.any fun z => PyData.eqv z d))) else none
  | _, _ => none
def rInT (K : PySem.W.Frag) : R2 := fun x y H Q => ∃ d ds, Dp K H x d ∧ Dp K H y (.tuple ds) ∧ SeqAt.shaped d = true ∧ SeqAt.shaped (.tuple ds) = true ∧ Q (.bl (ds.any fun z => PyData.eqv z d)) H
def rNotInT (K : PySem.W.Frag) : R2 := fun x y H Q => ∃ d ds, Dp K H x d ∧ Dp K H y (.tuple ds) ∧ SeqAt.shaped d = true ∧ SeqAt.shaped (.tuple ds) = true ∧ Q (.bl (!ds.any fun z => PyData.eqv z d)) H
section
variable {X : Cx}
theorem op_inT (hu : X.A.units + 65 < cLine) : OpR X (compareOp .In) (rInT X.K) := by
  intro pins s σ H x y v u Q I rx ry ⟨d, ds, hd, he, sd, se, q⟩
  obtain ⟨as, r1⟩ := Dp.reads I d x v hd rx
  obtain ⟨bs, r2⟩ := Dp.reads I (.tuple ds) y u he ry
  exact SeqAt.in_tuple_reads r2 r1 (SeqAt.canLay_of_shaped se) (SeqAt.canLay_of_shaped sd) (PyProof.Rows.room_in_shaped sd hu) ⟨.bl _, H, I, rfl, q⟩
theorem op_notInT (hu : X.A.units + 65 < cLine) : OpR X (compareOp .NotIn) (rNotInT X.K) := by
  intro pins s σ H x y v u Q I rx ry ⟨d, ds, hd, he, sd, se, q⟩
  obtain ⟨as, r1⟩ := Dp.reads I d x v hd rx
  obtain ⟨bs, r2⟩ := Dp.reads I (.tuple ds) y u he ry
  exact SeqAt.notIn_tuple_reads r2 r1 (SeqAt.canLay_of_shaped se) (SeqAt.canLay_of_shaped sd) (PyProof.Rows.room_in_shaped sd hu) ⟨.bl _, H, I, rfl, q⟩
abbrev rInX (K : PySem.W.Frag) : R2 := fun x y H Q => (∃ (c : Nat) (z : Str), x = .str ⟨#[c]⟩ ∧ y = .str z ∧ Q (.bl (decide (c ∈ z.cps.toList))) H) ∨ (rInD K x y H Q ∨ rInT K x y H Q)
abbrev rNotInX (K : PySem.W.Frag) : R2 := fun x y H Q => (∃ (c : Nat) (z : Str), x = .str ⟨#[c]⟩ ∧ y = .str z ∧ Q (.bl (!decide (c ∈ z.cps.toList))) H) ∨ (rNotInD K x y H Q ∨ rNotInT K x y H Q)
theorem op_inX (hu : X.A.units + 65 < cLine) : OpR X (compareOp .In) (rInX X.K) := OpR.or op_in_sign (OpR.or (op_inD hu) (op_inT hu))
theorem op_notInX (hu : X.A.units + 65 < cLine) : OpR X (compareOp .NotIn) (rNotInX X.K) := OpR.or op_notIn_sign (OpR.or (op_notInD hu) (op_notInT hu))
end
theorem mem1_some {x y : Str} {b : Bool} (h : mem1 x y = some b) : ∃ c, x = ⟨#[c]⟩ ∧ b = decide (c ∈ y.cps.toList) := by
  unfold mem1 at h
  split at h
  · rename_i c q
    cases h
    refine ⟨c, ?_, rfl⟩
    cases x with
    | mk cps => have : cps = #[c] := by rw [← Array.toList_inj]; exact q
                rw [this]
  · cases h
theorem good_in : Good2 g (rInX g.K) dIn := by
  refine ⟨fun F H x y d e Q s hx hy p => ?_, fun d e => ?_⟩
  · unfold dIn at p
    split at p
    · rename_i a b
      cases q : mem1 a b with
      | none => rw [q] at p; exact p.elim
      | some c =>
        rw [q] at p
        obtain ⟨c', rfl, rfl⟩ := mem1_some q
        exact .inl ⟨c', _, hx.str.1, hy.str.1, p.val0 s (.bl _)⟩
    · split at p
      · rename_i h
        rw [Bool.and_eq_true] at h
        obtain ⟨q1, q2⟩ := hx.cmp s h.1
        obtain ⟨q3, q4⟩ := hy.cmp s h.2
        exact .inr (.inl ⟨_, _, q1, q3, q2, q4, p.val0 s (.bl _)⟩)
      · exact p.elim
    · split at p
      · rename_i h
        rw [Bool.and_eq_true] at h
        obtain ⟨q1, q2⟩ := hx.cmp s h.1
        obtain ⟨q3, q4⟩ := hy.cmp s h.2
        exact .inr (.inr ⟨_, _, q1, q3, q2, q4, p.val0 s (.bl _)⟩)
      · exact p.elim
    · exact p.elim
  · unfold dIn
    split
    · rename_i a b; cases mem1 a b <;> first | exact NoSl.val | exact NoSl.none
    · split <;> first | exact NoSl.val | exact NoSl.none
    · split <;> first | exact NoSl.val | exact NoSl.none
    · exact NoSl.none
theorem good_notIn : Good2 g (rNotInX g.K) dNotIn := by
  refine ⟨fun F H x y d e Q s hx hy p => ?_, fun d e => ?_⟩
  · unfold dNotIn at p
    split at p
    · rename_i a b
      cases q : mem1 a b with
      | none => rw [q] at p; exact p.elim
      | some c =>
        rw [q] at p
        obtain ⟨c', rfl, rfl⟩ := mem1_some q
        exact .inl ⟨c', _, hx.str.1, hy.str.1, p.val0 s (.bl _)⟩
    · split at p
      · rename_i h
        rw [Bool.and_eq_true] at h
        obtain ⟨q1, q2⟩ := hx.cmp s h.1
        obtain ⟨q3, q4⟩ := hy.cmp s h.2
        exact .inr (.inl ⟨_, _, q1, q3, q2, q4, p.val0 s (.bl _)⟩)
      · exact p.elim
    · split at p
      · rename_i h
        rw [Bool.and_eq_true] at h
        obtain ⟨q1, q2⟩ := hx.cmp s h.1
        obtain ⟨q3, q4⟩ := hy.cmp s h.2
        exact .inr (.inr ⟨_, _, q1, q3, q2, q4, p.val0 s (.bl _)⟩)
      · exact p.elim
    · exact p.elim
  · unfold dNotIn
    split
    · rename_i a b; cases mem1 a b <;> first | exact NoSl.val | exact NoSl.none
    · split <;> first | exact NoSl.val | exact NoSl.none
    · split <;> first | exact NoSl.val | exact NoSl.none
    · exact NoSl.none

/-! ### is -/
def isNon : D → Bool
  | .none => true
  | _ => false
theorem Pk.isNon {F H : Hp} {v : V} {d : D} (h : Pk g F H v d) : decide (v = .non) = isNon d := by
  rcases h with h | ⟨a, e, h⟩
  · cases h <;> first | rfl | (rename_i e; subst e; rfl)
  · subst e
    cases h <;> first | rfl | (rename_i e; subst e; rfl)
def dIs : D → D → Option Rv
  | d, .none => some (.val (.bool (isNon d)))
  | .bool a, .bool b => some (.val (.bool (decide (a = b))))
  | _, _ => none
def dIsNot : D → D → Option Rv
  | d, .none => some (.val (.bool (!isNon d)))
  | .bool a, .bool b => some (.val (.bool (!decide (a = b))))
  | _, _ => none
abbrev rIsX : R2 := fun x y H Q => (y = .non ∧ Q (.bl (decide (x = .non))) H) ∨ ∃ a b, x = .bl a ∧ y = .bl b ∧ Q (.bl (decide (a = b))) H
abbrev rIsNotX : R2 := fun x y H Q => (y = .non ∧ Q (.bl (!decide (x = .non))) H) ∨ ∃ a b, x = .bl a ∧ y = .bl b ∧ Q (.bl (!decide (a = b))) H
theorem op_isX {X : Cx} : OpR X (compareOp .Is) rIsX := OpR.or op_isN op_is_bl
theorem op_isNotX {X : Cx} : OpR X (compareOp .IsNot) rIsNotX := OpR.or op_notN op_isnot_bl
theorem good_is : Good2 g rIsX dIs := by
  refine ⟨fun F H x y d e Q s hx hy p => ?_, fun d e => ?_⟩
  · unfold dIs at p
    split at p
    · exact .inl ⟨hy.non, by rw [hx.isNon]; exact p.val0 s (.bl _)⟩
    · exact .inr ⟨_, _, hx.bl, hy.bl, p.val0 s (.bl _)⟩
    · exact p.elim
  · unfold dIs; split <;> first | exact NoSl.val | exact NoSl.none
theorem good_isNot : Good2 g rIsNotX dIsNot := by
  refine ⟨fun F H x y d e Q s hx hy p => ?_, fun d e => ?_⟩
  · unfold dIsNot at p
    split at p
    · exact .inl ⟨hy.non, by rw [hx.isNon]; exact p.val0 s (.bl _)⟩
    · exact .inr ⟨_, _, hx.bl, hy.bl, p.val0 s (.bl _)⟩
    · exact p.elim
  · unfold dIsNot; split <;> first | exact NoSl.val | exact NoSl.none

/-! ### xs[i] -/
theorem Pk.ro {F H : Hp} {v : V} {ds : List D} (s : Sub F H) (h : Pk g F H v (roD ds)) : ∃ a xs, v = .ref a ∧ SqL g.K H a xs ∧ DenL g F xs ds := by
  rcases h with h | ⟨a, e, h⟩
  · generalize hd : roD ds = d at h
    cases h with
    | ro h r e => unfold roD at hd e; subst hd; injection e with e; injection e with e _; injection e with _ e; injection e with e; subst e; exact ⟨_, _, rfl, s.sqL h, r⟩
    | ins _ _ _ _ e => subst e; simp [roD, insD] at hd
    | @dctK a kvs vs ds' d _ _ _ _ e =>
      subst e
      unfold roD at hd
      injection hd with hd
      cases kvs with
      | nil => simp at hd
      | cons p r => cases ds' with
        | nil => simp at hd
        | cons d' r' =>
          simp only [List.map_cons, List.zip_cons_cons] at hd
          injection hd with hd _
          injection hd with hd _
          cases p.1 <;> (rename_i w; simp [keyD] at hd) <;> (first | (cases hk : p.1 <;> rw [hk] at hd <;> simp [keyD] at hd) | skip)
    | @dctT a kvs vs ds' d _ _ _ _ e =>
      subst e
      unfold roD at hd
      injection hd with hd
      cases kvs with
      | nil => simp at hd
      | cons p r => cases ds' with
        | nil => simp at hd
        | cons d' r' =>
          simp only [List.map_cons, List.zip_cons_cons] at hd
          injection hd with hd _
          injection hd with hd _
          cases hd
    | exc _ _ _ _ e => subst e; simp [roD, excD] at hd
    | _ => simp [roD] at hd
  · generalize hd : roD ds = d at h
    cases h with
    | lst => simp [roD] at hd
    | @dctK kvs vs ds' d _ _ _ _ e =>
      subst e
      unfold roD at hd
      injection hd with hd
      cases kvs with
      | nil => simp at hd
      | cons p r => cases ds' with
        | nil => simp at hd
        | cons d' r' =>
          simp only [List.map_cons, List.zip_cons_cons] at hd
          injection hd with hd _
          injection hd with hd _
          cases hk : p.1 <;> rw [hk] at hd <;> simp [keyD] at hd
    | @dctT kvs vs ds' d _ _ _ _ e =>
      subst e
      unfold roD at hd
      injection hd with hd
      cases kvs with
      | nil => simp at hd
      | cons p r => cases ds' with
        | nil => simp at hd
        | cons d' r' =>
          simp only [List.map_cons, List.zip_cons_cons] at hd
          injection hd with hd _
          injection hd with hd _
          cases hd
    | ins _ _ _ _ e => subst e; simp [roD, insD] at hd
end DL
namespace DL
open PySem PySem.Spec L2
variable {g : G} {W : WX}

/-! ### xs[i] -/
def atD (ds : List D) (i : Int) : Option D := (ixN ds.length i).bind fun j => ds[j]?
theorem DenL.at {F : Hp} {vs : List V} {ds : List D} {i : Int} {d : D} (h : DenL g F vs ds) (e : atD ds i = some d) : ∃ v, atI vs i = some v ∧ Den g F v d := by
  unfold atD at e
  unfold atI
  rw [h.length]
  cases q : ixN ds.length i with
  | none => rw [q] at e; cases e
  | some j => rw [q] at e; exact h.get e
def signS (c : Nat) : Str := ⟨#[c]⟩
def dIx : D → D → Option Rv
  | .list ds, .int i => (atD ds i).map .val
  | .tuple ds, .int i => (atD ds i).map .val
  | .str x, .int i => if x.length ≤ lineM then (atI x.cps.toList i).map fun c => .val (.str (signS c)) else none
  | .dict [(.bool true, .list ds)], .int i => (atD ds i).map .val
  | _, _ => none
theorem good_ix : Good2 g (rIx g.K) dIx := by
  refine ⟨fun F H x y d e Q s hx hy p => ?_, fun d e => ?_⟩
  · unfold dIx at p
    split at p
    · rename_i ds i
      cases q : atD ds i with
      | none => rw [q] at p; exact p.elim
      | some d' =>
        rw [q] at p
        obtain ⟨a, xs, e1, h1, d1⟩ := hx.lst s
        obtain ⟨v, q1, q2⟩ := d1.at q
        exact .inl ⟨a, xs, i, v, e1, hy.int, .inl (.inl h1), q1, p.val0 s q2⟩
    · rename_i ds i
      cases q : atD ds i with
      | none => rw [q] at p; exact p.elim
      | some d' =>
        rw [q] at p
        obtain ⟨a, xs, e1, h1, d1⟩ := hx.tup s
        obtain ⟨v, q1, q2⟩ := d1.at q
        exact .inr (.inl ⟨a, xs, i, v, e1, hy.int, h1, q1, p.val0 s q2⟩)
    · rename_i z i
      split at p
      · rename_i hl
        cases q : atI z.cps.toList i with
        | none => rw [q] at p; exact p.elim
        | some c =>
          rw [q] at p
          obtain ⟨e1, o1⟩ := hx.str
          have hc : strOk (signS c) = true := strOk_sub (l := [c]) o1 fun c' hc => by
            have : c' = c := by simpa using hc
            subst this
            unfold atI at q
            cases q2 : ixN z.cps.toList.length i with
            | none => rw [q2] at q; cases q
            | some j => rw [q2] at q; exact List.mem_of_getElem? q
          exact .inr (.inr ⟨z, i, c, e1, hy.int, by rw [lineM_eq]; exact hl, q, p.val0 s (.str _ hc)⟩)
      · exact p.elim
    · rename_i ds i
      cases q : atD ds i with
      | none => rw [q] at p; exact p.elim
      | some d' =>
        rw [q] at p
        obtain ⟨a, xs, e1, h1, d1⟩ := Pk.ro s hx
        obtain ⟨v, q1, q2⟩ := d1.at q
        exact .inl ⟨a, xs, i, v, e1, hy.int, h1, q1, p.val0 s q2⟩
    · exact p.elim
  · unfold dIx
    split
    · rename_i ds i; cases atD ds i <;> first | exact NoSl.val | exact NoSl.none
    · rename_i ds i; cases atD ds i <;> first | exact NoSl.val | exact NoSl.none
    · split
      · rename_i z i _; cases atI z.cps.toList i <;> first | exact NoSl.val | exact NoSl.none
      · exact NoSl.none
    · rename_i ds i; cases atD ds i <;> first | exact NoSl.val | exact NoSl.none
    · exact NoSl.none

/-! ### slices -/
def cutD (ds : List D) (lo hi : Option Int) : List D := (ds.drop (HT.sIx ds.length 0 lo)).take (HT.sIx ds.length ds.length hi - HT.sIx ds.length 0 lo)
theorem DenL.cut {F : Hp} {vs : List V} {ds : List D} (h : DenL g F vs ds) (lo hi : Option Int) : DenL g F (cutV vs lo hi) (cutD ds lo hi) := by
  unfold cutV cutD
  rw [h.length]
  exact (h.drop _).take _
def dSl : D → Option Int → Option Int → Option Rv
  | .str x, lo, hi => if x.length ≤ lineM then some (.val (.str (cutS x lo hi))) else none
  | .list ds, lo, hi => some (.new (.list (cutD ds lo hi)))
  | .tuple ds, lo, hi => some (.val (.tuple (cutD ds lo hi)))
  | _, _, _ => none
abbrev rSlD (K : PySem.W.Frag) : V → Option Int → Option Int → Hp → VK → Prop := fun x lo hi H Q => rSlS x lo hi H Q ∨ (rSlL K x lo hi H Q ∨ rSlA K x lo hi H Q)
theorem sl_D {X : Cx} : SlR X (rSlD X.K) := SlR.or sl_str (SlR.or sl_list sl_tupA)
theorem good_slD : GoodSl g (rSlD g.K) dSl := by
  refine ⟨fun F H x d lo hi Q s hx p => ?_, fun d lo hi => ?_⟩
  · unfold dSl at p
    split at p
    · split at p
      · rename_i hl
        obtain ⟨e1, o1⟩ := hx.str
        exact .inl ⟨_, e1, by rw [lineM_eq]; exact hl, p.val0 s (.str _ (strOk_cut o1))⟩
      · exact p.elim
    · obtain ⟨a, xs, e1, h1, d1⟩ := hx.lst s
      exact .inr (.inl ⟨a, xs, e1, .inl (.inl h1), fun q hq => p.newL s hq (d1.cut lo hi)⟩)
    · rename_i ds
      obtain ⟨a, xs, e1, h1, d1⟩ := hx.tup s
      refine .inr (.inr ⟨a, xs, e1, h1, fun w => ?_, fun _ q hq => p.valT s hq (d1.cut lo hi)⟩)
      rw [d1.length] at w
      have : cutD ds lo hi = ds := by unfold cutD; rw [w.1, w.2]; simp
      rw [this] at p
      subst e1
      rcases hx with hx | ⟨_, _, w⟩
      · exact p.val0 s hx
      · cases w <;> (rename_i e; cases e)
    · exact p.elim
  · unfold dSl
    split
    · split <;> first | exact NoSl.val | exact NoSl.none
    · exact NoSl.new
    · exact NoSl.val
    · exact NoSl.none
/-- [::-1] -/
def revS (x : Str) : Str := ⟨x.cps.toList.reverse.toArray⟩
def dRev : D → Option Rv
  | .str x => if x.length ≤ lineM then some (.val (.str (revS x))) else none
  | .list ds => some (.new (.list ds.reverse))
  | _ => none
def rRev : V → Hp → VK → Prop := fun x H Q => (∃ z, x = .str z ∧ z.length ≤ lineM ∧ Q (.str (revS z)) H) ∨ ∃ a xs, x = .ref a ∧ H a = some (.lst xs) ∧ ∀ p, H p = none → Q (.ref p) (upd H p (.lst xs.reverse))
theorem rev_pick (z : Str) : ((Builtin.Str.strSliceIndices none none (-1) z.length).filterMap (z.cps[·]?)).toArray = z.cps.toList.reverse.toArray := by
  have e : Builtin.Str.strSliceIndices none none (-1) z.length = sliceRange ((z.length : Int) - 1) (-1) (-1) := rfl
  rw [e, PySem.W.krv_sliceRange, PySem.W.krv_range, List.filterMap_reverse]
  have := PySem.W.krv_all z.cps
  show ((List.range z.cps.size).filterMap (z.cps[·]?)).reverse.toArray = _
  rw [this]
theorem pe_rev {X : Cx} {e : Expr} {te : TE} {k : Nat} {p1 p2 p3 pos : Pos} (he : PE X e te) : PE X (.Subscript e (.Slice none none (some (.UnaryOp .USub (.Constant (.int 1) k p1) p2)) p3) pos) (tUn rRev te) := by
  refine ⟨fun pins s σ H Q I h => ?_⟩
  refine PyProof.Rows.Subscript_ (thn (he.run pins s σ H _ I h) fun v s1 ⟨x, H1, I1, r1, q1⟩ => ?_)
  have hst : PO X (some (.UnaryOp .USub (.Constant (.int 1) k p1) p2)) (tPart (tUn (rU fun i => .int (-i)) (tC (.int 1)))) := po_some (pe_un un_neg pe_int)
  refine wpAny_Slice (thn (po_none.run pins s1 σ H1 (fun o H2 => o = none ∧ H2 = H1) I1 ⟨rfl, rfl⟩) fun vl s2 ⟨l, H2, I2, pl, el, e2⟩ => ?_)
  subst el
  subst e2
  refine thn (po_none.run pins s2 σ H2 (fun o H3 => o = none ∧ H3 = H2) I2 ⟨rfl, rfl⟩) fun vu s3 ⟨u, H3, I3, pu, eu, e3⟩ => ?_
  subst eu
  subst e3
  refine thn (hst.run pins s3 σ H3 (fun o H4 => o = some (-1) ∧ H4 = H3) I3 ⟨1, rfl, -1, rfl, rfl, rfl⟩) fun vs s4 ⟨o, H4, I4, ps, eo, e4⟩ => ?_
  subst eo
  subst e4
  have J : Inv X pins σ H4 { s4 with heap := s4.heap.push { cls := .type "slice", data := .fields #[vl, vu, vs] } } := I4.kept (t' := s4.toks) fun b ob q => Heap.get?_push_of_some _ q
  rcases q1 with ⟨z, ez, hz, q⟩ | ⟨a, xs, ea, hx, q⟩
  · subst ez
    obtain ⟨t, rfl⟩ := r1
    obtain ⟨l', rfl, el'⟩ := IsPart.raw pl
    obtain ⟨u', rfl, eu'⟩ := IsPart.raw pu
    obtain ⟨w', rfl, ew'⟩ := IsPart.raw ps
    refine PyProof.Rows.tail_any (T := "str") (ops := [.str z t, .ref s4.heap.objs.size]) (typeIs_str _ _ _) PySem.F.slot_str_getitem.lookup ?_ (by with_unfolding_all rfl)
    have hw : (w'.map (·.1)).getD 1 = -1 := by rw [ew']; rfl
    refine PySem.wpAny_getItem_str_slice (l := l') (u := u') (st := w') ⟨_, Heap.get?_push_size _ rfl, rfl, rfl⟩ (by rw [hw]; rfl) ?_
    have hp : ((Builtin.Str.strSliceIndices (l'.map (·.1)) (u'.map (·.1)) ((w'.map (·.1)).getD 1) z.length).filterMap (z.cps[·]?)).toArray = z.cps.toList.reverse.toArray := by
      rw [hw, el', eu']
      exact rev_pick z
    show Made.post (if ((w'.map (·.1)).getD 1 == 1 && (Builtin.Str.strSliceIndices (l'.map (·.1)) (u'.map (·.1)) ((w'.map (·.1)).getD 1) z.length).length == z.length) = true then Made.val (.str z t)
      else Made.str ⟨((Builtin.Str.strSliceIndices (l'.map (·.1)) (u'.map (·.1)) ((w'.map (·.1)).getD 1) z.length).filterMap (z.cps[·]?)).toArray⟩) (EP X pins σ Q) _
    rw [hp, hw]
    rw [if_neg (by simp)]
    refine ⟨?_, .str (revS z), H4, J.tok _, ⟨_, rfl⟩, q⟩
    show (z.cps.toList.reverse.toArray).size ≤ sizeLine
    rw [lineM_eq]
    have : (z.cps.toList.reverse.toArray).size = z.length := by simp [Str.length]
    rw [this]; exact hz
  · subst ea
    cases r1
    obtain ⟨its, r, ht, hz⟩ := J.list (.inl (.inl hx))
    have hlen := r.length
    refine PyProof.Rows.tail_any (ops := [.ref a, .ref s4.heap.objs.size]) ht.isList.typeIs PySem.slot_list_getitem.lookup ?_ (by with_unfolding_all rfl)
    refine wpAny_getItem_list_slice ht.isList (Heap.IsSliceOf.new _ vl vu vs) pl pu ps (by decide) ?_ (by rw [List.size_toArray]; omega)
    rw [PySem.W.krv_pick]
    refine ⟨.ref _, _, J.laid (t' := s4.toks) (o := .lst xs.reverse) (fun b ob q => Heap.get?_push_of_some _ q) (Nat.le_refl _) ?_, rfl, q _ (J.hok.fresh (Nat.le_refl _))⟩
    exact ⟨by rw [List.length_reverse]; exact hz, _, 0, r.reverse, Heap.get?_push_size _ rfl⟩
theorem DenL.reverse {F : Hp} : ∀ {vs : List V} {ds : List D}, DenL g F vs ds → DenL g F vs.reverse ds.reverse
  | _, _, .nil => .nil
  | _, _, .cons h r => by rw [List.reverse_cons, List.reverse_cons]; exact (DenL.reverse r).append (.cons h .nil)
/-- what is made of one value -/
structure Good1 (g : G) (r : V → Hp → VK → Prop) (o : D → Option Rv) : Prop where
  run : ∀ F H x d Q, Sub F H → Pk g F H x d → Post0 g F H Q (o d) → r x H Q
  nosl : ∀ d, NoSl (o d)
def mUn (o : D → Option Rv) (f : ME) : ME := fun env => f env >>= fun z => z.1.data z.2 >>= fun d => orStuck (o d) z.2
theorem good_un {t : TE} {r : V → Hp → VK → Prop} {o : D → Option Rv} {f : ME} (h : GoodE g W t f) (ho : Good1 g r o) : GoodE g W (tUn r t) (mUn o f) := fun F H σ env Q k p => by
  refine h F H σ env _ k (Post.bind RE.early p fun r1 e1 F1 H1 x x1 k1 kp1 rv1 p1 => ?_)
  rcases data_cases r1 e1 with ⟨d, q⟩ | q
  · simp only [q, Res.ok_bind] at p1
    exact ho.run F1 H1 x d Q k1.sub (RvOk.pk rv1 k1 q) (post0_of k1 p1 (ho.nosl d))
  · simp only [q, Res.stuck_bind] at p1; exact p1.elim
theorem good_rev : Good1 g rRev dRev := by
  refine ⟨fun F H x d Q s hx p => ?_, fun d => ?_⟩
  · unfold dRev at p
    split at p
    · split at p
      · rename_i hl
        obtain ⟨e1, o1⟩ := hx.str
        exact .inl ⟨_, e1, hl, p.val0 s (.str _ (strOk_sub o1 fun c hc => by simpa using hc))⟩
      · exact p.elim
    · obtain ⟨a, xs, e1, h1, d1⟩ := hx.lst s
      exact .inr ⟨a, xs, e1, h1, fun q hq => p.newL s hq d1.reverse⟩
    · exact p.elim
  · unfold dRev
    split
    · split <;> first | exact NoSl.val | exact NoSl.none
    · exact NoSl.new
    · exact NoSl.none
theorem de_rev {X : Cx} {e : Expr} {f : ME} {k : Nat} {p1 p2 p3 pos : Pos} (h : DE X W e f) : DE X W (.Subscript e (.Slice none none (some (.UnaryOp .USub (.Constant (.int 1) k p1) p2)) p3) pos) (mUn dRev f) := by
  obtain ⟨t, pt, gt⟩ := h
  exact ⟨_, pe_rev pt, good_un gt good_rev⟩
def dNeg : D → Option Rv
  | .int i => some (.val (.int (-i)))
  | _ => none
theorem good_neg : Good1 g (rU fun i => .int (-i)) dNeg := by
  refine ⟨fun F H x d Q s hx p => ?_, fun d => ?_⟩
  · unfold dNeg at p
    split at p
    · exact ⟨_, hx.int, p.val0 s (.int _)⟩
    · exact p.elim
  · unfold dNeg; split <;> first | exact NoSl.val | exact NoSl.none
theorem de_neg {X : Cx} {e : Expr} {f : ME} {pos : Pos} (h : DE X W e f) : DE X W (.UnaryOp .USub e pos) (mUn dNeg f) := by
  obtain ⟨t, pt, gt⟩ := h
  exact ⟨_, pe_un un_neg pt, good_un gt good_neg⟩

/-! ### built-in functions -/
theorem Pks.one {F H : Hp} {vs : List V} {d : D} (h : Pks g F H vs [d]) : ∃ v, vs = [v] ∧ Pk g F H v d := by
  cases h with
  | cons h1 h2 => cases h2; exact ⟨_, rfl, h1⟩
theorem Pks.two {F H : Hp} {vs : List V} {d e : D} (h : Pks g F H vs [d, e]) : ∃ v w, vs = [v, w] ∧ Pk g F H v d ∧ Pk g F H w e := by
  cases h with
  | cons h1 h2 =>
    obtain ⟨w, e2, h3⟩ := Pks.one h2
    subst e2
    exact ⟨_, w, rfl, h1, h3⟩
def dLen : List D → Option Rv
  | [.list ds] => some (.val (.int ds.length))
  | [.tuple ds] => some (.val (.int ds.length))
  | [.str x] => if x.length ≤ lineM then some (.val (.int x.length)) else none
  | [.dict [(.bool true, .list ds)]] => some (.val (.int ds.length))
  | _ => none
abbrev rLen (K : PySem.W.Frag) : List V → Hp → VK → Prop := fun xs H Q => (∃ p ys, xs = [.ref p] ∧ (SqL K H p ys ∨ SqT K H p ys) ∧ Q (.int ys.length) H) ∨ ∃ z, xs = [.str z] ∧ z.length ≤ sizeLine ∧ Q (.int z.length) H
theorem call_lenD2 {X : Cx} : CallR X (.builtin "len") (rLen X.K) := CallR.or call_len_seq call_len_str
theorem good_len : GoodC g (rLen g.K) dLen := by
  refine ⟨fun F H vs ds Q s h p => ?_, fun ds => ?_⟩
  · unfold dLen at p
    split at p
    · obtain ⟨v, rfl, hx⟩ := h.one
      obtain ⟨a, xs, rfl, h1, d1⟩ := hx.lst s
      exact .inl ⟨a, xs, rfl, .inl (.inl (.inl h1)), by rw [d1.length]; exact p.val0 s (.int _)⟩
    · obtain ⟨v, rfl, hx⟩ := h.one
      obtain ⟨a, xs, rfl, h1, d1⟩ := hx.tup s
      exact .inl ⟨a, xs, rfl, .inr h1, by rw [d1.length]; exact p.val0 s (.int _)⟩
    · split at p
      · rename_i hl
        obtain ⟨v, rfl, hx⟩ := h.one
        obtain ⟨rfl, o1⟩ := hx.str
        exact .inr ⟨_, rfl, by rw [lineM_eq]; exact hl, p.val0 s (.int _)⟩
      · exact p.elim
    · obtain ⟨v, rfl, hx⟩ := h.one
      obtain ⟨a, xs, rfl, h1, d1⟩ := Pk.ro s hx
      exact .inl ⟨a, xs, rfl, .inl h1, by rw [d1.length]; exact p.val0 s (.int _)⟩
    · exact p.elim
  · unfold dLen
    split <;> first | exact NoSl.val | exact NoSl.none | (split <;> first | exact NoSl.val | exact NoSl.none)
def dMax2 : List D → Option Rv
  | [.int i, .int j] => some (.val (.int (if j > i then j else i)))
  | _ => none
theorem good_max2 : GoodC g (fun xs H Q => ∃ i j, xs = [.int i, .int j] ∧ Q (.int (if j > i then j else i)) H) dMax2 := by
  refine ⟨fun F H vs ds Q s h p => ?_, fun ds => ?_⟩
  · unfold dMax2 at p
    split at p
    · obtain ⟨v, w, rfl, h1, h2⟩ := h.two
      exact ⟨_, _, by rw [h1.int, h2.int], p.val0 s (.int _)⟩
    · exact p.elim
  · unfold dMax2; split <;> first | exact NoSl.val | exact NoSl.none
def dMin2 : List D → Option Rv
  | [.int i, .int j] => some (.val (.int (if j < i then j else i)))
  | _ => none
theorem good_min2 : GoodC g (fun xs H Q => ∃ i j, xs = [.int i, .int j] ∧ Q (.int (if j < i then j else i)) H) dMin2 := by
  refine ⟨fun F H vs ds Q s h p => ?_, fun ds => ?_⟩
  · unfold dMin2 at p
    split at p
    · obtain ⟨v, w, rfl, h1, h2⟩ := h.two
      exact ⟨_, _, by rw [h1.int, h2.int], p.val0 s (.int _)⟩
    · exact p.elim
  · unfold dMin2; split <;> first | exact NoSl.val | exact NoSl.none
def dAbs : List D → Option Rv
  | [.int i] => some (.val (.int (if i < 0 then -i else i)))
  | _ => none
theorem good_abs : GoodC g (fun xs H Q => ∃ i, xs = [.int i] ∧ Q (.int (if i < 0 then -i else i)) H) dAbs := by
  refine ⟨fun F H vs ds Q s h p => ?_, fun ds => ?_⟩
  · unfold dAbs at p
    split at p
    · obtain ⟨v, rfl, h1⟩ := h.one
      exact ⟨_, by rw [h1.int], p.val0 s (.int _)⟩
    · exact p.elim
  · unfold dAbs; split <;> first | exact NoSl.val | exact NoSl.none
def dInt : List D → Option Rv
  | [.int i] => some (.val (.int i))
  | [.bool b] => some (.val (.int (if b then 1 else 0)))
  | _ => none
theorem good_int : GoodC g (fun xs H Q => (∃ i, xs = [.int i] ∧ Q (.int i) H) ∨ ∃ k, xs = [.bl k] ∧ Q (.int (if k then 1 else 0)) H) dInt := by
  refine ⟨fun F H vs ds Q s h p => ?_, fun ds => ?_⟩
  · unfold dInt at p
    split at p
    · obtain ⟨v, rfl, h1⟩ := h.one
      exact .inl ⟨_, by rw [h1.int], p.val0 s (.int _)⟩
    · obtain ⟨v, rfl, h1⟩ := h.one
      exact .inr ⟨_, by rw [h1.bl], p.val0 s (.int _)⟩
    · exact p.elim
  · unfold dInt; split <;> first | exact NoSl.val | exact NoSl.none
/-- a list of ints, of texts, of bools -/
def asInts : List D → Option (List Int)
  | [] => some []
  | .int i :: r => (asInts r).map (i :: ·)
  | _ => none
def asStrs : List D → Option (List Str)
  | [] => some []
  | .str i :: r => (asStrs r).map (i :: ·)
  | _ => none
def asBools : List D → Option (List Bool)
  | [] => some []
  | .bool i :: r => (asBools r).map (i :: ·)
  | _ => none
theorem DenL.ints {F : Hp} : ∀ {vs : List V} {ds : List D} {ns : List Int}, DenL g F vs ds → asInts ds = some ns → vs = ns.map V.int
  | _, _, _, .nil, e => by cases e; rfl
  | _, _, _, .cons (d := d) (ds := ds) h r, e => by
    cases d with
    | int i =>
      unfold asInts at e
      cases q : asInts ds with
      | none => rw [q] at e; cases e
      | some ns => rw [q] at e; cases e; rw [Pk.int (g := g) (F := F) (H := F) (Or.inl h), DenL.ints r q]; rfl
    | _ => cases e
theorem DenL.bools {F : Hp} : ∀ {vs : List V} {ds : List D} {ns : List Bool}, DenL g F vs ds → asBools ds = some ns → vs = ns.map V.bl
  | _, _, _, .nil, e => by cases e; rfl
  | _, _, _, .cons (d := d) (ds := ds) h r, e => by
    cases d with
    | bool i =>
      unfold asBools at e
      cases q : asBools ds with
      | none => rw [q] at e; cases e
      | some ns => rw [q] at e; cases e; rw [Pk.bl (g := g) (F := F) (H := F) (Or.inl h), DenL.bools r q]; rfl
    | _ => cases e
theorem DenL.strs {F : Hp} : ∀ {vs : List V} {ds : List D} {ns : List Str}, DenL g F vs ds → asStrs ds = some ns → vs = ns.map V.str ∧ ∀ x ∈ ns, strOk x = true
  | _, _, _, .nil, e => by cases e; exact ⟨rfl, by simp⟩
  | _, _, _, .cons (d := d) (ds := ds) h r, e => by
    cases d with
    | str i =>
      unfold asStrs at e
      cases q : asStrs ds with
      | none => rw [q] at e; cases e
      | some ns =>
        rw [q] at e; cases e
        obtain ⟨e1, o1⟩ := Pk.str (g := g) (F := F) (H := F) (Or.inl h)
        obtain ⟨e2, o2⟩ := DenL.strs r q
        refine ⟨by rw [e1, e2]; rfl, fun x hx => ?_⟩
        rcases List.mem_cons.mp hx with h | h
        · rw [h]; exact o1
        · exact o2 x h
    | _ => cases e
theorem asInts_map : ∀ ns : List Int, asInts (ns.map .int) = some ns
  | [] => rfl
  | n :: r => by show (asInts (r.map .int)).map (n :: ·) = _; rw [asInts_map r]; rfl
theorem asStrs_map : ∀ ns : List Str, asStrs (ns.map .str) = some ns
  | [] => rfl
  | n :: r => by show (asStrs (r.map .str)).map (n :: ·) = _; rw [asStrs_map r]; rfl
theorem asBools_map : ∀ ns : List Bool, asBools (ns.map .bool) = some ns
  | [] => rfl
  | n :: r => by show (asBools (r.map .bool)).map (n :: ·) = _; rw [asBools_map r]; rfl
def dAll : List D → Option Rv
  | [.list ds] => (asBools ds).map fun bs => .val (.bool (bs.all id))
  | _ => none
theorem good_all : GoodC g (rAll g.K) dAll := by
  refine ⟨fun F H vs ds Q s h p => ?_, fun ds => ?_⟩
  · unfold dAll at p
    split at p
    · rename_i ds
      cases q : asBools ds with
      | none => rw [q] at p; exact p.elim
      | some bs =>
        rw [q] at p
        obtain ⟨v, rfl, hx⟩ := h.one
        obtain ⟨a, xs, rfl, h1, d1⟩ := hx.lst s
        exact ⟨a, bs, rfl, by rw [← d1.bools q]; exact .inl (.inl h1), p.val0 s (.bl _)⟩
    · exact p.elim
  · unfold dAll
    split
    · rename_i ds; cases asBools ds <;> first | exact NoSl.val | exact NoSl.none
    · exact NoSl.none
def dSum : List D → Option Rv
  | [.list ds] => (asInts ds).map fun bs => .val (.int bs.sum)
  | _ => none
theorem good_sum : GoodC g (rSum g.K) dSum := by
  refine ⟨fun F H vs ds Q s h p => ?_, fun ds => ?_⟩
  · unfold dSum at p
    split at p
    · rename_i ds
      cases q : asInts ds with
      | none => rw [q] at p; exact p.elim
      | some bs =>
        rw [q] at p
        obtain ⟨v, rfl, hx⟩ := h.one
        obtain ⟨a, xs, rfl, h1, d1⟩ := hx.lst s
        exact ⟨a, bs, rfl, by rw [← d1.ints q]; exact .inl (.inl h1), p.val0 s (.int _)⟩
    · exact p.elim
  · unfold dSum
    split
    · rename_i ds; cases asInts ds <;> first | exact NoSl.val | exact NoSl.none
    · exact NoSl.none
end DL
namespace DL
open PySem PySem.Spec L2
variable {g : G} {W : WX}

/-! ### what is never come to -/
def mNever : MS := fun _ => .stuck
theorem ds_never {X : Cx} {st : Stmt} : DS X W st mNever := ⟨_, ps_never, fun _ _ _ _ _ _ p => p.elim⟩

/-! ### repr, compared -/
def RS : RelB V Str := fun _ _ _ _ _ v x => v = .str x
theorem RS.early : Early RS := ⟨fun _ _ _ _ _ _ _ _ _ h => h⟩
abbrev MR := Env → Res (Str × Env)
structure DR (X : Cx) (W : WX) (e : Expr) (f : MR) : Prop where
  ex : ∃ t, PE X e t ∧ Good RS ⟨X.K, X.mg⟩ W t f
def okR (d : D) : Bool := d.showable && !d.hasDict && decide (d.depth ≤ 64) && decide (d.shown.length ≤ lineM)
def rRepr (K : PySem.W.Frag) : List V → Hp → VK → Prop := fun xs H Q => ∃ x d, xs = [x] ∧ Dp K H x d ∧ okR d = true ∧ Q (.str d.shown) H
theorem call_repr {X : Cx} (gd : X.A.guards = some []) (hu : X.A.units + 65 < cLine) : CallR X (.builtin "repr") (rRepr X.K) := by
  intro pins s σ H xs us Q I r ⟨x, d, ex, hd, ok, q⟩
  subst ex
  cases r with
  | cons r1 r2 =>
    cases r2
    unfold okR at ok
    simp only [Bool.and_eq_true, decide_eq_true_eq, Bool.not_eq_true'] at ok
    obtain ⟨⟨⟨o1, o2⟩, o3⟩, o4⟩ := ok
    have o4' : d.shown.length ≤ sizeLine := by rw [lineM_eq]; exact o4
    cases hd with
    | non => cases r1; exact PySem.P.repr_of_none ⟨.str _, H, I.tok _, ⟨_, rfl⟩, by simpa only [PyData.shown] using q⟩
    | bl b => cases r1; exact PySem.P.repr_of_bool ⟨.str _, H, I.tok _, ⟨_, rfl⟩, by simpa only [PyData.shown] using q⟩
    | int i =>
      obtain ⟨t, rfl⟩ := r1
      simp only [PyData.showable, decide_eq_true_eq] at o1
      exact PySem.P.repr_of_int o1 ⟨.str _, H, I.tok _, ⟨_, rfl⟩, by simpa only [PyData.shown] using q⟩
    | str x =>
      obtain ⟨t, rfl⟩ := r1
      simp only [PyData.shown] at q o4'
      exact PySem.P.repr_of_str ⟨.str _, H, I.tok _, ⟨_, rfl⟩, q⟩ o4'
    | lst h1 h2 =>
      obtain ⟨as, rd⟩ := Dp.reads I _ _ _ (Dp.lst h1 h2) r1
      cases r1
      exact PySem.repr_of_reads' rd o1 (PySem.PyData.noDict_hsm o2) gd (by omega) (fun _ _ e => e) (fun h' u tk k => ⟨.str _, H, I.kept k, ⟨_, rfl⟩, q⟩) o4'
    | tup h1 h2 =>
      obtain ⟨as, rd⟩ := Dp.reads I _ _ _ (Dp.tup h1 h2) r1
      cases r1
      exact PySem.repr_of_reads' rd o1 (PySem.PyData.noDict_hsm o2) gd (by omega) (fun _ _ e => e) (fun h' u tk k => ⟨.str _, H, I.kept k, ⟨_, rfl⟩, q⟩) o4'
def mRepr (f : ME) : MR := fun env => f env >>= fun z => z.1.data z.2 >>= fun d => if okR d = true then .ok (d.shown, z.2) else .stuck
theorem good_repr {t : TE} {f : ME} (h : GoodE g W t f) : Good RS g W (tCB (rRepr g.K) (tCons t tNil)) (mRepr f) := fun F H σ env Q k p => by
  refine h F H σ env _ k (Post.bind RS.early p fun r1 e1 F1 H1 x x1 k1 kp1 rv1 p1 => ?_)
  rcases data_cases r1 e1 with ⟨d, q⟩ | q
  · simp only [q, Res.ok_bind] at p1
    by_cases ok : okR d = true
    · rw [if_pos ok] at p1
      have nd : d.hasDict = false := by
        unfold okR at ok
        simp only [Bool.and_eq_true, Bool.not_eq_true'] at ok
        exact ok.1.1.2
      exact ⟨x, d, rfl, ((RvOk.pk rv1 k1 q).dp k1.sub nd).1, ok, p1 F1 H1 _ .refl k1 .refl rfl⟩
    · rw [if_neg ok] at p1; exact p1.elim
  · simp only [q, Res.stuck_bind] at p1; exact p1.elim
section
variable {X : Cx} {a b : Expr} {p pos : Pos} {f h : ME} {fr hr : MR}
theorem dr_repr (gd : X.A.guards = some []) (hu : X.A.units + 65 < cLine) (hm : X.mg "repr" = none) (ha : DE X W a f) (hg : Gl X "repr" := by rfl) (hs : starEach [a] X.env = (false, eval a X.env) :: starEach [] X.env := by rfl) (hpl : (backTo pos (starEach [] X.env)).any (·.1) = false := by rfl) : DR X W (.Call (.Name "repr" p) [a] [] pos) (mRepr f) := by
  obtain ⟨t, pt, gt⟩ := ha
  exact ⟨_, pe_callB (call_repr gd hu) hg hm (by decide +kernel) (pa_cons pt pa_nil hs) (by decide) (by decide) hs hpl, good_repr gt⟩
def mRNe (f h : MR) : ME := fun env => f env >>= fun z => h z.2 >>= fun y => .ok (.val (.bool (!decide (z.1 = y.1))), y.2)
def mREq (f h : MR) : ME := fun env => f env >>= fun z => h z.2 >>= fun y => .ok (.val (.bool (decide (z.1 = y.1))), y.2)
theorem good_rne {ta tb : TE} {f h : MR} (ha : Good RS g W ta f) (hb : Good RS g W tb h) : GoodE g W (tOp rNe ta tb) (mRNe f h) := fun F H σ env Q k p => by
  refine ha F H σ env _ k (Post.bind RE.early p fun r1 e1 F1 H1 x x1 k1 kp1 rv1 p1 => ?_)
  have rv1 : x = .str r1 := rv1
  subst rv1
  refine hb F1 H1 σ e1 _ k1 (Post.bind RE.early p1 fun r2 e2 F2 H2 y x2 k2 kp2 rv2 p2 => ?_)
  have rv2 : y = .str r2 := rv2
  subst rv2
  refine ⟨rfl, ?_⟩
  have e : decide (V.str r1 = V.str r2) = decide (r1 = r2) := by
    by_cases q : r1 = r2
    · simp [q]
    · have : ¬ V.str r1 = V.str r2 := fun z => q (by injection z)
      rw [decide_eq_false q, decide_eq_false this]
  rw [e]
  exact p2 F2 H2 _ .refl k2 .refl (.bl _)
theorem good_req {ta tb : TE} {f h : MR} (ha : Good RS g W ta f) (hb : Good RS g W tb h) : GoodE g W (tOp rEq ta tb) (mREq f h) := fun F H σ env Q k p => by
  refine ha F H σ env _ k (Post.bind RE.early p fun r1 e1 F1 H1 x x1 k1 kp1 rv1 p1 => ?_)
  have rv1 : x = .str r1 := rv1
  subst rv1
  refine hb F1 H1 σ e1 _ k1 (Post.bind RE.early p1 fun r2 e2 F2 H2 y x2 k2 kp2 rv2 p2 => ?_)
  have rv2 : y = .str r2 := rv2
  subst rv2
  refine ⟨rfl, ?_⟩
  have e : decide (V.str r1 = V.str r2) = decide (r1 = r2) := by
    by_cases q : r1 = r2
    · simp [q]
    · have : ¬ V.str r1 = V.str r2 := fun z => q (by injection z)
      rw [decide_eq_false q, decide_eq_false this]
  rw [e]
  exact p2 F2 H2 _ .refl k2 .refl (.bl _)
theorem de_rne (ha : DR X W a fr) (hb : DR X W b hr) : DE X W (.Compare a [.NotEq] [b] pos) (mRNe fr hr) := by
  obtain ⟨ta, pa, ga⟩ := ha
  obtain ⟨tb, pb, gb⟩ := hb
  exact ⟨_, pe_cmpR op_ne pa pb (nobehind _ (by decide) (by decide)), good_rne ga gb⟩
theorem de_req (ha : DR X W a fr) (hb : DR X W b hr) : DE X W (.Compare a [.Eq] [b] pos) (mREq fr hr) := by
  obtain ⟨ta, pa, ga⟩ := ha
  obtain ⟨tb, pb, gb⟩ := hb
  exact ⟨_, pe_cmpR op_eq pa pb (nobehind _ (by decide) (by decide)), good_req ga gb⟩
theorem dt_rne (ha : DR X W a fr) (hb : DR X W b hr) : DT X W (.Compare a [.NotEq] [b] pos) (mTest (mRNe fr hr)) := by
  obtain ⟨ta, pa, ga⟩ := ha
  obtain ⟨tb, pb, gb⟩ := hb
  exact ⟨_, pt_cmpR op_ne pa pb (nobehind _ (by decide) (by decide)), good_test (good_rne ga gb)⟩
theorem dt_req (ha : DR X W a fr) (hb : DR X W b hr) : DT X W (.Compare a [.Eq] [b] pos) (mTest (mREq fr hr)) := by
  obtain ⟨ta, pa, ga⟩ := ha
  obtain ⟨tb, pb, gb⟩ := hb
  exact ⟨_, pt_cmpR op_eq pa pb (nobehind _ (by decide) (by decide)), good_test (good_req ga gb)⟩
end

/-! ### methods of texts -/
def isStrD : D → Bool
  | .str _ => true
  | _ => false
theorem ty_str {F H : Hp} {x : V} {d : D} (s : Sub F H) (h : Pk g F H x d) (e : isStrD d = true) : tyV g.K "str" x H := by
  cases d with
  | str z => rw [h.str.1]; rfl
  | _ => cases e
def sumLen (l : List Str) : Nat := (l.map (·.length)).sum
def dJoin1 (a : Str) (ds : List D) : Option Rv := match asStrs ds with
  | some ys => if sumLen ys + ys.length * a.length ≤ 16777216 then some (.val (.str (Str.join a ys))) else none
  | none => none
def dJoin : D → List D → Option Rv
  | .str a, [.list ds] => dJoin1 a ds
  | .str a, [.tuple ds] => dJoin1 a ds
  | _, _ => none
theorem strOk_join {a : Str} (ha : strOk a = true) : ∀ {ys : List Str}, (∀ y ∈ ys, strOk y = true) → strOk (Str.join a ys) = true
  | [], _ => by rw [strOk_iff]; intro c hc; have : c ∈ (Str.empty).cps.toList := hc; simp [Str.empty] at this
  | [x], h => h x (by simp)
  | x :: y :: r, h => strOk_app (strOk_app (h x (by simp)) ha) (strOk_join ha fun z hz => h z (List.mem_cons_of_mem _ hz))
def rJoin (K : PySem.W.Frag) : V → List V → Hp → VK → Prop := fun x xs H Q => ∃ a p, ∃ ys : List Str, x = .str a ∧ xs = [.ref p] ∧ (SqL K H p (ys.map V.str) ∨ SqT K H p (ys.map V.str)) ∧
  (ys.map (·.length)).sum + ys.length * a.length ≤ 16777216 ∧ Q (.str (Txt.join a ys)) H
theorem good_join {F H : Hp} {x : V} {vs : List V} {d : D} {ds : List D} {Q : VK} (s : Sub F H) (hx : Pk g F H x d) (h : Pks g F H vs ds) (p : Post0 g F H Q (dJoin d ds)) : rJoin g.K x vs H Q := by
  have one : ∀ {a : Str} {es : List D} {b : Addr} {ws : List V}, Pk g F H x (.str a) → vs = [.ref b] → (SqL g.K H b ws ∨ SqT g.K H b ws) → DenL g F ws es → Post0 g F H Q (dJoin1 a es) → rJoin g.K x vs H Q := fun {a es b ws} hx e hb hd p => by
    unfold dJoin1 at p
    split at p
    · rename_i ys q
      split at p
      · rename_i hl
        obtain ⟨e1, o1⟩ := hx.str
        obtain ⟨e2, o2⟩ := hd.strs q
        subst e2
        refine ⟨a, b, ys, e1, e, hb, hl, ?_⟩
        have ej : Txt.join a ys = Str.join a ys := PySem.StrLaws.glued_eq_join a ys
        rw [ej]
        exact p.val0 s (.str _ (strOk_join o1 o2))
      · exact p.elim
    · exact p.elim
  unfold dJoin at p
  split at p
  · obtain ⟨v, rfl, hv⟩ := h.one
    obtain ⟨b, ws, rfl, h1, d1⟩ := hv.lst s
    exact one hx rfl (.inl (.inl (.inl h1))) d1 p
  · obtain ⟨v, rfl, hv⟩ := h.one
    obtain ⟨b, ws, rfl, h1, d1⟩ := hv.tup s
    exact one hx rfl (.inr h1) d1 p
  · exact p.elim
theorem nosl_join (d : D) (ds : List D) : NoSl (dJoin d ds) := by
  unfold dJoin dJoin1
  split
  · split
    · split <;> first | exact NoSl.val | exact NoSl.none
    · exact NoSl.none
  · split
    · split <;> first | exact NoSl.val | exact NoSl.none
    · exact NoSl.none
  · exact NoSl.none
theorem de_join {X : Cx} {o e : Expr} {apos cpos : Pos} {f h : ME} (ho : DE X W o f) (ha : DE X W e h) (hs : starEach [e] X.env = (false, eval e X.env) :: starEach [] X.env := by rfl) (hbase : attributeBase o "join" X.env (eval o X.env) = eval o X.env := by rfl)
    (hfew : ((backTo cpos (starEach [e] X.env)).all (fun x => !x.1) && (backToKw cpos (keywordEach [] X.env)).all (fun x => x.1.isSome)
      && decide ([e].length + ([] : List Keyword).length + (if ([] : List Keyword).isEmpty then 0 else 1) < 30)) = true := by rfl)
    (hline : (apos.endLine == cpos.line) = true := by rfl) (hplain : (backTo cpos (starEach [] X.env)).any (·.1) = false := by rfl) : DE X W (.Call (.Attribute o "join" apos) [e] [] cpos) (mMeth dJoin isStrD f [h]) := by
  obtain ⟨t, pt, gt⟩ := ho
  obtain ⟨u, pu, gu⟩ := ha
  exact ⟨_, pe_bm PySem.F.plainAttrs_str PySem.F.slot_str_join PySem.F.type_str_join mt_join pt (pa_cons pu pa_nil hs) hbase hfew hline hs hplain, good_meth (T := "str") (r := rJoin X.K) gt (.cons gu .nil) (fun F H x vs d ds Q s hx h p => good_join s hx h p) (fun F H x d s h e => ty_str s h e) nosl_join⟩

/-! ### what is walked -/
def itemsD : D → Option (List D)
  | .list ds => some ds
  | .tuple ds => some ds
  | .str x => some (x.cps.toList.map fun c => .str (signS c))
  | .dict [(.bool true, .list ds)] => some ds
  | _ => none
def lockR (r : Rv) (env : Env) : Res ((D × Option Nat) × Env) := match r with
  | .sl j => match env[j]? with
    | some (.fz d) => .ok ((d, none), env)
    | some (.ow .fr d) => .ok ((d, some j), env.set j (.ow .lk d))
    | some (.ow .lk d) => .ok ((d, none), env)
    | _ => .stuck
  | r => r.frz env >>= fun z => .ok ((z.1, none), z.2)
def mIter (f : ME) : MI := fun env => f env >>= fun z => lockR z.1 z.2 >>= fun y => match itemsD y.1.1 with
  | some ds => .ok ((ds, y.1.2), y.2)
  | none => .stuck
def iVal (K : PySem.W.Frag) (te : TE) : TI := fun σ H R => te σ H fun x H1 => (∃ a, x = .ref a ∧ (∃ xs, SqL K H1 a xs) ∧ R (Itl K a) H1) ∨ (∃ a, x = .ref a ∧ (∃ xs, SqT K H1 a xs) ∧ R (Itt K a) H1) ∨ ∃ z, x = .str z ∧ R (Its z) H1
theorem pi_val {X : Cx} {tg e : Expr} {te : TE} (he : PE X e te) : PI X tg e (iVal X.K te) := by
  refine ⟨fun pins s σ H R I h => ?_⟩
  refine thn (he.run pins s σ H _ I h) fun v s1 ⟨x, H1, I1, r1, q1⟩ => ?_
  rcases q1 with ⟨a, ex, ⟨xs, hq⟩, q⟩ | ⟨a, ex, ⟨xs, hq⟩, q⟩ | ⟨z, ex, q⟩
  · subst ex
    cases r1
    obtain ⟨its, rv, p, _⟩ := I1.list hq
    exact wpAny_pyIter_list p.isList (pi_one (tk := s1.toks) I1 _ (turn_list a _) ⟨_, Heap.get?_push_size _ rfl, rfl, rfl⟩ q)
  · subst ex
    cases r1
    obtain ⟨its, rv, p, _⟩ := I1.tuple hq
    exact wpAny_pyIter_tuple (show s1.heap.IsTuple a its.toArray from p) (pi_one (tk := s1.toks) I1 _ (turn_tuple a _) ⟨_, Heap.get?_push_size _ rfl, rfl, rfl⟩ q)
  · subst ex
    obtain ⟨t, rfl⟩ := r1
    cases ha : z.cps.all (· < 128)
    · exact PySem.wpAny_pyIter_wide ha (pi_one (tk := s1.toks) I1 _ (turn_str _ z t "str_iterator" (.inr rfl)) ⟨_, Heap.get?_push_size _ rfl, rfl, rfl⟩ q)
    · exact PySem.wpAny_pyIter_ascii ha (pi_one (tk := s1.toks) I1 _ (turn_str _ z t "str_ascii_iterator" (.inl rfl)) ⟨_, Heap.get?_push_size _ rfl, rfl, rfl⟩ q)
theorem lock_adr {σ : St} {env : Env} {j i : Nat} {a : Addr} {d : D} (q : env[j]? = some (.ow .fr d)) : Adr σ (env.set j (.ow .lk d)) i a ↔ Adr σ env i a := by
  constructor
  · rintro ⟨⟨k, d2, h1⟩, h2⟩
    rcases get_set h1 with ⟨e, _, _⟩ | ⟨_, h3⟩
    · subst e; exact ⟨⟨_, _, q⟩, h2⟩
    · exact ⟨⟨k, d2, h3⟩, h2⟩
  · rintro ⟨⟨k, d2, h1⟩, h2⟩
    by_cases e : j = i
    · subst e; exact ⟨⟨.lk, d, List.getElem?_set_self (lt_of_get q)⟩, h2⟩
    · exact ⟨⟨k, d2, by rw [List.getElem?_set_ne e]; exact h1⟩, h2⟩
theorem lock_own {σ : St} {env : Env} {j : Nat} {d : D} (q : env[j]? = some (.ow .fr d)) : Own σ (env.set j (.ow .lk d)) = Own σ env := by
  funext a
  exact propext ⟨fun ⟨i, h⟩ => ⟨i, (lock_adr q).mp h⟩, fun ⟨i, h⟩ => ⟨i, (lock_adr q).mpr h⟩⟩
/-- what is walked is there whatever comes -/
def Still (g : G) (v : V) (d : D) (F H : Hp) (σ : St) (env : Env) : Prop := ∀ F2 H2 σ2 env2, Ext F H (Own σ env) F2 H2 (Own σ2 env2) → Keep σ env σ2 env2 → EnvOk g F2 H2 σ2 env2 → Pk g F2 H2 v d
theorem lockR_ok {F0 H0 F H : Hp} {O : Addr → Prop} {σ : St} {env e' : Env} {v : V} {r : Rv} {d : D} {o : Option Nat} (h : RvOk g H0 F H σ env v r) (x : Ext F0 H0 O F H (Own σ env)) (k : EnvOk g F H σ env) (e : lockR r env = .ok ((d, o), e')) :
    ∃ F', Ext F0 H0 O F' H (Own σ e') ∧ EnvOk g F' H σ e' ∧ Keep σ env σ e' ∧ Still g v d F' H σ e' := by
  have frozen : ∀ {r : Rv} {z : D × Env}, RvOk g H0 F H σ env v r → r.frz env = .ok z → (d, e') = z → ∃ F', Ext F0 H0 O F' H (Own σ e') ∧ EnvOk g F' H σ e' ∧ Keep σ env σ e' ∧ Still g v d F' H σ e' := fun {r z} h q ez => by
    subst ez
    obtain ⟨F', x', k', kp, hd⟩ := RvOk.frz h x k q
    exact ⟨F', x', k', kp, fun F2 H2 σ2 env2 x2 _ _ => .inl (hd.mono x2.sub)⟩
  cases r with
  | val d' =>
    unfold lockR at e
    simp only [Rv.frz, Res.ok_bind] at e
    cases e
    exact frozen (r := .val d) h rfl rfl
  | new d' =>
    unfold lockR at e
    simp only [Rv.frz, Res.ok_bind] at e
    cases e
    exact frozen (r := .new d) h rfl rfl
  | sl j =>
    have hs : σ[j]? = some (some v) := h
    unfold lockR at e
    simp only at e
    split at e
    · rename_i d' q
      cases e
      obtain ⟨w, h1, v', h2, h3⟩ := k.sl j _ q
      rw [hs] at h1; cases h1; cases h2
      exact ⟨F, x, k, .refl, fun F2 H2 σ2 env2 x2 _ _ => .inl (h3.mono x2.sub)⟩
    · rename_i d' q
      cases e
      refine ⟨F, ?_, ⟨by simpa using k.len, k.sub, fun i s z => ?_, fun i1 i2 a z1 z2 => k.dis i1 i2 a ((lock_adr q).mp z1) ((lock_adr q).mp z2)⟩, fun i kd d2 z n => ?_, fun F2 H2 σ2 env2 x2 kp2 k2 => ?_⟩
      · rw [lock_own q]; exact x
      · rcases get_set z with ⟨e1, e2, _⟩ | ⟨_, e2⟩
        · subst e1; subst e2
          obtain ⟨w, h1, h2⟩ := k.sl j _ q
          exact ⟨w, h1, h2⟩
        · exact k.sl i s e2
      · have hj : j ≠ i := fun zz => by subst zz; rw [q] at z; cases z; exact n rfl
        exact ⟨rfl, d2, by rw [List.getElem?_set_ne hj]; exact z, fun _ => rfl⟩
      · obtain ⟨y1, d', y2, y3⟩ := kp2 j .lk d (List.getElem?_set_self (lt_of_get q)) (by decide)
        have := y3 rfl
        subst this
        obtain ⟨w, h1, a, h2, h3, h4⟩ := k2.sl j _ y2
        rw [y1, hs] at h1; cases h1; cases h2
        exact .inr ⟨a, rfl, h4⟩
    · rename_i d' q
      cases e
      refine ⟨F, x, k, .refl, fun F2 H2 σ2 env2 x2 kp2 k2 => ?_⟩
      obtain ⟨y1, d', y2, y3⟩ := kp2 j .lk d q (by decide)
      have := y3 rfl
      subst this
      obtain ⟨w, h1, a, h2, h3, h4⟩ := k2.sl j _ y2
      rw [y1, hs] at h1; cases h1; cases h2
      exact .inr ⟨a, rfl, h4⟩
    · cases e
theorem good_iter {te : TE} {f : ME} (h : GoodE g W te f) : GoodI g W (iVal g.K te) (mIter f) := fun F H σ env R k p => by
  cases hf : f env with
  | stuck => exact h F H σ env _ k (by unfold mIter at p; rw [hf] at p ⊢; exact p.elim)
  | ex c d e => exact h F H σ env _ k (by unfold mIter at p; rw [hf] at p ⊢; exact p)
  | ok z =>
    obtain ⟨r, e1⟩ := z
    refine h F H σ env _ k ?_
    rw [hf]
    intro F1 H1 v x1 k1 kp1 rv
    unfold mIter at p
    rw [hf] at p
    simp only [Res.ok_bind] at p
    cases hl : lockR r e1 with
    | stuck => rw [hl] at p; exact p.elim
    | ex c d e => rw [hl] at p; unfold lockR at hl; cases r <;> simp [Rv.frz] at hl; split at hl <;> cases hl
    | ok y =>
      obtain ⟨⟨d, o⟩, e2⟩ := y
      rw [hl] at p
      simp only [Res.ok_bind] at p
      obtain ⟨F2, x2, k2, kp2, st⟩ := lockR_ok rv x1 k1 hl
      cases hd : itemsD d with
      | none => rw [hd] at p; exact p.elim
      | some ds =>
        rw [hd] at p
        have fin : ∀ J : It, IterOk g J ds F2 H1 σ e2 → R J H1 := fun J hj => p F2 H1 J x2 k2 (kp1.trans kp2) hj
        have now := st F2 H1 σ e2 .refl .refl k2
        unfold itemsD at hd
        split at hd
        · cases hd
          obtain ⟨a, xs, e, ha, hden⟩ := now.lst k2.sub
          refine .inl ⟨a, e, ⟨xs, .inl (.inl ha)⟩, fin _ fun i F3 H3 σ3 e3 x3 kp3 k3 => ?_⟩
          obtain ⟨b, ys, e', hb, hden'⟩ := (st F3 H3 σ3 e3 x3 kp3 k3).lst k3.sub
          rw [e] at e'; cases e'
          refine ⟨fun d' hd' => ?_, fun hi => ⟨ys, .inl (.inl hb), by rw [hden'.length, hi]; exact Nat.le_refl _⟩⟩
          obtain ⟨w, hw, dw⟩ := hden'.get hd'
          refine ⟨⟨ys, w, .inl (.inl hb), hw⟩, fun x' H4 ⟨e4, y4⟩ => ?_⟩
          subst e4
          have := y4 ys (.inl (.inl hb))
          rw [hw] at this; cases this
          exact ⟨F3, .refl k3.sub, dw⟩
        · cases hd
          obtain ⟨a, xs, e, ha, hden⟩ := now.tup k2.sub
          refine .inr (.inl ⟨a, e, ⟨xs, ha⟩, fin _ fun i F3 H3 σ3 e3 x3 kp3 k3 => ?_⟩)
          obtain ⟨b, ys, e', hb, hden'⟩ := (st F3 H3 σ3 e3 x3 kp3 k3).tup k3.sub
          rw [e] at e'; cases e'
          refine ⟨fun d' hd' => ?_, fun hi => ⟨ys, hb, by rw [hden'.length, hi]; exact Nat.le_refl _⟩⟩
          obtain ⟨w, hw, dw⟩ := hden'.get hd'
          refine ⟨⟨ys, w, hb, hw⟩, fun x' H4 ⟨e4, y4⟩ => ?_⟩
          subst e4
          have := y4 ys hb
          rw [hw] at this; cases this
          exact ⟨F3, .refl k3.sub, dw⟩
        · rename_i z
          cases hd
          obtain ⟨e, ok⟩ := now.str
          refine .inr (.inr ⟨z, e, fin _ fun i F3 H3 σ3 e3 x3 kp3 k3 => ⟨fun d' hd' => ?_, fun hi => ?_⟩⟩)
          · rw [List.getElem?_map] at hd'
            cases hc : z.cps.toList[i]? with
            | none => rw [hc] at hd'; cases hd'
            | some c =>
              rw [hc] at hd'
              cases hd'
              have hlt : i < z.cps.size := by have := lt_of_get hc; simpa using this
              refine ⟨hlt, fun x' H4 ⟨e4, c', y4, y5⟩ => ?_⟩
              subst e4; subst y5
              have : c' = c := by
                have h1 : z.cps.toList[i]? = z.cps[i]? := by simp
                rw [← h1, hc] at y4
                exact (Option.some.inj y4).symm
              subst this
              exact ⟨F3, .refl k3.sub, .str _ (strOk_sub (l := [c']) ok fun c2 h2 => by
                have : c2 = c' := by simpa using h2
                subst this
                exact List.mem_of_getElem? hc)⟩
          · show z.cps.size ≤ i
            rw [hi]; simp
        · cases hd
          obtain ⟨a, xs, e, ha, hden⟩ := Pk.ro k2.sub now
          refine .inl ⟨a, e, ⟨xs, ha⟩, fin _ fun i F3 H3 σ3 e3 x3 kp3 k3 => ?_⟩
          obtain ⟨b, ys, e', hb, hden'⟩ := Pk.ro k3.sub (st F3 H3 σ3 e3 x3 kp3 k3)
          rw [e] at e'; cases e'
          refine ⟨fun d' hd' => ?_, fun hi => ⟨ys, hb, by rw [hden'.length, hi]; exact Nat.le_refl _⟩⟩
          obtain ⟨w, hw, dw⟩ := hden'.get hd'
          refine ⟨⟨ys, w, hb, hw⟩, fun x' H4 ⟨e4, y4⟩ => ?_⟩
          subst e4
          have := y4 ys hb
          rw [hw] at this; cases this
          exact ⟨F3, .refl k3.sub, dw⟩
        · cases hd
theorem di_val {X : Cx} {tg e : Expr} {f : ME} (h : DE X W e f) : DI X W tg e (mIter f) := by
  obtain ⟨t, pt, gt⟩ := h
  exact ⟨_, pi_val pt, good_iter gt⟩
/-- ranges -/
def rangeD (lo : Int) (n : Nat) : List D := (List.range n).map fun i => .int (lo + (i : Nat))
def rng62 (i : Int) : Bool := decide (-4611686018427387904 ≤ i) && decide (i < 4611686018427387904)
def rngOf1 : List D → Option (Int × Nat)
  | [.int j] => if rng62 j = true then some (0, j.toNat) else none
  | _ => none
def rngOf2 : List D → Option (Int × Nat)
  | [.int i, .int j] => if rng62 i = true ∧ rng62 j = true then some (i, (j - i).toNat) else none
  | _ => none
def mRange (o : List D → Option (Int × Nat)) (fs : List ME) : MI := fun env => evRs fs env >>= fun z => match datas z.2 z.1 with
  | some ds => match o ds with
    | some r => .ok ((rangeD r.1 r.2, none), z.2)
    | none => .stuck
  | none => .stuck
theorem iter_range {lo : Int} {n : Nat} {F H : Hp} {σ : St} {env : Env} : IterOk g (Itr lo n) (rangeD lo n) F H σ env := fun i F3 H3 σ3 e3 x3 kp3 k3 => by
  refine ⟨fun d hd => ?_, fun hi => ?_⟩
  · unfold rangeD at hd
    rw [List.getElem?_map] at hd
    by_cases hl : i < n
    · rw [List.getElem?_range hl] at hd
      cases hd
      refine ⟨hl, fun x H4 ⟨e4, y4⟩ => ?_⟩
      subst e4; subst y4
      exact ⟨F3, .refl k3.sub, .int _⟩
    · rw [List.getElem?_eq_none (by simpa using hl)] at hd; cases hd
  · show n ≤ i
    rw [hi]; simp [rangeD]
theorem rng62_ok {i : Int} (h : rng62 i = true) : -(2 ^ 62) ≤ i ∧ i < 2 ^ 62 := by
  unfold rng62 at h
  rw [Bool.and_eq_true, decide_eq_true_eq, decide_eq_true_eq] at h
  have : (2 : Int) ^ 62 = 4611686018427387904 := by decide
  omega
theorem good_range1 {t : TA} {fs : List ME} (h : AllE g W t fs) : GoodI g W (iRng1 t) (mRange rngOf1 fs) := fun F H σ env R k p => by
  refine h.rs F H σ env _ k (Post.bind (R := RRs g) RI.early p fun rs e1 F1 H1 vs x1 k1 kp1 hrs p1 => ?_)
  have hrs : Paired (fun v r => RvOk g noH F1 H1 σ e1 v r) vs rs := hrs
  cases q : datas e1 rs with
  | none => rw [q] at p1; exact p1.elim
  | some ds =>
    rw [q] at p1
    have pk := datas_pk k1 hrs q
    cases hr : rngOf1 ds with
    | none => simp only [hr] at p1; exact p1.elim
    | some r =>
      simp only [hr] at p1
      unfold rngOf1 at hr
      split at hr
      · split at hr
        · rename_i j hj
          cases hr
          obtain ⟨v, rfl, hv⟩ := pk.one
          exact ⟨j, by rw [hv.int], (rng62_ok hj).1, (rng62_ok hj).2, p1 F1 H1 _ .refl k1 .refl iter_range⟩
        · cases hr
      · cases hr
theorem good_range2 {t : TA} {fs : List ME} (h : AllE g W t fs) : GoodI g W (iRng2 t) (mRange rngOf2 fs) := fun F H σ env R k p => by
  refine h.rs F H σ env _ k (Post.bind (R := RRs g) RI.early p fun rs e1 F1 H1 vs x1 k1 kp1 hrs p1 => ?_)
  have hrs : Paired (fun v r => RvOk g noH F1 H1 σ e1 v r) vs rs := hrs
  cases q : datas e1 rs with
  | none => rw [q] at p1; exact p1.elim
  | some ds =>
    rw [q] at p1
    have pk := datas_pk k1 hrs q
    cases hr : rngOf2 ds with
    | none => simp only [hr] at p1; exact p1.elim
    | some r =>
      simp only [hr] at p1
      unfold rngOf2 at hr
      split at hr
      · split at hr
        · rename_i i j hj
          cases hr
          obtain ⟨v, w, rfl, hv, hw⟩ := pk.two
          exact ⟨i, j, by rw [hv.int, hw.int], ⟨(rng62_ok hj.1).1, (rng62_ok hj.1).2, (rng62_ok hj.2).1, (rng62_ok hj.2).2⟩, p1 F1 H1 _ .refl k1 .refl iter_range⟩
        · cases hr
      · cases hr
section
variable {X : Cx} {tg a b : Expr} {p pos : Pos} {f h : ME}
theorem di_range1 (hm : X.mg "range" = none) (ha : DE X W a f) (hg : Gl X "range" := by rfl) (hs : starEach [a] X.env = [(false, eval a X.env)] := by rfl) : DI X W tg (.Call (.Name "range" p) [a] [] pos) (mRange rngOf1 [f]) := by
  obtain ⟨t, pt, gt⟩ := ha
  exact ⟨_, pi_range1 hg hm (pa_cons pt pa_nil hs) hs, good_range1 (.cons gt .nil)⟩
theorem di_range2 (hm : X.mg "range" = none) (ha : DE X W a f) (hb : DE X W b h) (hg : Gl X "range" := by rfl) (hs : starEach [a, b] X.env = [(false, eval a X.env), (false, eval b X.env)] := by rfl) (hs2 : starEach [b] X.env = [(false, eval b X.env)] := by rfl) : DI X W tg (.Call (.Name "range" p) [a, b] [] pos) (mRange rngOf2 [f, h]) := by
  obtain ⟨t, pt, gt⟩ := ha
  obtain ⟨u, pu, gu⟩ := hb
  exact ⟨_, pi_range2 hg hm (pa_cons pt (pa_cons pu pa_nil hs2) (by rw [hs, hs2])) hs hs2, good_range2 (.cons gt (.cons gu .nil))⟩
end
end DL
namespace DL
open PySem PySem.Spec L2
variable {g : G} {W : WX}

/-- the reading that a mirror is -/
def tOf {β α : Type} (R : RelB β α) (g : G) (W : WX) (f : Env → Res (α × Env)) : St → Hp → (β → Hp → Prop) → Prop := fun σ H Q => ∃ F env, EnvOk g F H σ env ∧ Post R g W F H σ env Q (f env)
theorem good_of {β α : Type} {R : RelB β α} {f : Env → Res (α × Env)} : Good R g W (tOf R g W f) f := fun F H σ env Q k p => ⟨F, env, k, p⟩
theorem of_good {β α : Type} {R : RelB β α} {f : Env → Res (α × Env)} {t : St → Hp → (β → Hp → Prop) → Prop} (h : Good R g W t f) {σ : St} {H : Hp} {Q : β → Hp → Prop} (q : tOf R g W f σ H Q) : t σ H Q := let ⟨F, env, k, p⟩ := q; h F H σ env Q k p
theorem DE.pe {X : Cx} {e : Expr} {f : ME} (h : DE X W e f) : PE X e (tOf (RE ⟨X.K, X.mg⟩) ⟨X.K, X.mg⟩ W f) := by
  obtain ⟨t, p, q⟩ := h
  exact ⟨fun pins s σ H Q I z => p.run pins s σ H Q I (of_good q z)⟩
theorem DT.pt {X : Cx} {e : Expr} {f : MT} (h : DT X W e f) : PT X e (tOf RB ⟨X.K, X.mg⟩ W f) := by
  obtain ⟨t, p, q⟩ := h
  exact ⟨fun pins s σ H Q I z => p.run pins s σ H Q I (of_good q z)⟩
/-- targets: names, tuples of targets -/
inductive Tg
  | nm (i : Nat)
  | tp (r : List Tg)
mutual
def Tg.r (K : PySem.W.Frag) : Tg → TG
  | .nm i => gName i
  | .tp l => gTup K l.length (Tg.rs K l)
def Tg.rs (K : PySem.W.Frag) : List Tg → TGs
  | [] => gNil
  | t :: l => gCons (Tg.r K t) (Tg.rs K l)
end
mutual
def Tg.m : Tg → MG
  | .nm i => mName i
  | .tp l => mTupG (Tg.ms l)
def Tg.ms : List Tg → List MG
  | [] => []
  | t :: l => Tg.m t :: Tg.ms l
end
mutual
def Tg.inn (vs : List Nat) : Tg → Bool
  | .nm i => vs.contains i
  | .tp l => Tg.inns vs l
def Tg.inns (vs : List Nat) : List Tg → Bool
  | [] => true
  | t :: l => Tg.inn vs t && Tg.inns vs l
end
theorem Tg.ms_len : ∀ l : List Tg, (Tg.ms l).length = l.length
  | [] => by simp [Tg.ms]
  | t :: l => by simp [Tg.ms, Tg.ms_len l]
mutual
theorem Tg.good : ∀ t : Tg, GoodG g W (t.r g.K) t.m
  | .nm i => by simp only [Tg.r, Tg.m]; exact good_name
  | .tp l => by simp only [Tg.r, Tg.m]; exact good_tupG (Tg.goods l) (Tg.ms_len l)
theorem Tg.goods : ∀ l : List Tg, AllG g W (Tg.rs g.K l) (Tg.ms l)
  | [] => by simp only [Tg.rs, Tg.ms]; exact .nil
  | t :: l => by simp only [Tg.rs, Tg.ms]; exact .cons (Tg.good t) (Tg.goods l)
end
mutual
theorem Tg.wi {K : PySem.W.Frag} {vs : List Nat} : ∀ t : Tg, t.inn vs = true → Wi vs (t.r K)
  | .nm i, h => by simp only [Tg.r]; simp only [Tg.inn, List.contains_eq_mem, decide_eq_true_eq] at h; exact wi_name h
  | .tp l, h => by simp only [Tg.r]; simp only [Tg.inn] at h; exact wi_tup (Tg.wis l h)
theorem Tg.wis {K : PySem.W.Frag} {vs : List Nat} : ∀ l : List Tg, Tg.inns vs l = true → WiS vs (Tg.rs K l)
  | [], _ => by simp only [Tg.rs]; exact wi_nil
  | t :: l, h => by
    simp only [Tg.rs]
    simp only [Tg.inns, Bool.and_eq_true] at h
    exact wi_cons (Tg.wi t h.1) (Tg.wis l h.2)
end
/-- a target of the text -/
structure DTg (X : Cx) (e : Expr) (t : Tg) : Prop where
  pg : PG X e (t.r X.K)
structure DTgs (X : Cx) (es : List Expr) (l : List Tg) : Prop where
  pg : PGs X es (Tg.rs X.K l)
section
variable {X : Cx} {e : Expr} {es : List Expr} {t : Tg} {l : List Tg} {pos : Pos}
theorem dtg_name {i : Nat} {x : Str} (hN : X.N.Nodup) (hi : X.N[i]? = some x) (hx : Loc X.env.scope x) (hf : X.fn x = true ∨ X.env.scope.names.lookup x = some .local := by first | exact .inl rfl | exact .inr rfl | assumption) : DTg X (.Name x pos) (.nm i) :=
  ⟨by simp only [Tg.r]; exact pg_name hN hi hx hf⟩
theorem dtgs_nil : DTgs X [] [] := ⟨by simp only [Tg.rs]; exact pgs_nil⟩
theorem dtgs_cons (h : DTg X e t) (hr : DTgs X es l) (hs : (assignEach (e :: es) X.env).map (·.2) = assign e X.env :: (assignEach es X.env).map (·.2) := by rfl) : DTgs X (e :: es) (t :: l) :=
  ⟨by simp only [Tg.rs]; exact pgs_cons h.pg hr.pg hs⟩
theorem dtg_tup {k : Nat} (hc : X.calm = true) (h : DTgs X es l) (hn : (assignEach es X.env).length = l.length := by rfl) (hst : (assignEach es X.env).findIdx? (·.1) = none := by rfl) : DTg X (.Tuple es k pos) (.tp l) :=
  ⟨by simp only [Tg.r]; exact pg_tup hc h.pg hn hst⟩
theorem DTg.dg (h : DTg X e t) : DG X W e t.m := ⟨_, h.pg, Tg.good t⟩
end
def mYes : MT := fun env => .ok (true, env)
/-- a comprehension's tests -/
structure DTs (X : Cx) (W : WX) (ifs : List Expr) (f : MT) : Prop where
  pt : PTs X ifs (tOf RB ⟨X.K, X.mg⟩ W f)
theorem dts_nil {X : Cx} : DTs X W [] mYes := ⟨⟨fun pins s σ H Q I ⟨F, env, k, p⟩ => pts_nil.run pins s σ H Q I (p F H true .refl k .refl rfl)⟩⟩
theorem dts_one {X : Cx} {c : Expr} {f : MT} (h : DT X W c f) : DTs X W [c] f := ⟨pts_one h.pt⟩
theorem de_lc {X : Cx} {elt tg iter : Expr} {ifs : List Expr} {scope : Scope} {own : List (Str × Nat)} {pos : Pos} {mi : MI} {t : Tg} {mt : MT} {f : ME} (hc : X.calm = true) (hN : X.N.Nodup) (hi : DI X W tg iter mi) (ok : BlkOk X.N X.env.scope scope own) (hin : t.inn (own.map (·.2)) = true)
    (hg : ∀ (s : Shared) (H : Hp) (C : Addr) (cl : List (Str × Addr)) (fp : List Addr), DTg (X.blk s H scope (compEnvC scope cl C X.env) fp) tg t) (ht : ∀ (s : Shared) (H : Hp) (C : Addr) (cl : List (Str × Addr)) (fp : List Addr), DTs (X.blk s H scope (compEnvC scope cl C X.env) fp) WNo ifs mt)
    (he : ∀ (s : Shared) (H : Hp) (C : Addr) (cl : List (Str × Addr)) (fp : List Addr), DE (X.blk s H scope (compEnvC scope cl C X.env) fp) WNo elt f) (hs : ∀ x, foldedSetIterable iter X.env x = pure x := by intro _; rfl) :
    DE X W (.ListComp elt [⟨tg, iter, ifs, 0⟩] scope pos) (mLc mi t.m mt f (own.map (·.2))) := by
  obtain ⟨ti, pi, gi⟩ := hi
  exact ⟨_, pe_lc hc hN pi ok (fun s H C cl fp => (hg s H C cl fp).pg) (fun s H C cl fp => (ht s H C cl fp).pt) (fun s H C cl fp => (he s H C cl fp).pe) hs, good_lc gi (Tg.wi t hin) (Tg.good t) good_of good_of⟩
theorem ds_setLc {X : Cx} {i : Nat} {y : Str} {py : Pos} {elt tg iter : Expr} {ifs : List Expr} {scope : Scope} {own : List (Str × Nat)} {pos spos : Pos} {mi : MI} {t : Tg} {mt : MT} {f : ME} (hc : X.calm = true) (hN : X.N.Nodup) (hy : X.N[i]? = some y) (hyl : X.env.scope.names.lookup y = some .local)
    (hsw : swapsWith (.ListComp elt [⟨tg, iter, ifs, 0⟩] scope pos) (some (.Name y py)) spos.line X.env = pure true) (hi : DI X W tg iter mi) (ok : BlkOk X.N X.env.scope scope own) (hin : t.inn (own.map (·.2)) = true)
    (hg : ∀ (s : Shared) (H : Hp) (C : Addr) (cl : List (Str × Addr)) (fp : List Addr), DTg (X.blk s H scope (compEnvC scope cl C X.env) fp) tg t) (ht : ∀ (s : Shared) (H : Hp) (C : Addr) (cl : List (Str × Addr)) (fp : List Addr), DTs (X.blk s H scope (compEnvC scope cl C X.env) fp) WNo ifs mt)
    (he : ∀ (s : Shared) (H : Hp) (C : Addr) (cl : List (Str × Addr)) (fp : List Addr), DE (X.blk s H scope (compEnvC scope cl C X.env) fp) WNo elt f) (hs : ∀ x, foldedSetIterable iter X.env x = pure x := by intro _; rfl) :
    DS X W (.Assign [.Name y py] (.ListComp elt [⟨tg, iter, ifs, 0⟩] scope pos) spos) (mAsg (mLc mi t.m mt f (own.map (·.2))) (mName i)) := by
  obtain ⟨ti, pi, gi⟩ := hi
  exact ⟨_, ps_setLc hc hN hy hyl hsw pi ok (fun s H C cl fp => (hg s H C cl fp).pg) (fun s H C cl fp => (ht s H C cl fp).pt) (fun s H C cl fp => (he s H C cl fp).pe) hs, good_asg (good_lc gi (Tg.wi t hin) (Tg.good t) good_of good_of) good_name⟩
end DL
namespace DL
open PySem PySem.Spec L2
variable {g : G} {W : WX}

/-- an own object of a slot has changed -/
theorem EnvOk.change {F H : Hp} {σ : St} {env : Env} {i : Nat} {kd : Kd} {d0 d : D} {a : Addr} {o : HO} (k : EnvOk g F H σ env) (he : env[i]? = some (.ow kd d0)) (hs : σ[i]? = some (some (.ref a))) (hk : kd ≠ .lk) (hw : OwnAt g F (upd H a o) a d) :
    Ext F H (Own σ env) F (upd H a o) (Own σ (env.set i (.ow kd d))) ∧ EnvOk g F (upd H a o) σ (env.set i (.ow kd d)) ∧ Keep σ env σ (env.set i (.ow kd d)) := by
  obtain ⟨w, h1, b, h2, h3, h4⟩ := k.sl i _ he
  rw [hs] at h1; cases h1; cases h2
  have oa : Own σ env a := ⟨i, ⟨_, _, he⟩, hs⟩
  have adr : ∀ j c, Adr σ (env.set i (.ow kd d)) j c → Adr σ env j c := fun j c ⟨⟨k2, d2, z1⟩, z2⟩ => by
    rcases get_set z1 with ⟨e1, _, _⟩ | ⟨_, e2⟩
    · subst e1; exact ⟨⟨_, _, he⟩, z2⟩
    · exact ⟨⟨_, _, e2⟩, z2⟩
  refine ⟨⟨.refl, fun b u q n => ?_, fun b q => ?_, fun b q1 q2 => absurd q1 q2, fun b ⟨j, q⟩ => .inr ⟨j, adr j b q⟩⟩, ⟨by simpa using k.len, fun b u q => ?_, fun j s q => ?_, fun j1 j2 c q1 q2 => k.dis j1 j2 c (adr j1 c q1) (adr j2 c q2)⟩, fun j k2 d2 q n => ?_⟩
  · have : b ≠ a := fun z => by subst z; exact n oa
    rw [upd_ne this]; exact q
  · by_cases e : b = a
    · subst e; rw [upd_same]; simp
    · rw [upd_ne e]; exact q
  · have : b ≠ a := fun z => by subst z; rw [h3] at q; cases q
    rw [upd_ne this]; exact k.sub b u q
  · rcases get_set q with ⟨e1, e2, _⟩ | ⟨e1, e2⟩
    · subst e1; subst e2
      exact ⟨_, hs, a, rfl, h3, hw⟩
    · obtain ⟨w, y1, y2⟩ := k.sl j s e2
      refine ⟨w, y1, ?_⟩
      cases s with
      | no => trivial
      | fz d => exact y2
      | ow k3 d3 =>
        obtain ⟨b, y3, y4, y5⟩ := y2
        have nb : b ≠ a := fun z => e1 (k.dis i j a ⟨⟨_, _, he⟩, hs⟩ ⟨⟨_, _, e2⟩, by rw [y1, y3, z]⟩)
        exact ⟨b, y3, y4, y5.mono .refl fun u q => by rw [upd_ne nb]; exact q⟩
  · by_cases e : i = j
    · subst e
      rw [he] at q; cases q
      exact ⟨rfl, d, List.getElem?_set_self (lt_of_get he), fun z => absurd z hk⟩
    · exact ⟨rfl, d2, by rw [List.getElem?_set_ne e]; exact q, fun _ => rfl⟩
/-- the own list of a slot -/
def ownL (env : Env) (i : Nat) : Option (Kd × List D) := match env[i]? with
  | some (.ow .fr (.list ds)) => some (.fr, ds)
  | some (.ow .pn (.list ds)) => some (.pn, ds)
  | _ => none
theorem ownL_ok {env : Env} {i : Nat} {k : Kd} {ds : List D} (h : ownL env i = some (k, ds)) : env[i]? = some (.ow k (.list ds)) ∧ k ≠ .lk := by
  unfold ownL at h
  split at h
  · rename_i q; cases h; exact ⟨q, by decide⟩
  · rename_i q; cases h; exact ⟨q, by decide⟩
  · cases h
theorem EnvOk.ownL {F H : Hp} {σ : St} {env : Env} {i : Nat} {kd : Kd} {ds : List D} (k : EnvOk g F H σ env) (h : DL.ownL env i = some (kd, ds)) : ∃ a xs, σ[i]? = some (some (.ref a)) ∧ H a = some (.lst xs) ∧ DenL g F xs ds := by
  obtain ⟨w, h1, a, h2, h3, h4⟩ := k.sl i _ (ownL_ok h).1
  subst h2
  generalize hd : PyData.list ds = d at h4
  cases h4 with
  | lst h r => cases hd; exact ⟨a, _, h1, h, r⟩
  | dctK _ _ _ _ e => subst e; cases hd
  | dctT _ _ _ _ e => subst e; cases hd
  | ins _ _ _ _ e => subst e; cases hd
theorem PostS.bindF {F H : Hp} {σ : St} {env : Env} {Dn : Ends} {Qa : VK} {m : Res (Rv × Env)} {k : D × Env → Res (Fl × Env)} (h : PostS g W F H σ env Dn (m >>= fun z => z.1.frz z.2 >>= k))
    (hk : ∀ d e2 F2 H1 v, Ext F H (Own σ env) F2 H1 (Own σ e2) → EnvOk g F2 H1 σ e2 → Keep σ env σ e2 → Den g F2 v d → PostS g W F2 H1 σ e2 Dn (k (d, e2)) → Qa v H1) : Post (RE g) g W F H σ env Qa m := by
  refine PostS.bindE h fun r e1 F1 H1 v x ok kp rv p => ?_
  rcases frz_cases r e1 with ⟨d, e2, q⟩ | q
  · simp only [q, Res.ok_bind] at p
    obtain ⟨F2, x2, k2, kp2, hd⟩ := RvOk.frz rv x ok q
    exact hk d e2 F2 H1 v x2 k2 (kp.trans kp2) hd (PostS.after x2 (kp.trans kp2) p)
  · simp only [q, Res.stuck_bind] at p; exact p.elim
/-- x[i] = e -/
def mSetIx (j : Nat) (f fi : ME) : MS := fun env => f env >>= fun z => z.1.frz z.2 >>= fun y => if (ownL y.2 j).isSome = true then fi y.2 >>= fun x => x.1.data x.2 >>= fun di => match ownL x.2 j, di with
    | some (k, ds), .int i => match ixN ds.length i with
      | some n => .ok (.nx, x.2.set j (.ow k (.list (ds.set n y.1))))
      | none => .stuck
    | _, _ => .stuck
  else .stuck
theorem good_setIx {t ti : TE} {j : Nat} {f fi : ME} (h : GoodE g W t f) (hi : GoodE g W ti fi) : GoodS g W (tAsg t (gSub (tVar j) ti rSetL)) (mSetIx j f fi) := fun F H σ env Dn k p => by
  refine h F H σ env _ k (PostS.bindF p fun d e2 F2 H1 v x2 k2 kp2 hd p2 => ?_)
  by_cases hs : (ownL e2 j).isSome = true
  · rw [if_pos hs] at p2
    obtain ⟨⟨kd, ds⟩, ho⟩ := Option.isSome_iff_exists.mp hs
    obtain ⟨a, xs, s1, _, _⟩ := k2.ownL ho
    refine ⟨_, s1, ?_⟩
    refine hi F2 H1 σ e2 _ k2 (PostS.bindE p2 fun r e3 F3 H3 x x3 k3 kp3 rv p3 => ?_)
    have p3 := PostS.after x3 kp3 p3
    rcases data_cases r e3 with ⟨di, q⟩ | q
    · simp only [q, Res.ok_bind] at p3
      have pk := RvOk.pk rv k3 q
      cases ho3 : ownL e3 j with
      | none => simp only [ho3] at p3; exact p3.elim
      | some w =>
        obtain ⟨kd3, ds3⟩ := w
        cases di with
        | int i =>
          simp only [ho3] at p3
          cases hx : ixN ds3.length i with
          | none => simp only [hx] at p3; exact p3.elim
          | some n =>
            simp only [hx] at p3
            obtain ⟨b, ys, s2, hb, db⟩ := k3.ownL ho3
            rw [s1] at s2; cases s2
            obtain ⟨he, hk⟩ := ownL_ok ho3
            have dw : OwnAt g F3 (upd H3 a (.lst (ys.set n v))) a (.list (ds3.set n d)) := .lst upd_same (DenL.set (hd.mono x3.sub) n db)
            obtain ⟨y1, y2, y3⟩ := k3.change he s1 hk dw
            exact ⟨a, ys, i, n, rfl, pk.int, hb, by rw [db.length]; exact hx, p3 F3 _ σ y1 y2 y3⟩
        | _ => simp only [ho3] at p3; exact p3.elim
    · simp only [q, Res.stuck_bind] at p3; exact p3.elim
  · rw [if_neg hs] at p2; exact p2.elim
theorem ds_setIx {X : Cx} {j : Nat} {x : Str} {e ix : Expr} {p spos pos : Pos} {f fi : ME} (he : DE X W e f) (hi : DE X W ix fi) (hN : X.N[j]? = some x) (hv : Vis X.env.scope x)
    (ha : ∀ v, assign (.Subscript (.Name x p) ix spos) X.env v = (do
      let ov ← holding [v] (eval (.Name x p) X.env)
      let iv ← holding [v, ov] (eval ix X.env)
      standAt spos
      holding [v, ov, iv] (setItem ov iv v)
      release [v, ov, iv] []) := by intro _; rfl)
    (hs : swapsWithSole [.Subscript (.Name x p) ix spos] e pos.line X.env = pure false := by rfl) (hw : swappedStores [.Subscript (.Name x p) ix spos] e X.env = pure none := by rfl)
    (h1 : (assignEach [.Subscript (.Name x p) ix spos] X.env).map (·.2) = [assign (.Subscript (.Name x p) ix spos) X.env] := by rfl) (hd : (x == ("__debug__" : Str)) = false := by decide) (hcd : (x == ("__classdict__" : Str)) = false := by decide) :
    DS X W (.Assign [.Subscript (.Name x p) ix spos] e pos) (mSetIx j f fi) := by
  obtain ⟨t, pt, gt⟩ := he
  obtain ⟨u, pu, gu⟩ := hi
  exact ⟨_, ps_asg pt (pg_sub (pe_var hN hv hd hcd) pu set_list ha) hs hw h1, good_setIx gt gu⟩
/-- a method of an own list, an argument that is kept -/
def mAppend (j : Nat) (f : ME) : MS := fun env => if (ownL env j).isSome = true then f env >>= fun z => z.1.frz z.2 >>= fun y => match ownL y.2 j with
    | some (k, ds) => if ds.length < lineM then .ok (.nx, y.2.set j (.ow k (.list (ds ++ [y.1])))) else .stuck
    | none => .stuck
  else .stuck
theorem good_append {t : TE} {j : Nat} {f : ME} (h : GoodE g W t f) : GoodS g W (tDrop (tBM g.K "list" rAppend (tVar j) (tCons t tNil))) (mAppend j f) := fun F H σ env Dn k p => by
  unfold mAppend at p
  by_cases hs : (ownL env j).isSome = true
  · rw [if_pos hs] at p
    obtain ⟨⟨kd, ds⟩, ho⟩ := Option.isSome_iff_exists.mp hs
    obtain ⟨a, xs, s1, ha, _⟩ := k.ownL ho
    refine ⟨_, s1, .inl ⟨rfl, xs, .inl (.inl ha)⟩, ?_⟩
    refine h F H σ env _ k (PostS.bindF p fun d e2 F2 H2 v x2 k2 kp2 hd p2 => ?_)
    cases ho2 : ownL e2 j with
    | none => simp only [ho2] at p2; exact p2.elim
    | some w =>
      obtain ⟨kd2, ds2⟩ := w
      simp only [ho2] at p2
      split at p2
      · rename_i hl
        obtain ⟨b, ys, s2, hb, db⟩ := k2.ownL ho2
        rw [s1] at s2; cases s2
        obtain ⟨he, hk⟩ := ownL_ok ho2
        have dw : OwnAt g F2 (upd H2 a (.lst (ys ++ [v]))) a (.list (ds2 ++ [d])) := .lst upd_same (db.append (.cons hd .nil))
        obtain ⟨y1, y2, y3⟩ := k2.change he s1 hk dw
        exact ⟨a, ys, v, rfl, rfl, hb, by rw [db.length, lineM_eq]; exact hl, p2 F2 _ σ y1 y2 y3⟩
      · exact p2.elim
  · rw [if_neg hs] at p; exact p.elim
section
variable {X : Cx} {j : Nat} {x : Str} {e : Expr} {np apos cpos pos : Pos} {f : ME}
theorem ds_append (hN : X.N[j]? = some x) (hv : Vis X.env.scope x) (ha : DE X W e f) (hs : starEach [e] X.env = (false, eval e X.env) :: starEach [] X.env := by rfl) (hbase : attributeBase (.Name x np) "append" X.env (eval (.Name x np) X.env) = eval (.Name x np) X.env := by rfl)
    (hfew : ((backTo cpos (starEach [e] X.env)).all (fun x => !x.1) && (backToKw cpos (keywordEach [] X.env)).all (fun x => x.1.isSome)
      && decide ([e].length + ([] : List Keyword).length + (if ([] : List Keyword).isEmpty then 0 else 1) < 30)) = true := by rfl)
    (hline : (apos.endLine == cpos.line) = true := by rfl) (hplain : (backTo cpos (starEach [] X.env)).any (·.1) = false := by rfl) (hsw : swapsWith (.Call (.Attribute (.Name x np) "append" apos) [e] [] cpos) none pos.line X.env = pure false := by rfl)
    (hd : (x == ("__debug__" : Str)) = false := by decide) (hcd : (x == ("__classdict__" : Str)) = false := by decide) : DS X W (.Expr (.Call (.Attribute (.Name x np) "append" apos) [e] [] cpos) pos) (mAppend j f) := by
  obtain ⟨t, pt, gt⟩ := ha
  exact ⟨_, ps_expr (pe_bm PySem.F.plainAttrs_list PySem.F.slot_list_append PySem.F.type_list_append mt_append (pe_var hN hv hd hcd) (pa_cons pt pa_nil hs) hbase hfew hline hs hplain) hsw, good_append gt⟩
end
/-- x op= e of values -/
def mAug (i : Nat) (o : D → D → Option Rv) (f : ME) : MS := fun env => match env[i]? with
  | some (.fz d0) => f env >>= fun z => z.1.data z.2 >>= fun d => match o d0 d with
    | some (.val d') => if free z.2 i = true then .ok (.nx, z.2.set i (.fz d')) else .stuck
    | _ => .stuck
  | _ => .stuck
theorem good_aug {t : TE} {i : Nat} {o : D → D → Option Rv} {f : ME} {r : R2} (h : GoodE g W t f) (ho : Good2 g r o) : GoodS g W (tAug i t r) (mAug i o f) := fun F H σ env Dn k p => by
  unfold mAug at p
  cases he : env[i]? with
  | none => simp only [he] at p; exact p.elim
  | some s =>
    cases s with
    | fz d0 =>
      simp only [he] at p
      obtain ⟨w, h1, v, h2, h3⟩ := k.sl i _ he
      subst h2
      refine ⟨v, h1, ?_⟩
      refine h F H σ env _ k (PostS.bindE p fun rr e1 F1 H1 y x1 k1 kp1 rv p1 => ?_)
      have p1 := PostS.after x1 kp1 p1
      rcases data_cases rr e1 with ⟨d, q⟩ | q
      · simp only [q, Res.ok_bind] at p1
        refine ho.run F1 H1 v y d0 d _ k1.sub (.inl (h3.mono x1.sub)) (RvOk.pk rv k1 q) ?_
        cases hod : o d0 d with
        | none => simp only [hod] at p1; exact p1.elim
        | some z =>
          cases z with
          | val d' =>
            simp only [hod] at p1
            split at p1
            · rename_i hf
              intro F2 H2 v' gr hv
              have k2 := k1.grow gr
              have := good_name (g := g) (W := W) (i := i) F1 H1 σ e1 F2 H2 σ e1 v' (.val d') Dn gr.ext k2 .refl hv (by unfold mName storeR; rw [if_pos hf]; exact p1)
              exact this
            · exact p1.elim
          | new d' => simp only [hod] at p1; exact p1.elim
          | sl j => simp only [hod] at p1; exact p1.elim
      · simp only [q, Res.stuck_bind] at p1; exact p1.elim
    | no => simp only [he] at p; exact p.elim
    | ow kk d => simp only [he] at p; exact p.elim
theorem ds_aug {X : Cx} {i : Nat} {x : Str} {e : Expr} {op : Operator} {r : R2} {o : D → D → Option Rv} {pos' pos : Pos} {f : ME} (hN : X.N.Nodup) (hi : X.N[i]? = some x) (hx : Loc X.env.scope x) (ho : PIp X op r) (hg : Good2 ⟨X.K, X.mg⟩ r o) (he : DE X W e f) (hf : X.fn x = true ∨ X.env.scope.names.lookup x = some .local := by first | exact .inl rfl | exact .inr rfl | assumption) :
    DS X W (.AugAssign (.Name x pos') op e pos) (mAug i o f) := by
  obtain ⟨t, pt, gt⟩ := he
  exact ⟨_, ps_aug hN hi hx pt ho hf, good_aug gt hg⟩
/-- += of ints and texts -/
def dIAdd : D → D → Option Rv
  | .int i, .int j => some (.val (.int (i + j)))
  | .str x, .str y => if x.length + y.length ≤ lineM then some (.val (.str (x ++ y))) else none
  | _, _ => none
abbrev rIAdd : R2 := fun x y H Q => rI0 (fun i j => .int (i + j)) x y H Q ∨ ∃ i j, x = .str i ∧ y = .str j ∧ i.length + j.length ≤ sizeLine ∧ Q (.str (i ++ j)) H
theorem ip_addD {X : Cx} : PIp X .Add rIAdd := OpR.or iop_add iop_add_str
theorem good_iadd : Good2 g rIAdd dIAdd := by
  refine ⟨fun F H x y d e Q s hx hy p => ?_, fun d e => ?_⟩
  · unfold dIAdd at p
    split at p
    · exact .inl ⟨_, _, hx.int, hy.int, p.val0 s (.int _)⟩
    · split at p
      · rename_i hl
        obtain ⟨e1, o1⟩ := hx.str
        obtain ⟨e2, o2⟩ := hy.str
        exact .inr ⟨_, _, e1, e2, by rw [lineM_eq]; exact hl, p.val0 s (.str _ (strOk_app o1 o2))⟩
      · exact p.elim
    · exact p.elim
  · unfold dIAdd
    split <;> first | exact NoSl.val | exact NoSl.none | (split <;> first | exact NoSl.val | exact NoSl.none)
end DL
namespace DL
open PySem PySem.Spec L2
open PyProof.Rows (envOfC)
variable {W : WX}

/-- a def of the text that may be called -/
structure Cal (P : Program) (w : World) (K : PySem.W.Frag) (mg : Str → Option Value) (base : Heap) (x : Str) (st : Stmt) (k : Nat) (ps : List Str) (fm : FM) : Prop where
  ex : ∃ f fd, Fun K x x st f fd ∧ mg x = some (.ref f) ∧ FnG P w K mg base k f fd ps fm ∧ Binds K fd ps []
section
variable {X : Cx}
theorem dv (i : Nat) {x : Str} {pos : Pos} (hN : X.N[i]? = some x := by rfl) (hv : Vis X.env.scope x := by first | exact Or.inl rfl | exact Or.inr (Or.inl rfl) | exact Or.inr (Or.inr rfl)) (hd : (x == ("__debug__" : Str)) = false := by decide)
    (hcd : (x == ("__classdict__" : Str)) = false := by decide) : DE X W (.Name x pos) (mVar i) := de_var hN hv hd hcd
theorem de_add {a b : Expr} {pos : Pos} {f h : ME} (ha : DE X W a f) (hb : DE X W b h) : DE X W (.BinOp a .Add b pos) (mBin dAdd f h) := de_op op_addD good_add ha hb
theorem de_sub {a b : Expr} {pos : Pos} {f h : ME} (ha : DE X W a f) (hb : DE X W b h) : DE X W (.BinOp a .Sub b pos) (mBin dSub f h) := de_op op_sub good_sub ha hb
theorem de_mul {a b : Expr} {pos : Pos} {f h : ME} (ha : DE X W a f) (hb : DE X W b h) : DE X W (.BinOp a .Mult b pos) (mBin dMul f h) := de_op op_mulD good_mul ha hb
theorem de_div {a b : Expr} {pos : Pos} {f h : ME} (ha : DE X W a f) (hb : DE X W b h) : DE X W (.BinOp a .FloorDiv b pos) (mBin dDiv f h) := de_op op_fdivW good_div ha hb
theorem de_mod {a b : Expr} {pos : Pos} {f h : ME} (ha : DE X W a f) (hb : DE X W b h) : DE X W (.BinOp a .Mod b pos) (mBin dMod f h) := de_op op_mod good_mod ha hb
theorem de_pow {a b : Expr} {pos : Pos} {f h : ME} (ha : DE X W a f) (hb : DE X W b h) : DE X W (.BinOp a .Pow b pos) (mBin dPow f h) := de_op op_powD good_pow ha hb
theorem de_lt {a b : Expr} {pos : Pos} {f h : ME} (ha : DE X W a f) (hb : DE X W b h) : DE X W (.Compare a [.Lt] [b] pos) (mBin dLt f h) := de_cmp op_ltD good_ord.toGood2 ha hb (nobehind _ (by decide) (by decide))
theorem de_le {a b : Expr} {pos : Pos} {f h : ME} (ha : DE X W a f) (hb : DE X W b h) : DE X W (.Compare a [.LtE] [b] pos) (mBin dLe f h) := de_cmp op_leD good_ord.toGood2 ha hb (nobehind _ (by decide) (by decide))
theorem de_gt {a b : Expr} {pos : Pos} {f h : ME} (ha : DE X W a f) (hb : DE X W b h) : DE X W (.Compare a [.Gt] [b] pos) (mBin dGt f h) := de_cmp op_gtD good_ord.toGood2 ha hb (nobehind _ (by decide) (by decide))
theorem de_ge {a b : Expr} {pos : Pos} {f h : ME} (ha : DE X W a f) (hb : DE X W b h) : DE X W (.Compare a [.GtE] [b] pos) (mBin dGe f h) := de_cmp op_geD good_ord.toGood2 ha hb (nobehind _ (by decide) (by decide))
theorem de_eq (hu : X.A.units + 64 < cLine) {a b : Expr} {pos : Pos} {f h : ME} (ha : DE X W a f) (hb : DE X W b h) : DE X W (.Compare a [.Eq] [b] pos) (mBin dEq f h) := de_cmp (op_eqD hu) good_eq.toGood2 ha hb (nobehind _ (by decide) (by decide))
theorem de_ne (hu : X.A.units + 64 < cLine) {a b : Expr} {pos : Pos} {f h : ME} (ha : DE X W a f) (hb : DE X W b h) : DE X W (.Compare a [.NotEq] [b] pos) (mBin dNe f h) := de_cmp (op_neD hu) good_ne.toGood2 ha hb (nobehind _ (by decide) (by decide))
theorem de_in (hu : X.A.units + 65 < cLine) {a b : Expr} {pos : Pos} {f h : ME} (ha : DE X W a f) (hb : DE X W b h) (hm : behindInMarks .In b = false := by rfl) : DE X W (.Compare a [.In] [b] pos) (mBin dIn f h) := de_cmp (op_inX hu) good_in ha hb hm
theorem de_nin (hu : X.A.units + 65 < cLine) {a b : Expr} {pos : Pos} {f h : ME} (ha : DE X W a f) (hb : DE X W b h) (hm : behindInMarks .NotIn b = false := by rfl) : DE X W (.Compare a [.NotIn] [b] pos) (mBin dNotIn f h) := de_cmp (op_notInX hu) good_notIn ha hb hm
theorem de_is {a b : Expr} {pos : Pos} {f h : ME} (ha : DE X W a f) (hb : DE X W b h) : DE X W (.Compare a [.Is] [b] pos) (mBin dIs f h) := de_cmp op_isX good_is ha hb (nobehind _ (by decide) (by decide))
theorem de_isnt {a b : Expr} {pos : Pos} {f h : ME} (ha : DE X W a f) (hb : DE X W b h) : DE X W (.Compare a [.IsNot] [b] pos) (mBin dIsNot f h) := de_cmp op_isNotX good_isNot ha hb (nobehind _ (by decide) (by decide))
theorem dt_lt {a b : Expr} {pos : Pos} {f h : ME} (ha : DE X W a f) (hb : DE X W b h) : DT X W (.Compare a [.Lt] [b] pos) (mTest (mBin dLt f h)) := dt_cmp op_ltD good_ord.toGood2 ha hb (nobehind _ (by decide) (by decide))
theorem dt_le {a b : Expr} {pos : Pos} {f h : ME} (ha : DE X W a f) (hb : DE X W b h) : DT X W (.Compare a [.LtE] [b] pos) (mTest (mBin dLe f h)) := dt_cmp op_leD good_ord.toGood2 ha hb (nobehind _ (by decide) (by decide))
theorem dt_gt {a b : Expr} {pos : Pos} {f h : ME} (ha : DE X W a f) (hb : DE X W b h) : DT X W (.Compare a [.Gt] [b] pos) (mTest (mBin dGt f h)) := dt_cmp op_gtD good_ord.toGood2 ha hb (nobehind _ (by decide) (by decide))
theorem dt_ge {a b : Expr} {pos : Pos} {f h : ME} (ha : DE X W a f) (hb : DE X W b h) : DT X W (.Compare a [.GtE] [b] pos) (mTest (mBin dGe f h)) := dt_cmp op_geD good_ord.toGood2 ha hb (nobehind _ (by decide) (by decide))
theorem dt_eq (hu : X.A.units + 64 < cLine) {a b : Expr} {pos : Pos} {f h : ME} (ha : DE X W a f) (hb : DE X W b h) : DT X W (.Compare a [.Eq] [b] pos) (mTest (mBin dEq f h)) := dt_cmp (op_eqD hu) good_eq.toGood2 ha hb (nobehind _ (by decide) (by decide))
theorem dt_ne (hu : X.A.units + 64 < cLine) {a b : Expr} {pos : Pos} {f h : ME} (ha : DE X W a f) (hb : DE X W b h) : DT X W (.Compare a [.NotEq] [b] pos) (mTest (mBin dNe f h)) := dt_cmp (op_neD hu) good_ne.toGood2 ha hb (nobehind _ (by decide) (by decide))
theorem dt_in (hu : X.A.units + 65 < cLine) {a b : Expr} {pos : Pos} {f h : ME} (ha : DE X W a f) (hb : DE X W b h) (hm : behindInMarks .In b = false := by rfl) : DT X W (.Compare a [.In] [b] pos) (mTest (mBin dIn f h)) := dt_cmp (op_inX hu) good_in ha hb hm
theorem dt_nin (hu : X.A.units + 65 < cLine) {a b : Expr} {pos : Pos} {f h : ME} (ha : DE X W a f) (hb : DE X W b h) (hm : behindInMarks .NotIn b = false := by rfl) : DT X W (.Compare a [.NotIn] [b] pos) (mTest (mBin dNotIn f h)) := dt_cmp (op_notInX hu) good_notIn ha hb hm
theorem dt_is {a b : Expr} {pos : Pos} {f h : ME} (ha : DE X W a f) (hb : DE X W b h) : DT X W (.Compare a [.Is] [b] pos) (mTest (mBin dIs f h)) := dt_cmp op_isX good_is ha hb (nobehind _ (by decide) (by decide))
theorem dt_isnt {a b : Expr} {pos : Pos} {f h : ME} (ha : DE X W a f) (hb : DE X W b h) : DT X W (.Compare a [.IsNot] [b] pos) (mTest (mBin dIsNot f h)) := dt_cmp op_isNotX good_isNot ha hb (nobehind _ (by decide) (by decide))
theorem de_at {a b : Expr} {pos : Pos} {f h : ME} (ha : DE X W a f) (hb : DE X W b h) (hs : PlainIx b := by exact fun _ _ => rfl) : DE X W (.Subscript a b pos) (mBin dIx f h) := de_ix ix_seq good_ix ha hb hs
theorem de_cut {e : Expr} {lo hi : Option Expr} {p2 pos : Pos} {f : ME} {l h : MO} (he : DE X W e f) (hl : DO X W lo l) (hu : DO X W hi h) : DE X W (.Subscript e (.Slice lo hi none p2) pos) (mSl dSl f l h) := de_slice sl_D good_slD he hl hu
theorem de_len {p pos : Pos} {e : Expr} {f : ME} (hm : X.mg "len" = none) (ha : DA X W [e] [f]) (hg : Gl X "len" := by rfl) (he : starEach [e] X.env = (false, eval e X.env) :: starEach [] X.env := by rfl) (hpl : (backTo pos (starEach [] X.env)).any (·.1) = false := by rfl) : DE X W (.Call (.Name "len" p) [e] [] pos) (mCallB dLen [f]) :=
  de_callB call_lenD2 good_len hg hm (by decide +kernel) ha (by decide) (by decide) he hpl
theorem de_abs {p pos : Pos} {e : Expr} {f : ME} (hm : X.mg "abs" = none) (ha : DA X W [e] [f]) (hg : Gl X "abs" := by rfl) (he : starEach [e] X.env = (false, eval e X.env) :: starEach [] X.env := by rfl) (hpl : (backTo pos (starEach [] X.env)).any (·.1) = false := by rfl) : DE X W (.Call (.Name "abs" p) [e] [] pos) (mCallB dAbs [f]) :=
  de_callB call_abs good_abs hg hm (by decide +kernel) ha (by decide) (by decide) he hpl
theorem de_max2 {p pos : Pos} {e a : Expr} {f h : ME} (hc : X.calm = true) (hm : X.mg "max" = none) (ha : DA X W [e, a] [f, h]) (hg : Gl X "max" := by rfl) (he : starEach [e, a] X.env = (false, eval e X.env) :: starEach [a] X.env := by rfl) (hpl : (backTo pos (starEach [a] X.env)).any (·.1) = false := by rfl) : DE X W (.Call (.Name "max" p) [e, a] [] pos) (mCallB dMax2 [f, h]) :=
  de_callB (call_max2 hc) good_max2 hg hm (by decide +kernel) ha (by decide) (by decide) he hpl
theorem de_min2 {p pos : Pos} {e a : Expr} {f h : ME} (hc : X.calm = true) (hm : X.mg "min" = none) (ha : DA X W [e, a] [f, h]) (hg : Gl X "min" := by rfl) (he : starEach [e, a] X.env = (false, eval e X.env) :: starEach [a] X.env := by rfl) (hpl : (backTo pos (starEach [a] X.env)).any (·.1) = false := by rfl) : DE X W (.Call (.Name "min" p) [e, a] [] pos) (mCallB dMin2 [f, h]) :=
  de_callB (call_min2 hc) good_min2 hg hm (by decide +kernel) ha (by decide) (by decide) he hpl
theorem de_all {p pos : Pos} {e : Expr} {f : ME} (hc : X.calm = true) (hm : X.mg "all" = none) (ha : DA X W [e] [f]) (hg : Gl X "all" := by rfl) (he : starEach [e] X.env = (false, eval e X.env) :: starEach [] X.env := by rfl) (hpl : (backTo pos (starEach [] X.env)).any (·.1) = false := by rfl) : DE X W (.Call (.Name "all" p) [e] [] pos) (mCallB dAll [f]) :=
  de_callB (cr_all hc) good_all hg hm (by decide +kernel) ha (by decide) (by decide) he hpl
theorem de_sum {p pos : Pos} {e : Expr} {f : ME} (hc : X.calm = true) (hm : X.mg "sum" = none) (ha : DA X W [e] [f]) (hg : Gl X "sum" := by rfl) (he : starEach [e] X.env = (false, eval e X.env) :: starEach [] X.env := by rfl) (hpl : (backTo pos (starEach [] X.env)).any (·.1) = false := by rfl) : DE X W (.Call (.Name "sum" p) [e] [] pos) (mCallB dSum [f]) :=
  de_callB (cr_sum hc) good_sum hg hm (by decide +kernel) ha (by decide) (by decide) he hpl
theorem de_intc {p pos : Pos} {e : Expr} {f : ME} (hm : X.mg "int" = none) (ha : DA X W [e] [f]) (hg : Gl X "int" := by rfl) (he : starEach [e] X.env = (false, eval e X.env) :: starEach [] X.env := by rfl) (hpl : (backTo pos (starEach [] X.env)).any (·.1) = false := by rfl) : DE X W (.Call (.Name "int" p) [e] [] pos) (mCallB dInt [f]) :=
  de_callTy call_int1 good_int hg hm (by decide +kernel) ha (by decide) (by decide) he hpl
theorem de_da1 {e : Expr} {f : ME} (h : DE X W e f) (hs : starEach [e] X.env = (false, eval e X.env) :: starEach [] X.env := by rfl) : DA X W [e] [f] := da_cons h da_nil hs
end
section
variable {X : Cx} {x : Str} {st : Stmt} {k j : Nat} {ps ks : List Str} {fm : FM} {p pos : Pos} {e : Expr} {es : List Expr} {fs gs : List ME} {kws : List Keyword} {np : Nat}
theorem dcall (c : Cal X.prog X.w X.K X.mg X.base x st j ps fm) (hr : Room k X.A) (hj : j ≤ k) (gd : X.A.guards = some []) (tk : Takes X W) (ms : List Md) (ha : DA X W (e :: es) fs) (hg : Gl X x := by rfl)
    (hdb : (x == ("__debug__" : Str)) = false := by decide) (he : starEach (e :: es) X.env = (false, eval e X.env) :: starEach es X.env := by rfl) (hpl : (backTo pos (starEach es X.env)).any (·.1) = false := by rfl) : DE X W (.Call (.Name x p) (e :: es) [] pos) (mCallF fm ms fs) := by
  obtain ⟨f, fd, Fu, hm, F, hb⟩ := c
  exact de_call F (hr.mono hj) gd tk hg hm Fu.kp hb ms ha hdb he hpl
theorem dcallK (c : Cal X.prog X.w X.K X.mg X.base x st j ps fm) (hr : Room k X.A) (hj : j ≤ k) (gd : X.A.guards = some []) (tk : Takes X W) (perm : List Nat) (ks : List Str)
    (kb : ∀ (kV doc pm : Value) (an : Option Addr) (cdv ct : Value) (us ws : List Value), us.length = fs.length → ws.length = ks.length → bindArgs (PySem.W.fnOf x x (defArgs st) (defBody st) (defScope st) .none kV doc pm an cdv ct) ⟨us, ks.zip ws⟩ = pure (ps.zip (pick Value.none perm (us ++ ws))))
    (hlt : ∀ i ∈ perm, i < fs.length + ks.length) (hlen : perm.length = ps.length) (ha : DA X W (e :: es) fs) (hkw : DK X W kws gs) (hg : Gl X x := by rfl) (hall : (backToKw pos (keywordEach kws X.env)).all (·.1.isSome) = true := by rfl) (hks : (backToKw pos (keywordEach kws X.env)).filterMap (·.1) = ks := by rfl)
    (hdb : (x == ("__debug__" : Str)) = false := by decide) (he : starEach (e :: es) X.env = (false, eval e X.env) :: starEach es X.env := by rfl)
    (hpl : ((backTo pos (starEach (e :: es) X.env)).any (·.1) || (backToKw pos (keywordEach kws X.env)).any (·.1.isNone)) = false := by rfl) : DE X W (.Call (.Name x p) (e :: es) kws pos) (mCallK fm perm fs.length ks.length fs gs) := by
  obtain ⟨f, fd, Fu, hm, F, hb⟩ := c
  have kp := Fu.kp
  obtain ⟨oc, od, kV, doc, pm, an, cdv, ct, osl, rfl, lk, hcd⟩ := Fu.ex
  exact de_callK F (hr.mono hj) gd tk hg hm kp ⟨fun s us ws _ h1 h2 => .of_eq (kb kV doc pm an cdv ct us ws h1 h2), hlt, hlen⟩ ha hkw hall hks hdb he hpl
theorem dcallK0 (c : Cal X.prog X.w X.K X.mg X.base x st j ps fm) (hr : Room k X.A) (hj : j ≤ k) (gd : X.A.guards = some []) (tk : Takes X W) (perm : List Nat) (ks : List Str)
    (kb : ∀ (kV doc pm : Value) (an : Option Addr) (cdv ct : Value) (us ws : List Value), us.length = 0 → ws.length = ks.length → bindArgs (PySem.W.fnOf x x (defArgs st) (defBody st) (defScope st) .none kV doc pm an cdv ct) ⟨us, ks.zip ws⟩ = pure (ps.zip (pick Value.none perm (us ++ ws))))
    (hlt : ∀ i ∈ perm, i < 0 + ks.length) (hlen : perm.length = ps.length) (hkw : DK X W kws gs) (hg : Gl X x := by rfl) (hall : (backToKw pos (keywordEach kws X.env)).all (·.1.isSome) = true := by rfl) (hks : (backToKw pos (keywordEach kws X.env)).filterMap (·.1) = ks := by rfl)
    (hdb : (x == ("__debug__" : Str)) = false := by decide)
    (hpl : ((backTo pos (starEach [] X.env)).any (·.1) || (backToKw pos (keywordEach kws X.env)).any (·.1.isNone)) = false := by rfl) : DE X W (.Call (.Name x p) [] kws pos) (mCallK fm perm 0 ks.length [] gs) := by
  obtain ⟨f, fd, Fu, hm, F, hb⟩ := c
  have kp := Fu.kp
  obtain ⟨oc, od, kV, doc, pm, an, cdv, ct, osl, rfl, lk, hcd⟩ := Fu.ex
  exact de_callK0 F (hr.mono hj) gd tk hg hm kp ⟨fun s us ws _ h1 h2 => .of_eq (kb kV doc pm an cdv ct us ws h1 h2), hlt, hlen⟩ hkw hall hks hdb hpl
end
/-- the built-in names that a text uses are no names of its own -/
abbrev Blt (mg : Str → Option Value) (l : List Str) : Prop := ∀ x ∈ l, mg x = none
theorem hu64 {A : Around} {k : Nat} (hr : Room k A) : A.units + 64 < cLine := hr.units
theorem hu65 {A : Around} {k : Nat} (hr : Room k A) : A.units + 65 < cLine := by have := hr.un; omega
theorem Cal.mk' {P : Program} {w : World} {K : PySem.W.Frag} {mg : Str → Option Value} {base : Heap} {x : Str} {st : Stmt} {k : Nat} {N ps : List Str} {m : MS} {f : Addr} {fd : FuncData} (Fu : Fun K x x st f fd) (hm : mg x = some (.ref f)) (S : FnScope N ps (defScope st)) (hb : Binds K fd ps [])
    (h : ∀ (cdv : Value) (A : Around) (outer : List PySem.Env) (s : Shared) (H : Hp) (E : XK), Room k (A.deeper (envOfC x (defScope st) s.heap.objs.size f cdv)) → (A.deeper (envOfC x (defScope st) s.heap.objs.size f cdv)).guards = some [] →
      DSs (cxOf (L2.CX P w) P w K mg base N x (defScope st) f cdv A outer s H E) (fun c d _ H => E c d H) (defBody st) m) : Cal P w K mg base x st (k + 1) ps (mDef ps.length N.length m) :=
  ⟨⟨f, fd, Fu, hm, fng_of Fu S h, hb⟩⟩
end DL
namespace DL
open PySem PySem.Spec L2
variable {g : G} {W : WX}

/-! ### a, b = x, y : all values first, then the stores -/
def hold : Rv → Env → Res (Rv × Env)
  | .val d, env => .ok (.val d, env)
  | .new d, env => .ok (.new d, env)
  | .sl i, env => (Rv.sl i).frz env >>= fun z => .ok (.val z.1, z.2)
def isNew : Rv → Bool
  | .new _ => true
  | _ => false
def notSl : Rv → Bool
  | .sl _ => false
  | _ => true
inductive HOkL (g : G) (F H : Hp) (σ : St) (env : Env) : Hp → List V → List Rv → Prop
  | nil {H0 : Hp} : HOkL g F H σ env H0 [] []
  | cons {H0 H1 : Hp} {v : V} {r : Rv} {vs : List V} {rs : List Rv} : RvOk g H0 F H σ env v r → notSl r = true → (∀ b, H0 b ≠ none → H1 b ≠ none) → (∀ a, isNew r = true → v = .ref a → H1 a ≠ none) → HOkL g F H σ env H1 vs rs → HOkL g F H σ env H0 (v :: vs) (r :: rs)
theorem HOkL.earlier {F H : Hp} {σ : St} {env : Env} {H0 H1 : Hp} {vs : List V} {rs : List Rv} (h : HOkL g F H σ env H1 vs rs) (k : ∀ b, H0 b ≠ none → H1 b ≠ none) : HOkL g F H σ env H0 vs rs := by
  cases h with
  | nil => exact .nil
  | cons h1 h2 h3 h4 h5 => exact .cons (RvOk.earlier h1 k) h2 (fun b z => h3 b (k b z)) h4 h5
def RHs (g : G) : RelB (List V) (List Rv) := fun H0 F H σ env vs rs => HOkL g F H σ env H0 vs rs
theorem RHs.early : Early (RHs g) := ⟨fun _ _ _ _ _ _ _ _ k h => HOkL.earlier h k⟩
def evHs : List ME → Env → Res (List Rv × Env)
  | [], env => .ok ([], env)
  | f :: fs, env => f env >>= fun z => hold z.1 z.2 >>= fun y => evHs fs y.2 >>= fun x => .ok (y.1 :: x.1, x.2)
theorem hold_ok {F0 H0 F H : Hp} {O : Addr → Prop} {σ : St} {env env' : Env} {v : V} {r r' : Rv} (h : RvOk g H0 F H σ env v r) (x : Ext F0 H0 O F H (Own σ env)) (k : EnvOk g F H σ env) (e : hold r env = .ok (r', env')) :
    ∃ F', Ext F0 H0 O F' H (Own σ env') ∧ EnvOk g F' H σ env' ∧ Keep σ env σ env' ∧ RvOk g H0 F' H σ env' v r' ∧ notSl r' = true := by
  cases r with
  | val d => cases e; exact ⟨F, x, k, .refl, h, rfl⟩
  | new d => cases e; exact ⟨F, x, k, .refl, h, rfl⟩
  | sl i =>
    unfold hold at e
    rcases frz_cases (.sl i) env with ⟨d, e1, q⟩ | q
    · simp only [q, Res.ok_bind] at e
      cases e
      obtain ⟨F2, x2, k2, kp2, hd⟩ := RvOk.frz h x k q
      exact ⟨F2, x2, k2, kp2, hd, rfl⟩
    · simp only [q, Res.stuck_bind] at e; cases e
theorem hold_cases (r : Rv) (env : Env) : (∃ y, hold r env = .ok y) ∨ hold r env = .stuck := by
  cases r with
  | val d => exact .inl ⟨_, rfl⟩
  | new d => exact .inl ⟨_, rfl⟩
  | sl i =>
    unfold hold
    rcases frz_cases (.sl i) env with ⟨d, e1, q⟩ | q
    · exact .inl ⟨(.val d, e1), by simp only [q, Res.ok_bind]⟩
    · exact .inr (by simp only [q, Res.stuck_bind])
/-- a part, told from an earlier start -/
theorem Post.since {β α β' α' : Type} {R : RelB β α} {R' : RelB β' α'} {F H F1 H1 : Hp} {σ : St} {env e1 : Env} {Q : β' → Hp → Prop} {Qa : β → Hp → Prop} {m : Res (α × Env)} {k : α × Env → Res (α' × Env)} (x : Ext F H (Own σ env) F1 H1 (Own σ e1)) (kp : Keep σ env σ e1)
    (h : Post R' g W F H σ env Q (m >>= k)) (hk : ∀ r e2 F2 H2 v, Ext F1 H1 (Own σ e1) F2 H2 (Own σ e2) → EnvOk g F2 H2 σ e2 → Keep σ e1 σ e2 → R H1 F2 H2 σ e2 v r → Post R' g W F H σ env Q (k (r, e2)) → Qa v H2) : Post R g W F1 H1 σ e1 Qa m := by
  cases m with
  | ok p => obtain ⟨r, e2⟩ := p; exact fun F2 H2 v x2 ok k2 rv => hk r e2 F2 H2 v x2 ok k2 rv h
  | ex c d e => exact fun F' H' dd C v x' ok k' => h F' H' dd C v (x.trans x') ok (kp.trans k')
  | stuck => exact h
theorem AllE.hs {t : TA} {fs : List ME} (h : AllE g W t fs) : Good (RHs g) g W t (evHs fs) := by
  induction h with
  | nil => exact fun F H σ env Q k p => p F H [] .refl k .refl .nil
  | @cons t tr f fs hf hr ih =>
    intro F H σ env Q k p
    have p' : Post (RHs g) g W F H σ env Q (f env >>= fun z => hold z.1 z.2 >>= fun y => evHs fs y.2 >>= fun x => .ok (y.1 :: x.1, x.2)) := p
    refine hf F H σ env _ k (Post.since .refl .refl p' fun r0 e0 F0 H1 v x0 k0 kp0 rv0 p1 => ?_)
    rcases hold_cases r0 e0 with ⟨⟨r1, e1⟩, q⟩ | q
    · simp only [q, Res.ok_bind] at p1
      obtain ⟨F1, x1, k1, kp1, rv1, ns⟩ := hold_ok rv0 x0 k0 q
      refine ih F1 H1 σ e1 _ k1 (Post.since (R := RHs g) x1 (kp0.trans kp1) p1 fun rs e2 F2 H2 vs x2 k2 kp2 hrs p2 => ?_)
      have dm : ∀ a, isNew r1 = true → v = .ref a → H1 a ≠ none := fun a hn hv => by
        cases r1 with
        | new d =>
          obtain ⟨a', e, _, _, _, w⟩ := rv1
          rw [hv] at e; cases e
          obtain ⟨o, ho⟩ := w.there
          rw [ho]; simp
        | _ => cases hn
      exact p2 F2 H2 (v :: vs) (x1.trans x2) k2 ((kp0.trans kp1).trans kp2) (.cons (rv1.ext x2) ns x1.dom dm hrs)
    · simp only [q, Res.stuck_bind] at p1; exact p1.elim
def slOf : Rv → Sl
  | .val d => .fz d
  | .new d => .ow .fr d
  | .sl _ => .no
def storeHs : List Nat → List Rv → Env → Res (Fl × Env)
  | [], [], env => .ok (.nx, env)
  | i :: is, r :: rs, env => if free env i = true then storeHs is rs (env.set i (slOf r)) else .stuck
  | _, _, _ => .stuck
theorem storeHs_cons (i : Nat) (is : List Nat) (r : Rv) (rs : List Rv) (env : Env) : storeHs (i :: is) (r :: rs) env = if free env i = true then storeHs is rs (env.set i (slOf r)) else .stuck := rfl
theorem storeHs_nil (env : Env) : storeHs [] [] env = .ok (.nx, env) := rfl
def setAll (σ : St) : List Nat → List V → St
  | i :: is, v :: vs => setAll (σ.set i (some v)) is vs
  | _, _ => σ
/-- one store of a value that is held -/
theorem store_step {F0 H0 F H : Hp} {σ0 σ : St} {env0 env : Env} {i : Nat} {v : V} {r : Rv} (hf : free env i = true) (ns : notSl r = true) (x : Ext F0 H0 (Own σ0 env0) F H (Own σ env)) (k : EnvOk g F H σ env) (kp : Keep σ0 env0 σ env) (rv : RvOk g H0 F H σ env v r) :
    Ext F0 H0 (Own σ0 env0) F H (Own (σ.set i (some v)) (env.set i (slOf r))) ∧ EnvOk g F H (σ.set i (some v)) (env.set i (slOf r)) ∧ Keep σ0 env0 (σ.set i (some v)) (env.set i (slOf r)) := by
  have hl := free_lt hf
  cases r with
  | val d =>
    have ks := k.store (v := v) (s := .fz d) hl ⟨v, rfl, rv⟩ fun _ _ ⟨kd, d2, z⟩ => nomatch z
    refine ⟨⟨x.sub, x.keep, x.dom, x.new, fun b ⟨j, hb⟩ => ?_⟩, ks, kp.trans (keep_set hf)⟩
    rcases adr_set hb with ⟨_, ⟨_, _, z⟩, _⟩ | ⟨_, a1⟩
    · cases z
    · exact x.own b ⟨j, a1⟩
  | new d =>
    obtain ⟨a, e, h0, hF, hO, w⟩ := rv
    have ks := k.store (v := v) (s := .ow .fr d) hl ⟨a, by rw [e], hF, w⟩ fun b e' _ j _ hb => by
      rw [e] at e'; cases e'; exact hO ⟨j, hb⟩
    refine ⟨⟨x.sub, x.keep, x.dom, x.new, fun b ⟨j, hb⟩ => ?_⟩, ks, kp.trans (keep_set hf)⟩
    rcases adr_set hb with ⟨_, _, z⟩ | ⟨_, a1⟩
    · rw [e] at z; cases z; exact .inl h0
    · exact x.own b ⟨j, a1⟩
  | sl j => cases ns
theorem HOkL.stored {F H : Hp} {σ : St} {env : Env} {i : Nat} {v : V} {r : Rv} (dm : ∀ a, isNew r = true → v = .ref a → ∃ H1 : Hp, H1 a ≠ none ∧ True) {H0 : Hp} {vs : List V} {rs : List Rv} (h : HOkL g F H σ env H0 vs rs) (fresh : ∀ a, isNew r = true → v = .ref a → H0 a ≠ none) : HOkL g F H (σ.set i (some v)) (env.set i (slOf r)) H0 vs rs := by
  induction h with
  | nil => exact .nil
  | @cons H0 H1 v2 r2 vs rs h1 h2 h3 h4 h5 ih =>
    refine .cons ?_ h2 h3 h4 (ih fun a z y => h3 a (fresh a z y))
    cases r2 with
    | val d => exact h1
    | new d =>
      obtain ⟨a, e, e0, hF, hO, w⟩ := h1
      refine ⟨a, e, e0, hF, fun ⟨j, hb⟩ => ?_, w⟩
      rcases adr_set hb with ⟨_, ⟨kd, d2, z⟩, z2⟩ | ⟨_, a1⟩
      · have hn : isNew r = true := by cases r with
          | new => rfl
          | val => cases z
          | sl => cases z
        exact fresh a hn z2 e0
      · exact hO ⟨j, a1⟩
    | sl j => cases h2
theorem storeHs_ok {F0 H0 : Hp} {σ0 : St} {env0 : Env} {Dn : Ends} : ∀ {is : List Nat} {vs : List V} {rs : List Rv} {F H : Hp} {σ : St} {env : Env} {H1 : Hp}, (∀ b, H0 b ≠ none → H1 b ≠ none) → HOkL g F H σ env H1 vs rs → Ext F0 H0 (Own σ0 env0) F H (Own σ env) → EnvOk g F H σ env → Keep σ0 env0 σ env → PostS g W F0 H0 σ0 env0 Dn (storeHs is rs env) → Dn.nx (setAll σ is vs) H
  | [], _, _, F, H, σ, env, H1, _, .nil, x, k, kp, p => p F H σ x k kp
  | _ :: _, _, _, _, _, _, _, _, _, .nil, _, _, _, p => p.elim
  | [], _, _, _, _, _, _, _, _, .cons .., _, _, _, p => p.elim
  | i :: is, _, _, F, H, σ, env, H1, d1, .cons (v := v) (r := r) (rs := rs) h1 h2 h3 h4 h5, x, k, kp, p => by
    by_cases hf : free env i = true
    · have p' : PostS g W F0 H0 σ0 env0 Dn (storeHs is rs (env.set i (slOf r))) := by
        rw [storeHs_cons, if_pos hf] at p
        exact p
      obtain ⟨x2, k2, kp2⟩ := store_step hf h2 x k kp (RvOk.earlier h1 d1)
      show Dn.nx (setAll (σ.set i (some v)) is _) H
      exact storeHs_ok (is := is) (rs := rs) (fun b z => h3 b (d1 b z)) (h5.stored (fun a _ _ => ⟨fun _ => some (.lst []), by simp⟩) h4) x2 k2 kp2 p'
    · rw [storeHs_cons, if_neg hf] at p
      exact p.elim
def mPar (is : List Nat) (fs : List ME) : MS := fun env => evHs fs env >>= fun z => storeHs is z.1 z.2
theorem storeHs_len : ∀ {is : List Nat} {rs : List Rv} {env : Env}, storeHs is rs env ≠ .stuck → is.length = rs.length
  | [], [], _, _ => rfl
  | [], _ :: _, _, h => absurd rfl h
  | _ :: _, [], _, h => absurd rfl h
  | i :: is, r :: rs, env, h => by
    rw [storeHs_cons] at h
    split at h
    · simp [storeHs_len h]
    · exact absurd rfl h
theorem HOkL.len {F H : Hp} {σ : St} {env : Env} : ∀ {H0 : Hp} {vs : List V} {rs : List Rv}, HOkL g F H σ env H0 vs rs → vs.length = rs.length
  | _, _, _, .nil => rfl
  | _, _, _, .cons _ _ _ _ h => by simp [HOkL.len h]
theorem par_run {t : TA} {fs : List ME} {is : List Nat} (h : AllE g W t fs) {F H : Hp} {σ : St} {env : Env} {Dn : Ends} {Q : List V → Hp → Prop} (k : EnvOk g F H σ env) (p : PostS g W F H σ env Dn (mPar is fs env)) (q : ∀ vs H1, vs.length = is.length → Dn.nx (setAll σ is vs) H1 → Q vs H1) : t σ H Q := by
  refine h.hs F H σ env _ k ?_
  unfold mPar at p
  cases hm : evHs fs env with
  | stuck => rw [hm] at p; exact p.elim
  | ex c d e => rw [hm] at p; exact fun F' H' dd C v => p F' H' σ dd C v
  | ok z =>
    obtain ⟨rs, e⟩ := z
    rw [hm, Res.ok_bind] at p
    intro F1 H1 vs x1 k1 kp1 hrs
    have hrs : HOkL g F1 H1 σ e H vs rs := hrs
    exact q vs H1 (by rw [hrs.len, storeHs_len p.stuck_ne]) (storeHs_ok (fun _ z => z) hrs x1 k1 kp1 p)
theorem good_par2 {t : TA} {fs : List ME} {i j : Nat} (h : AllE g W t fs) : GoodS g W (tPar i j t) (mPar [i, j] fs) := fun F H σ env Dn k p =>
  par_run h k p fun vs H1 hl hd => match vs, hl, hd with
    | [v, w], _, hd => ⟨v, w, rfl, hd⟩
theorem good_par3 {t : TA} {fs : List ME} {i j l : Nat} (h : AllE g W t fs) : GoodS g W (tPar3 i j l t) (mPar [i, j, l] fs) := fun F H σ env Dn k p =>
  par_run h k p fun vs H1 hl hd => match vs, hl, hd with
    | [u, v, w], _, hd => ⟨u, v, w, rfl, hd⟩
section
variable {X : Cx} {fs : List ME} {a b c : Expr} {px py pz pt pos : Pos}
theorem ds_par2 {i j : Nat} {x y : Str} {kt k2 pt2} (hc : X.calm = true) (hN : X.N.Nodup) (hi : X.N[i]? = some x) (hj : X.N[j]? = some y) (hij : i ≠ j)
    (hx : X.env.scope.names.lookup x = some .local) (hy : X.env.scope.names.lookup y = some .local) (ha : DA X W [a, b] fs)
    (hw : swappedStores [.Tuple [.Name x px, .Name y py] kt pt] (.Tuple [a, b] k2 pt2) X.env = pure (some [x, y]) := by rfl)
    (hs : swapsWithSole [.Tuple [.Name x px, .Name y py] kt pt] (.Tuple [a, b] k2 pt2) pos.line X.env = pure false := by rfl) :
    DS X W (.Assign [.Tuple [.Name x px, .Name y py] kt pt] (.Tuple [a, b] k2 pt2) pos) (mPar [i, j] fs) := by
  obtain ⟨t, pt, gt⟩ := ha
  exact ⟨_, ps_par hc hN hi hj hij hx hy pt hw hs, good_par2 gt⟩
theorem ds_par3 {i j l : Nat} {x y z : Str} {kt k2 pt2} (hc : X.calm = true) (hN : X.N.Nodup) (hi : X.N[i]? = some x) (hj : X.N[j]? = some y) (hl : X.N[l]? = some z) (hij : i ≠ j) (hil : i ≠ l) (hjl : j ≠ l)
    (hx : X.env.scope.names.lookup x = some .local) (hy : X.env.scope.names.lookup y = some .local) (hz : X.env.scope.names.lookup z = some .local) (ha : DA X W [a, b, c] fs)
    (hw : swappedStores [.Tuple [.Name x px, .Name y py, .Name z pz] kt pt] (.Tuple [a, b, c] k2 pt2) X.env = pure (some [x, y, z]) := by rfl)
    (hs : swapsWithSole [.Tuple [.Name x px, .Name y py, .Name z pz] kt pt] (.Tuple [a, b, c] k2 pt2) pos.line X.env = pure false := by rfl) :
    DS X W (.Assign [.Tuple [.Name x px, .Name y py, .Name z pz] kt pt] (.Tuple [a, b, c] k2 pt2) pos) (mPar [i, j, l] fs) := by
  obtain ⟨t, pt, gt⟩ := ha
  exact ⟨_, ps_par3 hc hN hi hj hl hij hil hjl hx hy hz pt hw hs, good_par3 gt⟩
end
end DL
namespace DL
open PySem PySem.Spec L2
variable {g : G} {W : WX}

/-! ### enumerate of tuples and texts -/
theorem enum_step {X : Cx} {pins : List (Addr × Obj)} {σ : St} {H : Hp} {s : Shared} {E : Value → Shared → Prop} {elts : List Expr} {kk : Nat} {tpos : Pos} {e it : Addr} {fp : List Addr} {n i : Nat} {Pv : Nat → Value → Prop} {Tn : Nat → Heap → Prop} {Y : V → Prop} {old : Value}
    (I : Inv X pins σ H s) (D : Draws X.prog X.w X.A.in1 it fp n Pv Tn) (he : IsEnum s.heap e it ((i : Nat) : Int) old) (ht : Tn i s.heap) (hi : i < n) (hne : e ≠ it) (hef : e ∉ fp) (hf : ∀ b ∈ [e, it], FpOk X pins H b) (hY : ∀ u, Pv i u → ∃ x, RelV x u ∧ Y x) :
    wpAny (model X.prog X.w) X.A (pyNext (.ref e)) (fun r s1 => ∃ u, r = some u ∧ wpAny (model X.prog X.w) X.A (letOwnedTupleGo (.Tuple elts kk tpos) (.ref e) u) (fun _ s2 => ∃ v H', Inv X pins σ H' s2 ∧ RelV v u ∧ (∃ T x, v = .ref T ∧ H T = none ∧ H' = upd H T (.tup [.int (i : Nat), x]) ∧ Y x) ∧
      ((∃ old, IsEnum s2.heap e it (((i + 1 : Nat)) : Int) old) ∧ Tn (i + 1) s2.heap) ∧ ∀ b ∈ [e, it], H' b = none) E s1) E s := by
  have hel : e < s.heap.objs.size := Heap.lt_size he
  have hil : it < s.heap.objs.size := by obtain ⟨_, q⟩ := D.live _ _ ht; exact Heap.lt_size q
  refine wpAny_pyNext_enum_itemD D he ht hi hne hef fun u h1 tk hp out t1 hT hz keep => ?_
  obtain ⟨x, ru, y⟩ := hY u hp
  refine ⟨_, rfl, wpAny_letOwnedTupleGo_enum (s := ⟨h1, s.gens, s.drawn, tk + 1, s.os⟩) out fun h2 e2 sb => ?_⟩
  have hT2 : h2.get? s.heap.objs.size = some { cls := .type "tuple", data := .seq #[.int i tk, u] } := (sb.2 _ (Nat.ne_of_gt hel)).trans hT
  have new : ObjOk X.prog X.w (upd H s.heap.objs.size (.tup [.int (i : Nat), x])) h2 s.heap.objs.size (.tup [.int (i : Nat), x]) :=
    ⟨by show 2 ≤ sizeLine; decide, [.int i tk, u], .cons ⟨tk, rfl⟩ (.cons ru .nil), ⟨_, hT2, rfl, _, rfl⟩⟩
  have I1 := I.turnedNew (t' := tk + 1) (ch := [e, it]) (fun b ob hb q => by
    have n1 : b ≠ e := fun z => hb (by simp [z])
    have n2 : b ≠ it := fun z => hb (by simp [z])
    exact (sb.2 b n1).trans (keep b ob n1 n2 q)) hf (Nat.le_refl _) new
  refine ⟨.ref s.heap.objs.size, _, I1, rfl, ⟨_, x, rfl, I.hok.fresh (Nat.le_refl _), rfl, y⟩, ⟨⟨u, ?_⟩, ?_⟩, fun b hb => ?_⟩
  · rw [show (((i + 1 : Nat)) : Int) = (i : Int) + 1 by omega]; exact e2
  · exact D.frame _ _ _ t1 fun b hb o q => (sb.2 b fun z => hef (z ▸ hb)).trans q
  · have hb' : b < s.heap.objs.size := by
      rcases List.mem_cons.mp hb with z | z
      · rw [z]; exact hel
      · rw [List.mem_singleton.mp z]; exact hil
    rw [upd_ne (Nat.ne_of_lt hb')]
    exact (hf b hb).1
theorem vals_back : ∀ {xs : List V} {us : List Value} {i : Nat} {u : Value}, Vals xs us → us[i]? = some u → ∃ x, xs[i]? = some x ∧ RelV x u
  | _, _, _, _, .nil, e => by simp at e
  | _, _, 0, _, .cons (a := x) r _, e => by simp at e; subst e; exact ⟨x, by simp, r⟩
  | _, _, i + 1, _, .cons _ t, e => by
    obtain ⟨x, h1, h2⟩ := vals_back (i := i) t (by simpa using e)
    exact ⟨x, by simpa using h1, h2⟩
def IteT (K : PySem.W.Frag) (a : Addr) : It where
  go := fun i H => ∃ xs : List V, SqT K H a xs ∧ i < xs.length
  yld := fun i H v H' => ∃ T x, v = .ref T ∧ H T = none ∧ H' = upd H T (.tup [.int (i : Nat), x]) ∧ ∀ xs, SqT K H a xs → xs[i]? = some x
  stop := fun i H => ∃ xs : List V, SqT K H a xs ∧ xs.length = i
def IteS (z : Str) : It where
  go := fun i _ => i < z.cps.size
  yld := fun i H v H' => ∃ T x, v = .ref T ∧ H T = none ∧ H' = upd H T (.tup [.int (i : Nat), x]) ∧ ∃ c, z.cps[i]? = some c ∧ x = .str ⟨#[c]⟩
  stop := fun i _ => z.cps.size = i
theorem turn_enumT {P : Program} {w : World} {K : PySem.W.Frag} {elts : List Expr} {kk : Nat} {tpos : Pos} (a e it : Addr) (hne : e ≠ it) (hea : e ≠ a) (hia : a ≠ it) :
    Turn P w K (.Tuple elts kk tpos) (IteT K a) [e, it] e (fun i h => (∃ old, IsEnum h e it ((i : Nat) : Int) old) ∧ h.IsTupleIter it a i) where
  mem := by simp
  obj := fun i h st b hb => by
    obtain ⟨⟨old, he⟩, ⟨o, ho, hc, hd⟩⟩ := st
    rcases List.mem_cons.mp hb with z | z
    · rw [z]; exact ⟨_, he, fun v q => nomatch q⟩
    · rw [List.mem_singleton.mp z]; exact ⟨o, ho, fun v q => by rw [hd] at q; cases q⟩
  keep := fun i h h' st k => ⟨⟨st.1.choose, k e (by simp) _ st.1.choose_spec⟩, st.2.at fun o q => k it (by simp) o q⟩
  item := by
    intro X e1 e2 e3 hc i pins s σ H E I hf st hg
    subst e1 e2 e3
    obtain ⟨⟨old, he⟩, hit⟩ := st
    obtain ⟨xs, hq, hx⟩ := hg
    obtain ⟨its, rv, tup, hz⟩ := I.tuple hq
    have D := Draws.tuple (prog := X.prog) (w := X.w) (A := X.A.in1) (I.ok.hd hc) it a hia its.toArray
    have hl := rv.length
    have step := enum_step (elts := elts) (kk := kk) (tpos := tpos) (Y := fun x => ∀ xs, SqT X.K H a xs → xs[i]? = some x) (E := E) I D he ⟨hit, tup⟩ (by simp; omega) hne (by simp [hne, hea]) hf fun u hu => by
      obtain ⟨x, h1, h2⟩ := vals_back rv (show its[i]? = some u by simpa using hu)
      exact ⟨x, h2, fun ys hy => by rw [I.tuple_inj hy hq]; exact h1⟩
    refine thn step fun r s1 hr => ?_
    obtain ⟨u, eu, h⟩ := hr
    refine ⟨u, eu, thn h fun _ s2 h => ?_⟩
    obtain ⟨v, H', I', r, y, t, z⟩ := h
    exact ⟨v, H', I', r, y, ⟨t.1, t.2.1⟩, z⟩
  done := by
    intro X e1 e2 e3 hc i pins s σ H E I hf st hg
    subst e1 e2 e3
    obtain ⟨⟨old, he⟩, hit⟩ := st
    obtain ⟨xs, hq, hx⟩ := hg
    obtain ⟨its, rv, tup, hz⟩ := I.tuple hq
    have D := Draws.tuple (prog := X.prog) (w := X.w) (A := X.A.in1) (I.ok.hd hc) it a hia its.toArray
    have hl := rv.length
    have e0 : its.toArray.size = i := by simp; omega
    obtain ⟨f0, f1, f2, f3, f4, f5⟩ := hf it (by simp)
    exact wpAny_pyNext_enum_endD D he (by rw [e0]; exact ⟨hit, tup⟩) fun h' eb => ⟨rfl, I.turned (t' := s.toks) (fun b o hb q => eb b o hb q) f0 f1 f3 f4 f5⟩
  self := fun A i s Q E st h => wpAny_pyIter_enum st.1.choose_spec h
theorem turn_enumS {P : Program} {w : World} {K : PySem.W.Frag} {elts : List Expr} {kk : Nat} {tpos : Pos} (x : Str) (t : Tok) (e it : Addr) (hne : e ≠ it) :
    Turn P w K (.Tuple elts kk tpos) (IteS x) [e, it] e (fun i h => (∃ old, IsEnum h e it ((i : Nat) : Int) old) ∧ h.IsStrIter it (strIterType x) x t i) where
  mem := by simp
  obj := fun i h st b hb => by
    obtain ⟨⟨old, he⟩, ⟨o, ho, hc, hd⟩⟩ := st
    rcases List.mem_cons.mp hb with z | z
    · rw [z]; exact ⟨_, he, fun v q => nomatch q⟩
    · rw [List.mem_singleton.mp z]; exact ⟨o, ho, fun v q => by rw [hd] at q; cases q⟩
  keep := fun i h h' st k => ⟨⟨st.1.choose, k e (by simp) _ st.1.choose_spec⟩, (Draws.text (prog := P) (w := w) (A := { depth := 0, frames := none, guards := none, units := 0 }) rfl it x t).frame _ _ _ st.2 fun b hb o q => k b (by simp at hb; simp [hb]) o q⟩
  item := by
    intro X e1 e2 e3 hc i pins s σ H E I hf st hg
    subst e1 e2 e3
    obtain ⟨⟨old, he⟩, hit⟩ := st
    have D := Draws.text (prog := X.prog) (w := X.w) (A := X.A.in1) (I.ok.hd hc) it x t
    have step := enum_step (elts := elts) (kk := kk) (tpos := tpos) (Y := fun y => ∃ c, x.cps[i]? = some c ∧ y = .str ⟨#[c]⟩) (E := E) I D he hit hg hne (by simp [hne]) hf fun u hu => by
      obtain ⟨c, v, h1, h2⟩ := hu
      exact ⟨.str ⟨#[c]⟩, ⟨v, h2⟩, c, h1, rfl⟩
    exact step
  done := by
    intro X e1 e2 e3 hc i pins s σ H E I hf st hg
    subst e1 e2 e3
    obtain ⟨⟨old, he⟩, hit⟩ := st
    have D := Draws.text (prog := X.prog) (w := X.w) (A := X.A.in1) (I.ok.hd hc) it x t
    have hg : x.cps.size = i := hg
    obtain ⟨f0, f1, f2, f3, f4, f5⟩ := hf it (by simp)
    exact wpAny_pyNext_enum_endD D he (by rw [hg]; exact hit) fun h' eb => ⟨rfl, I.turned (t' := s.toks) (fun b o hb q => eb b o hb q) f0 f1 f3 f4 f5⟩
  self := fun A i s Q E st h => wpAny_pyIter_enum st.1.choose_spec h
end DL
namespace DL
open PySem PySem.Spec L2
open Sem (wp)
open Builtin Builtin.Str
variable {g : G} {W : WX}

/-- the enumerate object over the iterator ahead of it -/
def enumO (it : Addr) : Obj := { cls := .type "enumerate", data := .fields #[.none, .bool false, .ref it, rawInt 0, .none, .none] }
theorem meets_enumB {v : Value} {o : Obj} {Hb : Heap → Prop} (B : Begins v o Hb) :
    Meets (Builtin.«enumerate.__new__» ⟨[.type "enumerate", v], []⟩) (fun _ R s => Hb s.heap ∧ R (.ok (.ret (.ref (s.heap.push o).objs.size))) { s with heap := (s.heap.push o).push (enumO s.heap.objs.size) }) :=
  .of_wp fun pr w A R s h => by
    obtain ⟨hh, gg, dd, tt, oo⟩ := s
    have is_sub := sub_enumerate
    obtain ⟨b1, b2⟩ := h
    have step : ∀ {A2 : Around} {E2 : Value → Shared → Prop} {Q2 : Value → Shared → Prop}, Q2 (.ref hh.objs.size) ⟨hh.push o, gg, dd, tt, oo⟩ → wpAny (model pr w) A2 (pyIter v) Q2 E2 ⟨hh, gg, dd, tt, oo⟩ := fun z =>
      B.iter pr w _ _ ⟨hh, gg, dd, tt, oo⟩ _ b1 z
    wp_walk using step
    refine wpAny_stack_any fun fr => wpAny_pure ?_
    split
    · rename_i cl _ _ _ _ _
      cases (cl == Value.type "enumerate")
      all_goals
        wp_walk using step
        exact ⟨_, rfl, b2⟩
    · wp_walk using step
      exact ⟨_, rfl, b2⟩
section
variable {prog : Program} {w : World} {A : Around} {E : Value → Shared → Prop} {s : Shared}
theorem call_enumB {v : Value} {o : Obj} {Hb : Heap → Prop} {Q : Value → Shared → Prop} (B : Begins v o Hb) (hb : Hb s.heap)
    (k : ∀ h', IsEnum h' (s.heap.objs.size + 1) s.heap.objs.size 0 .none → h'.get? s.heap.objs.size = some o → (∀ b u, s.heap.get? b = some u → h'.get? b = some u) → Q (.ref (s.heap.objs.size + 1)) { s with heap := h' }) :
    wpAny (model prog w) A (call (.type "enumerate") [v]) Q E s := by
  refine callType_new F.called_enumerate (by decide) (F.typeCall_enumerate_1 _) (F.newCall_enumerate_1 _) (fun ob => F.args_object_init_2 ob _) F.entry_enumerate_new (meets_enumB B) ⟨hb, ?_⟩
  have sz : (s.heap.push o).objs.size = s.heap.objs.size + 1 := Heap.size_push ..
  have at1 := Heap.get?_push_size (s.heap.push o) (o := enumO s.heap.objs.size) rfl
  rw [sz] at at1
  show _ ∧ _
  rw [sz]
  have en : IsEnum ((s.heap.push o).push (enumO s.heap.objs.size)) (s.heap.objs.size + 1) s.heap.objs.size 0 .none := at1
  exact ⟨⟨_, en, rfl⟩, k _ en (Heap.get?_push_of_some _ (Heap.get?_push_size _ B.free)) fun b u q => Heap.get?_push_of_some _ (Heap.get?_push_of_some _ q)⟩
end
theorem vals_one {x : V} {us : List Value} (h : Vals [x] us) : ∃ u, us = [u] ∧ RelV x u := by
  cases h with
  | cons r rr =>
    cases rr
    exact ⟨_, rfl, r⟩
def iEnumX (K : PySem.W.Frag) (ta : TA) : TI := fun σ H R => ta σ H fun vs H1 => (∃ a xs, vs = [.ref a] ∧ SqL K H1 a xs ∧ R (Ite K a) H1) ∨ (∃ a xs, vs = [.ref a] ∧ SqT K H1 a xs ∧ R (IteT K a) H1) ∨ ∃ z, vs = [.str z] ∧ R (IteS z) H1
theorem enum_fp {X : Cx} {pins : List (Addr × Obj)} {σ : St} {H : Hp} {s : Shared} {h' : Heap} (I : Inv X pins σ H s) : ∀ b ∈ [s.heap.objs.size + 1, s.heap.objs.size], FpOk X pins H b := fun b hb => by
  have le : s.heap.objs.size ≤ b := by
    rcases List.mem_cons.mp hb with z | z
    · omega
    · rw [List.mem_singleton.mp z]; exact Nat.le_refl _
  exact I.fpOk le (I.hok.fresh le)
theorem pi_enumX {X : Cx} {e : Expr} {ta : TA} {p pos tpos : Pos} {elts : List Expr} {kk : Nat} (hg : Gl X "enumerate") (hm : X.mg "enumerate" = none) (ha : PA X [e] ta) (hs : starEach [e] X.env = [(false, eval e X.env)] := by rfl) :
    PI X (.Tuple elts kk tpos) (.Call (.Name "enumerate" p) [e] [] pos) (iEnumX X.K ta) := by
  refine ⟨fun pins s σ H R I h => ?_⟩
  refine PyProof.Rows.Call_ (ld_blt I hg hm PyProof.Rows.boot_enumerate (PyProof.Rows.callWith_type1 (thn (ha.run pos pins s σ H _ I h) fun us s1 ⟨vs, H1, I1, r1, q1⟩ => ?_) hs rfl))
  rcases q1 with ⟨a, xs, ex, hq, q⟩ | ⟨a, xs, ex, hq, q⟩ | ⟨z, ex, q⟩
  · subst ex
    obtain ⟨u, rfl, r⟩ := vals_one r1
    cases r
    obtain ⟨its, rv, pl, hz⟩ := I1.list hq
    refine call_enumerate_list pl.isList fun h' he hit hsz hk => wpAny_pyIter_enum he ?_
    exact ⟨s1.heap.objs.size + 1, _, _, _, H1, rfl, I1.kept (t' := s1.toks) hk, turn_enum a (s1.heap.objs.size + 1) s1.heap.objs.size, ⟨⟨.none, he⟩, hit, Nat.succ_ne_self _⟩, enum_fp (h' := h') I1, q⟩
  · subst ex
    obtain ⟨u, rfl, r⟩ := vals_one r1
    cases r
    obtain ⟨its, rv, pl, hz⟩ := I1.tuple hq
    have al : a < s1.heap.objs.size := by obtain ⟨o, ho, _⟩ := pl; exact Heap.lt_size ho
    refine call_enumB (begins_tuple a its.toArray) pl fun h' he hit hk => wpAny_pyIter_enum he ?_
    exact ⟨s1.heap.objs.size + 1, _, _, _, H1, rfl, I1.kept (t' := s1.toks) hk, turn_enumT a (s1.heap.objs.size + 1) s1.heap.objs.size (Nat.succ_ne_self _) (Nat.ne_of_gt (Nat.lt_succ_of_lt al)) (Nat.ne_of_lt al), ⟨⟨.none, he⟩, ⟨_, hit, rfl, rfl⟩⟩, enum_fp (h' := h') I1, q⟩
  · subst ex
    obtain ⟨u, rfl, r⟩ := vals_one r1
    obtain ⟨t, rfl⟩ := r
    refine call_enumB (begins_text z t) trivial fun h' he hit hk => wpAny_pyIter_enum he ?_
    exact ⟨s1.heap.objs.size + 1, _, _, _, H1, rfl, I1.kept (t' := s1.toks) hk, turn_enumS z t (s1.heap.objs.size + 1) s1.heap.objs.size (Nat.succ_ne_self _), ⟨⟨.none, he⟩, ⟨_, hit, rfl, rfl⟩⟩, enum_fp (h' := h') I1, q⟩
/-- what enumerate gives -/
def enumD (ds : List D) : List D := (List.range ds.length).map fun i => .tuple [.int (i : Nat), ds.getD i .none]
def mEnum (f : ME) : MI := fun env => f env >>= fun z => lockR z.1 z.2 >>= fun y => match itemsD y.1.1 with
  | some ds => .ok ((enumD ds, y.1.2), y.2)
  | none => .stuck
theorem enumD_get {ds : List D} {i : Nat} {d : D} (h : (enumD ds)[i]? = some d) : ∃ e, ds[i]? = some e ∧ d = .tuple [.int (i : Nat), e] := by
  unfold enumD at h
  rw [List.getElem?_map] at h
  by_cases hi : i < ds.length
  · rw [List.getElem?_range hi] at h
    cases h
    exact ⟨ds[i], by simp [hi], by simp [List.getD_eq_getElem?_getD, hi]⟩
  · rw [List.getElem?_eq_none (by simpa using hi)] at h; cases h
theorem enumD_len (ds : List D) : (enumD ds).length = ds.length := by simp [enumD]
/-- a pair is made anew -/
theorem grow_pair {F H : Hp} {T : Addr} {i : Nat} {x : V} {e : D} (s : Sub F H) (hn : H T = none) (hx : Den g F x e) : ∃ F3, Grow F H F3 (upd H T (.tup [.int (i : Nat), x])) ∧ Den g F3 (.ref T) (.tuple [.int (i : Nat), e]) := by
  have hF : F T = none := by
    cases q : F T with
    | none => rfl
    | some o => rw [s _ _ q] at hn; cases hn
  refine ⟨upd F T (.tup [.int (i : Nat), x]), Grow.laidF s hn, .tup (.inl (.inl upd_same)) (.cons (.int _) (.cons (hx.mono (upd_sub hF)) .nil))⟩
theorem good_enum {t : TE} {f : ME} (h : GoodE g W t f) : GoodI g W (iEnumX g.K (tCons t tNil)) (mEnum f) := fun F H σ env R k p => by
  show t σ H fun v H1 => tNil σ H1 fun vs H2 => _
  refine h F H σ env _ k (Post.since (R := RE g) (R' := RI g) .refl .refl (k := fun z => lockR z.1 z.2 >>= fun y => match itemsD y.1.1 with
    | some ds => .ok ((enumD ds, y.1.2), y.2)
    | none => .stuck) p fun r e1 F1 H1 v x1 k1 kp1 rv p1 => ?_)
  cases hl : lockR r e1 with
  | stuck => simp only [hl, Res.stuck_bind] at p1; exact p1.elim
  | ex c d e => unfold lockR at hl; cases r <;> simp [Rv.frz] at hl; split at hl <;> cases hl
  | ok y =>
    obtain ⟨⟨d, o⟩, e2⟩ := y
    simp only [hl, Res.ok_bind] at p1
    obtain ⟨F2, x2, k2, kp2, st⟩ := lockR_ok rv x1 k1 hl
    cases hd : itemsD d with
    | none => simp only [hd] at p1; exact p1.elim
    | some ds =>
      simp only [hd] at p1
      have fin : ∀ J : It, IterOk g J (enumD ds) F2 H1 σ e2 → R J H1 := fun J hj => p1 F2 H1 J x2 k2 (kp1.trans kp2) hj
      have now := st F2 H1 σ e2 .refl .refl k2
      unfold itemsD at hd
      have lists : ∀ (J : Addr → It) (a : Addr) (xs : List V), J = Ite g.K → v = .ref a → SqL g.K H1 a xs →
          (∀ F3 H3 σ3 e3, Ext F2 H1 (Own σ e2) F3 H3 (Own σ3 e3) → Keep σ e2 σ3 e3 → EnvOk g F3 H3 σ3 e3 → ∃ ys, SqL g.K H3 a ys ∧ DenL g F3 ys ds) → R (Ite g.K a) H1 := fun J a xs _ ev hq stq => by
        refine fin _ fun i F3 H3 σ3 e3 x3 kp3 k3 => ?_
        obtain ⟨ys, hb, hden⟩ := stq F3 H3 σ3 e3 x3 kp3 k3
        refine ⟨fun d' hd' => ?_, fun hi => ⟨ys, hb, by rw [hden.length, hi, enumD_len]; exact Nat.le_refl _⟩⟩
        obtain ⟨e, he, rfl⟩ := enumD_get hd'
        obtain ⟨w, hw, dw⟩ := hden.get he
        refine ⟨⟨ys, w, hb, hw⟩, fun x' H4 ⟨T, x, e4, hT, e5, y4⟩ => ?_⟩
        subst e4 e5
        have := y4 ys hb
        rw [hw] at this; cases this
        exact grow_pair k3.sub hT dw
      split at hd
      · cases hd
        obtain ⟨a, xs, e, ha, hden⟩ := now.lst k2.sub
        refine .inl ⟨a, xs, by rw [e], .inl (.inl ha), lists (Ite g.K) a xs rfl e (.inl (.inl ha)) fun F3 H3 σ3 e3 x3 kp3 k3 => ?_⟩
        obtain ⟨b, ys, e', hb, hden'⟩ := (st F3 H3 σ3 e3 x3 kp3 k3).lst k3.sub
        rw [e] at e'; cases e'
        exact ⟨ys, .inl (.inl hb), hden'⟩
      · cases hd
        obtain ⟨a, xs, e, ha, hden⟩ := now.tup k2.sub
        refine .inr (.inl ⟨a, xs, by rw [e], ha, fin _ fun i F3 H3 σ3 e3 x3 kp3 k3 => ?_⟩)
        obtain ⟨b, ys, e', hb, hden'⟩ := (st F3 H3 σ3 e3 x3 kp3 k3).tup k3.sub
        rw [e] at e'; cases e'
        refine ⟨fun d' hd' => ?_, fun hi => ⟨ys, hb, by rw [hden'.length, hi, enumD_len]⟩⟩
        obtain ⟨e, he, rfl⟩ := enumD_get hd'
        obtain ⟨w, hw, dw⟩ := hden'.get he
        refine ⟨⟨ys, hb, lt_of_get hw⟩, fun x' H4 ⟨T, x, e4, hT, e5, y4⟩ => ?_⟩
        subst e4 e5
        have := y4 ys hb
        rw [hw] at this; cases this
        exact grow_pair k3.sub hT dw
      · rename_i z
        cases hd
        obtain ⟨e, ok⟩ := now.str
        have hz : ∀ (i : Nat) (c : Nat), z.cps[i]? = some c → z.cps.toList[i]? = some c := fun i c q => by simpa using q
        refine .inr (.inr ⟨z, by rw [e], fin _ fun i F3 H3 σ3 e3 x3 kp3 k3 => ⟨fun d' hd' => ?_, fun hi => ?_⟩⟩)
        · obtain ⟨u, hu, rfl⟩ := enumD_get hd'
          rw [List.getElem?_map] at hu
          cases hc : z.cps.toList[i]? with
          | none => rw [hc] at hu; cases hu
          | some c =>
            rw [hc] at hu
            cases hu
            have hlt : i < z.cps.size := by have := lt_of_get hc; simpa using this
            refine ⟨hlt, fun x' H4 ⟨T, x, e4, hT, e5, c2, y4, y5⟩ => ?_⟩
            subst e4 e5 y5
            have : c2 = c := by
              have := hz i c2 y4
              rw [hc] at this
              exact (Option.some.inj this).symm
            subst this
            refine grow_pair k3.sub hT (.str _ (strOk_sub (l := [c2]) ok fun c3 h3 => ?_))
            have : c3 = c2 := by simpa using h3
            subst this
            exact List.mem_of_getElem? hc
        · show z.cps.size = i
          rw [hi, enumD_len]; simp
      · cases hd
        obtain ⟨a, xs, e, ha, hden⟩ := Pk.ro k2.sub now
        refine .inl ⟨a, xs, by rw [e], ha, lists (Ite g.K) a xs rfl e ha fun F3 H3 σ3 e3 x3 kp3 k3 => ?_⟩
        obtain ⟨b, ys, e', hb, hden'⟩ := Pk.ro k3.sub (st F3 H3 σ3 e3 x3 kp3 k3)
        rw [e] at e'; cases e'
        exact ⟨ys, hb, hden'⟩
      · cases hd
theorem di_enum {X : Cx} {e : Expr} {p pos tpos : Pos} {elts : List Expr} {kk : Nat} {f : ME} (hm : X.mg "enumerate" = none) (h : DE X W e f) (hg : Gl X "enumerate" := by rfl) (hs : starEach [e] X.env = [(false, eval e X.env)] := by rfl) :
    DI X W (.Tuple elts kk tpos) (.Call (.Name "enumerate" p) [e] [] pos) (mEnum f) := by
  obtain ⟨t, pt, gt⟩ := h
  exact ⟨_, pi_enumX hg hm (pa_cons pt pa_nil hs) hs, good_enum gt⟩
end DL
namespace DL
open PySem PySem.Spec L2
variable {g : G} {W : WX}

/-! ### an object is made -/
section
variable {X : Cx} {k : Nat} {f C : Addr} {fd : FuncData} {ps : List Str} {fm : FM} {x : Str} {p pos : Pos} {e : Expr} {es : List Expr} {t : TA}
/-- what the making of an object asks of its __init__ -/
def mkSp (g : G) (C : Addr) (fm : FM) (W : WX) (σ : St) (vs : List V) (H1 : Hp) (Q : VK) : Prop :=
  ∀ x dx, H1 x = none → H1 dx = none → dx ≠ x → fnSp g fm (.ref x :: vs) (upd (upd H1 dx (.own x)) x (.ins C dx [])) (fun v H2 => v = .non ∧ Q (.ref x) H2) fun c d H' => W c d σ H'
theorem run_mkG {pins : List (Addr × Obj)} {σ : St} {H : Hp} {s : Shared} {Q : VK} {us : List Value} {vs : List V} {kw : List (Str × Value)} {ws : List Value} (M : Mk X.K C f) (F : FnG X.prog X.w X.K X.mg X.base k f fd ps fm) (hr : Room (k + 1) X.A) (gd : X.A.guards = some []) (tk : Takes X W)
    (hb : ∀ (s' : Shared) (self : Value), X.K.In s'.heap → (self :: ws).length = ps.length → BindsTo s' fd ⟨self :: us, kw⟩ (ps.zip (self :: ws))) (I : Inv X pins σ H s) (r : Vals vs ws) (h : mkSp ⟨X.K, X.mg⟩ C fm W σ vs H Q) :
    codeAny (model X.prog X.w) X.A (.call (.ref C) ⟨us, kw⟩) (fun r s' => match r with
      | .ok (.ret u) => EP X pins σ Q u s'
      | .ok _ => False
      | .error e => X.xe e s') s := by
  have fresh1 : H (s.heap.objs.size + 1) = none := I.hok.fresh (Nat.le_succ _)
  have fresh0 : H s.heap.objs.size = none := I.hok.fresh (Nat.le_refl _)
  have sp := h _ _ fresh1 fresh0 (Nat.ne_of_lt (Nat.lt_succ_self _))
  have J := Inv.made (C := C) I
  have rel : Vals (V.ref (s.heap.objs.size + 1) :: vs) (Value.ref (s.heap.objs.size + 1) :: ws) := .cons rfl r
  have len : (Value.ref (s.heap.objs.size + 1) :: ws).length = ps.length := by rw [← rel.length]; exact fnSp_len F.len sp
  refine make_map (f := f) I.kIn M.makes M.init (beq_iff_eq.mp M.fn) (codeAny_mono (F.run _ X.stack _ _ ⟨Value.ref (s.heap.objs.size + 1) :: us, kw⟩ _ _ _ _ (hr.make C us kw) ?_ (J.env0.make C us kw) (hb _ _ J.kIn len) rel sp) fun r s' q => ?_)
  · simp [Around.under, gd, pushGuards, Code.guards, Code.isGuard, guardIds]
  · match r, q with
    | .error e, q => exact tk e s' (XE.of_call (E := fun c d H' => W c d σ H') J (fun _ _ _ z => z) q)
    | .ok .next, q => exact q.elim
    | .ok .brk, q => exact q.elim
    | .ok .cont, q => exact q.elim
    | .ok (.ret u), q =>
      obtain ⟨v, H', I3, rv, ev, q3⟩ := J.after q
      subst ev
      exact ⟨rv, V.ref _, H', I3, rfl, q3⟩
def tMakeG (g : G) (C : Addr) (fm : FM) (W : WX) (t : TA) : TE := fun σ H Q => t σ H fun vs H1 => mkSp g C fm W σ vs H1 Q
theorem pe_makeG (M : Mk X.K C f) (F : FnG X.prog X.w X.K X.mg X.base k f fd ps fm) (hr : Room (k + 1) X.A) (gd : X.A.guards = some []) (tk : Takes X W) (hg : Gl X x) (hm : X.mg x = some (.ref C)) (hb : Binds X.K fd ps []) (ha : PA X (e :: es) t)
    (hdb : (x == ("__debug__" : Str)) = false := by decide) (he : starEach (e :: es) X.env = (false, eval e X.env) :: starEach es X.env := by rfl) (hpl : (backTo pos (starEach es X.env)).any (·.1) = false := by rfl) :
    PE X (.Call (.Name x p) (e :: es) [] pos) (tMakeG ⟨X.K, X.mg⟩ C fm W t) := by
  refine ⟨fun pins s σ H Q I h => wpAny_Call_Name_kw (ld_glob I hg hm ?_ hdb)⟩
  refine PySem.W.callWith_K (h₀ := X.base) I.ok.mod.kin M.kp (thn (ha.run pos pins s σ H _ I h) fun us s1 ⟨vs, H1, I1, r, q⟩ => ⟨I1.kIn, ?_⟩) he hpl
  refine wpAny_call (run_mkG (ws := us) M F hr gd tk (fun s' self hk hl => ?_) I1 r q)
  have := hb s' (self :: us) hk (by rw [List.append_nil]; exact hl)
  rw [List.append_nil] at this
  exact this
end
/-- an object that stands still once it is made -/
def mkEnd (e1 : Env) : Res (Rv × Env) → Res (Rv × Env)
  | .ok (.val .none, .ow .pn d :: _) => .ok (.new d, e1)
  | .ex c d _ => .ex c d e1
  | _ => .stuck
def mMake (c : Str) (fm : FM) (fs : List ME) : ME := fun env => evDs fs env >>= fun z => mkEnd z.2 (fm (.ow .pn (insD c [] []) :: z.1.map .fz))
theorem mk_ok {F H : Hp} {σ : St} {env : Env} {C : Addr} {c : Str} {vs : List V} {ds : List D} {Q : VK} {fm : FM} (k : EnvOk g F H σ env) (hc : g.mg c = some (.ref C)) (hd : DenL g F vs ds)
    (p : Post (RE g) g W F H σ env Q (mkEnd env (fm (.ow .pn (insD c [] []) :: ds.map .fz)))) : mkSp g C fm W σ vs H Q := by
  intro x dx nx ndx ne
  have fx : F x = none := (k.fresh nx).1
  have fdx : F dx = none := (k.fresh ndx).1
  have hx1 : upd (upd H dx (.own x)) x (.ins C dx []) x = some (.ins C dx []) := upd_same
  have sub1 : Sub H (upd (upd H dx (.own x)) x (.ins C dx [])) := fun b o e => by
    have n1 : b ≠ x := fun z => by subst z; rw [nx] at e; cases e
    have n2 : b ≠ dx := fun z => by subst z; rw [ndx] at e; cases e
    rw [upd_ne n1, upd_ne n2]; exact e
  have getS : ∀ (i : Nat) (s : Sl), (Sl.ow .pn (insD c [] []) :: ds.map Sl.fz)[i]? = some s → (i = 0 ∧ s = .ow .pn (insD c [] [])) ∨ ∃ j d, i = j + 1 ∧ ds[j]? = some d ∧ s = .fz d := fun i s e => by
    cases i with
    | zero => simp at e; exact .inl ⟨rfl, e.symm⟩
    | succ j =>
      simp only [List.getElem?_cons_succ, List.getElem?_map] at e
      cases q : ds[j]? with
      | none => rw [q] at e; cases e
      | some d => rw [q] at e; cases e; exact .inr ⟨j, d, rfl, q, rfl⟩
  have own0 : ∀ (b : Addr) (i : Nat), Adr ((V.ref x :: vs).map some) (Sl.ow .pn (insD c [] []) :: ds.map Sl.fz) i b → i = 0 ∧ b = x := fun b i ⟨⟨kd, d, h1⟩, h2⟩ => by
    rcases getS i _ h1 with ⟨e, _⟩ | ⟨j, d', _, _, e⟩
    · subst e
      simp at h2
      exact ⟨rfl, h2.symm⟩
    · cases e
  have ke : EnvOk g F (upd (upd H dx (.own x)) x (.ins C dx [])) ((V.ref x :: vs).map some) (Sl.ow .pn (insD c [] []) :: ds.map Sl.fz) := by
    refine ⟨by simp [hd.length], k.sub.trans sub1, fun i s e => ?_, fun i j a h1 h2 => by rw [(own0 a i h1).1, (own0 a j h2).1]⟩
    rcases getS i s e with ⟨e1, e2⟩ | ⟨j, d, e1, e2, e3⟩
    · subst e1; subst e2
      exact ⟨_, rfl, x, rfl, fx, .ins hc hx1 rfl .nil rfl⟩
    · subst e1; subst e3
      obtain ⟨v, h1, h2⟩ := hd.get e2
      exact ⟨some v, by simp [h1], v, rfl, h2⟩
  have hO : ∀ b, Own ((V.ref x :: vs).map some) (Sl.ow .pn (insD c [] []) :: ds.map Sl.fz) b → b = x := fun b ⟨i, h⟩ => (own0 b i h).2
  have back : ∀ {F' H' : Hp} {O' : Addr → Prop}, Ext F (upd (upd H dx (.own x)) x (.ins C dx [])) (Own ((V.ref x :: vs).map some) (Sl.ow .pn (insD c [] []) :: ds.map Sl.fz)) F' H' O' → Sub F' H' → Grow F H F' H' := fun {F' H' O'} y s => by
    refine ⟨y.sub, fun b o e => y.keep b o (sub1 b o e) (fun z => by rw [hO b z, nx] at e; cases e), fun b h1 h2 => ?_, s⟩
    rcases y.new b h1 h2 with z | z
    · cases q : H b with
      | none => rfl
      | some o => rw [sub1 b o q] at z; cases z
    · rw [hO b z]; exact nx
  refine ⟨F, _, ke, ?_⟩
  cases hf : fm (Sl.ow .pn (insD c [] []) :: ds.map Sl.fz) with
  | stuck => rw [hf] at p; exact p.elim
  | ex c' d e =>
    rw [hf] at p
    intro F' H' dd C' v y k' kp a1 a2 a3
    have gr := back y k'.sub
    exact p F' H' dd C' v gr.ext (k.grow gr) .refl a1 a2 a3
  | ok z =>
    obtain ⟨r, e⟩ := z
    rw [hf] at p
    intro F' H' v y k' kp rv
    have gr := back y k'.sub
    cases r with
    | new d => exact p.elim
    | sl i => exact p.elim
    | val d0 =>
      cases d0 with
      | none =>
        cases e with
        | nil => exact p.elim
        | cons s r =>
          cases s with
          | ow kd d =>
            cases kd with
            | pn =>
              have rv : Den g F' v .none := rv
              obtain ⟨o, q1, a, q2, q3, q4⟩ := k'.sl 0 _ rfl
              have q1 : some (V.ref x) = o := Option.some.inj q1
              subst q1; cases q2
              refine ⟨Pk.non (g := g) (F := F') (H := F') (.inl rv), p F' H' (.ref x) gr.ext (k.grow gr) .refl ⟨x, rfl, nx, q3, fun ⟨i, ⟨kd, d2, w1⟩, w2⟩ => ?_, q4⟩⟩
              obtain ⟨o', u1, b, u2, u3, u4⟩ := k.sl i _ w1
              rw [w2] at u1; cases u1; cases u2
              obtain ⟨_, u5⟩ := u4.there
              rw [nx] at u5; cases u5
            | _ => exact p.elim
          | _ => exact p.elim
      | _ => exact p.elim
theorem good_make {t : TA} {fs : List ME} {C : Addr} {c : Str} (h : AllE g W t fs) (hc : g.mg c = some (.ref C)) (fm : FM) : GoodE g W (tMakeG g C fm W t) (mMake c fm fs) := fun F H σ env Q k p => by
  refine h.ds F H σ env _ k (Post.bind (R := RDs g) RE.early p fun ds e1 F1 H1 vs x1 k1 kp1 hd p1 => ?_)
  exact mk_ok k1 hc hd p1
end DL
namespace DL
open PySem PySem.Spec L2
variable {g : G} {W : WX}

/-! ### the fields of an object -/
def kvsGet (f : Str) : List (D × D) → Option D
  | [] => none
  | (.str h, d) :: r => if h = f then some d else kvsGet f r
  | _ :: _ => none
def kvsPut (f : Str) (e : D) : List (D × D) → List (D × D)
  | [] => [(.str f, e)]
  | (.str h, d) :: r => if h = f then (.str h, e) :: r else (.str h, d) :: kvsPut f e r
  | p :: r => p :: r
def insGet (c f : Str) : D → Option D
  | .dict ((.none, .str c') :: kvs) => if c' = c then kvsGet f kvs else none
  | _ => none
def insPut (c f : Str) (e : D) : D → Option D
  | .dict ((.none, .str c') :: kvs) => if c' = c ∧ kvs.length < 1000 then some (.dict ((.none, .str c') :: kvsPut f e kvs)) else none
  | _ => none
def kvsOf (ns : List Str) (ds : List D) : List (D × D) := (ns.map PyData.str).zip ds
theorem kvs_get {F : Hp} {f : Str} : ∀ {fs : List (Str × V)} {ds : List D} {d : D}, DenL g F (fs.map (·.2)) ds → kvsGet f (kvsOf (fs.map (·.1)) ds) = some d → ∃ v, fs.lookup f = some v ∧ Den g F v d
  | [], _, _, _, e => by simp [kvsOf, kvsGet] at e
  | (h, v) :: r, _, d, .cons hv hr, e => by
    have e : (if h = f then some _ else kvsGet f (kvsOf (r.map (·.1)) _)) = some d := e
    by_cases q : h = f
    · rw [if_pos q] at e
      cases e
      exact ⟨v, by rw [List.lookup_cons]; simp [q], hv⟩
    · rw [if_neg q] at e
      obtain ⟨w, h1, h2⟩ := kvs_get hr e
      exact ⟨w, by rw [List.lookup_cons]; simp [show (f == h) = false by simpa using fun z => q z.symm, h1], h2⟩
theorem kvs_put {F : Hp} {f : Str} {v : V} {e : D} (he : Den g F v e) : ∀ {fs : List (Str × V)} {ds : List D}, DenL g F (fs.map (·.2)) ds → ∃ es, DenL g F ((putF f v fs).map (·.2)) es ∧ kvsPut f e (kvsOf (fs.map (·.1)) ds) = kvsOf ((putF f v fs).map (·.1)) es
  | [], _, .nil => ⟨[e], .cons he .nil, rfl⟩
  | (h, w) :: r, _, .cons (d := d) (ds := ds) hw hr => by
    by_cases q : h = f
    · refine ⟨e :: ds, ?_, ?_⟩
      · show DenL g F ((if h = f then (h, v) :: r else (h, w) :: putF f v r).map (·.2)) _
        rw [if_pos q]; exact .cons he hr
      · show (if h = f then _ else _) = kvsOf ((if h = f then (h, v) :: r else (h, w) :: putF f v r).map (·.1)) _
        rw [if_pos q, if_pos q]; rfl
    · obtain ⟨es, h1, h2⟩ := kvs_put he hr
      refine ⟨d :: es, ?_, ?_⟩
      · show DenL g F ((if h = f then (h, v) :: r else (h, w) :: putF f v r).map (·.2)) _
        rw [if_neg q]; exact .cons hw h1
      · show (if h = f then _ else (PyData.str h, d) :: kvsPut f e (kvsOf (r.map (·.1)) ds)) = kvsOf ((if h = f then (h, v) :: r else (h, w) :: putF f v r).map (·.1)) _
        rw [if_neg q, if_neg q, h2]; rfl
theorem Pk.ins {F H : Hp} {v : V} {c : Str} {kvs : List (D × D)} (s : Sub F H) (h : Pk g F H v (.dict ((.none, .str c) :: kvs))) :
    ∃ a C dx fs ds, v = .ref a ∧ g.mg c = some (.ref C) ∧ H a = some (.ins C dx fs) ∧ DenL g F (fs.map (·.2)) ds ∧ kvs = kvsOf (fs.map (·.1)) ds := by
  generalize hd : PyData.dict ((.none, .str c) :: kvs) = d at h
  rcases h with h | ⟨a, e, h⟩
  · cases h with
    | ro _ _ e => subst e; simp [roD] at hd
    | @ins a C dx c2 fs vs ds d h1 h2 h3 r e =>
      subst e; subst h3
      injection hd with hd
      injection hd with hd1 hd2
      injection hd1 with _ hd1
      injection hd1 with hd1
      subst hd1
      exact ⟨a, C, dx, fs, ds, rfl, h1, s _ _ h2, r, hd2⟩
    | @dctK a kvs2 vs ds d _ _ _ _ e =>
      subst e
      injection hd with hd
      cases kvs2 with
      | nil => simp at hd
      | cons p r => cases ds with
        | nil => simp at hd
        | cons d' r' =>
          simp only [List.map_cons, List.zip_cons_cons] at hd
          injection hd with hd _
          injection hd with hd _
          cases hk : p.1 <;> rw [hk] at hd <;> simp [keyD] at hd
    | @dctT a kvs2 vs ds d _ _ _ _ e =>
      subst e
      injection hd with hd
      cases kvs2 with
      | nil => simp at hd
      | cons p r => cases ds with
        | nil => simp at hd
        | cons d' r' =>
          simp only [List.map_cons, List.zip_cons_cons] at hd
          injection hd with hd _
          injection hd with hd _
          cases hd
    | exc _ _ _ _ e => subst e; injection hd with hd; injection hd with hd _; injection hd with _ hd; cases hd
    | _ => cases hd
  · subst e
    cases h with
    | lst => cases hd
    | @ins C dx c2 fs vs ds d h1 h2 h3 r e =>
      subst e; subst h3
      injection hd with hd
      injection hd with hd1 hd2
      injection hd1 with _ hd1
      injection hd1 with hd1
      subst hd1
      exact ⟨a, C, dx, fs, ds, rfl, h1, h2, r, hd2⟩
    | @dctK kvs2 vs ds d _ _ _ _ e =>
      subst e
      injection hd with hd
      cases kvs2 with
      | nil => simp at hd
      | cons p r => cases ds with
        | nil => simp at hd
        | cons d' r' =>
          simp only [List.map_cons, List.zip_cons_cons] at hd
          injection hd with hd _
          injection hd with hd _
          cases hk : p.1 <;> rw [hk] at hd <;> simp [keyD] at hd
    | @dctT kvs2 vs ds d _ _ _ _ e =>
      subst e
      injection hd with hd
      cases kvs2 with
      | nil => simp at hd
      | cons p r => cases ds with
        | nil => simp at hd
        | cons d' r' =>
          simp only [List.map_cons, List.zip_cons_cons] at hd
          injection hd with hd _
          injection hd with hd _
          cases hd
/-- a class of the text whose objects have the fields -/
structure ClsF (K : PySem.W.Frag) (mg : Str → Option Value) (c : Str) (fields : List Str) : Prop where
  ex : ∃ C, mg c = some (.ref C) ∧ Cls K C ∧ ∀ f ∈ fields, NoAttr K C f
def dFld (c f : Str) (d : D) : Option Rv := (insGet c f d).map .val
theorem good_fld {c f : Str} {fields : List Str} (hc : ClsF g.K g.mg c fields) (hf : f ∈ fields) : Good1 g (fun x H1 Q => ∃ a C dx fs v, x = .ref a ∧ H1 a = some (.ins C dx fs) ∧ Cls g.K C ∧ NoAttr g.K C f ∧ fs.lookup f = some v ∧ Q v H1) (dFld c f) := by
  obtain ⟨C, c1, c2, c3⟩ := hc
  refine ⟨fun F H x d Q s hx p => ?_, fun d => ?_⟩
  · unfold dFld insGet at p
    split at p
    · rename_i c' kvs
      by_cases e : c' = c
      · rw [if_pos e] at p
        subst e
        obtain ⟨a, C2, dx, fs, ds, e1, e2, e3, e4, e5⟩ := hx.ins s
        rw [c1] at e2; cases e2
        subst e5
        cases q : kvsGet f (kvsOf (fs.map (·.1)) ds) with
        | none => rw [q] at p; exact p.elim
        | some d =>
          rw [q] at p
          obtain ⟨v, v1, v2⟩ := kvs_get e4 q
          exact ⟨a, C, dx, fs, v, e1, e3, c2, c3 f hf, v1, p.val0 s v2⟩
      · rw [if_neg e] at p; exact p.elim
    · exact p.elim
  · unfold dFld
    cases insGet c f d with
    | none => exact NoSl.none
    | some e => exact NoSl.val
theorem de_fld {X : Cx} {e : Expr} {f c : Str} {pos : Pos} {fields : List Str} {h : ME} (hc : ClsF X.K X.mg c fields) (hf : f ∈ fields) (he : DE X W e h) (hb : attributeBase e f X.env (eval e X.env) = eval e X.env := by rfl) : DE X W (.Attribute e f pos) (mUn (dFld c f) h) := by
  obtain ⟨t, pt, gt⟩ := he
  exact ⟨_, pe_fld pt hb, good_un gt (good_fld (g := ⟨X.K, X.mg⟩) hc hf)⟩
end DL
namespace DL
open PySem PySem.Spec L2
variable {g : G} {W : WX}

/-! ### self.f = e, on an own object -/
def fldS (c f : Str) (j : Nat) (d : D) (env : Env) : Option Sl → Res (Fl × Env)
  | some (.ow .fr d0) => match insPut c f d d0 with
    | some d1 => .ok (.nx, env.set j (.ow .fr d1))
    | none => .stuck
  | some (.ow .pn d0) => match insPut c f d d0 with
    | some d1 => .ok (.nx, env.set j (.ow .pn d1))
    | none => .stuck
  | _ => .stuck
def mFldS (c f : Str) (j : Nat) (h : ME) : MS := fun env => h env >>= fun z => z.1.frz z.2 >>= fun y => fldS c f j y.1 y.2 y.2[j]?
theorem fld_step {c f : Str} {fields : List Str} (hc : ClsF g.K g.mg c fields) (hf : f ∈ fields) {F H : Hp} {σ : St} {env : Env} {j : Nat} {kd : Kd} {d d0 d1 : D} {v : V} {Dn : Ends} (k : EnvOk g F H σ env) (hd : Den g F v d) (he : env[j]? = some (.ow kd d0)) (hk : kd ≠ .lk) (hp : insPut c f d d0 = some d1)
    (p : PostS g W F H σ env Dn (.ok (.nx, env.set j (.ow kd d1)))) :
    ∃ x, σ[j]? = some (some x) ∧ ∃ a C dx fs, x = .ref a ∧ H a = some (.ins C dx fs) ∧ Cls g.K C ∧ NoAttr g.K C f ∧ fs.length < 1000 ∧ Dn.nx σ (upd H a (.ins C dx (putF f v fs))) := by
  obtain ⟨C, c1, c2, c3⟩ := hc
  obtain ⟨o, h1, a, h2, h3, h4⟩ := k.sl j _ he
  subst h2
  unfold insPut at hp
  split at hp
  · rename_i c' kvs
    by_cases e : c' = c ∧ kvs.length < 1000
    · rw [if_pos e] at hp
      cases hp
      obtain ⟨e, hlen⟩ := e
      subst e
      have pk : Pk g F H (.ref a) (.dict ((.none, .str c') :: kvs)) := .inr ⟨a, rfl, h4⟩
      obtain ⟨b, C2, dx, fs, ds, e1, e2, e3, e4, e5⟩ := pk.ins k.sub
      cases e1
      rw [c1] at e2; cases e2
      have hl : fs.length < 1000 := by
        have := e4.length
        rw [e5] at hlen
        simp [kvsOf] at hlen this
        omega
      obtain ⟨es, q1, q2⟩ := kvs_put hd e4
      have w : OwnAt g F (upd H a (.ins C dx (putF f v fs))) a (.dict ((.none, .str c') :: kvsPut f d kvs)) := .ins c1 upd_same rfl q1 (by rw [e5, q2]; rfl)
      obtain ⟨y1, y2, y3⟩ := k.change he h1 hk w
      exact ⟨_, h1, a, C, dx, fs, rfl, e3, c2, c3 f hf, hl, p F _ σ y1 y2 y3⟩
    · rw [if_neg e] at hp; cases hp
  · cases hp
theorem good_fldS {c f : Str} {fields : List Str} (hc : ClsF g.K g.mg c fields) (hf : f ∈ fields) {j : Nat} {t : TE} {h : ME} (ht : GoodE g W t h) : GoodS g W (sFld g.K (tVar j) t f) (mFldS c f j h) := fun F H σ env Dn k p => by
  refine ht F H σ env _ k (PostS.bindF p fun d e2 F2 H1 v x2 k2 kp2 hd p2 => ?_)
  cases he : e2[j]? with
  | none => simp only [he] at p2; exact p2.elim
  | some s =>
    simp only [he] at p2
    cases s with
    | no => exact p2.elim
    | fz => exact p2.elim
    | ow kd d0 =>
      cases kd with
      | lk => exact p2.elim
      | fr =>
        cases hp : insPut c f d d0 with
        | none => simp only [fldS, hp] at p2; exact p2.elim
        | some d1 =>
          simp only [fldS, hp] at p2
          exact fld_step hc hf k2 hd he (by decide) hp p2
      | pn =>
        cases hp : insPut c f d d0 with
        | none => simp only [fldS, hp] at p2; exact p2.elim
        | some d1 =>
          simp only [fldS, hp] at p2
          exact fld_step hc hf k2 hd he (by decide) hp p2
theorem ds_fld {X : Cx} {c f x : Str} {fields : List Str} {j : Nat} {e : Expr} {p pos pos' : Pos} {h : ME} (hc : ClsF X.K X.mg c fields) (hf : f ∈ fields) (hN : X.N[j]? = some x) (hv : Vis X.env.scope x) (he : DE X W e h)
    (hs : swapsWith e (some (.Attribute (.Name x p) f pos')) pos.line X.env = pure false := by rfl) (hd : (x == ("__debug__" : Str)) = false := by decide) (hcd : (x == ("__classdict__" : Str)) = false := by decide) :
    DS X W (.Assign [.Attribute (.Name x p) f pos'] e pos) (mFldS c f j h) := by
  obtain ⟨t, pt, gt⟩ := he
  exact ⟨_, ps_fld (pe_var hN hv hd hcd) pt hs, good_fldS (g := ⟨X.K, X.mg⟩) hc hf gt⟩

/-! ### e.f, a property that reads alone -/
theorem getprop_G {X : Cx} {k : Nat} {C p ga a dx : Addr} {fs : List (Str × V)} {f : Str} {fd : FuncData} {ps : List Str} {fm : FM} {pins : List (Addr × Obj)} {σ : St} {H : Hp} {s : Shared} {Q : VK} {b : Bool} (I : Inv X pins σ H s) (ea : H a = some (.ins C dx fs)) (c : Cls X.K C) (hp : PropOf X.K C f p ga)
    (F : FnG X.prog X.w X.K X.mg X.base k ga fd ps fm) (hr : Room (k + 1) X.A) (gd : X.A.guards = some []) (hb : Binds X.K fd ps []) (h : fnSp ⟨X.K, X.mg⟩ fm [.ref a] H Q (fun _ _ _ => False)) :
    wpAny (model X.prog X.w) X.A (getAttr (.ref a) f b) (EP X pins σ Q) X.xe s := by
  obtain ⟨mA, O, _, _, _, _⟩ := ins_get I.hok ea
  obtain ⟨od, J, _⟩ := O.look
  obtain ⟨rest, isrec⟩ := hp.rec_
  have I1 := I.tok (s.toks + 1)
  have len : ([Value.ref a]).length = ps.length := fnSp_len F.len h
  refine PySem.W.get_bind I.kIn J (PySem.W.plainGet_of (c.get f)).1 (PySem.W.findObj_data (by obtain ⟨cd, q, _⟩ := PySem.W.any_some c.hd; rw [q]; rfl) hp.at_ hp.get hp.tak) (PySem.W.plainGet_of (c.get f)).2 (wpAny_call (PySem.W.prop_get (s := ⟨s.heap, s.gens, s.drawn, s.toks + 1, s.os⟩) I.kIn isrec ?_))
  refine codeAny_mono (F.run X.A.in1 X.stack _ H ⟨[.ref a], []⟩ [.ref a] [.ref a] Q _ hr.in1 gd I1.env0.in1 (by have := hb ⟨s.heap, s.gens, s.drawn, s.toks + 1, s.os⟩ [.ref a] I1.kIn len; exact this) (.cons rfl .nil) h) fun r s' q => ?_
  match r, q with
  | .error e, q => obtain ⟨_, _, _, _, _, _, _, _, _, _, _, _, _, z⟩ := q
  | .ok .next, q => exact q.elim
  | .ok .brk, q => exact q.elim
  | .ok .cont, q => exact q.elim
  | .ok (.ret u), q =>
    obtain ⟨v, H', I3, rv, q3⟩ := I1.after q
    show wpAny _ _ (handedOut u) _ _ _
    rw [PySem.W.handedOut_of (handed_of rv)]
    exact wpAny_pure ⟨v, H', I3, rv, q3⟩
/-- what a callee gives that is handed data alone and never raises -/
def fzResN (env : Env) : Res (Rv × Env) → Res (Rv × Env)
  | .ok (.val d, _) => .ok (.val d, env)
  | .ok (.new d, _) => .ok (.new d, env)
  | _ => .stuck
def isIns (c : Str) : D → Bool
  | .dict ((.none, .str c') :: _) => decide (c' = c)
  | _ => false
def mProp (c : Str) (fm : FM) (h : ME) : ME := fun env => h env >>= fun z => z.1.frz z.2 >>= fun y => if isIns c y.1 = true then fzResN y.2 (fm [.fz y.1]) else .stuck
def tPropG (g : G) (C : Addr) (fm : FM) (ta : TE) : TE := fun σ H Q => ta σ H fun x H1 => ∃ a dx fs, x = .ref a ∧ H1 a = some (.ins C dx fs) ∧ fnSp g fm [.ref a] H1 Q (fun _ _ _ => False)
theorem good_prop {c : Str} {C : Addr} (hc : g.mg c = some (.ref C)) (fm : FM) {t : TE} {h : ME} (ht : GoodE g W t h) : GoodE g W (tPropG g C fm t) (mProp c fm h) := fun F H σ env Q k p => by
  refine ht F H σ env _ k (Post.bindF (R' := RE g) RE.early p fun d e2 F2 H1 v x2 k2 kp2 hd p2 => ?_)
  by_cases hi : isIns c d = true
  · simp only [hi, if_true] at p2
    unfold isIns at hi
    split at hi
    · rename_i c' kvs
      have hi : c' = c := by simpa using hi
      subst hi
      obtain ⟨a, C2, dx, fs, ds, e1, e2', e3, _, _⟩ := Pk.ins (g := g) (F := F2) (H := H1) k2.sub (.inl hd)
      rw [hc] at e2'; cases e2'
      refine ⟨a, dx, fs, e1, e3, ?_⟩
      rw [← e1]
      obtain ⟨ke, no⟩ := fz_env (g := g) (vs := [v]) (ds := [PyData.dict ((.none, .str c') :: kvs)]) k2.sub (.cons hd .nil)
      refine ⟨F2, [.fz (.dict ((.none, .str c') :: kvs))], ke, ?_⟩
      have grow : ∀ {F' H' : Hp} {O' : Addr → Prop}, Ext F2 H1 (Own ([v].map some) [Sl.fz (.dict ((.none, .str c') :: kvs))]) F' H' O' → Sub F' H' → Grow F2 H1 F' H' := fun y s =>
        ⟨y.sub, fun b o e => y.keep b o e (no b), fun b q1 q2 => (y.new b q1 q2).elim id fun z => absurd z (no b), s⟩
      cases hf : fm [Sl.fz (.dict ((.none, .str c') :: kvs))] with
      | stuck => rw [hf] at p2; exact p2.elim
      | ex => rw [hf] at p2; exact p2.elim
      | ok z =>
        obtain ⟨r, e⟩ := z
        rw [hf] at p2
        intro F' H' w y k' kp rv
        have gr := grow y k'.sub
        cases r with
        | val d' => exact p2 F' H' w gr.ext (k2.grow gr) .refl rv
        | new d' =>
          obtain ⟨b, b1, b2, b3, b4, b5⟩ := rv
          refine p2 F' H' w gr.ext (k2.grow gr) .refl ⟨b, b1, b2, b3, fun ⟨i, ⟨kd, d2, w1⟩, w2⟩ => ?_, b5⟩
          obtain ⟨o', u1, b', u2, u3, u4⟩ := k2.sl i _ w1
          rw [w2] at u1; cases u1; cases u2
          obtain ⟨_, u5⟩ := u4.there
          rw [b2] at u5; cases u5
        | sl i => exact p2.elim
    · cases hi
  · rw [Bool.not_eq_true] at hi
    simp only [hi] at p2; exact p2.elim
/-- a property of a class of the text -/
structure CalP (P : Program) (w : World) (K : PySem.W.Frag) (mg : Str → Option Value) (base : Heap) (c f : Str) (st : Stmt) (k : Nat) (ps : List Str) (fm : FM) : Prop where
  ex : ∃ C p ga fd, mg c = some (.ref C) ∧ Cls K C ∧ PropOf K C f p ga ∧ FnG P w K mg base k ga fd ps fm ∧ Binds K fd ps []
theorem de_prop {X : Cx} {c f : Str} {st : Stmt} {k j : Nat} {ps : List Str} {fm : FM} {e : Expr} {pos : Pos} {h : ME} (cp : CalP X.prog X.w X.K X.mg X.base c f st j ps fm) (hr : Room k X.A) (hj : j + 1 ≤ k) (gd : X.A.guards = some []) (he : DE X W e h)
    (hb : attributeBase e f X.env (eval e X.env) = eval e X.env := by rfl) : DE X W (.Attribute e f pos) (mProp c fm h) := by
  obtain ⟨C, p, ga, fd, hm, cls, hp, F, bd⟩ := cp
  obtain ⟨t, pt, gt⟩ := he
  refine ⟨tPropG ⟨X.K, X.mg⟩ C fm t, ⟨fun pins s σ H Q I q => ?_⟩, good_prop (g := ⟨X.K, X.mg⟩) hm fm gt⟩
  refine attr_of hb (thn (pt.run pins s σ H _ I q) fun u s1 ⟨x, H1, I1, rx, a, dx, fs, ex, ea, q1⟩ => ?_)
  subst ex
  have eu : u = Value.ref a := rx
  subst eu
  exact getprop_G I1 ea cls hp F (hr.mono hj) gd bd q1
/-- a class of the text that may be made -/
structure CalM (P : Program) (w : World) (K : PySem.W.Frag) (mg : Str → Option Value) (base : Heap) (c : Str) (k : Nat) (ps : List Str) (fm : FM) : Prop where
  ex : ∃ C f fd, mg c = some (.ref C) ∧ Mk K C f ∧ FnG P w K mg base k f fd ps fm ∧ Binds K fd ps []
theorem de_make {X : Cx} {x : Str} {k j : Nat} {ps : List Str} {fm : FM} {p pos : Pos} {e : Expr} {es : List Expr} {fs : List ME} (cm : CalM X.prog X.w X.K X.mg X.base x j ps fm) (hr : Room k X.A) (hj : j + 1 ≤ k) (gd : X.A.guards = some []) (tk : Takes X W) (ha : DA X W (e :: es) fs) (hg : Gl X x := by rfl)
    (hdb : (x == ("__debug__" : Str)) = false := by decide) (he : starEach (e :: es) X.env = (false, eval e X.env) :: starEach es X.env := by rfl) (hpl : (backTo pos (starEach es X.env)).any (·.1) = false := by rfl) : DE X W (.Call (.Name x p) (e :: es) [] pos) (mMake x fm fs) := by
  obtain ⟨C, f, fd, hm, M, F, bd⟩ := cm
  obtain ⟨t, pt, gt⟩ := ha
  exact ⟨_, pe_makeG M F (hr.mono hj) gd tk hg hm bd pt hdb he hpl, good_make (g := ⟨X.K, X.mg⟩) gt hm fm⟩
end DL
namespace DL
open PySem PySem.Spec L2
open PyProof.Rows (sortedS risingS)
variable {g : G} {W : WX}

/-! ### sorted texts -/
theorem ltc_cons {a b : Nat} {r t : List Nat} : ltCps (a :: r) (b :: t) = false ↔ b ≤ a ∧ (a = b → ltCps r t = false) := by
  show (decide (a < b) || (a == b && ltCps r t)) = false ↔ _
  rw [Bool.or_eq_false_iff, Bool.and_eq_false_iff, decide_eq_false_iff_not]
  constructor
  · rintro ⟨h1, h2⟩
    refine ⟨by omega, fun e => ?_⟩
    rcases h2 with h | h
    · rw [e] at h; simp at h
    · exact h
  · rintro ⟨h1, h2⟩
    refine ⟨by omega, ?_⟩
    by_cases e : a = b
    · exact .inr (h2 e)
    · exact .inl (by simpa using e)
theorem ltc_irrefl : ∀ a : List Nat, ltCps a a = false
  | [] => rfl
  | a :: r => ltc_cons.mpr ⟨Nat.le_refl _, fun _ => ltc_irrefl r⟩
theorem ltc_trans : ∀ a b c : List Nat, ltCps b a = false → ltCps c b = false → ltCps c a = false
  | [], _, [], _, _ => rfl
  | [], [], _ :: _, _, _ => rfl
  | [], _ :: _, _ :: _, _, _ => rfl
  | a :: r, [], _, h, _ => by cases h
  | a :: r, b :: t, [], _, h => by cases h
  | a :: r, b :: t, c :: u, h1, h2 => by
    obtain ⟨p1, p2⟩ := ltc_cons.mp h1
    obtain ⟨q1, q2⟩ := ltc_cons.mp h2
    exact ltc_cons.mpr ⟨Nat.le_trans p1 q1, fun e => ltc_trans r t u (p2 (by omega)) (q2 (by omega))⟩
theorem ltc_anti : ∀ a b : List Nat, ltCps b a = false → ltCps a b = false → a = b
  | [], [], _, _ => rfl
  | [], _ :: _, _, h => by cases h
  | _ :: _, [], h, _ => by cases h
  | a :: r, b :: t, h1, h2 => by
    obtain ⟨p1, p2⟩ := ltc_cons.mp h1
    obtain ⟨q1, q2⟩ := ltc_cons.mp h2
    have e : a = b := Nat.le_antisymm p1 q1
    subst e
    rw [ltc_anti r t (p2 rfl) (q2 rfl)]
theorem ltc_total (a b : List Nat) : ltCps a b = false ∨ ltCps b a = false := by
  induction a generalizing b with
  | nil => cases b <;> simp [ltCps]
  | cons x r ih => cases b with
    | nil => simp [ltCps]
    | cons y t =>
      rcases Nat.lt_trichotomy x y with h | h | h
      · exact .inr (ltc_cons.mpr ⟨by omega, fun e => by omega⟩)
      · subst h
        rcases ih t with q | q
        · exact .inl (ltc_cons.mpr ⟨Nat.le_refl _, fun _ => q⟩)
        · exact .inr (ltc_cons.mpr ⟨Nat.le_refl _, fun _ => q⟩)
      · exact .inl (ltc_cons.mpr ⟨by omega, fun e => by omega⟩)
/-- x stands ahead of y or is y -/
def LeS (x y : Str) : Prop := ltCps y.cps.toList x.cps.toList = false
theorem rising_pw : ∀ (p : Str) (l : List Str), risingS p l = true → (p :: l).Pairwise LeS
  | p, [], _ => by simp
  | p, x :: r, h => by
    have h : (!ltCps x.cps.toList p.cps.toList && risingS x r) = true := h
    rw [Bool.and_eq_true, Bool.not_eq_true'] at h
    have ih := rising_pw x r h.2
    refine List.pairwise_cons.mpr ⟨fun y hy => ?_, ih⟩
    rcases List.mem_cons.mp hy with e | hy
    · subst e; exact h.1
    · exact ltc_trans _ _ _ h.1 ((List.pairwise_cons.mp ih).1 y hy)
theorem sorted_pw {l : List Str} (h : sortedS l = true) : l.Pairwise LeS := by
  cases l with
  | nil => simp
  | cons x r => exact rising_pw x r h
theorem sorted_uniq : ∀ {l m : List Str}, l.Pairwise LeS → m.Pairwise LeS → l.Perm m → l = m
  | [], m, _, _, p => (List.Perm.nil_eq p)
  | x :: r, [], _, _, p => by simpa using p.length_eq
  | x :: r, y :: t, h1, h2, p => by
    have hx : x ∈ y :: t := p.mem_iff.mp (by simp)
    have hy : y ∈ x :: r := p.mem_iff.mpr (by simp)
    have e : x = y := by
      rcases List.mem_cons.mp hx with e | hx
      · exact e
      · rcases List.mem_cons.mp hy with e | hy
        · exact e.symm
        · have a1 : LeS y x := (List.pairwise_cons.mp h2).1 x hx
          have a2 : LeS x y := (List.pairwise_cons.mp h1).1 y hy
          have := ltc_anti _ _ a2 a1
          cases x; cases y; congr 1; exact Array.toList_inj.mp this
    subst e
    rw [sorted_uniq (List.pairwise_cons.mp h1).2 (List.pairwise_cons.mp h2).2 (List.Perm.cons_inv p)]
def insS (x : Str) : List Str → List Str
  | [] => [x]
  | y :: r => if ltCps y.cps.toList x.cps.toList = true then y :: insS x r else x :: y :: r
def sortS : List Str → List Str
  | [] => []
  | x :: r => insS x (sortS r)
theorem insS_perm (x : Str) : ∀ l : List Str, (insS x l).Perm (x :: l)
  | [] => .refl _
  | y :: r => by
    unfold insS
    split
    · exact ((insS_perm x r).cons y).trans (List.Perm.swap x y r)
    · exact .refl _
theorem sortS_perm : ∀ l : List Str, (sortS l).Perm l
  | [] => .refl _
  | x :: r => (insS_perm x _).trans ((sortS_perm r).cons x)
theorem insS_pw {x : Str} : ∀ {l : List Str}, l.Pairwise LeS → (insS x l).Pairwise LeS
  | [], _ => by simp [insS]
  | y :: r, h => by
    unfold insS
    split
    · rename_i q
      refine List.pairwise_cons.mpr ⟨fun z hz => ?_, insS_pw (List.pairwise_cons.mp h).2⟩
      rcases List.mem_cons.mp ((insS_perm x r).mem_iff.mp hz) with e | hz
      · subst e
        rcases ltc_total z.cps.toList y.cps.toList with w | w
        · exact w
        · rw [q] at w; cases w
      · exact (List.pairwise_cons.mp h).1 z hz
    · rename_i q
      have q : LeS x y := by unfold LeS; simpa using q
      refine List.pairwise_cons.mpr ⟨fun z hz => ?_, h⟩
      rcases List.mem_cons.mp hz with e | hz
      · subst e; exact q
      · exact ltc_trans _ _ _ q ((List.pairwise_cons.mp h).1 z hz)
theorem sortS_pw : ∀ l : List Str, (sortS l).Pairwise LeS
  | [] => by simp [sortS]
  | x :: r => insS_pw (sortS_pw r)
theorem sortS_of {l m : List Str} (p : m.Perm l) (h : sortedS m = true) : m = sortS l := sorted_uniq (sorted_pw h) (sortS_pw l) (p.trans (sortS_perm l).symm)
/-! ### sorted ints -/
def insI (x : Int) : List Int → List Int
  | [] => [x]
  | y :: r => if y < x then y :: insI x r else x :: y :: r
def sortI : List Int → List Int
  | [] => []
  | x :: r => insI x (sortI r)
theorem insI_perm (x : Int) : ∀ l : List Int, (insI x l).Perm (x :: l)
  | [] => .refl _
  | y :: r => by
    unfold insI
    split
    · exact ((insI_perm x r).cons y).trans (List.Perm.swap x y r)
    · exact .refl _
theorem sortI_perm : ∀ l : List Int, (sortI l).Perm l
  | [] => .refl _
  | x :: r => (insI_perm x _).trans ((sortI_perm r).cons x)
theorem insI_pw {x : Int} : ∀ {l : List Int}, l.Pairwise (· ≤ ·) → (insI x l).Pairwise (· ≤ ·)
  | [], _ => by simp [insI]
  | y :: r, h => by
    unfold insI
    split
    · rename_i q
      refine List.pairwise_cons.mpr ⟨fun z hz => ?_, insI_pw (List.pairwise_cons.mp h).2⟩
      rcases List.mem_cons.mp ((insI_perm x r).mem_iff.mp hz) with e | hz
      · subst e; omega
      · exact (List.pairwise_cons.mp h).1 z hz
    · refine List.pairwise_cons.mpr ⟨fun z hz => ?_, h⟩
      rcases List.mem_cons.mp hz with e | hz
      · subst e; omega
      · have := (List.pairwise_cons.mp h).1 z hz; omega
theorem sortI_pw : ∀ l : List Int, (sortI l).Pairwise (· ≤ ·)
  | [] => by simp [sortI]
  | x :: r => insI_pw (sortI_pw r)
theorem sortI_uniq : ∀ {l m : List Int}, l.Pairwise (· ≤ ·) → m.Pairwise (· ≤ ·) → l.Perm m → l = m
  | [], m, _, _, p => (List.Perm.nil_eq p)
  | x :: r, [], _, _, p => by simpa using p.length_eq
  | x :: r, y :: t, h1, h2, p => by
    have hx : x ∈ y :: t := p.mem_iff.mp (by simp)
    have hy : y ∈ x :: r := p.mem_iff.mpr (by simp)
    have e : x = y := by
      rcases List.mem_cons.mp hx with e | hx
      · exact e
      · rcases List.mem_cons.mp hy with e | hy
        · exact e.symm
        · have a1 := (List.pairwise_cons.mp h2).1 x hx
          have a2 := (List.pairwise_cons.mp h1).1 y hy
          omega
    subst e
    rw [sortI_uniq (List.pairwise_cons.mp h1).2 (List.pairwise_cons.mp h2).2 (List.Perm.cons_inv p)]
theorem sortI_of {l m : List Int} (p : m.Perm l) (h : m.Pairwise (· ≤ ·)) : m = sortI l := sortI_uniq h (sortI_pw l) (p.trans (sortI_perm l).symm)
end DL
namespace PyProof.Rows
open PySem PySem.Spec
section
variable {prog : Program} {w : World} {A : Around} {E : Value → Shared → Prop} {s : Shared}
/-- the items of a tuple, in a new list -/
theorem collect_tupD {a : Addr} {us : List Value} {o : Obj} {k : Nat} {Q : List Value → Shared → Prop} (oa : s.heap.get? a = some o) (cls : o.cls = .type "tuple") (dat : o.data = .seq us.toArray k) (fits : us.length ≤ sizeLine)
    (q : Q us { s with heap := (s.heap.push (seqObj "list" #[] 0)).update s.heap.objs.size (Obj.mapSeq (· ++ us.toArray)) }) : wpAny (model prog w) A (collect (.ref a)) Q E s := by
  have there := Heap.get?_push_of_some (seqObj "list" #[] 0) oa
  have made := Heap.get?_push_size s.heap (o := seqObj "list" #[] 0) rfl
  unfold collect
  refine wpAny_bind (wpAny_runValue (codeAny_builtin entry_proto_collect' ?_))
  change wpAny _ _ (do again (.builtin "list.__iadd__" ⟨[← newList [], .ref a], []⟩)) _ _ s
  refine wpAny_bind (wpAny_newList (wpAny_pure ⟨Code.quiet_builtin _ (by decide +kernel), codeAny_builtin entry_list_iadd' ?_⟩))
  change wpAny _ _ (Builtin.List.listExtendWith (.ref s.heap.objs.size) (.ref a) (.ref s.heap.objs.size)) _ _ ⟨s.heap.push (seqObj "list" #[] 0), s.gens, s.drawn, s.toks, s.os⟩
  unfold Builtin.List.listExtendWith
  refine wpAny_bind (wpAny_typeOf (T := "tuple") ⟨o, there, cls⟩ ?_)
  rw [if_pos (by have z : (Value.type "tuple" == Value.type "tuple") = true := beq_self_eq_true _; rw [z]; simp)]
  refine wpAny_bind (listItems_at there dat (wpAny_bind (listItems_at (xs := #[]) (n := 0) made rfl ?_)))
  rw [if_neg (by simp)]
  refine wpAny_bind (listUpdate_at (xs := #[]) (n := 0) made rfl (wpAny_pure ?_) (Nat.zero_le _) (by simp; omega))
  have upd := get?_update_seq made (· ++ us.toArray)
  show wpAny (model prog w) A (load s.heap.objs.size >>= fun ob => match ob.data with
    | .seq xs _ => pure xs.toList
    | _ => unsupported "internal:collect") Q E _
  refine wpAny_bind (wpAny_load upd ?_)
  show wpAny _ _ (pure ((#[] : Array Value) ++ us.toArray).toList) Q E _
  have e : ((#[] : Array Value) ++ us.toArray).toList = us := by simp
  rw [e]
  exact wpAny_pure q
theorem sorted_tupD {κ : KeyKind} (hO : κ.OneLt) {a : Addr} {us : List Value} {o : Obj} {k : Nat} {Q : Value → Shared → Prop} (oa : s.heap.get? a = some o) (cls : o.cls = .type "tuple") (dat : o.data = .seq us.toArray k) (fits : us.length ≤ sizeLine)
    (h0 : KeysOf κ (pairsOf us)) (hkk : ∀ v₁ v₂ rest, us = v₁ :: v₂ :: rest → keyKind' (v₁ :: v₂ :: rest).toArray = pure oneType')
    (q : ∀ st : SortSt, (arrOf st).Perm (pairsOf us) → SortedToK κ (arrOf st) (pairsOf us).size → Q (.ref (s.heap.objs.size + 1)) { s with heap := sortedAll s.heap us ((arrOf st).map (·.2)) }) : wpAny (model prog w) A (call (.builtin "sorted") [.ref a]) Q E s := by
  refine Calls.call_function_entry kind_sorted plain_sorted entry_sorted (args_sorted1 _) ?_
  unfold Builtin.«sorted»
  refine wpAny_bind (m := checkCount "sorted" 1 1 _) (wpAny_pure (wpAny_bind (collect_tupD oa cls dat fits (wpAny_bind (wpAny_newList ?_)))))
  have sz : ((s.heap.push (seqObj "list" #[] 0)).update s.heap.objs.size (Obj.mapSeq (· ++ us.toArray))).objs.size = s.heap.objs.size + 1 := by rw [Heap.size_update, size_push']
  have at1 : (((s.heap.push (seqObj "list" #[] 0)).update s.heap.objs.size (Obj.mapSeq (· ++ us.toArray))).push (seqObj "list" us.toArray 0)).get? (s.heap.objs.size + 1) = some (seqObj "list" us.toArray 0) := sz ▸ Heap.get?_push_size _ rfl
  change wpAny _ _ _ _ _ ⟨((s.heap.push (seqObj "list" #[] 0)).update s.heap.objs.size (Obj.mapSeq (· ++ us.toArray))).push (seqObj "list" us.toArray 0), s.gens, s.drawn, s.toks, s.os⟩
  rw [sz]
  exact wpAny_bind (wpAny_holding (wpAny_call_entry slot_list_sort ⟨_, at1, rfl⟩ entry_list_sort (list_sort_treeKAny hO at1 h0 hkk fits fun st p1 p2 => ⟨_, rfl, wpAny_pure ⟨_, rfl, q st p1 p2⟩⟩) (args_list_sort _)))
theorem sorted_strsT {a : Addr} {us : List Value} {o : Obj} {k : Nat} {ss : List Str} {Q : Value → Shared → Prop} (oa : s.heap.get? a = some o) (cls : o.cls = .type "tuple") (dat : o.data = .seq us.toArray k) (fits : us.length ≤ sizeLine) (hS : StrsAre us ss)
    (q : ∀ (out : Array Value) (zs : List Str), StrsAre out.toList zs → zs.Perm ss → sortedS zs = true → Q (.ref (s.heap.objs.size + 1)) { s with heap := sortedAll s.heap us out }) : wpAny (model prog w) A (call (.builtin "sorted") [.ref a]) Q E s :=
  sorted_tupD strKind_oneLt oa cls dat fits hS.keysOf (fun v₁ v₂ rest e => keyKind_strs (e ▸ hS)) fun st p1 p2 => by
    obtain ⟨zs, z1, z2, z3⟩ := sorted_out_str hS p1 p2
    exact q _ zs z1 z2 z3
end
end PyProof.Rows

namespace DL
open PySem PySem.Spec L2
open PyProof.Rows (sortedS)
def rSortedW (K : PySem.W.Frag) : List V → Hp → VK → Prop := fun vs H Q => ∃ (a : Addr) (xs : List Str), vs = [V.ref a] ∧ (SqL K H a (xs.map V.str) ∨ SqT K H a (xs.map V.str)) ∧ ∀ (ys : List Str) (p : Addr), ys.Perm xs → sortedS ys = true → H p = none → Q (.ref p) (upd H p (.lst (ys.map V.str)))
theorem vals_strsD {ss : List Str} {us : List Value} (h : PyProof.Rows.StrsAre us ss) : Vals (ss.map V.str) us := by
  induction h with
  | nil => exact .nil
  | cons x t _ ih => exact .cons ⟨t, rfl⟩ ih
theorem strs_valsD : ∀ {ss : List Str} {us : List Value}, Vals (ss.map V.str) us → PyProof.Rows.StrsAre us ss
  | [], _, h => by cases h; exact .nil
  | x :: r, _, .cons h t => by
    obtain ⟨k, rfl⟩ := h
    exact .cons x k (strs_valsD t)
theorem cr_sortedW {X : Cx} : CallR X (.builtin "sorted") (rSortedW X.K) := by
  intro pins s σ H vs us Q I r h
  obtain ⟨a, ss, rfl, hs, q⟩ := h
  rw [Vals.ref1 r]
  have fin : ∀ (its : List Value), PyProof.Rows.StrsAre its ss → ss.length ≤ sizeLine → ∀ (out : Array Value) (zs : List Str), PyProof.Rows.StrsAre out.toList zs → zs.Perm ss → sortedS zs = true →
      EP X pins σ Q (.ref (s.heap.objs.size + 1)) { s with heap := PyProof.Rows.sortedAll s.heap its out } := fun its hi hz out zs h1 h2 h3 => by
    obtain ⟨ep, at_⟩ := PyProof.Rows.sortedAll_at s.heap its out
    have hl : (zs.map V.str).length ≤ sizeLine := by rw [List.length_map, h2.length_eq]; exact hz
    exact ⟨.ref _, upd H (s.heap.objs.size + 1) (.lst (zs.map V.str)), I.laid (t' := s.toks) (fun _ _ => PyProof.Rows.sortedAll_old) (Nat.le_succ _) ⟨hl, out.toList, ep, vals_strsD h1, at_⟩, rfl, q zs _ h2 h3 (I.hok.fresh (Nat.le_succ _))⟩
  rcases hs with hs | hs
  · obtain ⟨its, rv, hl, hz⟩ := I.list hs
    have hi := strs_valsD rv
    have len := rv.length
    rw [List.length_map] at hz len
    exact PyProof.Rows.sorted_strsAny hl.isList hi (by rw [← len]; exact hz) (fin its hi hz)
  · obtain ⟨its, rv, ⟨o, o1, o2, k, o3⟩, hz⟩ := I.tuple hs
    have hi := strs_valsD rv
    have len := rv.length
    rw [List.length_map] at hz len
    exact PyProof.Rows.sorted_strsT o1 o2 o3 (by rw [← len]; exact hz) hi (fin its hi hz)
end DL
namespace DL
open PySem PySem.Spec L2
variable {g : G} {W : WX}

/-! ### list(x), tuple(x), sorted(x) -/
def seqD : D → Option (List D)
  | .list ds => some ds
  | .tuple ds => some ds
  | .dict [(.bool true, .list ds)] => some ds
  | _ => none
theorem Pk.seq {F H : Hp} {v : V} {d : D} {ds : List D} (s : Sub F H) (h : Pk g F H v d) (e : seqD d = some ds) : ∃ a xs, v = .ref a ∧ (SqL g.K H a xs ∨ SqT g.K H a xs) ∧ DenL g F xs ds := by
  unfold seqD at e
  split at e
  · cases e; obtain ⟨a, xs, e1, e2, e3⟩ := h.lst s; exact ⟨a, xs, e1, .inl (.inl (.inl e2)), e3⟩
  · cases e; obtain ⟨a, xs, e1, e2, e3⟩ := h.tup s; exact ⟨a, xs, e1, .inr e2, e3⟩
  · cases e; obtain ⟨a, xs, e1, e2, e3⟩ := Pk.ro s h; exact ⟨a, xs, e1, .inl e2, e3⟩
  · cases e
def dListOf : List D → Option Rv
  | [d] => (seqD d).map fun ds => .new (.list ds)
  | _ => none
theorem good_listOf : GoodC g (fun xs H Q => ∃ p ys, xs = [.ref p] ∧ (SqL g.K H p ys ∨ SqT g.K H p ys) ∧ ∀ l, H l = none → Q (.ref l) (upd H l (.lst ys))) dListOf := by
  refine ⟨fun F H vs ds Q s h p => ?_, fun ds => ?_⟩
  · unfold dListOf at p
    split at p
    · rename_i d
      obtain ⟨v, rfl, hv⟩ := h.one
      cases q : seqD d with
      | none => rw [q] at p; exact p.elim
      | some es =>
        rw [q] at p
        obtain ⟨a, xs, e1, e2, e3⟩ := hv.seq s q
        exact ⟨a, xs, by rw [e1], e2, fun l hn => Post0.newL s p hn e3⟩
    · exact p.elim
  · unfold dListOf
    split
    · rename_i d; cases seqD d <;> first | exact NoSl.none | exact NoSl.new
    · exact NoSl.none
def dTupOf : List D → Option Rv
  | [.list ds] => some (.val (.tuple ds))
  | [.tuple ds] => some (.val (.tuple ds))
  | _ => none
theorem good_tupOf : GoodC g (fun xs H Q => ∃ p ys, xs = [.ref p] ∧ ((SqL g.K H p ys ∧ ∀ l, H l = none → Q (.ref l) (upd H l (.tup ys))) ∨ (SqT g.K H p ys ∧ Q (.ref p) H))) dTupOf := by
  refine ⟨fun F H vs ds Q s h p => ?_, fun ds => ?_⟩
  · unfold dTupOf at p
    split at p
    · obtain ⟨v, rfl, hv⟩ := h.one
      obtain ⟨a, xs, e1, e2, e3⟩ := hv.lst s
      exact ⟨a, xs, by rw [e1], .inl ⟨.inl (.inl e2), fun l hn => Post0.valT s p hn e3⟩⟩
    · obtain ⟨v, rfl, hv⟩ := h.one
      rcases hv with hv | ⟨b, e, w⟩
      · cases hv with
        | tup hq r => exact ⟨_, _, rfl, .inr ⟨s.sqT hq, p.val0 s (.tup hq r)⟩⟩
        | ro _ _ e => simp [roD] at e
        | ins _ _ _ _ e => simp [insD] at e
        | dctK _ _ _ _ e => cases e
        | dctT _ _ _ _ e => cases e
        | exc _ _ _ _ e => cases e
      · cases w with
        | dctK _ _ _ _ e => cases e
        | dctT _ _ _ _ e => cases e
        | ins _ _ _ _ e => cases e
    · exact p.elim
  · unfold dTupOf; split <;> first | exact NoSl.val | exact NoSl.none
def dSorted1 (ds : List D) : Option Rv := (asStrs ds).map fun ss => .new (.list ((sortS ss).map .str))
def dSorted : List D → Option Rv
  | [.list ds] => match asInts ds with
    | some ns => some (.new (.list ((sortI ns).map .int)))
    | none => dSorted1 ds
  | [.tuple ds] => dSorted1 ds
  | _ => none
abbrev rSortedX (K : PySem.W.Frag) : List V → Hp → VK → Prop := fun xs H Q => rSortedI K xs H Q ∨ rSortedW K xs H Q
theorem denL_strs {F : Hp} : ∀ {ss : List Str}, (∀ x ∈ ss, strOk x = true) → DenL g F (ss.map V.str) (ss.map PyData.str)
  | [], _ => .nil
  | x :: r, h => .cons (.str x (h x (by simp))) (denL_strs fun y hy => h y (List.mem_cons_of_mem _ hy))
theorem denL_int {F : Hp} : ∀ (ns : List Int), DenL g F (ns.map V.int) (ns.map PyData.int)
  | [] => .nil
  | n :: r => .cons (.int n) (denL_int r)
theorem sorted1 {F H : Hp} {v : V} {a : Addr} {xs : List V} {es : List D} {Q : VK} (s : Sub F H) (e1 : v = .ref a) (e2 : SqL g.K H a xs ∨ SqT g.K H a xs) (e3 : DenL g F xs es) (p : Post0 g F H Q (dSorted1 es)) : rSortedW g.K [v] H Q := by
  unfold dSorted1 at p
  cases q2 : asStrs es with
  | none => simp only [q2] at p; exact p.elim
  | some ss =>
    simp only [q2, Option.map_some] at p
    obtain ⟨w, ok⟩ := e3.strs q2
    subst w
    exact ⟨a, ss, by rw [e1], e2, fun ys b hp hs hn => by
      rw [sortS_of hp hs]
      exact Post0.newL s p hn (denL_strs fun x hx => ok x ((sortS_perm ss).mem_iff.mp hx))⟩
theorem nosl_sorted1 (ds : List D) : NoSl (dSorted1 ds) := by
  unfold dSorted1; cases asStrs ds <;> first | exact NoSl.none | exact NoSl.new
theorem good_sorted : GoodC g (rSortedX g.K) dSorted := by
  refine ⟨fun F H vs ds Q s h p => ?_, fun ds => ?_⟩
  · unfold dSorted at p
    split at p
    · rename_i es
      obtain ⟨v, rfl, hv⟩ := h.one
      obtain ⟨a, xs, e1, e2, e3⟩ := hv.lst s
      cases q : asInts es with
      | some ns =>
        simp only [q] at p
        have := e3.ints q
        subst this
        exact .inl ⟨a, ns, by rw [e1], .inl (.inl e2), fun ns' b hp hs hn => by rw [sortI_of hp hs]; exact Post0.newL s p hn (denL_int _)⟩
      | none =>
        simp only [q] at p
        exact .inr (sorted1 s e1 (.inl (.inl (.inl e2))) e3 p)
    · rename_i es
      obtain ⟨v, rfl, hv⟩ := h.one
      obtain ⟨a, xs, e1, e2, e3⟩ := hv.tup s
      exact .inr (sorted1 s e1 (.inr e2) e3 p)
    · exact p.elim
  · unfold dSorted
    split
    · split
      · exact NoSl.new
      · exact nosl_sorted1 _
    · exact nosl_sorted1 _
    · exact NoSl.none
section
variable {X : Cx} {p pos : Pos} {e : Expr} {f : ME}
theorem de_listOf (hm : X.mg "list" = none) (ha : DA X W [e] [f]) (hg : Gl X "list" := by rfl) (he : starEach [e] X.env = (false, eval e X.env) :: starEach [] X.env := by rfl) (hpl : (backTo pos (starEach [] X.env)).any (·.1) = false := by rfl) : DE X W (.Call (.Name "list" p) [e] [] pos) (mCallB dListOf [f]) :=
  de_callTy call_list_of good_listOf hg hm (by decide +kernel) ha (by decide) (by decide) he hpl
theorem de_tupOf (hm : X.mg "tuple" = none) (ha : DA X W [e] [f]) (hg : Gl X "tuple" := by rfl) (he : starEach [e] X.env = (false, eval e X.env) :: starEach [] X.env := by rfl) (hpl : (backTo pos (starEach [] X.env)).any (·.1) = false := by rfl) : DE X W (.Call (.Name "tuple" p) [e] [] pos) (mCallB dTupOf [f]) :=
  de_callTy call_tuple_of good_tupOf hg hm (by decide +kernel) ha (by decide) (by decide) he hpl
theorem de_sorted (hm : X.mg "sorted" = none) (ha : DA X W [e] [f]) (hg : Gl X "sorted" := by rfl) (he : starEach [e] X.env = (false, eval e X.env) :: starEach [] X.env := by rfl) (hpl : (backTo pos (starEach [] X.env)).any (·.1) = false := by rfl) : DE X W (.Call (.Name "sorted" p) [e] [] pos) (mCallB dSorted [f]) :=
  de_callB (CallR.or cr_sortedI cr_sortedW) good_sorted hg hm (by decide +kernel) ha (by decide) (by decide) he hpl
end

/-! ### methods of texts -/
def dSplit : D → List D → Option Rv
  | .str a, [.str b] => if (b.length == 0) = false ∧ a.length + 2 ≤ lineM ∧ (Txt.split a b).all strOk = true then some (.new (.list ((Txt.split a b).map .str))) else none
  | _, _ => none
theorem good_split {F H : Hp} {x : V} {vs : List V} {d : D} {ds : List D} {Q : VK} (s : Sub F H) (hx : Pk g F H x d) (h : Pks g F H vs ds) (p : Post0 g F H Q (dSplit d ds)) : ∃ a b, x = .str a ∧ vs = [.str b] ∧ (b.length == 0) = false ∧ a.length + 2 ≤ sizeLine ∧ rNewStrs (Txt.split a b) H Q := by
  unfold dSplit at p
  split at p
  · rename_i a b
    obtain ⟨v, rfl, hv⟩ := h.one
    split at p
    · rename_i c
      refine ⟨a, b, hx.str.1, by rw [hv.str.1], c.1, by rw [lineM_eq]; exact c.2.1, fun q hn => Post0.newL s p hn (denL_strs fun y hy => ?_)⟩
      exact List.all_eq_true.mp c.2.2 y hy
    · exact p.elim
  · exact p.elim
theorem nosl_split (d : D) (ds : List D) : NoSl (dSplit d ds) := by
  unfold dSplit
  split
  · split <;> first | exact NoSl.new | exact NoSl.none
  · exact NoSl.none
def dEnds : D → List D → Option Rv
  | .str a, [.str b] => some (.val (.bool (Txt.endswith a b)))
  | _, _ => none
theorem good_ends {F H : Hp} {x : V} {vs : List V} {d : D} {ds : List D} {Q : VK} (s : Sub F H) (hx : Pk g F H x d) (h : Pks g F H vs ds) (p : Post0 g F H Q (dEnds d ds)) : ∃ a b, x = .str a ∧ vs = [.str b] ∧ Q (.bl (Txt.endswith a b)) H := by
  unfold dEnds at p
  split at p
  · rename_i a b
    obtain ⟨v, rfl, hv⟩ := h.one
    exact ⟨a, b, hx.str.1, by rw [hv.str.1], p.val0 s (.bl _)⟩
  · exact p.elim
theorem nosl_ends (d : D) (ds : List D) : NoSl (dEnds d ds) := by
  unfold dEnds; split <;> first | exact NoSl.val | exact NoSl.none
section
variable {X : Cx} {o e : Expr} {apos cpos : Pos} {f h : ME}
theorem de_split (ho : DE X W o f) (ha : DE X W e h) (hs : starEach [e] X.env = (false, eval e X.env) :: starEach [] X.env := by rfl) (hbase : attributeBase o "split" X.env (eval o X.env) = eval o X.env := by rfl)
    (hfew : ((backTo cpos (starEach [e] X.env)).all (fun x => !x.1) && (backToKw cpos (keywordEach [] X.env)).all (fun x => x.1.isSome) && decide ([e].length + ([] : List Keyword).length + (if ([] : List Keyword).isEmpty then 0 else 1) < 30)) = true := by rfl)
    (hline : (apos.endLine == cpos.line) = true := by rfl) (hplain : (backTo cpos (starEach [] X.env)).any (·.1) = false := by rfl) : DE X W (.Call (.Attribute o "split" apos) [e] [] cpos) (mMeth dSplit isStrD f [h]) := by
  obtain ⟨t, pt, gt⟩ := ho
  obtain ⟨u, pu, gu⟩ := ha
  exact ⟨_, pe_bm PySem.F.plainAttrs_str PySem.F.slot_str_split PySem.F.type_str_split mt_split pt (pa_cons pu pa_nil hs) hbase hfew hline hs hplain, good_meth (T := "str") gt (.cons gu .nil) (fun F H x vs d ds Q s hx h p => good_split s hx h p) (fun F H x d s h e => ty_str s h e) nosl_split⟩
theorem de_ends (ho : DE X W o f) (ha : DE X W e h) (hs : starEach [e] X.env = (false, eval e X.env) :: starEach [] X.env := by rfl) (hbase : attributeBase o "endswith" X.env (eval o X.env) = eval o X.env := by rfl)
    (hfew : ((backTo cpos (starEach [e] X.env)).all (fun x => !x.1) && (backToKw cpos (keywordEach [] X.env)).all (fun x => x.1.isSome) && decide ([e].length + ([] : List Keyword).length + (if ([] : List Keyword).isEmpty then 0 else 1) < 30)) = true := by rfl)
    (hline : (apos.endLine == cpos.line) = true := by rfl) (hplain : (backTo cpos (starEach [] X.env)).any (·.1) = false := by rfl) : DE X W (.Call (.Attribute o "endswith" apos) [e] [] cpos) (mMeth dEnds isStrD f [h]) := by
  obtain ⟨t, pt, gt⟩ := ho
  obtain ⟨u, pu, gu⟩ := ha
  exact ⟨_, pe_bm PySem.F.plainAttrs_str PySem.F.slot_str_endswith PySem.F.type_str_endswith mt_endswith pt (pa_cons pu pa_nil hs) hbase hfew hline hs hplain, good_meth (T := "str") gt (.cons gu .nil) (fun F H x vs d ds Q s hx h p => good_ends s hx h p) (fun F H x d s h e => ty_str s h e) nosl_ends⟩
end
/-! ### [*a, b] -/
inductive AllS (g : G) (W : WX) : TA → List (Bool × ME) → Prop
  | nil : AllS g W tNil []
  | one {t : TE} {tr : TA} {f : ME} {fs : List (Bool × ME)} : GoodE g W t f → AllS g W tr fs → AllS g W (tCons t tr) ((false, f) :: fs)
  | star {t : TE} {tr : TA} {f : ME} {fs : List (Bool × ME)} : GoodE g W t f → AllS g W tr fs → AllS g W (StX.tStar g.K t tr) ((true, f) :: fs)
structure DAS (X : Cx) (W : WX) (es : List Expr) (fs : List (Bool × ME)) : Prop where
  ex : ∃ t, PA X es t ∧ AllS ⟨X.K, X.mg⟩ W t fs
theorem das_nil {X : Cx} : DAS X W [] [] := ⟨_, pa_nil, .nil⟩
theorem das_star {X : Cx} {e : Expr} {es : List Expr} {pos : Pos} {f : ME} {fs : List (Bool × ME)} (h : DE X W e f) (hr : DAS X W es fs) (hs : starEach (.Starred e pos :: es) X.env = (true, eval e X.env) :: starEach es X.env := by rfl) : DAS X W (.Starred e pos :: es) ((true, f) :: fs) := by
  obtain ⟨t, p, q⟩ := h
  obtain ⟨tr, pr, qr⟩ := hr
  exact ⟨_, StX.pa_star p pr hs, .star q qr⟩
theorem das_one {X : Cx} {e : Expr} {es : List Expr} {f : ME} {fs : List (Bool × ME)} (h : DE X W e f) (hr : DAS X W es fs) (hs : starEach (e :: es) X.env = (false, eval e X.env) :: starEach es X.env := by rfl) : DAS X W (e :: es) ((false, f) :: fs) := by
  obtain ⟨t, p, q⟩ := h
  obtain ⟨tr, pr, qr⟩ := hr
  exact ⟨_, pa_cons p pr hs, .one q qr⟩
def evSs : List (Bool × ME) → Env → Res (List D × Env)
  | [], env => .ok ([], env)
  | (b, f) :: fs, env => f env >>= fun z => z.1.frz z.2 >>= fun y => if b = true then (match seqD y.1 with
      | some ds => evSs fs y.2 >>= fun x => .ok (ds ++ x.1, x.2)
      | none => .stuck) else evSs fs y.2 >>= fun x => .ok (y.1 :: x.1, x.2)
theorem AllS.ds {t : TA} {fs : List (Bool × ME)} (h : AllS g W t fs) : Good (RDs g) g W t (evSs fs) := by
  induction h with
  | nil => exact fun F H σ env Q k p => p F H [] .refl k .refl .nil
  | @one t tr f fs hf hr ih =>
    intro F H σ env Q k p
    refine hf F H σ env _ k (Post.bindF RDs.early (k := fun y => evSs fs y.2 >>= fun x => .ok (y.1 :: x.1, x.2)) p fun d e2 F2 H1 v x2 k2 kp2 hd p2 => ?_)
    refine ih F2 H1 σ e2 _ k2 (Post.bind RDs.early p2 fun ds e3 F3 H3 vs x3 k3 kp3 hds p3 => ?_)
    exact p3 F3 H3 (v :: vs) .refl k3 .refl (.cons (hd.mono x3.sub) hds)
  | @star t tr f fs hf hr ih =>
    intro F H σ env Q k p
    refine hf F H σ env _ k (Post.bindF RDs.early (k := fun y => match seqD y.1 with
      | some ds => evSs fs y.2 >>= fun x => .ok (ds ++ x.1, x.2)
      | none => .stuck) p fun d e2 F2 H1 v x2 k2 kp2 hd p2 => ?_)
    cases q : seqD d with
    | none => simp only [q] at p2; exact p2.elim
    | some ds =>
      simp only [q] at p2
      obtain ⟨a, xs, e1, hq, hden⟩ := Pk.seq (g := g) (F := F2) (H := H1) k2.sub (.inl hd) q
      refine ⟨a, xs, e1, hq.symm, ?_⟩
      refine ih F2 H1 σ e2 _ k2 (Post.bind RDs.early p2 fun es e3 F3 H3 vs x3 k3 kp3 hds p3 => ?_)
      exact p3 F3 H3 (xs ++ vs) .refl k3 .refl ((hden.mono x3.sub).append hds)
def mListS (fs : List (Bool × ME)) : ME := fun env => evSs fs env >>= fun z => if z.1.length ≤ lineM then .ok (.new (.list z.1), z.2) else .stuck
theorem good_lstS {t : TA} {fs : List (Bool × ME)} (h : AllS g W t fs) : GoodE g W (tLst t) (mListS fs) := fun F H σ env Q k p => by
  refine h.ds F H σ env _ k (Post.bind RE.early p fun ds e1 F1 H1 vs x1 k1 kp1 hds p1 => ?_)
  have hds : DenL g F1 vs ds := hds
  by_cases z : ds.length ≤ lineM
  · simp only [z, if_true] at p1
    exact ⟨by rw [hds.length, lineM_eq]; exact z, fun a hn => Post0.newL k1.sub (post0_of (o := some (.new (.list ds))) k1 p1 NoSl.new) hn hds⟩
  · simp only [z, if_false] at p1; exact p1.elim
theorem de_listS {X : Cx} {es : List Expr} {pos : Pos} {fs : List (Bool × ME)} (h : DAS X W es fs) : DE X W (.List es pos) (mListS fs) := by
  obtain ⟨t, pt, gt⟩ := h
  exact ⟨_, pe_lst pt, good_lstS gt⟩
end DL
namespace DL
open PySem PySem.Spec L2
variable {g : G} {W : WX}

/-! ### pop -/
def mPop (j : Nat) : ME := fun env => match ownL env j with
  | some (k, ds) => match ds[ds.length - 1]? with
    | some d => .ok (.val d, env.set j (.ow k (.list ds.dropLast)))
    | none => .stuck
  | none => .stuck
theorem DenL.dropLast {F : Hp} {vs : List V} {ds : List D} (h : DenL g F vs ds) : DenL g F vs.dropLast ds.dropLast := by
  rw [List.dropLast_eq_take, List.dropLast_eq_take, h.length]; exact h.take _
theorem good_pop {j : Nat} : GoodE g W (tBM0 g.K "list" rPop (tVar j)) (mPop j) := fun F H σ env Q k p => by
  unfold mPop at p
  cases ho : ownL env j with
  | none => simp only [ho] at p; exact p.elim
  | some w =>
    obtain ⟨kd, ds⟩ := w
    simp only [ho] at p
    obtain ⟨a, xs, s1, ha, hd⟩ := k.ownL ho
    cases q : ds[ds.length - 1]? with
    | none => simp only [q] at p; exact p.elim
    | some d =>
      simp only [q] at p
      obtain ⟨y, y1, y2⟩ := hd.get q
      obtain ⟨he, hk⟩ := ownL_ok ho
      have dw : OwnAt g F (upd H a (.lst xs.dropLast)) a (.list ds.dropLast) := .lst upd_same hd.dropLast
      obtain ⟨z1, z2, z3⟩ := k.change he s1 hk dw
      exact ⟨_, s1, .inl ⟨rfl, xs, .inl (.inl ha)⟩, a, xs, y, rfl, rfl, ha, by rw [hd.length]; exact y1, p F _ y z1 z2 z3 y2⟩
theorem de_pop {X : Cx} {j : Nat} {x : Str} {np apos cpos : Pos} (hN : X.N[j]? = some x) (hv : Vis X.env.scope x) (hbase : attributeBase (.Name x np) "pop" X.env (eval (.Name x np) X.env) = eval (.Name x np) X.env := by rfl) (hline : (apos.endLine == cpos.line) = true := by rfl)
    (hd : (x == ("__debug__" : Str)) = false := by decide) (hcd : (x == ("__classdict__" : Str)) = false := by decide) : DE X W (.Call (.Attribute (.Name x np) "pop" apos) [] [] cpos) (mPop j) :=
  ⟨_, pe_bm0 PySem.F.plainAttrs_list PySem.F.slot_list_pop PySem.F.type_list_pop mt_pop (pe_var hN hv hd hcd) hbase hline, good_pop⟩
/-- at a place -/
def mPopAt (j : Nat) (f : ME) : ME := fun env => if (ownL env j).isSome = true then f env >>= fun z => z.1.data z.2 >>= fun di => match ownL z.2 j, di with
    | some (k, ds), .int i => if 0 ≤ i ∧ i < 2 ^ 62 then match ds[i.toNat]? with
      | some d => .ok (.val d, z.2.set j (.ow k (.list (ds.eraseIdx i.toNat))))
      | none => .stuck else .stuck
    | _, _ => .stuck else .stuck
theorem DenL.eraseIdx {F : Hp} : ∀ {vs : List V} {ds : List D} (n : Nat), DenL g F vs ds → DenL g F (vs.eraseIdx n) (ds.eraseIdx n)
  | _, _, _, .nil => by simpa using DenL.nil
  | _, _, 0, .cons _ r => by simpa using r
  | _, _, n + 1, .cons h r => by simpa using DenL.cons h (DenL.eraseIdx n r)
theorem good_popAt {t : TE} {j : Nat} {f : ME} (h : GoodE g W t f) : GoodE g W (tBM g.K "list" rPopAt (tVar j) (tCons t tNil)) (mPopAt j f) := fun F H σ env Q k p => by
  unfold mPopAt at p
  by_cases hs : (ownL env j).isSome = true
  · rw [if_pos hs] at p
    obtain ⟨⟨kd0, ds0⟩, ho⟩ := Option.isSome_iff_exists.mp hs
    obtain ⟨a, xs, s1, ha, _⟩ := k.ownL ho
    refine ⟨_, s1, .inl ⟨rfl, xs, .inl (.inl ha)⟩, ?_⟩
    refine h F H σ env _ k (Post.since (R' := RE g) .refl .refl p fun r e2 F2 H2 x x2 k2 kp2 rv p2 => ?_)
    rcases data_cases r e2 with ⟨di, q⟩ | q
    · simp only [q, Res.ok_bind] at p2
      have pk := RvOk.pk rv k2 q
      cases ho2 : ownL e2 j with
      | none => simp only [ho2] at p2; exact p2.elim
      | some w =>
        obtain ⟨kd, ds⟩ := w
        cases di with
        | int i =>
          simp only [ho2] at p2
          split at p2
          · rename_i c
            cases q2 : ds[i.toNat]? with
            | none => simp only [q2] at p2; exact p2.elim
            | some d =>
              simp only [q2] at p2
              obtain ⟨b, ys, s2, hb, hd⟩ := k2.ownL ho2
              rw [s1] at s2; cases s2
              obtain ⟨y, y1, y2⟩ := hd.get q2
              obtain ⟨he, hk⟩ := ownL_ok ho2
              have dw : OwnAt g F2 (upd H2 a (.lst (ys.eraseIdx i.toNat))) a (.list (ds.eraseIdx i.toNat)) := .lst upd_same (hd.eraseIdx _)
              obtain ⟨z1, z2, z3⟩ := k2.change he s1 hk dw
              have lt := lt_of_get y1
              have sq : seqIndex? i ys.length = some i.toNat := by
                have : ixN ys.length i = some i.toNat := by unfold ixN; rw [if_pos c.1, if_pos (by omega)]
                exact (ixN_seq this).1
              exact ⟨a, ys, i, i.toNat, y, rfl, by rw [pk.int], hb, by have := c.1; omega, by have := c.2; omega, sq, y1, p2 F2 _ y (x2.trans z1) z2 (kp2.trans z3) y2⟩
          · exact p2.elim
        | _ => simp only [ho2] at p2; exact p2.elim
    · simp only [q, Res.stuck_bind] at p2; exact p2.elim
  · rw [if_neg hs] at p; exact p.elim
section
variable {X : Cx} {j : Nat} {x : Str} {e : Expr} {np apos cpos pos : Pos} {f : ME}
theorem de_popAt (hN : X.N[j]? = some x) (hv : Vis X.env.scope x) (ha : DE X W e f) (hs : starEach [e] X.env = (false, eval e X.env) :: starEach [] X.env := by rfl) (hbase : attributeBase (.Name x np) "pop" X.env (eval (.Name x np) X.env) = eval (.Name x np) X.env := by rfl)
    (hfew : ((backTo cpos (starEach [e] X.env)).all (fun x => !x.1) && (backToKw cpos (keywordEach [] X.env)).all (fun x => x.1.isSome) && decide ([e].length + ([] : List Keyword).length + (if ([] : List Keyword).isEmpty then 0 else 1) < 30)) = true := by rfl)
    (hline : (apos.endLine == cpos.line) = true := by rfl) (hplain : (backTo cpos (starEach [] X.env)).any (·.1) = false := by rfl)
    (hd : (x == ("__debug__" : Str)) = false := by decide) (hcd : (x == ("__classdict__" : Str)) = false := by decide) : DE X W (.Call (.Attribute (.Name x np) "pop" apos) [e] [] cpos) (mPopAt j f) := by
  obtain ⟨t, pt, gt⟩ := ha
  exact ⟨_, pe_bm PySem.F.plainAttrs_list PySem.F.slot_list_pop PySem.F.type_list_pop mt_popAt (pe_var hN hv hd hcd) (pa_cons pt pa_nil hs) hbase hfew hline hs hplain, good_popAt gt⟩
end
/-! ### extend -/
def mExtend (j : Nat) (f : ME) : MS := fun env => if (ownL env j).isSome = true then f env >>= fun z => z.1.frz z.2 >>= fun y => match ownL y.2 j, y.1 with
    | some (k, ds), .list es => if ds.length + es.length ≤ lineM then .ok (.nx, y.2.set j (.ow k (.list (ds ++ es)))) else .stuck
    | _, _ => .stuck else .stuck
theorem good_extend {t : TE} {j : Nat} {f : ME} (h : GoodE g W t f) : GoodS g W (tDrop (tBM g.K "list" rExtend (tVar j) (tCons t tNil))) (mExtend j f) := fun F H σ env Dn k p => by
  unfold mExtend at p
  by_cases hs : (ownL env j).isSome = true
  · rw [if_pos hs] at p
    obtain ⟨⟨kd, ds⟩, ho⟩ := Option.isSome_iff_exists.mp hs
    obtain ⟨a, xs, s1, ha, _⟩ := k.ownL ho
    refine ⟨_, s1, .inl ⟨rfl, xs, .inl (.inl ha)⟩, ?_⟩
    refine h F H σ env _ k (PostS.bindF p fun d e2 F2 H2 v x2 k2 kp2 hd p2 => ?_)
    cases ho2 : ownL e2 j with
    | none => simp only [ho2] at p2; exact p2.elim
    | some w =>
      obtain ⟨kd2, ds2⟩ := w
      cases d with
      | list es =>
        simp only [ho2] at p2
        split at p2
        · rename_i hl
          obtain ⟨b, ys, s2, hb, db⟩ := k2.ownL ho2
          rw [s1] at s2; cases s2
          obtain ⟨he, hk⟩ := ownL_ok ho2
          obtain ⟨c, zs, e1, e3, e4⟩ := Pk.lst (g := g) (F := F2) (H := H2) k2.sub (.inl hd)
          have dw : OwnAt g F2 (upd H2 a (.lst (ys ++ zs))) a (.list (ds2 ++ es)) := .lst upd_same (db.append e4)
          obtain ⟨y1, y2, y3⟩ := k2.change he s1 hk dw
          exact ⟨a, c, ys, zs, rfl, by rw [e1], hb, e3, by rw [db.length, e4.length, lineM_eq]; exact hl, p2 F2 _ σ y1 y2 y3⟩
        · exact p2.elim
      | _ => simp only [ho2] at p2; exact p2.elim
  · rw [if_neg hs] at p; exact p.elim
section
variable {X : Cx} {j : Nat} {x : Str} {e : Expr} {np apos cpos pos : Pos} {f : ME}
theorem ds_extend (hN : X.N[j]? = some x) (hv : Vis X.env.scope x) (ha : DE X W e f) (hs : starEach [e] X.env = (false, eval e X.env) :: starEach [] X.env := by rfl) (hbase : attributeBase (.Name x np) "extend" X.env (eval (.Name x np) X.env) = eval (.Name x np) X.env := by rfl)
    (hfew : ((backTo cpos (starEach [e] X.env)).all (fun x => !x.1) && (backToKw cpos (keywordEach [] X.env)).all (fun x => x.1.isSome) && decide ([e].length + ([] : List Keyword).length + (if ([] : List Keyword).isEmpty then 0 else 1) < 30)) = true := by rfl)
    (hline : (apos.endLine == cpos.line) = true := by rfl) (hplain : (backTo cpos (starEach [] X.env)).any (·.1) = false := by rfl) (hsw : swapsWith (.Call (.Attribute (.Name x np) "extend" apos) [e] [] cpos) none pos.line X.env = pure false := by rfl)
    (hd : (x == ("__debug__" : Str)) = false := by decide) (hcd : (x == ("__classdict__" : Str)) = false := by decide) : DS X W (.Expr (.Call (.Attribute (.Name x np) "extend" apos) [e] [] cpos) pos) (mExtend j f) := by
  obtain ⟨t, pt, gt⟩ := ha
  exact ⟨_, ps_expr (pe_bm PySem.F.plainAttrs_list PySem.F.slot_list_extend PySem.F.type_list_extend mt_extend (pe_var hN hv hd hcd) (pa_cons pt pa_nil hs) hbase hfew hline hs hplain) hsw, good_extend gt⟩
end
end DL
namespace DL
open PySem PySem.Spec L2

/-- what a law's mirror is to give -/
def Holds (fm : FM) (n : Nat) : Prop := ∀ ns : List Int, ns.length ≤ n → ∃ e, fm [.fz (roD (ns.map .int))] = .ok (.val (.bool true), e)
theorem denL_ints {g : G} {F : Hp} : ∀ ns : List Int, DenL g F (ns.map V.int) (ns.map PyData.int)
  | [] => .nil
  | n :: r => .cons (.int n) (denL_ints r)
theorem law_sp {g : G} {fm : FM} {n : Nat} (h : Holds fm n) {H : Hp} {a : Addr} {ns : List Int} (hl : ns.length ≤ n) (hS : SqL g.K H a (ns.map V.int)) : fnSp g fm [.ref a] H (fun v _ => v = .bl true) fun _ _ _ => False := by
  obtain ⟨e, he⟩ := h ns hl
  obtain ⟨ke, no⟩ := fz_env (g := g) (F := H) (H := H) (vs := [.ref a]) (ds := [roD (ns.map .int)]) .refl (.cons (.ro hS (denL_ints ns) rfl) .nil)
  refine ⟨H, _, ke, ?_⟩
  have he' : fm (List.map Sl.fz [roD (ns.map .int)]) = .ok (.val (.bool true), e) := he
  rw [he']
  intro F' H' v x k' kp rv
  have rv : Den g F' v (.bool true) := rv
  exact Pk.bl (g := g) (F := F') (H := F') (.inl rv)

section
variable {P : Program} {w : World} {K : PySem.W.Frag} {mg mb : Str → Option Value} {k : Nat} {fa a : Addr} {fd : FuncData} {x : Str} {fm : FM} {s₁ : Shared} {vs : List Value} {ns : List Int} {n : Nat}
/-- the law's def is called with the script, known to H -/
theorem end_at {H : Hp} (F : FnG P w K mg (hidT s₁.heap H) k fa fd [x] fm) (hbd : ∀ (s : Shared) (u : Value), BindsTo s fd ⟨[u], []⟩ [(x, u)]) (hr : Room k callerA) (h : Holds fm n) (hl : ns.length ≤ n) (hO : Only H) (hS : SqL K H a (ns.map V.int))
    (hM : Mod K mg (hidT s₁.heap H)) (hok : HOk P w H s₁.heap) (hg : s₁.gens = #[]) :
    codeAny (model P w) callerA (.call (.ref fa) ⟨[.ref a], []⟩) (fun r s' => r = .ok (.ret (.bool true)) ∧ PySem.OldK s₁.heap s'.heap ∧ s'.os = s₁.os ∧ PyProof.Rows.AllBare s'.gens) s₁ := by
  have none_in : ∀ b : Addr, b ∉ frs ([] : List PySem.Env) := fun b z => by cases z
  have e0 : Env0 P w K mg (hidT s₁.heap H) callerA [] s₁ H :=
    { frames := rfl, mod := hM, bs := fun b o e => of_hidT e, bsz := Nat.le_of_eq (hidT_size _ _), funs := trivial, frf := fun b hb => absurd hb (none_in b), hok := hok, bare := .of_eq hg }
  have go := F.run callerA [] s₁ H ⟨[.ref a], []⟩ [.ref a] [.ref a] _ _ hr rfl e0 (hbd s₁ (.ref a)) (.cons rfl .nil) (law_sp (g := ⟨K, mg⟩) h hl hS)
  refine codeAny_mono go fun r s' q => ?_
  match r, q with
  | .error e, q =>
    obtain ⟨_, _, _, _, _, _, _, _, _, _, _, _, _, z⟩ := q
  | .ok .next, q => exact q.elim
  | .ok .brk, q => exact q.elim
  | .ok .cont, q => exact q.elim
  | .ok (.ret u), q =>
    obtain ⟨v, H', os, bare, un, ok', rv, ev⟩ := q
    have ev : v = .bl true := ev
    subst ev
    have eu : u = Value.bool true := rv
    subst eu
    refine ⟨rfl, PySem.OldK.of_keep fun b o e => ?_, os, bare⟩
    by_cases hb : H b = none
    · exact un.keep b o e hb (none_in b) (by simp)
    · rcases hO b with z | ⟨ob, xs, z⟩
      · exact absurd z hb
      · have e1 : s₁.heap.get? b = some ob := (hok b _ z).1
        have e2 : s'.heap.get? b = some ob := (ok' b _ (un.frzs b ob _ z)).1
        rw [e] at e1
        rw [e2, e1]
end
end DL
namespace DL
open PySem PySem.Spec L2

/-- one object is tracked, known -/
def oneH (a : Addr) (o : Obj) (u : HO) : Hp := fun b => bif b == a then some u else none
theorem oneH_at {a : Addr} {o : Obj} {u : HO} : oneH a o u a = some u := by show (bif a == a then _ else _) = _; rw [beq_self_eq_true]; rfl
theorem oneH_ne {a b : Addr} {o : Obj} {u : HO} (h : b ≠ a) : oneH a o u b = none := by show (bif b == a then _ else _) = _; rw [beq_false_of_ne h]; rfl

section
variable {P : Program} {w : World} {K : PySem.W.Frag} {mg mb : Str → Option Value} {k : Nat} {fa a : Addr} {fd : FuncData} {x : Str} {fm : FM} {s₁ : Shared} {vs : List Value} {ns : List Int} {n : Nat}

theorem mod_of {H : Hp} {h : Heap} (hid : ∀ b o, h.get? b = some o → (∀ its m, o.data ≠ .seq its m) → H b = none) (KX : ∀ b o, K.lookup b = some o → h.get? b = some o ∧ H b = none)
    (hns : h.Ns mainGlobals mg) (hb : h.Ns builtinsNs mb) (hbb : ∀ x : Str, x ≠ "__name__" → mb x = bootBuiltins x) (hlim : h.NoLimit) : Mod K mg (hidT h H) := by
  have cv : ∀ {b : Addr} {m : Str → Option Value}, h.Ns b m → (hidT h H).Ns b m := by
    intro b m q
    obtain ⟨o, es, ep, e, d, r⟩ := q
    exact ⟨o, es, ep, hidT_get e (hid b o e fun its j z => by rw [d] at z; cases z), d, r⟩
  refine { kin := fun b o e => ?_, glob := cv hns, blt := ⟨mb, cv hb, hbb⟩, nolimit := ?_ }
  · exact hidT_get (KX b o e).1 (KX b o e).2
  · obtain ⟨mc, p, q⟩ := hlim
    exact ⟨mc, cv p, q⟩

theorem end_call (KX : K.In s₁.heap) (hns : s₁.heap.Ns mainGlobals mg) (hb : s₁.heap.Ns builtinsNs mb) (hbb : ∀ x : Str, x ≠ "__name__" → mb x = bootBuiltins x) (hlim : s₁.heap.NoLimit) (hg : s₁.gens = #[])
    (ha : s₁.heap.get? a = some { cls := .type "list", data := .seq vs.toArray }) (hi : PyProof.Rows.IntsAre vs ns) (hl : ns.length ≤ n) (hn : n ≤ sizeLine) (hr : Room k callerA)
    (F : ∀ base : Heap, K.In base → base.Ns mainGlobals mg → FnG P w K mg base k fa fd [x] fm) (hbd : ∀ (s : Shared) (u : Value), BindsTo s fd ⟨[u], []⟩ [(x, u)]) (h : Holds fm n) :
    codeAny (model P w) callerA (.call (.ref fa) ⟨[.ref a], []⟩) (fun r s' => r = .ok (.ret (.bool true)) ∧ PySem.OldK s₁.heap s'.heap ∧ s'.os = s₁.os ∧ PyProof.Rows.AllBare s'.gens) s₁ := by
  have hv := vals_ints hi
  have hsz : (ns.map V.int).length ≤ sizeLine := by rw [List.length_map]; exact Nat.le_trans hl hn
  have hvz : vs.toArray.size ≤ sizeLine := by rw [List.size_toArray, hi.length]; exact Nat.le_trans hl hn
  by_cases hk : K.lookup a = none
  · have hM := mod_of (H := oneH a { cls := .type "list", data := .seq vs.toArray } (.frz { cls := .type "list", data := .seq vs.toArray } (.lst (ns.map V.int)))) (h := s₁.heap) (K := K) (mg := mg)
      (fun b o e hd => by
        by_cases z : b = a
        · rw [z, ha] at e; cases e; exact absurd rfl (hd _ _)
        · exact oneH_ne z)
      (fun b o e => ⟨KX b o e, oneH_ne fun z => by rw [z, hk] at e; cases e⟩) hns hb hbb hlim
    refine end_at (F _ hM.kin hM.glob) hbd hr h hl (fun b => ?_) (.inl (.inr ⟨_, oneH_at⟩)) hM (fun b u e => ?_) hg
    · by_cases z : b = a
      · rw [z]; exact .inr ⟨_, _, oneH_at⟩
      · exact .inl (oneH_ne z)
    · by_cases z : b = a
      · rw [z, oneH_at] at e
        cases e
        rw [z]
        exact ⟨ha, hsz, vs, _, hv, ha⟩
      · rw [oneH_ne z] at e; cases e
  · obtain ⟨o, e⟩ := Option.ne_none_iff_exists'.mp hk
    have e2 := KX a o e
    rw [ha] at e2
    cases e2
    have hM := mod_of (H := fun _ => none) (h := s₁.heap) (K := K) (mg := mg) (fun _ _ _ _ => rfl) (fun b o q => ⟨KX b o q, rfl⟩) hns hb hbb hlim
    exact end_at (F _ hM.kin hM.glob) hbd hr h hl (fun b => .inl rfl) (.inr ⟨_, _, _, e, rfl, rfl, rfl, hvz, hv⟩) hM (fun b u q => by cases q) hg
end

/-- the goal that k_head leaves -/
theorem walk_g {l : PySem.W.OpenLaw} {n k : Nat} {q : Program} {loose : List Str} {XP : (Str → Option Value) → Heap → Prop} {YP : World → Heap → Prop} {d : DefRec} {K : Params → PySem.W.Frag} {fm : FM} {x : Str}
    (hn : l.most = some n) (hn2 : n ≤ sizeLine) (hdf : d.params.defaults = []) (hr : Room k callerA) (hY : ∀ (w : World) (h : Heap), YP w h → (K w.params).In h)
    (F : ∀ (w : World) (mg : Str → Option Value) (fa : Addr) (h : Heap), (K w.params).In h → h.Ns mainGlobals mg → mg d.name = some (.ref fa) →
      ∃ fd : FuncData, (∀ (s : Shared) (u : Value), BindsTo s fd ⟨[u], []⟩ [(x, u)]) ∧ ∀ base : Heap, (K w.params).In base → base.Ns mainGlobals mg → FnG l.prog w (K w.params) mg base k fa fd [x] fm)
    (h : Holds fm n) : PySem.W.WalkO q loose XP YP l.row.toRowW d [] (fun f vs => PySem.call f vs) := by
  apply Att.attach_call hn hdf
  intro w s₀ s₁ mg mb fa o pm cd doc a vs ns G Y ho hd hcd hmg hobj hints hlen hg
  obtain ⟨fd, hb, go⟩ := F w mg fa _ (hY w _ Y) G.T.g hmg
  exact end_call (hY w _ Y) G.T.g G.T.b G.T.builtins G.T.nolimit hg hobj hints hlen hn2 hr go hb h
end DL
namespace DL
open PySem PySem.Spec L2
open PySem.Froz
open PyProof.Rows (sortedS StrsAre)

/-! ### sets of texts -/
/-- an empty set, as it is made -/
abbrev set0 (w : World) : Obj := { cls := .type "set", dict := none, data := .set #[] 0 (.fresh 0 0 (!w.params.followText "set-order")) }
def keyT (e : Int × Value) : Str := match e.2 with
  | .str k _ => k
  | _ => Str.empty
/-- the set at a holds the texts l -/
structure SetT (P : Program) (w : World) (h : Heap) (a : Addr) (l : List Str) : Prop where
  ex : ∃ D : SD, h.get? a = some (sObj "set" D) ∧ TxOk P w D l ∧ (D.1.toList.map keyT).Perm l ∧ (∀ e ∈ D.1.toList, ∃ k u, e.2 = Value.str k u) ∧ Ris D.2.2.place.toList ∧ (w.params.followText "set-order" = true ∨ D.2.2.led = true)
theorem tail_perm (ep : Nat) (es : Array (Int × Value)) (t : SetTable) (b : Bool) : (tailTx ep es t b).1.toList.Perm es.toList := by
  unfold tailTx
  split
  · exact relayAll_perm _ _ _
  · exact .refl _
theorem tail_ris (ep : Nat) (es : Array (Int × Value)) (t : SetTable) (b : Bool) (r : Ris t.place.toList) : Ris (tailTx ep es t b).2.2.place.toList := by
  unfold tailTx
  split
  · exact relayAll_ris _ _ _
  · exact r
theorem tail_led (ep : Nat) (es : Array (Int × Value)) (t : SetTable) (b : Bool) : (tailTx ep es t b).2.2.led = t.led := by
  unfold tailTx
  split
  · exact relayAll_led _ _ _
  · rfl
theorem addTx_perm (h : Int) (v : Value) (D : SD) : (addTx h v D).1.toList.Perm (D.1.toList ++ [(h, v)]) := by
  have p1 := layNew_perm D.2.2 D.1 h v
  rw [Array.toList_push] at p1
  exact (tail_perm _ _ _ _).trans p1
theorem addTx_ris (h : Int) (v : Value) (D : SD) (r : Ris D.2.2.place.toList) : Ris (addTx h v D).2.2.place.toList := by
  have p1 := layNew_ris D.2.2 D.1 h v r
  refine tail_ris _ _ _ _ ?_
  split
  · exact p1
  · exact p1
theorem addTx_led (h : Int) (v : Value) (D : SD) : (addTx h v D).2.2.led = D.2.2.led := by
  have p1 := layNew_led D.2.2 D.1 h v
  refine (tail_led _ _ _ _).trans ?_
  split
  · exact p1
  · exact p1
section
variable {P : Program} {w : World} {A : Around} {E : Value → Shared → Prop} {s : Shared} {a : Addr} {l : List Str}
theorem SetT.at {h h' : Heap} (R : SetT P w h a l) (k : ∀ o, h.get? a = some o → h'.get? a = some o) : SetT P w h' a l := by
  obtain ⟨D, d0, r⟩ := R
  exact ⟨D, k _ d0, r⟩
theorem setT_new {h : Heap} (g : h.get? a = some (set0 w)) : SetT P w h a [] := by
  refine ⟨(#[], 0, .fresh 0 0 (!w.params.followText "set-order")), g, TxOk.nil rfl, by simp, by simp, List.Pairwise.nil, ?_⟩
  cases hq : w.params.followText "set-order" with
  | true => exact .inl rfl
  | false => exact .inr rfl
theorem setT_old {D : SD} {k : Str} {u : Tok} {Q : Bool → Shared → Prop} (d0 : s.heap.get? a = some (sObj "set" D)) (F : TxOk P w D l) (hk : k ∈ l) (room : l.length < scanBound) (q : Q false s) : wpAny (model P w) A (setAddHashed a (.str k u) (hashStr w k)) Q E s := by
  obtain ⟨es, ep, t⟩ := D
  have d1 : (sObj "set" (es, ep, t)).data = .set es ep t := rfl
  have el : ElemsOf (strKind P w) es.toList := F.el
  have fit : t.fits es.size = true := F.fit
  have sz : es.size = l.length := F.sz
  have key : (strKind P w).is k (.str k u) = true := is_str k u
  obtain ⟨e, he, hq⟩ := (F.mem k).mp hk
  have found : ∃ j, List.findIdx? (fun x => (strKind P w).is k x.2) es.toList = some j := by
    cases hr : List.findIdx? (fun x => (strKind P w).is k x.2) es.toList with
    | some j => exact ⟨j, rfl⟩
    | none =>
      have := List.findIdx?_eq_none_iff.mp hr e he
      rw [hq] at this; cases this
  obtain ⟨j, hj⟩ := found
  unfold setAddHashed setAddHashedIn
  refine wpAny_holding (wpAny_bind (wpAny_setState_of d0 d1 fit ?_))
  dsimp only
  rw [byScan_of (knd := strKind P w) rfl (by omega) el]
  simp only [↓reduceIte]
  unfold setAddByScan
  refine wpAny_bind (wpAny_bind (wpAny_rule (wpAny_bind (wpAny_setScan_of (knd := strKind P w) (k := k) key d0 d1 fit el ?_))))
  rw [hj]
  dsimp only
  exact wpAny_pure (wpAny_pure q)
theorem setT_add {k : Str} {u : Tok} {Q : Bool → Shared → Prop} (R : SetT P w s.heap a l) (room : l.length + 1 < scanBound)
    (q : ∀ h' b, Heap.SameBut a s.heap h' → SetT P w h' a (if k ∈ l then l else k :: l) → Q b { s with heap := h' }) : wpAny (model P w) A (setAddHashed a (.str k u) (hashStr w k)) Q E s := by
  obtain ⟨D, d0, F, pm, vs, rs, ld⟩ := R
  by_cases hk : k ∈ l
  · refine setT_old d0 F hk (by omega) ?_
    have := q s.heap false (Heap.SameBut.refl a s.heap) (by rw [if_pos hk]; exact ⟨D, d0, F, pm, vs, rs, ld⟩)
    exact this
  · refine add_x d0 F hk room (q _ true (Heap.SameBut.update s.heap a _) ?_)
    rw [if_neg hk]
    have ap := addTx_perm (hashStr w k) (.str k u) D
    refine ⟨addTx (hashStr w k) (.str k u) D, get_upd _ d0 rfl, add_ok u F, ?_, fun e he => ?_, addTx_ris _ _ _ rs, ld.imp id fun z => by rw [addTx_led]; exact z⟩
    · have := ap.map keyT
      rw [List.map_append] at this
      exact this.trans ((List.perm_append_comm).trans (pm.cons k))
    · rcases List.mem_append.mp (ap.mem_iff.mp he) with z | z
      · exact vs e z
      · rw [List.mem_singleton] at z
        exact ⟨k, u, by rw [z]⟩
theorem set_loop {I : Addr} {fp wr : List Addr} {G : Array GenState → Array GenState → Prop} {n : Nat} {Pv : Nat → Value → Prop} {St : Nat → Shared → Prop} {R : Result → Shared → Prop}
    (W : WalksS P w A.in1 I fp wr G n Pv St) (S : Addr) (far : S ∉ fp) (xs : List Str) (hn : n = xs.length) (room : xs.length + 1 < scanBound) (val : ∀ i v, Pv i v → ∃ k t, xs[i]? = some k ∧ v = .str k t) :
    ∀ (m i : Nat) (s : Shared) (l : List Str), n - i = m → i ≤ n → St i s → SetT P w s.heap S l → l.Nodup → (∀ k, k ∈ l ↔ k ∈ xs.take i) → l.length ≤ i →
      (∀ s' l', Moved (S :: wr) G s s' → SetT P w s'.heap S l' → l'.Nodup → (∀ k, k ∈ l' ↔ k ∈ xs) → l'.length ≤ xs.length → R (.ok (.ret .none)) s') →
      codeAny (model P w) A (.builtin "set.update.loop" ⟨[.ref S, .ref I], []⟩) R s := by
  have farw : S ∉ wr := fun z => far (W.sub _ z)
  have more : ∀ b ∈ wr, b ∈ S :: wr := fun b z => List.mem_cons_of_mem _ z
  intro m
  induction m with
  | zero =>
    intro i s l em le st T nd mem ll fin
    have ei : i = n := by omega
    subst ei
    refine codeAny_builtin PyProof.Rows.F.entry_set_update_loop ?_
    rw [Around.under_plainId PyProof.Rows.F.plain_set_update_loop _]
    change wpAny _ A.in1 (pyNext (.ref I) >>= _) _ _ s
    refine wpAny_bind (W.done s _ _ st fun s' mv => ?_)
    change wpAny _ A.in1 (ret Value.none) _ _ s'
    rw [List.take_of_length_le (Nat.le_of_eq hn.symm)] at mem
    exact wpAny_pure (fin s' l (mv.mono more) (T.at fun o e => mv.heap S o farw e) nd mem (by omega))
  | succ m ih =>
    intro i s l em le st T nd mem ll fin
    have lt : i < n := by omega
    refine codeAny_builtin PyProof.Rows.F.entry_set_update_loop ?_
    rw [Around.under_plainId PyProof.Rows.F.plain_set_update_loop _]
    change wpAny _ A.in1 (pyNext (.ref I) >>= _) _ _ s
    refine wpAny_bind (W.item i s _ _ lt st fun v s' pv st' mv => ?_)
    obtain ⟨x, t, hx, rfl⟩ := val i v pv
    have T' : SetT P w s'.heap S l := T.at fun o e => mv.heap S o farw e
    change wpAny _ A.in1 (holding [Value.str x t] (setAdd S (.str x t)) >>= _) _ _ s'
    refine wpAny_bind (wpAny_holding ?_)
    unfold setAdd
    refine wpAny_holding (wpAny_bind ((strKind P w).pyHash (k := x) (is_str x t) ?_))
    refine setT_add (s := { s' with toks := s'.toks + 1 }) T' (by omega) fun h' b same T2 => ?_
    refine wpAny_pure ⟨plainId_quiet PyProof.Rows.F.plain_set_update_loop _, ih (i + 1) _ (if x ∈ l then l else x :: l) (by omega) lt (W.frame _ s' _ _ st' (Nat.le_succ _) fun b hb o e => ?_) T2 ?_ (fun k => ?_) ?_ fun s'' l' mv2 T3 n3 m3 z3 => ?_⟩
    · rw [same.2 b (fun z : b = S => far (by rw [← z]; exact hb))]; exact e
    · split
      · exact nd
      · rename_i hx'; exact List.nodup_cons.mpr ⟨hx', nd⟩
    · rw [List.take_add_one, hx, List.mem_append]
      split
      · rename_i hx'
        constructor
        · exact fun z => .inl ((mem k).mp z)
        · rintro (z | z)
          · exact (mem k).mpr z
          · have : k = x := by simpa using z
            rw [this]; exact hx'
      · rw [List.mem_cons]
        constructor
        · rintro (z | z)
          · exact .inr (by simp [z])
          · exact .inl ((mem k).mp z)
        · rintro (z | z)
          · exact .inr ((mem k).mpr z)
          · exact .inl (by simpa using z)
    · split
      · omega
      · simp only [List.length_cons]; omega
    · refine fin s'' l' (Moved.trans W.gtrans ((mv.mono more).then_heap (Nat.le_succ _) fun b o hb e => ?_) mv2) T3 n3 m3 z3
      rw [same.2 b (fun z : b = S => hb (by rw [z]; exact List.mem_cons_self))]; exact e
end
end DL
namespace DL
open PySem PySem.Spec L2
open PySem.Froz
open PyProof.Rows (sortedS StrsAre)
section
variable {P : Program} {w : World} {A : Around} {E : Value → Shared → Prop} {s : Shared}
theorem strs_at : ∀ {us : List Value} {xs : List Str}, StrsAre us xs → ∀ (i : Nat) (v : Value), us[i]? = some v → ∃ k t, xs[i]? = some k ∧ v = .str k t
  | _, _, .nil, i, v, h => by simp at h
  | _, _, .cons x t r, 0, v, h => ⟨x, t, by simp, by simpa using h.symm⟩
  | _, _, .cons x t r, i + 1, v, h => by
    obtain ⟨k, u, e1, e2⟩ := strs_at r i v (by simpa using h)
    exact ⟨k, u, by simpa using e1, e2⟩
/-- what the making leaves -/
def Made (P : Program) (w : World) (s : Shared) (xs : List Str) (s' : Shared) : Prop :=
  ∃ h' tk l, s' = { s with heap := h', toks := tk } ∧ SetT P w h' s.heap.objs.size l ∧ l.Nodup ∧ (∀ k, k ∈ l ↔ k ∈ xs) ∧ l.length ≤ xs.length ∧ ∀ b o, s.heap.get? b = some o → h'.get? b = some o
theorem set_list {l : Addr} {items : Array Value} (xs : List Str) {Q : Value → Shared → Prop} (calm : A.handled = none) (hl : s.heap.IsList l items) (hx : StrsAre items.toList xs) (room : xs.length + 1 < scanBound)
    (q : ∀ s', Made P w s xs s' → Q (.ref s.heap.objs.size) s') : wpAny (model P w) A (call (.type "set") [.ref l]) Q E s := by
  have len : items.size = xs.length := by
    have := (vals_strsD hx).length
    rw [List.length_map, Array.length_toList] at this
    exact this.symm
  obtain ⟨c0, t0, m0⟩ := PySem.F.called_set.mro
  have c1 := PySem.F.called_set.made
  have c2 := PySem.F.called_set.sub
  refine wpAny_call (codeAny_of_tree ?_)
  change wpAny _ _ (callAny (.type "set") _) _ _ _
  refine wpAny_pure ⟨Code.quiet_builtin _ (by decide +kernel), codeAny_builtin PySem.F.entry_type_call ?_⟩
  rw [Around.under_plain (weight_type_call_type "set" [.ref l] []) rfl]
  have c3 := PySem.F.called_set.notType
  have c4 := PySem.F.called_set.canCreate
  have c5 := PySem.F.typeCall_set_1 (.ref l)
  repeat (any_goals (first | assumption | wp_step))
  refine codeAny_mono (code_set_led1 (.ref l) (E := E) (Q₁ := fun ob z => ob = .ref s.heap.objs.size ∧ z = { s with heap := s.heap.push (set0 w) }) ⟨rfl, rfl⟩) fun r z hr => ?_
  match r, hr with
  | .error e, hr => exact hr
  | .ok .next, hr => exact hr.elim
  | .ok .brk, hr => exact hr.elim
  | .ok .cont, hr => exact hr.elim
  | .ok (.ret ob), hr =>
    obtain ⟨rfl, rfl⟩ := hr
    have mk : (s.heap.push (set0 w)).get? s.heap.objs.size = some (set0 w) := Heap.get?_push_size _ rfl
    have ty : Shared.TypeIs { s with heap := s.heap.push (set0 w) } (.ref s.heap.objs.size) "set" := ⟨_, mk, rfl⟩
    have c6 := PySem.F.called_set.init.lookup
    have c7 := PySem.F.called_set.init.bind (.ref s.heap.objs.size)
    repeat (any_goals (first | assumption | wp_step))
    refine codeAny_mono (codeAny_call_builtin (R := wants (fun r z => r = .none ∧ Made P w s xs z) E) PySem.F.called_set.init.plain PySem.F.entry_set_init (check_set_init_1 ty ?_)) fun r2 z2 hr2 => ?_
    · obtain ⟨⟨ocl, odi, oda, osl⟩, ol, oc, on, od⟩ := hl
      simp only at oc od
      subst oc
      subst od
      have ol2 := Heap.get?_push_of_some (set0 w) ol
      have b1 := PySem.F.sub_list_set
      have b2 := PySem.F.sub_list_frozenset
      have b3 : (Value.type "list" == Value.type "dict") = false := by decide
      have hl2 : (s.heap.push (set0 w)).IsList l items := ⟨_, ol2, rfl, on, rfl⟩
      unfold Builtin.«set.__init__» noKeywords Builtin.Frozenset.updateFrom
      generalize hpi : pyIter = PI
      wp_walk
      subst hpi
      refine wpAny_pyIter_list hl2 (wpAny_bind (wpAny_runValue ?_))
      have lS : l < s.heap.objs.size := Heap.lt_size ol
      have calm3 : A.in1.in1.in1.handled = none := by simp [calm]
      have apart : l ≠ (s.heap.push (set0 w)).objs.size := by rw [Heap.size_push]; exact Nat.ne_of_lt (Nat.lt_succ_of_lt lS)
      have far : s.heap.objs.size ∉ [(s.heap.push (set0 w)).objs.size, l] := by
        rw [Heap.size_push]
        intro z
        rcases List.mem_cons.mp z with z | z
        · exact absurd z (Nat.ne_of_lt (Nat.lt_succ_self _))
        · exact absurd (List.mem_singleton.mp z) (Nat.ne_of_gt lS)
      have val : ∀ (i : Nat) (v : Value), items[i]? = some v → ∃ k t, xs[i]? = some k ∧ v = .str k t := fun i v hv => strs_at hx i v (by rw [Array.getElem?_toList]; exact hv)
      have mk2 := Heap.get?_push_of_some { cls := .type "list_iterator", data := .fields #[.ref l, .int 0 0] } mk
      refine set_loop ((Walks.list calm3 _ l apart items).toS) s.heap.objs.size far xs len room val (items.size - 0) 0 _ [] (by omega) (Nat.zero_le _)
        ⟨⟨_, Heap.get?_push_size _ rfl, rfl, rfl⟩, (hl2.push _)⟩ (setT_new mk2) List.nodup_nil (fun k => by simp) (Nat.le_refl _) fun s' l' mv T nd mem zl => ?_
      obtain ⟨h', g', d', tk', os'⟩ := s'
      have e1 : g' = s.gens := mv.gens
      have e2 : d' = s.drawn := mv.drawn
      have e3 : os' = s.os := mv.os
      subst e1
      subst e2
      subst e3
      refine wpAny_pure ?_
      change wpAny _ _ (ret Value.none) _ _ _
      refine wpAny_pure ⟨rfl, h', tk', l', rfl, T, nd, mem, zl, fun b o e => ?_⟩
      have b0 := Heap.lt_size e
      refine mv.heap b o (fun z => ?_) (Heap.get?_push_of_some _ (Heap.get?_push_of_some _ e))
      rcases List.mem_cons.mp z with z | z
      · exact absurd z (Nat.ne_of_lt b0)
      · have y := List.mem_singleton.mp z
        rw [Heap.size_push] at y
        exact absurd y (Nat.ne_of_lt (Nat.lt_succ_of_lt b0))
    · match r2, hr2 with
      | .error e, hr2 => exact hr2
      | .ok .next, hr2 => exact hr2.elim
      | .ok .brk, hr2 => exact hr2.elim
      | .ok .cont, hr2 => exact hr2.elim
      | .ok (.ret v), hr2 =>
        obtain ⟨rfl, hm⟩ := hr2
        repeat (any_goals (first | assumption | wp_step))
        exact q _ hm
/-- sorted(s) of a set of texts -/
theorem sorted_setT {a : Addr} {l : List Str} {Q : Value → Shared → Prop} (R : SetT P w s.heap a l) (calm : A.handled = none) (fits : l.length ≤ sizeLine) (room : l.length < scanBound)
    (q : ∀ s' p (out : Array Value) (c : Nat) (zs : List Str), (∀ b o, s.heap.get? b = some o → s'.heap.get? b = some o) → s'.gens = s.gens → s'.os = s.os → s.heap.objs.size ≤ p → s'.heap.get? p = some (PyProof.Rows.seqObj "list" out c) → StrsAre out.toList zs → zs.Perm l → sortedS zs = true → Q (.ref p) s') :
    wpAny (model P w) A (call (.builtin "sorted") [.ref a]) Q E s := by
  obtain ⟨⟨es, ep, t⟩, d0, ok, pm, vs, rs, ld⟩ := R
  have sz : es.size = l.length := ok.sz
  refine Calls.call_function_entry PyProof.Rows.kind_sorted PyProof.Rows.plain_sorted PyProof.Rows.entry_sorted (PyProof.Rows.args_sorted1 _) ?_
  unfold Builtin.«sorted»
  refine wpAny_bind (m := checkCount "sorted" 1 1 _) (wpAny_pure (wpAny_bind (collect_set (A := A.in1) calm ⟨_, d0, rfl, rfl⟩ ok.fit (by show es.size < scanBound; omega) rs ld fun s1 us k1 z1 g1 o1 p1 => ?_)))
  have all : ∀ (us : List Value), (∀ v ∈ us, ∃ k u, v = Value.str k u) → ∃ ss, StrsAre us ss ∧ ss = us.map fun v => match v with
      | .str k _ => k
      | _ => Str.empty := fun us => by
    induction us with
    | nil => exact fun _ => ⟨[], .nil, rfl⟩
    | cons v us ih =>
      intro hv
      obtain ⟨k, u, e⟩ := hv v (by simp)
      obtain ⟨ss, h1, h2⟩ := ih fun x hx => hv x (List.mem_cons_of_mem _ hx)
      exact ⟨k :: ss, by rw [e]; exact .cons k u h1, by rw [h2, e]; rfl⟩
  obtain ⟨ss, h1, h2⟩ := all us fun v hv => by
    obtain ⟨e, he, hq⟩ := List.mem_map.mp (p1.mem_iff.mp hv)
    obtain ⟨k, u, z⟩ := vs e he
    exact ⟨k, u, by rw [← hq]; exact z⟩
  have pl : ss.Perm l := by
    rw [h2]
    refine (p1.map _).trans ?_
    rw [List.map_map]
    exact pm
  have ul : us.length = l.length := by rw [p1.length_eq, List.length_map, Array.length_toList]; exact sz
  refine wpAny_bind (wpAny_newList ?_ (by rw [ul]; exact fits))
  have at1 : (s1.heap.push (PyProof.Rows.seqObj "list" us.toArray 0)).get? s1.heap.objs.size = some (PyProof.Rows.seqObj "list" us.toArray 0) := Heap.get?_push_size _ rfl
  refine wpAny_bind (wpAny_holding (wpAny_call_entry PyProof.Rows.slot_list_sort ⟨_, at1, rfl⟩ PyProof.Rows.entry_list_sort (PyProof.Rows.list_sort_treeKAny PyProof.Rows.strKind_oneLt at1 h1.keysOf (fun v₁ v₂ rest e => PyProof.Rows.keyKind_strs (e ▸ h1)) (by rw [ul]; exact fits) fun st p3 p4 => ⟨_, rfl, ?_⟩) (PyProof.Rows.args_list_sort _)))
  obtain ⟨zs, y1, y2, y3⟩ := PyProof.Rows.sorted_out_str h1 p3 p4
  obtain ⟨c, hc⟩ := PyProof.Rows.sortedHeap_at (vs := us) (out := (PyProof.Rows.arrOf st).map (·.2)) at1
  refine wpAny_pure ⟨_, rfl, q _ s1.heap.objs.size _ c zs (fun b u e => ?_) g1 o1 z1 hc y1 (y2.trans pl) y3⟩
  have e1 := k1 b u e
  have lt := Heap.lt_size e1
  change (PyProof.Rows.sortedHeap _ s1.heap.objs.size us _).get? b = some u
  rw [PyProof.Rows.sortedHeap_old (Nat.ne_of_lt lt) (by rw [Heap.size_push]; exact Nat.lt_succ_of_lt lt)]
  exact Heap.get?_push_of_some _ e1
end
end DL
namespace DL
open PySem PySem.Spec L2
open PyProof.Rows (sortedS StrsAre)
variable {g : G} {W : WX}
/-! ### set(x), sorted(set(x)) -/
def SetTO (P : Program) (w : World) (a : Addr) (l : List Str) : HO := .ext fun h => SetT P w h a l
theorem setTO_ok {P : Program} {w : World} {H : Hp} {h : Heap} {a : Addr} {l : List Str} (T : SetT P w h a l) : ObjOk P w H h a (SetTO P w a l) :=
  ⟨T, let ⟨D, d0, _⟩ := T.ex; ⟨_, d0⟩, fun _ _ T1 k => T1.at k⟩
theorem setTO_at {X : Cx} {pins : List (Addr × Obj)} {σ : St} {H : Hp} {s : Shared} {a : Addr} {l : List Str} (I : Inv X pins σ H s) (h : H a = some (SetTO X.prog X.w a l)) : SetT X.prog X.w s.heap a l := (I.hok a _ h).1
def rSetT (X : Cx) : List V → Hp → VK → Prop := fun vs H Q => ∃ (p : Addr) (xs : List Str), vs = [.ref p] ∧ SqL X.K H p (xs.map V.str) ∧ xs.length < 4000 ∧ ∀ (a : Addr) (l : List Str), H a = none → l.Nodup → (∀ k, k ∈ l ↔ k ∈ xs) → l.length ≤ xs.length → Q (.ref a) (upd H a (SetTO X.prog X.w a l))
theorem call_setT {X : Cx} (hc : X.calm = true) : CallR X (.type "set") (rSetT X) := by
  intro pins s σ H vs us Q I r h
  obtain ⟨p, xs, rfl, hs, small, q⟩ := h
  rw [Vals.ref1 r]
  obtain ⟨its, rv, hl, hz⟩ := I.list hs
  refine set_list xs (I.ok.hd hc) hl.isList (strs_valsD rv) (by unfold scanBound; omega) fun s' hm => ?_
  obtain ⟨h', tk, l, rfl, T, nd, mem, ll, kp⟩ := hm
  exact ⟨.ref _, _, I.laid (t' := tk) kp (Nat.le_refl _) (setTO_ok T), rfl, q _ l (I.hok.fresh (Nat.le_refl _)) nd mem ll⟩
def rSortT (X : Cx) : List V → Hp → VK → Prop := fun vs H Q => ∃ (a : Addr) (l : List Str), vs = [.ref a] ∧ H a = some (SetTO X.prog X.w a l) ∧ l.length < 4000 ∧ ∀ (ys : List Str) (p : Addr), ys.Perm l → sortedS ys = true → H p = none → Q (.ref p) (upd H p (.lst (ys.map V.str)))
theorem call_sortT {X : Cx} (hc : X.calm = true) : CallR X (.builtin "sorted") (rSortT X) := by
  intro pins s σ H vs us Q I r h
  obtain ⟨a, l, rfl, ha, small, q⟩ := h
  have T := setTO_at I ha
  rw [Vals.ref1 r]
  refine sorted_setT T (I.ok.hd hc) (by rw [lineM_eq]; unfold lineM; omega) (by unfold scanBound; omega) fun s' p out c zs kp g1 o1 hp at1 st pm so => ?_
  have fresh : H p = none := I.hok.fresh hp
  have fits : (zs.map V.str).length ≤ sizeLine := by rw [List.length_map, pm.length_eq, lineM_eq]; unfold lineM; omega
  exact ⟨.ref p, upd H p (.lst (zs.map V.str)), I.call' (ch := []) o1 (Un.laid kp hp fresh) (I.hok.laid kp hp ⟨fits, out.toList, c, vals_strsD st, at1⟩) (by rw [g1]; exact I.bare) (fun _ z => nomatch z), rfl, q zs p pm so fresh⟩
def dedS : List Str → List Str
  | [] => []
  | x :: r => if x ∈ dedS r then dedS r else x :: dedS r
theorem dedS_mem {k : Str} : ∀ {l : List Str}, k ∈ dedS l ↔ k ∈ l
  | [] => Iff.rfl
  | x :: r => by
    have ih := dedS_mem (k := k) (l := r)
    unfold dedS
    split
    · rename_i h
      rw [ih, List.mem_cons]
      exact ⟨.inr, fun z => z.elim (fun e => by rw [e]; exact dedS_mem.mp h) id⟩
    · rw [List.mem_cons, List.mem_cons, ih]
theorem dedS_nodup : ∀ l : List Str, (dedS l).Nodup
  | [] => List.nodup_nil
  | x :: r => by
    unfold dedS
    split
    · exact dedS_nodup r
    · rename_i h
      exact List.nodup_cons.mpr ⟨h, dedS_nodup r⟩
def dSortSet : List D → Option Rv
  | [.list ds] => match asStrs ds with
    | some ss => if ss.length < 4000 then some (.new (.list ((sortS (dedS ss)).map .str))) else none
    | none => none
  | _ => none
def rSortSet (X : Cx) : List V → Hp → VK → Prop := fun vs H Q => rSetT X vs H fun y H2 => rSortT X [y] H2 Q
theorem good_sortSet {X : Cx} : GoodC ⟨X.K, X.mg⟩ (rSortSet X) dSortSet := by
  refine ⟨fun F H vs ds Q s h p => ?_, fun ds => ?_⟩
  · unfold dSortSet at p
    split at p
    · rename_i es
      obtain ⟨v, rfl, hv⟩ := h.one
      obtain ⟨a, xs, e1, e2, e3⟩ := hv.lst s
      cases q : asStrs es with
      | none => simp only [q] at p; exact p.elim
      | some ss =>
        simp only [q] at p
        by_cases small : ss.length < 4000
        · rw [if_pos small] at p
          obtain ⟨w, ok⟩ := e3.strs q
          subst w
          refine ⟨a, ss, by rw [e1], .inl (.inl e2), small, fun b l fresh nd mem ll => ⟨b, l, rfl, upd_same, by omega, fun ys c pm so fresh2 => ?_⟩⟩
          have nc : H c = none := by
            by_cases e : c = b
            · rw [e]; exact fresh
            · rw [upd_ne e] at fresh2; exact fresh2
          have cb : c ≠ b := fun e => by rw [e, upd_same] at fresh2; cases fresh2
          have pl : ys.Perm (dedS ss) := pm.trans ((List.perm_ext_iff_of_nodup nd (dedS_nodup ss)).mpr fun k => (mem k).trans dedS_mem.symm)
          rw [sortS_of pl so]
          refine p _ c nc ⟨.refl, (upd_sub fresh).trans (upd_sub fresh2), fun _ h h' => absurd h h', s.trans ((upd_sub fresh).trans (upd_sub fresh2))⟩ (.lst upd_same (denL_strs fun x hx => ok x (dedS_mem.mp ((sortS_perm _).mem_iff.mp hx))))
        · rw [if_neg small] at p; exact p.elim
    · exact p.elim
  · unfold dSortSet
    split
    · split
      · split <;> first | exact NoSl.new | exact NoSl.none
      · exact NoSl.none
    · exact NoSl.none
section
variable {X : Cx} {p pos p2 pos2 : Pos} {e : Expr} {f : ME}
theorem de_sortSet (hc : X.calm = true) (hs : X.mg "sorted" = none) (hm : X.mg "set" = none) (ha : DE X W e f) (hg : Gl X "sorted" := by rfl) (hg2 : Gl X "set" := by rfl) (he : starEach [e] X.env = (false, eval e X.env) :: starEach [] X.env := by rfl)
    (he2 : starEach [Expr.Call (.Name "set" p2) [e] [] pos2] X.env = (false, eval (.Call (.Name "set" p2) [e] [] pos2) X.env) :: starEach [] X.env := by rfl) (hpl : (backTo pos (starEach [] X.env)).any (·.1) = false := by rfl) (hpl2 : (backTo pos2 (starEach [] X.env)).any (·.1) = false := by rfl) :
    DE X W (.Call (.Name "sorted" p) [.Call (.Name "set" p2) [e] [] pos2] [] pos) (mCallB dSortSet [f]) := by
  obtain ⟨t, pt, gt⟩ := ha
  have inner : PE X (.Call (.Name "set" p2) [e] [] pos2) (tCB (rSetT X) (tCons t tNil)) := pe_callTy (call_setT hc) hg2 hm (by decide +kernel) (pa_cons pt pa_nil he) (by decide) (by decide) he hpl2
  have outer := pe_callB (p := p) (call_sortT hc) hg hs (by decide +kernel) (pa_cons inner pa_nil he2) (by decide) (by decide) he2 hpl
  exact ⟨_, outer, good_callB (r := rSortSet X) (.cons gt .nil) good_sortSet⟩
end
/-! ### list(range(..)) -/
def rgD (a b : Int) : List D := (List.range (b - a).toNat).map fun i => PyData.int (a + (i : Nat))
def dListRg : D → Option Rv
  | .int n => if n ≤ 16777216 ∧ -4611686018427387904 ≤ n then some (.new (.list (rgD 0 n))) else none
  | _ => none
theorem rg_den {F : Hp} (a b : Int) : DenL g F (rgV a b) (rgD a b) := by
  unfold rgV rgD
  generalize List.range (b - a).toNat = l
  induction l with
  | nil => exact .nil
  | cons i l ih => exact .cons (.int _) ih
def rListRg : V → Hp → VK → Prop := fun x H Q => ∃ n, x = .int n ∧ RgOk 0 n ∧ ∀ q, H q = none → Q (.ref q) (upd H q (.lst (rgV 0 n)))
theorem good_listRg : Good1 g rListRg dListRg := by
  refine ⟨fun F H x d Q s hx p => ?_, fun d => ?_⟩
  · unfold dListRg at p
    split at p
    · rename_i n
      by_cases h : n ≤ 16777216 ∧ -4611686018427387904 ≤ n
      · rw [if_pos h] at p
        exact ⟨n, hx.int, ⟨by omega, by omega, by omega, by omega, by omega⟩, fun q hn => Post0.newL s p hn (rg_den 0 n)⟩
      · rw [if_neg h] at p; exact p.elim
    · exact p.elim
  · unfold dListRg
    split
    · split <;> first | exact NoSl.new | exact NoSl.none
    · exact NoSl.none
section
variable {X : Cx} {p pos p2 pos2 : Pos} {e : Expr} {f : ME}
theorem de_listRg (hc : X.calm = true) (hs : X.mg "list" = none) (hm : X.mg "range" = none) (ha : DE X W e f) (hg : Gl X "list" := by rfl) (hg2 : Gl X "range" := by rfl) (he : starEach [e] X.env = (false, eval e X.env) :: starEach [] X.env := by rfl)
    (he2 : starEach [Expr.Call (.Name "range" p2) [e] [] pos2] X.env = (false, eval (.Call (.Name "range" p2) [e] [] pos2) X.env) :: starEach [] X.env := by rfl) :
    DE X W (.Call (.Name "list" p) [.Call (.Name "range" p2) [e] [] pos2] [] pos) (mUn dListRg f) := by
  obtain ⟨t, pt, gt⟩ := ha
  exact ⟨_, pe_listRg hc hg hs (prg_1 hg2 hm pt he) he2, good_un (r := rListRg) gt good_listRg⟩
end
/-! ### max(xs), min(xs) of whole numbers -/
def maxI (n : Int) : List Int → Int
  | [] => n
  | m :: r => if (maxI m r) > n then maxI m r else n
def minI (n : Int) : List Int → Int
  | [] => n
  | m :: r => if (minI m r) < n then minI m r else n
theorem maxI_mem : ∀ (n : Int) (r : List Int), maxI n r ∈ n :: r
  | n, [] => by simp [maxI]
  | n, m :: r => by
    have ih := maxI_mem m r
    unfold maxI
    split
    · exact List.mem_cons_of_mem _ ih
    · exact List.mem_cons_self
theorem maxI_le : ∀ (n : Int) (r : List Int), ∀ y ∈ n :: r, y ≤ maxI n r
  | n, [], y, h => by simp [maxI] at *; omega
  | n, m :: r, y, h => by
    have ih := maxI_le m r
    unfold maxI
    rcases List.mem_cons.mp h with e | h
    · split <;> omega
    · have := ih y h
      split <;> omega
theorem minI_mem : ∀ (n : Int) (r : List Int), minI n r ∈ n :: r
  | n, [] => by simp [minI]
  | n, m :: r => by
    have ih := minI_mem m r
    unfold minI
    split
    · exact List.mem_cons_of_mem _ ih
    · exact List.mem_cons_self
theorem minI_le : ∀ (n : Int) (r : List Int), ∀ y ∈ n :: r, minI n r ≤ y
  | n, [], y, h => by simp [minI] at *; omega
  | n, m :: r, y, h => by
    have ih := minI_le m r
    unfold minI
    rcases List.mem_cons.mp h with e | h
    · split <;> omega
    · have := ih y h
      split <;> omega
def dMaxL : List D → Option Rv
  | [.list ds] => match asInts ds with
    | some (n :: r) => some (.val (.int (maxI n r)))
    | _ => none
  | _ => none
def dMinL : List D → Option Rv
  | [.list ds] => match asInts ds with
    | some (n :: r) => some (.val (.int (minI n r)))
    | _ => none
  | _ => none
theorem good_maxL : GoodC g (rMax g.K) dMaxL := by
  refine ⟨fun F H vs ds Q s h p => ?_, fun ds => ?_⟩
  · unfold dMaxL at p
    split at p
    · obtain ⟨v, rfl, hv⟩ := h.one
      obtain ⟨a, xs, e1, e2, e3⟩ := hv.lst s
      split at p
      · rename_i n r q
        have := e3.ints q
        subst this
        refine ⟨a, n :: r, by rw [e1], .inl (.inl e2), by simp, fun m h1 h2 => ?_⟩
        have e : m = maxI n r := Int.le_antisymm (maxI_le n r m h1) (h2 _ (maxI_mem n r))
        rw [e]
        exact p.val0 s (.int _)
      · exact p.elim
    · exact p.elim
  · unfold dMaxL
    split
    · split <;> first | exact NoSl.val | exact NoSl.none
    · exact NoSl.none
theorem good_minL : GoodC g (rMin g.K) dMinL := by
  refine ⟨fun F H vs ds Q s h p => ?_, fun ds => ?_⟩
  · unfold dMinL at p
    split at p
    · obtain ⟨v, rfl, hv⟩ := h.one
      obtain ⟨a, xs, e1, e2, e3⟩ := hv.lst s
      split at p
      · rename_i n r q
        have := e3.ints q
        subst this
        refine ⟨a, n :: r, by rw [e1], .inl (.inl e2), by simp, fun m h1 h2 => ?_⟩
        have e : m = minI n r := Int.le_antisymm (h2 _ (minI_mem n r)) (minI_le n r m h1)
        rw [e]
        exact p.val0 s (.int _)
      · exact p.elim
    · exact p.elim
  · unfold dMinL
    split
    · split <;> first | exact NoSl.val | exact NoSl.none
    · exact NoSl.none
section
variable {X : Cx} {p pos : Pos} {e : Expr} {f : ME}
theorem de_maxL (hc : X.calm = true) (hm : X.mg "max" = none) (ha : DA X W [e] [f]) (hg : Gl X "max" := by rfl) (he : starEach [e] X.env = (false, eval e X.env) :: starEach [] X.env := by rfl) (hpl : (backTo pos (starEach [] X.env)).any (·.1) = false := by rfl) : DE X W (.Call (.Name "max" p) [e] [] pos) (mCallB dMaxL [f]) :=
  de_callB (cr_max hc) good_maxL hg hm (by decide +kernel) ha (by decide) (by decide) he hpl
theorem de_minL (hc : X.calm = true) (hm : X.mg "min" = none) (ha : DA X W [e] [f]) (hg : Gl X "min" := by rfl) (he : starEach [e] X.env = (false, eval e X.env) :: starEach [] X.env := by rfl) (hpl : (backTo pos (starEach [] X.env)).any (·.1) = false := by rfl) : DE X W (.Call (.Name "min" p) [e] [] pos) (mCallB dMinL [f]) :=
  de_callB (cr_min hc) good_minL hg hm (by decide +kernel) ha (by decide) (by decide) he hpl
end
end DL
namespace DL
open PySem PySem.Spec L2
variable {g : G} {W : WX}
/-! ### x[i] += e of an own list of whole numbers -/
def rGetN : V → V → Hp → VK → Prop := fun o i H Q => ∃ p xs k v, o = .ref p ∧ i = .int k ∧ H p = some (.lst xs) ∧ 0 ≤ k ∧ k < 2 ^ 62 ∧ xs[k.toNat]? = some v ∧ Q v H
theorem get_lstN {X : Cx} : PGet X rGetN := by
  intro pins s σ H o i ov iv Q I ro ri h
  obtain ⟨p, xs, k, v, rfl, rfl, hp, k0, k1, hv, q⟩ := h
  cases ro
  obtain ⟨t, rfl⟩ := ri
  obtain ⟨its, n, r, at1, fits⟩ := I.lst hp
  obtain ⟨w, ew, rw'⟩ := r.get hv
  exact wpAny_getItem_list (items := its.toArray) ⟨_, at1, rfl, n, rfl⟩ k0 (by omega) (by simpa using ew) ⟨v, H, I, rw', q⟩
def augN (op : Int → Int → Int) (j : Nat) (i : Nat) (old new : D) (env : Env) : Res (Fl × Env) := match old, new, ownL env j with
  | .int a, .int b, some (k, ds) => if i < ds.length then .ok (.nx, env.set j (.ow k (.list (ds.set i (.int (op a b)))))) else .stuck
  | _, _, _ => .stuck
def mAugIx (op : Int → Int → Int) (j : Nat) (fi f : ME) : MS := fun env => if (ownL env j).isSome = true then fi env >>= fun x => x.1.data x.2 >>= fun di => match di, ownL x.2 j with
    | .int i, some (_, ds) => if 0 ≤ i ∧ i < 2 ^ 62 then (match ds[i.toNat]? with
      | some old => f x.2 >>= fun y => y.1.data y.2 >>= fun dn => augN op j i.toNat old dn y.2
      | none => .stuck) else .stuck
    | _, _ => .stuck
  else .stuck
theorem good_augIx {op : Int → Int → Int} {ti te : TE} {j : Nat} {fi f : ME} (hi : GoodE g W ti fi) (h : GoodE g W te f) : GoodS g W (tAugS (tVar j) ti te rGetN (ipI op) rSetL) (mAugIx op j fi f) := fun F H σ env Dn k p => by
  unfold mAugIx at p
  by_cases hs : (ownL env j).isSome = true
  · rw [if_pos hs] at p
    obtain ⟨⟨kd, ds0⟩, ho⟩ := Option.isSome_iff_exists.mp hs
    obtain ⟨a, xs0, s1, _, _⟩ := k.ownL ho
    refine ⟨_, s1, ?_⟩
    refine hi F H σ env _ k (PostS.bindE p fun r e2 F2 H2 x x2 k2 kp2 rv p2 => ?_)
    have p2 := PostS.after x2 kp2 p2
    rcases data_cases r e2 with ⟨di, q⟩ | q
    · simp only [q, Res.ok_bind] at p2
      have pk := RvOk.pk rv k2 q
      cases ho2 : ownL e2 j with
      | none => cases di <;> simp only [ho2] at p2 <;> exact p2.elim
      | some w =>
        obtain ⟨kd2, ds⟩ := w
        cases di with
        | int i =>
          simp only [ho2] at p2
          by_cases hb : 0 ≤ i ∧ i < 2 ^ 62
          · rw [if_pos hb] at p2
            cases hg : ds[i.toNat]? with
            | none => simp only [hg] at p2; exact p2.elim
            | some old =>
              simp only [hg] at p2
              obtain ⟨b, xs, s2, hH, den⟩ := k2.ownL ho2
              rw [s1] at s2; cases s2
              obtain ⟨vo, v1, v2⟩ := den.get hg
              refine ⟨a, xs, i, vo, rfl, pk.int, hH, hb.1, hb.2, v1, ?_⟩
              refine h F2 H2 σ e2 _ k2 (PostS.bindE p2 fun r3 e3 F3 H3 y x3 k3 kp3 rv3 p3 => ?_)
              have p3 := PostS.after x3 kp3 p3
              rcases data_cases r3 e3 with ⟨dn, q3⟩ | q3
              · simp only [q3, Res.ok_bind] at p3
                have pk3 := RvOk.pk rv3 k3 q3
                unfold augN at p3
                cases old with
                | int oa =>
                  cases dn with
                  | int nb =>
                    cases ho3 : ownL e3 j with
                    | none => simp only [ho3] at p3; exact p3.elim
                    | some w3 =>
                      obtain ⟨kd3, ds3⟩ := w3
                      simp only [ho3] at p3
                      by_cases lt : i.toNat < ds3.length
                      · rw [if_pos lt] at p3
                        obtain ⟨c, ys, s3, hH3, den3⟩ := k3.ownL ho3
                        rw [s1] at s3; cases s3
                        obtain ⟨he, hk⟩ := ownL_ok ho3
                        have eo : vo = .int oa := (Pk.int (F := F2) (H := H2) (g := g) (.inl v2))
                        have dw : OwnAt g F3 (upd H3 a (.lst (ys.set i.toNat (.int (op oa nb))))) a (.list (ds3.set i.toNat (.int (op oa nb)))) := .lst upd_same (DenL.set (.int _) _ den3)
                        obtain ⟨y1, y2, y3⟩ := k3.change he s1 hk dw
                        refine ⟨oa, nb, eo, pk3.int, a, ys, i, i.toNat, rfl, pk.int, hH3, ?_, p3 F3 _ σ y1 y2 y3⟩
                        rw [den3.length]
                        unfold ixN
                        rw [if_pos hb.1, if_pos (by omega)]
                      · rw [if_neg lt] at p3; exact p3.elim
                  | _ => exact p3.elim
                | _ => exact p3.elim
              · simp only [q3, Res.stuck_bind] at p3; exact p3.elim
          · rw [if_neg hb] at p2; exact p2.elim
        | _ => simp only [ho2] at p2; exact p2.elim
    · simp only [q, Res.stuck_bind] at p2; exact p2.elim
  · rw [if_neg hs] at p; exact p.elim
theorem ds_augIx {X : Cx} {j : Nat} {x : Str} {e ix : Expr} {p spos pos : Pos} {f fi : ME} (hi : DE X W ix fi) (he : DE X W e f) (hN : X.N[j]? = some x) (hv : Vis X.env.scope x)
    (ha : ∀ ov iv new, augStore ix ov iv new = (do holding [new, ov, iv] (setItem ov iv new); release [new, ov, iv] []; pure .next) := by intros; rfl) (hd : (x == ("__debug__" : Str)) = false := by decide) (hcd : (x == ("__classdict__" : Str)) = false := by decide) :
    DS X W (.AugAssign (.Subscript (.Name x p) ix spos) .Add e pos) (mAugIx (fun i j => i + j) j fi f) := by
  obtain ⟨t, pt, gt⟩ := hi
  obtain ⟨u, pu, gu⟩ := he
  exact ⟨_, ps_augS (pe_var hN hv hd hcd) pt get_lstN pu ip_add L2.set_list ha, good_augIx gt gu⟩
end DL
namespace DL
open PySem PySem.Spec L2
open PySem.Froz
open PyProof.Rows (sortedS StrsAre)
def signsOf (x : Str) : List Str := x.cps.toList.map sing
section
variable {P : Program} {w : World} {A : Around} {E : Value → Shared → Prop} {s : Shared}
/-- set(x) of a text -/
theorem set_str {x : Str} {u : Tok} {Q : Value → Shared → Prop} (calm : A.handled = none) (room : x.cps.size + 1 < scanBound)
    (q : ∀ s', Made P w s (signsOf x) s' → Q (.ref s.heap.objs.size) s') : wpAny (model P w) A (call (.type "set") [.str x u]) Q E s := by
  have len : x.cps.size = (signsOf x).length := by unfold signsOf; rw [List.length_map, Array.length_toList]
  obtain ⟨c0, t0, m0⟩ := PySem.F.called_set.mro
  have c1 := PySem.F.called_set.made
  have c2 := PySem.F.called_set.sub
  refine wpAny_call (codeAny_of_tree ?_)
  change wpAny _ _ (callAny (.type "set") _) _ _ _
  refine wpAny_pure ⟨Code.quiet_builtin _ (by decide +kernel), codeAny_builtin PySem.F.entry_type_call ?_⟩
  rw [Around.under_plain (weight_type_call_type "set" [.str x u] []) rfl]
  have c3 := PySem.F.called_set.notType
  have c4 := PySem.F.called_set.canCreate
  have c5 := PySem.F.typeCall_set_1 (.str x u)
  repeat (any_goals (first | assumption | wp_step))
  refine codeAny_mono (code_set_led1 (.str x u) (E := E) (Q₁ := fun ob z => ob = .ref s.heap.objs.size ∧ z = { s with heap := s.heap.push (set0 w) }) ⟨rfl, rfl⟩) fun r z hr => ?_
  match r, hr with
  | .error e, hr => exact hr
  | .ok .next, hr => exact hr.elim
  | .ok .brk, hr => exact hr.elim
  | .ok .cont, hr => exact hr.elim
  | .ok (.ret ob), hr =>
    obtain ⟨rfl, rfl⟩ := hr
    have mk : (s.heap.push (set0 w)).get? s.heap.objs.size = some (set0 w) := Heap.get?_push_size _ rfl
    have ty : Shared.TypeIs { s with heap := s.heap.push (set0 w) } (.ref s.heap.objs.size) "set" := ⟨_, mk, rfl⟩
    have c6 := PySem.F.called_set.init.lookup
    have c7 := PySem.F.called_set.init.bind (.ref s.heap.objs.size)
    repeat (any_goals (first | assumption | wp_step))
    refine codeAny_mono (codeAny_call_builtin (R := wants (fun r z => r = .none ∧ Made P w s (signsOf x) z) E) PySem.F.called_set.init.plain PySem.F.entry_set_init (check_set_init_1 ty ?_)) fun r2 z2 hr2 => ?_
    · have b1 := PySem.F.sub_str_set
      have b2 := PySem.F.sub_str_frozenset
      have b3 : (Value.type "str" == Value.type "dict") = false := by decide
      have b4 : (Value.type "str" == Value.type "list") = false := by decide
      have b5 : ∀ z : Shared, z.TypeIs (.str x u) "str" := fun z => typeIs_str z x u
      unfold Builtin.«set.__init__» noKeywords Builtin.Frozenset.updateFrom
      generalize hpi : pyIter = PI
      wp_walk
      subst hpi
      refine wpAny_pyIter_str fun o St W st0 => wpAny_bind (wpAny_runValue ?_)
      have calm3 : A.in1.in1.in1.handled = none := by simp [calm]
      have far : s.heap.objs.size ∉ [(s.heap.push (set0 w)).objs.size] := by
        rw [Heap.size_push]
        exact fun z => absurd (List.mem_singleton.mp z) (Nat.ne_of_lt (Nat.lt_succ_self _))
      have val : ∀ (i : Nat) (v : Value), SignAt x i v → ∃ k t, (signsOf x)[i]? = some k ∧ v = .str k t := fun i v ⟨c, t, h1, h2⟩ => ⟨sing c, t, by unfold signsOf; rw [List.getElem?_map, Array.getElem?_toList, h1]; rfl, h2⟩
      have mk2 := Heap.get?_push_of_some o mk
      refine set_loop ((W _ calm3).toS) s.heap.objs.size far (signsOf x) len (by rw [← len]; exact room) val (x.cps.size - 0) 0 _ [] (by omega) (Nat.zero_le _)
        st0 (setT_new mk2) List.nodup_nil (fun k => by simp) (Nat.le_refl _) fun s' l' mv T nd mem zl => ?_
      obtain ⟨h', g', d', tk', os'⟩ := s'
      have e1 : g' = s.gens := mv.gens
      have e2 : d' = s.drawn := mv.drawn
      have e3 : os' = s.os := mv.os
      subst e1
      subst e2
      subst e3
      refine wpAny_pure ?_
      change wpAny _ _ (ret Value.none) _ _ _
      refine wpAny_pure ⟨rfl, h', tk', l', rfl, T, nd, mem, zl, fun b o e => ?_⟩
      have b0 := Heap.lt_size e
      refine mv.heap b o (fun z => ?_) (Heap.get?_push_of_some _ (Heap.get?_push_of_some _ e))
      rcases List.mem_cons.mp z with z | z
      · exact absurd z (Nat.ne_of_lt b0)
      · have y := List.mem_singleton.mp z
        rw [Heap.size_push] at y
        exact absurd y (Nat.ne_of_lt (Nat.lt_succ_of_lt b0))
    · match r2, hr2 with
      | .error e, hr2 => exact hr2
      | .ok .next, hr2 => exact hr2.elim
      | .ok .brk, hr2 => exact hr2.elim
      | .ok .cont, hr2 => exact hr2.elim
      | .ok (.ret v), hr2 =>
        obtain ⟨rfl, hm⟩ := hr2
        repeat (any_goals (first | assumption | wp_step))
        exact q _ hm
end
variable {g : G} {W : WX}
def rSetS (X : Cx) : List V → Hp → VK → Prop := fun vs H Q => ∃ x : Str, vs = [.str x] ∧ x.length < 4000 ∧ ∀ (a : Addr) (l : List Str), H a = none → l.Nodup → (∀ k, k ∈ l ↔ k ∈ signsOf x) → l.length ≤ x.length → Q (.ref a) (upd H a (SetTO X.prog X.w a l))
theorem signs_len (x : Str) : (signsOf x).length = x.length := by unfold signsOf; rw [List.length_map, Array.length_toList]; rfl
theorem call_setS {X : Cx} (hc : X.calm = true) : CallR X (.type "set") (rSetS X) := by
  intro pins s σ H vs us Q I r h
  obtain ⟨x, rfl, small, q⟩ := h
  obtain ⟨u, rfl, t, rfl⟩ := vals1 r
  have sz : x.cps.size = x.length := rfl
  refine set_str (I.ok.hd hc) (by rw [sz]; unfold scanBound; omega) fun s' hm => ?_
  obtain ⟨h', tk, l, rfl, T, nd, mem, ll, kp⟩ := hm
  rw [signs_len] at ll
  exact ⟨.ref _, _, I.laid (t' := tk) kp (Nat.le_refl _) (setTO_ok T), rfl, q _ l (I.hok.fresh (Nat.le_refl _)) nd mem ll⟩
def dSortSet2 : List D → Option Rv
  | [.list ds] => dSortSet [.list ds]
  | [.str x] => if x.length < 4000 then some (.new (.list ((sortS (dedS (signsOf x))).map .str))) else none
  | _ => none
def rSortSet2 (X : Cx) : List V → Hp → VK → Prop := fun vs H Q => rSetT X vs H (fun y H2 => rSortT X [y] H2 Q) ∨ rSetS X vs H (fun y H2 => rSortT X [y] H2 Q)
theorem strOk_sing {x : Str} (h : strOk x = true) : ∀ k ∈ signsOf x, strOk k = true := fun k hk => by
  obtain ⟨c, hc, rfl⟩ := List.mem_map.mp hk
  rw [strOk_iff] at h ⊢
  intro d hd
  have hd : d ∈ [c] := by simpa [sing] using hd
  rw [List.mem_singleton.mp hd]
  exact h c hc
theorem good_sortSet2 {X : Cx} : GoodC ⟨X.K, X.mg⟩ (rSortSet2 X) dSortSet2 := by
  refine ⟨fun F H vs ds Q s h p => ?_, fun ds => ?_⟩
  · unfold dSortSet2 at p
    split at p
    · exact .inl (good_sortSet.run F H vs _ Q s h p)
    · rename_i x
      obtain ⟨v, rfl, hv⟩ := h.one
      obtain ⟨e1, ok⟩ := hv.str
      by_cases small : x.length < 4000
      · rw [if_pos small] at p
        refine .inr ⟨x, by rw [e1], small, fun b l fresh nd mem ll => ⟨b, l, rfl, upd_same, by omega, fun ys c pm so fresh2 => ?_⟩⟩
        have nc : H c = none := by
          by_cases e : c = b
          · rw [e]; exact fresh
          · rw [upd_ne e] at fresh2; exact fresh2
        have pl : ys.Perm (dedS (signsOf x)) := pm.trans ((List.perm_ext_iff_of_nodup nd (dedS_nodup _)).mpr fun k => (mem k).trans dedS_mem.symm)
        rw [sortS_of pl so]
        exact p _ c nc ⟨.refl, (upd_sub fresh).trans (upd_sub fresh2), fun _ h h' => absurd h h', s.trans ((upd_sub fresh).trans (upd_sub fresh2))⟩ (.lst upd_same (denL_strs fun y hy => strOk_sing ok y (dedS_mem.mp ((sortS_perm _).mem_iff.mp hy))))
      · rw [if_neg small] at p; exact p.elim
    · exact p.elim
  · unfold dSortSet2
    split
    · exact (good_sortSet (X := X)).nosl _
    · split <;> first | exact NoSl.new | exact NoSl.none
    · exact NoSl.none
section
variable {X : Cx} {p pos p2 pos2 : Pos} {e : Expr} {f : ME}
theorem de_sortSet2 (hc : X.calm = true) (hs : X.mg "sorted" = none) (hm : X.mg "set" = none) (ha : DE X W e f) (hg : Gl X "sorted" := by rfl) (hg2 : Gl X "set" := by rfl) (he : starEach [e] X.env = (false, eval e X.env) :: starEach [] X.env := by rfl)
    (he2 : starEach [Expr.Call (.Name "set" p2) [e] [] pos2] X.env = (false, eval (.Call (.Name "set" p2) [e] [] pos2) X.env) :: starEach [] X.env := by rfl) (hpl : (backTo pos (starEach [] X.env)).any (·.1) = false := by rfl) (hpl2 : (backTo pos2 (starEach [] X.env)).any (·.1) = false := by rfl) :
    DE X W (.Call (.Name "sorted" p) [.Call (.Name "set" p2) [e] [] pos2] [] pos) (mCallB dSortSet2 [f]) := by
  obtain ⟨t, pt, gt⟩ := ha
  have inner : PE X (.Call (.Name "set" p2) [e] [] pos2) (tCB (fun xs H Q => rSetT X xs H Q ∨ rSetS X xs H Q) (tCons t tNil)) := pe_callTy (CallR.or (call_setT hc) (call_setS hc)) hg2 hm (by decide +kernel) (pa_cons pt pa_nil he) (by decide) (by decide) he hpl2
  have outer := pe_callB (p := p) (call_sortT hc) hg hs (by decide +kernel) (pa_cons inner pa_nil he2) (by decide) (by decide) he2 hpl
  exact ⟨_, outer, good_callB (r := rSortSet2 X) (.cons gt .nil) good_sortSet2⟩
end
end DL
namespace DL
open PySem PySem.Spec L2
/-! ### != of an object whose class has its own == -/
section
variable {prog : Program} {w : World} {A : Around} {E : Value → Shared → Prop} {s : Shared} {K : PySem.W.Frag} {x C f : Addr} {ox : Obj} {od : Option Obj} {b : Value}
theorem ne_entry {Q : Fin → Shared → Prop} (X : K.In s.heap) (I : PySem.W.InstAt s.heap x ox C od) (he : PySem.W.findIn K (.ref C) "__eq__" = some (some (.ref f))) (hf : PySem.W.isFn K (.ref f) = true) (hu : A.units < cLine)
    (h : wpAny (model prog w) A (call (.ref f) [.ref x, b]) (fun v s' => ∃ r, v = .bool r ∧ Q (.done (.ret (.bool (!r)))) s') E s) : wpAny (model prog w) A (Builtin.«object.__ne__» ⟨[.ref x, b], []⟩) Q E s := by
  unfold Builtin.«object.__ne__»
  repeat (first
    | with_reducible refine wpAny_cRoomFor hu ?_
    | (refine wpAny_bind (m := callSpecialIfBound? (.ref x) (Str.ofString "__eq__") [b]) (PySem.W.ifBound_K X I he hf (wpAny_mono h (fun v s' hv => by
          obtain ⟨r, rfl, hq⟩ := hv
          repeat (first | exact hq | exact wpAny_pure hq | exact wpAny_truthy_bool hq | (refine wpAny_bind (m := truthy (.bool _)) (wpAny_truthy_bool ?_)) | wp_step)) fun _ _ e => e)))
    | wp_step)
theorem ne_try {Q : Option Value → Shared → Prop} (X : K.In s.heap) (I : PySem.W.InstAt s.heap x ox C od) (hn : PySem.W.findIn K (.ref C) "__ne__" = some (some (.builtin "object.__ne__"))) (he : PySem.W.findIn K (.ref C) "__eq__" = some (some (.ref f))) (hf : PySem.W.isFn K (.ref f) = true) (ho : PySem.W.subIn K (.ref C) (.type "object") = some true) (hu : A.units + 1 < cLine)
    (h : wpAny (model prog w) A.in1 (call (.ref f) [.ref x, b]) (fun v s' => ∃ r, v = .bool r ∧ Q (some (.bool (!r))) s') E s) : wpAny (model prog w) A (tryCompare (.ref x) "__ne__" b) Q E s := by
  have bd : ∀ self, bindSpecial (.builtin "object.__ne__") self = pure (.builtin "object.__ne__", [self]) := fun self => PySem.F.cmp_object.ne.bind self
  have isO : PySem.W.Looks (model prog w) s.heap (isInstance (.ref x) (.type "object")) true := I.type.andThen (PySem.W.looks_subIn X ho)
  have go : wpAny (model prog w) A (call (.builtin "object.__ne__") [.ref x, b]) (fun v s' => ∃ r, v = .bool r ∧ Q (some (.bool r)) s') E s := by
    refine wpAny_call (codeAny_call_builtin PySem.F.cmp_object.ne.plain PySem.F.cmpEntry_ne (PySem.W.check_slot PySem.F.cmpKind_ne PySem.F.cmpSplit_ne isO (PySem.F.cmpArgs_ne _ _) (ne_entry (A := A.in1) X I he hf hu (wpAny_mono h (fun v s' hv => ?_) fun _ _ e => e))))
    obtain ⟨r, rfl, hq⟩ := hv
    exact ⟨r, rfl, ⟨!r, rfl, hq⟩⟩
  unfold tryCompare
  refine wpAny_bind ?_
  simp only [callSpecialIfBound?, bindSpecialIfBound?]
  refine wpAny_holding (wpAny_bind (wpAny_bind (wpAny_bind (I.type.here ((PySem.W.looks_findIn X hn).here ?_)))))
  refine wpAny_bind (wpAny_askSetting (wpAny_ite ?_))
  have fin : wpAny (model prog w) A (call (.builtin "object.__ne__") ([.ref x] ++ [b]) >>= fun v => pure (some v)) (fun r s' => wpAny (model prog w) A (match r with
      | some .notImplemented | none => pure none
      | some v => pure (some v)) Q E s') E s := wpAny_bind (wpAny_mono go (fun v s' hv => by obtain ⟨r, rfl, hq⟩ := hv; exact wpAny_pure (wpAny_pure hq)) fun _ _ e => e)
  rw [bd]
  split
  · exact wpAny_bind (wpAny_pure (wpAny_pure (by exact fin)))
  · exact wpAny_tryCatch (wpAny_bind (wpAny_pure (wpAny_pure (by exact fin))))
end
section
variable {prog : Program} {w : World} {A : Around} {E : Value → Shared → Prop} {s : Shared} {K : PySem.W.Frag} {x C f L : Addr} {h₀ : Heap} {m : Str → Option Value} {ox : Obj} {od : Option Obj} {b tb : Value}
theorem ne_rc {Q : Value → Shared → Prop} (hu : A.units + 1 < cLine) (X : K.In s.heap) (I : PySem.W.InstAt s.heap x ox C od) (hb : PySem.W.Looks (model prog w) s.heap (typeOf b) tb) (nf : PySem.W.notFirst K C tb = true) (hn : PySem.W.findIn K (.ref C) "__ne__" = some (some (.builtin "object.__ne__"))) (he : PySem.W.findIn K (.ref C) "__eq__" = some (some (.ref f))) (hf : PySem.W.isFn K (.ref f) = true) (ho : PySem.W.subIn K (.ref C) (.type "object") = some true)
    (h : wpAny (model prog w) A.in1 (call (.ref f) [.ref x, b]) (fun v s' => ∃ r, v = .bool r ∧ Q (.bool (!r)) s') E s) : wpAny (model prog w) A (richCompare .NotEq (.ref x) b) Q E s := by
  have one : wpAny (model prog w) A (tryCompare (.ref x) "__ne__" b) (fun r s' => ∃ v, r = some v ∧ Q v s') E s := ne_try X I hn he hf ho hu (wpAny_mono h (fun v s' hv => by obtain ⟨r, e, hq⟩ := hv; exact ⟨r, e, _, rfl, hq⟩) fun _ _ e => e)
  unfold richCompare
  simp only [oneThing_ref]
  refine wpAny_holding (wpAny_bind (wpAny_cRoomFor (by omega) ?_))
  refine wpAny_bind (I.type.here (wpAny_bind (hb.here ?_)))
  have last : ∀ {z : Bool}, z = false → wpAny (model prog w) A (tryCompare (.ref x) "__ne__" b) (fun r s' => ∃ v, r = some v ∧ Q v s') E s := fun _ => one
  split
  · rename_i q
    have e : PySem.W.subIn K tb (.ref C) = some false := by
      rcases Bool.or_eq_true_iff.mp nf with e | e
      · rw [beq_iff_eq.mp e] at q; simp at q
      · exact beq_iff_eq.mp e
    refine wpAny_bind ((PySem.W.looks_subIn X e).here ?_)
    simp only [Bool.false_eq_true, if_false]
    refine wpAny_bind (wpAny_mono one (fun r s' z => ?_) fun _ _ e => e)
    obtain ⟨v, rfl, hq⟩ := z
    exact wpAny_pure hq
  · refine wpAny_bind (wpAny_pure ?_)
    simp only [Bool.false_eq_true, if_false]
    refine wpAny_bind (wpAny_mono one (fun r s' z => ?_) fun _ _ e => e)
    obtain ⟨v, rfl, hq⟩ := z
    exact wpAny_pure hq
end
/-! ### == and != as expressions -/
variable {g : G} {W : WX}
abbrev othTy : List String := ["list", "tuple", "str", "int", "bool", "NoneType"]
/-- a class of the text with its own == -/
structure CalE (P : Program) (w : World) (K : PySem.W.Frag) (mg : Str → Option Value) (base : Heap) (c : Str) (k : Nat) (ps : List Str) (fm : FM) : Prop where
  ex : ∃ C f fd, mg c = some (.ref C) ∧ PySem.W.findIn K (.ref C) "__eq__" = some (some (.ref f)) ∧ PySem.W.isFn K (.ref f) = true ∧ PySem.W.findIn K (.ref C) "__ne__" = some (some (.builtin "object.__ne__")) ∧
    PySem.W.subIn K (.ref C) (.type "object") = some true ∧ (∀ T ∈ othTy, PySem.W.subIn K (.type T) (.ref C) = some false) ∧ FnG P w K mg base k f fd ps fm ∧ Binds K fd ps []
def rEqO (g : G) (C : Addr) (fm : FM) (neg : Bool) : R2 := fun x y H Q => ∃ a dx fs, x = .ref a ∧ H a = some (.ins C dx fs) ∧ ((∃ b dy gs, y = .ref b ∧ H b = some (.ins C dy gs)) ∨ ∃ T, T ∈ othTy ∧ TyX g.K H y (.type T)) ∧
  fnSp g fm [x, y] H (fun v H' => ∃ r, v = .bl r ∧ Q (.bl (if neg = true then !r else r)) H') (fun _ _ _ => False)
theorem op_eqO {X : Cx} {k : Nat} {C f : Addr} {fd : FuncData} {ps : List Str} {fm : FM} (F : FnG X.prog X.w X.K X.mg X.base k f fd ps fm) (hr : Room (k + 1) X.A) (gd : X.A.guards = some []) (bd : Binds X.K fd ps []) (he : PySem.W.findIn X.K (.ref C) "__eq__" = some (some (.ref f))) (hf : PySem.W.isFn X.K (.ref f) = true)
    (hn : PySem.W.findIn X.K (.ref C) "__ne__" = some (some (.builtin "object.__ne__"))) (ho : PySem.W.subIn X.K (.ref C) (.type "object") = some true) (ht : ∀ T ∈ othTy, PySem.W.subIn X.K (.type T) (.ref C) = some false) (neg : Bool) :
    OpR X (compareOp (if neg = true then .NotEq else .Eq)) (rEqO ⟨X.K, X.mg⟩ C fm neg) := by
  intro pins s σ H x y v u Q I rx ry hq
  obtain ⟨a, dx, fs, rfl, ha, hy, sp⟩ := hq
  cases rx
  obtain ⟨mA, J, _⟩ := ins_get I.hok ha
  obtain ⟨od, J, _⟩ := J.look
  have len : ([Value.ref a, u]).length = ps.length := fnSp_len F.len sp
  obtain ⟨tb, lk, nf⟩ : ∃ tb, PySem.W.Looks (model X.prog X.w) s.heap (typeOf u) tb ∧ PySem.W.notFirst X.K C tb = true := by
    rcases hy with ⟨b, dy, gs, rfl, hb⟩ | ⟨T, hT, ty⟩
    · cases ry
      obtain ⟨mB, J', _⟩ := ins_get I.hok hb
      obtain ⟨od', J', _⟩ := J'.look
      exact ⟨.ref C, J'.type, by simp [PySem.W.notFirst]⟩
    · obtain ⟨P, Z, p, _⟩ := kit_of I ry ty
      exact ⟨_, Z.ty _ _ I.kIn p, by unfold PySem.W.notFirst; rw [ht T hT]; simp⟩
  have r2 : Vals [V.ref a, y] [Value.ref a, u] := .cons rfl (.cons ry .nil)
  have fin : ∀ {E' : XK} {r : Result} {s' : Shared} (R : Value → Shared → Prop), (∀ u' s'', EP X pins σ (fun v H' => ∃ r, v = .bl r ∧ Q (.bl (if neg = true then !r else r)) H') u' s'' → R u' s'') →
      True := fun _ _ => trivial
  have go : ∀ (A : Around) (e0 : Env0 X.prog X.w X.K X.mg X.base A X.stack s H) (rm : Room k A) (gA : A.guards = some []), wpAny (model X.prog X.w) A (call (.ref f) [.ref a, u]) (fun v s' => ∃ r, v = .bool r ∧ EP X pins σ Q (.bool (if neg = true then !r else r)) s') X.xe s := fun A e0 rm gA => by
    refine wpAny_call (codeAny_mono (F.run A X.stack s H ⟨[.ref a, u], []⟩ [.ref a, u] [.ref a, y] _ _ rm gA e0 (by have := bd s [.ref a, u] I.kIn len; simpa using this) r2 sp) fun r s' q => ?_)
    match r, q with
    | .error e, q => obtain ⟨_, _, _, _, _, _, _, _, _, _, _, _, _, z⟩ := q
    | .ok .next, q => exact q.elim
    | .ok .brk, q => exact q.elim
    | .ok .cont, q => exact q.elim
    | .ok (.ret z), q =>
      obtain ⟨v2, H', I3, rv, b, e, q3⟩ := I.after q
      subst e
      cases rv
      exact ⟨b, rfl, .bl _, H', I3, rfl, q3⟩
  obtain ⟨m, hF⟩ := I.fr
  cases neg with
  | false =>
    show wpAny (model X.prog X.w) X.A (richCompare .Eq (.ref a) u) (EP X pins σ Q) X.xe s
    refine PySem.W.cmp_K (op := .Eq) (tb := tb) hr.units0 hF I.ok.mod.kin J lk nf he hf (wpAny_mono (go X.A I.env0 (hr.mono (by omega)) gd) (fun v s' hv => ?_) fun _ _ e => e)
    obtain ⟨r, rfl, q⟩ := hv
    exact q
  | true =>
    show wpAny (model X.prog X.w) X.A (richCompare .NotEq (.ref a) u) (EP X pins σ Q) X.xe s
    exact ne_rc (by have := hr.units; omega) I.kIn J lk nf hn he hf ho (go X.A.in1 I.env0.in1 hr.in1 gd)
def eqTy (c : Str) : D → Bool
  | .list _ => true
  | .tuple _ => true
  | .str _ => true
  | .int _ => true
  | .bool _ => true
  | .none => true
  | d => isIns c d
theorem Pk.ins1 {c : Str} {C : Addr} (hc : g.mg c = some (.ref C)) {F H : Hp} {v : V} {d : D} (s : Sub F H) (h : Pk g F H v d) (hi : isIns c d = true) : ∃ a dx fs, v = .ref a ∧ H a = some (.ins C dx fs) := by
  unfold isIns at hi
  split at hi
  · rename_i c' kvs
    have e : c' = c := by simpa using hi
    subst e
    obtain ⟨a, C2, dx, fs, ds, e1, e2, e3, _, _⟩ := h.ins s
    rw [hc] at e2; cases e2
    exact ⟨a, dx, fs, e1, e3⟩
  · cases hi
theorem Pk.ty2 {c : Str} {F H : Hp} {v : V} {d : D} (s : Sub F H) (h : Pk g F H v d) (hi : eqTy c d = true) (hn : ¬ isIns c d = true) : ∃ T, T ∈ othTy ∧ TyX g.K H v (.type T) := by
  cases d with
  | list ds =>
    obtain ⟨a, xs, rfl, e, _⟩ := h.lst s
    exact ⟨_, by simp, .base (.lst e)⟩
  | tuple ds =>
    obtain ⟨a, xs, rfl, e, _⟩ := h.tup s
    rcases e with (e | ⟨o, e⟩) | ⟨o, its, n, e1, e2, _⟩
    · exact ⟨_, by simp, .base (.tup e)⟩
    · exact ⟨_, by simp, .fTuple e⟩
    · exact ⟨_, by simp, .kTuple e1 e2⟩
  | str x => rw [h.str.1]; exact ⟨"str", by simp, .base (.str x)⟩
  | int x => rw [h.int]; exact ⟨"int", by simp, .base (.int x)⟩
  | bool x => rw [h.bl]; exact ⟨"bool", by simp, .base (.bl x)⟩
  | none => rw [h.non]; exact ⟨"NoneType", by simp, .base .non⟩
  | _ => exact absurd hi hn
theorem Pk.ty {c : Str} {C : Addr} (hc : g.mg c = some (.ref C)) {F H : Hp} {v : V} {d : D} (s : Sub F H) (h : Pk g F H v d) (hi : eqTy c d = true) :
    (∃ b dy gs, v = .ref b ∧ H b = some (.ins C dy gs)) ∨ ∃ T, T ∈ othTy ∧ TyX g.K H v (.type T) := by
  by_cases hn : isIns c d = true
  · exact .inl (h.ins1 hc s hn)
  · exact .inr (h.ty2 s hi hn)
def eqRes (neg : Bool) (env : Env) : Res (Rv × Env) → Res (Rv × Env)
  | .ok (.val (.bool b), _) => .ok (.val (.bool (if neg = true then !b else b)), env)
  | _ => .stuck
def mEqO (c : Str) (fm : FM) (neg : Bool) (f h : ME) : ME := fun env => f env >>= fun z => z.1.frz z.2 >>= fun y => h y.2 >>= fun x => x.1.frz x.2 >>= fun u => if isIns c y.1 = true ∧ eqTy c u.1 = true then eqRes neg u.2 (fm [.fz y.1, .fz u.1]) else .stuck
theorem good_eqO {c : Str} {C : Addr} (hc : g.mg c = some (.ref C)) (fm : FM) (neg : Bool) {ta tb : TE} {f h : ME} (ha : GoodE g W ta f) (hb : GoodE g W tb h) : GoodE g W (tOp (rEqO g C fm neg) ta tb) (mEqO c fm neg f h) := fun F H σ env Q k p => by
  refine ha F H σ env _ k (Post.bindF (R' := RE g) RE.early p fun d e2 F2 H2 v x2 k2 kp2 hd p2 => ?_)
  refine hb F2 H2 σ e2 _ k2 (Post.bindF (R' := RE g) RE.early p2 fun d' e3 F3 H3 v' x3 k3 kp3 hd' p3 => ?_)
  have hd3 := Den.mono x3.sub hd
  by_cases hi : isIns c d = true ∧ eqTy c d' = true
  · simp only [if_pos hi] at p3
    obtain ⟨a, dx, fs, e1, e4⟩ := Pk.ins1 hc k3.sub (.inl hd3) hi.1
    refine ⟨a, dx, fs, e1, e4, Pk.ty hc k3.sub (.inl hd') hi.2, ?_⟩
    obtain ⟨ke, no⟩ := fz_env (g := g) (vs := [v, v']) (ds := [d, d']) k3.sub (.cons hd3 (.cons hd' .nil))
    refine ⟨F3, [.fz d, .fz d'], ke, ?_⟩
    have grow : ∀ {F' H' : Hp} {O' : Addr → Prop}, Ext F3 H3 (Own ([v, v'].map some) [Sl.fz d, Sl.fz d']) F' H' O' → Sub F' H' → Grow F3 H3 F' H' := fun y s =>
      ⟨y.sub, fun b o e => y.keep b o e (no b), fun b q1 q2 => (y.new b q1 q2).elim id fun z => absurd z (no b), s⟩
    cases hf : fm [Sl.fz d, Sl.fz d'] with
    | stuck => rw [hf] at p3; exact p3.elim
    | ex => rw [hf] at p3; exact p3.elim
    | ok z =>
      obtain ⟨r, e⟩ := z
      rw [hf] at p3
      intro F' H' w y k' kp rv
      have gr := grow y k'.sub
      cases r with
      | val d0 =>
        cases d0 with
        | bool b =>
          have rv : Den g F' w (.bool b) := rv
          exact ⟨b, Pk.bl (g := g) (F := F') (H := H') (.inl rv), p3 F' H' _ gr.ext (k3.grow gr) .refl (.bl _)⟩
        | _ => exact p3.elim
      | new d' => exact p3.elim
      | sl i => exact p3.elim
  · simp only [if_neg hi] at p3; exact p3.elim
section
variable {X : Cx} {c : Str} {k j : Nat} {ps : List Str} {fm : FM} {a b : Expr} {pos : Pos} {f h : ME}
theorem de_eqO (ce : CalE X.prog X.w X.K X.mg X.base c j ps fm) (hr : Room k X.A) (hj : j + 1 ≤ k) (gd : X.A.guards = some []) (ha : DE X W a f) (hb : DE X W b h) : DE X W (.Compare a [.Eq] [b] pos) (mEqO c fm false f h) := by
  obtain ⟨C, f, fd, hm, he, hf, hn, ho, ht, F, bd⟩ := ce
  obtain ⟨ta, pa, ga⟩ := ha
  obtain ⟨tb, pb, gb⟩ := hb
  exact ⟨_, pe_cmpR (op_eqO F (hr.mono hj) gd bd he hf hn ho ht false) pa pb (nobehind _ (by decide) (by decide)), good_eqO (g := ⟨X.K, X.mg⟩) hm fm false ga gb⟩
theorem de_neO (ce : CalE X.prog X.w X.K X.mg X.base c j ps fm) (hr : Room k X.A) (hj : j + 1 ≤ k) (gd : X.A.guards = some []) (ha : DE X W a f) (hb : DE X W b h) : DE X W (.Compare a [.NotEq] [b] pos) (mEqO c fm true f h) := by
  obtain ⟨C, f, fd, hm, he, hf, hn, ho, ht, F, bd⟩ := ce
  obtain ⟨ta, pa, ga⟩ := ha
  obtain ⟨tb, pb, gb⟩ := hb
  exact ⟨_, pe_cmpR (op_eqO F (hr.mono hj) gd bd he hf hn ho ht true) pa pb (nobehind _ (by decide) (by decide)), good_eqO (g := ⟨X.K, X.mg⟩) hm fm true ga gb⟩
theorem dt_eqO (ce : CalE X.prog X.w X.K X.mg X.base c j ps fm) (hr : Room k X.A) (hj : j + 1 ≤ k) (gd : X.A.guards = some []) (ha : DE X W a f) (hb : DE X W b h) : DT X W (.Compare a [.Eq] [b] pos) (mTest (mEqO c fm false f h)) := by
  obtain ⟨C, f, fd, hm, he, hf, hn, ho, ht, F, bd⟩ := ce
  obtain ⟨ta, pa, ga⟩ := ha
  obtain ⟨tb, pb, gb⟩ := hb
  exact ⟨_, pt_cmpR (op_eqO F (hr.mono hj) gd bd he hf hn ho ht false) pa pb (nobehind _ (by decide) (by decide)), good_test (good_eqO (g := ⟨X.K, X.mg⟩) hm fm false ga gb)⟩
theorem dt_neO (ce : CalE X.prog X.w X.K X.mg X.base c j ps fm) (hr : Room k X.A) (hj : j + 1 ≤ k) (gd : X.A.guards = some []) (ha : DE X W a f) (hb : DE X W b h) : DT X W (.Compare a [.NotEq] [b] pos) (mTest (mEqO c fm true f h)) := by
  obtain ⟨C, f, fd, hm, he, hf, hn, ho, ht, F, bd⟩ := ce
  obtain ⟨ta, pa, ga⟩ := ha
  obtain ⟨tb, pb, gb⟩ := hb
  exact ⟨_, pt_cmpR (op_eqO F (hr.mono hj) gd bd he hf hn ho ht true) pa pb (nobehind _ (by decide) (by decide)), good_test (good_eqO (g := ⟨X.K, X.mg⟩) hm fm true ga gb)⟩
end
/-! ### isinstance(e, C) of a class of the text -/
structure ClsI (K : PySem.W.Frag) (mg : Str → Option Value) (c : Str) : Prop where
  ex : ∃ C, mg c = some (.ref C) ∧ Cls K C ∧ PySem.W.findIn K (.ref C) "__class__" = some (some (.builtin "object.__class__")) ∧ PySem.W.specialIn K (.builtin "object.__class__") "__get__" = some (some (.builtin "getset_descriptor.__get__")) ∧
    PySem.W.takesIn K (.builtin "object.__class__") = some true ∧ PySem.W.mroIn K C (.type "object") = some true ∧ ∀ T ∈ othTy, PySem.W.kitOne K (.type T) (.ref C) = some false
def dIsa (c : Str) (d : D) : Option Rv := if isIns c d = true then some (.val (.bool true)) else if eqTy c d = true then some (.val (.bool false)) else none
def rIsaC (K : PySem.W.Frag) (C : Addr) : V → Hp → VK → Prop := fun x H Q => rIsi K [x, .ref C] H Q
theorem good_isa {c : Str} {C : Addr} (hc : g.mg c = some (.ref C)) (cl : Cls g.K C) (h1 : PySem.W.findIn g.K (.ref C) "__class__" = some (some (.builtin "object.__class__"))) (h2 : PySem.W.specialIn g.K (.builtin "object.__class__") "__get__" = some (some (.builtin "getset_descriptor.__get__")))
    (h3 : PySem.W.takesIn g.K (.builtin "object.__class__") = some true) (h4 : PySem.W.mroIn g.K C (.type "object") = some true) (h5 : ∀ T ∈ othTy, PySem.W.kitOne g.K (.type T) (.ref C) = some false) : Good1 g (rIsaC g.K C) (dIsa c) := by
  refine ⟨fun F H x d Q s hx p => ?_, fun d => ?_⟩
  · unfold dIsa at p
    by_cases hi : isIns c d = true
    · rw [if_pos hi] at p
      obtain ⟨a, dx, fs, rfl, e⟩ := hx.ins1 hc s hi
      refine ⟨_, _, .ref C, .ref C, true, rfl, .own C, .base (.ins e cl h1 h2 h3 h4), ?_, p.val0 s (.bl _)⟩
      unfold PySem.W.kitOne
      rw [if_pos (by simp)]
    · rw [if_neg hi] at p
      by_cases he : eqTy c d = true
      · rw [if_pos he] at p
        obtain ⟨T, hT, ty⟩ := hx.ty2 s he hi
        exact ⟨_, _, .type T, .ref C, false, rfl, .own C, ty, h5 T hT, p.val0 s (.bl _)⟩
      · rw [if_neg he] at p; exact p.elim
  · unfold dIsa
    split
    · exact NoSl.val
    · split <;> first | exact NoSl.val | exact NoSl.none
section
variable {X : Cx} {c : Str} {e : Expr} {f : ME} {p p2 pos : Pos}
theorem de_isa (ci : ClsI X.K X.mg c) (hm : X.mg "isinstance" = none) (he : DE X W e f) (hg : Gl X "isinstance" := by rfl) (hg2 : Gl X c := by rfl) (hd : (c == ("__debug__" : Str)) = false := by decide) (h1 : starEach [e, .Name c p2] X.env = (false, eval e X.env) :: starEach [.Name c p2] X.env := by rfl)
    (h2 : starEach [.Name c p2] X.env = (false, eval (.Name c p2) X.env) :: starEach [] X.env := by rfl) (hpl : (backTo pos (starEach [.Name c p2] X.env)).any (·.1) = false := by rfl) : DE X W (.Call (.Name "isinstance" p) [e, .Name c p2] [] pos) (mUn (dIsa c) f) := by
  obtain ⟨C, hc, cl, a1, a2, a3, a4, a5⟩ := ci
  obtain ⟨ta, pa, ga⟩ := he
  exact ⟨_, pe_callB (t := tCons ta (tCons (tC (.ref C)) tNil)) call_isi hg hm (by decide +kernel) (pa_cons pa (pa_cons (pe_glob hg2 hc rfl hd) pa_nil h2) h1) (by decide) (by decide) h1 hpl, good_un (r := rIsaC X.K C) ga (good_isa (g := ⟨X.K, X.mg⟩) hc cl a1 a2 a3 a4 a5)⟩
end
/-! ### isinstance(e, T) of a type that is built in -/
def tyN : D → Option String
  | .list _ => some "list"
  | .tuple _ => some "tuple"
  | .str _ => some "str"
  | .int _ => some "int"
  | .bool _ => some "bool"
  | .none => some "NoneType"
  | _ => none
theorem Pk.tyN {F H : Hp} {v : V} {d : D} {T : String} (s : Sub F H) (h : Pk g F H v d) (hi : tyN d = some T) : TyX g.K H v (.type T) := by
  cases d with
  | list ds =>
    cases hi
    obtain ⟨a, xs, rfl, e, _⟩ := h.lst s
    exact .base (.lst e)
  | tuple ds =>
    cases hi
    obtain ⟨a, xs, rfl, e, _⟩ := h.tup s
    rcases e with (e | ⟨o, e⟩) | ⟨o, its, n, e1, e2, _⟩
    · exact .base (.tup e)
    · exact .fTuple e
    · exact .kTuple e1 e2
  | str x => cases hi; rw [h.str.1]; exact .base (.str x)
  | int x => cases hi; rw [h.int]; exact .base (.int x)
  | bool x => cases hi; rw [h.bl]; exact .base (.bl x)
  | none => cases hi; rw [h.non]; exact .base .non
  | _ => cases hi
def dIsaT (T : String) (d : D) : Option Rv := match tyN d with
  | some a => match kitB a T with
    | some b => some (.val (.bool b))
    | none => none
  | none => none
def rIsaT (K : PySem.W.Frag) (T : String) : V → Hp → VK → Prop := fun x H Q => rIsi K [x, .ty T] H Q
theorem good_isaT (T : String) : Good1 g (rIsaT g.K T) (dIsaT T) := by
  refine ⟨fun F H x d Q s hx p => ?_, fun d => ?_⟩
  · unfold dIsaT at p
    cases h1 : DL.tyN d with
    | none => rw [h1] at p; exact p.elim
    | some a =>
      rw [h1] at p
      dsimp only at p
      cases h2 : kitB a T with
      | none => rw [h2] at p; exact p.elim
      | some b =>
        rw [h2] at p
        exact ⟨_, _, .type a, .type T, b, rfl, .ty T, hx.tyN s h1, kit_ty h2, p.val0 s (.bl _)⟩
  · unfold dIsaT
    split
    · split <;> first | exact NoSl.val | exact NoSl.none
    · exact NoSl.none
section
variable {X : Cx} {e : Expr} {f : ME} {p p2 pos : Pos}
theorem de_isaT {c : Str} (T : String) (hv : bootBuiltins c = some (.type T)) (hm : X.mg "isinstance" = none) (hm2 : X.mg c = none) (he : DE X W e f) (hg : Gl X "isinstance" := by rfl) (hg2 : Gl X c := by rfl) (hn : c ≠ "__name__" := by decide) (hd : (c == ("__debug__" : Str)) = false := by decide) (h1 : starEach [e, .Name c p2] X.env = (false, eval e X.env) :: starEach [.Name c p2] X.env := by rfl)
    (h2 : starEach [.Name c p2] X.env = (false, eval (.Name c p2) X.env) :: starEach [] X.env := by rfl) (hpl : (backTo pos (starEach [.Name c p2] X.env)).any (·.1) = false := by rfl) : DE X W (.Call (.Name "isinstance" p) [e, .Name c p2] [] pos) (mUn (dIsaT T) f) := by
  obtain ⟨ta, pa, ga⟩ := he
  exact ⟨_, pe_callB (t := tCons ta (tCons (tC (.ty T)) tNil)) call_isi hg hm (by decide +kernel) (pa_cons pa (pa_cons (pe_bltn hg2 hm2 hv rfl hn hd) pa_nil h2) h1) (by decide) (by decide) h1 hpl, good_un (r := rIsaT X.K T) ga (good_isaT (g := ⟨X.K, X.mg⟩) T)⟩
end
theorem kitOne_of {K : PySem.W.Frag} {C : Addr} {T : String} (h1 : PySem.W.isClsIn K C = true) (h2 : PySem.W.typeIn K (.ref C) = some (.type "type")) (h3 : PySem.W.subIn K (.type T) (.ref C) = some false) : PySem.W.kitOne K (.type T) (.ref C) = some false := by
  unfold PySem.W.kitOne PySem.W.kitCls
  have h1' : (PySem.W.clsIn K C).isSome = true := h1
  rw [if_neg (by simp)]
  dsimp only
  rw [h1', h2, if_pos (by simp)]
  exact h3
end DL
namespace DL
open PySem PySem.Spec L2
variable {g : G} {W : WX}
/-! ### reverse, clear -/
def mReverse (j : Nat) : ME := fun env => match ownL env j with
  | some (k, ds) => .ok (.val .none, env.set j (.ow k (.list ds.reverse)))
  | none => .stuck
theorem good_reverse {j : Nat} : GoodE g W (tBM0 g.K "list" rReverse (tVar j)) (mReverse j) := fun F H σ env Q k p => by
  unfold mReverse at p
  cases ho : ownL env j with
  | none => simp only [ho] at p; exact p.elim
  | some w =>
    obtain ⟨kd, ds⟩ := w
    simp only [ho] at p
    obtain ⟨a, xs, s1, ha, hd⟩ := k.ownL ho
    obtain ⟨he, hk⟩ := ownL_ok ho
    have dw : OwnAt g F (upd H a (.lst xs.reverse)) a (.list ds.reverse) := .lst upd_same hd.reverse
    obtain ⟨z1, z2, z3⟩ := k.change he s1 hk dw
    exact ⟨_, s1, .inl ⟨rfl, xs, .inl (.inl ha)⟩, a, xs, rfl, rfl, ha, p F _ .non z1 z2 z3 .non⟩
theorem de_reverse {X : Cx} {j : Nat} {x : Str} {np apos cpos : Pos} (hN : X.N[j]? = some x) (hv : Vis X.env.scope x) (hbase : attributeBase (.Name x np) "reverse" X.env (eval (.Name x np) X.env) = eval (.Name x np) X.env := by rfl) (hline : (apos.endLine == cpos.line) = true := by rfl)
    (hd : (x == ("__debug__" : Str)) = false := by decide) (hcd : (x == ("__classdict__" : Str)) = false := by decide) : DE X W (.Call (.Attribute (.Name x np) "reverse" apos) [] [] cpos) (mReverse j) :=
  ⟨_, pe_bm0 PySem.F.plainAttrs_list PySem.F.slot_list_reverse PySem.F.type_list_reverse mt_reverse (pe_var hN hv hd hcd) hbase hline, good_reverse⟩
def rClear : V → List V → Hp → VK → Prop := fun x vs H Q => ∃ l xs, x = .ref l ∧ vs = [] ∧ H l = some (.lst xs) ∧ Q .non (upd H l (.lst []))
theorem mt_clear {X : Cx} : MtR X "list.clear" rClear := by
  intro pins s σ H x vs v us Q I rx rv h
  obtain ⟨l, xs, rfl, rfl, hH, q⟩ := h
  cases rx
  have hus := rv.zero
  subst hus
  obtain ⟨z, its, n, r, hl, e⟩ := I.lstM hH
  refine call_meets PySem.F.slot_list_clear ⟨_, e, rfl⟩ PySem.F.entry_list_clear (PySem.F.args_list_clear_1 _) (PySem.AutoSeq1.list_clear_list_0 l its.toArray n (by rw [List.size_toArray]; omega)) ⟨e, ?_⟩
  refine ⟨.non, _, I.lset (its' := []) hH e ?_ .nil ?_, rfl, q⟩
  · rfl
  · simp
def mClear (j : Nat) : ME := fun env => match ownL env j with
  | some (k, ds) => .ok (.val .none, env.set j (.ow k (.list [])))
  | none => .stuck
theorem good_clear {j : Nat} : GoodE g W (tBM0 g.K "list" rClear (tVar j)) (mClear j) := fun F H σ env Q k p => by
  unfold mClear at p
  cases ho : ownL env j with
  | none => simp only [ho] at p; exact p.elim
  | some w =>
    obtain ⟨kd, ds⟩ := w
    simp only [ho] at p
    obtain ⟨a, xs, s1, ha, hd⟩ := k.ownL ho
    obtain ⟨he, hk⟩ := ownL_ok ho
    have dw : OwnAt g F (upd H a (.lst [])) a (.list []) := .lst upd_same .nil
    obtain ⟨z1, z2, z3⟩ := k.change he s1 hk dw
    exact ⟨_, s1, .inl ⟨rfl, xs, .inl (.inl ha)⟩, a, xs, rfl, rfl, ha, p F _ .non z1 z2 z3 .non⟩
theorem de_clear {X : Cx} {j : Nat} {x : Str} {np apos cpos : Pos} (hN : X.N[j]? = some x) (hv : Vis X.env.scope x) (hbase : attributeBase (.Name x np) "clear" X.env (eval (.Name x np) X.env) = eval (.Name x np) X.env := by rfl) (hline : (apos.endLine == cpos.line) = true := by rfl)
    (hd : (x == ("__debug__" : Str)) = false := by decide) (hcd : (x == ("__classdict__" : Str)) = false := by decide) : DE X W (.Call (.Attribute (.Name x np) "clear" apos) [] [] cpos) (mClear j) :=
  ⟨_, pe_bm0 PySem.F.plainAttrs_list PySem.F.slot_list_clear PySem.F.type_list_clear mt_clear (pe_var hN hv hd hcd) hbase hline, good_clear⟩
/-! ### repr as a value -/
def mReprV (f : MR) : ME := fun env => f env >>= fun z => if strOk z.1 = true then .ok (.val (.str z.1), z.2) else .stuck
theorem good_reprV {t : TE} {f : MR} (h : Good RS g W t f) : GoodE g W t (mReprV f) := fun F H σ env Q k p => by
  refine (h F H σ env _ k (Post.bind RE.early p fun r1 e1 F1 H1 x x1 k1 kp1 rv1 p1 => ?_))
  have rv1 : x = .str r1 := rv1
  subst rv1
  by_cases ok : strOk r1 = true
  · rw [if_pos ok] at p1
    exact p1 F1 H1 _ .refl k1 .refl (.str _ ok)
  · rw [if_neg ok] at p1; exact p1.elim
theorem de_reprV {X : Cx} {e : Expr} {f : MR} (h : DR X W e f) : DE X W e (mReprV f) := by
  obtain ⟨t, pt, gt⟩ := h
  exact ⟨t, pt, good_reprV gt⟩
/-! ### C(k = e, ..) -/
structure CalMK (P : Program) (w : World) (K : PySem.W.Frag) (mg : Str → Option Value) (base : Heap) (c : Str) (k : Nat) (ps ks : List Str) (fm : FM) : Prop where
  ex : ∃ C f fd, mg c = some (.ref C) ∧ Mk K C f ∧ FnG P w K mg base k f fd ps fm ∧ ∀ (s : Shared) (self : Value) (ws : List Value), K.In s.heap → ws.length = ks.length → BindsTo s fd ⟨[self], ks.zip ws⟩ (ps.zip (self :: ws))
theorem Vals.len {vs : List V} {us : List Value} (r : Vals vs us) : vs.length = us.length := r.length
theorem pe_makeK {X : Cx} {k : Nat} {f C : Addr} {fd : FuncData} {ps ks : List Str} {fm : FM} {x : Str} {p pos : Pos} {kws : List Keyword} {t : TA} (M : Mk X.K C f) (F : FnG X.prog X.w X.K X.mg X.base k f fd ps fm) (hr : Room (k + 1) X.A) (gd : X.A.guards = some []) (tk : Takes X W) (hg : Gl X x) (hm : X.mg x = some (.ref C))
    (hb : ∀ (s : Shared) (self : Value) (ws : List Value), X.K.In s.heap → ws.length = ks.length → BindsTo s fd ⟨[self], ks.zip ws⟩ (ps.zip (self :: ws))) (hp : ps.length = ks.length + 1) (ha : PK X kws t) (hall : (backToKw pos (keywordEach kws X.env)).all (·.1.isSome) = true := by rfl) (hks : (backToKw pos (keywordEach kws X.env)).filterMap (·.1) = ks := by rfl)
    (hdb : (x == ("__debug__" : Str)) = false := by decide) (hpl : ((backTo pos (starEach [] X.env)).any (·.1) || (backToKw pos (keywordEach kws X.env)).any (·.1.isNone)) = false := by rfl) :
    PE X (.Call (.Name x p) [] kws pos) (tMakeG ⟨X.K, X.mg⟩ C fm W t) := by
  refine ⟨fun pins s σ H Q I h => wpAny_Call_Name_kw (ld_glob I hg hm ?_ hdb)⟩
  refine PySem.W.callWith_KW0 (h₀ := X.base) I.ok.mod.kin M.kp hall (thn (ha.run pos pins s σ H _ I h) fun ws s1 ⟨vs, H1, I1, r, q⟩ => ⟨I1.kIn, ?_⟩) hpl
  rw [hks]
  exact wpAny_call (run_mkG (us := []) (ws := ws) M F hr gd tk (fun s' self hk hl => hb s' self ws hk (by rw [List.length_cons, hp] at hl; omega)) I1 r q)
theorem de_makeK {X : Cx} {x : Str} {k j : Nat} {ps ks : List Str} {fm : FM} {p pos : Pos} {kws : List Keyword} {gs : List ME} (cm : CalMK X.prog X.w X.K X.mg X.base x j ps ks fm) (hr : Room k X.A) (hj : j + 1 ≤ k) (gd : X.A.guards = some []) (tk : Takes X W) (hp : ps.length = ks.length + 1) (ha : DK X W kws gs) (hg : Gl X x := by rfl)
    (hall : (backToKw pos (keywordEach kws X.env)).all (·.1.isSome) = true := by rfl) (hks : (backToKw pos (keywordEach kws X.env)).filterMap (·.1) = ks := by rfl) (hdb : (x == ("__debug__" : Str)) = false := by decide)
    (hpl : ((backTo pos (starEach [] X.env)).any (·.1) || (backToKw pos (keywordEach kws X.env)).any (·.1.isNone)) = false := by rfl) : DE X W (.Call (.Name x p) [] kws pos) (mMake x fm gs) := by
  obtain ⟨C, f, fd, hm, M, F, bd⟩ := cm
  obtain ⟨t, pt, gt⟩ := ha
  exact ⟨_, pe_makeK M F (hr.mono hj) gd tk hg hm bd hp pt hall hks hdb hpl, good_make (g := ⟨X.K, X.mg⟩) gt hm fm⟩
/-- for the keyword bindings of an __init__ -/
theorem Fun.bindsK {K : PySem.W.Frag} {x qual : Str} {st : Stmt} {f : Addr} {fd : FuncData} {ps ks : List Str} (F : L2.Fun K x qual st f fd)
    (kb : ∀ (kV doc pm : Value) (an : Option Addr) (cdv ct : Value) (self : Value) (ws : List Value), ws.length = ks.length → bindArgs (PySem.W.fnOf x qual (defArgs st) (defBody st) (defScope st) .none kV doc pm an cdv ct) ⟨[self], ks.zip ws⟩ = pure (ps.zip (self :: ws))) :
    ∀ (s : Shared) (self : Value) (ws : List Value), K.In s.heap → ws.length = ks.length → BindsTo s fd ⟨[self], ks.zip ws⟩ (ps.zip (self :: ws)) := by
  obtain ⟨oc, od, kV, doc, pm, an, cdv, ct, osl, rfl, lk, hcd⟩ := F.ex
  exact fun s self ws _ h => .of_eq (kb kV doc pm an cdv ct self ws h)
end DL
namespace DL
open PySem PySem.Spec L2
variable {g : G} {W : WX}
/-! ### an object is made; its arguments may be looked at -/
def mkEndL (env : Env) (as : List AV) : Res (Rv × Env) → Res (Rv × Env)
  | .ok (.val .none, .ow .pn d :: r) => .ok (.new d, putBack as r env)
  | .ex c d (_ :: r) => .ex c d (putBack as r env)
  | _ => .stuck
def mMakeL (c : Str) (fm : FM) (ms : List Md) (fs : List ME) : ME := fun env => evAs ms fs env >>= fun z =>
  if noDup (slotsOf z.1) = true then match mkArgs z.2 z.1 with
    | some ae => mkEndL z.2 z.1 (fm (.ow .pn (insD c [] []) :: ae))
    | none => .stuck
  else .stuck
theorem slots_lt {F : Hp} {σ : St} : ∀ {vs : List V} {as : List AV}, Paired (AvOk g F σ) vs as → ∀ i ∈ slotsOf as, i < σ.length
  | _, _, .nil, i, h => by simp [slotsOf] at h
  | _, a :: as, .cons h t, i, hi => by
    cases a with
    | d d => exact slots_lt t i hi
    | s n =>
      rcases List.mem_cons.mp hi with e | e
      · subst e; exact lt_of_get (show σ[i]? = _ from h)
      · exact slots_lt t i e
    | l n =>
      rcases List.mem_cons.mp hi with e | e
      · subst e; exact lt_of_get (show σ[i]? = _ from h)
      · exact slots_lt t i e
theorem argSl_app {env ex : Env} {a : AV} (h : ∀ i, a.at? = some i → i < env.length) : argSl (env ++ ex) a = argSl env a := by
  cases a with
  | d d => rfl
  | s n => unfold argSl; dsimp only; rw [List.getElem?_append_left (h n rfl)]
  | l n => unfold argSl; dsimp only; rw [List.getElem?_append_left (h n rfl)]
theorem mkArgs_app {env ex : Env} : ∀ {as : List AV}, (∀ i ∈ slotsOf as, i < env.length) → mkArgs (env ++ ex) as = mkArgs env as
  | [], _ => rfl
  | a :: as, h => by
    unfold mkArgs
    have h1 : ∀ i, a.at? = some i → i < env.length := fun i e => by cases a <;> cases e <;> exact h i (by simp [slotsOf])
    have h2 : ∀ i ∈ slotsOf as, i < env.length := fun i e => h i (by cases a <;> simp [slotsOf, e])
    rw [argSl_app h1, mkArgs_app h2]
theorem putBack_app {w : Sl} : ∀ {as : List AV} {ts env : Env}, (∀ i ∈ slotsOf as, i < env.length) → putBack as ts (env ++ [w]) = putBack as ts env ++ [w]
  | [], _, _, _ => by simp [putBack]
  | .d _ :: as, [], _, _ => by simp [putBack]
  | .s _ :: as, [], _, _ => by simp [putBack]
  | .l _ :: as, [], _, _ => by simp [putBack]
  | .d _ :: as, t :: ts, env, h => by
    rw [putBack, putBack]
    exact putBack_app fun i e => h i (by simp [slotsOf, e])
  | .s n :: as, t :: ts, env, h => by
    have hn : n < env.length := h n (by simp [slotsOf])
    have ih := putBack_app (w := w) (as := as) (ts := ts) (env := env) fun i e => h i (by simp [slotsOf, e])
    have hl : n < (putBack as ts env).length := by rw [putBack_len]; exact hn
    rw [putBack_one n rfl, putBack_one n rfl, List.getElem?_append_left hn, ih]
    cases hq : env[n]? with
    | none => rfl
    | some s0 =>
      cases s0 with
      | ow k d0 =>
        cases t with
        | ow k1 d => exact List.set_append_left _ _ hl
        | _ => rfl
      | _ => rfl
  | .l n :: as, t :: ts, env, h => by
    have hn : n < env.length := h n (by simp [slotsOf])
    have ih := putBack_app (w := w) (as := as) (ts := ts) (env := env) fun i e => h i (by simp [slotsOf, e])
    have hl : n < (putBack as ts env).length := by rw [putBack_len]; exact hn
    rw [putBack_one n rfl, putBack_one n rfl, List.getElem?_append_left hn, ih]
    cases hq : env[n]? with
    | none => rfl
    | some s0 =>
      cases s0 with
      | ow k d0 =>
        cases t with
        | ow k1 d => exact List.set_append_left _ _ hl
        | _ => rfl
      | _ => rfl
theorem AvOk.app {F : Hp} {σ ex : St} {v : V} {a : AV} (h : AvOk g F σ v a) : AvOk g F (σ ++ ex) v a := by
  cases a with
  | d d => exact h
  | s n => exact (List.getElem?_append_left (lt_of_get (show σ[n]? = _ from h))).trans h
  | l n => exact (List.getElem?_append_left (lt_of_get (show σ[n]? = _ from h))).trans h
theorem paired_app {F : Hp} {σ ex : St} : ∀ {vs : List V} {as : List AV}, Paired (AvOk g F σ) vs as → Paired (AvOk g F (σ ++ ex)) vs as
  | _, _, .nil => .nil
  | _, _, .cons h t => .cons h.app (paired_app t)
/-- with one own object more, behind -/
theorem EnvOk.more {F H H2 : Hp} {σ : St} {env : Env} {x : Addr} {d : D} (k : EnvOk g F H σ env) (sub : Sub H H2) (hx : H x = none) (w : OwnAt g F H2 x d) : EnvOk g F H2 (σ ++ [some (.ref x)]) (env ++ [.ow .fr d]) := by
  have fx : F x = none := (k.fresh hx).1
  have at_ : ∀ i s, (env ++ [Sl.ow .fr d])[i]? = some s → (env[i]? = some s ∧ i < env.length) ∨ (i = env.length ∧ s = .ow .fr d) := fun i s e => by
    by_cases h : i < env.length
    · rw [List.getElem?_append_left h] at e; exact .inl ⟨e, h⟩
    · rw [List.getElem?_append_right (by omega)] at e
      have l := lt_of_get e
      have : i = env.length := by simp at l; omega
      subst this
      simp at e
      exact .inr ⟨rfl, e.symm⟩
  have nown : ∀ i, ¬ Adr σ env i x := fun i ⟨⟨kd, d2, w1⟩, w2⟩ => by
    obtain ⟨o, u1, b, u2, u3, u4⟩ := k.sl i _ w1
    rw [w2] at u1; cases u1; cases u2
    obtain ⟨_, u5⟩ := u4.there
    rw [hx] at u5; cases u5
  have adr : ∀ i a, Adr (σ ++ [some (.ref x)]) (env ++ [Sl.ow .fr d]) i a → (Adr σ env i a) ∨ (i = env.length ∧ a = x) := fun i a ⟨⟨kd, d2, w1⟩, w2⟩ => by
    rcases at_ i _ w1 with ⟨q, l⟩ | ⟨q, _⟩
    · rw [List.getElem?_append_left (by rw [k.len]; exact l)] at w2; exact .inl ⟨⟨_, _, q⟩, w2⟩
    · subst q
      rw [List.getElem?_append_right (by rw [k.len]; omega)] at w2
      simp [k.len] at w2
      exact .inr ⟨rfl, w2.symm⟩
  refine ⟨by simp [k.len], k.sub.trans sub, fun i s e => ?_, fun i j a h1 h2 => ?_⟩
  · rcases at_ i s e with ⟨q, l⟩ | ⟨q1, q2⟩
    · obtain ⟨o, h1, h2⟩ := k.sl i s q
      refine ⟨o, by rw [List.getElem?_append_left (by rw [k.len]; exact l)]; exact h1, ?_⟩
      cases s with
      | no => trivial
      | fz d => exact h2
      | ow kd d =>
        obtain ⟨a, h3, h4, h5⟩ := h2
        exact ⟨a, h3, h4, h5.mono .refl fun o e => sub a o e⟩
    · subst q1; subst q2
      exact ⟨some (.ref x), by rw [List.getElem?_append_right (by rw [k.len]; omega)]; simp [k.len], x, rfl, fx, w⟩
  · rcases adr i a h1 with q1 | ⟨q1, q2⟩ <;> rcases adr j a h2 with q3 | ⟨q3, q4⟩
    · exact k.dis i j a q1 q3
    · subst q4; exact absurd q1 (nown i)
    · subst q2; exact absurd q3 (nown j)
    · rw [q1, q3]
/-- and without it again -/
theorem drop_last {F H H2 F' H' : Hp} {σ : St} {env pb : Env} {x : Addr} {d : D} {w : Sl} (k : EnvOk g F H σ env) (sub : Sub H H2) (hx : H x = none) (hl : pb.length = env.length)
    (y1 : Ext F H2 (Own (σ ++ [some (.ref x)]) (env ++ [.ow .fr d])) F' H' (Own (σ ++ [some (.ref x)]) (pb ++ [w]))) (y2 : EnvOk g F' H' (σ ++ [some (.ref x)]) (pb ++ [w])) (y3 : Keep (σ ++ [some (.ref x)]) (env ++ [.ow .fr d]) (σ ++ [some (.ref x)]) (pb ++ [w])) :
    Ext F H (Own σ env) F' H' (Own σ pb) ∧ EnvOk g F' H' σ pb ∧ Keep σ env σ pb := by
  have pre : ∀ (e : Env) (w : Sl) (i : Nat) (a : Addr), e.length = env.length → Adr σ e i a → Adr (σ ++ [some (.ref x)]) (e ++ [w]) i a := fun e w i a he ⟨⟨kd, d2, w1⟩, w2⟩ =>
    ⟨⟨kd, d2, by rw [List.getElem?_append_left (lt_of_get w1)]; exact w1⟩, by rw [List.getElem?_append_left (lt_of_get w2)]; exact w2⟩
  have own : ∀ b, Own (σ ++ [some (.ref x)]) (env ++ [.ow .fr d]) b → H b = none ∨ Own σ env b := fun b ⟨i, ⟨kd, d2, w1⟩, w2⟩ => by
    by_cases h : i < env.length
    · rw [List.getElem?_append_left h] at w1
      rw [List.getElem?_append_left (by rw [k.len]; exact h)] at w2
      exact .inr ⟨i, ⟨_, _, w1⟩, w2⟩
    · have l := lt_of_get w1
      have : i = env.length := by simp at l; omega
      subst this
      rw [List.getElem?_append_right (by rw [k.len]; omega)] at w2
      simp [k.len] at w2
      subst w2
      exact .inl hx
  have none2 : ∀ b, H2 b = none → H b = none := fun b h => by
    cases q : H b with
    | none => rfl
    | some o => rw [sub b o q] at h; cases h
  refine ⟨⟨y1.sub, fun b o h n => y1.keep b o (sub b o h) fun z => (own b z).elim (fun q => by rw [q] at h; cases h) n, fun b h => y1.dom b fun q => h (none2 b q), fun b h h' => (y1.new b h h').elim (fun q => .inl (none2 b q)) (own b), fun b ⟨i, q⟩ => (y1.own b ⟨i, pre pb w i b hl q⟩).elim (fun q => .inl (none2 b q)) (own b)⟩,
    ⟨by rw [k.len, hl], y2.sub, fun i s e => ?_, fun i j a h1 h2 => y2.dis i j a (pre pb w i a hl h1) (pre pb w j a hl h2)⟩, fun i kd d2 e n => ?_⟩
  · have l := lt_of_get e
    obtain ⟨o, h1, h2⟩ := y2.sl i s (by rw [List.getElem?_append_left l]; exact e)
    rw [List.getElem?_append_left (by rw [k.len, ← hl]; exact l)] at h1
    exact ⟨o, h1, h2⟩
  · have l := lt_of_get e
    obtain ⟨_, d', h2, h3⟩ := y3 i kd d2 (by rw [List.getElem?_append_left l]; exact e) n
    rw [List.getElem?_append_left (by rw [hl]; exact l)] at h2
    exact ⟨rfl, d', h2, h3⟩
theorem good_makeL {t : TA} {fs : List ME} {C : Addr} {c : Str} (h : AllE g W t fs) (hc : g.mg c = some (.ref C)) (fm : FM) (ms : List Md) : GoodE g W (tMakeG g C fm W t) (mMakeL c fm ms fs) := fun F H σ env Q k p => by
  refine h.as ms F H σ env _ k (Post.bind RE.early p fun as e1 F1 H1 vs x1 k1 kp1 ha p1 => ?_)
  have ha : Paired (AvOk g F1 σ) vs as := ha
  by_cases nd : noDup (slotsOf as) = true
  · simp only [nd, if_true] at p1
    cases hm : mkArgs e1 as with
    | none => rw [hm] at p1; exact p1.elim
    | some ae =>
      rw [hm] at p1
      simp only at p1
      intro x dx nx ndx ne
      have sub1 : Sub H1 (upd (upd H1 dx (.own x)) x (.ins C dx [])) := fun b o e => by
        have n1 : b ≠ x := fun z => by subst z; rw [nx] at e; cases e
        have n2 : b ≠ dx := fun z => by subst z; rw [ndx] at e; cases e
        rw [upd_ne n1, upd_ne n2]; exact e
      have kx : EnvOk g F1 (upd (upd H1 dx (.own x)) x (.ins C dx [])) (σ ++ [some (.ref x)]) (e1 ++ [.ow .fr (insD c [] [])]) := k1.more sub1 nx (.ins hc upd_same rfl .nil rfl)
      have slt : ∀ i ∈ slotsOf as, i < e1.length := fun i hi => by rw [← k1.len]; exact slots_lt ha i hi
      have hax : Paired (AvOk g F1 (σ ++ [some (.ref x)])) (.ref x :: vs) (.s e1.length :: as) := .cons (show (σ ++ [some (V.ref x)])[e1.length]? = some (some (.ref x)) by rw [List.getElem?_append_right (by rw [k1.len]; omega)]; simp [k1.len]) (paired_app ha)
      have ndx' : noDup (slotsOf (.s e1.length :: as)) = true := by
        show (!(slotsOf as).contains e1.length && noDup (slotsOf as)) = true
        rw [nd, Bool.and_true, Bool.not_eq_true', List.contains_eq_mem, decide_eq_false_iff_not]
        exact fun z => Nat.lt_irrefl _ (slt _ z)
      have hn : (e1 ++ [Sl.ow .fr (insD c [] [])])[e1.length]? = some (.ow .fr (insD c [] [])) := by rw [List.getElem?_append_right (Nat.le_refl _)]; simp
      have hmx : mkArgs (e1 ++ [.ow .fr (insD c [] [])]) (.s e1.length :: as) = some (.ow .pn (insD c [] []) :: ae) := by
        unfold mkArgs
        rw [mkArgs_app slt, hm]
        unfold argSl
        dsimp only
        rw [hn]
      refine ⟨F1, _, (args_ok kx hax ndx' hmx).1, ?_⟩
      have pbl : ∀ r, (putBack as r e1).length = e1.length := fun r => putBack_len _ _ _
      have pb : ∀ (t : Sl) (r : Env), ∃ w, putBack (.s e1.length :: as) (t :: r) (e1 ++ [.ow .fr (insD c [] [])]) = putBack as r e1 ++ [w] ∧ ∀ kd d, t = .ow kd d → w = .ow .fr d := fun t r => by
        rw [putBack_one _ rfl, hn, putBack_app slt]
        cases t with
        | ow kd d =>
          refine ⟨.ow .fr d, ?_, fun kd' d' e => by cases e; rfl⟩
          dsimp only
          rw [List.set_append_right _ _ (by rw [pbl]; exact Nat.le_refl _), pbl]
          simp
        | fz d => exact ⟨_, rfl, fun _ _ e => by cases e⟩
        | no => exact ⟨_, rfl, fun _ _ e => by cases e⟩
      cases hf : fm (Sl.ow .pn (insD c [] []) :: ae) with
      | stuck => rw [hf] at p1; exact p1.elim
      | ex c' d e =>
        rw [hf] at p1
        cases e with
        | nil => exact p1.elim
        | cons s r =>
          intro F' H' dd C' v y k' kp a1 a2 a3
          obtain ⟨y1, y2, y3⟩ := call_back kx hax ndx' hmx y k' kp
          obtain ⟨w, e, _⟩ := pb s r
          rw [e] at y1 y2 y3
          obtain ⟨z1, z2, z3⟩ := drop_last k1 sub1 nx (pbl r) y1 y2 y3
          exact p1 F' H' dd C' v z1 z2 z3 a1 a2 a3
      | ok z =>
        obtain ⟨r, e⟩ := z
        rw [hf] at p1
        cases r with
        | new d => exact p1.elim
        | sl i => exact p1.elim
        | val d0 =>
          cases d0 with
          | none =>
            cases e with
            | nil => exact p1.elim
            | cons s r =>
              cases s with
              | ow kd d =>
                cases kd with
                | pn =>
                  intro F' H' v y k' kp rv
                  have rv : Den g F' v .none := rv
                  obtain ⟨y1, y2, y3⟩ := call_back kx hax ndx' hmx y k' kp
                  obtain ⟨w, e, hw⟩ := pb (.ow .pn d) r
                  have hw := hw _ _ rfl
                  subst hw
                  rw [e] at y1 y2 y3
                  obtain ⟨z1, z2, z3⟩ := drop_last k1 sub1 nx (pbl r) y1 y2 y3
                  have en : (putBack as r e1 ++ [Sl.ow .fr d])[e1.length]? = some (.ow .fr d) := by rw [List.getElem?_append_right (by rw [pbl]; exact Nat.le_refl _), pbl]; simp
                  have sn : (σ ++ [some (V.ref x)])[e1.length]? = some (some (.ref x)) := by rw [List.getElem?_append_right (by rw [k1.len]; omega)]; simp [k1.len]
                  obtain ⟨o, q1, a, q2, q3, q4⟩ := y2.sl _ _ en
                  rw [sn] at q1; cases q1; cases q2
                  refine ⟨Pk.non (g := g) (F := F') (H := F') (.inl rv), p1 F' H' (.ref x) z1 z2 z3 ⟨x, rfl, nx, q3, fun ⟨i, ⟨kd, d2, w1⟩, w2⟩ => ?_, q4⟩⟩
                  have l := lt_of_get w1
                  have := y2.dis i e1.length x ⟨⟨kd, d2, by rw [List.getElem?_append_left l]; exact w1⟩, by rw [List.getElem?_append_left (lt_of_get w2)]; exact w2⟩ ⟨⟨_, _, en⟩, sn⟩
                  rw [pbl] at l
                  omega
                | _ => exact p1.elim
              | _ => exact p1.elim
          | _ => exact p1.elim
  · simp only [nd, if_false] at p1; exact p1.elim
theorem de_makeL {X : Cx} {x : Str} {k j : Nat} {ps : List Str} {fm : FM} {p pos : Pos} {e : Expr} {es : List Expr} {fs : List ME} (cm : CalM X.prog X.w X.K X.mg X.base x j ps fm) (hr : Room k X.A) (hj : j + 1 ≤ k) (gd : X.A.guards = some []) (tk : Takes X W) (ms : List Md) (ha : DA X W (e :: es) fs) (hg : Gl X x := by rfl)
    (hdb : (x == ("__debug__" : Str)) = false := by decide) (he : starEach (e :: es) X.env = (false, eval e X.env) :: starEach es X.env := by rfl) (hpl : (backTo pos (starEach es X.env)).any (·.1) = false := by rfl) : DE X W (.Call (.Name x p) (e :: es) [] pos) (mMakeL x fm ms fs) := by
  obtain ⟨C, f, fd, hm, M, F, bd⟩ := cm
  obtain ⟨t, pt, gt⟩ := ha
  exact ⟨_, pe_makeG M F (hr.mono hj) gd tk hg hm bd pt hdb he hpl, good_makeL (g := ⟨X.K, X.mg⟩) gt hm fm ms⟩
end DL
namespace DL
open PySem PySem.Spec L2
variable {g : G} {W : WX}
/-! ### x, y = a, b where the tuple is laid (names that inner blocks read) -/
theorem HOkL.grow {F H F' H' : Hp} {σ : St} {env : Env} (x : Grow F H F' H') : ∀ {H0 : Hp} {vs : List V} {rs : List Rv}, HOkL g F H σ env H0 vs rs → HOkL g F' H' σ env H0 vs rs
  | _, _, _, .nil => .nil
  | _, _, _, .cons h1 h2 h3 h4 h5 => .cons (h1.ext x.ext) h2 h3 h4 (HOkL.grow x h5)
theorem par_runT {t : TA} {fs : List ME} {is : List Nat} (h : AllE g W t fs) {F H : Hp} {σ : St} {env : Env} {Dn : Ends} {Q : List V → Hp → Prop} (k : EnvOk g F H σ env) (p : PostS g W F H σ env Dn (mPar is fs env)) (q : ∀ vs H1, vs.length = is.length → (∀ a, H1 a = none → Dn.nx (setAll σ is vs) (upd H1 a (.tup vs))) → Q vs H1) : t σ H Q := by
  refine h.hs F H σ env _ k ?_
  unfold mPar at p
  cases hm : evHs fs env with
  | stuck => rw [hm] at p; exact p.elim
  | ex c d e => rw [hm] at p; exact fun F' H' dd C v => p F' H' σ dd C v
  | ok z =>
    obtain ⟨rs, e⟩ := z
    rw [hm, Res.ok_bind] at p
    intro F1 H1 vs x1 k1 kp1 hrs
    have hrs : HOkL g F1 H1 σ e H vs rs := hrs
    refine q vs H1 (by rw [hrs.len, storeHs_len p.stuck_ne]) fun a ha => ?_
    have sub : Sub H1 (upd H1 a (.tup vs)) := fun b o e => by
      have : b ≠ a := fun z => by subst z; rw [ha] at e; cases e
      rw [upd_ne this]; exact e
    have gr : Grow F1 H1 F1 (upd H1 a (.tup vs)) := ⟨.refl, sub, fun b h h' => absurd h h', k1.sub.trans sub⟩
    exact storeHs_ok (fun _ z => z) (hrs.grow gr) (x1.trans gr.ext) (k1.grow gr) kp1 p
def gNames : List Nat → TGs
  | [] => gNil
  | i :: is => gCons (gName i) (gNames is)
theorem gNames_all : ∀ {is : List Nat} {vs : List V} {σ : St} {H : Hp} {Q : St → Hp → Prop}, vs.length = is.length → Q (setAll σ is vs) H → gNames is vs σ H Q
  | [], [], _, _, _, _, q => ⟨rfl, q⟩
  | [], _ :: _, _, _, _, h, _ => by simp at h
  | _ :: _, [], _, _, _, h, _ => by simp at h
  | i :: is, v :: vs, σ, H, Q, h, q => ⟨v, vs, rfl, gNames_all (is := is) (by simpa using h) q⟩
theorem good_parT {t : TA} {fs : List ME} {is : List Nat} (h : AllE g W t fs) (hl : is.length ≤ 1000) : GoodS g W (tAsg (tTup t) (gTup g.K is.length (gNames is))) (mPar is fs) := fun F H σ env Dn k p =>
  par_runT h k p fun vs H1 hlen q => ⟨by rw [hlen]; exact Nat.le_trans hl (by decide), fun a ha => ⟨a, vs, rfl, .inl (.inl upd_same), hlen, gNames_all hlen (q a ha)⟩⟩
section
variable {X : Cx} {fs : List ME} {a b c : Expr} {px py pz pt pos : Pos}
theorem ds_parT2 {i j : Nat} {x y : Str} {kt k2 pt2} (hc : X.calm = true) (hN : X.N.Nodup) (hi : X.N[i]? = some x) (hj : X.N[j]? = some y) (hx : Loc X.env.scope x) (hy : Loc X.env.scope y) (ha : DA X W [a, b] fs)
    (fx : X.fn x = true ∨ X.env.scope.names.lookup x = some .local := by first | exact .inl rfl | exact .inr rfl) (fy : X.fn y = true ∨ X.env.scope.names.lookup y = some .local := by first | exact .inl rfl | exact .inr rfl)
    (e1 : (assignEach [.Name x px, .Name y py] X.env).map (·.2) = assign (.Name x px) X.env :: (assignEach [.Name y py] X.env).map (·.2) := by rfl) (e2 : (assignEach [.Name y py] X.env).map (·.2) = assign (.Name y py) X.env :: (assignEach [] X.env).map (·.2) := by rfl)
    (hn : (assignEach [.Name x px, .Name y py] X.env).length = 2 := by rfl) (hst : (assignEach [.Name x px, .Name y py] X.env).findIdx? (·.1) = none := by rfl)
    (hs : swapsWithSole [.Tuple [.Name x px, .Name y py] kt pt] (.Tuple [a, b] k2 pt2) pos.line X.env = pure false := by rfl) (hw : swappedStores [.Tuple [.Name x px, .Name y py] kt pt] (.Tuple [a, b] k2 pt2) X.env = pure none := by rfl)
    (h1 : (assignEach [.Tuple [.Name x px, .Name y py] kt pt] X.env).map (·.2) = [assign (.Tuple [.Name x px, .Name y py] kt pt) X.env] := by rfl) :
    DS X W (.Assign [.Tuple [.Name x px, .Name y py] kt pt] (.Tuple [a, b] k2 pt2) pos) (mPar [i, j] fs) := by
  obtain ⟨t, pt, gt⟩ := ha
  exact ⟨_, ps_asg (pe_tup pt) (pg_tup (n := 2) hc (pgs_cons (pg_name hN hi hx fx) (pgs_cons (pg_name hN hj hy fy) pgs_nil e2) e1) hn hst) hs hw h1, good_parT (is := [i, j]) gt (by simp)⟩
theorem ds_parT3 {i j l : Nat} {x y z : Str} {kt k2 pt2} (hc : X.calm = true) (hN : X.N.Nodup) (hi : X.N[i]? = some x) (hj : X.N[j]? = some y) (hl : X.N[l]? = some z) (hx : Loc X.env.scope x) (hy : Loc X.env.scope y) (hz : Loc X.env.scope z) (ha : DA X W [a, b, c] fs)
    (fx : X.fn x = true ∨ X.env.scope.names.lookup x = some .local := by first | exact .inl rfl | exact .inr rfl) (fy : X.fn y = true ∨ X.env.scope.names.lookup y = some .local := by first | exact .inl rfl | exact .inr rfl) (fz : X.fn z = true ∨ X.env.scope.names.lookup z = some .local := by first | exact .inl rfl | exact .inr rfl)
    (e1 : (assignEach [.Name x px, .Name y py, .Name z pz] X.env).map (·.2) = assign (.Name x px) X.env :: (assignEach [.Name y py, .Name z pz] X.env).map (·.2) := by rfl) (e2 : (assignEach [.Name y py, .Name z pz] X.env).map (·.2) = assign (.Name y py) X.env :: (assignEach [.Name z pz] X.env).map (·.2) := by rfl)
    (e3 : (assignEach [.Name z pz] X.env).map (·.2) = assign (.Name z pz) X.env :: (assignEach [] X.env).map (·.2) := by rfl)
    (hn : (assignEach [.Name x px, .Name y py, .Name z pz] X.env).length = 3 := by rfl) (hst : (assignEach [.Name x px, .Name y py, .Name z pz] X.env).findIdx? (·.1) = none := by rfl)
    (hs : swapsWithSole [.Tuple [.Name x px, .Name y py, .Name z pz] kt pt] (.Tuple [a, b, c] k2 pt2) pos.line X.env = pure false := by rfl) (hw : swappedStores [.Tuple [.Name x px, .Name y py, .Name z pz] kt pt] (.Tuple [a, b, c] k2 pt2) X.env = pure none := by rfl)
    (h1 : (assignEach [.Tuple [.Name x px, .Name y py, .Name z pz] kt pt] X.env).map (·.2) = [assign (.Tuple [.Name x px, .Name y py, .Name z pz] kt pt) X.env] := by rfl) :
    DS X W (.Assign [.Tuple [.Name x px, .Name y py, .Name z pz] kt pt] (.Tuple [a, b, c] k2 pt2) pos) (mPar [i, j, l] fs) := by
  obtain ⟨t, pt, gt⟩ := ha
  exact ⟨_, ps_asg (pe_tup pt) (pg_tup (n := 3) hc (pgs_cons (pg_name hN hi hx fx) (pgs_cons (pg_name hN hj hy fy) (pgs_cons (pg_name hN hl hz fz) pgs_nil e3) e2) e1) hn hst) hs hw h1, good_parT (is := [i, j, l]) gt (by simp)⟩
end
end DL
namespace DL
open PySem PySem.Spec L2
variable {g : G} {W : WX}
/-! ### min of a list of tuples (int, text, text) -/
def rMinD (K : PySem.W.Frag) : List V → Hp → VK → Prop := fun vs H Q => ∃ (a : Addr) (xs : List V) (d : D) (ds : List D), vs = [.ref a] ∧ SqL K H a xs ∧ DpAll K H xs (d :: ds) ∧ PySem.W.AlikeAll (d :: ds) ∧ PyData.depthAll (d :: ds) ≤ 60 ∧
  ∀ (i : Nat) (v : V), xs[i]? = some v → (d :: ds).getD i .none = PySem.W.minD d ds → Q v H
theorem cr_minD {X : Cx} (hc : X.calm = true) (hu : X.A.units + 64 < cLine) : CallR X (.builtin "min") (rMinD X.K) := by
  intro pins s σ H xs us Q I r ⟨a, vs, d, ds, ex, hs, hd, al, dp, q⟩
  subst ex
  obtain ⟨u, rfl, ru⟩ := r.one
  cases ru
  obtain ⟨its, rv, ⟨o, n, ho, hcl, hsl, hdt⟩, hz⟩ := I.list hs
  obtain ⟨as, hr⟩ := Dp.readsAll I _ _ its hd rv
  have hl : s.heap.IsList a its.toArray := ⟨o, ho, hcl, n, hdt⟩
  have hr' : ReadsAll s.heap its.toArray.toList (d :: ds) as := hr
  have hn : its.toArray.size = ds.length + 1 := PySem.W.readsAll_len hr'
  refine PySem.call_min_walkH (PySem.W.iter_listW (A := X.A.in1) (I.ok.hd hc) hl fun s₂ e Wk st hfp hw hk => ?_)
  refine ⟨_, _, _, _, _, _, _, s.heap, _, rfl, Wk, st, hfp, by omega, hw, hk, PySem.W.cmpIn_lt (A := X.A.in1) hr' al (by show X.A.units + 1 + _ < _; omega), fun v s' hP m => ?_⟩
  obtain ⟨h', tk, rfl, hk'⟩ := PySem.W.moved_old e rfl m
  have e1 : its.toArray.size - 1 = ds.length := by omega
  have e2 := (PySem.W.argBest_fold PySem.W.dataLt PyData.none d ds ds.length (Nat.le_refl _)).2
  rw [List.take_length] at e2
  rw [e1] at hP
  generalize PySem.argBest _ ds.length = i at hP e2
  have lv := rv.length
  have hi : its[i]? = some v := by rw [List.getElem?_toArray] at hP; exact hP
  have li : i < vs.length := by rw [lv]; exact lt_of_get hi
  have hx : vs[i]? = some vs[i] := List.getElem?_eq_getElem li
  obtain ⟨u, hu2, ru⟩ := rv.get hx
  rw [hi] at hu2
  cases hu2
  exact ⟨vs[i], H, I.kept hk', ru, q i _ hx e2⟩
def isT3 : D → Bool
  | .tuple [.int _, .str _, .str _] => true
  | _ => false
theorem t3_ex {d : D} (h : isT3 d = true) : ∃ i x y, d = .tuple [.int i, .str x, .str y] := by
  unfold isT3 at h
  split at h
  · exact ⟨_, _, _, rfl⟩
  · cases h
theorem t3_flat : ∀ {ds : List D}, (∀ d ∈ ds, isT3 d = true) → PyData.hasDictAll ds = false ∧ PyData.depthAll ds ≤ 1
  | [], _ => ⟨by simp only [PyData.hasDictAll], by simp only [PyData.depthAll]; omega⟩
  | d :: ds, h => by
    obtain ⟨i, x, y, rfl⟩ := t3_ex (h d (by simp))
    obtain ⟨h1, h2⟩ := t3_flat (ds := ds) fun e he => h e (List.mem_cons_of_mem _ he)
    refine ⟨by simp only [PyData.hasDictAll, PyData.hasDict, h1]; rfl, ?_⟩
    simp only [PyData.depthAll, PyData.depth]
    omega
theorem t3_alike {ds : List D} (h : ∀ d ∈ ds, isT3 d = true) : PySem.W.AlikeAll ds := by
  refine ⟨fun x hx y hy => ?_, fun x hx e => ?_⟩
  · obtain ⟨i, a, b, rfl⟩ := t3_ex (h x hx)
    obtain ⟨j, c, d, rfl⟩ := t3_ex (h y hy)
    simp [PySem.W.alike, PySem.W.alikeAll]
  · subst e
    have := h _ hx
    simp [isT3] at this
def dMinD : List D → Option Rv
  | [.list (d :: ds)] => if (d :: ds).all isT3 = true then some (.val (PySem.W.minD d ds)) else none
  | _ => none
theorem good_minD : GoodC g (rMinD g.K) dMinD := by
  refine ⟨fun F H vs ds Q s h p => ?_, fun ds => ?_⟩
  · unfold dMinD at p
    split at p
    · rename_i d ds
      split at p
      · rename_i c
        have hall : ∀ e ∈ d :: ds, isT3 e = true := List.all_eq_true.mp c
        obtain ⟨v, rfl, hv⟩ := h.one
        obtain ⟨a, xs, e1, e2, e3⟩ := hv.lst s
        obtain ⟨f1, f2⟩ := t3_flat hall
        refine ⟨a, xs, d, ds, by rw [e1], .inl (.inl e2), (e3.dp s f1).1, t3_alike hall, Nat.le_trans f2 (by decide), fun i w hw hi => ?_⟩
        have li : i < (d :: ds).length := by rw [← e3.length]; exact lt_of_get hw
        have hd : (d :: ds)[i]? = some (d :: ds)[i] := List.getElem?_eq_getElem li
        obtain ⟨u, hu, hden⟩ := e3.get hd
        rw [hw] at hu
        cases hu
        have : (d :: ds)[i] = PySem.W.minD d ds := by
          rw [← hi, List.getD_eq_getElem?_getD, hd]; rfl
        rw [this] at hden
        exact p.val0 s hden
      · exact p.elim
    · exact p.elim
  · unfold dMinD
    split
    · split <;> first | exact NoSl.val | exact NoSl.none
    · exact NoSl.none
section
variable {X : Cx} {p pos : Pos} {e : Expr} {f : ME}
theorem de_minD (hc : X.calm = true) (hu : X.A.units + 64 < cLine) (hm : X.mg "min" = none) (ha : DA X W [e] [f]) (hg : Gl X "min" := by rfl) (he : starEach [e] X.env = (false, eval e X.env) :: starEach [] X.env := by rfl) (hpl : (backTo pos (starEach [] X.env)).any (·.1) = false := by rfl) : DE X W (.Call (.Name "min" p) [e] [] pos) (mCallB dMinD [f]) :=
  de_callB (cr_minD hc hu) good_minD hg hm (by decide +kernel) ha (by decide) (by decide) he hpl
end
end DL
namespace DL
open PySem PySem.Spec L2
variable {g : G} {W : WX}
/-- a call with what is handed over known -/
def mTail (fm : FM) (as : List AV) : ME := fun env =>
  if noDup (slotsOf as) = true then match mkArgs env as with
    | some ae => match fm ae with
      | .ok (.val d, ae') => .ok (.val d, putBack as ae' env)
      | .ok (.new d, ae') => .ok (.new d, putBack as ae' env)
      | .ok (.sl _, _) => .stuck
      | .ex c d ae' => .ex c d (putBack as ae' env)
      | .stuck => .stuck
    | none => .stuck
  else .stuck
theorem tail_sp {F1 H1 : Hp} {σ : St} {e1 : Env} {Q : VK} {fm : FM} {as : List AV} {vs : List V} (k1 : EnvOk g F1 H1 σ e1) (ha : Paired (AvOk g F1 σ) vs as) (p1 : Post (RE g) g W F1 H1 σ e1 Q (mTail fm as e1)) : fnSp g fm vs H1 Q (fun c d H' => W c d σ H') := by
  unfold mTail at p1
  by_cases nd : noDup (slotsOf as) = true
  · simp only [nd, if_true] at p1
    cases hm : mkArgs e1 as with
    | none => rw [hm] at p1; exact p1.elim
    | some ae =>
      rw [hm] at p1
      simp only at p1
      refine ⟨F1, ae, (args_ok k1 ha nd hm).1, ?_⟩
      cases hf : fm ae with
      | stuck => rw [hf] at p1; exact p1.elim
      | ex c d ae' =>
        rw [hf] at p1
        intro F' H' dd C v x k' kp a1 a2 a3
        obtain ⟨y1, y2, y3⟩ := call_back k1 ha nd hm x k' kp
        exact p1 F' H' dd C v y1 y2 y3 a1 a2 a3
      | ok z =>
        obtain ⟨r, ae'⟩ := z
        rw [hf] at p1
        intro F' H' v x k' kp rv
        obtain ⟨y1, y2, y3⟩ := call_back k1 ha nd hm x k' kp
        cases r with
        | val d => exact p1 F' H' v y1 y2 y3 rv
        | new d =>
          obtain ⟨a, h1, h2, h3, h4, h5⟩ := rv
          refine p1 F' H' v y1 y2 y3 ⟨a, h1, h2, h3, fun z => ?_, h5⟩
          rcases y1.own a z with z' | z'
          · obtain ⟨i, ⟨kd, d2, w1⟩, w2⟩ := z
            rcases putBack_get w1 with ⟨q, _⟩ | ⟨j, k2, k3, d3, d0, q1, q2, q3, q4⟩
            · obtain ⟨o, u1, b, u2, u3, u4⟩ := k1.sl i _ q
              rw [w2] at u1; cases u1; cases u2
              obtain ⟨_, u5⟩ := u4.there
              rw [u5] at z'; cases z'
            · obtain ⟨o, u1, b, u2, u3, u4⟩ := k1.sl i _ q3
              rw [w2] at u1; cases u1; cases u2
              obtain ⟨_, u5⟩ := u4.there
              rw [u5] at z'; cases z'
          · obtain ⟨i, ⟨kd, d2, w1⟩, w2⟩ := z'
            obtain ⟨o, u1, b, u2, u3, u4⟩ := k1.sl i _ w1
            rw [w2] at u1; cases u1; cases u2
            obtain ⟨_, u5⟩ := u4.there
            rw [u5] at h2; cases h2
        | sl i => exact p1.elim
  · simp only [nd, if_false] at p1; exact p1.elim
/-- keywords, handed over in modes -/
def mCallKL (fm : FM) (ms mk : List Md) (perm : List Nat) (np nk : Nat) (fs ks : List ME) : ME := fun env => evAs ms fs env >>= fun z => evAs mk ks z.2 >>= fun y =>
  if z.1.length = np ∧ y.1.length = nk then mTail fm (pick (.d .none) perm (z.1 ++ y.1)) y.2 else .stuck
theorem pairedL_app {α β : Type} {R : α → β → Prop} : ∀ {as cs : List α} {bs ds : List β}, Paired R as bs → Paired R cs ds → Paired R (as ++ cs) (bs ++ ds)
  | _, _, _, _, .nil, h => h
  | _, _, _, _, .cons x r, h => .cons x (pairedL_app r h)
theorem paired_pick {F : Hp} {σ : St} {vs : List V} {as : List AV} (h : Paired (AvOk g F σ) vs as) : ∀ perm : List Nat, Paired (AvOk g F σ) (pick V.non perm vs) (pick (.d .none) perm as)
  | [] => .nil
  | i :: r => .cons (by
      dsimp only
      rw [List.getD_eq_getElem?_getD, List.getD_eq_getElem?_getD]
      cases q : as[i]? with
      | none =>
        have : vs[i]? = none := by
          have := paired_len h
          rw [List.getElem?_eq_none_iff] at q ⊢
          omega
        rw [this]; exact .non
      | some a =>
        obtain ⟨v, h1, h2⟩ := paired_get h q
        rw [h1]; exact h2) (paired_pick h r)
theorem paired_mono {F F' : Hp} {σ : St} (s : Sub F F') : ∀ {vs : List V} {as : List AV}, Paired (AvOk g F σ) vs as → Paired (AvOk g F' σ) vs as
  | _, _, .nil => .nil
  | _, _, .cons h r => .cons (h.mono s) (paired_mono s r)
theorem good_callKL {t tk : TA} {fs ks : List ME} (h : AllE g W t fs) (hk : AllE g W tk ks) (fm : FM) (ms mk : List Md) (perm : List Nat) (np nk : Nat) : GoodE g W (tCallKG g W fm perm np nk t tk) (mCallKL fm ms mk perm np nk fs ks) := fun F H σ env Q k p => by
  refine h.as ms F H σ env _ k (Post.bind (R := RAs g) RE.early p fun as e1 F1 H1 vs x1 k1 kp1 ha p1 => ?_)
  have ha : Paired (AvOk g F1 σ) vs as := ha
  refine hk.as mk F1 H1 σ e1 _ k1 (Post.bind (R := RAs g) RE.early p1 fun bs e2 F2 H2 zs x2 k2 kp2 hb p2 => ?_)
  have hb : Paired (AvOk g F2 σ) zs bs := hb
  by_cases hl : as.length = np ∧ bs.length = nk
  · rw [if_pos hl] at p2
    exact ⟨by rw [paired_len ha]; exact hl.1, by rw [paired_len hb]; exact hl.2, tail_sp k2 (paired_pick (pairedL_app (paired_mono x2.sub ha) hb) perm) p2⟩
  · rw [if_neg hl] at p2; exact p2.elim
section
variable {X : Cx} {x : Str} {st : Stmt} {k j : Nat} {ps ks : List Str} {fm : FM} {p pos : Pos} {e : Expr} {es : List Expr} {fs gs : List ME} {kws : List Keyword} {np : Nat}
theorem dcallKL (c : Cal X.prog X.w X.K X.mg X.base x st j ps fm) (hr : Room k X.A) (hj : j ≤ k) (gd : X.A.guards = some []) (tw : Takes X W) (ms mk : List Md) (perm : List Nat) (ks : List Str)
    (kb : ∀ (kV doc pm : Value) (an : Option Addr) (cdv ct : Value) (us ws : List Value), us.length = fs.length → ws.length = ks.length → bindArgs (PySem.W.fnOf x x (defArgs st) (defBody st) (defScope st) .none kV doc pm an cdv ct) ⟨us, ks.zip ws⟩ = pure (ps.zip (pick Value.none perm (us ++ ws))))
    (hlt : ∀ i ∈ perm, i < fs.length + ks.length) (hlen : perm.length = ps.length) (ha : DA X W (e :: es) fs) (hkw : DK X W kws gs) (hg : Gl X x := by rfl) (hall : (backToKw pos (keywordEach kws X.env)).all (·.1.isSome) = true := by rfl) (hks : (backToKw pos (keywordEach kws X.env)).filterMap (·.1) = ks := by rfl)
    (hdb : (x == ("__debug__" : Str)) = false := by decide) (he : starEach (e :: es) X.env = (false, eval e X.env) :: starEach es X.env := by rfl)
    (hpl : ((backTo pos (starEach (e :: es) X.env)).any (·.1) || (backToKw pos (keywordEach kws X.env)).any (·.1.isNone)) = false := by rfl) : DE X W (.Call (.Name x p) (e :: es) kws pos) (mCallKL fm ms mk perm fs.length ks.length fs gs) := by
  obtain ⟨f, fd, Fu, hm, F, hb⟩ := c
  have kp := Fu.kp
  obtain ⟨oc, od, kV, doc, pm, an, cdv, ct, osl, rfl, lk, hcd⟩ := Fu.ex
  have hb : KB X.K _ ps ks fs.length perm := ⟨fun s us ws _ h1 h2 => .of_eq (kb kV doc pm an cdv ct us ws h1 h2), hlt, hlen⟩
  obtain ⟨t, pt, gt⟩ := ha
  obtain ⟨tk, pk, gk⟩ := hkw
  refine ⟨tCallKG ⟨X.K, X.mg⟩ W fm perm fs.length ks.length t tk, ⟨fun pins s σ H Q I h => wpAny_Call_Name_kw (ld_glob I hg hm ?_ hdb)⟩, good_callKL gt gk fm ms mk perm fs.length ks.length⟩
  refine PySem.W.callWith_KW (h₀ := X.base) I.ok.mod.kin kp hall (thn (pt.run pos pins s σ H _ I h) fun us s1 ⟨vs, H1, I1, r, q⟩ => ?_) hpl he
  refine thn (pk.run pos pins s1 σ H1 _ I1 q) fun ws s2 ⟨zs, H2, I2, rz, l1, l2, q2⟩ => ⟨I2.kIn, ?_⟩
  rw [hks]
  exact run_k F (hr.mono hj) gd tw hb I2 r rz l1 l2 q2
theorem dcallKL0 (c : Cal X.prog X.w X.K X.mg X.base x st j ps fm) (hr : Room k X.A) (hj : j ≤ k) (gd : X.A.guards = some []) (tw : Takes X W) (mk : List Md) (perm : List Nat) (ks : List Str)
    (kb : ∀ (kV doc pm : Value) (an : Option Addr) (cdv ct : Value) (us ws : List Value), us.length = 0 → ws.length = ks.length → bindArgs (PySem.W.fnOf x x (defArgs st) (defBody st) (defScope st) .none kV doc pm an cdv ct) ⟨us, ks.zip ws⟩ = pure (ps.zip (pick Value.none perm (us ++ ws))))
    (hlt : ∀ i ∈ perm, i < 0 + ks.length) (hlen : perm.length = ps.length) (hkw : DK X W kws gs) (hg : Gl X x := by rfl) (hall : (backToKw pos (keywordEach kws X.env)).all (·.1.isSome) = true := by rfl) (hks : (backToKw pos (keywordEach kws X.env)).filterMap (·.1) = ks := by rfl)
    (hdb : (x == ("__debug__" : Str)) = false := by decide)
    (hpl : ((backTo pos (starEach [] X.env)).any (·.1) || (backToKw pos (keywordEach kws X.env)).any (·.1.isNone)) = false := by rfl) : DE X W (.Call (.Name x p) [] kws pos) (mCallKL fm [] mk perm 0 ks.length [] gs) := by
  obtain ⟨f, fd, Fu, hm, F, hb⟩ := c
  have kp := Fu.kp
  obtain ⟨oc, od, kV, doc, pm, an, cdv, ct, osl, rfl, lk, hcd⟩ := Fu.ex
  have hb : KB X.K _ ps ks 0 perm := ⟨fun s us ws _ h1 h2 => .of_eq (kb kV doc pm an cdv ct us ws h1 h2), hlt, hlen⟩
  obtain ⟨tk, pk, gk⟩ := hkw
  refine ⟨tCallKG ⟨X.K, X.mg⟩ W fm perm 0 ks.length tNil tk, ⟨fun pins s σ H Q I h => wpAny_Call_Name_kw (ld_glob I hg hm ?_ hdb)⟩, good_callKL .nil gk fm [] mk perm 0 ks.length⟩
  refine PySem.W.callWith_KW0 (h₀ := X.base) I.ok.mod.kin kp hall (thn (pk.run pos pins s σ H _ I h) fun ws s2 ⟨zs, H2, I2, rz, l1, l2, q2⟩ => ⟨I2.kIn, ?_⟩) hpl
  rw [hks]
  exact run_k (us := []) F (hr.mono hj) gd tw hb I2 .nil rz l1 l2 q2
end
end DL
namespace DL
open PySem PySem.Spec L2
open PySem.Froz
variable {g : G} {W : WX}
/-! ### len(set(x)) -/
def rLenT (X : Cx) : List V → Hp → VK → Prop := fun vs H Q => ∃ (a : Addr) (l : List Str), vs = [.ref a] ∧ H a = some (SetTO X.prog X.w a l) ∧ l.length < 4000 ∧ Q (.int l.length) H
theorem call_lenT {X : Cx} : CallR X (.builtin "len") (rLenT X) := by
  intro pins s σ H vs us Q I r h
  obtain ⟨a, l, rfl, ha, small, q⟩ := h
  obtain ⟨⟨es, ep, t⟩, d0, ok, pm, vs, rs, ld⟩ := setTO_at I ha
  have sz : es.size = l.length := ok.sz
  rw [Vals.ref1 r]
  exact PySem.call_len_set d0 ⟨rfl, rfl, rfl⟩ rfl ok.fit (by show (es.size : Int) < _; omega) ⟨.int l.length, H, I.tok _, ⟨_, by rw [sz]⟩, q⟩
def dLenSet : List D → Option Rv
  | [.list ds] => match asStrs ds with
    | some ss => if ss.length < 4000 then some (.val (.int (dedS ss).length)) else none
    | none => none
  | _ => none
def rLenSet (X : Cx) : List V → Hp → VK → Prop := fun vs H Q => rSetT X vs H fun y H2 => rLenT X [y] H2 Q
theorem good_lenSet {X : Cx} : GoodC ⟨X.K, X.mg⟩ (rLenSet X) dLenSet := by
  refine ⟨fun F H vs ds Q s h p => ?_, fun ds => ?_⟩
  · unfold dLenSet at p
    split at p
    · rename_i es
      obtain ⟨v, rfl, hv⟩ := h.one
      obtain ⟨a, xs, e1, e2, e3⟩ := hv.lst s
      cases q : asStrs es with
      | none => simp only [q] at p; exact p.elim
      | some ss =>
        simp only [q] at p
        by_cases small : ss.length < 4000
        · rw [if_pos small] at p
          obtain ⟨w, ok⟩ := e3.strs q
          subst w
          refine ⟨a, ss, by rw [e1], .inl (.inl e2), small, fun b l fresh nd mem ll => ⟨b, l, rfl, upd_same, by omega, ?_⟩⟩
          have pl : l.Perm (dedS ss) := (List.perm_ext_iff_of_nodup nd (dedS_nodup ss)).mpr fun k => (mem k).trans dedS_mem.symm
          rw [pl.length_eq]
          exact p F _ _ ⟨.refl, upd_sub fresh, fun _ h h' => absurd h h', s.trans (upd_sub fresh)⟩ (.int _)
        · rw [if_neg small] at p; exact p.elim
    · exact p.elim
  · unfold dLenSet
    split
    · split
      · split <;> first | exact NoSl.val | exact NoSl.none
      · exact NoSl.none
    · exact NoSl.none
section
variable {X : Cx} {p pos p2 pos2 : Pos} {e : Expr} {f : ME}
theorem de_lenSet (hc : X.calm = true) (hs : X.mg "len" = none) (hm : X.mg "set" = none) (ha : DE X W e f) (hg : Gl X "len" := by rfl) (hg2 : Gl X "set" := by rfl) (he : starEach [e] X.env = (false, eval e X.env) :: starEach [] X.env := by rfl)
    (he2 : starEach [Expr.Call (.Name "set" p2) [e] [] pos2] X.env = (false, eval (.Call (.Name "set" p2) [e] [] pos2) X.env) :: starEach [] X.env := by rfl) (hpl : (backTo pos (starEach [] X.env)).any (·.1) = false := by rfl) (hpl2 : (backTo pos2 (starEach [] X.env)).any (·.1) = false := by rfl) :
    DE X W (.Call (.Name "len" p) [.Call (.Name "set" p2) [e] [] pos2] [] pos) (mCallB dLenSet [f]) := by
  obtain ⟨t, pt, gt⟩ := ha
  have inner : PE X (.Call (.Name "set" p2) [e] [] pos2) (tCB (rSetT X) (tCons t tNil)) := pe_callTy (call_setT hc) hg2 hm (by decide +kernel) (pa_cons pt pa_nil he) (by decide) (by decide) he hpl2
  have outer := pe_callB (p := p) call_lenT hg hs (by decide +kernel) (pa_cons inner pa_nil he2) (by decide) (by decide) he2 hpl
  exact ⟨_, outer, good_callB (r := rLenSet X) (.cons gt .nil) good_lenSet⟩
end
end DL
namespace DL
open PySem PySem.Spec L2
variable {g : G} {W : WX}
/-! ### x in range(a, b) -/
theorem place_one (a b k : Int) : (Builtin.Range.rangePlace? a b 1 k).isSome = decide (a ≤ k ∧ k < b) := by
  unfold Builtin.Range.rangePlace?
  have e : (k - a) % 1 = 0 := Int.emod_one _
  simp only [show (1 : Int) > 0 by decide, if_true, e, beq_self_eq_true, Bool.and_true]
  by_cases h1 : a ≤ k <;> by_cases h2 : k < b <;> simp [h1, h2]
section
variable {P : Program} {w : World} {A : Around} {E : Value → Shared → Prop} {s : Shared}
theorem in_range {r : Addr} {a b k : Int} {t u v t' : Tok} {Q : Value → Shared → Prop} (hr : IsRange s.heap r a b 1 t u v) (h : Q (.bool (decide (a ≤ k ∧ k < b))) s) : wpAny (model P w) A (compareOp .In (.int k t') (.ref r)) Q E s := by
  have hT : s.TypeIs (.ref r) "range" := ⟨_, hr, rfl⟩
  refine PyProof.Rows.In_slot hT F.slot_range_contains (wpAny_call_entry F.slot_range_contains hT F.entry_range_contains ?_ (F.args_range_contains_2 _ _))
  unfold Builtin.«range.__contains__»
  refine wpAny_bind (m := slotArgs _ _ _) (wpAny_pure ?_)
  dsimp only
  show wpAny _ _ (do rule "range.contains.reckoned"; let (a, b, c) ← Builtin.Range.rangeFields (.ref r); ret (.bool (Builtin.Range.rangePlace? a b c k).isSome)) _ _ _
  refine wpAny_bind (wpAny_rule ?_)
  refine wpAny_bind (wpAny_rangeFields hr ?_)
  dsimp only
  rw [place_one]
  exact wpAny_pure ⟨_, rfl, wpAny_truthy_bool h⟩
end
def rInRg : List V → Hp → VK → Prop
  | [x, y, z], H, Q => ∃ i j, y = .int i ∧ z = .int j ∧ ∃ k, x = .int k ∧ Q (.bl (decide (i ≤ k ∧ k < j))) H
  | _, _, _ => False
def dInRg : List D → Option Rv
  | [.int k, .int i, .int j] => some (.val (.bool (decide (i ≤ k ∧ k < j))))
  | _ => none
theorem good_inRg : GoodC g rInRg dInRg := by
  refine ⟨fun F H vs ds Q s h p => ?_, fun ds => ?_⟩
  · unfold dInRg at p
    split at p
    · rename_i k i j
      cases h with
      | cons hx h => cases h with
        | cons hy h => cases h with
          | cons hz h =>
            cases h
            exact ⟨i, j, hy.int, hz.int, k, hx.int, p.val0 s (.bl _)⟩
    · exact p.elim
  · unfold dInRg
    split <;> first | exact NoSl.val | exact NoSl.none
section
variable {X : Cx} {a b c : Expr} {p pos pos2 : Pos} {f1 f2 f3 : ME}
theorem de_inRg (hm : X.mg "range" = none) (ha : DE X W a f1) (hb : DE X W b f2) (hc : DE X W c f3) (hg : Gl X "range" := by rfl) (nb : starEach [b, c] X.env = (false, eval b X.env) :: starEach [c] X.env := by rfl) (nc : starEach [c] X.env = (false, eval c X.env) :: starEach [] X.env := by rfl)
    (hp : (backTo pos2 (starEach [c] X.env)).any (·.1) = false := by rfl) (hm2 : behindInMarks .In (.Call (.Name "range" p) [b, c] [] pos2) = false := by rfl) :
    DE X W (.Compare a [.In] [.Call (.Name "range" p) [b, c] [] pos2] pos) (mCallB dInRg [f1, f2, f3]) := by
  obtain ⟨ta, pa, ga⟩ := ha
  obtain ⟨tb, pb, gb⟩ := hb
  obtain ⟨tc, pc, gc⟩ := hc
  refine ⟨tCB rInRg (tCons ta (tCons tb (tCons tc tNil))), ⟨fun pins s σ H Q I h => ?_⟩, good_callB (.cons ga (.cons gb (.cons gc .nil))) good_inRg⟩
  refine wpAny_Compare1 (thn (pa.run pins s σ H _ I h) fun v s1 ⟨x, H1, I1, r1, q1⟩ => ?_) hm2
  refine thn (prg_2 hg hm pb pc nb nc hp pins s1 σ H1 (fun i j H3 => ∃ k, x = .int k ∧ Q (.bl (decide (i ≤ k ∧ k < j))) H3) I1 q1) fun u s2 ⟨r, i, j, t, u', v', H', e, hr, I2, k, ex, q⟩ => ?_
  subst e
  subst ex
  obtain ⟨t', rfl⟩ := r1
  exact in_range hr ⟨.bl _, H', I2, rfl, q⟩
theorem dt_inRg (hm : X.mg "range" = none) (ha : DE X W a f1) (hb : DE X W b f2) (hc : DE X W c f3) (hg : Gl X "range" := by rfl) (nb : starEach [b, c] X.env = (false, eval b X.env) :: starEach [c] X.env := by rfl) (nc : starEach [c] X.env = (false, eval c X.env) :: starEach [] X.env := by rfl)
    (hp : (backTo pos2 (starEach [c] X.env)).any (·.1) = false := by rfl) (hm2 : behindInMarks .In (.Call (.Name "range" p) [b, c] [] pos2) = false := by rfl) :
    DT X W (.Compare a [.In] [.Call (.Name "range" p) [b, c] [] pos2] pos) (mTest (mCallB dInRg [f1, f2, f3])) := by
  obtain ⟨ta, pa, ga⟩ := ha
  obtain ⟨tb, pb, gb⟩ := hb
  obtain ⟨tc, pc, gc⟩ := hc
  refine ⟨tTest (tCB rInRg (tCons ta (tCons tb (tCons tc tNil)))), ⟨fun pins s σ H Q I h => ?_⟩, good_test (good_callB (.cons ga (.cons gb (.cons gc .nil))) good_inRg)⟩
  refine wpAny_isTrue_Compare1 (thn (pa.run pins s σ H _ I h) fun v s1 ⟨x, H1, I1, r1, q1⟩ => ?_) hm2
  refine thn (prg_2 hg hm pb pc nb nc hp pins s1 σ H1 (fun i j H3 => ∃ k, x = .int k ∧ ∃ d, V.bl (decide (i ≤ k ∧ k < j)) = .bl d ∧ Q d H3) I1 q1) fun u s2 ⟨r, i, j, t, u', v', H', e, hr, I2, k, ex, d, ed, q⟩ => ?_
  subst e
  subst ex
  cases ed
  obtain ⟨t', rfl⟩ := r1
  exact in_range hr (wpAny_truthy_bool ⟨H', I2, q⟩)
end
/-! ### a, b = a list -/
def mLstG (ms : List MG) : MG := fun r env => r.data env >>= fun d => match d with
  | .list ds => if ds.length = ms.length then asgAll ms ds env else .stuck
  | _ => .stuck
theorem good_lstG {u : TGs} {ms : List MG} {n : Nat} (h : AllG g W u ms) (hn : ms.length = n) : GoodG g W (gLst g.K n u) (mLstG ms) := fun F0 H0 σ0 env0 F H σ env v r Dn x k kp rv p => by
  unfold mLstG at p
  rcases data_cases r env with ⟨d, q⟩ | q
  · have pk := RvOk.pk rv k q
    simp only [q, Res.ok_bind] at p
    cases d with
    | list ds =>
      obtain ⟨a, xs, e, hq, hd⟩ := pk.lst k.sub
      by_cases hl : ds.length = ms.length
      · simp only [hl, if_true] at p
        exact ⟨a, xs, e, .inl (.inl hq), by rw [hd.length, hl, hn], h.run F H σ env xs ds Dn k hd (PostS.after x kp p)⟩
      · simp only [hl, if_false] at p; exact p.elim
    | _ => exact p.elim
  · simp only [q, Res.stuck_bind] at p; exact p.elim
section
variable {X : Cx} {pos : Pos}
theorem dg_lst {es : List Expr} {k : Nat} {ms : List MG} (hc : X.calm = true) (h : DGs X W es ms) (hn : (assignEach es X.env).length = ms.length := by rfl) (hst : (assignEach es X.env).findIdx? (·.1) = none := by rfl) : DG X W (.Tuple es k pos) (mLstG ms) := by
  obtain ⟨t, p, q⟩ := h
  exact ⟨_, pg_lst hc p hn hst, good_lstG q rfl⟩
end
end DL
namespace DL
open PySem PySem.Spec L2
/-- a def that calls itself, with no fuel left -/
theorem fng_zero {P : Program} {w : World} {K : PySem.W.Frag} {mg : Str → Option Value} {base : Heap} {k : Nat} {f : Addr} {fd : FuncData} {ps : List Str} : FnG P w K mg base k f fd ps (fun _ => .stuck) :=
  ⟨fun env h => absurd rfl h, fun A outer s H args us vs Q E hr hg e0 hb r hsp => by obtain ⟨F, env, ek, p⟩ := hsp; exact p.elim⟩
end DL
namespace DL
open PySem PySem.Spec L2
variable {g : G} {W : WX}
/-! ### 1 << k -/
def dShl : D → D → Option Rv
  | .int i, .int j => if i = 1 ∧ 0 ≤ j ∧ j ≤ 1000 then some (.val (.int (2 ^ j.toNat))) else none
  | _, _ => none
def rShl : R2 := fun x y H Q => ∃ k : Nat, x = .int 1 ∧ y = .int (k : Int) ∧ k ≤ 134217727 ∧ Q (.int (2 ^ k)) H
theorem good_shl : Good2 g rShl dShl := by
  refine ⟨fun F H x y d e Q s hx hy p => ?_, fun d e => ?_⟩
  · unfold dShl at p
    split at p
    · rename_i i j
      split at p
      · rename_i h
        obtain ⟨rfl, h1, h2⟩ := h
        have ej : ((j.toNat : Nat) : Int) = j := Int.toNat_of_nonneg h1
        exact ⟨j.toNat, hx.int, by rw [ej]; exact hy.int, by omega, p.val0 s (.int _)⟩
      · exact p.elim
    · exact p.elim
  · unfold dShl; split <;> first | exact NoSl.none | (split <;> first | exact NoSl.val | exact NoSl.none)
section
variable {X : Cx} {a b : Expr} {pos : Pos} {f h : ME}
theorem de_shl (ha : DE X W a f) (hb : DE X W b h) : DE X W (.BinOp a .LShift b pos) (mBin dShl f h) := de_op op_oneShl good_shl ha hb
end
end DL
namespace DL
open PySem PySem.Spec L2
variable {g : G} {W : WX}
/-! ### text.index(text), where it is found -/
def dSIndex : D → List D → Option Rv
  | .str a, [.str b] => match PySem.Builtin.Str.occurrences a b 0 a.length 1 with
    | i :: _ => some (.val (.int (i : Nat)))
    | [] => none
  | _, _ => none
theorem good_sindex {F H : Hp} {x : V} {vs : List V} {d : D} {ds : List D} {Q : VK} (s : Sub F H) (hx : Pk g F H x d) (h : Pks g F H vs ds) (p : Post0 g F H Q (dSIndex d ds)) : ∃ a b i rest, x = .str a ∧ vs = [.str b] ∧ PySem.Builtin.Str.occurrences a b 0 a.length 1 = i :: rest ∧ Q (.int (i : Nat)) H := by
  unfold dSIndex at p
  split at p
  · rename_i a b
    obtain ⟨v, rfl, hv⟩ := h.one
    obtain ⟨e1, o1⟩ := hx.str
    obtain ⟨e2, o2⟩ := hv.str
    split at p
    · rename_i i rest e
      exact ⟨a, b, i, rest, e1, by rw [e2], e, p.val0 s (.int _)⟩
    · exact p.elim
  · exact p.elim
theorem nosl_sindex (d : D) (ds : List D) : NoSl (dSIndex d ds) := by
  unfold dSIndex
  split
  · split <;> first | exact NoSl.val | exact NoSl.none
  · exact NoSl.none
section
variable {X : Cx} {o e : Expr} {f h : ME} {apos cpos : Pos}
theorem de_sindex (ho : DE X W o f) (ha : DE X W e h) (hs : starEach [e] X.env = (false, eval e X.env) :: starEach [] X.env := by rfl) (hbase : attributeBase o "index" X.env (eval o X.env) = eval o X.env := by rfl)
    (hfew : ((backTo cpos (starEach [e] X.env)).all (fun x => !x.1) && (backToKw cpos (keywordEach [] X.env)).all (fun x => x.1.isSome) && decide ([e].length + ([] : List Keyword).length + (if ([] : List Keyword).isEmpty then 0 else 1) < 30)) = true := by rfl)
    (hline : (apos.endLine == cpos.line) = true := by rfl) (hplain : (backTo cpos (starEach [] X.env)).any (·.1) = false := by rfl) : DE X W (.Call (.Attribute o "index" apos) [e] [] cpos) (mMeth dSIndex isStrD f [h]) := by
  obtain ⟨t, pt, gt⟩ := ho
  obtain ⟨u, pu, gu⟩ := ha
  exact ⟨_, pe_bm PySem.F.plainAttrs_str PySem.F.slot_str_index PySem.F.type_str_index mt_sindex pt (pa_cons pu pa_nil hs) hbase hfew hline hs hplain, good_meth (T := "str") gt (.cons gu .nil) (fun F H x vs d ds Q s hx h p => good_sindex s hx h p) (fun F H x d s h e => ty_str s h e) nosl_sindex⟩
end
end DL
/-! DTry: raise C(e), try .. except C as e, isinstance of errors, e.value, defs called where an error is handled. -/
namespace DL
open PySem PySem.Spec L2
open PyProof.Rows (envOfC)
variable {g : G} {W : WX}

/-! ### classes of errors -/
def errNs : List Str := ["WordError", "InvalidWord", "InvalidNumber", "InvalidText", "InvalidReading", "NotOneWay", "NotApart", "NothingToUndo", "TooMany", "Unreadable"]
/-- is the class c under h, as far as it is told -/
def xsub (c h : Str) : Option Bool := if errNs.contains c = true then (if c = h ∨ h = "WordError" ∨ h = "ValueError" then some true else if errNs.contains h = true then some false else none) else none
structure ErrC (K : PySem.W.Frag) (C : Addr) : Prop where
  xf : XfC K C
  noV : PySem.W.findIn K (.ref C) "value" = some none
  cl : (PySem.W.clsIn K C).isSome = true
  ha : PySem.W.findIn K (.ref C) "__class__" = some (some (.builtin "object.__class__"))
  hn : PySem.W.specialIn K (.builtin "object.__class__") "__get__" = some (some (.builtin "getset_descriptor.__get__"))
  ht : PySem.W.takesIn K (.builtin "object.__class__") = some true
  hm : PySem.W.mroIn K C (.type "object") = some true
  vE : PySem.W.subIn K (.ref C) (.type "ValueError") = some true
structure ErrAll (K : PySem.W.Frag) (mg : Str → Option Value) : Prop where
  all : ∀ c, errNs.contains c = true → ∀ C, mg c = some (.ref C) → ErrC K C
/-- H is the class h, all others as told -/
structure SubAt (K : PySem.W.Frag) (mg : Str → Option Value) (h : Str) (H : Addr) : Prop where
  at_ : mg h = some (.ref H)
  cl : (PySem.W.clsIn K H).isSome = true
  ty : PySem.W.typeIn K (.ref H) = some (.type "type")
  bx : PySem.W.subIn K (.ref H) (.type "BaseException") = some true
  self : PySem.W.subIn K (.ref H) (.ref H) = some true
  sub : ∀ c b, xsub c h = some b → ∀ C, mg c = some (.ref C) → PySem.W.subIn K (.ref C) (.ref H) = some b
structure SubC (K : PySem.W.Frag) (mg : Str → Option Value) (h : Str) : Prop where
  ex : ∃ H, SubAt K mg h H
theorem SubAt.kit {K : PySem.W.Frag} {mg : Str → Option Value} {h c : Str} {H C : Addr} {b : Bool} (s : SubAt K mg h H) (e : xsub c h = some b) (hc : mg c = some (.ref C)) : PySem.W.kitOne K (.ref C) (.ref H) = some b := by
  have q := s.sub c b e C hc
  unfold PySem.W.kitOne
  by_cases z : (Value.ref C == Value.ref H) = true
  · rw [if_pos z]
    have z' : C = H := Value.ref.inj (beq_iff_eq.mp z)
    subst z'
    rw [s.self] at q
    exact q
  · rw [if_neg z]
    unfold PySem.W.kitCls
    dsimp only
    rw [s.cl, s.ty, if_pos (by simp)]
    exact q
theorem SubAt.exm {K : PySem.W.Frag} {mg : Str → Option Value} {h c : Str} {H C : Addr} {b : Bool} (s : SubAt K mg h H) (e : xsub c h = some b) (hc : mg c = some (.ref C)) : PySem.W.exmOne K (.ref C) (.ref H) = some b := by
  unfold PySem.W.exmOne PySem.W.kitCls
  rw [s.bx, if_pos (by simp)]
  dsimp only
  rw [s.cl, s.ty, if_pos (by simp)]
  exact s.sub c b e C hc

/-! ### raise C(e) -/
structure ErrF (P : Program) (K : PySem.W.Frag) (mg : Str → Option Value) (c : Str) : Prop where
  ex : ∃ C D f st fd, mg c = some (.ref C) ∧ InitK P K f D st fd ∧ InitC K C D ∧ PySem.W.findIn K (.ref C) "__init__" = some (some (.ref f)) ∧ PySem.W.typeIn K (.ref f) = some (.type "function") ∧ Binds K fd ["self", "value"] []
def tErr (C : Addr) (ta : TE) : St → Hp → XK → Prop := fun σ H Q => tCons ta tNil σ H fun ys H1 => ∃ y, ys = [y] ∧ ∀ dx, H1 dx = none → Q (.ref C) (some dx) (upd H1 dx (.xd [(("value" : Str), y)]))
theorem pmk_err {X : Cx} {x : Str} {C D f : Addr} {st : Stmt} {fd : FuncData} {e : Expr} {ta : TE} {p pos : Pos} {k : Nat} (hm : X.mg x = some (.ref C)) (IK : InitK X.prog X.K f D st fd) (IC : InitC X.K C D)
    (iC : PySem.W.findIn X.K (.ref C) "__init__" = some (some (.ref f))) (tI : PySem.W.typeIn X.K (.ref f) = some (.type "function")) (hb : Binds X.K fd ["self", "value"] []) (hr : Room k X.A) (hk : 2 ≤ k) (hg : Gl X x) (ha : PE X e ta)
    (hdb : (x == ("__debug__" : Str)) = false := by decide) (he : starEach [e] X.env = (false, eval e X.env) :: starEach [] X.env := by rfl) (hpl : (backTo pos (starEach [] X.env)).any (·.1) = false := by rfl) :
    PMk X (.Call (.Name x p) [e] [] pos) (tErr C ta) := by
  intro pins s σ H Q I h
  have T := IC.ox
  have hr2 : Room (1 + 1) X.A := hr.mono hk
  obtain ⟨nm, q, N, bs, bm, sn, sub, ab, col, dd, k0, k1, k2, k3, k5, hC, hbm⟩ := T.cls
  have F1 : FnOk X.prog X.w X.K X.mg X.base (fun _ _ _ _ _ _ => False) 1 f fd ["self", "value"] (initSp X.K D) := fnok_init IK
  refine wpAny_Call_Name_kw (ld_glob I hg hm ?_ hdb)
  refine PySem.W.callWith_K (h₀ := X.base) I.ok.mod.kin T.kC (thn ((pa_cons ha pa_nil he).run pos pins s σ H _ I h) fun us s1 ⟨vs, H1, I1, r1, y, ev, q1⟩ => ⟨I1.kIn, ?_⟩) he hpl
  subst ev
  show wpAny _ _ (call (.ref C) us) _ _ _
  obtain ⟨hp, g, dr, tk, os⟩ := s1
  have hsz : hp.objs.size ≤ hp.objs.size + 1 := Nat.le_succ _
  have hn : H1 (hp.objs.size + 1) = none := I1.hok.fresh hsz
  have hKn : X.K.lookup (hp.objs.size + 1) = none := by
    cases z : X.K.lookup (hp.objs.size + 1) with
    | none => rfl
    | some o => exact absurd (Heap.lt_size (I1.kIn _ _ z)) (by show ¬ (hp.objs.size + 1 < hp.objs.size); omega)
  have kk : ∀ b o, hp.get? b = some o → ((hp.push (PySem.W.kdv_tup us)).push (PySem.HandSPX.excO C hp.objs.size)).get? b = some o := fun b o e => Heap.get?_push_of_some _ (Heap.get?_push_of_some _ e)
  have hget : ((hp.push (PySem.W.kdv_tup us)).push (PySem.HandSPX.excO C hp.objs.size)).get? (hp.objs.size + 1) = some (PySem.HandSPX.excO C hp.objs.size) := by heap_get
  have I2 : Inv X pins σ (upd H1 (hp.objs.size + 1) (exo (hp.objs.size + 1) C none)) ⟨(hp.push (PySem.W.kdv_tup us)).push (PySem.HandSPX.excO C hp.objs.size), g, dr, tk, os⟩ :=
    I1.laid (t' := tk) (a := hp.objs.size + 1) (o := exo (hp.objs.size + 1) C none) (h' := (hp.push (PySem.W.kdv_tup us)).push (PySem.HandSPX.excO C hp.objs.size)) kk hsz (exo_ok hget)
  have r2 : Vals [V.ref (hp.objs.size + 1), y] (Value.ref (hp.objs.size + 1) :: us) := .cons rfl r1
  have hl : (Value.ref (hp.objs.size + 1) :: us).length = (["self", "value"] : List Str).length := r2.length.symm
  have hus : us.length ≤ sizeLine := by
    rw [← Paired.length r1, sizeLine_eq]
    show 1 ≤ _
    omega
  have bnd := hb ⟨(hp.push (PySem.W.kdv_tup us)).push (PySem.HandSPX.excO C hp.objs.size), g, dr, tk, os⟩ (Value.ref (hp.objs.size + 1) :: us) I2.kIn (by rw [List.append_nil]; exact hl)
  rw [List.append_nil] at bnd
  have hsp : initSp X.K D [V.ref (hp.objs.size + 1), y] (upd H1 (hp.objs.size + 1) (exo (hp.objs.size + 1) C none)) (fun v H2 => v = .non ∧ ∃ d, H1 d = none ∧ d ≠ hp.objs.size + 1 ∧ H2 = upd (upd (upd H1 (hp.objs.size + 1) (exo (hp.objs.size + 1) C none)) d (exd d [(("value" : Str), y)])) (hp.objs.size + 1) (exo (hp.objs.size + 1) C (some d))) (fun _ _ _ => False) :=
    ⟨_, C, y, rfl, IC, hKn, upd_same, fun dx h1 h2 => ⟨rfl, dx, by rw [upd_ne h2] at h1; exact h1, h2, rfl⟩⟩
  refine wpAny_call (PySem.HandSPX.call_own F.excBase_ValueError (fun Y => PySem.HandSPX.refsVE_contains Y bm hbm) (I1.kIn _ _ hC) (PySem.W.looks_findIn I1.kIn iC) (fun self => PySem.W.bind_fn I1.kIn self tI) hus
    (codeAny_mono (F1.run _ X.stack _ _ ⟨Value.ref (hp.objs.size + 1) :: us, []⟩ (Value.ref (hp.objs.size + 1) :: us) _ _ (fun _ _ _ => False) (hr2.make C us []) (I2.env0.make C us []) bnd r2 hsp) fun r s' hq' => ?_))
  cases r with
  | error er => exact hq'.elim
  | ok fl =>
    cases fl with
    | ret u =>
      obtain ⟨v, H2, os2, bare2, un2, hok2, rv, ev, d, hd, hda, eH⟩ := hq'
      subst ev
      subst eH
      obtain ⟨h2, g2, d2, t2, os'⟩ := s'
      refine ⟨rv, mk_end (raises_own T.exC T.tyC) I1 hsz kk un2 hok2 os2 bare2 upd_same (by rw [upd_ne hda]; exact upd_same) hd ?_⟩
      have e : upd (del (upd (upd (upd H1 (hp.objs.size + 1) (exo (hp.objs.size + 1) C none)) d (exd d [(("value" : Str), y)])) (hp.objs.size + 1) (exo (hp.objs.size + 1) C (some d))) (hp.objs.size + 1)) d (.xd [(("value" : Str), y)]) = upd H1 d (.xd [(("value" : Str), y)]) := by
        funext b
        by_cases hb : b = d
        · subst hb; rw [upd_same, upd_same]
        · rw [upd_ne hb, upd_ne hb]
          by_cases hb2 : b = hp.objs.size + 1
          · subst hb2; rw [del_same, hn]
          · rw [del_ne hb2, upd_ne hb2, upd_ne hb, upd_ne hb2]
      rw [e]
      exact q1 d hd
    | next => exact False.elim hq'
    | brk => exact False.elim hq'
    | cont => exact False.elim hq'
def mRaise (c : Str) (f : ME) : MS := fun env => f env >>= fun z => z.1.frz z.2 >>= fun y => .ex c y.1 y.2
theorem good_raise {c : Str} {C : Addr} (hc : g.mg c = some (.ref C)) {ta : TE} {f : ME} (h : GoodE g W ta f) : GoodS g W (fun _ σ H => tErr C ta σ H fun cls d H' => W cls d σ H') (mRaise c f) := fun F H σ env Dn k p => by
  refine h F H σ env _ k (PostS.bindF p fun d e2 F2 H1 v x2 k2 kp2 hd p2 => ⟨v, rfl, fun dx hdx => ?_⟩)
  have gr : Grow F2 H1 (upd F2 dx (.xd [(("value" : Str), v)])) (upd H1 dx (.xd [(("value" : Str), v)])) := Grow.laidF k2.sub hdx
  exact p2 _ _ σ dx C v gr.ext (k2.grow gr) .refl hc upd_same (hd.mono gr.sub)
theorem ds_raise {X : Cx} {c : Str} {k : Nat} {e : Expr} {f : ME} {p pos pos' : Pos} (er : ErrF X.prog X.K X.mg c) (hr : Room k X.A) (hk : 2 ≤ k) (hc : X.calm = true) (tk : Takes X W) (he : DE X W e f) (hg : Gl X c := by rfl)
    (hdb : (c == ("__debug__" : Str)) = false := by decide) (hs : starEach [e] X.env = (false, eval e X.env) :: starEach [] X.env := by rfl) (hpl : (backTo pos (starEach [] X.env)).any (·.1) = false := by rfl) :
    DS X W (.Raise (some (.Call (.Name c p) [e] [] pos)) none pos') (mRaise c f) := by
  obtain ⟨C, D, fi, st, fd, hm, IK, IC, iC, tI, hb⟩ := er
  obtain ⟨t, pt, gt⟩ := he
  exact ⟨_, ps_raise hc tk (pmk_err hm IK IC iC tI hb hr hk hg pt hdb hs hpl), good_raise (g := ⟨X.K, X.mg⟩) hm gt⟩

/-! ### try: body / except C as e: suite -/
theorem xco_ok {P : Program} {w : World} {H : Hp} {h : Heap} {a C dd : Addr} {oe : Obj} {vs : Array Value} (he : h.get? a = some oe) (hz : Zc (.ref C) (some dd) oe) (hd : oe.data = .fields vs) : ObjOk P w H h a (xco a C dd) :=
  ⟨⟨oe, vs, he, hz, hd⟩, ⟨_, he⟩, fun h1 h2 z k => by
    obtain ⟨o, v, q, r⟩ := z
    exact ⟨o, v, k _ q, r⟩⟩
/-- an error that nothing tracks as yet is tracked -/
theorem _root_.L2.Inv.track {X : Cx} {pins : List (Addr × Obj)} {σ : St} {H : Hp} {s : Shared} {a C dd : Addr} {oe : Obj} {vs : Array Value} (I : Inv X pins σ H s) (na : H a = none) (n0 : X.s_0.heap.get? a = none) (he : s.heap.get? a = some oe) (hz : Zc (.ref C) (some dd) oe) (hd : oe.data = .fields vs)
    (nL : a ≠ X.env.locals) (np : ∀ p ∈ X.pn ++ pins, p.1 ≠ a) : Inv X pins σ (upd H a (xco a C dd)) s := by
  have ne0 : ∀ b o, X.s_0.heap.get? b = some o → b ≠ a := fun b o e z => by rw [z, n0] at e; cases e
  have neT : ∀ {b : Addr} {o : HO}, H b = some o → b ≠ a := fun {b o} e z => by rw [z, na] at e; cases e
  refine ⟨I.ok, I.os, I.bare, ⟨I.base.keep, I.base.slot, fun b o e n hx => ?_, I.base.there, fun b xs e => ?_, fun b o u e => ?_, fun b ps e => ?_⟩, I.loc, I.cell, ?_, fun x c e => ?_, fun p hp => ?_, fun b o e => ?_, I.len⟩
  · rw [upd_ne (ne0 b o e)]; exact I.base.free b o e n hx
  · have q := I.base.tups b xs e; rw [upd_ne (neT q)]; exact q
  · have q := I.base.frzs b o u e; rw [upd_ne (neT q)]; exact q
  · obtain ⟨m, q⟩ := I.base.tbls b ps e; exact ⟨m, by rw [upd_ne (neT q)]; exact q⟩
  · rw [upd_ne (Ne.symm nL)]; exact I.free
  · have nc : c ≠ a := fun z => by
      obtain ⟨v, o, ho, hdd⟩ := I.cell x c e
      rw [z, he] at ho; cases ho
      rw [hd] at hdd; cases hdd
    rw [upd_ne nc]; exact I.freeC x c e
  · obtain ⟨h1, h2, h3⟩ := I.pin p hp
    exact ⟨h1, by rw [upd_ne (np p hp)]; exact h2, h3⟩
  · by_cases hb : b = a
    · subst hb
      rw [upd_same] at e; cases e
      exact xco_ok he hz hd
    · rw [upd_ne hb] at e
      exact (I.hok b o e).stay (fun _ _ _ q => q) (fun c q => by rw [upd_ne (neT q)]; exact q) fun c xs q => by rw [upd_ne (neT q)]; exact q
theorem _root_.L2.Inv.suiteE {X : Cx} {pins : List (Addr × Obj)} {σ : St} {H : Hp} {s : Shared} (I : Inv X pins σ H s) (a : Addr) : Inv (X.suite a (X.pn ++ pins)) [] σ H s :=
  ⟨I.ok.suite _ _, I.os, I.bare, I.base, I.loc, I.cell, I.free, I.freeC, fun p hp => I.pin p (by rw [List.append_nil] at hp; exact hp), I.hok, I.len⟩
theorem _root_.L2.Inv.unsuiteE {X : Cx} {pins pn' : List (Addr × Obj)} {σ : St} {H : Hp} {s : Shared} {a : Addr} (I : Inv (X.suite a (X.pn ++ pins)) pn' σ H s) (ok : X.Ok) : Inv X pins σ H s :=
  ⟨ok, I.os, I.bare, I.base, I.loc, I.cell, I.free, I.freeC, fun p hp => I.pin p (List.mem_append_left _ hp), I.hok, I.len⟩

def hushR : Res (Fl × Env) → Res (Fl × Env)
  | .ok z => .ok z
  | _ => .stuck
/-- the name of the clause goes -/
def goneR (i : Nat) : Res (Fl × Env) → Res (Fl × Env)
  | .ok (.rt (.sl j), e) => if j = i then .stuck else .ok (.rt (.sl j), e.set i .no)
  | .ok (f, e) => .ok (f, e.set i .no)
  | _ => .stuck
abbrev ExCl := Str × Option Nat × MS
def handleM : List ExCl → Str → D → Env → Res (Fl × Env)
  | [], c, d, e => .ex c d e
  | (h, none, s) :: r, c, d, e => match xsub c h with
    | some true => hushR (s e)
    | some false => handleM r c d e
    | none => .stuck
  | (h, some i, s) :: r, c, d, e => match xsub c h with
    | some true => if free e i = true then goneR i (s (e.set i (.fz (excD c d)))) else .stuck
    | some false => handleM r c d e
    | none => .stuck
def mTry (m : MS) (l : List ExCl) : MS := fun env => match m env with
  | .ok z => .ok z
  | .ex c d e => handleM l c d e
  | .stuck => .stuck
inductive HdsD (X : Cx) : List ExceptHandler → List ExCl → Prop
  | nil : HdsD X [] []
  | one {h : Str} {b₀ : Stmt} {suite : List Stmt} {ms : MS} {np pos' : Pos} {hds : List ExceptHandler} {l : List ExCl} (sc : SubC X.K X.mg h) (hg : Gl X h) (hd : (h == ("__debug__" : Str)) = false)
      (hsu : ∀ (a : Addr) (pn : List (Addr × Obj)), DSs (X.suite a pn) (fun _ _ _ _ => False) (b₀ :: suite) ms) (r : HdsD X hds l) : HdsD X (.ExceptHandler (some (.Name h np)) none (b₀ :: suite) pos' :: hds) ((h, none, ms) :: l)
  | as {h n : Str} {i : Nat} {b₀ : Stmt} {suite : List Stmt} {ms : MS} {np pos' : Pos} {hds : List ExceptHandler} {l : List ExCl} (sc : SubC X.K X.mg h) (hg : Gl X h) (hd : (h == ("__debug__" : Str)) = false) (hi : X.N[i]? = some n) (hln : X.env.kindOf n = some .local)
      (hsu : ∀ (a : Addr) (pn : List (Addr × Obj)), DSs (X.suite a pn) (fun _ _ _ _ => False) (b₀ :: suite) ms) (r : HdsD X hds l) : HdsD X (.ExceptHandler (some (.Name h np)) (some n) (b₀ :: suite) pos' :: hds) ((h, some i, ms) :: l)
/-- the slot i is unbound -/
theorem EnvOk.gone {F H : Hp} {σ : St} {env : Env} {i : Nat} (k : EnvOk g F H σ env) : EnvOk g F H (σ.set i none) (env.set i .no) := by
  have adr : ∀ j a, Adr (σ.set i none) (env.set i .no) j a → Adr σ env j a := fun j a ⟨⟨kd, d, h1⟩, h2⟩ => by
    rcases get_set h1 with ⟨_, h3, _⟩ | ⟨e, h3⟩
    · cases h3
    · rw [List.getElem?_set_ne e] at h2
      exact ⟨⟨kd, d, h3⟩, h2⟩
  refine ⟨by simpa using k.len, k.sub, fun j s e => ?_, fun j1 j2 a h1 h2 => k.dis j1 j2 a (adr _ _ h1) (adr _ _ h2)⟩
  rcases get_set e with ⟨e1, e2, hi⟩ | ⟨e1, e2⟩
  · subst e1; subst e2
    exact ⟨none, List.getElem?_set_self (by rw [k.len]; exact hi), trivial⟩
  · obtain ⟨o, h1, h2⟩ := k.sl j s e2
    exact ⟨o, by rw [List.getElem?_set_ne e1]; exact h1, h2⟩
theorem own_gone {σ : St} {env : Env} {i : Nat} {b : Addr} (h : Own (σ.set i none) (env.set i .no) b) : Own σ env b := by
  obtain ⟨j, ⟨kd, d, h1⟩, h2⟩ := h
  rcases get_set h1 with ⟨_, h3, _⟩ | ⟨e, h3⟩
  · cases h3
  · rw [List.getElem?_set_ne e] at h2
    exact ⟨j, ⟨kd, d, h3⟩, h2⟩
theorem Ext.wid {F H F' H' : Hp} {O O1 O' : Addr → Prop} (h : ∀ b, O1 b → O b) (x : Ext F H O1 F' H' O') : Ext F H O F' H' O' :=
  ⟨x.sub, fun b o e n => x.keep b o e fun z => n (h b z), x.dom, fun b q q' => (x.new b q q').imp id (h b), fun b q => (x.own b q).imp id (h b)⟩
theorem Ext.nar {F H F' H' : Hp} {O O1 O' : Addr → Prop} (h : ∀ b, O1 b → O' b) (x : Ext F H O F' H' O') : Ext F H O F' H' O1 :=
  ⟨x.sub, x.keep, x.dom, x.new, fun b q => x.own b (h b q)⟩
abbrev W0 : WX := fun _ _ _ _ => False
theorem hush_post {F H F' H' F1 H1 : Hp} {σ σ' : St} {env e' : Env} {D : Ends} {r : Res (Fl × Env)} (x0 : Ext F H (Own σ env) F' H' (Own σ' e')) (kp0 : Keep σ env σ' e') (gr : Grow F' H' F1 H1) (p : PostS g W F H σ env D (hushR r)) : PostS g W0 F1 H1 σ' e' D r := by
  cases r with
  | stuck => exact p.elim
  | ex c d e => exact p.elim
  | ok z =>
    obtain ⟨f, e6⟩ := z
    intro F6 H6 σ6 x6 k6 kp6
    have xx : Ext F H (Own σ env) F1 H1 (Own σ' e') := x0.trans gr.ext
    exact EndOk.later xx.dom (p F6 H6 σ6 (xx.trans x6) k6 (kp0.trans kp6))
theorem gone_post {F H F' H' F1 H1 : Hp} {σ σ' : St} {env e' : Env} {D : Ends} {r : Res (Fl × Env)} {i : Nat} {v : V} {d : PyData} (x0 : Ext F H (Own σ env) F' H' (Own σ' e')) (kp0 : Keep σ env σ' e') (gr : Grow F' H' F1 H1) (hfr : free e' i = true) (p : PostS g W F H σ env D (goneR i r)) :
    PostS g W0 F1 H1 (σ'.set i (some v)) (e'.set i (.fz d)) { nx := fun σ' H' => D.nx (σ'.set i none) H', rt := D.rt, bk := fun σ' H' => D.bk (σ'.set i none) H', ct := fun σ' H' => D.ct (σ'.set i none) H' } r := by
  cases r with
  | stuck => exact p.elim
  | ex c d e => exact p.elim
  | ok z =>
    obtain ⟨f, e6⟩ := z
    intro F6 H6 σ6 x6 k6 kp6
    have sub : ∀ b, Own (σ'.set i (some v)) (e'.set i (.fz d)) b → Own σ' e' b := fun b ⟨j, h⟩ => by
      rcases adr_set h with ⟨_, ⟨_, _, z⟩, _⟩ | ⟨_, a1⟩
      · cases z
      · exact ⟨j, a1⟩
    have x1 : Ext F H (Own σ env) F1 H1 (Own σ' e') := x0.trans gr.ext
    have xx : Ext F H (Own σ env) F6 H6 (Own (σ6.set i none) (e6.set i .no)) := (x1.trans (x6.wid sub)).nar fun b => own_gone
    have kk : Keep σ env (σ6.set i none) (e6.set i .no) := fun j k dd e n => by
      obtain ⟨h1, d1, h2, h3⟩ := kp0 j k dd e n
      have hij := free_keep hfr h2 n
      obtain ⟨h4, d2, h5, h6⟩ := kp6 j k d1 (by rw [List.getElem?_set_ne hij]; exact h2) n
      refine ⟨?_, d2, by rw [List.getElem?_set_ne hij]; exact h5, fun q => (h6 q).trans (h3 q)⟩
      rw [List.getElem?_set_ne hij, h4, List.getElem?_set_ne hij]
      exact h1
    have rvm : ∀ {w : V} {q : Rv}, RvOk g H1 F6 H6 σ6 e6 w q → (∀ j, q = .sl j → j ≠ i) → RvOk g H F6 H6 (σ6.set i none) (e6.set i .no) w q := fun {w q} h hj => by
      have h := RvOk.earlier h x1.dom
      cases q with
      | val d => exact h
      | new d =>
        obtain ⟨a, a1, a2, a3, a4, a5⟩ := h
        exact ⟨a, a1, a2, a3, fun z => a4 (own_gone z), a5⟩
      | sl j =>
        have h : σ6[j]? = some (some w) := h
        show (σ6.set i none)[j]? = _
        rw [List.getElem?_set_ne (Ne.symm (hj j rfl))]; exact h
    cases f with
    | nx => exact p F6 H6 _ xx k6.gone kk
    | bk => exact p F6 H6 _ xx k6.gone kk
    | ct => exact p F6 H6 _ xx k6.gone kk
    | rt q =>
      cases q with
      | val d => exact fun w rv => (show EndOk g H F6 H6 (σ6.set i none) (e6.set i .no) D (.rt (.val d)) from p F6 H6 _ xx k6.gone kk) w (rvm rv fun j z => nomatch z)
      | new d => exact fun w rv => (show EndOk g H F6 H6 (σ6.set i none) (e6.set i .no) D (.rt (.new d)) from p F6 H6 _ xx k6.gone kk) w (rvm rv fun j z => nomatch z)
      | sl j =>
        by_cases hj : j = i
        · unfold goneR at p
          simp only [if_pos hj] at p
          exact p.elim
        · unfold goneR at p
          simp only [if_neg hj] at p
          exact fun w rv => (show EndOk g H F6 H6 (σ6.set i none) (e6.set i .no) D (.rt (.sl j)) from p F6 H6 _ xx k6.gone kk) w (rvm rv fun j' z => by cases z; exact hj)
section
variable {X : Cx} {body : List Stmt} {h₀ : ExceptHandler} {hds : List ExceptHandler} {l : List ExCl} {pos : Pos} {m : MS}
theorem ds_try (hs : X.stack = X.env :: X.outer) (hf : X.env.frame = some X.env.locals) (hex : X.ex = []) (hN : X.N.Nodup) (tk : Takes X W)
    (hb : ∀ (W' : WX) (pn : List (Addr × Obj)) (xe : Value → Shared → Prop), Takes (X.tr pn xe) W' → PassesOwn (model X.prog X.w) X.A X.env xe → DSs (X.tr pn xe) W' body m)
    (hh : HdsD X (h₀ :: hds) l) : DS X W (.Try body (h₀ :: hds) [] [] pos) (mTry m l) := by
  refine ⟨fun D σ H => ∃ F env, EnvOk ⟨X.K, X.mg⟩ F H σ env ∧ PostS ⟨X.K, X.mg⟩ W F H σ env D (mTry m l env), ⟨fun pins s σ H D I h => ?_⟩, fun F H σ env D k p => ⟨F, env, k, p⟩⟩
  obtain ⟨F, env, k, p⟩ := h
  have ok := I.ok
  have hfr : X.A.frames = some (X.env :: X.outer) := by rw [ok.frames, hs]
  refine wpAny_Try_except ?_
  obtain ⟨W', hW'⟩ : ∃ W' : WX, W' = fun cls dopt σ' H' => ∃ F' c d e' C dd v, cls = .ref C ∧ dopt = some dd ∧ Ext F H (Own σ env) F' H' (Own σ' e') ∧ EnvOk ⟨X.K, X.mg⟩ F' H' σ' e' ∧ Keep σ env σ' e' ∧ X.mg c = some (.ref C) ∧ F' dd = some (.xd [(("value" : Str), v)]) ∧ Den ⟨X.K, X.mg⟩ F' v d ∧ m env = .ex c d e' := ⟨_, rfl⟩
  have key : Takes (X.tr (X.pn ++ pins) (fun e s₁ => wpAny (model X.prog X.w) X.A (noteFrame e X.env) (fun _ s₂ => wpAny (model X.prog X.w) X.A (setFlight e none) (fun _ s₃ =>
    wpAny (model X.prog X.w) X.A (handleBy e X.env (h₀ :: hds)) (SP X pins D) X.xe s₃) X.xe s₂) X.xe s₁)) W' := by
    intro u s' xx
    -- the catch
    obtain ⟨a, B, sI, pins', σ', H', cls, dopt, rfl, J', nb, up, sky, na, os, ag, w⟩ := xx
    rw [hW'] at w
    obtain ⟨F', c, d, e', C, dd, v, rfl, rfl, x0, k0, kp0, a1, a2, a3, hm⟩ := w
    have J : Inv X pins σ' H' sI := J'.ofTry ok
    have sky' : Sky B (X.env :: X.outer) a (Zc (.ref C) (some dd)) X.env.locals s'.heap := by rw [← hs]; exact sky
    show wpAny (model X.prog X.w) X.A (noteFrame (.ref a) X.env) _ _ _
    refine Sky.land Zc.steady hfr hf sky' fun h3 fl3 up3 => ?_
    have J3 : Inv X pins σ' H' { s' with heap := h3 } := J.landed nb fl3.1 (up.trans up3) os ag
    obtain ⟨oe3, vs3, he3, hz3, hd3⟩ := fl3.there
    have notFr : ∀ {h : Heap} {o : Obj} {vs : Array Value}, h.FunFrames B (X.env :: X.outer) → h.get? a = some o → o.data = .fields vs → a ∉ frs (X.env :: X.outer) := fun {h o vs} ff e dd hm => by
      obtain ⟨_, o', e', hnf⟩ := ff.mem hm
      rw [e] at e'; cases e'
      exact hnf _ dd
    have nfr := notFr fl3.2.2.1 he3 hd3
    have nL : a ≠ X.env.locals := fun z => nfr (List.mem_filterMap.mpr ⟨X.env, List.mem_cons_self, by rw [hf, z]⟩)
    have nst : a ∉ frs X.stack := by rw [hs]; exact nfr
    have noB : ∀ o, sI.heap.get? a ≠ some o := fun o e => by
      have z := nb a o e nst
      rw [fl3.2.1] at z; cases z
    have n0 : X.s_0.heap.get? a = none := by
      cases e : X.s_0.heap.get? a with
      | none => rfl
      | some o =>
        obtain ⟨o', z⟩ := J.base.there a o e (by rw [hex]; exact fun z => by cases z)
        exact absurd z (noB o')
    have np : ∀ q ∈ X.pn ++ pins, q.1 ≠ a := fun q hq z => noB q.2 (by rw [← z]; exact (J.pin q hq).1)
    have S3 := J3.suiteE a
    have gr : Grow F' H' (upd F' a (xco a C dd)) (upd H' a (xco a C dd)) := Grow.laidF k0.sub na
    have hda : dd ≠ a := fun z => by
      have := k0.sub _ _ a2
      rw [z, na] at this; cases this
    have k1 : EnvOk ⟨X.K, X.mg⟩ (upd F' a (xco a C dd)) (upd H' a (xco a C dd)) σ' e' := k0.grow gr
    have den : Den ⟨X.K, X.mg⟩ (upd F' a (xco a C dd)) (.ref a) (excD c d) := .exc a1 upd_same (by rw [upd_ne hda]; exact a2) (a3.mono gr.sub) rfl
    have p : PostS ⟨X.K, X.mg⟩ W F H σ env D (handleM l c d e') := by
      unfold mTry at p; rw [hm] at p; exact p
    have go : ∀ {hds' : List ExceptHandler} {l' : List ExCl}, HdsD X hds' l' → PostS ⟨X.K, X.mg⟩ W F H σ env D (handleM l' c d e') →
        wpAny (model X.prog X.w) X.A (handleBy (.ref a) X.env hds') (SP X pins D) X.xe { s' with heap := h3 } := by
      intro hds' l' hk
      have LT : PySem.W.Looks (model X.prog X.w) h3 (typeOf (.ref a)) (.ref C) := fun A Q E s k q => wpAny_typeOf_ref (k _ _ he3) (by rw [hz3.1]; exact q)
      induction hk with
      | nil =>
        intro p
        refine wpAny_handleBy_nil ?_
        obtain ⟨k1, k2, k3, oe, vs, T, oT, ts', he, hz, hd, h1, hr⟩ := id fl3
        unfold PySem.passOn
        refine wpAny_bind (wpAny_field he hd h1 ?_)
        rw [if_neg (show ¬ ((Value.ref T == Value.none) = true) from by simp)]
        have fin : wpAny (model X.prog X.w) X.A (setFlight (.ref a) X.env.frame) (fun _ s4 => wpAny (model X.prog X.w) X.A (throw (.ref a) : Sem Flow) (SP X pins D) X.xe s4) X.xe { s' with heap := h3 } := by
          rw [hf]
          refine HandSPX.setFlight_upZ fl3 fun h4 hh4 up4 => wpAny_throw (tk _ _ ?_)
          exact ⟨a, B, sI, pins, σ', H', .ref C, some dd, rfl, J, nb, (up.trans up3).trans up4, .inr (.inr (by rw [hs]; exact hh4)), na, os, ag, p F' H' σ' dd C v x0 k0 kp0 a1 a2 a3⟩
        first
          | exact wpAny_bind (wpAny_pure (wpAny_bind fin))
          | exact wpAny_bind fin
      | @one h b₀ suite ms np' pos' hds2 l2 sc hg hd hsu r ih =>
        intro p
        obtain ⟨Hc, sa⟩ := sc
        unfold handleM at p
        cases hx : xsub c h with
        | none => rw [hx] at p; exact p.elim
        | some b =>
          rw [hx] at p
          refine wpAny_handleBy_cons (codeAny_handlers_test ?_) (by intro q; cases q)
          have LM := PySem.W.exm_one (M := model X.prog X.w) (J3.kIn) LT (sa.exm hx a1)
          refine ld_glob (X := X.suite a (X.pn ++ pins)) S3 hg sa.at_ (LM.here ?_) hd
          cases b with
          | false =>
            show wpAny _ X.A (handleBy (.ref a) X.env hds2) _ _ _
            exact ih p
          | true =>
            refine codeAny_handlers_suite ?_
            refine HandSPX.lands_againZ fl3 fun h4 fl4 up4 => ?_
            have J4 : Inv X pins σ' H' { s' with heap := h4 } := J.landed nb fl4.1 ((up.trans up3).trans up4) os ag
            obtain ⟨oe4, vs4, he4, hz4, hd4⟩ := fl4.there
            have S4 := (J4.track na n0 he4 hz4 hd4 nL np).suiteE a
            obtain ⟨ts, pt, gt⟩ := (hsu a (X.pn ++ pins)).ex
            have q1 : ts D σ' (upd H' a (xco a C dd)) := gt _ _ σ' e' D k1 (hush_post x0 kp0 gr p)
            refine wpAny_mono (pt.run [] _ _ _ _ S4 q1) (fun f s6 hsp => ?_) (fun _ _ z => False.elim z)
            cases f with
            | next =>
              obtain ⟨σ6, H6, S6, q6⟩ := hsp
              exact ⟨_, _, S6.unsuiteE ok, q6⟩
            | brk =>
              obtain ⟨σ6, H6, S6, q6⟩ := hsp
              exact ⟨_, _, S6.unsuiteE ok, q6⟩
            | cont =>
              obtain ⟨σ6, H6, S6, q6⟩ := hsp
              exact ⟨_, _, S6.unsuiteE ok, q6⟩
            | ret u =>
              obtain ⟨v6, σ6, H6, S6, r6, q6⟩ := hsp
              exact ⟨_, _, _, S6.unsuiteE ok, r6, q6⟩
      | @as h n i b₀ suite ms np' pos' hds2 l2 sc hg hd hi hln hsu r ih =>
        intro p
        obtain ⟨Hc, sa⟩ := sc
        have hloc : Loc X.env.scope n := .inl hln
        unfold handleM at p
        cases hx : xsub c h with
        | none => rw [hx] at p; exact p.elim
        | some b =>
          rw [hx] at p
          refine wpAny_handleBy_cons (codeAny_handlers_test ?_) (by intro q; cases q)
          have LM := PySem.W.exm_one (M := model X.prog X.w) (J3.kIn) LT (sa.exm hx a1)
          refine ld_glob (X := X.suite a (X.pn ++ pins)) S3 hg sa.at_ (LM.here ?_) hd
          cases b with
          | false =>
            show wpAny _ X.A (handleBy (.ref a) X.env hds2) _ _ _
            exact ih p
          | true =>
            dsimp only at p
            by_cases hfree : free e' i = true
            rotate_left
            · rw [if_neg hfree] at p; exact p.elim
            rw [if_pos hfree] at p
            refine codeAny_handlers_suite_as ?_
            refine HandSPX.lands_againZ fl3 fun h4 fl4 up4 => ?_
            have J4 : Inv X pins σ' H' { s' with heap := h4 } := J.landed nb fl4.1 ((up.trans up3).trans up4) os ag
            obtain ⟨oe4, vs4, he4, hz4, hd4⟩ := fl4.there
            have S4 := (J4.track na n0 he4 hz4 hd4 nL np).suiteE a
            obtain ⟨ts, pt, gt⟩ := (hsu a (X.pn ++ pins)).ex
            have k2 : EnvOk ⟨X.K, X.mg⟩ (upd F' a (xco a C dd)) (upd H' a (xco a C dd)) (σ'.set i (some (.ref a))) (e'.set i (.fz (excD c d))) := k1.store (free_lt hfree) ⟨_, rfl, den⟩ fun _ _ ⟨kd, d2, z⟩ => nomatch z
            have q1 := gt _ _ _ _ _ k2 (gone_post (v := .ref a) (d := excD c d) x0 kp0 gr hfree p)
            refine store_ok (X := X.suite a (X.pn ++ pins)) (v := .ref a) S4 hN hi hloc rfl (fun s5 S5 => ?_) (.inr hln)
            refine wpAny_mono (pt.run [] s5 _ _ _ S5 q1) (fun f s6 hsp => ?_) (fun _ _ z => False.elim z)
            have end_ : ∀ {σ6 : St} {H6 : Hp} {Q : Shared → Prop}, Inv (X.suite a (X.pn ++ pins)) [] σ6 H6 s6 → (∀ s7, Inv X pins (σ6.set i none) H6 s7 → Q s7) →
                wpAny (model X.prog X.w) X.A (do bindName X.env n .none; unbindBehindTheSuite X.env n pos') (fun _ s7 => Q s7) X.xe s6 := fun {σ6 H6 Q} S6 hq => gone_ok (S6.unsuiteE ok) hN hi hln hq
            cases f with
            | next =>
              obtain ⟨σ6, H6, S6, q6⟩ := hsp
              exact end_ S6 fun s7 J7 => ⟨_, _, J7, q6⟩
            | brk =>
              obtain ⟨σ6, H6, S6, q6⟩ := hsp
              exact end_ S6 fun s7 J7 => ⟨_, _, J7, q6⟩
            | cont =>
              obtain ⟨σ6, H6, S6, q6⟩ := hsp
              exact end_ S6 fun s7 J7 => ⟨_, _, J7, q6⟩
            | ret u =>
              obtain ⟨v6, σ6, H6, S6, r6, q6⟩ := hsp
              exact end_ S6 fun s7 J7 => ⟨_, _, _, J7, r6, q6⟩
    exact go hh p
  obtain ⟨tb, pb, gb⟩ := (hb W' (X.pn ++ pins) (fun e s₁ => wpAny (model X.prog X.w) X.A (noteFrame e X.env) (fun _ s₂ => wpAny (model X.prog X.w) X.A (setFlight e none) (fun _ s₃ =>
    wpAny (model X.prog X.w) X.A (handleBy e X.env (h₀ :: hds)) (SP X pins D) X.xe s₃) X.xe s₂) X.xe s₁) key PassesOwn.looking).ex
  have hb1 : tb D σ H := by
    refine gb F H σ env D k ?_
    cases q : m env with
    | stuck => unfold mTry at p; rw [q] at p; exact p.elim
    | ok z => unfold mTry at p; rw [q] at p; exact p
    | ex c d e' =>
      intro F' H' σ' dd C v x k' kp a1 a2 a3
      rw [hW']
      exact ⟨F', c, d, e', C, dd, v, rfl, rfl, x, k', kp, a1, a2, a3, q⟩
  refine wpAny_mono (pb.run [] s σ H D (I.toTry _) hb1) (fun f s1 hsp => ?_) (fun e s1 he => he)
  cases f with
  | next =>
    obtain ⟨σ', H', J', q⟩ := hsp
    exact wpAny_execs_nil ⟨σ', H', J'.ofTry ok, q⟩
  | brk =>
    obtain ⟨σ', H', J', q⟩ := hsp
    exact ⟨σ', H', J'.ofTry ok, q⟩
  | cont =>
    obtain ⟨σ', H', J', q⟩ := hsp
    exact ⟨σ', H', J'.ofTry ok, q⟩
  | ret u =>
    obtain ⟨v, σ', H', J', r, q⟩ := hsp
    exact ⟨v, σ', H', J'.ofTry ok, r, q⟩
end

/-! ### e.value, isinstance(e, ..) -/
theorem Pk.exc {F H : Hp} {v : V} {c : Str} {d : PyData} (s : Sub F H) (h : Pk g F H v (excD c d)) : ∃ a C dd v1, v = .ref a ∧ g.mg c = some (.ref C) ∧ H a = some (xco a C dd) ∧ H dd = some (.xd [(("value" : Str), v1)]) ∧ Den g F v1 d := by
  generalize hd : excD c d = d0 at h
  rcases h with h | ⟨a, e, h⟩
  · cases h with
    | @exc a C dd c2 v1 d1 d0 h1 h2 h3 r e =>
      subst e
      unfold excD at hd
      injection hd with hd
      injection hd with _ hd
      injection hd with hd _
      injection hd with e1 e2
      injection e1 with e1
      subst e1; subst e2
      exact ⟨a, C, dd, v1, rfl, h1, s _ _ h2, s _ _ h3, r⟩
    | ro _ _ e => subst e; simp [roD, excD] at hd
    | ins _ _ _ _ e => subst e; simp [insD, excD] at hd
    | @dctK a kvs2 vs ds d _ _ _ _ e =>
      subst e
      unfold excD at hd
      injection hd with hd
      cases kvs2 with
      | nil => simp at hd
      | cons p r => cases ds with
        | nil => simp at hd
        | cons d' r' =>
          simp only [List.map_cons, List.zip_cons_cons] at hd
          injection hd with hd _
          injection hd with hd _
          cases hk : p.1 <;> rw [hk] at hd <;> simp [keyD] at hd
    | @dctT a kvs2 vs ds d _ _ _ _ e =>
      subst e
      unfold excD at hd
      injection hd with hd
      cases kvs2 with
      | nil => simp at hd
      | cons p r => cases ds with
        | nil => simp at hd
        | cons d' r' =>
          simp only [List.map_cons, List.zip_cons_cons] at hd
          injection hd with hd _
          injection hd with hd _
          cases hd
    | _ => cases hd
  · subst e
    cases h with
    | lst => cases hd
    | ins _ _ _ _ e => subst e; simp [insD, excD] at hd
    | @dctK kvs2 vs ds d _ _ _ _ e =>
      subst e
      unfold excD at hd
      injection hd with hd
      cases kvs2 with
      | nil => simp at hd
      | cons p r => cases ds with
        | nil => simp at hd
        | cons d' r' =>
          simp only [List.map_cons, List.zip_cons_cons] at hd
          injection hd with hd _
          injection hd with hd _
          cases hk : p.1 <;> rw [hk] at hd <;> simp [keyD] at hd
    | @dctT kvs2 vs ds d _ _ _ _ e =>
      subst e
      unfold excD at hd
      injection hd with hd
      cases kvs2 with
      | nil => simp at hd
      | cons p r => cases ds with
        | nil => simp at hd
        | cons d' r' =>
          simp only [List.map_cons, List.zip_cons_cons] at hd
          injection hd with hd _
          injection hd with hd _
          cases hd
/-- an error's class and value -/
def exOf : PyData → Option (Str × PyData)
  | .dict [(.none, .none), (.str c, d)] => if errNs.contains c = true then some (c, d) else none
  | _ => none
theorem exOf_eq {d0 : PyData} {c : Str} {d : PyData} (h : exOf d0 = some (c, d)) : d0 = excD c d ∧ errNs.contains c = true := by
  unfold exOf at h
  split at h
  · rename_i c' d'
    by_cases e : errNs.contains c' = true
    · rw [if_pos e] at h; cases h; exact ⟨rfl, e⟩
    · rw [if_neg e] at h; cases h
  · cases h
section
variable {X : Cx} {pins : List (Addr × Obj)} {σ : St} {H : Hp} {s : Shared}
theorem exc_inst {a C dd : Addr} {v : V} (I : Inv X pins σ H s) (ha : H a = some (xco a C dd)) (hd : H dd = some (.xd [(("value" : Str), v)])) :
    ∃ oe od, PySem.W.InstAt s.heap a oe C (some od) ∧ ∃ u, PySem.W.lookIn "value" od = some (some u) ∧ RelV v u := by
  have hx : ObjOk X.prog X.w H s.heap a (xco a C dd) := I.hok a _ ha
  obtain ⟨⟨oe, vs, he, hz, hdt⟩, _⟩ := hx
  have hx : ObjOk X.prog X.w H s.heap dd (.xd [(("value" : Str), v)]) := I.hok dd _ hd
  obtain ⟨mA, hns, hr⟩ := hx
  obtain ⟨od, ho, hl⟩ := lookIn_ns hns
  obtain ⟨u, hu, ru⟩ := RelO.some_of (v := v) (o := mA "value") (by have := hr "value"; rwa [show List.lookup ("value" : Str) [(("value" : Str), v)] = some v by simp [List.lookup]] at this)
  exact ⟨oe, od, ⟨he, hz.1, by unfold PySem.W.notCls; rw [hdt] <;> rfl, by rw [hz.2]; exact ho⟩, u, by rw [hl, hu], ru⟩
/-- the field -/
def rXv (K : PySem.W.Frag) : V → Hp → VK → Prop := fun x H Q => ∃ a C dd v, x = .ref a ∧ ErrC K C ∧ H a = some (xco a C dd) ∧ H dd = some (.xd [(("value" : Str), v)]) ∧ Q v H
theorem pe_xv {e : Expr} {te : TE} {pos : Pos} (he : PE X e te) (hb : attributeBase e "value" X.env (eval e X.env) = eval e X.env := by rfl) : PE X (.Attribute e "value" pos) (tUn (rXv X.K) te) := by
  refine ⟨fun pins s σ H Q I h => ?_⟩
  refine attr_of hb (thn (he.run pins s σ H _ I h) fun u s1 hh => ?_)
  obtain ⟨x, H1, I1, rx, a, C, dd, v, ex, T, ea, ed, q⟩ := hh
  subst ex
  obtain rfl : u = Value.ref a := rx
  obtain ⟨oe, od, J, u, hl, ru⟩ := exc_inst I1 ea ed
  exact HandSPX.exc_get I1.kIn J T.xf.ga T.xf.gg T.xf.exC (PySem.W.findObj_own T.xf.hdC T.noV rfl hl) (handed_of ru) ⟨v, H1, I1.tok _, ru, q⟩
def dXv (d : PyData) : Option Rv := (exOf d).map fun z => .val z.2
theorem good_xv (ea : ErrAll g.K g.mg) : Good1 g (rXv g.K) dXv := by
  refine ⟨fun F H x d Q s hx p => ?_, fun d => ?_⟩
  · unfold dXv at p
    cases h : exOf d with
    | none => rw [h] at p; exact p.elim
    | some z =>
      obtain ⟨c, d1⟩ := z
      rw [h] at p
      obtain ⟨rfl, hc⟩ := exOf_eq h
      obtain ⟨a, C, dd, v1, rfl, h1, h2, h3, h4⟩ := hx.exc s
      exact ⟨a, C, dd, v1, rfl, ea.all c hc C h1, h2, h3, p.val0 s h4⟩
  · unfold dXv
    cases exOf d with
    | none => exact NoSl.none
    | some z => exact NoSl.val
theorem de_xv {e : Expr} {pos : Pos} {f : ME} (ea : ErrAll X.K X.mg) (he : DE X W e f) (hb : attributeBase e "value" X.env (eval e X.env) = eval e X.env := by rfl) : DE X W (.Attribute e "value" pos) (mUn dXv f) := by
  obtain ⟨t, pt, gt⟩ := he
  exact ⟨_, pe_xv pt hb, good_un gt (good_xv (g := ⟨X.K, X.mg⟩) ea)⟩
theorem ErrC.kitx {K : PySem.W.Frag} {C x : Addr} {ox : Obj} {od : Option Obj} (T : ErrC K C) : PySem.W.KitX K (.ref x) (.ref C) (fun h => PySem.W.InstAt h x ox C od) :=
  PySem.W.kitx_exc T.cl T.xf.ga T.xf.gg T.xf.exC T.ha T.hn T.ht T.hm
/-- isinstance(e, c), one class -/
def rIsEx (K : PySem.W.Frag) : List V → Hp → VK → Prop := fun xs H Q => ∃ (a C dd : Addr) (v c : V) (cv : Value) (b : Bool), xs = [.ref a, c] ∧ ErrC K C ∧ H a = some (xco a C dd) ∧ H dd = some (.xd [(("value" : Str), v)]) ∧ ClsV c cv ∧ PySem.W.kitOne K (.ref C) cv = some b ∧ Q (.bl b) H
theorem call_isX : CallR X (.builtin "isinstance") (rIsEx X.K) := by
  intro pins s σ H xs us Q I r h
  obtain ⟨a, C, dd, v, c, cv, b, rfl, T, ea, ed, k, e, q⟩ := h
  obtain ⟨u1, u2, rfl, r1, r2⟩ := vals2 r
  have e2 := k.eq r2
  subst e2
  obtain rfl : u1 = Value.ref a := r1
  obtain ⟨oe, od, J, _⟩ := exc_inst I ea ed
  exact PySem.W.kia_one T.kitx I.kIn J e (fun z => nomatch z) fun tk => ⟨.bl b, H, I.tok tk, rfl, q⟩
def rIsXT (K : PySem.W.Frag) : List V → Hp → VK → Prop := fun xs H Q => ∃ (a C dd tp : Addr) (v : V) (cs : List V) (us : List Value) (b : Bool), xs = [.ref a, .ref tp] ∧ ErrC K C ∧ H a = some (xco a C dd) ∧ H dd = some (.xd [(("value" : Str), v)]) ∧ H tp = some (.tup cs) ∧ Paired ClsV cs us ∧ PySem.W.kitAny K (.ref C) us = some b ∧ Q (.bl b) H
theorem call_isXT : CallR X (.builtin "isinstance") (rIsXT X.K) := by
  intro pins s σ H xs us Q I r h
  obtain ⟨a, C, dd, tp, v, cs, ws, b, rfl, T, ea, ed, hT, k, e, q⟩ := h
  obtain ⟨u1, u2, rfl, r1, r2⟩ := vals2 r
  cases (show u2 = Value.ref tp from r2)
  obtain rfl : u1 = Value.ref a := r1
  obtain ⟨oe, od, J, _⟩ := exc_inst I ea ed
  obtain ⟨_, its, rv, o, h1, h2, n, h3⟩ := (show ObjOk X.prog X.w H s.heap tp (.tup cs) from I.hok tp _ hT)
  have e3 := ClsV.all k rv
  subst e3
  obtain ⟨oc, od, dt, sl⟩ := o
  simp only at h2 h3
  subst h2 h3
  exact PySem.W.kia_tup T.kitx I.kIn J h1 e (fun z => nomatch z) fun tk => ⟨.bl b, H, I.tok tk, rfl, q⟩
end
def xany (c : Str) : List Str → Option Bool
  | [] => some false
  | h :: r => match xsub c h with
    | some true => some true
    | some false => xany c r
    | none => none
def dIsX (h : Str) (d : PyData) : Option Rv := (exOf d).bind fun z => (xsub z.1 h).map fun b => .val (.bool b)
def dIsXT (hs : List Str) (d : PyData) : Option Rv := (exOf d).bind fun z => (xany z.1 hs).map fun b => .val (.bool b)
theorem nosl_isX {d : PyData} {f : Str → Option Bool} : NoSl ((exOf d).bind fun z => (f z.1).map fun b => Rv.val (.bool b)) := by
  cases exOf d with
  | none => exact NoSl.none
  | some z =>
    show NoSl ((f z.1).map fun b => Rv.val (.bool b))
    cases f z.1 with
    | none => exact NoSl.none
    | some b => exact NoSl.val
theorem good_isX {h : Str} {Hc : Addr} (ea : ErrAll g.K g.mg) (sa : SubAt g.K g.mg h Hc) : Good1 g (fun x H Q => rIsEx g.K [x, .ref Hc] H Q) (dIsX h) := by
  refine ⟨fun F H x d Q s hx p => ?_, fun d => nosl_isX (f := fun c => xsub c h)⟩
  unfold dIsX at p
  cases he : exOf d with
  | none => rw [he] at p; exact p.elim
  | some z =>
    obtain ⟨c, d1⟩ := z
    rw [he] at p
    obtain ⟨rfl, hc⟩ := exOf_eq he
    obtain ⟨a, C, dd, v1, rfl, h1, h2, h3, h4⟩ := hx.exc s
    cases hb : xsub c h with
    | none => simp only [Option.bind_some, hb] at p; exact p.elim
    | some b =>
      simp only [Option.bind_some, hb] at p
      exact ⟨a, C, dd, v1, .ref Hc, .ref Hc, b, rfl, ea.all c hc C h1, h2, h3, .own Hc, sa.kit hb h1, p.val0 s (.bl b)⟩
theorem good_isXV (ea : ErrAll g.K g.mg) : Good1 g (fun x H Q => rIsEx g.K [x, .ty "ValueError"] H Q) (dIsX "ValueError") := by
  refine ⟨fun F H x d Q s hx p => ?_, fun d => nosl_isX (f := fun c => xsub c "ValueError")⟩
  unfold dIsX at p
  cases he : exOf d with
  | none => rw [he] at p; exact p.elim
  | some z =>
    obtain ⟨c, d1⟩ := z
    rw [he] at p
    obtain ⟨rfl, hc⟩ := exOf_eq he
    obtain ⟨a, C, dd, v1, rfl, h1, h2, h3, h4⟩ := hx.exc s
    have hb : xsub c "ValueError" = some true := by unfold xsub; rw [if_pos hc, if_pos (.inr (.inr rfl))]
    simp only [Option.bind_some, hb] at p
    refine ⟨a, C, dd, v1, .ty "ValueError", .type "ValueError", true, rfl, ea.all c hc C h1, h2, h3, .ty _, ?_, p.val0 s (.bl true)⟩
    unfold PySem.W.kitOne PySem.W.kitCls
    rw [if_neg (by simp)]
    dsimp only
    rw [if_pos (by decide +kernel)]
    exact (ea.all c hc C h1).vE
section
variable {X : Cx} {h : Str} {e : Expr} {f : ME} {p p2 pos : Pos}
theorem de_isX (ea : ErrAll X.K X.mg) (sc : SubC X.K X.mg h) (hm : X.mg "isinstance" = none) (he : DE X W e f) (hg : Gl X "isinstance" := by rfl) (hg2 : Gl X h := by rfl) (hd : (h == ("__debug__" : Str)) = false := by decide) (h1 : starEach [e, .Name h p2] X.env = (false, eval e X.env) :: starEach [.Name h p2] X.env := by rfl)
    (h2 : starEach [.Name h p2] X.env = (false, eval (.Name h p2) X.env) :: starEach [] X.env := by rfl) (hpl : (backTo pos (starEach [.Name h p2] X.env)).any (·.1) = false := by rfl) : DE X W (.Call (.Name "isinstance" p) [e, .Name h p2] [] pos) (mUn (dIsX h) f) := by
  obtain ⟨Hc, sa⟩ := sc
  obtain ⟨ta, pa, ga⟩ := he
  exact ⟨_, pe_callB (t := tCons ta (tCons (tC (.ref Hc)) tNil)) call_isX hg hm (by decide +kernel) (pa_cons pa (pa_cons (pe_glob hg2 sa.at_ rfl hd) pa_nil h2) h1) (by decide) (by decide) h1 hpl, good_un (r := fun x H Q => rIsEx X.K [x, .ref Hc] H Q) ga (good_isX (g := ⟨X.K, X.mg⟩) ea sa)⟩
theorem de_isXV (ea : ErrAll X.K X.mg) (hm : X.mg "isinstance" = none) (hm2 : X.mg "ValueError" = none) (he : DE X W e f) (hg : Gl X "isinstance" := by rfl) (hg2 : Gl X "ValueError" := by rfl) (h1 : starEach [e, .Name "ValueError" p2] X.env = (false, eval e X.env) :: starEach [.Name "ValueError" p2] X.env := by rfl)
    (h2 : starEach [.Name "ValueError" p2] X.env = (false, eval (.Name "ValueError" p2) X.env) :: starEach [] X.env := by rfl) (hpl : (backTo pos (starEach [.Name "ValueError" p2] X.env)).any (·.1) = false := by rfl) : DE X W (.Call (.Name "isinstance" p) [e, .Name "ValueError" p2] [] pos) (mUn (dIsX "ValueError") f) := by
  obtain ⟨ta, pa, ga⟩ := he
  exact ⟨_, pe_callB (t := tCons ta (tCons (tC (.ty "ValueError")) tNil)) call_isX hg hm (by decide +kernel) (pa_cons pa (pa_cons (pe_bltn hg2 hm2 PyProof.Rows.Boot.«ValueError» rfl (by decide) (by decide)) pa_nil h2) h1) (by decide) (by decide) h1 hpl, good_un (r := fun x H Q => rIsEx X.K [x, .ty "ValueError"] H Q) ga (good_isXV (g := ⟨X.K, X.mg⟩) ea)⟩
/-- a tuple's classes -/
structure DCs (X : Cx) (es : List Expr) (hs : List Str) : Prop where
  ex : ∃ cs : List Addr, PA X es (fun _ H Q => Q (cs.map V.ref) H) ∧ Paired (fun C h => SubAt X.K X.mg h C) cs hs
theorem dcs_nil : DCs X [] [] := ⟨[], pa_nil, .nil⟩
theorem dcs_cons {es : List Expr} {hs : List Str} (sc : SubC X.K X.mg h) (r : DCs X es hs) (hg2 : Gl X h := by rfl) (hd : (h == ("__debug__" : Str)) = false := by decide) (h1 : starEach (.Name h p :: es) X.env = (false, eval (.Name h p) X.env) :: starEach es X.env := by rfl) : DCs X (.Name h p :: es) (h :: hs) := by
  obtain ⟨Hc, sa⟩ := sc
  obtain ⟨cs, pa, pr⟩ := r
  exact ⟨Hc :: cs, pa_cons (te := tC (.ref Hc)) (pe_glob hg2 sa.at_ rfl hd) pa h1, .cons sa pr⟩
theorem kit_anyX {K : PySem.W.Frag} {mg : Str → Option Value} {c : Str} {C : Addr} (hc : mg c = some (.ref C)) : ∀ {cs : List Addr} {hs : List Str} {b : Bool}, Paired (fun C h => SubAt K mg h C) cs hs → xany c hs = some b → PySem.W.kitAny K (.ref C) (cs.map Value.ref) = some b
  | _, _, _, .nil, e => by cases e; rfl
  | C2 :: cs, h :: hs, b, .cons sa r, e => by
    unfold xany at e
    cases hx : xsub c h with
    | none => rw [hx] at e; cases e
    | some b1 =>
      rw [hx] at e
      refine kitAny_cons (sa.kit hx hc) (fun hb => ?_) fun hb => ?_
      · subst hb; exact kit_anyX hc r e
      · subst hb; cases e; rfl
theorem clsV_refs : ∀ cs : List Addr, Paired ClsV (cs.map V.ref) (cs.map Value.ref)
  | [] => .nil
  | c :: r => .cons (.own c) (clsV_refs r)
def rIsXL (K : PySem.W.Frag) (cs : List Addr) : V → Hp → VK → Prop := fun x H Q => (cs.map V.ref).length ≤ sizeLine ∧ ∀ tp, H tp = none → rIsXT K [x, .ref tp] (upd H tp (.tup (cs.map V.ref))) Q
theorem good_isXT {hs : List Str} {cs : List Addr} (ea : ErrAll g.K g.mg) (pr : Paired (fun C h => SubAt g.K g.mg h C) cs hs) (hl : hs.length ≤ 100) : Good1 g (rIsXL g.K cs) (dIsXT hs) := by
  refine ⟨fun F H x d Q s hx p => ?_, fun d => nosl_isX (f := fun c => xany c hs)⟩
  unfold dIsXT at p
  cases he : exOf d with
  | none => rw [he] at p; exact p.elim
  | some z =>
    obtain ⟨c, d1⟩ := z
    rw [he] at p
    obtain ⟨rfl, hc⟩ := exOf_eq he
    obtain ⟨a, C, dd, v1, rfl, h1, h2, h3, h4⟩ := hx.exc s
    cases hb : xany c hs with
    | none => simp only [Option.bind_some, hb] at p; exact p.elim
    | some b =>
      simp only [Option.bind_some, hb] at p
      refine ⟨by rw [List.length_map, Paired.length pr, sizeLine_eq]; omega, fun tp hn => ?_⟩
      have n1 : a ≠ tp := fun z => by rw [z, hn] at h2; cases h2
      have n2 : dd ≠ tp := fun z => by rw [z, hn] at h3; cases h3
      exact ⟨a, C, dd, tp, v1, _, _, b, rfl, ea.all c hc C h1, by rw [upd_ne n1]; exact h2, by rw [upd_ne n2]; exact h3, upd_same, clsV_refs cs, kit_anyX h1 pr hb, p _ _ _ (Grow.laid s hn) (.bl b)⟩
theorem de_isXT {es : List Expr} {hs : List Str} {k : Nat} (ea : ErrAll X.K X.mg) (hm : X.mg "isinstance" = none) (he : DE X W e f) (dc : DCs X es hs) (hl : hs.length ≤ 100 := by decide) (hg : Gl X "isinstance" := by rfl) (h1 : starEach [e, .Tuple es k p2] X.env = (false, eval e X.env) :: starEach [.Tuple es k p2] X.env := by rfl)
    (h2 : starEach [.Tuple es k p2] X.env = (false, eval (.Tuple es k p2) X.env) :: starEach [] X.env := by rfl) (hpl : (backTo pos (starEach [.Tuple es k p2] X.env)).any (·.1) = false := by rfl) : DE X W (.Call (.Name "isinstance" p) [e, .Tuple es k p2] [] pos) (mUn (dIsXT hs) f) := by
  obtain ⟨cs, pc, pr⟩ := dc
  obtain ⟨ta, pa, ga⟩ := he
  exact ⟨_, pe_callB (t := tCons ta (tCons (tTup (fun _ H Q => Q (cs.map V.ref) H)) tNil)) call_isXT hg hm (by decide +kernel) (pa_cons pa (pa_cons (pe_tup pc) pa_nil h2) h1) (by decide) (by decide) h1 hpl, good_un (r := rIsXL X.K cs) ga (good_isXT (g := ⟨X.K, X.mg⟩) ea pr hl)⟩
end
end DL
/-! DHot: defs that are called where an error is handled. -/
namespace DL
open PySem PySem.Spec L2
open PyProof.Rows (envOfC)
variable {g : G} {W : WX}
structure FnGH (P : Program) (w : World) (K : PySem.W.Frag) (mg : Str → Option Value) (base : Heap) (k : Nat) (f : Addr) (fd : FuncData) (ps : List Str) (fm : FM) : Prop where
  len : ∀ env, fm env ≠ .stuck → env.length = ps.length
  run : ∀ (A : Around) (outer : List PySem.Env) (s : Shared) (H : Hp) (args : Args) (us : List Value) (vs : List V) (Q : VK) (E : XK), L2H.RoomH k A → A.guards = some [] → Env0 P w K mg base A outer s H →
    BindsTo s fd args (ps.zip us) → Vals vs us → fnSp ⟨K, mg⟩ fm vs H Q E → codeAny (model P w) A (.call (.ref f) args) (CR (L2.CX P w) outer P w H s Q E) s
theorem FnGH.mono {P : Program} {w : World} {K : PySem.W.Frag} {mg : Str → Option Value} {base : Heap} {j k : Nat} {f : Addr} {fd : FuncData} {ps : List Str} {fm : FM} (F : FnGH P w K mg base j f fd ps fm) (h : j ≤ k) : FnGH P w K mg base k f fd ps fm :=
  ⟨F.len, fun A outer s H args us vs Q E hr => F.run A outer s H args us vs Q E (hr.mono h)⟩
/-- the context of such a def's body -/
def cxG (P : Program) (w : World) (K : PySem.W.Frag) (mg : Str → Option Value) (base : Heap) (N : List Str) (qual : Str) (scope : Scope) (f : Addr) (cd : Value) (A : Around) (outer : List PySem.Env) (s : Shared) (H : Hp) (E : XK) : Cx :=
  { cxOf (L2.CX P w) P w K mg base N qual scope f cd A outer s H E with calm := false }
theorem env0_cool {P : Program} {w : World} {K : PySem.W.Frag} {mg : Str → Option Value} {base : Heap} {A : Around} {outer : List PySem.Env} {s : Shared} {H : Hp} (e0 : Env0 P w K mg base A outer s H) : Env0 P w K mg base { A with handled := none } outer s H :=
  ⟨e0.frames, e0.mod, e0.bs, e0.bsz, e0.funs, e0.frf, e0.hok, e0.bare⟩
section
variable {P : Program} {w : World} {K : PySem.W.Frag} {mg : Str → Option Value} {base : Heap}
theorem fngh_of {x qual : Str} {st : Stmt} {f : Addr} {fd : FuncData} {N ps : List Str} {k : Nat} {m : MS} (Fu : Fun K x qual st f fd) (S : FnScope N ps (defScope st))
    (hb : ∀ (cdv : Value) (A : Around) (outer : List PySem.Env) (s : Shared) (H : Hp) (E : XK), L2H.RoomH k (A.deeper (envOfC qual (defScope st) s.heap.objs.size f cdv)) → (A.deeper (envOfC qual (defScope st) s.heap.objs.size f cdv)).guards = some [] →
      DSs (cxG P w K mg base N qual (defScope st) f cdv A outer s H E) (fun c d _ H => E c d H) (defBody st) m) : FnGH P w K mg base (k + 1) f fd ps (mDef ps.length N.length m) := by
  obtain ⟨oc, od, kV, doc, pm, an, cdv, ct, osl, rfl, lk, hcd⟩ := Fu.ex
  refine ⟨mDef_len, fun A outer s H args us vs Q E hr hgd e0 hbd r hsp => ?_⟩
  have hl := fnSp_len (g := ⟨K, mg⟩) mDef_len hsp
  obtain ⟨F, env, ek, p⟩ := hsp
  have h0 : ∀ b o, base.get? b = some o → s.heap.get? b = some o := fun b o e => (e0.bs b o e).1
  have KX : K.In s.heap := e0.mod.kin.keeps h0
  have lim : s.heap.NoLimit := e0.mod.nolimit.keeps h0
  have hin : ∀ y ∈ ps.zip us, (defScope st).names.lookup y.1 = some .local ∨ ((defScope st).names.lookup y.1 = some .cell ∧ ((cellsFrom (s.heap.objs.size + 1) (defScope st).names []).lookup y.1).isSome = true) := by
    rintro ⟨n, v⟩ hy
    exact (S.par n (List.of_mem_zip hy).1).imp id fun q => ⟨q, PySem.W.cellsFrom_some _ _ _ (.inl q)⟩
  refine codeAny_call_function hr.depth (KX _ _ lk) rfl S.co S.gen rfl (PySem.W.codeRec_of KX hcd) (hbd _ _ _ _ ?_)
  refine wpAny_newFunctionEnv_cells S.kind hin fun env' he s1 x => ?_
  subst he
  refine ⟨lim.keeps x.toInCall.keep, codeAny_func ?_⟩
  obtain ⟨t, ht, hg⟩ := (hb cdv A outer s H E (hr.deeper _) hgd).ex
  have len1 : env.length = ps.length := by rw [← hl]; have := ek.len; rw [List.length_map] at this; exact this.symm
  have arg1 : env.all argOk = true := by
    unfold mDef at p
    by_cases e : env.length = ps.length ∧ env.all argOk = true
    · exact e.2
    · rw [if_neg e] at p; exact p.elim
  have q : t { nx := fun _ H' => Q .non H', rt := Q } (L2.start N vs) H := by
    unfold mDef at p
    rw [if_pos ⟨len1, arg1⟩] at p
    have := body_post ek arg1 p hg
    unfold L2.start
    rw [hl]
    exact this
  have I0 := inv_start (CX := L2.CX P w) (E := E) (qual := qual) (f := f) (cd := cdv) S (show { A with handled := none }.handled = none from rfl) (env0_cool e0) hl r x
  have I : Inv (cxG P w K mg base N qual (defScope st) f cdv A outer s H E) [] (L2.start N vs) H s1 :=
    ⟨⟨I0.ok.mod, I0.ok.kind, I0.ok.glob, I0.ok.blt, I0.ok.above, I0.ok.inj, I0.ok.has, I0.ok.cab, (fun z => Bool.noConfusion (show false = true from z)), Around.frames_deeper e0.frames, I0.ok.stk, I0.ok.exf, I0.ok.bs, I0.ok.bsz, I0.ok.noex, I0.ok.exfs, I0.ok.funs, I0.ok.frf⟩,
      I0.os, I0.bare, I0.base, I0.loc, I0.cell, I0.free, I0.freeC, I0.pin, I0.hok, I0.len⟩
  refine wpAny_mono (ht.run [] s1 (L2.start N vs) H _ I q) (fun fl s' hs => ?_) fun e s' hs => hs
  cases fl with
  | ret u =>
    obtain ⟨v, σ', H', J, rv, q⟩ := hs
    exact ⟨v, H', J.os, J.bare, J.base, J.hok, rv, q⟩
  | next =>
    obtain ⟨σ', H', J, q⟩ := hs
    exact ⟨V.non, H', J.os, J.bare, J.base, J.hok, rfl, q⟩
  | brk => obtain ⟨_, _, _, q⟩ := hs; exact q.elim
  | cont => obtain ⟨_, _, _, q⟩ := hs; exact q.elim
/-- a def that may be called where an error is handled -/
structure CalH (P : Program) (w : World) (K : PySem.W.Frag) (mg : Str → Option Value) (base : Heap) (x : Str) (st : Stmt) (k : Nat) (ps : List Str) (fm : FM) : Prop where
  ex : ∃ f fd, Fun K x x st f fd ∧ mg x = some (.ref f) ∧ FnGH P w K mg base k f fd ps fm ∧ Binds K fd ps []
end
section
variable {X : Cx} {k j : Nat} {f : Addr} {fd : FuncData} {ps : List Str} {fm : FM} {x : Str} {st : Stmt} {p pos : Pos} {e : Expr} {es : List Expr} {fs : List ME} {ms : List Md} {t : TA}
theorem run_gh {pins : List (Addr × Obj)} {σ : St} {H : Hp} {s : Shared} {Q : VK} {us : List Value} {vs : List V} (F : FnGH X.prog X.w X.K X.mg X.base k f fd ps fm) (hr : L2H.RoomH k X.A) (gd : X.A.guards = some []) (tk : Takes X W) {args : Args}
    (hb : (us.length = ps.length) → BindsTo s fd args (ps.zip us)) (I : Inv X pins σ H s) (r : Vals vs us) (h : fnSp ⟨X.K, X.mg⟩ fm vs H Q (fun c d H' => W c d σ H')) : codeAny (model X.prog X.w) X.A (.call (.ref f) args) (fun r s' => match r with
      | .ok (.ret u) => EP X pins σ Q u s'
      | .ok _ => False
      | .error e => X.xe e s') s := by
  have hl : us.length = ps.length := by rw [← r.length]; exact fnSp_len F.len h
  refine codeAny_mono (F.run X.A X.stack s H args us vs Q _ hr gd I.env0 (hb hl) r h) fun r s' hq => ?_
  cases r with
  | error e => exact tk e s' (XE.of_call (E := fun c d H' => W c d σ H') I (fun _ _ _ z => z) hq)
  | ok fl =>
    cases fl with
    | ret u => exact I.after hq
    | next => exact hq
    | brk => exact hq
    | cont => exact hq
theorem dcallH (c : CalH X.prog X.w X.K X.mg X.base x st j ps fm) (hr : L2H.RoomH k X.A) (hj : j ≤ k) (gd : X.A.guards = some []) (tk : Takes X W) (ms : List Md) (ha : DA X W (e :: es) fs) (hg : Gl X x := by rfl)
    (hdb : (x == ("__debug__" : Str)) = false := by decide) (he : starEach (e :: es) X.env = (false, eval e X.env) :: starEach es X.env := by rfl) (hpl : (backTo pos (starEach es X.env)).any (·.1) = false := by rfl) : DE X W (.Call (.Name x p) (e :: es) [] pos) (mCallF fm ms fs) := by
  obtain ⟨f, fd, Fu, hm, F, hb⟩ := c
  obtain ⟨t, pt, gt⟩ := ha
  refine ⟨_, ⟨fun pins s σ H Q I h => wpAny_Call_Name_kw (ld_glob I hg hm ?_ hdb)⟩, good_callG gt fm ms⟩
  refine PySem.W.callWith_K (h₀ := X.base) I.ok.mod.kin Fu.kp (thn (pt.run pos pins s σ H _ I h) fun us s1 ⟨vs, H1, I1, r, q⟩ => ⟨I1.kIn, ?_⟩) he hpl
  refine wpAny_call (run_gh F (hr.mono hj) gd tk (args := ⟨us, []⟩) (fun hl => ?_) I1 r q)
  have := hb s1 us I1.kIn (by rw [List.append_nil]; exact hl)
  rw [List.append_nil] at this
  exact this
end
theorem roomH_of {k : Nat} {A : Around} (r : Room k A) : L2H.RoomH k A := ⟨r.dp, r.un⟩
theorem room_suite {X : Cx} {k : Nat} {a : Addr} {pn : List (Addr × Obj)} (hr : Room k X.A) : L2H.RoomH k (X.suite a pn).A := ⟨hr.dp, hr.un⟩
/-- such a call in the suite of an except clause -/
theorem dcallHs {X : Cx} {W : WX} {a : Addr} {pn : List (Addr × Obj)} {k j : Nat} {ps : List Str} {fm : FM} {x : Str} {st : Stmt} {p pos : Pos} {e : Expr} {es : List Expr} {fs : List ME} (c : CalH X.prog X.w X.K X.mg X.base x st j ps fm) (hr : Room k X.A) (hj : j ≤ k) (gd : X.A.guards = some []) (tk : Takes (X.suite a pn) W) (ms : List Md) (ha : DA (X.suite a pn) W (e :: es) fs) (hg : Gl X x := by rfl)
    (hdb : (x == ("__debug__" : Str)) = false := by decide) (he : starEach (e :: es) X.env = (false, eval e X.env) :: starEach es X.env := by rfl) (hpl : (backTo pos (starEach es X.env)).any (·.1) = false := by rfl) : DE (X.suite a pn) W (.Call (.Name x p) (e :: es) [] pos) (mCallF fm ms fs) :=
  dcallH (X := X.suite a pn) c (room_suite hr) hj gd tk ms ha hg hdb he hpl
theorem hu64H {A : Around} {k : Nat} (hr : L2H.RoomH k A) : A.units + 64 < cLine := by have := hr.un; omega
theorem hu65H {A : Around} {k : Nat} (hr : L2H.RoomH k A) : A.units + 65 < cLine := by have := hr.un; omega
/-! ### the facts of classes, one by one -/
section
variable {K : PySem.W.Frag} {mg : Str → Option Value} {c h : Str} {C0 H : Addr} {b0 : Bool}
theorem err_here (hc : mg c = some (.ref C0)) (f : ErrC K C0) : ∀ C, mg c = some (.ref C) → ErrC K C := fun C e => by
  rw [hc] at e; cases e; exact f
theorem err_none (hn : mg c = none) : ∀ C, mg c = some (.ref C) → ErrC K C := fun C e => by rw [hn] at e; cases e
theorem errAll_of (h : ∀ c ∈ errNs, ∀ C, mg c = some (.ref C) → ErrC K C) : ErrAll K mg := ⟨fun c hc => h c (by simpa using hc)⟩
theorem sub_here (hx : xsub c h = some b0) (hc : mg c = some (.ref C0)) (f : PySem.W.subIn K (.ref C0) (.ref H) = some b0) : ∀ b, xsub c h = some b → ∀ C, mg c = some (.ref C) → PySem.W.subIn K (.ref C) (.ref H) = some b := fun b hb C e => by
  rw [hc] at e; cases e
  rw [hx] at hb; cases hb
  exact f
theorem sub_none (hn : mg c = none) : ∀ b, xsub c h = some b → ∀ C, mg c = some (.ref C) → PySem.W.subIn K (.ref C) (.ref H) = some b := fun b hb C e => by rw [hn] at e; cases e
theorem subAt_of (h1 : mg h = some (.ref H)) (h2 : PySem.W.isClsIn K H = true) (h3 : PySem.W.typeIn K (.ref H) = some (.type "type")) (h4 : PySem.W.subIn K (.ref H) (.type "BaseException") = some true) (h5 : PySem.W.subIn K (.ref H) (.ref H) = some true)
    (h6 : ∀ c ∈ errNs, ∀ b, xsub c h = some b → ∀ C, mg c = some (.ref C) → PySem.W.subIn K (.ref C) (.ref H) = some b) : SubAt K mg h H :=
  ⟨h1, h2, h3, h4, h5, fun c b hb C hc => h6 c (by
    unfold xsub at hb
    by_cases e : errNs.contains c = true
    · simpa using e
    · rw [if_neg e] at hb; cases hb) b hb C hc⟩
end
end DL
namespace DL
open PySem PySem.Spec L2

/-- m ends well, and Q of what it gives -/
class Cn (α : Type) where
  f : α → Prop
/-- (what follows stands where simp does not look) -/
def EvI {α : Type} (m : Res α) [q : Cn α] : Prop := match m with
  | .ok a => q.f a
  | _ => False
def Ev {α : Type} (m : Res α) (Q : α → Prop) : Prop := @EvI α m ⟨Q⟩
theorem Ev_eq {α : Type} (m : Res α) (Q : α → Prop) : Ev m Q = @EvI α m ⟨Q⟩ := rfl
theorem Ev_ok {α : Type} (a : α) (Q : α → Prop) : Ev (.ok a) Q = Q a := rfl
theorem Ev_bind {α β : Type} (m : Res α) (k : α → Res β) (Q : β → Prop) : Ev (m >>= k) Q = Ev m fun a => Ev (k a) Q := by cases m <;> rfl
theorem Ev_stuck {α : Type} (Q : α → Prop) : Ev (.stuck : Res α) Q = False := rfl
theorem Ev.mono {α : Type} {m : Res α} {Q Q' : α → Prop} (h : Ev m Q) (k : ∀ a, Q a → Q' a) : Ev m Q' := by
  cases m with
  | ok a => exact k a h
  | ex => exact h
  | stuck => exact h
theorem Ev.ok {α : Type} {m : Res α} {Q : α → Prop} (h : Ev m Q) : ∃ a, m = .ok a ∧ Q a := by
  cases m with
  | ok a => exact ⟨a, rfl, h⟩
  | ex => exact h.elim
  | stuck => exact h.elim
theorem Ev_of {α : Type} {m : Res α} {a : α} {Q : α → Prop} (h : m = .ok a) (q : Q a) : Ev m Q := by rw [h]; exact q
theorem Ev_ite {α : Type} {c : Prop} [Decidable c] (m n : Res α) (Q : α → Prop) : Ev (if c then m else n) Q = if c then Ev m Q else Ev n Q := by split <;> rfl
theorem Ev_bindN {α β : Type} (m : Res α) (k : α → Res β) (Q : β → Prop) : Ev (bindN m k) Q = Ev m fun a => Ev (k a) Q := by cases m <;> rfl

variable {α : Type} {Q : α → Prop}
/-! ### parts -/
theorem Ev_some (r : α) (env : Env) (Q : α × Env → Prop) : Ev (orStuck (some r) env) Q = Q (r, env) := rfl
theorem Ev_none (env : Env) (Q : α × Env → Prop) : Ev (orStuck (none : Option α) env) Q = False := rfl
theorem Ev_oif {c : Prop} [Decidable c] (r : α) (env : Env) (Q : α × Env → Prop) : Ev (orStuck (if c then some r else none) env) Q = (c ∧ Q (r, env)) := by
  by_cases h : c
  · rw [if_pos h]; simp only [h, true_and]; rfl
  · rw [if_neg h]; simp only [h, false_and]; rfl
theorem Ev_oifG {c : Prop} [Decidable c] (o : Option α) (env : Env) (Q : α × Env → Prop) : Ev (orStuck (if c then o else none) env) Q = (c ∧ Ev (orStuck o env) Q) := by
  by_cases h : c
  · rw [if_pos h]; simp only [h, true_and]
  · rw [if_neg h]; simp only [h, false_and]; rfl
theorem Ev_gif {c : Prop} [Decidable c] (m : Res α) (Q : α → Prop) : Ev (if c then m else .stuck) Q = (c ∧ Ev m Q) := by
  by_cases h : c
  · rw [if_pos h]; simp only [h, true_and]
  · rw [if_neg h]; simp only [h, false_and]; rfl

theorem ev_c (d : D) (env : Env) (Q : Rv × Env → Prop) : Ev (mC d env) Q = Q (.val d, env) := rfl
theorem ev_bin (o : D → D → Option Rv) (f h : ME) (env : Env) (Q : Rv × Env → Prop) : Ev (mBin o f h env) Q = Ev (f env) fun z => Ev (h z.2) fun y => Ev (z.1.data y.2) fun d => Ev (y.1.data y.2) fun e => Ev (orStuck (o d e) y.2) Q := by
  unfold mBin; simp only [Ev_bind]
theorem ev_un (o : D → Option Rv) (f : ME) (env : Env) (Q : Rv × Env → Prop) : Ev (mUn o f env) Q = Ev (f env) fun z => Ev (z.1.data z.2) fun d => Ev (orStuck (o d) z.2) Q := by
  unfold mUn; simp only [Ev_bind]
theorem ev_test (f : ME) (env : Env) (Q : Bool × Env → Prop) : Ev (mTest f env) Q = Ev (f env) fun z => Ev (z.1.data z.2) fun d => Ev (orStuck (asB d) z.2) Q := by
  unfold mTest; simp only [Ev_bind]
theorem ev_and (f h : MT) (env : Env) (Q : Bool × Env → Prop) : Ev (mAnd f h env) Q = Ev (f env) fun z => if z.1 = true then Ev (h z.2) Q else Q (false, z.2) := by
  unfold mAnd; simp only [Ev_bind, Ev_ite, Ev_ok]
theorem ev_or (f h : MT) (env : Env) (Q : Bool × Env → Prop) : Ev (mOr f h env) Q = Ev (f env) fun z => if z.1 = true then Q (true, z.2) else Ev (h z.2) Q := by
  unfold mOr; simp only [Ev_bind, Ev_ite, Ev_ok]
theorem ev_not (f : MT) (env : Env) (Q : Bool × Env → Prop) : Ev (mNot f env) Q = Ev (f env) fun z => Q (!z.1, z.2) := by
  unfold mNot; simp only [Ev_bind, Ev_ok]
theorem ev_val (f : MT) (env : Env) (Q : Rv × Env → Prop) : Ev (mVal f env) Q = Ev (f env) fun z => Q (.val (.bool z.1), z.2) := by
  unfold mVal; simp only [Ev_bind, Ev_ok]
theorem ev_if (c : MT) (f h : ME) (env : Env) (Q : Rv × Env → Prop) : Ev (mIf c f h env) Q = Ev (c env) fun z => if z.1 = true then Ev (f z.2) Q else Ev (h z.2) Q := by
  unfold mIf; simp only [Ev_bind, Ev_ite]
theorem ev_yes (env : Env) (Q : Bool × Env → Prop) : Ev (mYes env) Q = Q (true, env) := rfl
theorem ev_ds_nil (env : Env) (Q : List D × Env → Prop) : Ev (evDs [] env) Q = Q ([], env) := rfl
theorem ev_ds_cons (f : ME) (fs : List ME) (env : Env) (Q : List D × Env → Prop) : Ev (evDs (f :: fs) env) Q = Ev (f env) fun z => Ev (z.1.frz z.2) fun y => Ev (evDs fs y.2) fun x => Q (y.1 :: x.1, x.2) := by
  show Ev (f env >>= fun z => z.1.frz z.2 >>= fun y => evDs fs y.2 >>= fun x => .ok (y.1 :: x.1, x.2)) Q = _
  simp only [Ev_bind, Ev_ok]
theorem ev_rs_nil (env : Env) (Q : List Rv × Env → Prop) : Ev (evRs [] env) Q = Q ([], env) := rfl
theorem ev_rs_cons (f : ME) (fs : List ME) (env : Env) (Q : List Rv × Env → Prop) : Ev (evRs (f :: fs) env) Q = Ev (f env) fun z => Ev (evRs fs z.2) fun x => Q (z.1 :: x.1, x.2) := by
  show Ev (f env >>= fun z => evRs fs z.2 >>= fun x => .ok (z.1 :: x.1, x.2)) Q = _
  simp only [Ev_bind, Ev_ok]
theorem ev_list (fs : List ME) (env : Env) (Q : Rv × Env → Prop) : Ev (mList fs env) Q = Ev (evDs fs env) fun z => z.1.length ≤ lineM ∧ Q (.new (.list z.1), z.2) := by
  unfold mList; simp only [Ev_bind, Ev_gif, Ev_ok, Res.pure_eq]
theorem ev_tup (fs : List ME) (env : Env) (Q : Rv × Env → Prop) : Ev (mTup fs env) Q = Ev (evDs fs env) fun z => z.1.length ≤ lineM ∧ Q (.val (.tuple z.1), z.2) := by
  unfold mTup; simp only [Ev_bind, Ev_gif, Ev_ok, Res.pure_eq]
theorem ev_callB (o : List D → Option Rv) (fs : List ME) (env : Env) (Q : Rv × Env → Prop) : Ev (mCallB o fs env) Q = Ev (evRs fs env) fun z => Ev (orStuck (datas z.2 z.1) z.2) fun y => Ev (orStuck (o y.1) y.2) Q := by
  unfold mCallB; simp only [Ev_bind]
theorem datas_cons (env : Env) (r : Rv) (rs : List Rv) : datas env (r :: rs) = match r.data env with
    | .ok d => (datas env rs).map (d :: ·)
    | _ => none := by
  show (match r.data env with | .ok d => (match datas env rs with | some ds => some (d :: ds) | none => none) | _ => none) = _
  cases r.data env with
  | ok d => cases datas env rs <;> rfl
  | _ => rfl
theorem ev_part (f : ME) (env : Env) (Q : Option Int × Env → Prop) : Ev (mPart f env) Q = Ev (f env) fun z => Ev (z.1.data z.2) fun d => Ev (orStuck (asI d) z.2) Q := by
  unfold mPart; simp only [Ev_bind]
theorem ev_nopart (env : Env) (Q : Option Int × Env → Prop) : Ev (mNoPart env) Q = Q (none, env) := rfl
theorem ev_sl (o : D → Option Int → Option Int → Option Rv) (f : ME) (l h : MO) (env : Env) (Q : Rv × Env → Prop) : Ev (mSl o f l h env) Q = Ev (f env) fun z => Ev (l z.2) fun y => Ev (h y.2) fun x => Ev (z.1.data x.2) fun d => Ev (orStuck (o d y.1 x.1) x.2) Q := by
  unfold mSl; simp only [Ev_bind]
theorem ev_meth (o : D → List D → Option Rv) (isT : D → Bool) (f : ME) (fs : List ME) (env : Env) (Q : Rv × Env → Prop) :
    Ev (mMeth o isT f fs env) Q = Ev (f env) fun z => Ev (z.1.data z.2) fun d0 => isT d0 = true ∧ Ev (evRs fs z.2) fun y => Ev (z.1.data y.2) fun d => Ev (orStuck (datas y.2 y.1) y.2) fun x => Ev (orStuck (o d x.1) x.2) Q := by
  unfold mMeth; simp only [Ev_bind, Ev_gif]
theorem ev_repr (f : ME) (env : Env) (Q : Str × Env → Prop) : Ev (mRepr f env) Q = Ev (f env) fun z => Ev (z.1.data z.2) fun d => okR d = true ∧ Q (d.shown, z.2) := by
  unfold mRepr; simp only [Ev_bind, Ev_gif, Ev_ok]
theorem ev_rne (f h : MR) (env : Env) (Q : Rv × Env → Prop) : Ev (mRNe f h env) Q = Ev (f env) fun z => Ev (h z.2) fun y => Q (.val (.bool (!decide (z.1 = y.1))), y.2) := by
  unfold mRNe; simp only [Ev_bind, Ev_ok]
theorem ev_req (f h : MR) (env : Env) (Q : Rv × Env → Prop) : Ev (mREq f h env) Q = Ev (f env) fun z => Ev (h z.2) fun y => Q (.val (.bool (decide (z.1 = y.1))), y.2) := by
  unfold mREq; simp only [Ev_bind, Ev_ok]
def chK (o' : D → D → Option Rv) (k : ME) (r2 : Rv) (env : Env) : Rv → Res (Rv × Env)
  | .val (.bool true) => k env >>= fun x => r2.data x.2 >>= fun d2 => x.1.data x.2 >>= fun d3 => orStuck (o' d2 d3) x.2
  | .val (.bool false) => .ok (.val (.bool false), env)
  | _ => .stuck
theorem chK_b (o' : D → D → Option Rv) (k : ME) (r2 : Rv) (env : Env) (b : Bool) : chK o' k r2 env (.val (.bool b)) = if b = true then (k env >>= fun x => r2.data x.2 >>= fun d2 => x.1.data x.2 >>= fun d3 => orStuck (o' d2 d3) x.2) else .ok (.val (.bool false), env) := by cases b <;> rfl
theorem ev_chain (o o' : D → D → Option Rv) (f h k : ME) (env : Env) (Q : Rv × Env → Prop) : Ev (mChain o o' f h k env) Q = Ev (f env) fun z => Ev (h z.2) fun y => Ev (z.1.data y.2) fun d1 => Ev (y.1.data y.2) fun d2 => Ev (orStuck (o d1 d2) y.2) fun x => Ev (chK o' k y.1 y.2 x.1) Q := by
  unfold mChain
  simp only [Ev_bind]
  rfl
/-! ### statements -/
theorem ev_pass (env : Env) (Q : Fl × Env → Prop) : Ev (mPass env) Q = Q (.nx, env) := rfl
theorem ev_break (env : Env) (Q : Fl × Env → Prop) : Ev (mBreak env) Q = Q (.bk, env) := rfl
theorem ev_cont (env : Env) (Q : Fl × Env → Prop) : Ev (mCont env) Q = Q (.ct, env) := rfl
theorem ev_never (env : Env) (Q : Fl × Env → Prop) : Ev (mNever env) Q = False := rfl
def seqK (n : MS) : Fl × Env → Res (Fl × Env)
  | (.nx, e) => n e
  | (.bk, e) => .ok (.bk, e)
  | (.ct, e) => .ok (.ct, e)
  | (.rt r, e) => .ok (.rt r, e)
theorem seqK_nx (n : MS) (e : Env) : seqK n (.nx, e) = n e := rfl
theorem seqK_bk (n : MS) (e : Env) : seqK n (.bk, e) = .ok (.bk, e) := rfl
theorem seqK_ct (n : MS) (e : Env) : seqK n (.ct, e) = .ok (.ct, e) := rfl
theorem seqK_rt (n : MS) (r : Rv) (e : Env) : seqK n (.rt r, e) = .ok (.rt r, e) := rfl
theorem ev_seq (m n : MS) (env : Env) (Q : Fl × Env → Prop) : Ev (mSeq m n env) Q = Ev (m env) fun z => Ev (seqK n z) Q := by
  unfold mSeq; rw [Ev_bind]
  congr 1; funext z
  obtain ⟨f, e⟩ := z
  cases f <;> rfl
theorem ev_ret (f : ME) (env : Env) (Q : Fl × Env → Prop) : Ev (mRet f env) Q = Ev (f env) fun z => Q (.rt z.1, z.2) := by
  unfold mRet; simp only [Ev_bind, Ev_ok]
theorem ev_retN (env : Env) (Q : Fl × Env → Prop) : Ev (mRetN env) Q = Q (.rt (.val .none), env) := rfl
theorem ev_ifS (c : MT) (m n : MS) (env : Env) (Q : Fl × Env → Prop) : Ev (mIfS c m n env) Q = Ev (c env) fun z => if z.1 = true then Ev (m z.2) Q else Ev (n z.2) Q := by
  unfold mIfS; simp only [Ev_bind, Ev_ite]
theorem ev_drop (f : ME) (env : Env) (Q : Fl × Env → Prop) : Ev (mDrop f env) Q = Ev (f env) fun z => Q (.nx, z.2) := by
  unfold mDrop; simp only [Ev_bind, Ev_ok]
theorem ev_asg (f : ME) (m : MG) (env : Env) (Q : Fl × Env → Prop) : Ev (mAsg f m env) Q = Ev (f env) fun z => Ev (m z.1 z.2) Q := by
  unfold mAsg; simp only [Ev_bind]
theorem ev_name_val (i : Nat) (d : D) (env : Env) (Q : Fl × Env → Prop) : Ev (mName i (.val d) env) Q = (free env i = true ∧ Q (.nx, env.set i (.fz d))) := by
  unfold mName storeR; rw [Ev_gif]; rfl
theorem ev_name_new (i : Nat) (d : D) (env : Env) (Q : Fl × Env → Prop) : Ev (mName i (.new d) env) Q = (free env i = true ∧ Q (.nx, env.set i (.ow .fr d))) := by
  unfold mName storeR; rw [Ev_gif]; rfl
theorem ev_name_sl (i j : Nat) (env : Env) (Q : Fl × Env → Prop) : Ev (mName i (.sl j) env) Q = (free env i = true ∧ if j = i then Q (.nx, env) else Ev ((Rv.sl j).frz env) fun z => Q (.nx, z.2.set i (.fz z.1))) := by
  unfold mName storeR; rw [Ev_gif]
  simp only [Ev_ite, Ev_bind, Ev_ok]
def tupK (ms : List MG) : D → Env → Res (Fl × Env)
  | .tuple ds, env => if ds.length = ms.length then asgAll ms ds env else .stuck
  | _, _ => .stuck
theorem tupK_tup (ms : List MG) (ds : List D) (env : Env) : tupK ms (.tuple ds) env = if ds.length = ms.length then asgAll ms ds env else .stuck := rfl
theorem ev_tupG (ms : List MG) (r : Rv) (env : Env) (Q : Fl × Env → Prop) : Ev (mTupG ms r env) Q = Ev (r.data env) fun d => Ev (tupK ms d env) Q := by
  unfold mTupG; rw [Ev_bind]
  congr 1; funext d
  cases d <;> rfl
theorem ev_asg_nil (env : Env) (Q : Fl × Env → Prop) : Ev (asgAll [] [] env) Q = Q (.nx, env) := rfl
def asgK (ms : List MG) (ds : List D) : Fl × Env → Res (Fl × Env)
  | (.nx, e) => asgAll ms ds e
  | _ => .stuck
theorem asgK_nx (ms : List MG) (ds : List D) (e : Env) : asgK ms ds (.nx, e) = asgAll ms ds e := rfl
theorem ev_asg_cons (m : MG) (ms : List MG) (d : D) (ds : List D) (env : Env) (Q : Fl × Env → Prop) : Ev (asgAll (m :: ms) (d :: ds) env) Q = Ev (m (.val d) env) fun z => Ev (asgK ms ds z) Q := by
  show Ev (m (.val d) env >>= _) Q = _
  rw [Ev_bind]
  congr 1; funext z
  obtain ⟨f, e⟩ := z
  cases f <;> rfl
def setN (j : Nat) (env : Env) (k : Kd) (ds : List D) (d : D) : Option Nat → Res (Fl × Env)
  | some n => .ok (.nx, env.set j (.ow k (.list (ds.set n d))))
  | none => .stuck
def setK (j : Nat) (env : Env) (d : D) : Option (Kd × List D) → D → Res (Fl × Env)
  | some (k, ds), .int i => setN j env k ds d (ixN ds.length i)
  | _, _ => .stuck
theorem setN_some (j : Nat) (env : Env) (k : Kd) (ds : List D) (d : D) (n : Nat) : setN j env k ds d (some n) = .ok (.nx, env.set j (.ow k (.list (ds.set n d)))) := rfl
theorem setK_some (j : Nat) (env : Env) (k : Kd) (ds : List D) (d : D) (i : Int) : setK j env d (some (k, ds)) (.int i) = setN j env k ds d (ixN ds.length i) := rfl
theorem ev_setIx (j : Nat) (f fi : ME) (env : Env) (Q : Fl × Env → Prop) : Ev (mSetIx j f fi env) Q = Ev (f env) fun z => Ev (z.1.frz z.2) fun y => (ownL y.2 j).isSome = true ∧ Ev (fi y.2) fun x => Ev (x.1.data x.2) fun di => Ev (setK j x.2 y.1 (ownL x.2 j) di) Q := by
  unfold mSetIx; simp only [Ev_bind, Ev_gif]
  rfl
def appK (j : Nat) (env : Env) (d : D) : Option (Kd × List D) → Res (Fl × Env)
  | some (k, ds) => if ds.length < lineM then .ok (.nx, env.set j (.ow k (.list (ds ++ [d])))) else .stuck
  | none => .stuck
theorem appK_some (j : Nat) (env : Env) (d : D) (k : Kd) (ds : List D) : appK j env d (some (k, ds)) = if ds.length < lineM then .ok (.nx, env.set j (.ow k (.list (ds ++ [d])))) else .stuck := rfl
theorem ev_append (j : Nat) (f : ME) (env : Env) (Q : Fl × Env → Prop) : Ev (mAppend j f env) Q = ((ownL env j).isSome = true ∧ Ev (f env) fun z => Ev (z.1.frz z.2) fun y => Ev (appK j y.2 y.1 (ownL y.2 j)) Q) := by
  unfold mAppend; simp only [Ev_bind, Ev_gif]
  rfl
def augS (i : Nat) (env : Env) : Option Rv → Res (Fl × Env)
  | some (.val d') => if free env i = true then .ok (.nx, env.set i (.fz d')) else .stuck
  | _ => .stuck
theorem augS_some (i : Nat) (env : Env) (d : D) : augS i env (some (.val d)) = if free env i = true then .ok (.nx, env.set i (.fz d)) else .stuck := rfl
def augK (i : Nat) (o : D → D → Option Rv) (f : ME) (env : Env) : Option Sl → Res (Fl × Env)
  | some (.fz d0) => f env >>= fun z => z.1.data z.2 >>= fun d => augS i z.2 (o d0 d)
  | _ => .stuck
theorem augK_fz (i : Nat) (o : D → D → Option Rv) (f : ME) (env : Env) (d0 : D) : augK i o f env (some (.fz d0)) = f env >>= fun z => z.1.data z.2 >>= fun d => augS i z.2 (o d0 d) := rfl
theorem ev_aug (i : Nat) (o : D → D → Option Rv) (f : ME) (env : Env) (Q : Fl × Env → Prop) : Ev (mAug i o f env) Q = Ev (augK i o f env env[i]?) Q := by
  unfold mAug
  generalize env[i]? = s
  cases s with
  | none => rfl
  | some s => cases s <;> rfl
theorem ev_par (is : List Nat) (fs : List ME) (env : Env) (Q : Fl × Env → Prop) : Ev (mPar is fs env) Q = Ev (evHs fs env) fun z => Ev (storeHs is z.1 z.2) Q := by
  unfold mPar; rw [Ev_bind]
theorem ev_hs_nil (env : Env) (Q : List Rv × Env → Prop) : Ev (evHs [] env) Q = Q ([], env) := rfl
theorem ev_hs_cons (f : ME) (fs : List ME) (env : Env) (Q : List Rv × Env → Prop) : Ev (evHs (f :: fs) env) Q = Ev (f env) fun z => Ev (hold z.1 z.2) fun y => Ev (evHs fs y.2) fun x => Q (y.1 :: x.1, x.2) := by
  show Ev (f env >>= fun z => hold z.1 z.2 >>= fun y => evHs fs y.2 >>= fun x => .ok (y.1 :: x.1, x.2)) Q = _
  simp only [Ev_bind, Ev_ok]
theorem hold_val (d : D) (env : Env) : hold (.val d) env = .ok (.val d, env) := rfl
theorem hold_new (d : D) (env : Env) : hold (.new d) env = .ok (.new d, env) := rfl
theorem hold_sl (i : Nat) (env : Env) : hold (.sl i) env = (Rv.sl i).frz env >>= fun z => .ok (.val z.1, z.2) := rfl
theorem slOf_val (d : D) : slOf (.val d) = .fz d := rfl
theorem slOf_new (d : D) : slOf (.new d) = .ow .fr d := rfl
/-! ### stars, pops, objects -/
theorem ev_listS (fs : List (Bool × ME)) (env : Env) (Q : Rv × Env → Prop) : Ev (mListS fs env) Q = Ev (evSs fs env) fun z => z.1.length ≤ lineM ∧ Q (.new (.list z.1), z.2) := by
  unfold mListS; simp only [Ev_bind, Ev_gif, Ev_ok]
theorem ev_ss_nil (env : Env) (Q : List D × Env → Prop) : Ev (evSs [] env) Q = Q ([], env) := rfl
theorem ev_ss_one (f : ME) (fs : List (Bool × ME)) (env : Env) (Q : List D × Env → Prop) : Ev (evSs ((false, f) :: fs) env) Q = Ev (f env) fun z => Ev (z.1.frz z.2) fun y => Ev (evSs fs y.2) fun x => Q (y.1 :: x.1, x.2) := by
  show Ev (f env >>= fun z => z.1.frz z.2 >>= fun y => evSs fs y.2 >>= fun x => .ok (y.1 :: x.1, x.2)) Q = _
  simp only [Ev_bind, Ev_ok]
def seqR : Option (List D) → Res (List D)
  | some ds => .ok ds
  | none => .stuck
theorem seqR_some (ds : List D) : seqR (some ds) = .ok ds := rfl
theorem ev_ss_star (f : ME) (fs : List (Bool × ME)) (env : Env) (Q : List D × Env → Prop) : Ev (evSs ((true, f) :: fs) env) Q = Ev (f env) fun z => Ev (z.1.frz z.2) fun y => Ev (seqR (seqD y.1)) fun ds => Ev (evSs fs y.2) fun x => Q (ds ++ x.1, x.2) := by
  show Ev (f env >>= fun z => z.1.frz z.2 >>= fun y => (match seqD y.1 with
      | some ds => evSs fs y.2 >>= fun x => .ok (ds ++ x.1, x.2)
      | none => .stuck)) Q = _
  simp only [Ev_bind]
  congr 1; funext z
  congr 1; funext y
  cases seqD y.1 with
  | none => rfl
  | some ds => show Ev (evSs fs y.2 >>= fun x => .ok (ds ++ x.1, x.2)) Q = _; rw [Ev_bind]; rfl
def enumR (o : Option Nat) (env : Env) : Option (List D) → Res ((List D × Option Nat) × Env)
  | some ds => .ok ((enumD ds, o), env)
  | none => .stuck
theorem enumR_some (o : Option Nat) (env : Env) (ds : List D) : enumR o env (some ds) = .ok ((enumD ds, o), env) := rfl
theorem ev_enum (f : ME) (env : Env) (Q : (List D × Option Nat) × Env → Prop) : Ev (mEnum f env) Q = Ev (f env) fun z => Ev (lockR z.1 z.2) fun y => Ev (enumR y.1.2 y.2 (itemsD y.1.1)) Q := by
  unfold mEnum
  simp only [Ev_bind]
  rfl
def mkK (e1 : Env) : Rv × Env → Res (Rv × Env)
  | (.val .none, .ow .pn d :: _) => .ok (.new d, e1)
  | _ => .stuck
theorem mkK_ok (e1 : Env) (d : D) (r : Env) : mkK e1 (.val .none, .ow .pn d :: r) = .ok (.new d, e1) := rfl
theorem ev_make (c : Str) (fm : FM) (fs : List ME) (env : Env) (Q : Rv × Env → Prop) : Ev (mMake c fm fs env) Q = Ev (evDs fs env) fun z => Ev (fm (.ow .pn (insD c [] []) :: z.1.map .fz)) fun y => Ev (mkK z.2 y) Q := by
  unfold mMake
  rw [Ev_bind]
  congr 1; funext z
  cases h : fm (.ow .pn (insD c [] []) :: z.1.map .fz) with
  | ok y =>
    obtain ⟨r, e⟩ := y
    show Ev (mkEnd z.2 (.ok (r, e))) Q = Ev (mkK z.2 (r, e)) Q
    congr 1
    unfold mkEnd mkK
    split <;> first | rfl | (split <;> first | rfl | simp_all)
  | ex => rfl
  | stuck => rfl
def prK (env : Env) : Rv × Env → Res (Rv × Env)
  | (.val d, _) => .ok (.val d, env)
  | (.new d, _) => .ok (.new d, env)
  | _ => .stuck
theorem prK_val (env e : Env) (d : D) : prK env (.val d, e) = .ok (.val d, env) := rfl
theorem prK_new (env e : Env) (d : D) : prK env (.new d, e) = .ok (.new d, env) := rfl
theorem ev_prop (c : Str) (fm : FM) (h : ME) (env : Env) (Q : Rv × Env → Prop) : Ev (mProp c fm h env) Q = Ev (h env) fun z => Ev (z.1.frz z.2) fun y => isIns c y.1 = true ∧ Ev (fm [.fz y.1]) fun x => Ev (prK y.2 x) Q := by
  unfold mProp
  simp only [Ev_bind, Ev_gif]
  congr 1; funext z
  congr 1; funext y
  congr 1
  cases hf : fm [.fz y.1] with
  | ok x => obtain ⟨r, e⟩ := x; cases r <;> rfl
  | ex => rfl
  | stuck => rfl
theorem ev_fldS (c f : Str) (j : Nat) (h : ME) (env : Env) (Q : Fl × Env → Prop) : Ev (mFldS c f j h env) Q = Ev (h env) fun z => Ev (z.1.frz z.2) fun y => Ev (fldS c f j y.1 y.2 y.2[j]?) Q := by
  unfold mFldS
  simp only [Ev_bind]
def fldR (j : Nat) (k : Kd) (env : Env) : Option D → Res (Fl × Env)
  | some d => .ok (.nx, env.set j (.ow k d))
  | none => .stuck
theorem fldR_some (j : Nat) (k : Kd) (env : Env) (d : D) : fldR j k env (some d) = .ok (.nx, env.set j (.ow k d)) := rfl
theorem fldS_fr (c f : Str) (j : Nat) (d d0 : D) (env : Env) : fldS c f j d env (some (.ow .fr d0)) = fldR j .fr env (insPut c f d d0) := by
  show (match insPut c f d d0 with | some d1 => _ | none => _) = _
  cases insPut c f d d0 <;> rfl
theorem fldS_pn (c f : Str) (j : Nat) (d d0 : D) (env : Env) : fldS c f j d env (some (.ow .pn d0)) = fldR j .pn env (insPut c f d d0) := by
  show (match insPut c f d d0 with | some d1 => _ | none => _) = _
  cases insPut c f d d0 <;> rfl
def popR (j : Nat) (env : Env) (k : Kd) (ds : List D) : Option D → Res (Rv × Env)
  | some d => .ok (.val d, env.set j (.ow k (.list ds.dropLast)))
  | none => .stuck
theorem popR_some (j : Nat) (env : Env) (k : Kd) (ds : List D) (d : D) : popR j env k ds (some d) = .ok (.val d, env.set j (.ow k (.list ds.dropLast))) := rfl
def popK (j : Nat) (env : Env) : Option (Kd × List D) → Res (Rv × Env)
  | some (k, ds) => popR j env k ds ds[ds.length - 1]?
  | none => .stuck
theorem popK_some (j : Nat) (env : Env) (k : Kd) (ds : List D) : popK j env (some (k, ds)) = popR j env k ds ds[ds.length - 1]? := rfl
theorem ev_pop (j : Nat) (env : Env) (Q : Rv × Env → Prop) : Ev (mPop j env) Q = Ev (popK j env (ownL env j)) Q := by
  unfold mPop
  cases ownL env j with
  | none => rfl
  | some w =>
    obtain ⟨k, ds⟩ := w
    rw [popK_some]
    dsimp only
    cases ds[ds.length - 1]? <;> rfl
def popAR (j : Nat) (env : Env) (k : Kd) (ds : List D) (i : Nat) : Option D → Res (Rv × Env)
  | some d => .ok (.val d, env.set j (.ow k (.list (ds.eraseIdx i))))
  | none => .stuck
theorem popAR_some (j : Nat) (env : Env) (k : Kd) (ds : List D) (i : Nat) (d : D) : popAR j env k ds i (some d) = .ok (.val d, env.set j (.ow k (.list (ds.eraseIdx i)))) := rfl
def popAK (j : Nat) (env : Env) : Option (Kd × List D) → D → Res (Rv × Env)
  | some (k, ds), .int i => if 0 ≤ i ∧ i < 2 ^ 62 then popAR j env k ds i.toNat ds[i.toNat]? else .stuck
  | _, _ => .stuck
theorem popAK_some (j : Nat) (env : Env) (k : Kd) (ds : List D) (i : Int) : popAK j env (some (k, ds)) (.int i) = if 0 ≤ i ∧ i < 2 ^ 62 then popAR j env k ds i.toNat ds[i.toNat]? else .stuck := rfl
theorem ev_popAt (j : Nat) (f : ME) (env : Env) (Q : Rv × Env → Prop) : Ev (mPopAt j f env) Q = ((ownL env j).isSome = true ∧ Ev (f env) fun z => Ev (z.1.data z.2) fun di => Ev (popAK j z.2 (ownL z.2 j) di) Q) := by
  unfold mPopAt
  simp only [Ev_bind, Ev_gif]
  rfl
def extK (j : Nat) (env : Env) : Option (Kd × List D) → D → Res (Fl × Env)
  | some (k, ds), .list es => if ds.length + es.length ≤ lineM then .ok (.nx, env.set j (.ow k (.list (ds ++ es)))) else .stuck
  | _, _ => .stuck
theorem extK_some (j : Nat) (env : Env) (k : Kd) (ds es : List D) : extK j env (some (k, ds)) (.list es) = if ds.length + es.length ≤ lineM then .ok (.nx, env.set j (.ow k (.list (ds ++ es)))) else .stuck := rfl
theorem ev_extend (j : Nat) (f : ME) (env : Env) (Q : Fl × Env → Prop) : Ev (mExtend j f env) Q = ((ownL env j).isSome = true ∧ Ev (f env) fun z => Ev (z.1.frz z.2) fun y => Ev (extK j y.2 (ownL y.2 j) y.1) Q) := by
  unfold mExtend
  simp only [Ev_bind, Ev_gif]
  rfl
def augM (op : Int → Int → Int) (j i : Nat) (a b : Int) (env : Env) : Option (Kd × List D) → Res (Fl × Env)
  | some (k, ds) => if i < ds.length then .ok (.nx, env.set j (.ow k (.list (ds.set i (.int (op a b)))))) else .stuck
  | none => .stuck
theorem augM_some (op : Int → Int → Int) (j i : Nat) (a b : Int) (env : Env) (k : Kd) (ds : List D) : augM op j i a b env (some (k, ds)) = if i < ds.length then .ok (.nx, env.set j (.ow k (.list (ds.set i (.int (op a b)))))) else .stuck := rfl
theorem augN_int (op : Int → Int → Int) (j i : Nat) (a b : Int) (env : Env) : augN op j i (.int a) (.int b) env = augM op j i a b env (ownL env j) := by
  unfold augN
  cases ownL env j <;> rfl
def augJ (op : Int → Int → Int) (j i : Nat) (f : ME) (env : Env) : Option D → Res (Fl × Env)
  | some old => f env >>= fun y => y.1.data y.2 >>= fun dn => augN op j i old dn y.2
  | none => .stuck
theorem augJ_some (op : Int → Int → Int) (j i : Nat) (f : ME) (env : Env) (old : D) : augJ op j i f env (some old) = (f env >>= fun y => y.1.data y.2 >>= fun dn => augN op j i old dn y.2) := rfl
def augI (op : Int → Int → Int) (j : Nat) (f : ME) (env : Env) : D → Option (Kd × List D) → Res (Fl × Env)
  | .int i, some (_, ds) => if 0 ≤ i ∧ i < 2 ^ 62 then augJ op j i.toNat f env ds[i.toNat]? else .stuck
  | _, _ => .stuck
theorem augI_int (op : Int → Int → Int) (j : Nat) (f : ME) (env : Env) (i : Int) (k : Kd) (ds : List D) : augI op j f env (.int i) (some (k, ds)) = if 0 ≤ i ∧ i < 2 ^ 62 then augJ op j i.toNat f env ds[i.toNat]? else .stuck := rfl
theorem ev_augIx (op : Int → Int → Int) (j : Nat) (fi f : ME) (env : Env) (Q : Fl × Env → Prop) : Ev (mAugIx op j fi f env) Q = ((ownL env j).isSome = true ∧ Ev (fi env) fun x => Ev (x.1.data x.2) fun di => Ev (augI op j f x.2 di (ownL x.2 j)) Q) := by
  unfold mAugIx
  simp only [Ev_bind, Ev_gif]
  congr 1
/-! ### calls -/
theorem ev_as_nil (env : Env) (Q : List AV × Env → Prop) : Ev (evAs [] [] env) Q = Q ([], env) := rfl
def asK (ms : List Md) (fs : List ME) : Rv → Env → Res (List AV × Env)
  | .sl i, env => evAs ms fs env >>= fun x => .ok (AV.s i :: x.1, x.2)
  | _, _ => .stuck
theorem asK_sl (ms : List Md) (fs : List ME) (i : Nat) (env : Env) : asK ms fs (.sl i) env = evAs ms fs env >>= fun x => .ok (AV.s i :: x.1, x.2) := rfl
theorem ev_as_t (ms : List Md) (f : ME) (fs : List ME) (env : Env) (Q : List AV × Env → Prop) : Ev (evAs (.p :: ms) (f :: fs) env) Q = Ev (f env) fun z => Ev (asK ms fs z.1 z.2) Q := by
  show Ev (f env >>= _) Q = _
  rw [Ev_bind]
  congr 1; funext z
  obtain ⟨r, e⟩ := z
  cases r <;> rfl
def asL (ms : List Md) (fs : List ME) : Rv → Env → Res (List AV × Env)
  | .sl i, env => evAs ms fs env >>= fun x => .ok (AV.l i :: x.1, x.2)
  | .val d, env => evAs ms fs env >>= fun x => .ok (AV.d d :: x.1, x.2)
  | _, _ => .stuck
theorem asL_val (ms : List Md) (fs : List ME) (d : D) (env : Env) : asL ms fs (.val d) env = evAs ms fs env >>= fun x => .ok (AV.d d :: x.1, x.2) := rfl
theorem asL_sl (ms : List Md) (fs : List ME) (i : Nat) (env : Env) : asL ms fs (.sl i) env = evAs ms fs env >>= fun x => .ok (AV.l i :: x.1, x.2) := rfl
theorem ev_as_l (ms : List Md) (f : ME) (fs : List ME) (env : Env) (Q : List AV × Env → Prop) : Ev (evAs (.l :: ms) (f :: fs) env) Q = Ev (f env) fun z => Ev (asL ms fs z.1 z.2) Q := by
  show Ev (f env >>= _) Q = _
  rw [Ev_bind]
  congr 1; funext z
  obtain ⟨r, e⟩ := z
  cases r <;> rfl
theorem ev_as_f (ms : List Md) (f : ME) (fs : List ME) (env : Env) (Q : List AV × Env → Prop) : Ev (evAs (.c :: ms) (f :: fs) env) Q = Ev (f env) fun z => Ev (z.1.frz z.2) fun y => Ev (evAs ms fs y.2) fun x => Q (.d y.1 :: x.1, x.2) := by
  show Ev (f env >>= fun z => z.1.frz z.2 >>= fun y => evAs ms fs y.2 >>= fun x => .ok (AV.d y.1 :: x.1, x.2)) Q = _
  simp only [Ev_bind, Ev_ok]
def backK (as : List AV) (env : Env) : Rv × Env → Res (Rv × Env)
  | (.val d, e) => .ok (.val d, putBack as e env)
  | (.new d, e) => .ok (.new d, putBack as e env)
  | _ => .stuck
theorem backK_val (as : List AV) (env : Env) (d : D) (e : Env) : backK as env (.val d, e) = .ok (.val d, putBack as e env) := rfl
theorem backK_new (as : List AV) (env : Env) (d : D) (e : Env) : backK as env (.new d, e) = .ok (.new d, putBack as e env) := rfl
def callA (fm : FM) (as : List AV) (env : Env) : Option Env → Res (Rv × Env)
  | some ae => fm ae >>= backK as env
  | none => .stuck
theorem callA_some (fm : FM) (as : List AV) (env ae : Env) : callA fm as env (some ae) = fm ae >>= backK as env := rfl
theorem ev_callF (fm : FM) (ms : List Md) (fs : List ME) (env : Env) (Q : Rv × Env → Prop) : Ev (mCallF fm ms fs env) Q = Ev (evAs ms fs env) fun z => noDup (slotsOf z.1) = true ∧ Ev (callA fm z.1 z.2 (mkArgs z.2 z.1)) Q := by
  unfold mCallF
  simp only [Ev_bind, Ev_gif]
  congr 1; funext z
  congr 1
  generalize mkArgs z.2 z.1 = o
  cases o with
  | some ae =>
    rw [callA_some, Ev_bind]
    cases h : fm ae with
    | ok y => obtain ⟨r, e⟩ := y; cases r <;> (simp only [h]; rfl)
    | _ => simp only [h]; rfl
  | none => rfl
def backN (env : Env) : Rv × Env → Res (Rv × Env)
  | (.val d, _) => .ok (.val d, env)
  | (.new d, _) => .ok (.new d, env)
  | _ => .stuck
theorem backN_val (env : Env) (d : D) (e : Env) : backN env (.val d, e) = .ok (.val d, env) := rfl
theorem backN_new (env : Env) (d : D) (e : Env) : backN env (.new d, e) = .ok (.new d, env) := rfl
theorem ev_callK (fm : FM) (perm : List Nat) (np nk : Nat) (fs ks : List ME) (env : Env) (Q : Rv × Env → Prop) : Ev (mCallK fm perm np nk fs ks env) Q = Ev (evDs fs env) fun z => Ev (evDs ks z.2) fun y => (z.1.length = np ∧ y.1.length = nk) ∧ Ev (fm ((pick PyData.none perm (z.1 ++ y.1)).map .fz)) fun x => Ev (backN y.2 x) Q := by
  unfold mCallK
  simp only [Ev_bind, Ev_gif]
  congr 1; funext z
  congr 1; funext y
  congr 1
  cases h : fm ((pick PyData.none perm (z.1 ++ y.1)).map .fz) with
  | ok y => obtain ⟨r, e⟩ := y; cases r <;> rfl
  | _ => rfl
/-- a def's body: what its end makes of it -/
def finQ (env : Env) (Q : Rv × Env → Prop) : Fl × Env → Prop
  | (.nx, e) => env.length ≤ e.length ∧ Q (.val .none, outEnv env e)
  | (.rt r, e) => env.length ≤ e.length ∧ Ev (finR env e r) Q
  | _ => False
theorem ev_def (np nl : Nat) (m : MS) (env : Env) (Q : Rv × Env → Prop) : Ev (mDef np nl m env) Q = ((env.length = np ∧ env.all argOk = true) ∧ Ev (m (env ++ List.replicate (nl - np) .no)) (finQ env Q)) := by
  unfold mDef
  rw [Ev_gif]
  congr 1
  cases m (env ++ List.replicate (nl - np) .no) with
  | ok z =>
    obtain ⟨f, e⟩ := z
    cases f <;> first | rfl | (show Ev (chk _ _ _) Q = _; unfold chk; rw [Ev_gif]; rfl)
  | ex c d e =>
    show Ev (chk _ _ _) Q = False
    unfold chk; rw [Ev_gif]
    exact propext ⟨fun z => z.2, False.elim⟩
  | stuck => rfl
/-! ### loops -/
def rngK (o : List D → Option (Int × Nat)) (env : Env) : Option (List D) → Option ((List D × Option Nat) × Env)
  | some ds => (o ds).map fun r => ((rangeD r.1 r.2, none), env)
  | none => none
theorem rngK_some (o : List D → Option (Int × Nat)) (env : Env) (ds : List D) : rngK o env (some ds) = (o ds).map fun r => ((rangeD r.1 r.2, none), env) := rfl
def optR {α : Type} : Option α → Res α
  | some a => .ok a
  | none => .stuck
theorem optR_some {α : Type} (a : α) : optR (some a) = .ok a := rfl
theorem optR_if {α : Type} {c : Prop} [Decidable c] (a : α) : optR (if c then some a else none) = if c then .ok a else .stuck := by split <;> rfl
theorem ev_range (o : List D → Option (Int × Nat)) (fs : List ME) (env : Env) (Q : (List D × Option Nat) × Env → Prop) : Ev (mRange o fs env) Q = Ev (evRs fs env) fun z => Ev (optR (rngK o z.2 (datas z.2 z.1))) Q := by
  unfold mRange
  rw [Ev_bind]
  congr 1; funext z
  cases datas z.2 z.1 with
  | none => rfl
  | some ds =>
    rw [rngK_some]
    dsimp only
    cases o ds <;> rfl
def itK (o : Option Nat) (env : Env) : Option (List D) → Res ((List D × Option Nat) × Env)
  | some ds => .ok ((ds, o), env)
  | none => .stuck
theorem itK_some (o : Option Nat) (env : Env) (ds : List D) : itK o env (some ds) = .ok ((ds, o), env) := rfl
theorem ev_iter (f : ME) (env : Env) (Q : (List D × Option Nat) × Env → Prop) : Ev (mIter f env) Q = Ev (f env) fun z => Ev (lockR z.1 z.2) fun y => Ev (itK y.1.2 y.2 (itemsD y.1.1)) Q := by
  unfold mIter
  simp only [Ev_bind]
  rfl
theorem ev_for (mi : MI) (gm : MG) (b : MS) (env : Env) (Q : Fl × Env → Prop) : Ev (mFor mi gm b env) Q = Ev (mi env) fun z => lockB z.1.2 env = true ∧ Ev (mForL gm b z.1.1 z.2) fun y => Q (y.1, unlock z.1.2 y.2) := by
  unfold mFor
  rw [Ev_bind]
  congr 1; funext z
  rw [Ev_gif]
  congr 1
  cases mForL gm b z.1.1 z.2 with
  | ok y => rfl
  | _ => rfl
/-- behind a turn: J again, or the loop's end -/
def turnQ (J : Env → Prop) (Q : Fl × Env → Prop) : Fl × Env → Prop
  | (.nx, e) => J e
  | (.ct, e) => J e
  | (.bk, e) => Q (.nx, e)
  | (.rt r, e) => Q (.rt r, e)
theorem turnQ_nx (J : Env → Prop) (Q : Fl × Env → Prop) (e : Env) : turnQ J Q (.nx, e) = J e := rfl
theorem turnQ_ct (J : Env → Prop) (Q : Fl × Env → Prop) (e : Env) : turnQ J Q (.ct, e) = J e := rfl
theorem turnQ_bk (J : Env → Prop) (Q : Fl × Env → Prop) (e : Env) : turnQ J Q (.bk, e) = Q (.nx, e) := rfl
theorem turnQ_rt (J : Env → Prop) (Q : Fl × Env → Prop) (r : Rv) (e : Env) : turnQ J Q (.rt r, e) = Q (.rt r, e) := rfl
/-- the loop: J holds ahead of each item -/
theorem ev_forL {gm : MG} {b : MS} {Q : Fl × Env → Prop} (hg : ∀ d env, Ev (gm (.val d) env) (fun z => z.1 = .nx) ∨ gm (.val d) env = .stuck) (J : List D → Env → Prop) (hs : ∀ d ds env, J (d :: ds) env → Ev (gm (.val d) env) fun z => Ev (seqK b z) (turnQ (J ds) Q)) (he : ∀ env, J [] env → Q (.nx, env)) : ∀ ds env, J ds env → Ev (mForL gm b ds env) Q
  | [], env, h => he env h
  | d :: ds, env, h => by
    show Ev (gm (.val d) env >>= _) Q
    rw [Ev_bind]
    have h1 := hs d ds env h
    rcases hg d env with h2 | h2
    · obtain ⟨⟨f, e⟩, q1, q2⟩ := h2.ok
      have q2 : f = .nx := q2
      subst q2
      rw [q1] at h1 ⊢
      have h1 : Ev (b e) (turnQ (J ds) Q) := h1
      show Ev (b e >>= turnEnd (mForL gm b ds)) Q
      rw [Ev_bind]
      refine h1.mono fun y hy => ?_
      obtain ⟨f2, e2⟩ := y
      cases f2 with
      | nx => exact ev_forL hg J hs he ds e2 hy
      | ct => exact ev_forL hg J hs he ds e2 hy
      | bk => exact hy
      | rt r => exact hy
    · rw [h2] at h1; exact h1.elim
theorem asgAll_nx : ∀ (ms : List MG) (ds : List D) (env : Env), (∀ m ∈ ms, ∀ d env, Ev (m (.val d) env) (fun z => z.1 = .nx) ∨ m (.val d) env = .stuck) → Ev (asgAll ms ds env) (fun z => z.1 = .nx) ∨ asgAll ms ds env = .stuck
  | [], [], env, _ => .inl rfl
  | [], _ :: _, env, _ => .inr rfl
  | _ :: _, [], env, _ => .inr rfl
  | m :: ms, d :: ds, env, h => by
    rcases h m (by simp) d env with h1 | h1
    · obtain ⟨⟨f, e⟩, q1, q2⟩ := h1.ok
      have q2 : f = .nx := q2
      subst q2
      have e1 : asgAll (m :: ms) (d :: ds) env = asgAll ms ds e := by show (m (.val d) env >>= _) = _; rw [q1]; rfl
      rw [e1]
      exact asgAll_nx ms ds e fun m' hm' => h m' (List.mem_cons_of_mem _ hm')
    · exact .inr (by show (m (.val d) env >>= _) = _; rw [h1]; rfl)
theorem name_nx (i : Nat) (d : D) (env : Env) : Ev (mName i (.val d) env) (fun z => z.1 = .nx) ∨ mName i (.val d) env = .stuck := by
  unfold mName storeR
  by_cases h : free env i = true
  · rw [if_pos h]; exact .inl rfl
  · rw [if_neg h]; exact .inr rfl
theorem tupG_nx (ms : List MG) (h : ∀ m ∈ ms, ∀ d env, Ev (m (.val d) env) (fun z => z.1 = .nx) ∨ m (.val d) env = .stuck) (d : D) (env : Env) : Ev (mTupG ms (.val d) env) (fun z => z.1 = .nx) ∨ mTupG ms (.val d) env = .stuck := by
  cases d with
  | tuple ds =>
    show Ev (if ds.length = ms.length then asgAll ms ds env else .stuck) _ ∨ (if ds.length = ms.length then asgAll ms ds env else .stuck) = .stuck
    by_cases hl : ds.length = ms.length
    · rw [if_pos hl]; exact asgAll_nx ms ds env h
    · exact .inr (if_neg hl)
  | _ => exact .inr rfl
theorem ev_while {c : MT} {b : MS} {Q : Fl × Env → Prop} (J : Nat → Env → Prop) (hs : ∀ n env, J n env → Ev (c env) fun z => if z.1 = true then 0 < n ∧ Ev (b z.2) (turnQ (J (n - 1)) Q)
      else Q (.nx, z.2)) : ∀ n env, J n env → Ev (mWhile c b env) Q := by
  have key : ∀ n env, J n env → Ev (whileN c b (n + 1) env) Q := by
    intro n
    induction n with
    | zero =>
      intro env h
      show Ev (c env >>= fun z => _) Q
      rw [Ev_bind]
      refine (hs 0 env h).mono fun z hz => ?_
      by_cases hb : z.1 = true
      · rw [if_pos hb] at hz; exact absurd hz.1 (by omega)
      · rw [if_neg hb] at hz ⊢; exact hz
    | succ n ih =>
      intro env h
      show Ev (c env >>= fun z => _) Q
      rw [Ev_bind]
      refine (hs _ env h).mono fun z hz => ?_
      by_cases hb : z.1 = true
      · rw [if_pos hb] at hz ⊢
        rw [Ev_bind]
        refine hz.2.mono fun y hy => ?_
        obtain ⟨f2, e2⟩ := y
        cases f2 with
        | nx => exact ih e2 hy
        | ct => exact ih e2 hy
        | bk => exact hy
        | rt r => exact hy
      · rw [if_neg hb] at hz ⊢; exact hz
  intro n env h
  obtain ⟨a, e, q⟩ := (key n env h).ok
  rw [mWhile_of e (by intro z; cases z)]
  exact q
theorem ev_lc (mi : MI) (gm : MG) (tt : MT) (f : ME) (vs : List Nat) (env : Env) (Q : Rv × Env → Prop) : Ev (mLc mi gm tt f vs env) Q = Ev (mi env) fun z => (vs.all (plainAt z.2) = true ∧ lockB z.1.2 env = true) ∧ Ev (mLcL gm tt f vs z.1.1 [] (wipeE z.2 vs)) fun y => Q (.new (.list y.1), unlock z.1.2 (backE z.2 y.2 vs)) := by
  unfold mLc
  simp only [Ev_bind, Ev_gif, Ev_bindN, Ev_ok]
theorem ev_lcL {gm : MG} {tt : MT} {f : ME} {vs : List Nat} {Q : List D × Env → Prop} (J : List D → List D → Env → Prop) (hg : ∀ d env, Ev (gm (.val d) env) (fun z => z.1 = .nx) ∨ gm (.val d) env = .stuck)
    (hs : ∀ d ds acc env, J (d :: ds) acc env → Ev (gm (.val d) env) fun z => Ev (tt z.2) fun y => if y.1 = true then Ev (f y.2) fun x => Ev (x.1.frz x.2) fun u => acc.length < lineM ∧ J ds (acc ++ [u.1]) (wipeE u.2 vs) else J ds acc (wipeE y.2 vs))
    (he : ∀ acc env, J [] acc env → Q (acc, env)) : ∀ ds acc env, J ds acc env → Ev (mLcL gm tt f vs ds acc env) Q
  | [], acc, env, h => he acc env h
  | d :: ds, acc, env, h => by
    show Ev (bindN (gm (.val d) env) _) Q
    rw [Ev_bindN]
    have h1 := hs d ds acc env h
    rcases hg d env with h2 | h2
    · obtain ⟨⟨fl, e⟩, q1, q2⟩ := h2.ok
      have q2 : fl = .nx := q2
      subst q2
      rw [q1] at h1 ⊢
      have hz : Ev (tt e) _ := h1
      show Ev (bindN (tt e) _) Q
      rw [Ev_bindN]
      refine hz.mono fun y hy => ?_
      by_cases hb : y.1 = true
      · rw [if_pos hb] at hy ⊢
        simp only [Ev_bindN, Ev_gif]
        refine hy.mono fun x hx => hx.mono fun u hu => ⟨hu.1, ev_lcL J hg hs he ds _ _ hu.2⟩
      · rw [if_neg hb] at hy ⊢
        exact ev_lcL J hg hs he ds _ _ hy
    · rw [h2] at h1; exact h1.elim
end DL
namespace DL
open PySem PySem.Spec L2
variable {α : Type}

theorem iV_ok {α : Type} (a : α) (Q : α → Prop) : @EvI _ (.ok a) ⟨Q⟩ = Q a := by exact Ev_ok ..
theorem iV_bind {α β : Type} (m : Res α) (k : α → Res β) (Q : β → Prop) : @EvI _ (m >>= k) ⟨Q⟩ = Ev m fun a => Ev (k a) Q := by exact Ev_bind ..
theorem iV_stuck {α : Type} (Q : α → Prop) : @EvI _ (.stuck : Res α) ⟨Q⟩ = False := by exact Ev_stuck ..
theorem iV_ite {α : Type} {c : Prop} [Decidable c] (m n : Res α) (Q : α → Prop) : @EvI _ (if c then m else n) ⟨Q⟩ = if c then Ev m Q else Ev n Q := by exact Ev_ite ..
theorem iV_bindN {α β : Type} (m : Res α) (k : α → Res β) (Q : β → Prop) : @EvI _ (bindN m k) ⟨Q⟩ = Ev m fun a => Ev (k a) Q := by exact Ev_bindN ..
theorem iV_some (r : α) (env : Env) (Q : α × Env → Prop) : @EvI _ (orStuck (some r) env) ⟨Q⟩ = Q (r, env) := by exact Ev_some ..
theorem iV_none (env : Env) (Q : α × Env → Prop) : @EvI _ (orStuck (none : Option α) env) ⟨Q⟩ = False := by exact Ev_none ..
theorem iV_oif {c : Prop} [Decidable c] (r : α) (env : Env) (Q : α × Env → Prop) : @EvI _ (orStuck (if c then some r else none) env) ⟨Q⟩ = (c ∧ Q (r, env)) := by exact Ev_oif ..
theorem iV_oifG {c : Prop} [Decidable c] (o : Option α) (env : Env) (Q : α × Env → Prop) : @EvI _ (orStuck (if c then o else none) env) ⟨Q⟩ = (c ∧ Ev (orStuck o env) Q) := by exact Ev_oifG ..
theorem iV_gif {c : Prop} [Decidable c] (m : Res α) (Q : α → Prop) : @EvI _ (if c then m else .stuck) ⟨Q⟩ = (c ∧ Ev m Q) := by exact Ev_gif ..
theorem iv_c (d : D) (env : Env) (Q : Rv × Env → Prop) : @EvI _ (mC d env) ⟨Q⟩ = Q (.val d, env) := by exact ev_c ..
theorem iv_bin (o : D → D → Option Rv) (f h : ME) (env : Env) (Q : Rv × Env → Prop) : @EvI _ (mBin o f h env) ⟨Q⟩ = Ev (f env) fun z => Ev (h z.2) fun y => Ev (z.1.data y.2) fun d => Ev (y.1.data y.2) fun e => Ev (orStuck (o d e) y.2) Q := by exact ev_bin ..
theorem iv_un (o : D → Option Rv) (f : ME) (env : Env) (Q : Rv × Env → Prop) : @EvI _ (mUn o f env) ⟨Q⟩ = Ev (f env) fun z => Ev (z.1.data z.2) fun d => Ev (orStuck (o d) z.2) Q := by exact ev_un ..
theorem iv_test (f : ME) (env : Env) (Q : Bool × Env → Prop) : @EvI _ (mTest f env) ⟨Q⟩ = Ev (f env) fun z => Ev (z.1.data z.2) fun d => Ev (orStuck (asB d) z.2) Q := by exact ev_test ..
theorem iv_and (f h : MT) (env : Env) (Q : Bool × Env → Prop) : @EvI _ (mAnd f h env) ⟨Q⟩ = Ev (f env) fun z => if z.1 = true then Ev (h z.2) Q else Q (false, z.2) := by exact ev_and ..
theorem iv_or (f h : MT) (env : Env) (Q : Bool × Env → Prop) : @EvI _ (mOr f h env) ⟨Q⟩ = Ev (f env) fun z => if z.1 = true then Q (true, z.2) else Ev (h z.2) Q := by exact ev_or ..
theorem iv_not (f : MT) (env : Env) (Q : Bool × Env → Prop) : @EvI _ (mNot f env) ⟨Q⟩ = Ev (f env) fun z => Q (!z.1, z.2) := by exact ev_not ..
theorem iv_val (f : MT) (env : Env) (Q : Rv × Env → Prop) : @EvI _ (mVal f env) ⟨Q⟩ = Ev (f env) fun z => Q (.val (.bool z.1), z.2) := by exact ev_val ..
theorem iv_if (c : MT) (f h : ME) (env : Env) (Q : Rv × Env → Prop) : @EvI _ (mIf c f h env) ⟨Q⟩ = Ev (c env) fun z => if z.1 = true then Ev (f z.2) Q else Ev (h z.2) Q := by exact ev_if ..
theorem iv_yes (env : Env) (Q : Bool × Env → Prop) : @EvI _ (mYes env) ⟨Q⟩ = Q (true, env) := by exact ev_yes ..
theorem iv_ds_nil (env : Env) (Q : List D × Env → Prop) : @EvI _ (evDs [] env) ⟨Q⟩ = Q ([], env) := by exact ev_ds_nil ..
theorem iv_ds_cons (f : ME) (fs : List ME) (env : Env) (Q : List D × Env → Prop) : @EvI _ (evDs (f :: fs) env) ⟨Q⟩ = Ev (f env) fun z => Ev (z.1.frz z.2) fun y => Ev (evDs fs y.2) fun x => Q (y.1 :: x.1, x.2) := by exact ev_ds_cons ..
theorem iv_rs_nil (env : Env) (Q : List Rv × Env → Prop) : @EvI _ (evRs [] env) ⟨Q⟩ = Q ([], env) := by exact ev_rs_nil ..
theorem iv_rs_cons (f : ME) (fs : List ME) (env : Env) (Q : List Rv × Env → Prop) : @EvI _ (evRs (f :: fs) env) ⟨Q⟩ = Ev (f env) fun z => Ev (evRs fs z.2) fun x => Q (z.1 :: x.1, x.2) := by exact ev_rs_cons ..
theorem iv_list (fs : List ME) (env : Env) (Q : Rv × Env → Prop) : @EvI _ (mList fs env) ⟨Q⟩ = Ev (evDs fs env) fun z => z.1.length ≤ lineM ∧ Q (.new (.list z.1), z.2) := by exact ev_list ..
theorem iv_tup (fs : List ME) (env : Env) (Q : Rv × Env → Prop) : @EvI _ (mTup fs env) ⟨Q⟩ = Ev (evDs fs env) fun z => z.1.length ≤ lineM ∧ Q (.val (.tuple z.1), z.2) := by exact ev_tup ..
theorem iv_callB (o : List D → Option Rv) (fs : List ME) (env : Env) (Q : Rv × Env → Prop) : @EvI _ (mCallB o fs env) ⟨Q⟩ = Ev (evRs fs env) fun z => Ev (orStuck (datas z.2 z.1) z.2) fun y => Ev (orStuck (o y.1) y.2) Q := by exact ev_callB ..
theorem iv_part (f : ME) (env : Env) (Q : Option Int × Env → Prop) : @EvI _ (mPart f env) ⟨Q⟩ = Ev (f env) fun z => Ev (z.1.data z.2) fun d => Ev (orStuck (asI d) z.2) Q := by exact ev_part ..
theorem iv_nopart (env : Env) (Q : Option Int × Env → Prop) : @EvI _ (mNoPart env) ⟨Q⟩ = Q (none, env) := by exact ev_nopart ..
theorem iv_sl (o : D → Option Int → Option Int → Option Rv) (f : ME) (l h : MO) (env : Env) (Q : Rv × Env → Prop) : @EvI _ (mSl o f l h env) ⟨Q⟩ = Ev (f env) fun z => Ev (l z.2) fun y => Ev (h y.2) fun x => Ev (z.1.data x.2) fun d => Ev (orStuck (o d y.1 x.1) x.2) Q := by exact ev_sl ..
theorem iv_meth (o : D → List D → Option Rv) (isT : D → Bool) (f : ME) (fs : List ME) (env : Env) (Q : Rv × Env → Prop) : @EvI _ (mMeth o isT f fs env) ⟨Q⟩ = Ev (f env) fun z => Ev (z.1.data z.2) fun d0 => isT d0 = true ∧ Ev (evRs fs z.2) fun y => Ev (z.1.data y.2) fun d => Ev (orStuck (datas y.2 y.1) y.2) fun x => Ev (orStuck (o d x.1) x.2) Q := by exact ev_meth ..
theorem iv_repr (f : ME) (env : Env) (Q : Str × Env → Prop) : @EvI _ (mRepr f env) ⟨Q⟩ = Ev (f env) fun z => Ev (z.1.data z.2) fun d => okR d = true ∧ Q (d.shown, z.2) := by exact ev_repr ..
theorem iv_rne (f h : MR) (env : Env) (Q : Rv × Env → Prop) : @EvI _ (mRNe f h env) ⟨Q⟩ = Ev (f env) fun z => Ev (h z.2) fun y => Q (.val (.bool (!decide (z.1 = y.1))), y.2) := by exact ev_rne ..
theorem iv_req (f h : MR) (env : Env) (Q : Rv × Env → Prop) : @EvI _ (mREq f h env) ⟨Q⟩ = Ev (f env) fun z => Ev (h z.2) fun y => Q (.val (.bool (decide (z.1 = y.1))), y.2) := by exact ev_req ..
theorem iv_chain (o o' : D → D → Option Rv) (f h k : ME) (env : Env) (Q : Rv × Env → Prop) : @EvI _ (mChain o o' f h k env) ⟨Q⟩ = Ev (f env) fun z => Ev (h z.2) fun y => Ev (z.1.data y.2) fun d1 => Ev (y.1.data y.2) fun d2 => Ev (orStuck (o d1 d2) y.2) fun x => Ev (chK o' k y.1 y.2 x.1) Q := by exact ev_chain ..
theorem iv_pass (env : Env) (Q : Fl × Env → Prop) : @EvI _ (mPass env) ⟨Q⟩ = Q (.nx, env) := by exact ev_pass ..
theorem iv_break (env : Env) (Q : Fl × Env → Prop) : @EvI _ (mBreak env) ⟨Q⟩ = Q (.bk, env) := by exact ev_break ..
theorem iv_cont (env : Env) (Q : Fl × Env → Prop) : @EvI _ (mCont env) ⟨Q⟩ = Q (.ct, env) := by exact ev_cont ..
theorem iv_never (env : Env) (Q : Fl × Env → Prop) : @EvI _ (mNever env) ⟨Q⟩ = False := by exact ev_never ..
theorem iv_seq (m n : MS) (env : Env) (Q : Fl × Env → Prop) : @EvI _ (mSeq m n env) ⟨Q⟩ = Ev (m env) fun z => Ev (seqK n z) Q := by exact ev_seq ..
theorem iv_ret (f : ME) (env : Env) (Q : Fl × Env → Prop) : @EvI _ (mRet f env) ⟨Q⟩ = Ev (f env) fun z => Q (.rt z.1, z.2) := by exact ev_ret ..
theorem iv_retN (env : Env) (Q : Fl × Env → Prop) : @EvI _ (mRetN env) ⟨Q⟩ = Q (.rt (.val .none), env) := by exact ev_retN ..
theorem iv_ifS (c : MT) (m n : MS) (env : Env) (Q : Fl × Env → Prop) : @EvI _ (mIfS c m n env) ⟨Q⟩ = Ev (c env) fun z => if z.1 = true then Ev (m z.2) Q else Ev (n z.2) Q := by exact ev_ifS ..
theorem iv_drop (f : ME) (env : Env) (Q : Fl × Env → Prop) : @EvI _ (mDrop f env) ⟨Q⟩ = Ev (f env) fun z => Q (.nx, z.2) := by exact ev_drop ..
theorem iv_asg (f : ME) (m : MG) (env : Env) (Q : Fl × Env → Prop) : @EvI _ (mAsg f m env) ⟨Q⟩ = Ev (f env) fun z => Ev (m z.1 z.2) Q := by exact ev_asg ..
theorem iv_name_val (i : Nat) (d : D) (env : Env) (Q : Fl × Env → Prop) : @EvI _ (mName i (.val d) env) ⟨Q⟩ = (free env i = true ∧ Q (.nx, env.set i (.fz d))) := by exact ev_name_val ..
theorem iv_name_new (i : Nat) (d : D) (env : Env) (Q : Fl × Env → Prop) : @EvI _ (mName i (.new d) env) ⟨Q⟩ = (free env i = true ∧ Q (.nx, env.set i (.ow .fr d))) := by exact ev_name_new ..
theorem iv_name_sl (i j : Nat) (env : Env) (Q : Fl × Env → Prop) : @EvI _ (mName i (.sl j) env) ⟨Q⟩ = (free env i = true ∧ if j = i then Q (.nx, env) else Ev ((Rv.sl j).frz env) fun z => Q (.nx, z.2.set i (.fz z.1))) := by exact ev_name_sl ..
theorem iv_tupG (ms : List MG) (r : Rv) (env : Env) (Q : Fl × Env → Prop) : @EvI _ (mTupG ms r env) ⟨Q⟩ = Ev (r.data env) fun d => Ev (tupK ms d env) Q := by exact ev_tupG ..
theorem iv_asg_nil (env : Env) (Q : Fl × Env → Prop) : @EvI _ (asgAll [] [] env) ⟨Q⟩ = Q (.nx, env) := by exact ev_asg_nil ..
theorem iv_asg_cons (m : MG) (ms : List MG) (d : D) (ds : List D) (env : Env) (Q : Fl × Env → Prop) : @EvI _ (asgAll (m :: ms) (d :: ds) env) ⟨Q⟩ = Ev (m (.val d) env) fun z => Ev (asgK ms ds z) Q := by exact ev_asg_cons ..
theorem iv_setIx (j : Nat) (f fi : ME) (env : Env) (Q : Fl × Env → Prop) : @EvI _ (mSetIx j f fi env) ⟨Q⟩ = Ev (f env) fun z => Ev (z.1.frz z.2) fun y => (ownL y.2 j).isSome = true ∧ Ev (fi y.2) fun x => Ev (x.1.data x.2) fun di => Ev (setK j x.2 y.1 (ownL x.2 j) di) Q := by exact ev_setIx ..
theorem iv_append (j : Nat) (f : ME) (env : Env) (Q : Fl × Env → Prop) : @EvI _ (mAppend j f env) ⟨Q⟩ = ((ownL env j).isSome = true ∧ Ev (f env) fun z => Ev (z.1.frz z.2) fun y => Ev (appK j y.2 y.1 (ownL y.2 j)) Q) := by exact ev_append ..
theorem iv_aug (i : Nat) (o : D → D → Option Rv) (f : ME) (env : Env) (Q : Fl × Env → Prop) : @EvI _ (mAug i o f env) ⟨Q⟩ = Ev (augK i o f env env[i]?) Q := by exact ev_aug ..
theorem iv_par (is : List Nat) (fs : List ME) (env : Env) (Q : Fl × Env → Prop) : @EvI _ (mPar is fs env) ⟨Q⟩ = Ev (evHs fs env) fun z => Ev (storeHs is z.1 z.2) Q := by exact ev_par ..
theorem iv_hs_nil (env : Env) (Q : List Rv × Env → Prop) : @EvI _ (evHs [] env) ⟨Q⟩ = Q ([], env) := by exact ev_hs_nil ..
theorem iv_hs_cons (f : ME) (fs : List ME) (env : Env) (Q : List Rv × Env → Prop) : @EvI _ (evHs (f :: fs) env) ⟨Q⟩ = Ev (f env) fun z => Ev (hold z.1 z.2) fun y => Ev (evHs fs y.2) fun x => Q (y.1 :: x.1, x.2) := by exact ev_hs_cons ..
theorem iv_listS (fs : List (Bool × ME)) (env : Env) (Q : Rv × Env → Prop) : @EvI _ (mListS fs env) ⟨Q⟩ = Ev (evSs fs env) fun z => z.1.length ≤ lineM ∧ Q (.new (.list z.1), z.2) := by exact ev_listS ..
theorem iv_ss_nil (env : Env) (Q : List D × Env → Prop) : @EvI _ (evSs [] env) ⟨Q⟩ = Q ([], env) := by exact ev_ss_nil ..
theorem iv_ss_one (f : ME) (fs : List (Bool × ME)) (env : Env) (Q : List D × Env → Prop) : @EvI _ (evSs ((false, f) :: fs) env) ⟨Q⟩ = Ev (f env) fun z => Ev (z.1.frz z.2) fun y => Ev (evSs fs y.2) fun x => Q (y.1 :: x.1, x.2) := by exact ev_ss_one ..
theorem iv_ss_star (f : ME) (fs : List (Bool × ME)) (env : Env) (Q : List D × Env → Prop) : @EvI _ (evSs ((true, f) :: fs) env) ⟨Q⟩ = Ev (f env) fun z => Ev (z.1.frz z.2) fun y => Ev (seqR (seqD y.1)) fun ds => Ev (evSs fs y.2) fun x => Q (ds ++ x.1, x.2) := by exact ev_ss_star ..
theorem iv_enum (f : ME) (env : Env) (Q : (List D × Option Nat) × Env → Prop) : @EvI _ (mEnum f env) ⟨Q⟩ = Ev (f env) fun z => Ev (lockR z.1 z.2) fun y => Ev (enumR y.1.2 y.2 (itemsD y.1.1)) Q := by exact ev_enum ..
theorem iv_make (c : Str) (fm : FM) (fs : List ME) (env : Env) (Q : Rv × Env → Prop) : @EvI _ (mMake c fm fs env) ⟨Q⟩ = Ev (evDs fs env) fun z => Ev (fm (.ow .pn (insD c [] []) :: z.1.map .fz)) fun y => Ev (mkK z.2 y) Q := by exact ev_make ..
theorem iv_prop (c : Str) (fm : FM) (h : ME) (env : Env) (Q : Rv × Env → Prop) : @EvI _ (mProp c fm h env) ⟨Q⟩ = Ev (h env) fun z => Ev (z.1.frz z.2) fun y => isIns c y.1 = true ∧ Ev (fm [.fz y.1]) fun x => Ev (prK y.2 x) Q := by exact ev_prop ..
theorem iv_fldS (c f : Str) (j : Nat) (h : ME) (env : Env) (Q : Fl × Env → Prop) : @EvI _ (mFldS c f j h env) ⟨Q⟩ = Ev (h env) fun z => Ev (z.1.frz z.2) fun y => Ev (fldS c f j y.1 y.2 y.2[j]?) Q := by exact ev_fldS ..
theorem iv_pop (j : Nat) (env : Env) (Q : Rv × Env → Prop) : @EvI _ (mPop j env) ⟨Q⟩ = Ev (popK j env (ownL env j)) Q := by exact ev_pop ..
theorem iv_popAt (j : Nat) (f : ME) (env : Env) (Q : Rv × Env → Prop) : @EvI _ (mPopAt j f env) ⟨Q⟩ = ((ownL env j).isSome = true ∧ Ev (f env) fun z => Ev (z.1.data z.2) fun di => Ev (popAK j z.2 (ownL z.2 j) di) Q) := by exact ev_popAt ..
theorem iv_extend (j : Nat) (f : ME) (env : Env) (Q : Fl × Env → Prop) : @EvI _ (mExtend j f env) ⟨Q⟩ = ((ownL env j).isSome = true ∧ Ev (f env) fun z => Ev (z.1.frz z.2) fun y => Ev (extK j y.2 (ownL y.2 j) y.1) Q) := by exact ev_extend ..
theorem iv_augIx (op : Int → Int → Int) (j : Nat) (fi f : ME) (env : Env) (Q : Fl × Env → Prop) : @EvI _ (mAugIx op j fi f env) ⟨Q⟩ = ((ownL env j).isSome = true ∧ Ev (fi env) fun x => Ev (x.1.data x.2) fun di => Ev (augI op j f x.2 di (ownL x.2 j)) Q) := by exact ev_augIx ..
theorem iv_as_nil (env : Env) (Q : List AV × Env → Prop) : @EvI _ (evAs [] [] env) ⟨Q⟩ = Q ([], env) := by exact ev_as_nil ..
theorem iv_as_t (ms : List Md) (f : ME) (fs : List ME) (env : Env) (Q : List AV × Env → Prop) : @EvI _ (evAs (.p :: ms) (f :: fs) env) ⟨Q⟩ = Ev (f env) fun z => Ev (asK ms fs z.1 z.2) Q := by exact ev_as_t ..
theorem iv_as_l (ms : List Md) (f : ME) (fs : List ME) (env : Env) (Q : List AV × Env → Prop) : @EvI _ (evAs (.l :: ms) (f :: fs) env) ⟨Q⟩ = Ev (f env) fun z => Ev (asL ms fs z.1 z.2) Q := by exact ev_as_l ..
theorem iv_as_f (ms : List Md) (f : ME) (fs : List ME) (env : Env) (Q : List AV × Env → Prop) : @EvI _ (evAs (.c :: ms) (f :: fs) env) ⟨Q⟩ = Ev (f env) fun z => Ev (z.1.frz z.2) fun y => Ev (evAs ms fs y.2) fun x => Q (.d y.1 :: x.1, x.2) := by exact ev_as_f ..
theorem iv_callF (fm : FM) (ms : List Md) (fs : List ME) (env : Env) (Q : Rv × Env → Prop) : @EvI _ (mCallF fm ms fs env) ⟨Q⟩ = Ev (evAs ms fs env) fun z => noDup (slotsOf z.1) = true ∧ Ev (callA fm z.1 z.2 (mkArgs z.2 z.1)) Q := by exact ev_callF ..
theorem iv_callK (fm : FM) (perm : List Nat) (np nk : Nat) (fs ks : List ME) (env : Env) (Q : Rv × Env → Prop) : @EvI _ (mCallK fm perm np nk fs ks env) ⟨Q⟩ = Ev (evDs fs env) fun z => Ev (evDs ks z.2) fun y => (z.1.length = np ∧ y.1.length = nk) ∧ Ev (fm ((pick PyData.none perm (z.1 ++ y.1)).map .fz)) fun x => Ev (backN y.2 x) Q := by exact ev_callK ..
theorem iv_def (np nl : Nat) (m : MS) (env : Env) (Q : Rv × Env → Prop) : @EvI _ (mDef np nl m env) ⟨Q⟩ = ((env.length = np ∧ env.all argOk = true) ∧ Ev (m (env ++ List.replicate (nl - np) .no)) (finQ env Q)) := by exact ev_def ..
theorem iv_range (o : List D → Option (Int × Nat)) (fs : List ME) (env : Env) (Q : (List D × Option Nat) × Env → Prop) : @EvI _ (mRange o fs env) ⟨Q⟩ = Ev (evRs fs env) fun z => Ev (optR (rngK o z.2 (datas z.2 z.1))) Q := by exact ev_range ..
theorem iv_iter (f : ME) (env : Env) (Q : (List D × Option Nat) × Env → Prop) : @EvI _ (mIter f env) ⟨Q⟩ = Ev (f env) fun z => Ev (lockR z.1 z.2) fun y => Ev (itK y.1.2 y.2 (itemsD y.1.1)) Q := by exact ev_iter ..
theorem iv_for (mi : MI) (gm : MG) (b : MS) (env : Env) (Q : Fl × Env → Prop) : @EvI _ (mFor mi gm b env) ⟨Q⟩ = Ev (mi env) fun z => lockB z.1.2 env = true ∧ Ev (mForL gm b z.1.1 z.2) fun y => Q (y.1, unlock z.1.2 y.2) := by exact ev_for ..
theorem iv_lc (mi : MI) (gm : MG) (tt : MT) (f : ME) (vs : List Nat) (env : Env) (Q : Rv × Env → Prop) : @EvI _ (mLc mi gm tt f vs env) ⟨Q⟩ = Ev (mi env) fun z => (vs.all (plainAt z.2) = true ∧ lockB z.1.2 env = true) ∧ Ev (mLcL gm tt f vs z.1.1 [] (wipeE z.2 vs)) fun y => Q (.new (.list y.1), unlock z.1.2 (backE z.2 y.2 vs)) := by exact ev_lc ..

theorem iV_ok' (a : α) (Q : α → Prop) : @EvI _ (.ok a) ⟨Q⟩ = Q a := rfl
theorem iV_stuck' (Q : α → Prop) : @EvI α .stuck ⟨Q⟩ = False := rfl
/-! ### slots -/
def varK (i : Nat) (env : Env) : Option Sl → Res (Rv × Env)
  | some (.fz d) => .ok (.val d, env)
  | some (.ow _ _) => .ok (.sl i, env)
  | _ => .stuck
theorem varK_fz (i : Nat) (env : Env) (d : D) : varK i env (some (.fz d)) = .ok (.val d, env) := rfl
theorem varK_ow (i : Nat) (env : Env) (k : Kd) (d : D) : varK i env (some (.ow k d)) = .ok (.sl i, env) := rfl
theorem mVar_eq (i : Nat) (env : Env) : mVar i env = varK i env env[i]? := by
  unfold mVar
  generalize env[i]? = s
  cases s with
  | none => rfl
  | some s => cases s <;> rfl
theorem mC_eq (d : D) (env : Env) : mC d env = .ok (.val d, env) := rfl
theorem data_val (d : D) (env : Env) : (Rv.val d).data env = .ok d := rfl
theorem data_new (d : D) (env : Env) : (Rv.new d).data env = .ok d := rfl
def datK : Option Sl → Res D
  | some (.fz d) => .ok d
  | some (.ow _ d) => .ok d
  | _ => .stuck
theorem datK_fz (d : D) : datK (some (.fz d)) = .ok d := rfl
theorem datK_ow (k : Kd) (d : D) : datK (some (.ow k d)) = .ok d := rfl
theorem data_sl (i : Nat) (env : Env) : (Rv.sl i).data env = datK env[i]? := by
  show (match env[i]? with | some (.fz d) => _ | some (.ow _ d) => _ | _ => _) = _
  generalize env[i]? = s
  cases s with
  | none => rfl
  | some s => cases s <;> rfl
theorem frz_val (d : D) (env : Env) : (Rv.val d).frz env = .ok (d, env) := rfl
theorem frz_new (d : D) (env : Env) : (Rv.new d).frz env = .ok (d, env) := rfl
def frzK (i : Nat) (env : Env) : Option Sl → Res (D × Env)
  | some (.fz d) => .ok (d, env)
  | some (.ow .fr d) => .ok (d, env.set i (.fz d))
  | _ => .stuck
theorem frzK_fz (i : Nat) (env : Env) (d : D) : frzK i env (some (.fz d)) = .ok (d, env) := rfl
theorem frzK_ow (i : Nat) (env : Env) (d : D) : frzK i env (some (.ow .fr d)) = .ok (d, env.set i (.fz d)) := rfl
theorem frz_sl (i : Nat) (env : Env) : (Rv.sl i).frz env = frzK i env env[i]? := by
  show (match env[i]? with | some (.fz d) => _ | some (.ow .fr d) => _ | _ => _) = _
  generalize env[i]? = s
  cases s with
  | none => rfl
  | some s =>
    cases s with
    | ow k d => cases k <;> rfl
    | _ => rfl
def freeK : Option Sl → Bool
  | some .no => true
  | some (.fz _) => true
  | some (.ow .fr _) => true
  | _ => false
theorem free_eq (env : Env) (i : Nat) : free env i = freeK env[i]? := by
  unfold free
  generalize env[i]? = s
  cases s with
  | none => rfl
  | some s =>
    cases s with
    | ow k d => cases k <;> rfl
    | _ => rfl
theorem freeK_no : freeK (some .no) = true := rfl
theorem freeK_fz (d : D) : freeK (some (.fz d)) = true := rfl
theorem freeK_ow (d : D) : freeK (some (.ow .fr d)) = true := rfl
def ownK : Option Sl → Option (Kd × List D)
  | some (.ow .fr (.list ds)) => some (.fr, ds)
  | some (.ow .pn (.list ds)) => some (.pn, ds)
  | _ => none
theorem ownL_eq (env : Env) (i : Nat) : ownL env i = ownK env[i]? := by
  unfold ownL
  generalize env[i]? = s
  cases s with
  | none => rfl
  | some s =>
    cases s with
    | ow k d => cases k <;> cases d <;> rfl
    | _ => rfl
theorem ownK_fr (ds : List D) : ownK (some (.ow .fr (.list ds))) = some (.fr, ds) := rfl
theorem ownK_pn (ds : List D) : ownK (some (.ow .pn (.list ds))) = some (.pn, ds) := rfl
theorem datas_nil (env : Env) : datas env [] = some [] := rfl
def consD : Res D → Option (List D) → Option (List D)
  | .ok d, some ds => some (d :: ds)
  | _, _ => none
theorem consD_ok (d : D) (ds : List D) : consD (.ok d) (some ds) = some (d :: ds) := rfl
theorem datas_cons' (env : Env) (r : Rv) (rs : List Rv) : datas env (r :: rs) = consD (r.data env) (datas env rs) := by
  rw [datas_cons]
  cases r.data env with
  | ok d => cases datas env rs <;> rfl
  | _ => rfl
theorem asB_b (b : Bool) : asB (.bool b) = some b := rfl
theorem asI_i (i : Int) : asI (.int i) = some (some i) := rfl
/-! ### calls -/
def argK : Option Sl → Option Sl
  | some (.fz d) => some (.fz d)
  | some (.ow .fr d) => some (.ow .pn d)
  | some (.ow .pn d) => some (.ow .pn d)
  | _ => none
theorem argSl_d (env : Env) (d : D) : argSl env (.d d) = some (.fz d) := rfl
theorem argSl_s (env : Env) (i : Nat) : argSl env (.s i) = argK env[i]? := by
  show (match env[i]? with | some (.fz d) => _ | some (.ow .fr d) => _ | some (.ow .pn d) => _ | _ => _) = _
  generalize env[i]? = s
  cases s with
  | none => rfl
  | some s =>
    cases s with
    | ow k d => cases k <;> rfl
    | _ => rfl
def argL : Option Sl → Option Sl
  | some (.fz d) => some (.fz d)
  | some (.ow _ d) => some (.ow .lk d)
  | _ => none
theorem argSl_l (env : Env) (i : Nat) : argSl env (.l i) = argL env[i]? := by
  show (match env[i]? with | some (.fz d) => _ | some (.ow _ d) => _ | _ => _) = _
  generalize env[i]? = s
  cases s with
  | none => rfl
  | some s => cases s <;> rfl
theorem argL_fz (d : D) : argL (some (.fz d)) = some (.fz d) := rfl
theorem argL_ow (k : Kd) (d : D) : argL (some (.ow k d)) = some (.ow .lk d) := rfl
theorem argK_fz (d : D) : argK (some (.fz d)) = some (.fz d) := rfl
theorem argK_fr (d : D) : argK (some (.ow .fr d)) = some (.ow .pn d) := rfl
theorem argK_pn (d : D) : argK (some (.ow .pn d)) = some (.ow .pn d) := rfl
def consO : Option Sl → Option Env → Option Env
  | some s, some r => some (s :: r)
  | _, _ => none
theorem consO_some (s : Sl) (r : Env) : consO (some s) (some r) = some (s :: r) := rfl
theorem mkArgs_nil (env : Env) : mkArgs env [] = some [] := rfl
theorem mkArgs_cons (env : Env) (a : AV) (as : List AV) : mkArgs env (a :: as) = consO (argSl env a) (mkArgs env as) := by
  show (match argSl env a, mkArgs env as with | some s, some r => some (s :: r) | _, _ => none) = _
  cases argSl env a <;> cases mkArgs env as <;> rfl
theorem slotsOf_nil : slotsOf [] = [] := rfl
theorem slotsOf_d (d : D) (as : List AV) : slotsOf (.d d :: as) = slotsOf as := rfl
theorem slotsOf_l (i : Nat) (as : List AV) : slotsOf (.l i :: as) = i :: slotsOf as := rfl
theorem slotsOf_s (i : Nat) (as : List AV) : slotsOf (.s i :: as) = i :: slotsOf as := rfl
theorem noDup_nil : noDup [] = true := rfl
theorem noDup_one (i : Nat) : noDup [i] = true := rfl
theorem noDup_two (i j : Nat) : noDup [i, j] = !(i == j) := by
  by_cases h : i = j
  · subst h; simp [noDup]
  · simp [noDup, h]
def putK (i : Nat) : Option Sl → Sl → Env → Env
  | some (.ow k _), .ow _ d, env => env.set i (.ow k d)
  | _, _, env => env
theorem putK_ow (i : Nat) (k k1 : Kd) (d0 d : D) (env : Env) : putK i (some (.ow k d0)) (.ow k1 d) env = env.set i (.ow k d) := rfl
theorem putK_fz (i : Nat) (d : D) (t : Sl) (env : Env) : putK i (some (.fz d)) t env = env := rfl
theorem putBack_nil (ts env : Env) : putBack [] ts env = env := by unfold putBack; rfl
theorem putBack_d (d : D) (as : List AV) (t : Sl) (ts env : Env) : putBack (.d d :: as) (t :: ts) env = putBack as ts env := by
  show (putBack (.d d :: as) (t :: ts) env) = _
  rw [putBack]
theorem putBack_s (i : Nat) (as : List AV) (t : Sl) (ts env : Env) : putBack (.s i :: as) (t :: ts) env = putK i env[i]? t (putBack as ts env) := by
  cases h : env[i]? with
  | none => simp [putBack, h, putK]
  | some s => cases s <;> cases t <;> simp [putBack, h, putK]
theorem putBack_l (i : Nat) (as : List AV) (t : Sl) (ts env : Env) : putBack (.l i :: as) (t :: ts) env = putK i env[i]? t (putBack as ts env) := by
  cases h : env[i]? with
  | none => simp [putBack, h, putK]
  | some s => cases s <;> cases t <;> simp [putBack, h, putK]
theorem outEnv_nil (e : Env) : outEnv [] e = [] := rfl
theorem outEnv_fz (d : D) (r : Env) (t : Sl) (u : Env) : outEnv (.fz d :: r) (t :: u) = .fz d :: outEnv r u := rfl
theorem outEnv_ow (k : Kd) (d : D) (r : Env) (t : Sl) (u : Env) : outEnv (.ow k d :: r) (t :: u) = t :: outEnv r u := rfl
theorem finR_val (env e : Env) (d : D) : finR env e (.val d) = .ok (.val d, outEnv env e) := rfl
theorem finR_new (env e : Env) (d : D) : finR env e (.new d) = .ok (.new d, outEnv env e) := rfl
def finK (env e : Env) : Option Sl → Res (Rv × Env)
  | some (.fz d) => .ok (.val d, outEnv env e)
  | some (.ow .fr d) => .ok (.new d, outEnv env e)
  | _ => .stuck
theorem finR_sl (env e : Env) (i : Nat) : finR env e (.sl i) = finK env e e[i]? := by
  show (match e[i]? with | some (.fz d) => _ | some (.ow .fr d) => _ | _ => _) = _
  generalize e[i]? = s
  cases s with
  | none => rfl
  | some s =>
    cases s with
    | ow k d => cases k <;> rfl
    | _ => rfl
theorem finK_fz (env e : Env) (d : D) : finK env e (some (.fz d)) = .ok (.val d, outEnv env e) := rfl
theorem finK_ow (env e : Env) (d : D) : finK env e (some (.ow .fr d)) = .ok (.new d, outEnv env e) := rfl
theorem finQ_nx (env e : Env) (Q : Rv × Env → Prop) : finQ env Q (.nx, e) = (env.length ≤ e.length ∧ Q (.val .none, outEnv env e)) := rfl
theorem finQ_rt (env e : Env) (r : Rv) (Q : Rv × Env → Prop) : finQ env Q (.rt r, e) = (env.length ≤ e.length ∧ Ev (finR env e r) Q) := rfl
theorem Ev_defI {np nl : Nat} {m : MS} {env : Env} {Q : Rv × Env → Prop} (h1 : env.length = np ∧ env.all argOk = true) (h2 : Ev (m (env ++ List.replicate (nl - np) .no)) (finQ env Q)) : Ev (mDef np nl m env) Q := by
  rw [ev_def]; exact ⟨h1, h2⟩
/-! ### walks -/
theorem lockR_val (d : D) (env : Env) : lockR (.val d) env = .ok ((d, none), env) := rfl
theorem lockR_new (d : D) (env : Env) : lockR (.new d) env = .ok ((d, none), env) := rfl
def lokK (j : Nat) (env : Env) : Option Sl → Res ((D × Option Nat) × Env)
  | some (.fz d) => .ok ((d, none), env)
  | some (.ow .fr d) => .ok ((d, some j), env.set j (.ow .lk d))
  | some (.ow .lk d) => .ok ((d, none), env)
  | _ => .stuck
theorem lockR_sl (j : Nat) (env : Env) : lockR (.sl j) env = lokK j env env[j]? := by
  show (match env[j]? with | some (.fz d) => _ | some (.ow .fr d) => _ | some (.ow .lk d) => _ | _ => _) = _
  generalize env[j]? = s
  cases s with
  | none => rfl
  | some s =>
    cases s with
    | ow k d => cases k <;> rfl
    | _ => rfl
theorem lokK_fz (j : Nat) (env : Env) (d : D) : lokK j env (some (.fz d)) = .ok ((d, none), env) := rfl
theorem lokK_fr (j : Nat) (env : Env) (d : D) : lokK j env (some (.ow .fr d)) = .ok ((d, some j), env.set j (.ow .lk d)) := rfl
theorem lokK_lk (j : Nat) (env : Env) (d : D) : lokK j env (some (.ow .lk d)) = .ok ((d, none), env) := rfl
theorem lockB_none (env : Env) : lockB none env = true := rfl
def lokB : Option Sl → Bool
  | some (.ow k _) => k == .fr
  | _ => true
theorem lockB_some (j : Nat) (env : Env) : lockB (some j) env = lokB env[j]? := by
  unfold lockB
  simp only
  generalize env[j]? = s
  cases s with
  | none => rfl
  | some s =>
    cases s with
    | ow k d => cases k <;> rfl
    | _ => rfl
theorem lokB_no : lokB (some .no) = true := rfl
theorem lokB_fz (d : D) : lokB (some (.fz d)) = true := rfl
theorem lokB_fr (d : D) : lokB (some (.ow .fr d)) = true := rfl
def lobK : Option Sl → Bool
  | some (.ow .fr _) => true
  | some (.ow _ _) => false
  | _ => true
theorem unlock_none (env : Env) : unlock none env = env := rfl
def unlK (j : Nat) (env : Env) : Option Sl → Env
  | some (.ow .lk d) => env.set j (.ow .fr d)
  | _ => env
theorem unlock_some (j : Nat) (env : Env) : unlock (some j) env = unlK j env env[j]? := by
  show (match env[j]? with | some (.ow .lk d) => _ | _ => _) = _
  generalize env[j]? = s
  cases s with
  | none => rfl
  | some s =>
    cases s with
    | ow k d => cases k <;> rfl
    | _ => rfl
theorem unlK_lk (j : Nat) (env : Env) (d : D) : unlK j env (some (.ow .lk d)) = env.set j (.ow .fr d) := rfl
theorem optR_map_some {β : Type} (f : α → β) (a : α) : optR ((some a).map f) = .ok (f a) := rfl
theorem optR_map_if {β : Type} {c : Prop} [Decidable c] (f : α → β) (a : α) : optR ((if c then some a else none).map f) = if c then .ok (f a) else .stuck := by split <;> rfl
theorem wipeE_nil (env : Env) : wipeE env [] = env := rfl
theorem wipeE_cons (env : Env) (v : Nat) (vs : List Nat) : wipeE env (v :: vs) = (wipeE env vs).set v .no := rfl
theorem backE_nil (o env : Env) : backE o env [] = env := rfl
theorem backE_cons (o env : Env) (v : Nat) (vs : List Nat) : backE o env (v :: vs) = (backE o env vs).set v (o.getD v .no) := rfl
def plaK : Option Sl → Bool
  | some .no => true
  | some (.fz _) => true
  | _ => false
theorem plainAt_eq (env : Env) (v : Nat) : plainAt env v = plaK env[v]? := by
  unfold plainAt
  generalize env[v]? = s
  cases s with
  | none => rfl
  | some s => cases s <;> rfl
theorem plaK_no : plaK (some .no) = true := rfl
theorem plaK_fz (d : D) : plaK (some (.fz d)) = true := rfl
theorem tgm_nm (i : Nat) : Tg.m (.nm i) = mName i := by simp only [Tg.m]
theorem tgm_tp (l : List Tg) : Tg.m (.tp l) = mTupG (Tg.ms l) := by simp only [Tg.m]
theorem tgms_nil : Tg.ms [] = [] := by simp only [Tg.ms]
theorem tgms_cons (t : Tg) (l : List Tg) : Tg.ms (t :: l) = Tg.m t :: Tg.ms l := by simp only [Tg.ms]
/-! ### operators on ints and texts -/
theorem dLt_i (i j : Int) : dLt (.int i) (.int j) = some (.val (.bool (decide (i < j)))) := rfl
theorem dLe_i (i j : Int) : dLe (.int i) (.int j) = some (.val (.bool (decide (i ≤ j)))) := rfl
theorem dGt_i (i j : Int) : dGt (.int i) (.int j) = some (.val (.bool (decide (j < i)))) := rfl
theorem dGe_i (i j : Int) : dGe (.int i) (.int j) = some (.val (.bool (decide (j ≤ i)))) := rfl
theorem dLt_s (i j : Str) : dLt (.str i) (.str j) = some (.val (.bool (ltS i j))) := rfl
theorem dLe_s (i j : Str) : dLe (.str i) (.str j) = some (.val (.bool (!ltS j i))) := rfl
theorem dGt_s (i j : Str) : dGt (.str i) (.str j) = some (.val (.bool (ltS j i))) := rfl
theorem dGe_s (i j : Str) : dGe (.str i) (.str j) = some (.val (.bool (!ltS i j))) := rfl
theorem okD_int (i : Int) : okD (.int i) = true := by unfold okD; simp only [PyData.hasDict, PyData.depth]; rfl
theorem okD_str (x : Str) : okD (.str x) = true := by unfold okD; simp only [PyData.hasDict, PyData.depth]; rfl
theorem okD_bool (b : Bool) : okD (.bool b) = true := by unfold okD; simp only [PyData.hasDict, PyData.depth]; rfl
theorem okD_none : okD .none = true := by unfold okD; simp only [PyData.hasDict, PyData.depth]; rfl
theorem dMax2_i (i j : Int) : dMax2 [.int i, .int j] = some (.val (.int (if j > i then j else i))) := rfl
theorem dMin2_i (i j : Int) : dMin2 [.int i, .int j] = some (.val (.int (if j < i then j else i))) := rfl
theorem atD3_0 (a b c : D) : atD [a, b, c] 0 = some a := rfl
theorem atD3_1 (a b c : D) : atD [a, b, c] 1 = some b := rfl
theorem atD3_2 (a b c : D) : atD [a, b, c] 2 = some c := rfl
theorem ixN3_0 : ixN 3 0 = some 0 := rfl
theorem ixN3_1 : ixN 3 1 = some 1 := rfl
theorem ixN3_2 : ixN 3 2 = some 2 := rfl
theorem isStrD_s (x : Str) : isStrD (.str x) = true := rfl
theorem ite_and {c p : Prop} [Decidable c] : (if c then p else False) = (c ∧ p) := by
  by_cases h : c <;> simp [h]
theorem rangeD_len (lo : Int) (n : Nat) : (rangeD lo n).length = n := by simp [rangeD]
theorem atD2_0 (a b : D) : atD [a, b] 0 = some a := rfl
theorem atD2_1 (a b : D) : atD [a, b] 1 = some b := rfl
theorem atD1_0 (a : D) : atD [a] 0 = some a := rfl
end DL
section
open PySem PySem.Spec L2
local macro_rules
  | `(tactic| simp_arith [$xs,*]) => `(tactic| simp only [$xs,*, ↓DL.Ev_eq, ↓DL.iV_ok, ↓DL.iV_bind, ↓DL.iV_stuck, ↓DL.iV_ite, ↓DL.iV_bindN, ↓DL.iV_some, ↓DL.iV_none, ↓DL.iV_oifG, ↓DL.iV_gif, ↓DL.iv_c, ↓DL.iv_bin, ↓DL.iv_un, ↓DL.iv_test, ↓DL.iv_and, ↓DL.iv_or, ↓DL.iv_not, ↓DL.iv_val, ↓DL.iv_if, ↓DL.iv_yes, ↓DL.iv_ds_nil, ↓DL.iv_ds_cons, ↓DL.iv_rs_nil, ↓DL.iv_rs_cons, ↓DL.iv_list, ↓DL.iv_tup, ↓DL.iv_callB, ↓DL.iv_part, ↓DL.iv_nopart, ↓DL.iv_sl, ↓DL.iv_meth, ↓DL.iv_repr, ↓DL.iv_rne, ↓DL.iv_req, ↓DL.iv_chain, ↓DL.iv_pass, ↓DL.iv_break, ↓DL.iv_cont, ↓DL.iv_never, ↓DL.iv_seq, ↓DL.iv_ret, ↓DL.iv_retN, ↓DL.iv_ifS, ↓DL.iv_drop, ↓DL.iv_asg, ↓DL.iv_name_val, ↓DL.iv_name_new, ↓DL.iv_name_sl, ↓DL.iv_tupG, ↓DL.iv_asg_nil, ↓DL.iv_asg_cons, ↓DL.iv_setIx, ↓DL.iv_append, ↓DL.iv_aug, ↓DL.iv_as_nil, ↓DL.iv_as_t, ↓DL.iv_as_f, ↓DL.iv_as_l, ↓DL.iv_callF, ↓DL.iv_callK, ↓DL.iv_range, ↓DL.iv_iter, ↓DL.iv_for, ↓DL.iv_lc, ↓DL.iv_par, ↓DL.iv_hs_nil, ↓DL.iv_hs_cons, ↓DL.iv_listS, ↓DL.iv_ss_nil, ↓DL.iv_ss_one, ↓DL.iv_ss_star, ↓DL.iv_enum, ↓DL.iv_make, ↓DL.iv_prop, ↓DL.iv_fldS, ↓DL.iv_pop, ↓DL.iv_popAt, ↓DL.iv_extend, ↓DL.iv_augIx, DL.iV_ok, DL.iV_bind, DL.iV_stuck, DL.iV_ite, DL.iV_bindN, DL.iV_some, DL.iV_none, DL.iV_oifG, DL.iV_gif, DL.iv_c, DL.iv_bin, DL.iv_un, DL.iv_test, DL.iv_and, DL.iv_or, DL.iv_not, DL.iv_val, DL.iv_if, DL.iv_yes, DL.iv_ds_nil, DL.iv_ds_cons, DL.iv_rs_nil, DL.iv_rs_cons, DL.iv_list, DL.iv_tup, DL.iv_callB, DL.iv_part, DL.iv_nopart, DL.iv_sl, DL.iv_meth, DL.iv_repr, DL.iv_rne, DL.iv_req, DL.iv_chain, DL.iv_pass, DL.iv_break, DL.iv_cont, DL.iv_never, DL.iv_seq, DL.iv_ret, DL.iv_retN, DL.iv_ifS, DL.iv_drop, DL.iv_asg, DL.iv_name_val, DL.iv_name_new, DL.iv_name_sl, DL.iv_tupG, DL.iv_asg_nil, DL.iv_asg_cons, DL.iv_setIx, DL.iv_append, DL.iv_aug, DL.iv_as_nil, DL.iv_as_t, DL.iv_as_f, DL.iv_as_l, DL.iv_callF, DL.iv_callK, DL.iv_range, DL.iv_iter, DL.iv_for, DL.iv_lc, DL.iv_par, DL.iv_hs_nil, DL.iv_hs_cons, DL.iv_listS, DL.iv_ss_nil, DL.iv_ss_one, DL.iv_ss_star, DL.iv_enum, DL.iv_make, DL.iv_prop, DL.iv_fldS, DL.iv_pop, DL.iv_popAt, DL.iv_extend, DL.iv_augIx, DL.seqK_nx, DL.seqK_bk, DL.seqK_ct, DL.seqK_rt, DL.tupK_tup, DL.asgK_nx, DL.setN_some, DL.setK_some, DL.appK_some, DL.augS_some, DL.augK_fz, DL.asK_sl, DL.asL_sl, DL.asL_val, DL.backK_val, DL.backK_new, DL.callA_some, DL.backN_val, DL.backN_new, DL.rngK_some, DL.optR_some, DL.optR_if, DL.itK_some, DL.chK_b, DL.turnQ_nx, DL.turnQ_ct, DL.turnQ_bk, DL.turnQ_rt, DL.varK_fz, DL.varK_ow, DL.mVar_eq, DL.mC_eq, DL.data_val, DL.data_new, DL.datK_fz, DL.datK_ow, DL.data_sl, DL.frz_val, DL.frz_new, DL.frzK_fz, DL.frzK_ow, DL.frz_sl, DL.freeK_no, DL.freeK_fz, DL.freeK_ow, DL.free_eq, DL.ownL_eq, DL.ownK_fr, DL.ownK_pn, DL.datas_nil, DL.consD_ok, DL.datas_cons', DL.asB_b, DL.asI_i, DL.argSl_d, DL.argSl_s, DL.argSl_l, DL.argL_fz, DL.argL_ow, DL.argK_fz, DL.argK_fr, DL.argK_pn, DL.consO_some, DL.mkArgs_nil, DL.mkArgs_cons, DL.slotsOf_nil, DL.slotsOf_d, DL.slotsOf_s, DL.slotsOf_l, DL.noDup_nil, DL.noDup_one, DL.noDup_two, DL.putK_ow, DL.putK_fz, DL.putBack_nil, DL.putBack_d, DL.putBack_s, DL.putBack_l, DL.outEnv_nil, DL.outEnv_fz, DL.outEnv_ow, DL.finR_val, DL.finR_new, DL.finR_sl, DL.finK_fz, DL.finK_ow, DL.finQ_nx, DL.finQ_rt, DL.lockR_val, DL.lockR_new, DL.lockR_sl, DL.lokK_fz, DL.lokK_fr, DL.lokK_lk, DL.lockB_none, DL.lockB_some, DL.lokB_no, DL.lokB_fz, DL.lokB_fr, DL.unlock_none, DL.unlock_some, DL.unlK_lk, DL.optR_map_some, DL.optR_map_if, DL.wipeE_nil, DL.wipeE_cons, DL.backE_nil, DL.backE_cons, DL.plainAt_eq, DL.plaK_no, DL.plaK_fz, DL.tgm_nm, DL.tgm_tp, DL.tgms_nil, DL.tgms_cons, DL.dLt_i, DL.dLe_i, DL.dGt_i, DL.dGe_i, DL.dLt_s, DL.dLe_s, DL.dGt_s, DL.dGe_s, DL.okD_int, DL.okD_str, DL.okD_bool, DL.okD_none, DL.dMax2_i, DL.dMin2_i, DL.atD3_0, DL.atD3_1, DL.atD3_2, DL.ixN3_0, DL.ixN3_1, DL.ixN3_2, DL.dAdd, DL.dSub, DL.dDiv, DL.dMod, DL.dPow, DL.dMul, DL.dNeg, DL.dAbs, DL.dInt, DL.dLen, DL.dIs, DL.dIsNot, DL.dIAdd, DL.isNon, DL.dIx, DL.dSl, DL.dRev, DL.itemsD, List.getElem?_cons_zero, List.getElem?_cons_succ, List.getElem?_nil, List.set_cons_zero, List.set_cons_succ, List.set_nil, List.map_cons, List.map_nil, List.length_cons, List.length_nil, List.getD_cons_zero, List.getD_cons_succ, List.all_cons, List.all_nil, List.cons_append, List.nil_append, Option.isSome_some, Option.map_some, Option.map_none, true_and, and_true, Bool.and_true, Bool.true_and, Bool.not_true, Bool.not_false, if_true, if_false, ite_true, ite_false, decide_eq_true_eq, Bool.not_eq_true, Bool.not_eq_true', decide_eq_false_iff_not, not_true, not_false_iff, DL.rngOf1, DL.rngOf2, DL.seqR_some, DL.enumR_some, DL.mkK_ok, DL.prK_val, DL.prK_new, DL.fldR_some, DL.fldS_fr, DL.fldS_pn, DL.popK_some, DL.popR_some, DL.popAK_some, DL.popAR_some, DL.extK_some, DL.augM_some, DL.augN_int, DL.augJ_some, DL.augI_int, DL.seqD, DL.hold_val, DL.hold_new, DL.hold_sl, DL.slOf_val, DL.slOf_new, DL.storeHs_nil, DL.storeHs_cons, DL.isStrD_s, DL.atD2_0, DL.atD2_1, DL.atD1_0, DL.ite_and, and_false, false_and, or_false, false_or, or_true, true_or, reduceIte, reduceCtorEq, List.reduceReplicate, Nat.reduceSub, Nat.reduceAdd, Nat.reduceLeDiff, Int.reduceLT, Int.reduceLE, Int.reduceEq, Int.reduceMod, Int.reduceDiv, Int.reduceMul, Int.reduceAdd, Int.reduceSub, Int.reduceNeg, Int.reduceToNat, Bool.false_eq_true, DL.lineM])
namespace DL
open PySem PySem.Spec L2
noncomputable def B_law_pool : MS := (mSeq (mAsg (mC (.int 0)) (mName 2))
  (mSeq (mIfS (mTest (mBin dLt (mVar 1) (mCallB dLen [(mVar 0)]))) (mAsg (mBin dIx (mVar 0) (mVar 1)) (mName 2)) mPass)
  (mRet (mList [(mCallB dMax2 [(mC (.int 0)), (mBin dSub (mCallB dAbs [(mVar 2)]) (mBin dPow (mC (.int 10)) (mC (.int 18))))]), (mBin dAdd (mBin dMod (mCallB dInt [(mVar 2)]) (mC (.int 2305843009213693951))) (mBin dMul (mC (.int 7368787)) (mBin dAdd (mVar 1) (mC (.int 1))))), (mC (.int 0))]))))
noncomputable def M_law_pool : FM := mDef 2 3 B_law_pool

noncomputable def B_law_draw : MS := (mSeq (mIfS (mTest (mBin dGt (mBin dIx (mVar 0) (mC (.int 0))) (mC (.int 0)))) (mSeq (mAsg (mBin dMod (mCallB dInt [(mBin dIx (mVar 0) (mC (.int 0)))]) (mVar 1)) (mName 2))
  (mSeq (mSetIx 0 (mBin dDiv (mBin dIx (mVar 0) (mC (.int 0))) (mVar 1)) (mC (.int 0)))
  (mRet (mVar 2)))) mPass)
  (mSeq (mSetIx 0 (mBin dAdd (mBin dIx (mVar 0) (mC (.int 2))) (mC (.int 1))) (mC (.int 2)))
  (mSeq (mAsg (mBin dMod (mCallB dInt [(mBin dPow (mBin dAdd (mBin dIx (mVar 0) (mC (.int 1))) (mBin dMul (mC (.int 15485863)) (mBin dIx (mVar 0) (mC (.int 2))))) (mC (.int 3)))]) (mC (.int 162259276829213363391578010288127))) (mName 3))
  (mSeq (mAsg (mBin dMod (mCallB dInt [(mBin dPow (mBin dAdd (mVar 3) (mBin dMul (mC (.int 32452843)) (mBin dIx (mVar 0) (mC (.int 2))))) (mC (.int 3)))]) (mC (.int 170141183460469231731687303715884105727))) (mName 3))
  (mRet (mBin dMod (mCallB dInt [(mBin dDiv (mVar 3) (mC (.int 1048576)))]) (mVar 1)))))))
noncomputable def M_law_draw : FM := mDef 2 4 B_law_draw

noncomputable def B_law_line_k36 : MS := (mSeq (mAsg (mBin dIx (mList [(mC (.str "a")), (mC (.str "ab")), (mC (.str "ab")), (mC (.str "abcdefghijklmnopqrstuvwxyz"))]) (mCallF M_law_draw [.p, .c] [(mVar 0), (mC (.int 4))])) (mName 2))
  (mSeq (mAsg (mBin dIx (mList [(mBin dAdd (mC (.int 1)) (mCallF M_law_draw [.p, .c] [(mVar 0), (mC (.int 4))])), (mBin dAdd (mC (.int 1)) (mCallF M_law_draw [.p, .c] [(mVar 0), (mC (.int 20))])), (mBin dAdd (mC (.int 1)) (mCallF M_law_draw [.p, .l] [(mVar 0), (mVar 1)]))]) (mCallF M_law_draw [.p, .c] [(mVar 0), (mC (.int 3))])) (mName 3))
  (mSeq (mAsg (mMeth dJoin isStrD (mC (.str "")) [(mLc (mRange rngOf1 [(mVar 3)]) (Tg.m (.nm 5)) mYes (mBin dIx (mVar 2) (mCallF M_law_draw [.p, .c] [(mVar 0), (mCallB dLen [(mVar 2)])])) [5])]) (mName 4))
  (mSeq (mAsg (mBin dMul (mVar 4) (mBin dAdd (mC (.int 1)) (mCallF M_law_draw [.p, .c] [(mVar 0), (mBin dDiv (mVar 1) (mCallB dLen [(mVar 4)]))]))) (mName 4))
  (mSeq (mIfS (mTest (mBin dEq (mCallF M_law_draw [.p, .c] [(mVar 0), (mC (.int 5))]) (mC (.int 0)))) (mSeq (mAsg (mCallF M_law_draw [.p, .c] [(mVar 0), (mCallB dLen [(mVar 4)])]) (mName 6))
  (mAsg (mBin dAdd (mBin dAdd (mSl dSl (mVar 4) mNoPart (mPart (mVar 6))) (mC (.str "b"))) (mSl dSl (mVar 4) (mPart (mBin dAdd (mVar 6) (mC (.int 1)))) mNoPart)) (mName 4))) mPass)
  (mRet (mVar 4)))))))
noncomputable def M_law_line_k36 : FM := mDef 2 7 B_law_line_k36

noncomputable def B_law_root : MS := (mSeq (mFor (mRange rngOf2 [(mC (.int 1)), (mBin dAdd (mCallB dLen [(mVar 0)]) (mC (.int 1)))]) (mName 1) (mIfS (mAnd (mTest (mBin dEq (mBin dMod (mCallB dLen [(mVar 0)]) (mVar 1)) (mC (.int 0)))) (mTest (mBin dEq (mBin dMul (mSl dSl (mVar 0) mNoPart (mPart (mVar 1))) (mBin dDiv (mCallB dLen [(mVar 0)]) (mVar 1))) (mVar 0)))) (mRet (mSl dSl (mVar 0) mNoPart (mPart (mVar 1)))) mPass))
  (mRet (mC (.str ""))))
noncomputable def M_law_root : FM := mDef 1 2 B_law_root

noncomputable def B_is_row : MS := (mRet (mCallB dAll [(mLc (mIter (mVar 0)) (Tg.m (.nm 1)) mYes (mBin dIn (mVar 1) (mC (.str "abcdefghijklmnopqrstuvwxyz"))) [1])]))
noncomputable def M_is_row : FM := mDef 1 2 B_is_row

noncomputable def B_check_text : MS := (mIfS (mNot (mTest (mCallF M_is_row [.l] [(mVar 0)]))) (mRaise "InvalidText" (mVar 0)) mPass)
noncomputable def M_check_text : FM := mDef 1 1 B_check_text

noncomputable def B_root_of : MS := (mSeq (mAsg (mC (.int 1)) (mName 1))
  (mSeq (mWhile (mOr (mTest (mBin dGt (mBin dMod (mCallB dLen [(mVar 0)]) (mVar 1)) (mC (.int 0)))) (mTest (mBin dNe (mBin dMul (mSl dSl (mVar 0) mNoPart (mPart (mVar 1))) (mBin dDiv (mCallB dLen [(mVar 0)]) (mVar 1))) (mVar 0)))) (mAug 1 dIAdd (mC (.int 1))))
  (mRet (mSl dSl (mVar 0) mNoPart (mPart (mVar 1))))))
noncomputable def M_root_of : FM := mDef 1 2 B_root_of

noncomputable def B_root : MS := (mSeq (mIfS (mTest (mBin dEq (mVar 0) (mC (.str "")))) (mRaise "InvalidText" (mVar 0)) mPass)
  (mSeq (mDrop (mCallF M_check_text [.c] [(mVar 0)]))
  (mRet (mTup [(mCallF M_root_of [.l] [(mVar 0)]), (mBin dDiv (mCallB dLen [(mVar 0)]) (mCallB dLen [(mCallF M_root_of [.l] [(mVar 0)])]))]))))
noncomputable def M_root : FM := mDef 1 1 B_root

noncomputable def B_law_right_k36 : MS := (mSeq (mAsg (mCallF M_law_line_k36 [.p, .c] [(mVar 0), (mBin dIx (mList [(mC (.int 20)), (mC (.int 400))]) (mCallF M_law_draw [.p, .c] [(mVar 0), (mC (.int 2))]))]) (mName 1))
  (mSeq (mAsg (mCallF M_law_root [.c] [(mVar 1)]) (mName 2))
  (mSeq (mAsg (mTup [(mVar 2), (mBin dDiv (mCallB dLen [(mVar 1)]) (mCallB dLen [(mVar 2)]))]) (mName 3))
  (mSeq (mIfS (mTest (mRNe (mRepr (mList [(mCallF M_root [.c] [(mVar 1)]), (mCallK M_root [0] 0 1 [] [(mVar 1)])])) (mRepr (mList [(mVar 3), (mVar 3)])))) (mRet (mC (.bool false))) mPass)
  (mSeq (mAsg (mBin dAdd (mC (.int 1)) (mCallF M_law_draw [.p, .c] [(mVar 0), (mCallB dMax2 [(mC (.int 1)), (mBin dDiv (mC (.int 400)) (mCallB dLen [(mVar 2)]))])])) (mName 4))
  (mSeq (mIfS (mOr (mTest (mBin dNe (mCallF M_root [.c] [(mBin dMul (mVar 2) (mVar 4))]) (mTup [(mVar 2), (mVar 4)]))) (mTest (mBin dNe (mCallF M_root [.c] [(mVar 2)]) (mTup [(mVar 2), (mC (.int 1))])))) (mRet (mC (.bool false))) mPass)
  (mSeq (mAsg (mCallF M_law_draw [.p, .c] [(mVar 0), (mCallB dLen [(mVar 1)])]) (mName 5))
  (mSeq (mAsg (mCallF M_root [.c] [(mBin dAdd (mSl dSl (mVar 1) (mPart (mVar 5)) mNoPart) (mSl dSl (mVar 1) mNoPart (mPart (mVar 5))))]) (mName 6))
  (mSeq (mAsg (mBin dMod (mVar 5) (mCallB dLen [(mVar 2)])) (mName 7))
  (mRet (mVal (mAnd (mTest (mBin dEq (mVar 6) (mTup [(mBin dAdd (mSl dSl (mVar 2) (mPart (mVar 7)) mNoPart) (mSl dSl (mVar 2) mNoPart (mPart (mVar 7)))), (mBin dIx (mVar 3) (mC (.int 1)))]))) (mTest (mBin dEq (mCallF M_root [.c] [(mUn dRev (mVar 1))]) (mTup [(mUn dRev (mVar 2)), (mBin dIx (mVar 3) (mC (.int 1)))])))))))))))))))
noncomputable def M_law_right_k36 : FM := mDef 1 8 B_law_right_k36

noncomputable def B_law_k36 : MS := (mSeq (mFor (mRange rngOf1 [(mCallB dMax2 [(mC (.int 1)), (mCallB dMin2 [(mC (.int 5)), (mCallB dLen [(mVar 0)])])])]) (mName 1) (mSeq (mAsg (mCallF M_law_pool [.l, .c] [(mVar 0), (mVar 1)]) (mName 2))
  (mFor (mRange rngOf1 [(mC (.int 10))]) (mName 3) (mIfS (mNot (mTest (mCallF M_law_right_k36 [.p] [(mVar 2)]))) (mRet (mC (.bool false))) mPass))))
  (mRet (mC (.bool true))))
noncomputable def M_law_k36 : FM := mDef 1 4 B_law_k36
end DL
namespace DL
open PySem PySem.Spec L2
noncomputable def B_law_pair_k38 : MS := (mSeq (mAsg (mCallF M_law_line_k36 [.p, .c] [(mVar 0), (mBin dIx (mList [(mC (.int 60)), (mC (.int 400))]) (mCallF M_law_draw [.p, .c] [(mVar 0), (mC (.int 2))]))]) (mName 1))
  (mSeq (mPar [2, 3] [(mCallF M_law_root [.c] [(mVar 1)]), (mCallF M_law_draw [.p, .c] [(mVar 0), (mC (.int 6))])])
  (mSeq (mIfS (mTest (mBin dLt (mVar 3) (mC (.int 2)))) (mRet (mTup [(mVar 1), (mBin dMul (mVar 2) (mBin dAdd (mC (.int 1)) (mCallF M_law_draw [.p, .c] [(mVar 0), (mBin dDiv (mC (.int 400)) (mCallB dLen [(mVar 2)]))])))])) mPass)
  (mSeq (mIfS (mTest (mBin dEq (mVar 3) (mC (.int 2)))) (mRet (mTup [(mVar 1), (mSl dSl (mVar 1) mNoPart (mPart (mBin dAdd (mC (.int 1)) (mCallF M_law_draw [.p, .c] [(mVar 0), (mCallB dLen [(mVar 1)])]))))])) mPass)
  (mSeq (mIfS (mTest (mBin dEq (mVar 3) (mC (.int 3)))) (mRet (mTup [(mVar 1), (mSl dSl (mBin dAdd (mVar 1) (mSl dSl (mVar 2) mNoPart (mPart (mCallF M_law_draw [.p, .c] [(mVar 0), (mBin dAdd (mCallB dLen [(mVar 2)]) (mC (.int 1)))])))) mNoPart (mPart (mC (.int 400))))])) mPass)
  (mRet (mTup [(mVar 1), (mBin dIx (mList [(mC (.str "")), (mCallF M_law_line_k36 [.p, .c] [(mVar 0), (mC (.int 400))])]) (mCallF M_law_draw [.p, .c] [(mVar 0), (mC (.int 2))]))])))))))
noncomputable def M_law_pair_k38 : FM := mDef 1 4 B_law_pair_k38

noncomputable def B_commute : MS := (mSeq (mDrop (mCallF M_check_text [.c] [(mVar 0)]))
  (mSeq (mDrop (mCallF M_check_text [.c] [(mVar 1)]))
  (mRet (mBin dEq (mBin dAdd (mVar 0) (mVar 1)) (mBin dAdd (mVar 1) (mVar 0))))))
noncomputable def M_commute : FM := mDef 2 2 B_commute

noncomputable def B_law_right_k38 : MS := (mSeq (mAsg (mCallF M_law_pair_k38 [.p] [(mVar 0)]) (mTupG [(mName 1), (mName 2)]))
  (mSeq (mAsg (mBin dEq (mBin dAdd (mVar 1) (mVar 2)) (mBin dAdd (mVar 2) (mVar 1))) (mName 3))
  (mSeq (mAsg (mList [(mCallF M_commute [.c, .c] [(mVar 1), (mVar 2)]), (mCallF M_commute [.c, .c] [(mVar 2), (mVar 1)]), (mCallK M_commute [1, 0] 0 2 [] [(mVar 2), (mVar 1)])]) (mName 4))
  (mSeq (mIfS (mOr (mTest (mRNe (mRepr (mVar 4)) (mRepr (mBin dMul (mList [(mVar 3)]) (mC (.int 3)))))) (mOr (mTest (mBin dIsNot (mCallF M_commute [.c, .c] [(mVar 1), (mVar 1)]) (mC (.bool true)))) (mTest (mBin dIsNot (mCallF M_commute [.c, .c] [(mC (.str "")), (mC (.str ""))]) (mC (.bool true)))))) (mRet (mC (.bool false))) mPass)
  (mSeq (mIfS (mTest (mBin dEq (mVar 2) (mC (.str "")))) (mRet (mVar 3)) mPass)
  (mRet (mVal (mAnd (mTest (mBin dEq (mVar 3) (mBin dEq (mBin dIx (mCallF M_root [.c] [(mVar 1)]) (mC (.int 0))) (mBin dIx (mCallF M_root [.c] [(mVar 2)]) (mC (.int 0)))))) (mTest (mBin dEq (mVar 3) (mBin dEq (mCallF M_law_root [.c] [(mVar 1)]) (mCallF M_law_root [.c] [(mVar 2)]))))))))))))
noncomputable def M_law_right_k38 : FM := mDef 1 5 B_law_right_k38

noncomputable def B_law_k38 : MS := (mSeq (mFor (mRange rngOf1 [(mCallB dMax2 [(mC (.int 1)), (mCallB dMin2 [(mC (.int 5)), (mCallB dLen [(mVar 0)])])])]) (mName 1) (mSeq (mAsg (mCallF M_law_pool [.l, .c] [(mVar 0), (mVar 1)]) (mName 2))
  (mFor (mRange rngOf1 [(mC (.int 12))]) (mName 3) (mIfS (mNot (mTest (mCallF M_law_right_k38 [.p] [(mVar 2)]))) (mRet (mC (.bool false))) mPass))))
  (mRet (mC (.bool true))))
noncomputable def M_law_k38 : FM := mDef 1 4 B_law_k38
end DL
namespace DL
open PySem PySem.Spec L2
noncomputable def B_law_bent_k37 : MS := (mSeq (mPar [2, 3] [(mCallF M_law_draw [.p, .c] [(mVar 0), (mBin dAdd (mCallB dLen [(mVar 1)]) (mC (.int 1)))]), (mList [(mC (.str " ")), (mC (.str "A")), (mC (.str "0")), (mC (.str "-")), (mC (.str "~")), (mC (.str "Z")), (mC (.str "?")), (mC (.str "{")), (mC (.str "`")), (mC (.str ".")), (mC (.str "|"))])])
  (mRet (mBin dAdd (mBin dAdd (mSl dSl (mVar 1) mNoPart (mPart (mVar 2))) (mBin dIx (mVar 3) (mCallF M_law_draw [.p, .c] [(mVar 0), (mC (.int 11))]))) (mSl dSl (mVar 1) (mPart (mVar 2)) mNoPart))))
noncomputable def M_law_bent_k37 : FM := mDef 2 4 B_law_bent_k37

noncomputable def B_law_flags_k34 : MS := (mSeq (mAsg (mUn (dIsXT ["InvalidReading", "InvalidWord", "NotApart", "NotOneWay", "NothingToUndo", "TooMany", "Unreadable"]) (mVar 0)) (mName 1))
  (mSeq (mAsg (mList [(mUn (dIsX "InvalidNumber") (mVar 0)), (mUn (dIsX "InvalidText") (mVar 0)), (mVal (mOr (mTest (mVar 1)) (mTest (mVal (mNot (mTest (mUn (dIsX "ValueError") (mVar 0))))))))]) (mName 2))
  (mRet (mBin dAdd (mVar 2) (mList [(mUn dXv (mVar 0))])))))
noncomputable def M_law_flags_k34 : FM := mDef 1 3 B_law_flags_k34

noncomputable def B_law_caught_k37 : MS := (mSeq (mAsg (mC .none) (mName 3))
  (mSeq (mTry (mIfS (mTest (mBin dEq (mVar 0) (mC (.int 0)))) (mDrop (mCallF M_root [.c] [(mVar 1)])) (mIfS (mTest (mBin dEq (mVar 0) (mC (.int 1)))) (mDrop (mCallK M_root [0] 0 1 [] [(mVar 1)])) (mIfS (mTest (mBin dEq (mVar 0) (mC (.int 2)))) (mDrop (mCallF M_commute [.c, .c] [(mVar 1), (mVar 2)])) (mDrop (mCallK M_commute [1, 0] 0 2 [] [(mVar 2), (mVar 1)]))))) [("WordError", some 4, (mAsg (mCallF M_law_flags_k34 [.c] [(mVar 4)]) (mName 3)))])
  (mRet (mVar 3))))
noncomputable def M_law_caught_k37 : FM := mDef 3 5 B_law_caught_k37

noncomputable def B_law_right_k37 : MS := (mSeq (mAsg (mTup [(mCallF M_law_line_k36 [.p, .c] [(mVar 0), (mC (.int 60))]), (mCallF M_law_line_k36 [.p, .c] [(mVar 0), (mC (.int 60))])]) (mTupG [(mName 1), (mName 2)]))
  (mSeq (mAsg (mTup [(mCallF M_law_bent_k37 [.p, .c] [(mVar 0), (mVar 1)]), (mCallF M_law_bent_k37 [.p, .c] [(mVar 0), (mVar 2)])]) (mTupG [(mName 3), (mName 4)]))
  (mSeq (mAsg (mList [(mC (.bool false)), (mC (.bool true)), (mC (.bool false)), (mVar 3)]) (mName 5))
  (mSeq (mIfS (mTest (mRNe (mRepr (mLc (mRange rngOf1 [(mC (.int 4))]) (Tg.m (.nm 6)) mYes (mCallF M_law_caught_k37 [.c, .c, .c] [(mVar 6), (mVar 3), (mVar 2)]) [6])) (mRepr (mBin dMul (mList [(mVar 5)]) (mC (.int 4)))))) (mRet (mC (.bool false))) mPass)
  (mSeq (mIfS (mTest (mRNe (mRepr (mLc (mIter (mTup [(mC (.int 2)), (mC (.int 3))])) (Tg.m (.nm 6)) mYes (mCallF M_law_caught_k37 [.c, .c, .c] [(mVar 6), (mVar 3), (mVar 4)]) [6])) (mRepr (mBin dMul (mList [(mVar 5)]) (mC (.int 2)))))) (mRet (mC (.bool false))) mPass)
  (mSeq (mAsg (mList [(mC (.bool false)), (mC (.bool true)), (mC (.bool false)), (mVar 4)]) (mName 5))
  (mSeq (mFor (mIter (mTup [(mVar 1), (mC (.str ""))])) (mName 7) (mIfS (mTest (mRNe (mRepr (mLc (mIter (mTup [(mC (.int 2)), (mC (.int 3))])) (Tg.m (.nm 6)) mYes (mCallF M_law_caught_k37 [.c, .c, .c] [(mVar 6), (mVar 7), (mVar 4)]) [6])) (mRepr (mBin dMul (mList [(mVar 5)]) (mC (.int 2)))))) (mRet (mC (.bool false))) mPass))
  (mSeq (mAsg (mList [(mC (.bool false)), (mC (.bool true)), (mC (.bool false)), (mC (.str ""))]) (mName 5))
  (mSeq (mIfS (mTest (mRNe (mRepr (mLc (mRange rngOf1 [(mC (.int 4))]) (Tg.m (.nm 6)) mYes (mCallF M_law_caught_k37 [.c, .c, .c] [(mVar 6), (mC (.str "")), (mVar 2)]) [6])) (mRepr (mList [(mVar 5), (mVar 5), (mC .none), (mC .none)])))) (mRet (mC (.bool false))) mPass)
  (mSeq (mAsg (mBin dAdd (mLc (mRange rngOf1 [(mC (.int 4))]) (Tg.m (.nm 6)) mYes (mCallF M_law_caught_k37 [.c, .c, .c] [(mVar 6), (mVar 1), (mVar 2)]) [6]) (mLc (mRange rngOf1 [(mC (.int 4))]) (Tg.m (.nm 6)) mYes (mCallF M_law_caught_k37 [.c, .c, .c] [(mVar 6), (mVar 1), (mC (.str ""))]) [6])) (mName 8))
  (mRet (mBin dEq (mBin dAdd (mVar 8) (mList [(mCallF M_law_caught_k37 [.c, .c, .c] [(mC (.int 2)), (mC (.str "")), (mC (.str ""))]), (mCallF M_law_caught_k37 [.c, .c, .c] [(mC (.int 3)), (mC (.str "")), (mC (.str ""))])])) (mBin dMul (mList [(mC .none)]) (mC (.int 10)))))))))))))))
noncomputable def M_law_right_k37 : FM := mDef 1 9 B_law_right_k37

noncomputable def B_law_k37 : MS := (mSeq (mFor (mRange rngOf1 [(mCallB dMax2 [(mC (.int 1)), (mCallB dMin2 [(mC (.int 5)), (mCallB dLen [(mVar 0)])])])]) (mName 1) (mSeq (mAsg (mCallF M_law_pool [.l, .c] [(mVar 0), (mVar 1)]) (mName 2))
  (mFor (mRange rngOf1 [(mC (.int 8))]) (mName 3) (mIfS (mNot (mTest (mCallF M_law_right_k37 [.p] [(mVar 2)]))) (mRet (mC (.bool false))) mPass))))
  (mRet (mC (.bool true))))
noncomputable def M_law_k37 : FM := mDef 1 4 B_law_k37
end DL
namespace DL
open PySem PySem.Spec L2

/-- a pool that has been drawn from at most n times -/
def Pl (n : Nat) (p : D) : Prop := ∃ a b c : Int, p = .list [.int a, .int b, .int c] ∧ 0 ≤ b ∧ b < 2 ^ 64 ∧ 0 ≤ c ∧ c ≤ n
theorem Pl.mono {n m : Nat} {p : D} (h : Pl n p) (k : n ≤ m) : Pl m p := by
  obtain ⟨a, b, c, h1, h2, h3, h4, h5⟩ := h
  exact ⟨a, b, c, h1, h2, h3, h4, by omega⟩
theorem log_lt {x : Int} {k : Nat} (h0 : 0 ≤ x) (h : x < 2 ^ k) : x.natAbs.log2 < k + 1 := by
  by_cases hz : x.natAbs = 0
  · rw [hz]; exact Nat.lt_of_le_of_lt (Nat.le_of_eq (by decide)) (Nat.succ_pos k)
  · have : x.natAbs < 2 ^ k := by
      have h2 : (x.natAbs : Int) = x := by omega
      have : (x.natAbs : Int) < (2 ^ k : Nat) := by rw [h2]; simpa using h
      exact_mod_cast this
    have := (Nat.log2_lt hz).mpr this
    omega
theorem log_nat {n : Nat} (h : n < 1000000) : (n : Int).natAbs.log2 < 9000 := by
  have := log_lt (x := (n : Int)) (k := 20) (by omega) (by omega)
  omega
theorem log_int {n : Int} (h0 : 0 ≤ n) (h : n < 1000000) : n.natAbs.log2 < 9000 := by
  have := log_lt (x := n) (k := 20) (by omega) (by omega)
  omega
theorem mod_rng {x s : Int} (hs : 0 < s) : 0 ≤ x % s ∧ x % s < s := ⟨Int.emod_nonneg _ (by omega), Int.emod_lt_of_pos _ hs⟩
theorem pow3_ok {x : Int} {k : Nat} (h0 : 0 ≤ x) (h : x < 2 ^ k) (hk : k ≤ 1000) : CPowD x 3 := by
  have := log_lt h0 h
  refine ⟨by decide, ?_⟩
  omega
theorem ev_draw {p : D} {n : Nat} {s : Int} {Q : Rv × Env → Prop} (hp : Pl n p) (hn : n < 2 ^ 60) (hs : 0 < s) (hl : s < 2 ^ 250)
    (k : ∀ r p', 0 ≤ r → r < s → Pl (n + 1) p' → Q (.val (.int r), [.ow .pn p', .fz (.int s)])) : Ev (M_law_draw [.ow .pn p, .fz (.int s)]) Q := by
  obtain ⟨a, b, c, rfl, hb0, hb1, hc0, hc1⟩ := hp
  refine Ev_defI ⟨rfl, rfl⟩ ?_
  unfold B_law_draw
  simp_arith [Ev_eq]
  have e1 : s.natAbs.log2 < 9000 := Nat.lt_of_lt_of_le (log_lt (by omega) hl) (by decide)
  by_cases ha : 0 < a
  · rw [if_pos ha]
    obtain ⟨h1, h2⟩ := mod_rng (x := a) hs
    exact ⟨hs, ⟨hs, e1⟩, k _ _ h1 h2 ⟨_, _, _, rfl, hb0, hb1, hc0, by omega⟩⟩
  · rw [if_neg ha]
    have hc : c + 1 < 2 ^ 61 := by omega
    have l1 : (c + 1).natAbs.log2 < 62 := log_lt (by omega) hc
    obtain ⟨m1, m2⟩ := mod_rng (x := (b + 15485863 * (c + 1)) ^ 3) (s := 162259276829213363391578010288127) (by decide)
    have c1 : CPowD (b + 15485863 * (c + 1)) 3 := pow3_ok (k := 200) (by omega) (by omega) (by decide)
    have c2 : CPowD ((b + 15485863 * (c + 1)) ^ 3 % 162259276829213363391578010288127 + 32452843 * (c + 1)) 3 := pow3_ok (k := 200) (by omega) (by omega) (by decide)
    obtain ⟨h1, h2⟩ := mod_rng (x := ((b + 15485863 * (c + 1)) ^ 3 % 162259276829213363391578010288127 + 32452843 * (c + 1)) ^ 3 % 170141183460469231731687303715884105727 / 1048576) hs
    have q1 : (Int.natAbs 15485863).log2 = 23 := by decide +kernel
    have q2 : (Int.natAbs 32452843).log2 = 24 := by decide +kernel
    have q3 : (Int.natAbs 1048576).log2 = 20 := by decide +kernel
    rw [q1, q2, q3]
    exact ⟨by omega, c1, by omega, c2, by omega, hs, k _ _ h1 h2 ⟨_, _, _, rfl, hb0, hb1, by omega, by omega⟩⟩
theorem ixN_ok {n : Nat} {i : Int} (h0 : 0 ≤ i) (h : i < n) : ixN n i = some i.toNat := by
  unfold ixN
  rw [if_pos h0, if_pos h]
theorem atD_get {ds : List D} {i : Int} (h0 : 0 ≤ i) (h : i < ds.length) : atD ds i = ds[i.toNat]? := by
  unfold atD
  rw [ixN_ok h0 h]
  rfl
theorem atD_int {ns : List Int} {i : Int} (h0 : 0 ≤ i) (h : i < ns.length) : ∃ x, atD (ns.map .int) i = some (.int x) := by
  rw [atD_get h0 (by simpa using h)]
  have : i.toNat < ns.length := by omega
  exact ⟨ns[i.toNat], by simp [List.getElem?_map, this]⟩
theorem ev_pool {ns : List Int} {i : Int} {Q : Rv × Env → Prop} (h0 : 0 ≤ i) (hi : i < 1000) (k : ∀ p, Pl 0 p → Q (.new p, [.fz (roD (ns.map .int)), .fz (.int i)])) : Ev (M_law_pool [.fz (roD (ns.map .int)), .fz (.int i)]) Q := by
  refine Ev_defI ⟨rfl, rfl⟩ ?_
  unfold B_law_pool roD
  simp_arith [Ev_eq]
  have q1 : (Int.natAbs 7368787).log2 = 22 := by decide +kernel
  have l1 : (i + 1).natAbs.log2 < 11 := log_lt (k := 10) (by omega) (by omega)
  have c1 : CPowD 10 18 := by decide +kernel
  by_cases hl : i < ↑(List.map PyData.int ns).length
  · rw [if_pos hl]
    obtain ⟨x, hx⟩ := atD_int (ns := ns) h0 (by simpa using hl)
    rw [hx]
    simp_arith [Ev_eq]
    rw [q1]
    obtain ⟨m1, m2⟩ := mod_rng (x := x) (s := 2305843009213693951) (by decide)
    exact ⟨c1, by omega, k _ ⟨_, _, _, rfl, by omega, by omega, by omega, by omega⟩⟩
  · rw [if_neg hl, q1]
    exact ⟨c1, by omega, k _ ⟨_, _, _, rfl, by omega, by omega, by omega, by omega⟩⟩
theorem atD_mem {ds : List D} {i : Int} (h0 : 0 ≤ i) (h : i < ds.length) : ∃ d, d ∈ ds ∧ atD ds i = some d := by
  have : i.toNat < ds.length := by omega
  exact ⟨ds[i.toNat], List.getElem_mem this, by rw [atD_get h0 h]; simp [this]⟩
theorem atI_get {α : Type} {l : List α} {i : Int} (h0 : 0 ≤ i) (h : i < l.length) : atI l i = l[i.toNat]? := by
  unfold atI
  rw [ixN_ok h0 h]
  rfl
theorem atI_mem {α : Type} {l : List α} {i : Int} (h0 : 0 ≤ i) (h : i < l.length) : ∃ c, c ∈ l ∧ atI l i = some c := by
  have : i.toNat < l.length := by omega
  exact ⟨l[i.toNat], List.getElem_mem this, by rw [atI_get h0 h]; simp [this]⟩
theorem ev_at {ds : List D} {i : Int} {env : Env} {Q : Rv × Env → Prop} (h0 : 0 ≤ i) (h : i < ds.length) (k : ∀ d ∈ ds, Q (.val d, env)) : Ev (orStuck (Option.map Rv.val (atD ds i)) env) Q := by
  obtain ⟨d, h1, h2⟩ := atD_mem h0 h
  rw [h2]
  exact k d h1
theorem ev_atS {l : List Nat} {i : Int} {env : Env} {Q : Rv × Env → Prop} (h0 : 0 ≤ i) (h : i < l.length) (k : ∀ c ∈ l, Q (.val (.str (signS c)), env)) : Ev (orStuck (Option.map (fun c => Rv.val (PyData.str (signS c))) (atI l i)) env) Q := by
  obtain ⟨d, h1, h2⟩ := atI_mem h0 h
  rw [h2]
  exact k d h1
theorem rangeD_zero (lo : Int) : rangeD lo 0 = [] := rfl
theorem rangeD_succ (lo : Int) (n : Nat) : rangeD lo (n + 1) = .int lo :: rangeD (lo + 1) n := by
  unfold rangeD
  rw [List.range_succ_eq_map, List.map_cons, List.map_map]
  congr 1
  · simp
  · apply List.map_congr_left
    intro a _
    show PyData.int (lo + ((a + 1 : Nat) : Int)) = .int (lo + 1 + (a : Int))
    congr 1; omega
/-- a loop over a range -/
theorem ev_forR {i : Nat} {b : MS} {Q : Fl × Env → Prop} (J : Int → Env → Prop) (hi : Int) (hs : ∀ x env, x < hi → J x env → Ev (mName i (.val (.int x)) env) fun z => Ev (seqK b z) (turnQ (J (x + 1)) Q)) (he : ∀ env, J hi env → Q (.nx, env)) :
    ∀ (n : Nat) (lo : Int) (env : Env), lo + n = hi → J lo env → Ev (mForL (mName i) b (rangeD lo n) env) Q := by
  intro n lo env hn hj
  refine ev_forL (name_nx i) (fun rest env => ∃ (lo : Int) (n : Nat), rest = rangeD lo n ∧ lo + n = hi ∧ J lo env) ?_ ?_ _ _ ⟨lo, n, rfl, hn, hj⟩
  · rintro d ds env ⟨lo, n, e, h1, h2⟩
    cases n with
    | zero => rw [rangeD_zero] at e; cases e
    | succ n =>
      rw [rangeD_succ] at e
      cases e
      refine (hs lo env (by omega) h2).mono fun z hz => hz.mono fun y hy => ?_
      obtain ⟨f, e⟩ := y
      cases f with
      | nx => exact ⟨lo + 1, n, rfl, by omega, hy⟩
      | ct => exact ⟨lo + 1, n, rfl, by omega, hy⟩
      | bk => exact hy
      | rt r => exact hy
  · rintro env ⟨lo, n, e, h1, h2⟩
    cases n with
    | zero => exact he env (by rw [← h1]; simpa using h2)
    | succ n => rw [rangeD_succ] at e; cases e
/-- a comprehension that makes g d of each item and leaves all else -/
theorem ev_lc_pure {gm : MG} {tt : MT} {f : ME} {vs : List Nat} {Q : List D × Env → Prop} {ds : List D} {env0 : Env} (g : D → D) (hg : ∀ d env, Ev (gm (.val d) env) (fun z => z.1 = .nx) ∨ gm (.val d) env = .stuck) (hl : ds.length ≤ 16777216)
    (hs : ∀ d ∈ ds, Ev (gm (.val d) env0) fun z => Ev (tt z.2) fun y => y.1 = true ∧ Ev (f y.2) fun x => Ev (x.1.frz x.2) fun u => u.1 = g d ∧ wipeE u.2 vs = env0) (k : Q (ds.map g, env0)) : Ev (mLcL gm tt f vs ds [] env0) Q := by
  refine ev_lcL (fun rest acc env => env = env0 ∧ acc ++ rest.map g = ds.map g ∧ ∀ d ∈ rest, d ∈ ds) hg ?_ ?_ _ _ _ ⟨rfl, rfl, fun _ h => h⟩
  · rintro d rest acc env ⟨rfl, h1, h2⟩
    refine (hs d (h2 d (by simp))).mono fun z hz => hz.mono fun y hy => ?_
    rw [if_pos hy.1]
    refine hy.2.mono fun x hx => hx.mono fun u hu => ?_
    have hlen : acc.length + (rest.length + 1) = ds.length := by
      have := congrArg List.length h1
      simpa using this
    refine ⟨by unfold lineM; omega, hu.2, ?_, fun d' hd' => h2 d' (List.mem_cons_of_mem _ hd')⟩
    rw [← h1, hu.1]; simp
  · rintro acc env ⟨rfl, h1, _⟩
    have h1 : acc = ds.map g := by simpa using h1
    rw [h1]; exact k
end DL
namespace DL
open PySem PySem.Spec L2

/-- a text by its code points -/
def S (l : List Nat) : Str := ⟨l.toArray⟩
theorem S_inj {l m : List Nat} : S l = S m ↔ l = m := by
  constructor
  · intro h
    have := congrArg (fun x : Str => x.cps.toList) h
    simpa [S] using this
  · intro h; rw [h]
theorem S_cps (l : List Nat) : (S l).cps.toList = l := by simp [S]
theorem S_of (x : Str) : x = S x.cps.toList := by cases x; simp [S]
theorem S_len (l : List Nat) : (S l).length = l.length := by show l.toArray.size = _; simp
theorem S_app (l m : List Nat) : S l ++ S m = S (l ++ m) := by
  show (⟨l.toArray ++ m.toArray⟩ : Str) = _
  unfold S; congr 1; simp
theorem S_rep (l : List Nat) (n : Nat) : repS (S l) n = S (List.replicate n l).flatten := by unfold repS; rw [S_cps]; rfl
theorem S_rev (l : List Nat) : revS (S l) = S l.reverse := by unfold revS; rw [S_cps]; rfl
theorem S_sign (c : Nat) : signS c = S [c] := rfl
theorem S_cut (l : List Nat) (lo hi : Option Int) : cutS (S l) lo hi = S ((l.drop (HT.sIx l.length 0 lo)).take (HT.sIx l.length l.length hi - HT.sIx l.length 0 lo)) := by
  unfold cutS; rw [S_cps, S_len]; rfl
theorem sIx_nn {n d : Nat} {i : Int} (h : 0 ≤ i) : HT.sIx n d (some i) = min i.toNat n := by
  show (if i < 0 then _ else _) = _
  rw [if_neg (by omega)]
theorem cut_take (l : List Nat) {i : Int} (h : 0 ≤ i) : cutS (S l) none (some i) = S (l.take i.toNat) := by
  rw [S_cut, HT.sIx_none, sIx_nn h, List.drop_zero, Nat.sub_zero]
  congr 1
  rcases Nat.le_total i.toNat l.length with q | q
  · rw [Nat.min_eq_left q]
  · rw [Nat.min_eq_right q, List.take_of_length_le (Nat.le_refl _), List.take_of_length_le q]
theorem cut_drop (l : List Nat) {i : Int} (h : 0 ≤ i) : cutS (S l) (some i) none = S (l.drop i.toNat) := by
  rw [S_cut, HT.sIx_none, sIx_nn h]
  congr 1
  rcases Nat.le_total i.toNat l.length with q | q
  · rw [Nat.min_eq_left q, List.take_of_length_le (by simp)]
  · rw [Nat.min_eq_right q, Nat.sub_self, List.take_zero, List.drop_of_length_le q]
theorem cut_both (l : List Nat) {i j : Int} (h : 0 ≤ i) (k : 0 ≤ j) : cutS (S l) (some i) (some j) = S ((l.drop i.toNat).take (j.toNat - i.toNat)) := by
  rw [S_cut, sIx_nn h, sIx_nn k]
  congr 1
  rcases Nat.le_total i.toNat l.length with q | q
  · rw [Nat.min_eq_left q]
    rcases Nat.le_total j.toNat l.length with r | r
    · rw [Nat.min_eq_left r]
    · rw [Nat.min_eq_right r, List.take_of_length_le (by simp), List.take_of_length_le (by rw [List.length_drop]; omega)]
  · rw [Nat.min_eq_right q, List.drop_of_length_le (Nat.le_refl _), List.drop_of_length_le q]
    simp
theorem S_eqv (x y : Str) : PyData.eqv (.str x) (.str y) = decide (x = y) := by
  simp only [PyData.eqv]
  by_cases h : x = y
  · subst h; simp
  · simp [h]
theorem S_eqv' (l m : List Nat) : PyData.eqv (.str (S l)) (.str (S m)) = decide (l = m) := by
  rw [S_eqv]; by_cases h : l = m <;> simp [h, S_inj]
theorem I_eqv (i j : Int) : PyData.eqv (.int i) (.int j) = decide (i = j) := by
  simp only [PyData.eqv]
  by_cases h : i = j
  · subst h; simp
  · simp [h]
theorem dEq_s (l m : List Nat) : dEq (.str (S l)) (.str (S m)) = some (.val (.bool (decide (l = m)))) := by unfold dEq; rw [okD_str, okD_str, S_eqv']; rfl
theorem dNe_s (l m : List Nat) : dNe (.str (S l)) (.str (S m)) = some (.val (.bool (!decide (l = m)))) := by unfold dNe; rw [okD_str, okD_str, S_eqv']; rfl
theorem dEq_i (i j : Int) : dEq (.int i) (.int j) = some (.val (.bool (decide (i = j)))) := by unfold dEq; rw [okD_int, okD_int, I_eqv]; rfl
theorem dNe_i (i j : Int) : dNe (.int i) (.int j) = some (.val (.bool (!decide (i = j)))) := by unfold dNe; rw [okD_int, okD_int, I_eqv]; rfl
theorem dEq_b (i j : Bool) : dEq (.bool i) (.bool j) = some (.val (.bool (decide (i = j)))) := by
  unfold dEq; rw [okD_bool, okD_bool]
  cases i <;> cases j <;> simp [PyData.eqv]
theorem dNe_b (i j : Bool) : dNe (.bool i) (.bool j) = some (.val (.bool (!decide (i = j)))) := by
  unfold dNe; rw [okD_bool, okD_bool]
  cases i <;> cases j <;> simp [PyData.eqv]
/-- small letters alone -/
def Ltr (l : List Nat) : Prop := ∀ c ∈ l, 97 ≤ c ∧ c ≤ 122
theorem Ltr.app {x y : List Nat} (h : Ltr x) (k : Ltr y) : Ltr (x ++ y) := fun c hc => (List.mem_append.mp hc).elim (h c) (k c)
theorem Ltr.take {x : List Nat} (h : Ltr x) (n : Nat) : Ltr (x.take n) := fun c hc => h c (List.mem_of_mem_take hc)
theorem Ltr.drop {x : List Nat} (h : Ltr x) (n : Nat) : Ltr (x.drop n) := fun c hc => h c (List.mem_of_mem_drop hc)
theorem Ltr.rev {x : List Nat} (h : Ltr x) : Ltr x.reverse := fun c hc => h c (List.mem_reverse.mp hc)
theorem Ltr.rep {x : List Nat} (h : Ltr x) (n : Nat) : Ltr (List.replicate n x).flatten := fun c hc => by
  rw [List.mem_flatten] at hc
  obtain ⟨l, h1, h2⟩ := hc
  rw [List.mem_replicate] at h1
  rw [h1.2] at h2
  exact h c h2
theorem flat_len {α : Type} (l : List α) : ∀ n : Nat, ((List.replicate n l).flatten).length = n * l.length
  | 0 => by simp
  | n + 1 => by rw [List.replicate_succ, List.flatten_cons, List.length_append, flat_len l n, Nat.succ_mul, Nat.add_comm]
/-- texts run together -/
theorem join_S : ∀ ls : List (List Nat), Str.join (S []) (ls.map S) = S ls.flatten
  | [] => rfl
  | [x] => by show S x = _; simp
  | x :: y :: r => by
    show (S x ++ S []) ++ Str.join (S []) ((y :: r).map S) = _
    rw [join_S (y :: r), S_app, S_app]
    simp
theorem sumLen_S (ls : List (List Nat)) : sumLen (ls.map S) = ls.flatten.length := by
  unfold sumLen
  rw [List.map_map, List.length_flatten]
  congr 1
def strsD (ls : List (List Nat)) : List D := ls.map fun l => .str (S l)
theorem asStrs_S (ls : List (List Nat)) : asStrs (strsD ls) = some (ls.map S) := by
  have : strsD ls = (ls.map S).map .str := by unfold strsD; rw [List.map_map]; rfl
  rw [this, asStrs_map]
theorem dJoin_S (ls : List (List Nat)) (h : ls.flatten.length ≤ 16777216) : dJoin (.str (S [])) [.list (strsD ls)] = some (.val (.str (S ls.flatten))) := by
  show dJoin1 (S []) (strsD ls) = _
  unfold dJoin1
  rw [asStrs_S]
  dsimp only
  rw [sumLen_S, join_S, S_len, if_pos (by simpa using h)]
theorem flat_one : ∀ cs : List Nat, (cs.map fun c => [c]).flatten = cs
  | [] => rfl
  | c :: r => by rw [List.map_cons, List.flatten_cons, flat_one r]; rfl
theorem join_cs (cs : List Nat) (h : cs.length ≤ 16777216) : dJoin (.str (S [])) [.list (strsD (cs.map fun c => [c]))] = some (.val (.str (S cs))) := by
  rw [dJoin_S _ (by rw [flat_one]; exact h), flat_one]
theorem lit_nil : ("" : Str) = S [] := rfl
theorem itemsD_S (l : List Nat) : itemsD (.str (S l)) = some (l.map fun c => .str (S [c])) := by
  show some ((S l).cps.toList.map fun c => PyData.str (signS c)) = _
  rw [S_cps]; rfl
theorem mem1_S (c : Nat) (y : Str) : mem1 (S [c]) y = some (decide (c ∈ y.cps.toList)) := by
  unfold mem1; rw [S_cps]
theorem dIn_S (c : Nat) (l : List Nat) : dIn (.str (S [c])) (.str (S l)) = some (.val (.bool (decide (c ∈ l)))) := by
  show (mem1 (S [c]) (S l)).map (fun b => Rv.val (.bool b)) = _
  rw [mem1_S, S_cps]; rfl
end DL
namespace DL
open PySem PySem.Spec L2

/-! ### the least part whose power a text is -/
def Rt (l : List Nat) (d : Nat) : Prop := 0 < d ∧ l.length % d = 0 ∧ (List.replicate (l.length / d) (l.take d)).flatten = l
def Mn (l : List Nat) (d : Nat) : Prop := Rt l d ∧ ∀ e, Rt l e → d ≤ e
theorem least_of {P : Nat → Prop} : ∀ n, P n → ∃ d, P d ∧ ∀ e, P e → d ≤ e := by
  intro n
  induction n using Nat.strongRecOn with
  | ind n ih =>
    intro h
    by_cases q : ∃ m, m < n ∧ P m
    · obtain ⟨m, h1, h2⟩ := q; exact ih m h1 h2
    · exact ⟨n, h, fun e he => Nat.le_of_not_lt fun z => q ⟨e, z, he⟩⟩
theorem rt_self {l : List Nat} (h : 0 < l.length) : Rt l l.length := ⟨h, by simp, by simp [Nat.div_self h]⟩
theorem mn_ex {l : List Nat} (h : 0 < l.length) : ∃ d, Mn l d := least_of _ (rt_self h)
/-- the text run on for ever -/
def cy (l : List Nat) (i : Nat) : Nat := l.getD (i % l.length) 0
theorem cy_lt {l : List Nat} {i : Nat} (h : i < l.length) : cy l i = l.getD i 0 := by unfold cy; rw [Nat.mod_eq_of_lt h]
theorem ext_getD {l m : List Nat} (h : l.length = m.length) (k : ∀ i, i < l.length → l.getD i 0 = m.getD i 0) : l = m := by
  apply List.ext_getElem h
  intro i h1 h2
  have := k i h1
  simpa [List.getD_eq_getElem?_getD, h1, h2] using this
theorem flat_getD (m : List Nat) : ∀ (k i : Nat), i < k * m.length → ((List.replicate k m).flatten).getD i 0 = m.getD (i % m.length) 0
  | 0, i, h => by simp at h
  | k + 1, i, h => by
    rw [List.replicate_succ, List.flatten_cons]
    by_cases q : i < m.length
    · rw [Nat.mod_eq_of_lt q]
      simp [List.getD_eq_getElem?_getD, List.getElem?_append_left q]
    · have q : m.length ≤ i := by omega
      have e : i % m.length = (i - m.length) % m.length := by rw [← Nat.mod_eq_sub_mod q]
      rw [e, ← flat_getD m k (i - m.length) (by rw [Nat.succ_mul] at h; omega)]
      simp [List.getD_eq_getElem?_getD, List.getElem?_append_right q]
theorem take_getD {l : List Nat} {d i : Nat} (h : i < d) : (l.take d).getD i 0 = l.getD i 0 := by
  simp [List.getD_eq_getElem?_getD, List.getElem?_take, h]
theorem drop_getD {l : List Nat} {d i : Nat} : (l.drop d).getD i 0 = l.getD (d + i) 0 := by
  simp [List.getD_eq_getElem?_getD, List.getElem?_drop]
def Per (f : Nat → Nat) (d : Nat) : Prop := ∀ i, f (i + d) = f i
theorem Per.mul {f : Nat → Nat} {d : Nat} (h : Per f d) : ∀ k, Per f (d * k)
  | 0 => fun i => rfl
  | k + 1 => fun i => by
    have e : i + d * (k + 1) = (i + d * k) + d := by rw [Nat.mul_succ]; omega
    rw [e, h, Per.mul h k]
theorem Per.dvd {f : Nat → Nat} {d e : Nat} (h : Per f d) (k : d ∣ e) : Per f e := by
  obtain ⟨q, rfl⟩ := k; exact h.mul q
theorem Per.sub {f : Nat → Nat} {d e : Nat} (h : Per f d) (k : Per f e) (l : d ≤ e) : Per f (e - d) := fun i => by
  have := h (i + (e - d))
  rw [← this, show i + (e - d) + d = i + e by omega, k]
theorem Per.mod {f : Nat → Nat} {d e : Nat} (h : Per f d) (k : Per f e) : Per f (e % d) := by
  have e1 : e % d = e - d * (e / d) := by have := Nat.div_add_mod e d; omega
  rw [e1]
  exact (h.mul (e / d)).sub k (by have := Nat.div_add_mod e d; omega)
theorem Per.gcd {f : Nat → Nat} {d e : Nat} (h : Per f d) (k : Per f e) : Per f (Nat.gcd d e) := by
  induction d, e using Nat.gcd.induction with
  | H0 n => simpa using k
  | H1 m n hm ih => rw [Nat.gcd_rec]; exact ih (h.mod k) h
theorem per_len (l : List Nat) : Per (cy l) l.length := fun i => by unfold cy; rw [Nat.add_mod_right]
theorem Per.at_mod {f : Nat → Nat} {d : Nat} (h : Per f d) (i : Nat) : f (i % d) = f i := by
  have := h.mul (i / d) (i % d)
  rw [← this]; congr 1; exact Nat.mod_add_div i d
theorem cy_rep {m : List Nat} {k : Nat} (hk : 0 < k) (i : Nat) : cy (List.replicate k m).flatten i = cy m i := by
  by_cases hm : m.length = 0
  · have : m = [] := List.length_eq_zero_iff.mp hm
    subst this
    have : (List.replicate k ([] : List Nat)).flatten = [] := List.length_eq_zero_iff.mp (by rw [flat_len]; simp)
    rw [this]
  · have hm : 0 < m.length := by omega
    unfold cy
    rw [flat_len]
    rw [flat_getD m k _ (Nat.mod_lt _ (Nat.mul_pos hk hm)), Nat.mod_mul_left_mod]
theorem rt_iff {l : List Nat} {d : Nat} (hl : 0 < l.length) : Rt l d ↔ 0 < d ∧ d ∣ l.length ∧ Per (cy l) d := by
  constructor
  · rintro ⟨h1, h2, h3⟩
    have hd := Nat.dvd_of_mod_eq_zero h2
    refine ⟨h1, hd, ?_⟩
    have hk : 0 < l.length / d := Nat.div_pos (Nat.le_of_dvd hl hd) h1
    have e : ∀ i, cy l i = cy (l.take d) i := fun i => by
      conv => lhs; rw [← h3]
      exact cy_rep hk i
    have hlen : (l.take d).length = d := by rw [List.length_take]; exact Nat.min_eq_left (Nat.le_of_dvd hl hd)
    intro i
    rw [e, e]
    have := per_len (l.take d) i
    rwa [hlen] at this
  · rintro ⟨h1, h2, h3⟩
    have hdl := Nat.le_of_dvd hl h2
    have hlen : (l.take d).length = d := by rw [List.length_take]; exact Nat.min_eq_left hdl
    refine ⟨h1, Nat.mod_eq_zero_of_dvd h2, ?_⟩
    have hl2 : ((List.replicate (l.length / d) (l.take d)).flatten).length = l.length := by rw [flat_len, hlen, Nat.div_mul_cancel h2]
    apply ext_getD hl2
    intro i hi
    rw [flat_getD _ _ _ (by rw [flat_len] at hi; exact hi), hlen, take_getD (Nat.mod_lt _ h1)]
    rw [hl2] at hi
    rw [← cy_lt (Nat.lt_of_lt_of_le (Nat.mod_lt i h1) hdl), h3.at_mod, cy_lt hi]
theorem Mn.pos {l : List Nat} {d : Nat} (h : Mn l d) : 0 < d := h.1.1
theorem Mn.dvd {l : List Nat} {d : Nat} (h : Mn l d) : d ∣ l.length := Nat.dvd_of_mod_eq_zero h.1.2.1
theorem Mn.le {l : List Nat} {d : Nat} (h : Mn l d) (hl : 0 < l.length) : d ≤ l.length := Nat.le_of_dvd hl h.dvd
theorem Mn.per {l : List Nat} {d : Nat} (h : Mn l d) (hl : 0 < l.length) : Per (cy l) d := ((rt_iff hl).mp h.1).2.2
theorem Mn.strong {l : List Nat} {d e : Nat} (h : Mn l d) (hl : 0 < l.length) (he : 0 < e) (p : Per (cy l) e) : d ∣ e := by
  have g := (h.per hl).gcd p
  have g0 : 0 < Nat.gcd d e := Nat.gcd_pos_of_pos_left _ h.pos
  have := h.2 _ ((rt_iff hl).mpr ⟨g0, Nat.dvd_trans (Nat.gcd_dvd_left d e) h.dvd, g⟩)
  have e1 : Nat.gcd d e = d := Nat.le_antisymm (Nat.le_of_dvd h.pos (Nat.gcd_dvd_left d e)) this
  rw [← e1]; exact Nat.gcd_dvd_right d e
/-- a text with the same periods -/
theorem Mn.same {l m : List Nat} {d : Nat} (h : Mn l d) (hl : 0 < l.length) (hm : 0 < m.length) (hd : d ∣ m.length) (hp : ∀ e, Per (cy m) e ↔ Per (cy l) e) : Mn m d := by
  refine ⟨(rt_iff hm).mpr ⟨h.pos, hd, (hp d).mpr (h.per hl)⟩, fun e he => ?_⟩
  obtain ⟨h1, h2, h3⟩ := (rt_iff hm).mp he
  exact Nat.le_of_dvd h1 (h.strong hl h1 ((hp e).mp h3))
theorem Mn.rep {l : List Nat} {d n : Nat} (h : Mn l d) (hl : 0 < l.length) (hn : 0 < n) : Mn (List.replicate n (l.take d)).flatten d := by
  have hlen : (l.take d).length = d := by rw [List.length_take]; exact Nat.min_eq_left (h.le hl)
  have hd := h.pos
  have e : ∀ i, cy (List.replicate n (l.take d)).flatten i = cy l i := fun i => by
    rw [cy_rep hn]
    have hk : 0 < l.length / d := Nat.div_pos (h.le hl) hd
    conv => rhs; rw [← h.1.2.2]
    exact (cy_rep hk i).symm
  refine h.same hl ?_ ?_ fun e' => ?_
  · rw [flat_len, hlen]; exact Nat.mul_pos hn hd
  · rw [flat_len, hlen]; exact Nat.dvd_mul_left _ _
  · unfold Per; simp only [e]
theorem cy_rot {l : List Nat} {c : Nat} (hc : c ≤ l.length) (hl : 0 < l.length) (i : Nat) : cy (l.drop c ++ l.take c) i = cy l (i + c) := by
  have len : (l.drop c ++ l.take c).length = l.length := by simp; omega
  unfold cy
  rw [len]
  have hi := Nat.mod_lt i hl
  by_cases q : i % l.length < l.length - c
  · have e1 : (l.drop c ++ l.take c).getD (i % l.length) 0 = l.getD (c + i % l.length) 0 := by
      rw [← drop_getD]
      simp [List.getD_eq_getElem?_getD, List.getElem?_append_left (show i % l.length < (l.drop c).length by simpa using q)]
    rw [e1]
    congr 1
    rw [Nat.add_mod, Nat.mod_eq_of_lt (a := i % l.length + c % l.length)]
    · have : c < l.length := by omega
      rw [Nat.mod_eq_of_lt this]; omega
    · have : c < l.length := by omega
      rw [Nat.mod_eq_of_lt this]; omega
  · have e1 : (l.drop c ++ l.take c).getD (i % l.length) 0 = l.getD (i % l.length - (l.length - c)) 0 := by
      rw [← take_getD (l := l) (d := c) (show i % l.length - (l.length - c) < c by omega)]
      simp [List.getD_eq_getElem?_getD, List.getElem?_append_right (show (l.drop c).length ≤ i % l.length by simp; omega)]
    rw [e1]
    congr 1
    rw [← Nat.mod_add_mod]
    have : (i % l.length + c) % l.length = i % l.length + c - l.length := by
      rw [Nat.mod_eq_sub_mod (by omega), Nat.mod_eq_of_lt (by omega)]
    rw [this]; omega
theorem Mn.rot {l : List Nat} {d c : Nat} (h : Mn l d) (hl : 0 < l.length) (hc : c ≤ l.length) : Mn (l.drop c ++ l.take c) d := by
  have len : (l.drop c ++ l.take c).length = l.length := by simp; omega
  refine h.same hl (by rw [len]; exact hl) (by rw [len]; exact h.dvd) fun e => ?_
  unfold Per
  simp only [cy_rot hc hl]
  constructor
  · intro p i
    have b := (per_len l).mul c
    have hcl : c ≤ l.length * c := Nat.le_mul_of_pos_left c hl
    have := p (i + l.length * c - c)
    rw [show i + l.length * c - c + e + c = (i + e) + l.length * c by omega, show i + l.length * c - c + c = i + l.length * c by omega, b, b] at this
    exact this
  · intro p i
    rw [show i + e + c = (i + c) + e by omega]; exact p _
theorem Mn.rot_take {l : List Nat} {d c : Nat} (h : Mn l d) (hl : 0 < l.length) (hc : c ≤ l.length) : (l.drop c ++ l.take c).take d = (l.take d).drop (c % d) ++ (l.take d).take (c % d) := by
  have hd := h.pos
  have hdl := h.le hl
  have hlen : (l.take d).length = d := by rw [List.length_take]; exact Nat.min_eq_left hdl
  have len : (l.drop c ++ l.take c).length = l.length := by simp; omega
  have hm := Nat.mod_lt c hd
  apply ext_getD
  · simp; omega
  · intro i hi
    rw [List.length_take, len, Nat.min_eq_left hdl] at hi
    rw [take_getD hi, ← cy_lt (by rw [len]; omega), cy_rot hc hl]
    have len2 : ((l.take d).drop (c % d) ++ (l.take d).take (c % d)).length = d := by rw [List.length_append, List.length_drop, hlen, List.length_take, hlen]; omega
    rw [← cy_lt (l := (l.take d).drop (c % d) ++ (l.take d).take (c % d)) (by rw [len2]; exact hi), cy_rot (by omega) (by omega)]
    have e : ∀ j, cy (l.take d) j = cy l j := fun j => by
      have hk : 0 < l.length / d := Nat.div_pos hdl hd
      conv => rhs; rw [← h.1.2.2]
      exact (cy_rep hk j).symm
    rw [e]
    have p := h.per hl
    rw [← p.at_mod (i + c), ← p.at_mod (i + c % d), Nat.add_mod_mod]
theorem cy_rev {l : List Nat} (hl : 0 < l.length) {i k : Nat} (hi : i < l.length * k) : cy l.reverse i = cy l (l.length * k - 1 - i) := by
  unfold cy
  rw [List.length_reverse]
  have hm := Nat.mod_lt i hl
  have e1 : l.reverse.getD (i % l.length) 0 = l.getD (l.length - 1 - i % l.length) 0 := by
    simp [List.getD_eq_getElem?_getD, List.getElem?_reverse hm]
  rw [e1]
  congr 1
  have h1 := Nat.div_add_mod i l.length
  have hq : i / l.length < k := (Nat.div_lt_iff_lt_mul hl).mpr (by rw [Nat.mul_comm]; exact hi)
  have h2 : l.length * k = l.length * (i / l.length) + l.length * (k - 1 - i / l.length) + l.length := by
    rw [← Nat.mul_add, ← Nat.mul_succ]; congr 1; omega
  have h3 : l.length * k - 1 - i = (l.length - 1 - i % l.length) + l.length * (k - 1 - i / l.length) := by omega
  rw [h3, Nat.add_mul_mod_self_left, Nat.mod_eq_of_lt (a := l.length - 1 - i % l.length) (by omega)]
theorem per_rev {l : List Nat} (hl : 0 < l.length) {e : Nat} (p : Per (cy l) e) : Per (cy l.reverse) e := fun i => by
  have h1 : i + e < l.length * (i + e + 1) := Nat.lt_of_lt_of_le (Nat.lt_succ_self _) (Nat.le_mul_of_pos_left _ hl)
  rw [cy_rev hl h1, cy_rev hl (i := i) (k := i + e + 1) (by omega)]
  have := p (l.length * (i + e + 1) - 1 - (i + e))
  rw [← this]
  congr 1; omega
theorem Mn.rev {l : List Nat} {d : Nat} (h : Mn l d) (hl : 0 < l.length) : Mn l.reverse d := by
  refine h.same hl (by simpa using hl) (by simpa using h.dvd) fun e => ⟨fun p => ?_, per_rev hl⟩
  have := per_rev (l := l.reverse) (by simpa using hl) p
  rwa [List.reverse_reverse] at this
theorem Mn.rev_take {l : List Nat} {d : Nat} (h : Mn l d) (hl : 0 < l.length) : l.reverse.take d = (l.take d).reverse := by
  have hdl := h.le hl
  have e : l.drop (l.length - d) = l.take d := by
    apply ext_getD
    · simp; omega
    · intro i hi
      have hi : i < d := by simp at hi; omega
      rw [drop_getD, take_getD hi, ← cy_lt (show l.length - d + i < l.length by omega), ← cy_lt (show i < l.length by omega)]
      have p := (h.per hl).dvd (show d ∣ l.length - d from Nat.dvd_sub h.dvd (Nat.dvd_refl d))
      rw [Nat.add_comm]; exact p i
  rw [List.take_reverse, e]
end DL
namespace DL
open PySem PySem.Spec L2

/-- data that repr takes and that == takes -/
structure Sh (d : D) (k w : Nat) : Prop where
  sh : d.showable = true
  nd : d.hasDict = false
  dp : d.depth ≤ k
  wt : d.weight ≤ w
  cl : d.canLay0 = true
  is : d.intsShort 13 = true
structure ShL (ds : List D) (k w : Nat) : Prop where
  sh : PyData.showableAll ds = true
  nd : PyData.hasDictAll ds = false
  dp : PyData.depthAll ds ≤ k
  wt : PyData.weightAll ds ≤ w
  cl : PyData.canLayAll0 ds = true
  is : PyData.intsShortAll 13 ds = true
theorem Sh.mono {d : D} {k w j v : Nat} (h : Sh d k w) (h1 : k ≤ j) (h2 : w ≤ v) : Sh d j v := ⟨h.sh, h.nd, Nat.le_trans h.dp h1, Nat.le_trans h.wt h2, h.cl, h.is⟩
theorem ShL.mono {d : List D} {k w j v : Nat} (h : ShL d k w) (h1 : k ≤ j) (h2 : w ≤ v) : ShL d j v := ⟨h.sh, h.nd, Nat.le_trans h.dp h1, Nat.le_trans h.wt h2, h.cl, h.is⟩
theorem ShL.nil {k : Nat} : ShL [] k 0 := ⟨by simp only [PyData.showableAll], by simp only [PyData.hasDictAll], by simp only [PyData.depthAll]; omega, by simp only [PyData.weightAll]; omega, by simp only [PyData.canLayAll0], by simp only [PyData.intsShortAll]⟩
theorem ShL.cons {d : D} {ds : List D} {k w v : Nat} (h : Sh d k w) (r : ShL ds k v) : ShL (d :: ds) k (w + 1 + v) :=
  ⟨by simp only [PyData.showableAll, h.sh, r.sh]; rfl, by simp only [PyData.hasDictAll, h.nd, r.nd]; rfl, by simp only [PyData.depthAll]; have := h.dp; have := r.dp; omega, by simp only [PyData.weightAll]; have := h.wt; have := r.wt; omega, by simp only [PyData.canLayAll0, h.cl, r.cl]; rfl, by simp only [PyData.intsShortAll, h.is, r.is]; rfl⟩
theorem Sh.tuple {ds : List D} {k w : Nat} (h : ShL ds k w) : Sh (.tuple ds) (k + 1) w :=
  ⟨by simp only [PyData.showable, h.sh], by simp only [PyData.hasDict, h.nd], by simp only [PyData.depth]; have := h.dp; omega, by simp only [PyData.weight]; exact h.wt, by simp only [PyData.canLay0, h.cl], by simp only [PyData.intsShort, h.is]⟩
theorem Sh.list {ds : List D} {k w : Nat} (h : ShL ds k w) : Sh (.list ds) (k + 1) w :=
  ⟨by simp only [PyData.showable, h.sh], by simp only [PyData.hasDict, h.nd], by simp only [PyData.depth]; have := h.dp; omega, by simp only [PyData.weight]; exact h.wt, by simp only [PyData.canLay0, h.cl], by simp only [PyData.intsShort, h.is]⟩
theorem strOk_S {l : List Nat} (h : ∀ c ∈ l, c < 0x110000) : strOk (S l) = true := by rw [strOk_iff, S_cps]; exact h
theorem Ltr.ok {l : List Nat} (h : Ltr l) : ∀ c ∈ l, c < 0x110000 := fun c hc => by have := (h c hc).2; omega
theorem Sh.str {l : List Nat} {k : Nat} (h : ∀ c ∈ l, c < 0x110000) : Sh (.str (S l)) k l.length :=
  ⟨by simp only [PyData.showable], by simp only [PyData.hasDict], by simp only [PyData.depth]; omega, by simp only [PyData.weight]; exact Nat.le_of_eq (S_len l), by simp only [PyData.canLay0]; exact strOk_S h, by simp only [PyData.intsShort]⟩
theorem Sh.bool {b : Bool} {k w : Nat} : Sh (.bool b) k w :=
  ⟨by simp only [PyData.showable], by simp only [PyData.hasDict], by simp only [PyData.depth]; omega, by simp only [PyData.weight]; omega, by simp only [PyData.canLay0], by simp only [PyData.intsShort]⟩
theorem Sh.none {k w : Nat} : Sh .none k w :=
  ⟨by simp only [PyData.showable], by simp only [PyData.hasDict], by simp only [PyData.depth]; omega, by simp only [PyData.weight]; omega, by simp only [PyData.canLay0], by simp only [PyData.intsShort]⟩
theorem Sh.int {i : Int} {k : Nat} (h : i.natAbs < 10 ^ 12) : Sh (.int i) k 41 := by
  have hl : i.natAbs.log2 < 41 := by
    by_cases z : i.natAbs = 0
    · rw [z]; exact Nat.lt_of_le_of_lt (Nat.le_of_eq (by decide)) (by decide : 0 < 41)
    · exact (Nat.log2_lt z).mpr (Nat.lt_of_lt_of_le h (by decide))
  refine ⟨?_, by simp only [PyData.hasDict], by simp only [PyData.depth]; omega, ?_, by simp only [PyData.canLay0], ?_⟩
  · simp only [PyData.showable, decide_eq_true_eq]; omega
  · simp only [PyData.weight]; split <;> omega
  · simp only [PyData.intsShort, decide_eq_true_eq]; exact PyData.shown_int_le h
theorem Sh.okR {d : D} {k w : Nat} (h : Sh d k w) (hk : k ≤ 64) (hw : w ≤ 1048576) : okR d = true := by
  have l0 : PyData.layable0 d = true := by
    unfold PyData.layable0
    simp only [h.cl, Bool.true_and, Bool.and_eq_true, decide_eq_true_eq]
    exact ⟨Nat.le_trans h.dp hk, Nat.le_trans h.wt hw⟩
  have := PyData.shown_le_of_layable0 l0 h.is
  unfold DL.okR
  rw [h.sh, h.nd, decide_eq_true (Nat.le_trans h.dp hk), decide_eq_true (show d.shown.length ≤ lineM by unfold lineM; omega)]
  rfl
theorem Sh.okD {d : D} {k w : Nat} (h : Sh d k w) (hk : k ≤ 64) : okD d = true := by
  unfold DL.okD
  rw [h.nd, decide_eq_true (Nat.le_trans h.dp hk)]
  rfl
mutual
theorem eqv_refl : ∀ d : D, d.hasDict = false → PyData.eqv d d = true
  | .none, _ => by simp only [PyData.eqv]
  | .bool b, _ => by simp [PyData.eqv]
  | .int i, _ => by simp [PyData.eqv]
  | .str x, _ => by simp [PyData.eqv]
  | .list xs, h => by simp only [PyData.hasDict] at h; simp only [PyData.eqv]; exact eqv_reflAll xs h
  | .tuple xs, h => by simp only [PyData.hasDict] at h; simp only [PyData.eqv]; exact eqv_reflAll xs h
  | .dict _, h => by simp only [PyData.hasDict] at h; cases h
theorem eqv_reflAll : ∀ ds : List D, PyData.hasDictAll ds = false → PyData.eqvAll ds ds = true
  | [], _ => by simp only [PyData.eqvAll]
  | d :: r, h => by
    simp only [PyData.hasDictAll, Bool.or_eq_false_iff] at h
    simp only [PyData.eqvAll, eqv_refl d h.1, eqv_reflAll r h.2, Bool.and_self]
end
theorem dEq_same {d : D} {k w : Nat} (h : Sh d k w) (hk : k ≤ 64) : dEq d d = some (.val (.bool true)) := by
  unfold dEq; rw [h.okD hk, eqv_refl d h.nd]; rfl
theorem dNe_same {d : D} {k w : Nat} (h : Sh d k w) (hk : k ≤ 64) : dNe d d = some (.val (.bool false)) := by
  unfold dNe; rw [h.okD hk, eqv_refl d h.nd]; rfl
end DL
namespace DL
open PySem PySem.Spec L2
theorem lit_a : ("a" : Str) = S [97] := by decide +kernel
theorem lit_ab : ("ab" : Str) = S [97, 98] := by decide +kernel
theorem lit_b : ("b" : Str) = S [98] := by decide +kernel
def abc : List Nat := [97, 98, 99, 100, 101, 102, 103, 104, 105, 106, 107, 108, 109, 110, 111, 112, 113, 114, 115, 116, 117, 118, 119, 120, 121, 122]
theorem lit_abc : ("abcdefghijklmnopqrstuvwxyz" : Str) = S abc := by decide +kernel
theorem ltr_abc : Ltr abc := by unfold Ltr; decide +kernel
theorem mem_abc {c : Nat} (h1 : 97 ≤ c) (h2 : c ≤ 122) : c ∈ abc := by
  have : ∀ k, k < 26 → (97 + k) ∈ abc := by decide +kernel
  have := this (c - 97) (by omega)
  rwa [show 97 + (c - 97) = c by omega] at this

theorem ev_line_k36 {p : D} {n : Nat} {m : Int} {Q : Rv × Env → Prop} (hp : Pl n p) (hn : n < 2 ^ 59) (h0 : 20 ≤ m) (hm : m ≤ 400)
    (k : ∀ l p', Ltr l → 0 < l.length → l.length ≤ 400 → Pl (n + 500) p' → Q (.val (.str (S l)), [.ow .pn p', .fz (.int m)])) : Ev (M_law_line_k36 [.ow .pn p, .fz (.int m)]) Q := by
  refine Ev_defI ⟨rfl, rfl⟩ ?_
  unfold B_law_line_k36
  simp_arith [Ev_eq]
  refine ev_draw hp (by omega) (by decide) (by decide) fun r p1 r0 r1 hp1 => ?_
  simp_arith [Ev_eq]
  refine ev_at r0 (by simpa using r1) fun d hd => ?_
  have hs : ∃ sg, d = .str (S sg) ∧ Ltr sg ∧ 0 < sg.length ∧ sg.length ≤ 26 := by
    simp only [List.mem_cons, List.not_mem_nil, or_false] at hd
    rcases hd with e | e | e | e
    · exact ⟨_, by rw [e, lit_a], by unfold Ltr; decide, by decide, by decide⟩
    · exact ⟨_, by rw [e, lit_ab], by unfold Ltr; decide, by decide, by decide⟩
    · exact ⟨_, by rw [e, lit_ab], by unfold Ltr; decide, by decide, by decide⟩
    · exact ⟨_, by rw [e, lit_abc], ltr_abc, by decide, by decide⟩
  obtain ⟨sg, rfl, hsg, hsg0, hsg1⟩ := hs
  simp_arith [Ev_eq]
  refine ev_draw hp1 (by omega) (by decide) (by decide) fun r2 p2 r20 r21 hp2 => ?_
  simp_arith [Ev_eq]
  refine ev_draw hp2 (by omega) (by decide) (by decide) fun r3 p3 r30 r31 hp3 => ?_
  simp_arith [Ev_eq]
  refine ev_draw hp3 (by omega) (by omega) (by omega) fun r4 p4 r40 r41 hp4 => ?_
  simp_arith [Ev_eq]
  refine ev_draw hp4 (by omega) (by decide) (by decide) fun r5 p5 r50 r51 hp5 => ?_
  simp_arith [Ev_eq]
  refine ev_at r50 (by simpa using r51) fun d hd => ?_
  have hs : ∃ z : Int, d = .int z ∧ 1 ≤ z ∧ z ≤ m := by
    simp only [List.mem_cons, List.not_mem_nil, or_false] at hd
    rcases hd with e | e | e
    · exact ⟨_, e, by omega, by omega⟩
    · exact ⟨_, e, by omega, by omega⟩
    · exact ⟨_, e, by omega, by omega⟩
  obtain ⟨z, rfl, hz0, hz1⟩ := hs
  simp_arith [lit_nil, rngOf1]
  have hz : rng62 z = true := by unfold rng62; simp; omega
  refine ⟨hz, ?_⟩
  refine ev_lcL (fun rest acc env => ∃ (pk : D) (cs : List Nat), env = [Sl.ow Kd.pn pk, Sl.fz (PyData.int m), Sl.fz (PyData.str (S sg)), Sl.fz (PyData.int z), Sl.no, Sl.no, Sl.no] ∧ Pl (n + 5 + cs.length) pk ∧ acc = strsD (cs.map fun c => [c]) ∧ Ltr cs ∧ cs.length + rest.length = z.toNat) (name_nx 5) ?_ ?_ _ _ _ ⟨p5, [], rfl, hp5, rfl, by unfold Ltr; simp, by simp [rangeD_len]⟩
  · rintro d ds acc env ⟨pk, cs, rfl, hpk, rfl, hcs, hlen⟩
    simp_arith [S_len]
    refine ⟨by omega, ev_draw hpk (by simp at hlen; omega) (by omega) (by omega) fun r6 p6 r60 r61 hp6 => ?_⟩
    simp_arith [S_cps, S_len]
    refine ⟨by omega, ev_atS r60 (by simpa using r61) fun c hc => ?_⟩
    simp_arith [S_sign]
    refine ⟨by simp [strsD] at hlen ⊢; omega, p6, cs ++ [c], rfl, ?_, ?_, ?_, ?_⟩
    · simpa [Nat.add_assoc] using hp6
    · simp [strsD]
    · exact hcs.app fun x hx => by rw [List.mem_singleton.mp hx]; exact hsg c hc
    · simp at hlen ⊢; omega
  · rintro acc env ⟨pk, cs, rfl, hpk, rfl, hcs, hlen⟩
    have hc0 : cs.length = z.toNat := by simpa using hlen
    simp_arith [Ev_eq]
    rw [join_cs cs (by omega)]
    simp_arith [S_len, S_rep]
    have hq1 : 1 ≤ m / (cs.length : Int) := Int.le_ediv_of_mul_le (by omega) (by omega)
    have hq2 : m / (cs.length : Int) ≤ m := Int.ediv_le_self _ (by omega)
    refine ⟨by omega, ⟨by omega, log_nat (by omega)⟩, ev_draw (n := n + 405) (hpk.mono (by omega)) (by omega) (by omega) (by omega) fun r7 p7 r70 r71 hp7 => ?_⟩
    simp_arith [S_len, S_rep]
    have hm2 : (cs.length : Int) * (1 + r7) ≤ m := by
      have h1 : (cs.length : Int) * (1 + r7) ≤ cs.length * (m / cs.length) := Int.mul_le_mul_of_nonneg_left (by omega) (by omega)
      have h2 : (cs.length : Int) * (m / cs.length) ≤ m := Int.mul_ediv_self_le (by omega)
      omega
    have hm3 : cs.length * (1 + r7).toNat ≤ 400 := by
      have h1 : ((cs.length * (1 + r7).toNat : Nat) : Int) = cs.length * (1 + r7) := by rw [Int.natCast_mul, Int.toNat_of_nonneg (by omega)]
      omega
    have hl3 : 0 < cs.length * (1 + r7).toNat := Nat.mul_pos (by omega) (by omega)
    refine ⟨⟨by omega, by omega, by omega⟩, ev_draw hp7 (by omega) (by decide) (by decide) fun r8 p8 r80 r81 hp8 => ?_⟩
    have fl : ((List.replicate (1 + r7).toNat cs).flatten).length = cs.length * (1 + r7).toNat := by rw [flat_len, Nat.mul_comm]
    have lt := hcs.rep (1 + r7).toNat
    generalize (List.replicate (1 + r7).toNat cs).flatten = w at fl lt
    simp_arith [dEq_i, S_len]
    by_cases h8 : r8 = 0
    · rw [if_pos h8]
      refine ⟨by omega, ev_draw hp8 (by omega) (by omega) (by omega) fun r9 p9 r90 r91 hp9 => ?_⟩
      simp_arith [S_len, S_app, lit_b, cut_take _ r90, cut_drop _ (show 0 ≤ r9 + 1 by omega)]
      have t1 : (w.take r9.toNat).length = r9.toNat := by rw [List.length_take]; omega
      have t2 : (w.drop (r9 + 1).toNat).length = w.length - (r9 + 1).toNat := by simp
      refine ⟨by omega, by omega, by omega, by rw [List.length_append, t1, t2]; simp; omega, ?_⟩
      refine k _ _ (((lt.take _).app (by unfold Ltr; decide)).app (lt.drop _)) ?_ ?_ (hp9.mono (by omega))
      · rw [List.length_append, List.length_append, t1, t2]; simp; omega
      · rw [List.length_append, List.length_append, t1, t2]; simp; omega
    · rw [if_neg h8]
      exact k _ _ lt (by omega) (by omega) (hp8.mono (by omega))
theorem rt_test {l : List Nat} (s : Nat) : Rt l s ↔ 0 < s ∧ l.length % s = 0 ∧ (List.replicate (l.length / s) (l.take s)).flatten = l := Iff.rfl
theorem int_mod (a b : Nat) : ((a : Int) % (b : Int) = 0) ↔ a % b = 0 := by
  rw [← Int.natCast_emod]; omega
theorem int_div (a b : Nat) : ((a : Int) / (b : Int)).toNat = a / b := by
  rw [← Int.natCast_ediv]; rfl
theorem int_pos (a b : Nat) : (0 < (a : Int) % (b : Int)) ↔ 0 < a % b := by
  rw [← Int.natCast_emod]; omega
theorem int_add1 (a : Nat) : (a : Int) + 1 = ((a + 1 : Nat) : Int) := by omega
theorem rep_fit (l : List Nat) (y : Nat) (h : l.length ≤ 10000) : ((l.length : Int) / (y : Int) < 10000000 ∧ -10000000 < (l.length : Int) / (y : Int)) ∧ (l.take y).length * (l.length / y) ≤ 10000000 := by
  have h1 : l.length / y ≤ l.length := Nat.div_le_self _ _
  have h2 : (l.take y).length * (l.length / y) ≤ y * (l.length / y) := Nat.mul_le_mul_right _ (by rw [List.length_take]; exact Nat.min_le_left _ _)
  have h3 : y * (l.length / y) ≤ l.length := Nat.mul_div_le _ _
  rw [← Int.natCast_ediv]
  generalize l.length / y = q at h1 h2 h3 ⊢
  refine ⟨⟨?_, ?_⟩, by omega⟩ <;> omega
theorem ev_law_root {l : List Nat} {d : Nat} {Q : Rv × Env → Prop} (hd : Mn l d) (hl : 0 < l.length) (hm : l.length ≤ 10000) (k : Q (.val (.str (S (l.take d))), [.fz (.str (S l))])) : Ev (M_law_root [.fz (.str (S l))]) Q := by
  refine Ev_defI ⟨rfl, rfl⟩ ?_
  unfold B_law_root
  simp_arith [S_len, rngOf2]
  have h1 : rng62 1 = true := by decide
  have h2 : rng62 ((l.length : Int) + 1) = true := by unfold rng62; simp; omega
  rw [show ((l.length : Int) + 1 - 1).toNat = l.length by omega]
  refine ⟨by omega, ⟨h1, h2⟩, ?_⟩
  refine ev_forR (fun x env => 1 ≤ x ∧ x ≤ d ∧ ∃ s, freeK (some s) = true ∧ env = [.fz (.str (S l)), s]) ((l.length : Int) + 1) ?_ ?_ _ _ _ (by omega) ⟨by omega, by have := hd.pos; omega, .no, rfl, rfl⟩
  · rintro x env hx ⟨hx1, hx2, s, hs, rfl⟩
    obtain ⟨y, rfl⟩ : ∃ y : Nat, x = y := ⟨x.toNat, by omega⟩
    simp_arith [S_len, hs, dEq_i, dEq_s, cut_take _ (show (0 : Int) ≤ y by omega), S_rep, Int.toNat_natCast, int_mod, int_div]
    have hd0 := hd.le hl
    have hy : 0 < y := by omega
    obtain ⟨⟨c1, c3⟩, c2⟩ := rep_fit l y hm
    refine ⟨by omega, by omega, ?_⟩
    have next : ¬ Rt l y → 1 ≤ (y : Int) + 1 ∧ (y : Int) + 1 ≤ d ∧ ∃ s, freeK (some s) = true ∧ [Sl.fz (PyData.str (S l)), Sl.fz (PyData.int y)] = [Sl.fz (PyData.str (S l)), s] := fun hn => by
      refine ⟨by omega, ?_, _, rfl, rfl⟩
      rcases Nat.lt_or_ge y d with q | q
      · omega
      · exfalso; exact hn (by rw [show y = d by omega]; exact hd.1)
    by_cases e1 : l.length % y = 0
    · rw [if_pos e1]
      refine ⟨by omega, by omega, ⟨by omega, log_nat (by omega)⟩, ⟨c1, c3, c2⟩, ?_⟩
      by_cases e2 : (List.replicate (l.length / y) (l.take y)).flatten = l
      · rw [if_pos e2]
        have := hd.2 y ⟨hy, e1, e2⟩
        have : y = d := by omega
        subst this
        exact ⟨by omega, k⟩
      · rw [if_neg e2]
        exact next fun h => e2 h.2.2
    · rw [if_neg e1]
      exact next fun h => e1 h.2.1
  · rintro env ⟨hx1, hx2, _⟩
    have := hd.le hl
    omega
theorem ev_root_of {l : List Nat} {d : Nat} {Q : Rv × Env → Prop} (hd : Mn l d) (hl : 0 < l.length) (hm : l.length ≤ 10000) (k : Q (.val (.str (S (l.take d))), [.fz (.str (S l))])) : Ev (M_root_of [.fz (.str (S l))]) Q := by
  refine Ev_defI ⟨rfl, rfl⟩ ?_
  unfold B_root_of
  simp_arith [S_len]
  have hd0 := hd.le hl
  refine ev_while (fun n env => ∃ y : Nat, 0 < y ∧ y + n = d ∧ env = [.fz (.str (S l)), .fz (.int y)]) ?_ (d - 1) _ ⟨1, by omega, by have := hd.pos; omega, rfl⟩
  rintro n env ⟨y, hy, hn, rfl⟩
  simp_arith [S_len, dEq_i, dNe_s, cut_take _ (show (0 : Int) ≤ y by omega), S_rep, Int.toNat_natCast, int_mod, int_div, int_pos, int_add1]
  obtain ⟨⟨c1, c3⟩, c2⟩ := rep_fit l y hm
  refine ⟨by omega, by omega, ?_⟩
  have next : ¬ Rt l y → 0 < n ∧ ∃ z : Nat, 0 < z ∧ z + (n - 1) = d ∧ [Sl.fz (PyData.str (S l)), Sl.fz (PyData.int ((y + 1 : Nat) : Int))] = [Sl.fz (PyData.str (S l)), Sl.fz (PyData.int z)] := fun h => by
    have : 0 < n := by
      rcases Nat.eq_zero_or_pos n with q | q
      · exfalso; exact h (by rw [show y = d by omega]; exact hd.1)
      · exact q
    exact ⟨this, y + 1, by omega, by omega, rfl⟩
  by_cases e1 : 0 < l.length % y
  · rw [if_pos e1]
    exact next fun h => by have := h.2.1; omega
  · rw [if_neg e1]
    refine ⟨by omega, by omega, ⟨by omega, log_nat (by omega)⟩, ⟨c1, c3, c2⟩, ?_⟩
    by_cases e2 : (List.replicate (l.length / y) (l.take y)).flatten = l
    · rw [if_neg (not_not_intro e2)]
      have := hd.2 y ⟨hy, by omega, e2⟩
      have : y = d := by omega
      subst this
      exact ⟨by omega, k⟩
    · rw [if_pos e2]
      exact next fun h => e2 h.2.2
theorem dAll_true (n : Nat) : dAll [.list (List.replicate n (.bool true))] = some (.val (.bool true)) := by
  have : List.replicate n (PyData.bool true) = (List.replicate n true).map .bool := by simp
  show (asBools _).map _ = _
  rw [this, asBools_map]
  simp
theorem ev_is_row {l : List Nat} {Q : Rv × Env → Prop} (hl : Ltr l) (hm : l.length ≤ 10000) (k : Q (.val (.bool true), [.fz (.str (S l))])) : Ev (M_is_row [.fz (.str (S l))]) Q := by
  refine Ev_defI ⟨rfl, rfl⟩ ?_
  unfold B_is_row
  simp_arith [S_cps, S_sign]
  refine ev_lc_pure (fun _ => .bool true) (name_nx 1) (by simp; omega) ?_ ?_
  · intro d hd
    obtain ⟨c, hc, rfl⟩ := List.mem_map.mp hd
    obtain ⟨h1, h2⟩ := hl c hc
    simp_arith [lit_abc, dIn_S]
    simp [mem_abc h1 h2]
  · simp_arith [Ev_eq]
    have e : List.map (fun _ => PyData.bool true) (List.map (fun c => PyData.str (S [c])) l) = List.replicate l.length (.bool true) := by rw [List.map_map]; exact List.ext_getElem (by simp) (by intros; simp)
    rw [e, dAll_true]
    simp_arith [Ev_eq]
    exact k
theorem ev_check_text {l : List Nat} {Q : Rv × Env → Prop} (hl : Ltr l) (hm : l.length ≤ 10000) (k : Q (.val .none, [.fz (.str (S l))])) : Ev (M_check_text [.fz (.str (S l))]) Q := by
  refine Ev_defI ⟨rfl, rfl⟩ ?_
  unfold B_check_text
  simp_arith [Ev_eq]
  refine ev_is_row hl hm ?_
  simp_arith [Ev_eq]
  exact k
theorem ev_root {l : List Nat} {d : Nat} {Q : Rv × Env → Prop} (hl : Ltr l) (hd : Mn l d) (h0 : 0 < l.length) (hm : l.length ≤ 10000) (k : Q (.val (.tuple [.str (S (l.take d)), .int ((l.length : Int) / (d : Int))]), [.fz (.str (S l))])) : Ev (M_root [.fz (.str (S l))]) Q := by
  refine Ev_defI ⟨rfl, rfl⟩ ?_
  unfold B_root
  have hne : ¬ l = [] := by intro z; rw [z] at h0; simp at h0
  simp_arith [lit_nil, dEq_s, hne]
  refine ev_check_text hl hm ?_
  simp_arith [S_len]
  refine ev_root_of hd h0 hm ?_
  simp_arith [S_len]
  refine ⟨by omega, ev_root_of hd h0 hm ?_⟩
  have hlen : (l.take d).length = d := by rw [List.length_take]; exact Nat.min_eq_left (hd.le h0)
  simp_arith [S_len, hlen]
  have := hd.le h0
  exact ⟨by omega, ⟨by have := hd.pos; omega, log_nat (by omega)⟩, k⟩
def pairD (l : List Nat) (n : Nat) : D := .tuple [.str (S l), .int n]
theorem ev_right_k36 {p : D} {n : Nat} {Q : Rv × Env → Prop} (hp : Pl n p) (hn : n < 2 ^ 58) (k : ∀ p', Pl (n + 510) p' → Q (.val (.bool true), [.ow .pn p'])) : Ev (M_law_right_k36 [.ow .pn p]) Q := by
  refine Ev_defI ⟨rfl, rfl⟩ ?_
  unfold B_law_right_k36
  simp_arith [Ev_eq]
  refine ev_draw hp (by omega) (by decide) (by decide) fun r1 p1 r10 r11 hp1 => ?_
  simp_arith [Ev_eq]
  refine ev_at r10 (by simpa using r11) fun d hd => ?_
  have hs : ∃ z : Int, d = .int z ∧ 20 ≤ z ∧ z ≤ 400 := by
    simp only [List.mem_cons, List.not_mem_nil, or_false] at hd
    rcases hd with e | e
    · exact ⟨_, e, by omega, by omega⟩
    · exact ⟨_, e, by omega, by omega⟩
  obtain ⟨z, rfl, hz0, hz1⟩ := hs
  simp_arith [Ev_eq]
  refine ev_line_k36 hp1 (by omega) hz0 hz1 fun l p2 hl hl0 hl1 hp2 => ?_
  obtain ⟨s, hs⟩ := mn_ex hl0
  have hsl := hs.le hl0
  have hs0 := hs.pos
  have hlen : (l.take s).length = s := by rw [List.length_take]; exact Nat.min_eq_left hsl
  simp_arith [Ev_eq]
  refine ev_law_root hs hl0 (by omega) ?_
  simp_arith [S_len, hlen]
  refine ⟨by omega, by omega, ⟨by omega, log_nat (by omega)⟩, ev_root hl hs hl0 (by omega) ?_⟩
  simp_arith [pick]
  refine ev_root hl hs hl0 (by omega) ?_
  simp_arith [S_len, hlen]
  have q0 : 1 ≤ (l.length : Int) / (s : Int) := Int.le_ediv_of_mul_le (by omega) (by omega)
  have q1 : (l.length : Int) / (s : Int) ≤ l.length := Int.ediv_le_self _ (by omega)
  have shs : ∀ (x : List Nat) (i : Int), Ltr x → x.length ≤ 400 → 0 ≤ i → i ≤ 400 → Sh (.tuple [.str (S x), .int i]) 1 443 := fun x i hx hl h0 h1 =>
    (Sh.tuple (k := 0) (.cons (Sh.str hx.ok) (.cons (Sh.int (by omega)) .nil))).mono (by omega) (by omega)
  have sh1 := shs _ _ (hl.take s) (by rw [hlen]; omega) (by omega) (Int.le_trans q1 (by omega))
  have okp := (Sh.list (.cons sh1 (.cons sh1 .nil))).okR (by omega) (by omega)
  have h400 : 1 ≤ (400 : Int) / (s : Int) := Int.le_ediv_of_mul_le (by omega) (by omega)
  have h401 : (400 : Int) / (s : Int) ≤ 400 := Int.ediv_le_self _ (by omega)
  have hmx : (if (400 : Int) / (s : Int) > 1 then (400 : Int) / (s : Int) else 1) = (400 : Int) / (s : Int) := by split <;> omega
  simp_arith [okp, S_len, hlen, hmx]
  refine ⟨by omega, ⟨by omega, log_nat (by omega)⟩, ev_draw hp2 (by omega) (by omega) (by omega) fun r2 p3 r20 r21 hp3 => ?_⟩
  have hm2 : (s : Int) * (1 + r2) ≤ 400 := by
    have h1 : (s : Int) * (1 + r2) ≤ s * (400 / s) := Int.mul_le_mul_of_nonneg_left (by omega) (by omega)
    have h2 : (s : Int) * (400 / s) ≤ 400 := Int.mul_ediv_self_le (by omega)
    omega
  have hm3 : s * (1 + r2).toNat ≤ 400 := by
    have h1 : ((s * (1 + r2).toNat : Nat) : Int) = s * (1 + r2) := by rw [Int.natCast_mul, Int.toNat_of_nonneg (by omega)]
    omega
  have hm4 : 0 < (1 + r2).toNat := by omega
  have hr := hs.rep hl0 hm4
  have hrl : ((List.replicate (1 + r2).toNat (l.take s)).flatten).length = (1 + r2).toNat * s := by rw [flat_len, hlen]
  have hr0 : 0 < (1 + r2).toNat * s := Nat.mul_pos hm4 hs0
  have hr1 : (1 + r2).toNat * s ≤ 400 := by rw [Nat.mul_comm]; exact hm3
  have hrt : ((List.replicate (1 + r2).toNat (l.take s)).flatten).take s = l.take s := by
    obtain ⟨z, hz⟩ : ∃ z, (1 + r2).toNat = z + 1 := ⟨(1 + r2).toNat - 1, by omega⟩
    rw [hz, List.replicate_succ, List.flatten_cons, List.take_append_of_le_length (by omega), List.take_of_length_le (by omega)]
  have hrd : (((1 + r2).toNat * s : Nat) : Int) / (s : Int) = 1 + r2 := by rw [Int.natCast_mul, Int.mul_ediv_cancel _ (by omega)]; omega
  simp_arith [S_len, S_rep, hlen]
  refine ⟨⟨by omega, by omega, by omega⟩, ev_root ((hl.take s).rep _) hr (by omega) (by omega) ?_⟩
  have sh2 := shs _ (1 + r2) (hl.take s) (by rw [hlen]; omega) (by omega) (by omega)
  simp_arith [hrt, hrl, hrd, dNe_same sh2 (by decide)]
  have hself : Mn (l.take s) s := by
    have := hs.rep hl0 (show 0 < 1 by omega)
    simpa using this
  refine ev_root (hl.take s) hself (by omega) (by omega) ?_
  have sh3 := shs _ 1 (hl.take s) (by rw [hlen]; omega) (by omega) (by omega)
  have hss : (s : Int) / (s : Int) = 1 := Int.ediv_self (by omega)
  simp_arith [hlen, List.take_take, Nat.min_self, hss, dNe_same sh3 (by decide), S_len]
  refine ⟨by omega, ev_draw hp3 (by omega) (by omega) (by omega) fun r3 p4 r30 r31 hp4 => ?_⟩
  have hrot := hs.rot hl0 (c := r3.toNat) (by omega)
  have hrotl : (l.drop r3.toNat ++ l.take r3.toNat).length = l.length := by simp; omega
  have hrott := hs.rot_take hl0 (c := r3.toNat) (by omega)
  simp_arith [S_len, S_app, cut_take _ r30, cut_drop _ r30]
  refine ⟨by omega, by omega, by rw [List.length_drop, List.length_take]; omega, ev_root ((hl.drop _).app (hl.take _)) hrot (by omega) (by omega) ?_⟩
  have rm0 : 0 ≤ r3 % (s : Int) := Int.emod_nonneg _ (by omega)
  have rm1 : r3 % (s : Int) < s := Int.emod_lt_of_pos _ (by omega)
  have rm2 : (r3 % (s : Int)).toNat = r3.toNat % s := by
    have e : r3 = (r3.toNat : Int) := by omega
    have : (r3.toNat : Int) % (s : Int) = ((r3.toNat % s : Nat) : Int) := by rw [Int.natCast_emod]
    rw [← e] at this
    omega
  simp_arith [S_len, S_app, hlen, hrotl, hrott, cut_take _ rm0, cut_drop _ rm0, rm2]
  have hrl2 : (l.drop r3.toNat ++ l.take r3.toNat).take s = (l.take s).drop (r3.toNat % s) ++ (l.take s).take (r3.toNat % s) := hrott
  have rl3 : ((l.take s).drop (r3.toNat % s)).length + ((l.take s).take (r3.toNat % s)).length ≤ 400 := by
    rw [← List.length_append, ← hrl2, List.length_take, hrotl]; omega
  have lt3 : Ltr ((l.take s).drop (r3.toNat % s) ++ (l.take s).take (r3.toNat % s)) := ((hl.take _).drop _).app ((hl.take _).take _)
  have sh4 := shs _ ((l.length : Int) / s) lt3 (by rw [List.length_append]; exact rl3) (by omega) (by omega)
  refine ⟨by omega, by omega, by omega, by omega, by omega, ?_⟩
  simp_arith [dEq_same sh4 (by decide), S_len, S_rev]
  refine ⟨by omega, ev_root hl.rev (hs.rev hl0) (by simpa using hl0) (by simp; omega) ?_⟩
  have hrev := hs.rev_take hl0
  have sh5 := shs _ ((l.length : Int) / s) (hl.take s).rev (by simp; omega) (by omega) (by omega)
  simp_arith [hrev, List.length_reverse, S_len, S_rev, hlen, dEq_same sh5 (by decide)]
  exact ⟨by omega, k _ (hp4.mono (by omega))⟩
theorem plain_k36 : Holds M_law_k36 63 := by
  intro ns hn
  have go : Ev (M_law_k36 [.fz (roD (ns.map .int))]) (fun y => y.1 = .val (.bool true)) := by
    refine Ev_defI ⟨rfl, rfl⟩ ?_
    unfold B_law_k36
    simp_arith [roD, rngOf1, List.length_map]
    have hv : ∃ v : Int, (if (if (ns.length : Int) < 5 then (ns.length : Int) else 5) > 1 then if (ns.length : Int) < 5 then (ns.length : Int) else 5 else 1) = v ∧ 1 ≤ v ∧ v ≤ 5 := ⟨_, rfl, by split <;> omega, by split <;> (try split) <;> omega⟩
    obtain ⟨v, ev, hv1, hv2⟩ := hv
    rw [ev]
    refine ⟨by unfold rng62; simp; omega, ?_⟩
    refine ev_forR (fun x env => 0 ≤ x ∧ ∃ s1 s2 s3, freeK (some s1) = true ∧ freeK (some s2) = true ∧ freeK (some s3) = true ∧ env = [Sl.fz (roD (ns.map .int)), s1, s2, s3]) v ?_ ?_ _ _ _ (by omega) ⟨by omega, _, _, _, rfl, rfl, rfl, rfl⟩
    · rintro x env hx ⟨hx0, s1, s2, s3, f1, f2, f3, rfl⟩
      simp_arith [f1, f2, f3]
      refine ev_pool hx0 (by omega) fun p hp => ?_
      simp_arith [f1, f2, f3]
      refine ⟨rfl, ?_⟩
      refine ev_forR (fun y env => 0 ≤ y ∧ ∃ p s3, freeK (some s3) = true ∧ Pl (510 * y.toNat) p ∧ env = [Sl.fz (roD (ns.map .int)), Sl.fz (.int x), Sl.ow .fr p, s3]) 10 ?_ ?_ _ _ _ (by decide) ⟨by omega, p, s3, f3, hp, rfl⟩
      · rintro y env hy ⟨hy0, p, s3, f3, hp, rfl⟩
        simp_arith [f3]
        refine ev_right_k36 hp (by omega) fun p' hp' => ?_
        simp_arith [f3]
        exact ⟨by omega, p', _, rfl, hp'.mono (by omega), rfl⟩
      · rintro env ⟨hy0, p, s3, f3, hp, rfl⟩
        simp_arith [f3]
        exact ⟨by omega, _, _, _, rfl, rfl, f3, rfl⟩
    · rintro env ⟨hx0, s1, s2, s3, f1, f2, f3, rfl⟩
      simp_arith [Ev_eq]
  obtain ⟨⟨r, e⟩, h1, h2⟩ := go.ok
  exact ⟨e, by rw [h1]; exact congrArg (fun z => Res.ok (z, e)) h2⟩
end DL
namespace DL
/-! ### texts that commute have one root -/
theorem Mn.pow {l : List Nat} {d : Nat} (h : Mn l d) : (List.replicate (l.length / d) (l.take d)).flatten = l := h.1.2.2
theorem rep_comm (z : List Nat) : ∀ a b : Nat, (List.replicate a z).flatten ++ (List.replicate b z).flatten = (List.replicate b z).flatten ++ (List.replicate a z).flatten := by
  intro a b
  rw [← List.flatten_append, ← List.flatten_append]
  congr 1
  rw [List.replicate_append_replicate, List.replicate_append_replicate, Nat.add_comm]
/-- a beginning whose length the root's length divides -/
theorem Mn.begin {l : List Nat} {d n : Nat} (h : Mn l d) (hl : 0 < l.length) (hn : d ∣ n) (hn0 : 0 < n) (hnl : n ≤ l.length) : Mn (l.take n) d ∧ (l.take n).take d = l.take d := by
  have hd := h.pos
  obtain ⟨q, rfl⟩ := hn
  have hq : 0 < q := Nat.pos_of_mul_pos_right hn0 |> fun z => by
    rcases Nat.eq_zero_or_pos q with e | e
    · subst e; simp at hn0
    · exact e
  have hlen : (l.take d).length = d := by rw [List.length_take]; exact Nat.min_eq_left (h.le hl)
  have hdn : d ≤ d * q := Nat.le_mul_of_pos_right d hq
  have e : l.take (d * q) = (List.replicate q (l.take d)).flatten := by
    apply ext_getD
    · rw [List.length_take, flat_len, hlen, Nat.min_eq_left hnl, Nat.mul_comm]
    · intro i hi
      rw [List.length_take, Nat.min_eq_left hnl] at hi
      rw [take_getD hi, flat_getD _ _ _ (by rw [hlen, Nat.mul_comm]; exact hi), hlen, take_getD (Nat.mod_lt _ hd), ← cy_lt (show i < l.length by omega), ← cy_lt (show i % d < l.length from Nat.lt_of_lt_of_le (Nat.mod_lt i hd) (h.le hl)), (h.per hl).at_mod]
  refine ⟨by rw [e]; exact h.rep hl hq, ?_⟩
  rw [List.take_take, Nat.min_eq_left hdn]
theorem comm_root {l r : List Nat} {a b : Nat} (hl : Mn l a) (hr : Mn r b) (l0 : 0 < l.length) (r0 : 0 < r.length) : (l ++ r = r ++ l) ↔ l.take a = r.take b := by
  constructor
  · intro e
    have hw0 : 0 < (l ++ r).length := by simp; omega
    obtain ⟨d, hd⟩ := mn_ex hw0
    have hll : l.length ≤ (l ++ r).length := by simp
    have p1 : Per (cy (l ++ r)) l.length := fun i => by
      have := cy_rot hll hw0 i
      rw [← this]
      congr 1
      rw [List.drop_left, List.take_left, ← e]
    have p2 : Per (cy (l ++ r)) r.length := by
      have := (per_len (l ++ r)).sub p1
      rw [e]
      intro i
      have h2 : r.length ≤ (r ++ l).length := by simp
      have := cy_rot h2 (by rw [← e]; exact hw0) i
      rw [← this]
      congr 1
      rw [List.drop_left, List.take_left, e]
    have d1 := hd.strong hw0 l0 p1
    have d2 := hd.strong hw0 r0 p2
    obtain ⟨m1, t1⟩ := hd.begin hw0 d1 l0 hll
    rw [List.take_left] at m1 t1
    have hd' : Mn (r ++ l) d := by rw [← e]; exact hd
    obtain ⟨m2, t2⟩ := hd'.begin (by rw [← e]; exact hw0) d2 r0 (by simp)
    rw [List.take_left] at m2 t2
    have ea : a = d := Nat.le_antisymm (hl.2 d m1.1) (m1.2 a hl.1)
    have eb : b = d := Nat.le_antisymm (hr.2 d m2.1) (m2.2 b hr.1)
    rw [ea, eb, t1, t2, e]
  · intro e
    rw [← hl.pow, ← hr.pow, e]
    exact rep_comm _ _ _
end DL
namespace DL
open PySem PySem.Spec L2
/-- what a round of a law is to do: True, from any pool, with at most c draws -/
def Round (c : Nat) (M : FM) : Prop := ∀ (p : D) (n : Nat) (Q : Rv × Env → Prop), Pl n p → n < 2 ^ 40 → (∀ p', Pl (n + c) p' → Q (.val (.bool true), [.ow .pn p'])) → Ev (M [.ow .pn p]) Q
theorem holds_of {M : FM} (go : ∀ ns : List Int, Ev (M [.fz (roD (ns.map .int))]) (fun y => y.1 = .val (.bool true))) : Holds M 63 := by
  intro ns hn
  obtain ⟨⟨r, e⟩, h1, h2⟩ := (go ns).ok
  exact ⟨e, by rw [h1]; exact congrArg (fun z => Res.ok (z, e)) h2⟩
theorem max_rng (ns : List Int) (K : Int) (hK : 1 ≤ K) : ∃ v : Int, (if (if (ns.length : Int) < K then (ns.length : Int) else K) > 1 then if (ns.length : Int) < K then (ns.length : Int) else K else 1) = v ∧ 1 ≤ v ∧ v ≤ K :=
  ⟨_, rfl, by split <;> omega, by split <;> (try split) <;> omega⟩
theorem frameN {M : FM} {c : Nat} {K N : Int} (hM : Round c M) (hc : c ≤ 1000000) (hK : 1 ≤ K) (hK2 : K ≤ 900) (hN : 0 ≤ N) (hN2 : N ≤ 10000) :
    Holds (mDef 1 4 (mSeq (mFor (mRange rngOf1 [mCallB dMax2 [mC (.int 1), mCallB dMin2 [mC (.int K), mCallB dLen [mVar 0]]]]) (mName 1) (mSeq (mAsg (mCallF M_law_pool [.l, .c] [mVar 0, mVar 1]) (mName 2))
      (mFor (mRange rngOf1 [mC (.int N)]) (mName 3) (mIfS (mNot (mTest (mCallF M [.p] [mVar 2]))) (mRet (mC (.bool false))) mPass)))) (mRet (mC (.bool true))))) 63 := by
  refine holds_of fun ns => Ev_defI ⟨rfl, rfl⟩ ?_
  simp_arith [roD, rngOf1, List.length_map]
  obtain ⟨v, ev, hv1, hv2⟩ := max_rng ns K hK
  rw [ev]
  refine ⟨by unfold rng62; simp; omega, ?_⟩
  refine ev_forR (fun x env => 0 ≤ x ∧ ∃ s1 s2 s3, freeK (some s1) = true ∧ freeK (some s2) = true ∧ freeK (some s3) = true ∧ env = [Sl.fz (roD (ns.map .int)), s1, s2, s3]) v ?_ ?_ _ _ _ (by omega) ⟨by omega, _, _, _, rfl, rfl, rfl, rfl⟩
  · rintro x env hx ⟨hx0, s1, s2, s3, f1, f2, f3, rfl⟩
    simp_arith [f1, f2, f3]
    refine ev_pool hx0 (by omega) fun p hp => ?_
    simp_arith [f1, f2, f3]
    refine ⟨by unfold rng62; simp; omega, ?_⟩
    refine ev_forR (fun y env => 0 ≤ y ∧ ∃ p s3, freeK (some s3) = true ∧ Pl (c * y.toNat) p ∧ env = [Sl.fz (roD (ns.map .int)), Sl.fz (.int x), Sl.ow .fr p, s3]) N ?_ ?_ _ _ _ (by omega) ⟨by omega, p, s3, f3, hp.mono (by omega), rfl⟩
    · rintro y env hy ⟨hy0, p, s3, f3, hp, rfl⟩
      simp_arith [f3]
      have hb : c * y.toNat ≤ 1000000 * 10000 := Nat.mul_le_mul hc (by omega)
      refine hM _ _ _ hp (by omega) fun p' hp' => ?_
      simp_arith [f3]
      exact ⟨by omega, p', _, rfl, hp'.mono (by rw [show (y + 1).toNat = y.toNat + 1 by omega, Nat.mul_succ]; omega), rfl⟩
    · rintro env ⟨hy0, p, s3, f3, hp, rfl⟩
      simp_arith [f3]
      exact ⟨by omega, _, _, _, rfl, rfl, f3, rfl⟩
  · rintro env ⟨hx0, s1, s2, s3, f1, f2, f3, rfl⟩
    simp_arith [Ev_eq]
theorem frame1 {M : FM} {c : Nat} {K : Int} (hM : Round c M) (hK : 1 ≤ K) (hK2 : K ≤ 900) :
    Holds (mDef 1 3 (mSeq (mFor (mRange rngOf1 [mCallB dMax2 [mC (.int 1), mCallB dMin2 [mC (.int K), mCallB dLen [mVar 0]]]]) (mName 1) (mSeq (mAsg (mCallF M_law_pool [.l, .c] [mVar 0, mVar 1]) (mName 2))
      (mIfS (mNot (mTest (mCallF M [.p] [mVar 2]))) (mRet (mC (.bool false))) mPass))) (mRet (mC (.bool true))))) 63 := by
  refine holds_of fun ns => Ev_defI ⟨rfl, rfl⟩ ?_
  simp_arith [roD, rngOf1, List.length_map]
  obtain ⟨v, ev, hv1, hv2⟩ := max_rng ns K hK
  rw [ev]
  refine ⟨by unfold rng62; simp; omega, ?_⟩
  refine ev_forR (fun x env => 0 ≤ x ∧ ∃ s1 s2, freeK (some s1) = true ∧ freeK (some s2) = true ∧ env = [Sl.fz (roD (ns.map .int)), s1, s2]) v ?_ ?_ _ _ _ (by omega) ⟨by omega, _, _, rfl, rfl, rfl⟩
  · rintro x env hx ⟨hx0, s1, s2, f1, f2, rfl⟩
    simp_arith [f1, f2]
    refine ev_pool hx0 (by omega) fun p hp => ?_
    simp_arith [f1, f2]
    refine hM _ _ _ hp (by omega) fun p' hp' => ?_
    simp_arith [Ev_eq]
    exact ⟨by omega, _, _, rfl, rfl, rfl⟩
  · rintro env ⟨hx0, s1, s2, f1, f2, rfl⟩
    simp_arith [Ev_eq]
end DL
namespace DL
open PySem PySem.Spec L2
theorem ev_pair_k38 {p : D} {n : Nat} {Q : Rv × Env → Prop} (hp : Pl n p) (hn : n < 2 ^ 50) (k : ∀ l r p', Ltr l → 0 < l.length → l.length ≤ 400 → Ltr r → r.length ≤ 400 → Pl (n + 1100) p' → Q (.val (.tuple [.str (S l), .str (S r)]), [.ow .pn p'])) : Ev (M_law_pair_k38 [.ow .pn p]) Q := by
  refine Ev_defI ⟨rfl, rfl⟩ ?_
  unfold B_law_pair_k38
  simp_arith [Ev_eq]
  refine ev_draw hp (by omega) (by decide) (by decide) fun r1 p1 r10 r11 hp1 => ?_
  simp_arith [Ev_eq]
  refine ev_at r10 (by simpa using r11) fun d hd => ?_
  have hs : ∃ z : Int, d = .int z ∧ 20 ≤ z ∧ z ≤ 400 := by
    simp only [List.mem_cons, List.not_mem_nil, or_false] at hd
    rcases hd with e | e
    · exact ⟨_, e, by omega, by omega⟩
    · exact ⟨_, e, by omega, by omega⟩
  obtain ⟨z, rfl, hz0, hz1⟩ := hs
  simp_arith [Ev_eq]
  refine ev_line_k36 hp1 (by omega) hz0 hz1 fun l p2 hl hl0 hl1 hp2 => ?_
  obtain ⟨s, hs⟩ := mn_ex hl0
  have hsl := hs.le hl0
  have hs0 := hs.pos
  have hlen : (l.take s).length = s := by rw [List.length_take]; exact Nat.min_eq_left hsl
  simp_arith [Ev_eq]
  refine ev_law_root hs hl0 (by omega) ?_
  simp_arith [Ev_eq]
  refine ev_draw hp2 (by omega) (by decide) (by decide) fun way p3 w0 w1 hp3 => ?_
  have h400 : 1 ≤ (400 : Int) / (s : Int) := Int.le_ediv_of_mul_le (by omega) (by omega)
  have h401 : (400 : Int) / (s : Int) ≤ 400 := Int.ediv_le_self _ (by omega)
  simp_arith [S_len, hlen, dEq_i]
  by_cases e1 : way < 2
  · rw [if_pos e1]
    refine ⟨by omega, ⟨by omega, log_nat (by omega)⟩, ev_draw hp3 (by omega) (by omega) (by omega) fun r2 p4 r20 r21 hp4 => ?_⟩
    have hm2 : (s : Int) * (1 + r2) ≤ 400 := by
      have h1 : (s : Int) * (1 + r2) ≤ s * (400 / s) := Int.mul_le_mul_of_nonneg_left (by omega) (by omega)
      have h2 : (s : Int) * (400 / s) ≤ 400 := Int.mul_ediv_self_le (by omega)
      omega
    have hm3 : s * (1 + r2).toNat ≤ 400 := by
      have h1 : ((s * (1 + r2).toNat : Nat) : Int) = s * (1 + r2) := by rw [Int.natCast_mul, Int.toNat_of_nonneg (by omega)]
      omega
    simp_arith [S_len, S_rep, hlen]
    exact ⟨⟨by omega, by omega, by omega⟩, k _ _ _ hl hl0 hl1 ((hl.take s).rep _) (by rw [flat_len, hlen, Nat.mul_comm]; exact hm3) (hp4.mono (by omega))⟩
  rw [if_neg e1]
  by_cases e2 : way = 2
  · rw [if_pos e2]
    refine ⟨by omega, ev_draw hp3 (by omega) (by omega) (by omega) fun r2 p4 r20 r21 hp4 => ?_⟩
    simp_arith [S_len, cut_take _ (show 0 ≤ 1 + r2 by omega)]
    exact ⟨by omega, k _ _ _ hl hl0 hl1 (hl.take _) (by rw [List.length_take]; omega) (hp4.mono (by omega))⟩
  rw [if_neg e2]
  by_cases e3 : way = 3
  · rw [if_pos e3]
    refine ⟨by omega, ev_draw hp3 (by omega) (by omega) (by omega) fun r2 p4 r20 r21 hp4 => ?_⟩
    simp_arith [S_len, S_app, hlen, cut_take _ r20, cut_take _ (show (0 : Int) ≤ 400 by decide)]
    have t1 : ((l.take s).take r2.toNat).length ≤ s := by rw [List.length_take, hlen]; omega
    exact ⟨by omega, by omega, by rw [List.length_append]; omega, k _ _ _ hl hl0 hl1 ((hl.app ((hl.take _).take _)).take _) (by rw [List.length_take]; exact Nat.min_le_left _ _) (hp4.mono (by omega))⟩
  rw [if_neg e3]
  refine ev_line_k36 hp3 (by omega) (by omega) (by omega) fun l2 p4 hl2 hl20 hl21 hp4 => ?_
  simp_arith [Ev_eq]
  refine ev_draw hp4 (by omega) (by decide) (by decide) fun r2 p5 r20 r21 hp5 => ?_
  simp_arith [Ev_eq]
  refine ev_at r20 (by simpa using r21) fun d hd => ?_
  simp only [List.mem_cons, List.not_mem_nil, or_false] at hd
  rcases hd with e | e
  · subst e
    simp_arith [lit_nil]
    exact k _ _ _ hl hl0 hl1 (by unfold Ltr; simp) (by simp) (hp5.mono (by omega))
  · subst e
    simp_arith [Ev_eq]
    exact k _ _ _ hl hl0 hl1 hl2 hl21 (hp5.mono (by omega))
theorem ev_commute {l r : List Nat} {Q : Rv × Env → Prop} (hl : Ltr l) (hr : Ltr r) (hm : l.length ≤ 10000) (hm2 : r.length ≤ 10000) (k : Q (.val (.bool (decide (l ++ r = r ++ l))), [.fz (.str (S l)), .fz (.str (S r))])) : Ev (M_commute [.fz (.str (S l)), .fz (.str (S r))]) Q := by
  refine Ev_defI ⟨rfl, rfl⟩ ?_
  unfold B_commute
  simp_arith [Ev_eq]
  refine ev_check_text hl hm ?_
  simp_arith [Ev_eq]
  refine ev_check_text hr hm2 ?_
  simp_arith [S_len, S_app, dEq_s]
  exact ⟨by omega, by omega, k⟩
theorem round_k38 : Round 1200 M_law_right_k38 := by
  intro p n Q hp hn k
  refine Ev_defI ⟨rfl, rfl⟩ ?_
  unfold B_law_right_k38
  simp_arith [Ev_eq]
  refine ev_pair_k38 hp (by omega) fun l r p1 hl l0 l1 hr r1 hp1 => ?_
  simp_arith [S_len, S_app, dEq_s]
  refine ⟨by omega, by omega, ev_commute hl hr (by omega) (by omega) ?_⟩
  simp_arith [Ev_eq]
  refine ev_commute hr hl (by omega) (by omega) ?_
  simp_arith [pick]
  refine ev_commute hl hr (by omega) (by omega) ?_
  simp_arith [Ev_eq]
  have eb : decide (r ++ l = l ++ r) = decide (l ++ r = r ++ l) := by
    by_cases h : l ++ r = r ++ l
    · rw [decide_eq_true h, decide_eq_true h.symm]
    · rw [decide_eq_false h, decide_eq_false fun z => h z.symm]
  have okp := (Sh.list (k := 0) (.cons (Sh.bool (b := decide (l ++ r = r ++ l)) (w := 0)) (.cons (Sh.bool (b := decide (l ++ r = r ++ l)) (w := 0)) (.cons (Sh.bool (b := decide (l ++ r = r ++ l)) (w := 0)) .nil)))).okR (by omega) (by omega)
  simp_arith [eb, List.flatten_cons, List.flatten_nil, okp]
  refine ⟨by omega, ev_commute hl hl (by omega) (by omega) ?_⟩
  have hnil : Ltr [] := by unfold Ltr; simp
  simp_arith [lit_nil]
  refine ev_commute hnil hnil (by simp) (by simp) ?_
  simp_arith [dEq_s, lit_nil]
  by_cases e0 : r = []
  · rw [if_pos e0]
    subst e0
    simp
    exact k _ (hp1.mono (by omega))
  · rw [if_neg e0]
    have r0 : 0 < r.length := by
      rcases Nat.eq_zero_or_pos r.length with q | q
      · exact absurd (List.length_eq_zero_iff.mp q) e0
      · exact q
    obtain ⟨a, ha⟩ := mn_ex l0
    obtain ⟨b, hb⟩ := mn_ex r0
    refine ev_root hl ha l0 (by omega) ?_
    simp_arith [Ev_eq]
    refine ev_root hr hb r0 (by omega) ?_
    simp_arith [dEq_s, dEq_b]
    have cr := comm_root ha hb l0 r0
    have ed : decide (l ++ r = r ++ l) = decide (l.take a = r.take b) := decide_eq_decide.mpr cr
    rw [if_pos ed]
    refine ev_law_root ha l0 (by omega) ?_
    simp_arith [Ev_eq]
    refine ev_law_root hb r0 (by omega) ?_
    simp_arith [dEq_s, dEq_b, ed, decide_true]
    exact k _ (hp1.mono (by omega))
theorem plain_k38 : Holds M_law_k38 63 := frameN round_k38 (by decide) (by decide) (by decide) (by decide) (by decide)
end DL
namespace DL
open PySem PySem.Spec L2
theorem ev_tail (fm : FM) (as : List AV) (env : Env) (Q : Rv × Env → Prop) : Ev (mTail fm as env) Q = (noDup (slotsOf as) = true ∧ Ev (callA fm as env (mkArgs env as)) Q) := by
  unfold mTail
  simp only [Ev_gif]
  congr 1
  generalize mkArgs env as = o
  cases o with
  | some ae =>
    rw [callA_some, Ev_bind]
    cases h : fm ae with
    | ok y => obtain ⟨r, e⟩ := y; cases r <;> (simp only [h]; rfl)
    | _ => simp only [h]; rfl
  | none => rfl
theorem iv_callKL (fm : FM) (ms mk : List Md) (perm : List Nat) (np nk : Nat) (fs ks : List ME) (env : Env) (Q : Rv × Env → Prop) : @EvI _ (mCallKL fm ms mk perm np nk fs ks env) ⟨Q⟩ = Ev (evAs ms fs env) fun z => Ev (evAs mk ks z.2) fun y => (z.1.length = np ∧ y.1.length = nk) ∧ noDup (slotsOf (pick (.d .none) perm (z.1 ++ y.1))) = true ∧ Ev (callA fm (pick (.d .none) perm (z.1 ++ y.1)) y.2 (mkArgs y.2 (pick (.d .none) perm (z.1 ++ y.1)))) Q := by
  show Ev (mCallKL fm ms mk perm np nk fs ks env) Q = _
  unfold mCallKL
  simp only [Ev_bind, Ev_gif, ev_tail]
end DL
section
open PySem PySem.Spec L2
local macro_rules
  | `(tactic| simp_arith [$xs,*]) => `(tactic| simp only [$xs,*, ↓DL.Ev_eq, ↓DL.iV_ok, ↓DL.iV_bind, ↓DL.iV_stuck, ↓DL.iV_ite, ↓DL.iV_bindN, ↓DL.iV_some, ↓DL.iV_none, ↓DL.iV_oifG, ↓DL.iV_gif, ↓DL.iv_c, ↓DL.iv_bin, ↓DL.iv_un, ↓DL.iv_test, ↓DL.iv_and, ↓DL.iv_or, ↓DL.iv_not, ↓DL.iv_val, ↓DL.iv_if, ↓DL.iv_yes, ↓DL.iv_ds_nil, ↓DL.iv_ds_cons, ↓DL.iv_rs_nil, ↓DL.iv_rs_cons, ↓DL.iv_list, ↓DL.iv_tup, ↓DL.iv_callB, ↓DL.iv_part, ↓DL.iv_nopart, ↓DL.iv_sl, ↓DL.iv_meth, ↓DL.iv_repr, ↓DL.iv_rne, ↓DL.iv_req, ↓DL.iv_chain, ↓DL.iv_pass, ↓DL.iv_break, ↓DL.iv_cont, ↓DL.iv_never, ↓DL.iv_seq, ↓DL.iv_ret, ↓DL.iv_retN, ↓DL.iv_ifS, ↓DL.iv_drop, ↓DL.iv_asg, ↓DL.iv_name_val, ↓DL.iv_name_new, ↓DL.iv_name_sl, ↓DL.iv_tupG, ↓DL.iv_asg_nil, ↓DL.iv_asg_cons, ↓DL.iv_setIx, ↓DL.iv_append, ↓DL.iv_aug, ↓DL.iv_as_nil, ↓DL.iv_as_t, ↓DL.iv_as_f, ↓DL.iv_as_l, ↓DL.iv_callF, ↓DL.iv_callK, ↓DL.iv_range, ↓DL.iv_iter, ↓DL.iv_for, ↓DL.iv_lc, ↓DL.iv_par, ↓DL.iv_hs_nil, ↓DL.iv_hs_cons, ↓DL.iv_listS, ↓DL.iv_ss_nil, ↓DL.iv_ss_one, ↓DL.iv_ss_star, ↓DL.iv_enum, ↓DL.iv_make, ↓DL.iv_prop, ↓DL.iv_fldS, ↓DL.iv_pop, ↓DL.iv_popAt, ↓DL.iv_extend, ↓DL.iv_augIx, ↓DL.iv_callKL, DL.iV_ok, DL.iV_bind, DL.iV_stuck, DL.iV_ite, DL.iV_bindN, DL.iV_some, DL.iV_none, DL.iV_oifG, DL.iV_gif, DL.iv_c, DL.iv_bin, DL.iv_un, DL.iv_test, DL.iv_and, DL.iv_or, DL.iv_not, DL.iv_val, DL.iv_if, DL.iv_yes, DL.iv_ds_nil, DL.iv_ds_cons, DL.iv_rs_nil, DL.iv_rs_cons, DL.iv_list, DL.iv_tup, DL.iv_callB, DL.iv_part, DL.iv_nopart, DL.iv_sl, DL.iv_meth, DL.iv_repr, DL.iv_rne, DL.iv_req, DL.iv_chain, DL.iv_pass, DL.iv_break, DL.iv_cont, DL.iv_never, DL.iv_seq, DL.iv_ret, DL.iv_retN, DL.iv_ifS, DL.iv_drop, DL.iv_asg, DL.iv_name_val, DL.iv_name_new, DL.iv_name_sl, DL.iv_tupG, DL.iv_asg_nil, DL.iv_asg_cons, DL.iv_setIx, DL.iv_append, DL.iv_aug, DL.iv_as_nil, DL.iv_as_t, DL.iv_as_f, DL.iv_as_l, DL.iv_callF, DL.iv_callK, DL.iv_range, DL.iv_iter, DL.iv_for, DL.iv_lc, DL.iv_par, DL.iv_hs_nil, DL.iv_hs_cons, DL.iv_listS, DL.iv_ss_nil, DL.iv_ss_one, DL.iv_ss_star, DL.iv_enum, DL.iv_make, DL.iv_prop, DL.iv_fldS, DL.iv_pop, DL.iv_popAt, DL.iv_extend, DL.iv_augIx, DL.iv_callKL, DL.seqK_nx, DL.seqK_bk, DL.seqK_ct, DL.seqK_rt, DL.tupK_tup, DL.asgK_nx, DL.setN_some, DL.setK_some, DL.appK_some, DL.augS_some, DL.augK_fz, DL.asK_sl, DL.asL_sl, DL.asL_val, DL.backK_val, DL.backK_new, DL.callA_some, DL.backN_val, DL.backN_new, DL.rngK_some, DL.optR_some, DL.optR_if, DL.itK_some, DL.chK_b, DL.turnQ_nx, DL.turnQ_ct, DL.turnQ_bk, DL.turnQ_rt, DL.varK_fz, DL.varK_ow, DL.mVar_eq, DL.mC_eq, DL.data_val, DL.data_new, DL.datK_fz, DL.datK_ow, DL.data_sl, DL.frz_val, DL.frz_new, DL.frzK_fz, DL.frzK_ow, DL.frz_sl, DL.freeK_no, DL.freeK_fz, DL.freeK_ow, DL.free_eq, DL.ownL_eq, DL.ownK_fr, DL.ownK_pn, DL.datas_nil, DL.consD_ok, DL.datas_cons', DL.asB_b, DL.asI_i, DL.argSl_d, DL.argSl_s, DL.argSl_l, DL.argL_fz, DL.argL_ow, DL.argK_fz, DL.argK_fr, DL.argK_pn, DL.consO_some, DL.mkArgs_nil, DL.mkArgs_cons, DL.slotsOf_nil, DL.slotsOf_d, DL.slotsOf_s, DL.slotsOf_l, DL.noDup_nil, DL.noDup_one, DL.noDup_two, DL.putK_ow, DL.putK_fz, DL.putBack_nil, DL.putBack_d, DL.putBack_s, DL.putBack_l, DL.outEnv_nil, DL.outEnv_fz, DL.outEnv_ow, DL.finR_val, DL.finR_new, DL.finR_sl, DL.finK_fz, DL.finK_ow, DL.finQ_nx, DL.finQ_rt, DL.lockR_val, DL.lockR_new, DL.lockR_sl, DL.lokK_fz, DL.lokK_fr, DL.lokK_lk, DL.lockB_none, DL.lockB_some, DL.lokB_no, DL.lokB_fz, DL.lokB_fr, DL.unlock_none, DL.unlock_some, DL.unlK_lk, DL.optR_map_some, DL.optR_map_if, DL.wipeE_nil, DL.wipeE_cons, DL.backE_nil, DL.backE_cons, DL.plainAt_eq, DL.plaK_no, DL.plaK_fz, DL.tgm_nm, DL.tgm_tp, DL.tgms_nil, DL.tgms_cons, DL.dLt_i, DL.dLe_i, DL.dGt_i, DL.dGe_i, DL.dLt_s, DL.dLe_s, DL.dGt_s, DL.dGe_s, DL.okD_int, DL.okD_str, DL.okD_bool, DL.okD_none, DL.dMax2_i, DL.dMin2_i, DL.atD3_0, DL.atD3_1, DL.atD3_2, DL.ixN3_0, DL.ixN3_1, DL.ixN3_2, DL.dAdd, DL.dSub, DL.dDiv, DL.dMod, DL.dPow, DL.dMul, DL.dNeg, DL.dAbs, DL.dInt, DL.dLen, DL.dIs, DL.dIsNot, DL.dIAdd, DL.isNon, DL.dIx, DL.dSl, DL.dRev, DL.itemsD, List.getElem?_cons_zero, List.getElem?_cons_succ, List.getElem?_nil, List.set_cons_zero, List.set_cons_succ, List.set_nil, List.map_cons, List.map_nil, List.length_cons, List.length_nil, List.getD_cons_zero, List.getD_cons_succ, List.all_cons, List.all_nil, List.cons_append, List.nil_append, Option.isSome_some, Option.map_some, Option.map_none, true_and, and_true, Bool.and_true, Bool.true_and, Bool.not_true, Bool.not_false, if_true, if_false, ite_true, ite_false, decide_eq_true_eq, Bool.not_eq_true, Bool.not_eq_true', decide_eq_false_iff_not, not_true, not_false_iff, DL.rngOf1, DL.rngOf2, DL.seqR_some, DL.enumR_some, DL.mkK_ok, DL.prK_val, DL.prK_new, DL.fldR_some, DL.fldS_fr, DL.fldS_pn, DL.popK_some, DL.popR_some, DL.popAK_some, DL.popAR_some, DL.extK_some, DL.augM_some, DL.augN_int, DL.augJ_some, DL.augI_int, DL.seqD, DL.hold_val, DL.hold_new, DL.hold_sl, DL.slOf_val, DL.slOf_new, DL.storeHs_nil, DL.storeHs_cons, DL.isStrD_s, DL.atD2_0, DL.atD2_1, DL.atD1_0, DL.ite_and, and_false, false_and, or_false, false_or, or_true, true_or, reduceIte, reduceCtorEq, List.reduceReplicate, Nat.reduceSub, Nat.reduceAdd, Nat.reduceLeDiff, Int.reduceLT, Int.reduceLE, Int.reduceEq, Int.reduceMod, Int.reduceDiv, Int.reduceMul, Int.reduceAdd, Int.reduceSub, Int.reduceNeg, Int.reduceToNat, Bool.false_eq_true, DL.lineM, DL.pick, Nat.reduceLT])
namespace DL
open PySem PySem.Spec L2

/-- m raises c with d, P of the env then -/
def Rz {α : Type} (m : Res α) (c : Str) (d : PyData) (P : Env → Prop) : Prop := ∃ e, m = .ex c d e ∧ P e
theorem Rz.eq {α : Type} {m : Res α} {c : Str} {d : PyData} {P : Env → Prop} (h : Rz m c d P) : ∃ e, m = .ex c d e ∧ P e := h
theorem Rz.mono {α : Type} {m : Res α} {c : Str} {d : PyData} {P P' : Env → Prop} (h : Rz m c d P) (k : ∀ e, P e → P' e) : Rz m c d P' := by
  obtain ⟨e, h1, h2⟩ := h; exact ⟨e, h1, k e h2⟩
theorem rz_bind {α β : Type} {m : Res α} {k : α → Res β} {c : Str} {d : PyData} {P : Env → Prop} (h : Rz m c d P) : Rz (m >>= k) c d P := by
  obtain ⟨e, h1, h2⟩ := h; exact ⟨e, by rw [h1]; rfl, h2⟩
theorem rz_bind2 {α β : Type} {m : Res α} {k : α → Res β} {c : Str} {d : PyData} {P : Env → Prop} (h : Ev m fun a => Rz (k a) c d P) : Rz (m >>= k) c d P := by
  obtain ⟨a, h1, e, h2, h3⟩ := h.ok; exact ⟨e, by rw [h1]; exact h2, h3⟩
theorem rz_if {m n : MS} {t : MT} {env : Env} {c : Str} {d : PyData} {P : Env → Prop} (h : Ev (t env) fun z => if z.1 = true then Rz (m z.2) c d P else Rz (n z.2) c d P) : Rz (mIfS t m n env) c d P := by
  unfold mIfS
  refine rz_bind2 (h.mono fun z hz => ?_)
  split <;> rename_i hb <;> simpa [hb] using hz
theorem rz_seq1 {m n : MS} {env : Env} {c : Str} {d : PyData} {P : Env → Prop} (h : Rz (m env) c d P) : Rz (mSeq m n env) c d P := rz_bind h
theorem rz_seq2 {m n : MS} {env : Env} {c : Str} {d : PyData} {P : Env → Prop} (h : Ev (m env) fun z => z.1 = .nx ∧ Rz (n z.2) c d P) : Rz (mSeq m n env) c d P := by
  unfold mSeq
  refine rz_bind2 (h.mono fun z hz => ?_)
  obtain ⟨f, e⟩ := z
  obtain ⟨h1, h2⟩ := hz
  have h1 : f = .nx := h1
  subst h1
  exact h2
theorem rz_raise {c : Str} {f : ME} {env : Env} {d : PyData} {P : Env → Prop} (h : Ev (f env) fun z => Ev (z.1.frz z.2) fun y => y.1 = d ∧ P y.2) : Rz (mRaise c f env) c d P := by
  unfold mRaise
  refine rz_bind2 (h.mono fun z hz => rz_bind2 (hz.mono fun y hy => ⟨y.2, by rw [hy.1], hy.2⟩))
theorem rz_drop {f : ME} {env : Env} {c : Str} {d : PyData} {P : Env → Prop} (h : Rz (f env) c d P) : Rz (mDrop f env) c d P := rz_bind h
theorem rz_ret {f : ME} {env : Env} {c : Str} {d : PyData} {P : Env → Prop} (h : Rz (f env) c d P) : Rz (mRet f env) c d P := rz_bind h
theorem rz_asg {f : ME} {m : MG} {env : Env} {c : Str} {d : PyData} {P : Env → Prop} (h : Rz (f env) c d P) : Rz (mAsg f m env) c d P := rz_bind h
theorem rz_ifE {f h : ME} {t : MT} {env : Env} {c : Str} {d : PyData} {P : Env → Prop} (hh : Ev (t env) fun z => if z.1 = true then Rz (f z.2) c d P else Rz (h z.2) c d P) : Rz (mIf t f h env) c d P := by
  refine rz_bind2 (k := fun z => if z.1 = true then f z.2 else h z.2) (hh.mono fun z hz => ?_)
  by_cases hb : z.1 = true
  · simp only [hb, if_true] at hz ⊢; exact hz
  · simp only [hb, if_false] at hz ⊢; exact hz
theorem rz_un {o : PyData → Option Rv} {f : ME} {env : Env} {c : Str} {d : PyData} {P : Env → Prop} (h : Rz (f env) c d P) : Rz (mUn o f env) c d P := rz_bind h
theorem rz_binL {o : PyData → PyData → Option Rv} {f h : ME} {env : Env} {c : Str} {d : PyData} {P : Env → Prop} (hh : Rz (f env) c d P) : Rz (mBin o f h env) c d P := rz_bind hh
theorem rz_test {f : ME} {env : Env} {c : Str} {d : PyData} {P : Env → Prop} (h : Rz (f env) c d P) : Rz (mTest f env) c d P := rz_bind h
theorem rz_not {f : MT} {env : Env} {c : Str} {d : PyData} {P : Env → Prop} (h : Rz (f env) c d P) : Rz (mNot f env) c d P := rz_bind h
theorem rz_ifT {m n : MS} {t : MT} {env : Env} {c : Str} {d : PyData} {P : Env → Prop} (h : Rz (t env) c d P) : Rz (mIfS t m n env) c d P := rz_bind h
/-- the callee raises -/
theorem rz_callF {fm : FM} {ms : List Md} {fs : List ME} {env : Env} {c : Str} {d : PyData} {P : Env → Prop} (h : Ev (evAs ms fs env) fun z => noDup (slotsOf z.1) = true ∧ ∃ ae, mkArgs z.2 z.1 = some ae ∧ Rz (fm ae) c d fun e => P (putBack z.1 e z.2)) : Rz (mCallF fm ms fs env) c d P := by
  unfold mCallF
  refine rz_bind2 (h.mono fun z hz => ?_)
  obtain ⟨h1, ae, h2, e, h3, h4⟩ := hz
  exact ⟨_, by simp only [h1, h2, h3, if_true], h4⟩
theorem rz_callK {fm : FM} {perm : List Nat} {np nk : Nat} {fs ks : List ME} {env : Env} {c : Str} {d : PyData} {P : Env → Prop} (h : Ev (evDs fs env) fun z => Ev (evDs ks z.2) fun y => (z.1.length = np ∧ y.1.length = nk) ∧ Rz (fm ((pick PyData.none perm (z.1 ++ y.1)).map .fz)) c d fun _ => P y.2) : Rz (mCallK fm perm np nk fs ks env) c d P := by
  unfold mCallK
  refine rz_bind2 (h.mono fun z hz => rz_bind2 (hz.mono fun y hy => ?_))
  obtain ⟨h1, e, h3, h4⟩ := hy
  exact ⟨_, by simp only [h1, h3, and_self, if_true, fzRes], h4⟩
theorem rz_callKL {fm : FM} {ms mk : List Md} {perm : List Nat} {np nk : Nat} {fs ks : List ME} {env : Env} {c : Str} {d : PyData} {P : Env → Prop} (h : Ev (evAs ms fs env) fun z => Ev (evAs mk ks z.2) fun y => (z.1.length = np ∧ y.1.length = nk) ∧ noDup (slotsOf (pick (.d .none) perm (z.1 ++ y.1))) = true ∧ ∃ ae, mkArgs y.2 (pick (.d .none) perm (z.1 ++ y.1)) = some ae ∧ Rz (fm ae) c d fun e => P (putBack (pick (.d .none) perm (z.1 ++ y.1)) e y.2)) : Rz (mCallKL fm ms mk perm np nk fs ks env) c d P := by
  unfold mCallKL
  refine rz_bind2 (h.mono fun z hz => rz_bind2 (hz.mono fun y hy => ?_))
  obtain ⟨h1, h2, ae, h3, e, h4, h5⟩ := hy
  exact ⟨_, by simp only [h1, and_self, if_true, mTail, h2, h3, h4], h5⟩
theorem rz_def {np nl : Nat} {m : MS} {env : Env} {c : Str} {d : PyData} {P : Env → Prop} (h1 : env.length = np ∧ env.all argOk = true) (h2 : Rz (m (env ++ List.replicate (nl - np) .no)) c d fun e => env.length ≤ e.length ∧ P (outEnv env e)) : Rz (mDef np nl m env) c d P := by
  unfold mDef
  obtain ⟨e, h3, h4, h5⟩ := h2
  rw [if_pos h1, h3]
  exact ⟨_, by simp only [fin, chk, if_pos h4], h5⟩
/-! ### try -/
theorem ev_try_ok {m : MS} {l : List ExCl} {env : Env} {Q : Fl × Env → Prop} (h : Ev (m env) Q) : Ev (mTry m l env) Q := by
  obtain ⟨a, h1, h2⟩ := h.ok
  unfold mTry; rw [h1]; exact h2
theorem ev_try_ex {m : MS} {l : List ExCl} {env : Env} {c : Str} {d : PyData} {Q : Fl × Env → Prop} (h : Rz (m env) c d fun e => Ev (handleM l c d e) Q) : Ev (mTry m l env) Q := by
  obtain ⟨e, h1, h2⟩ := h
  unfold mTry; rw [h1]; exact h2
def goneQ (i : Nat) (Q : Fl × Env → Prop) : Fl × Env → Prop
  | (.rt (.val d), e) => Q (.rt (.val d), e.set i .no)
  | (.rt (.new d), e) => Q (.rt (.new d), e.set i .no)
  | (.rt (.sl j), e) => j ≠ i ∧ Q (.rt (.sl j), e.set i .no)
  | (.nx, e) => Q (.nx, e.set i .no)
  | (.bk, e) => Q (.bk, e.set i .no)
  | (.ct, e) => Q (.ct, e.set i .no)
theorem ev_gone {i : Nat} {r : Res (Fl × Env)} {Q : Fl × Env → Prop} (h : Ev r (goneQ i Q)) : Ev (goneR i r) Q := by
  obtain ⟨⟨f, e⟩, rfl, h2⟩ := h.ok
  cases f with
  | rt q =>
    cases q with
    | sl j =>
      obtain ⟨h3, h4⟩ := h2
      simp only [goneR, if_neg h3]; exact h4
    | val d => exact h2
    | new d => exact h2
  | nx => exact h2
  | bk => exact h2
  | ct => exact h2
theorem ev_handle_as {h : Str} {i : Nat} {s : MS} {r : List ExCl} {c : Str} {d : PyData} {e : Env} {Q : Fl × Env → Prop} (hx : xsub c h = some true) (hf : free e i = true) (hs : Ev (s (e.set i (.fz (excD c d)))) (goneQ i Q)) : Ev (handleM ((h, some i, s) :: r) c d e) Q := by
  unfold handleM
  rw [hx]
  dsimp only
  rw [if_pos hf]
  exact ev_gone hs
theorem ev_handle_one {h : Str} {s : MS} {r : List ExCl} {c : Str} {d : PyData} {e : Env} {Q : Fl × Env → Prop} (hx : xsub c h = some true) (hs : Ev (s e) Q) : Ev (handleM ((h, none, s) :: r) c d e) Q := by
  unfold handleM
  rw [hx]
  obtain ⟨a, h1, h2⟩ := hs.ok
  dsimp only
  rw [h1]; exact h2
theorem ev_handle_next {h : Str} {o : Option Nat} {s : MS} {r : List ExCl} {c : Str} {d : PyData} {e : Env} {Q : Fl × Env → Prop} (hx : xsub c h = some false) (hs : Ev (handleM r c d e) Q) : Ev (handleM ((h, o, s) :: r) c d e) Q := by
  cases o <;> (unfold handleM; rw [hx]; exact hs)
theorem exOf_exc {c : Str} {d : PyData} (h : errNs.contains c = true) : exOf (excD c d) = some (c, d) := by
  unfold exOf excD
  dsimp only
  rw [if_pos h]
/-! ### loops that raise -/
theorem rz_forL {gm : MG} {b : MS} {c : Str} {v d : PyData} {post : List PyData} {P : Env → Prop} (J : List PyData → Env → Prop) (hs : ∀ x r env, J (x :: r) env → Ev (gm (.val x) env) fun z => z.1 = .nx ∧ Ev (b z.2) fun y => (y.1 = .nx ∨ y.1 = .ct) ∧ J r y.2)
    (hd : ∀ env, J [] env → Ev (gm (.val d) env) fun z => z.1 = .nx ∧ Rz (b z.2) c v P) : ∀ pre env, J pre env → Rz (mForL gm b (pre ++ d :: post) env) c v P
  | [], env, h => by
    show Rz (gm (.val d) env >>= _) c v P
    refine rz_bind2 ((hd env h).mono fun z hz => ?_)
    obtain ⟨f, e⟩ := z
    obtain ⟨h1, h2⟩ := hz
    have h1 : f = .nx := h1
    subst h1
    exact rz_bind h2
  | x :: r, env, h => by
    show Rz (gm (.val x) env >>= _) c v P
    refine rz_bind2 ((hs x r env h).mono fun z hz => ?_)
    obtain ⟨f, e⟩ := z
    obtain ⟨h1, h2⟩ := hz
    have h1 : f = .nx := h1
    subst h1
    refine rz_bind2 (h2.mono fun y hy => ?_)
    obtain ⟨f2, e2⟩ := y
    obtain ⟨h3, h4⟩ := hy
    have h3 : f2 = .nx ∨ f2 = .ct := h3
    rcases h3 with rfl | rfl
    · exact rz_forL J hs hd r e2 h4
    · exact rz_forL J hs hd r e2 h4
theorem rz_for {mi : MI} {gm : MG} {b : MS} {env : Env} {c : Str} {d : PyData} {P : Env → Prop} (h : Ev (mi env) fun z => lockB z.1.2 env = true ∧ Rz (mForL gm b z.1.1 z.2) c d fun e => P (unlock z.1.2 e)) : Rz (mFor mi gm b env) c d P := by
  unfold mFor
  refine rz_bind2 (h.mono fun z hz => ?_)
  obtain ⟨h1, e, h2, h3⟩ := hz
  rw [if_pos h1, h2]
  exact ⟨_, rfl, h3⟩
end DL
namespace DL
open PySem PySem.Spec L2
theorem abc_iff {c : Nat} : c ∈ abc ↔ 97 ≤ c ∧ c ≤ 122 := ⟨ltr_abc c, fun h => mem_abc h.1 h.2⟩
theorem all_ltr {l : List Nat} : (l.all fun c => decide (c ∈ abc)) = true ↔ Ltr l := by
  rw [List.all_eq_true]
  exact ⟨fun h c hc => abc_iff.mp (of_decide_eq_true (h c hc)), fun h c hc => decide_eq_true (abc_iff.mpr (h c hc))⟩
theorem dAll_map {l : List Nat} (f : Nat → Bool) : dAll [.list (l.map fun c => .bool (f c))] = some (.val (.bool (l.all f))) := by
  have : (l.map fun c => PyData.bool (f c)) = (l.map f).map .bool := by rw [List.map_map]; rfl
  show (asBools _).map _ = _
  rw [this, asBools_map]
  simp [List.all_map]
instance (l : List Nat) : Decidable (Ltr l) := by unfold Ltr; infer_instance
def rowG : PyData → PyData
  | .str x => .bool (decide (x.cps.toList.headD 0 ∈ abc))
  | _ => .none
theorem rowG_S (c : Nat) : rowG (.str (S [c])) = .bool (decide (c ∈ abc)) := by
  simp only [rowG, S_cps, List.headD_cons]
/-- any text: are its signs letters -/
theorem ev_is_rowA {l : List Nat} {Q : Rv × Env → Prop} (hm : l.length ≤ 10000) (k : Q (.val (.bool (decide (Ltr l))), [.fz (.str (S l))])) : Ev (M_is_row [.fz (.str (S l))]) Q := by
  refine Ev_defI ⟨rfl, rfl⟩ ?_
  unfold B_is_row
  simp_arith [S_cps, S_sign]
  refine ev_lc_pure rowG (name_nx 1) (by simp; omega) ?_ ?_
  · intro d hd
    obtain ⟨c, hc, rfl⟩ := List.mem_map.mp hd
    simp_arith [lit_abc, dIn_S, rowG_S]
  · simp_arith [Ev_eq]
    have e : List.map rowG (List.map (fun c => PyData.str (S [c])) l) = l.map fun c => PyData.bool (decide (c ∈ abc)) := by
      rw [List.map_map]
      apply List.map_congr_left
      intro c _
      exact rowG_S c
    rw [e, dAll_map]
    simp_arith [Ev_eq]
    have e2 : (l.all fun c => decide (c ∈ abc)) = decide (Ltr l) := by
      by_cases h : Ltr l
      · rw [decide_eq_true h, all_ltr.mpr h]
      · rw [decide_eq_false h]; exact Bool.eq_false_iff.mpr fun z => h (all_ltr.mp z)
    rw [e2]
    exact k
theorem rz_check_text {l : List Nat} (hm : l.length ≤ 10000) (hb : ¬ Ltr l) : Rz (M_check_text [.fz (.str (S l))]) "InvalidText" (.str (S l)) (fun e => e = [.fz (.str (S l))]) := by
  refine rz_def ⟨rfl, rfl⟩ ?_
  unfold B_check_text
  refine rz_if ?_
  simp_arith [Ev_eq]
  refine ev_is_rowA hm ?_
  rw [decide_eq_false hb]
  simp_arith [Ev_eq]
  refine rz_raise ?_
  simp_arith [Ev_eq]
theorem rz_root0 : Rz (M_root [.fz (.str (S []))]) "InvalidText" (.str (S [])) (fun e => e = [.fz (.str (S []))]) := by
  refine rz_def ⟨rfl, rfl⟩ ?_
  unfold B_root
  refine rz_seq1 (rz_if ?_)
  simp_arith [lit_nil, dEq_s]
  refine rz_raise ?_
  simp_arith [Ev_eq]
theorem rz_root {l : List Nat} (h0 : l ≠ []) (hm : l.length ≤ 10000) (hb : ¬ Ltr l) : Rz (M_root [.fz (.str (S l))]) "InvalidText" (.str (S l)) (fun e => e = [.fz (.str (S l))]) := by
  refine rz_def ⟨rfl, rfl⟩ ?_
  unfold B_root
  refine rz_seq2 ?_
  simp_arith [lit_nil, dEq_s, h0]
  refine rz_seq1 (rz_drop (rz_callF ?_))
  simp_arith [Ev_eq]
  refine ⟨_, rfl, (rz_check_text hm hb).mono ?_⟩
  rintro e rfl
  exact ⟨Nat.le_refl _, rfl⟩
theorem rz_commute1 {l r : List Nat} (hm : l.length ≤ 10000) (hb : ¬ Ltr l) : Rz (M_commute [.fz (.str (S l)), .fz (.str (S r))]) "InvalidText" (.str (S l)) (fun e => e = [.fz (.str (S l)), .fz (.str (S r))]) := by
  refine rz_def ⟨rfl, rfl⟩ ?_
  unfold B_commute
  refine rz_seq1 (rz_drop (rz_callF ?_))
  simp_arith [Ev_eq]
  refine ⟨_, rfl, (rz_check_text hm hb).mono ?_⟩
  rintro e rfl
  exact ⟨Nat.le_refl _, rfl⟩
theorem rz_commute2 {l r : List Nat} (hl : Ltr l) (hm : l.length ≤ 10000) (hm2 : r.length ≤ 10000) (hb : ¬ Ltr r) : Rz (M_commute [.fz (.str (S l)), .fz (.str (S r))]) "InvalidText" (.str (S r)) (fun e => e = [.fz (.str (S l)), .fz (.str (S r))]) := by
  refine rz_def ⟨rfl, rfl⟩ ?_
  unfold B_commute
  refine rz_seq2 ?_
  simp_arith [Ev_eq]
  refine ev_check_text hl hm ?_
  simp_arith [Ev_eq]
  refine rz_seq1 (rz_drop (rz_callF ?_))
  simp_arith [Ev_eq]
  refine ⟨_, rfl, (rz_check_text hm2 hb).mono ?_⟩
  rintro e rfl
  exact ⟨Nat.le_refl _, rfl⟩
theorem dIsX_exc {c h : Str} {b : Bool} {d : PyData} (hc : errNs.contains c = true) (hx : xsub c h = some b) : dIsX h (excD c d) = some (.val (.bool b)) := by
  unfold dIsX; rw [exOf_exc hc]; simp only [Option.bind_some, hx, Option.map_some]
theorem dIsXT_exc {c : Str} {hs : List Str} {b : Bool} {d : PyData} (hc : errNs.contains c = true) (hx : xany c hs = some b) : dIsXT hs (excD c d) = some (.val (.bool b)) := by
  unfold dIsXT; rw [exOf_exc hc]; simp only [Option.bind_some, hx, Option.map_some]
theorem dXv_exc {c : Str} {d : PyData} (hc : errNs.contains c = true) : dXv (excD c d) = some (.val d) := by
  unfold dXv; rw [exOf_exc hc]; rfl
end DL
namespace DL
open PySem PySem.Spec L2
def fltD (l : List Nat) : PyData := .list [.bool false, .bool true, .bool false, .str (S l)]
theorem ev_flags_k34_t {l : List Nat} {Q : Rv × Env → Prop} (k : Q (.new (fltD l), [.fz (excD "InvalidText" (.str (S l)))])) : Ev (M_law_flags_k34 [.fz (excD "InvalidText" (.str (S l)))]) Q := by
  have e1 : dIsXT ["InvalidReading", "InvalidWord", "NotApart", "NotOneWay", "NothingToUndo", "TooMany", "Unreadable"] (excD "InvalidText" (.str (S l))) = some (.val (.bool false)) := dIsXT_exc (by decide) (by decide)
  have e2 : dIsX "InvalidNumber" (excD "InvalidText" (.str (S l))) = some (.val (.bool false)) := dIsX_exc (by decide) (by decide)
  have e3 : dIsX "InvalidText" (excD "InvalidText" (.str (S l))) = some (.val (.bool true)) := dIsX_exc (by decide) (by decide)
  have e4 : dIsX "ValueError" (excD "InvalidText" (.str (S l))) = some (.val (.bool true)) := dIsX_exc (by decide) (by decide)
  have e5 : dXv (excD "InvalidText" (.str (S l))) = some (.val (.str (S l))) := dXv_exc (by decide)
  generalize excD "InvalidText" (.str (S l)) = X at *
  refine Ev_defI ⟨rfl, rfl⟩ ?_
  unfold B_law_flags_k34
  simp_arith [e1, e2, e3, e4, e5]
  exact k
/-- what a call is to end with -/
def out37 (way : Int) (l r : List Nat) : PyData := if way < 2 then (if l = [] ∨ ¬ Ltr l then fltD l else .none) else if ¬ Ltr l then fltD l else if ¬ Ltr r then fltD r else .none
noncomputable def body37 : MS := mIfS (mTest (mBin dEq (mVar 0) (mC (.int 0)))) (mDrop (mCallF M_root [.c] [(mVar 1)])) (mIfS (mTest (mBin dEq (mVar 0) (mC (.int 1)))) (mDrop (mCallK M_root [0] 0 1 [] [(mVar 1)])) (mIfS (mTest (mBin dEq (mVar 0) (mC (.int 2)))) (mDrop (mCallF M_commute [.c, .c] [(mVar 1), (mVar 2)])) (mDrop (mCallK M_commute [1, 0] 0 2 [] [(mVar 2), (mVar 1)]))))
abbrev env37 (way : Int) (l r : List Nat) : Env := [.fz (.int way), .fz (.str (S l)), .fz (.str (S r)), .fz .none, .no]
theorem root_cases {l : List Nat} (hl : l.length ≤ 1000) : (¬ (l = [] ∨ ¬ Ltr l) ∧ ∃ v, M_root [.fz (.str (S l))] = .ok (.val v, [.fz (.str (S l))])) ∨ ((l = [] ∨ ¬ Ltr l) ∧ Rz (M_root [.fz (.str (S l))]) "InvalidText" (.str (S l)) (fun e => e = [.fz (.str (S l))])) := by
  by_cases h1 : l = []
  · subst h1; exact .inr ⟨.inl rfl, rz_root0⟩
  · by_cases h2 : Ltr l
    · refine .inl ⟨fun z => z.elim h1 fun q => q h2, ?_⟩
      have h0 : 0 < l.length := List.length_pos_iff.mpr h1
      obtain ⟨s, hs⟩ := mn_ex h0
      have := ev_root (Q := fun z => ∃ v, z = (.val v, [.fz (.str (S l))])) h2 hs h0 (by omega) ⟨_, rfl⟩
      obtain ⟨z, h3, v, rfl⟩ := this.ok
      exact ⟨v, h3⟩
    · exact .inr ⟨.inr h2, rz_root h1 (by omega) h2⟩
theorem commute_cases {l r : List Nat} (hl : l.length ≤ 1000) (hr : r.length ≤ 1000) : (Ltr l ∧ Ltr r ∧ ∃ v, M_commute [.fz (.str (S l)), .fz (.str (S r))] = .ok (.val v, [.fz (.str (S l)), .fz (.str (S r))])) ∨
    (¬ Ltr l ∧ Rz (M_commute [.fz (.str (S l)), .fz (.str (S r))]) "InvalidText" (.str (S l)) (fun e => e = [.fz (.str (S l)), .fz (.str (S r))])) ∨ (Ltr l ∧ ¬ Ltr r ∧ Rz (M_commute [.fz (.str (S l)), .fz (.str (S r))]) "InvalidText" (.str (S r)) (fun e => e = [.fz (.str (S l)), .fz (.str (S r))])) := by
  by_cases h1 : Ltr l
  · by_cases h2 : Ltr r
    · have := ev_commute (Q := fun z => ∃ v, z = (.val v, [.fz (.str (S l)), .fz (.str (S r))])) h1 h2 (by omega) (by omega) ⟨_, rfl⟩
      obtain ⟨z, h3, v, rfl⟩ := this.ok
      exact .inl ⟨h1, h2, v, h3⟩
    · exact .inr (.inr ⟨h1, h2, rz_commute2 h1 (by omega) (by omega) h2⟩)
  · exact .inr (.inl ⟨h1, rz_commute1 (by omega) h1⟩)
theorem body37_cases {way : Int} {l r : List Nat} (h0 : 0 ≤ way) (h4 : way < 4) (hl : l.length ≤ 1000) (hr : r.length ≤ 1000) :
    (out37 way l r = .none ∧ Ev (body37 (env37 way l r)) fun z => z = (.nx, env37 way l r)) ∨ ∃ bad, out37 way l r = fltD bad ∧ Rz (body37 (env37 way l r)) "InvalidText" (.str (S bad)) fun e => e = env37 way l r := by
  have hw : way = 0 ∨ way = 1 ∨ way = 2 ∨ way = 3 := by omega
  rcases hw with rfl | rfl | rfl | rfl
  · rcases root_cases hl with ⟨h1, v, h2⟩ | ⟨h1, h2⟩
    · refine .inl ⟨by unfold out37; rw [if_pos (by omega), if_neg h1], ?_⟩
      unfold body37
      simp_arith [dEq_i, h2]
    · refine .inr ⟨l, by unfold out37; rw [if_pos (by omega), if_pos h1], ?_⟩
      unfold body37
      refine rz_if ?_
      simp_arith [dEq_i]
      refine rz_drop (rz_callF ?_)
      simp_arith [Ev_eq]
      refine ⟨_, rfl, h2.mono ?_⟩
      rintro e rfl
      rfl
  · rcases root_cases hl with ⟨h1, v, h2⟩ | ⟨h1, h2⟩
    · refine .inl ⟨by unfold out37; rw [if_pos (by omega), if_neg h1], ?_⟩
      unfold body37
      simp_arith [dEq_i, h2, pick]
    · refine .inr ⟨l, by unfold out37; rw [if_pos (by omega), if_pos h1], ?_⟩
      unfold body37
      refine rz_if ?_
      simp_arith [dEq_i]
      refine rz_if ?_
      simp_arith [dEq_i]
      refine rz_drop (rz_callK ?_)
      simp_arith [pick]
      exact h2.mono fun e _ => trivial
  · rcases commute_cases hl hr with ⟨h1, h2, v, h3⟩ | ⟨h1, h2⟩ | ⟨h1, h2, h3⟩
    · refine .inl ⟨by unfold out37; rw [if_neg (by omega), if_neg (not_not_intro h1), if_neg (not_not_intro h2)], ?_⟩
      unfold body37
      simp_arith [dEq_i, h3]
    · refine .inr ⟨l, by unfold out37; rw [if_neg (by omega), if_pos h1], ?_⟩
      unfold body37
      refine rz_if ?_
      simp_arith [dEq_i]
      refine rz_if ?_
      simp_arith [dEq_i]
      refine rz_if ?_
      simp_arith [dEq_i]
      refine rz_drop (rz_callF ?_)
      simp_arith [Ev_eq]
      refine ⟨_, rfl, h2.mono ?_⟩
      rintro e rfl
      rfl
    · refine .inr ⟨r, by unfold out37; rw [if_neg (by omega), if_neg (not_not_intro h1), if_pos h2], ?_⟩
      unfold body37
      refine rz_if ?_
      simp_arith [dEq_i]
      refine rz_if ?_
      simp_arith [dEq_i]
      refine rz_if ?_
      simp_arith [dEq_i]
      refine rz_drop (rz_callF ?_)
      simp_arith [Ev_eq]
      refine ⟨_, rfl, h3.mono ?_⟩
      rintro e rfl
      rfl
  · rcases commute_cases hl hr with ⟨h1, h2, v, h3⟩ | ⟨h1, h2⟩ | ⟨h1, h2, h3⟩
    · refine .inl ⟨by unfold out37; rw [if_neg (by omega), if_neg (not_not_intro h1), if_neg (not_not_intro h2)], ?_⟩
      unfold body37
      simp_arith [dEq_i, h3, pick]
    · refine .inr ⟨l, by unfold out37; rw [if_neg (by omega), if_pos h1], ?_⟩
      unfold body37
      refine rz_if ?_
      simp_arith [dEq_i]
      refine rz_if ?_
      simp_arith [dEq_i]
      refine rz_if ?_
      simp_arith [dEq_i]
      refine rz_drop (rz_callK ?_)
      simp_arith [pick]
      exact h2.mono fun e _ => trivial
    · refine .inr ⟨r, by unfold out37; rw [if_neg (by omega), if_neg (not_not_intro h1), if_pos h2], ?_⟩
      unfold body37
      refine rz_if ?_
      simp_arith [dEq_i]
      refine rz_if ?_
      simp_arith [dEq_i]
      refine rz_if ?_
      simp_arith [dEq_i]
      refine rz_drop (rz_callK ?_)
      simp_arith [pick]
      exact h3.mono fun e _ => trivial
theorem ev_caught_k37 {way : Int} {l r : List Nat} {Q : Rv × Env → Prop} (h0 : 0 ≤ way) (h4 : way < 4) (hl : l.length ≤ 1000) (hr : r.length ≤ 1000)
    (k : ∀ v, (v = .val (out37 way l r) ∨ v = .new (out37 way l r)) → Q (v, [.fz (.int way), .fz (.str (S l)), .fz (.str (S r))])) : Ev (M_law_caught_k37 [.fz (.int way), .fz (.str (S l)), .fz (.str (S r))]) Q := by
  refine Ev_defI ⟨rfl, rfl⟩ ?_
  unfold B_law_caught_k37
  simp_arith [Ev_eq]
  rcases body37_cases h0 h4 hl hr with ⟨h1, h2⟩ | ⟨bad, h1, h2⟩
  · refine ev_try_ok (h2.mono ?_)
    rintro z rfl
    simp_arith [Ev_eq]
    exact k _ (.inl (by rw [h1]))
  · refine ev_try_ex (h2.mono ?_)
    rintro e rfl
    refine ev_handle_as (by decide) rfl ?_
    simp_arith [Ev_eq]
    refine ev_flags_k34_t ?_
    simp_arith [goneQ]
    exact k _ (.inr (by rw [h1]))
theorem ev_caught_g {F : FM} (hF : M_law_caught_k37 = F) {way : Int} {l r : List Nat} {Q : Rv × Env → Prop} (h0 : 0 ≤ way) (h4 : way < 4) (hl : l.length ≤ 1000) (hr : r.length ≤ 1000)
    (k : ∀ v, (v = .val (out37 way l r) ∨ v = .new (out37 way l r)) → Q (v, [.fz (.int way), .fz (.str (S l)), .fz (.str (S r))])) : Ev (F [.fz (.int way), .fz (.str (S l)), .fz (.str (S r))]) Q := by
  subst hF
  exact ev_caught_k37 h0 h4 hl hr k
def oddsL : List PyData := [.str (S [32]), .str (S [65]), .str (S [48]), .str (S [45]), .str (S [126]), .str (S [90]), .str (S [63]), .str (S [123]), .str (S [96]), .str (S [46]), .str (S [124])]
theorem od_32 : (" " : Str) = S [32] := by decide +kernel
theorem od_65 : ("A" : Str) = S [65] := by decide +kernel
theorem od_48 : ("0" : Str) = S [48] := by decide +kernel
theorem od_45 : ("-" : Str) = S [45] := by decide +kernel
theorem od_126 : ("~" : Str) = S [126] := by decide +kernel
theorem od_90 : ("Z" : Str) = S [90] := by decide +kernel
theorem od_63 : ("?" : Str) = S [63] := by decide +kernel
theorem od_123 : ("{" : Str) = S [123] := by decide +kernel
theorem od_96 : ("`" : Str) = S [96] := by decide +kernel
theorem od_46 : ("." : Str) = S [46] := by decide +kernel
theorem od_124 : ("|" : Str) = S [124] := by decide +kernel
theorem odds_lit : ([.str " ", .str "A", .str "0", .str "-", .str "~", .str "Z", .str "?", .str "{", .str "`", .str ".", .str "|"] : List PyData) = oddsL := by unfold oddsL; rw [od_32, od_65, od_48, od_45, od_126, od_90, od_63, od_123, od_96, od_46, od_124]
theorem odds_mem {d : PyData} (h : d ∈ oddsL) : ∃ c, d = .str (S [c]) ∧ ¬ (97 ≤ c ∧ c ≤ 122) ∧ c < 128 := by
  unfold oddsL at h
  simp only [List.mem_cons, List.not_mem_nil, or_false] at h
  rcases h with h | h | h | h | h | h | h | h | h | h | h <;> exact ⟨_, h, by omega, by omega⟩
theorem ev_bent_k37 {p : PyData} {n : Nat} {l : List Nat} {Q : Rv × Env → Prop} (hp : Pl n p) (hn : n < 2 ^ 50) (hl : Ltr l) (hm : l.length ≤ 400)
    (k : ∀ b p', ¬ Ltr b → b.length ≤ 401 → (∀ c ∈ b, c < 0x110000) → Pl (n + 2) p' → Q (.val (.str (S b)), [.ow .pn p', .fz (.str (S l))])) : Ev (M_law_bent_k37 [.ow .pn p, .fz (.str (S l))]) Q := by
  refine Ev_defI ⟨rfl, rfl⟩ ?_
  unfold B_law_bent_k37
  simp_arith [S_len]
  refine ⟨by omega, ev_draw hp (by omega) (by omega) (by omega) fun r p1 r0 r1 hp1 => ?_⟩
  simp_arith [odds_lit]
  refine ⟨by decide, ?_⟩
  simp_arith [S_len, cut_take _ r0]
  refine ⟨by omega, ?_⟩
  refine ev_draw hp1 (by omega) (by decide) (by decide) fun r2 p2 r20 r21 hp2 => ?_
  simp_arith [Ev_eq]
  refine ev_at r20 (by show r2 < ((oddsL.length : Nat) : Int); exact r21) fun d hd => ?_
  obtain ⟨c, rfl, hc, hc2⟩ := odds_mem hd
  simp_arith [S_len, S_app, cut_take _ r0, cut_drop _ r0]
  have t1 : (l.take r.toNat).length ≤ l.length := by rw [List.length_take]; omega
  have t2 : (l.drop r.toNat).length ≤ l.length := by simp
  have t3 : (l.take r.toNat).length + (l.drop r.toNat).length = l.length := by rw [← List.length_append, List.take_append_drop]
  refine ⟨by omega, by omega, by rw [List.length_append, List.length_singleton]; omega, ?_⟩
  refine k (l.take r.toNat ++ [c] ++ l.drop r.toNat) _ (fun z => hc (z c (by simp))) (by rw [List.length_append, List.length_append, List.length_singleton]; omega) (fun x hx => ?_) (hp2.mono (by omega))
  rcases List.mem_append.mp hx with hx | hx
  · rcases List.mem_append.mp hx with hx | hx
    · exact hl.ok x (List.mem_of_mem_take hx)
    · rw [List.mem_singleton.mp hx]; omega
  · exact hl.ok x (List.mem_of_mem_drop hx)
def g37 (a b : List Nat) : PyData → PyData
  | .int w => out37 w a b
  | _ => .none
theorem lc37 {s0 s1 s2 s3 s4 s5 s7 s8 : Sl} {fa fb : ME} {a b : List Nat} {ds : List PyData} {Q : List PyData × Env → Prop} (hw : ∀ d ∈ ds, ∃ w : Int, d = .int w ∧ 0 ≤ w ∧ w < 4)
    (ha : ∀ w, fa [s0, s1, s2, s3, s4, s5, .fz (.int w), s7, s8] = .ok (.val (.str (S a)), [s0, s1, s2, s3, s4, s5, .fz (.int w), s7, s8])) (hb : ∀ w, fb [s0, s1, s2, s3, s4, s5, .fz (.int w), s7, s8] = .ok (.val (.str (S b)), [s0, s1, s2, s3, s4, s5, .fz (.int w), s7, s8]))
    (la : a.length ≤ 1000) (lb : b.length ≤ 1000) (ld : ds.length ≤ 100) (k : Q (ds.map (g37 a b), [s0, s1, s2, s3, s4, s5, .no, s7, s8])) :
    Ev (mLcL (mName 6) mYes (mCallF M_law_caught_k37 [.c, .c, .c] [mVar 6, fa, fb]) [6] ds [] [s0, s1, s2, s3, s4, s5, .no, s7, s8]) Q := by
  refine ev_lc_pure (g37 a b) (name_nx 6) (by omega) (fun d hd => ?_) k
  obtain ⟨w, rfl, w0, w4⟩ := hw d hd
  simp_arith [ha, hb]
  refine ev_caught_k37 w0 w4 la lb fun v hv => ?_
  rcases hv with rfl | rfl
  · simp_arith [Ev_eq]
    rfl
  · simp_arith [Ev_eq]
    rfl
theorem out_bad {w : Int} {a b : List Nat} (h : ¬ Ltr a) : out37 w a b = fltD a := by
  unfold out37
  rw [if_pos (show a = [] ∨ ¬ Ltr a from .inr h), if_pos h, ite_self]
theorem out_worse {w : Int} {a b : List Nat} (hw : 2 ≤ w) (h : Ltr a) (h2 : ¬ Ltr b) : out37 w a b = fltD b := by
  unfold out37
  rw [if_neg (by omega), if_neg (not_not_intro h), if_pos h2]
theorem out_none {w : Int} {a b : List Nat} (h0 : a ≠ [] ∨ 2 ≤ w) (h : Ltr a) (h2 : Ltr b) : out37 w a b = .none := by
  unfold out37
  rw [if_neg (not_not_intro h), if_neg (not_not_intro h2)]
  by_cases hw : w < 2
  · rw [if_pos hw, if_neg fun z => z.elim (fun q => h0.elim (fun z => z q) fun z => by omega) fun q => q h]
  · rw [if_neg hw]
theorem out_nil {w : Int} {b : List Nat} (hw : w < 2) : out37 w [] b = fltD [] := by
  unfold out37
  rw [if_pos hw, if_pos (.inl rfl)]
theorem rg4 : rangeD 0 4 = [.int 0, .int 1, .int 2, .int 3] := rfl
theorem hw4 : ∀ d ∈ [PyData.int 0, .int 1, .int 2, .int 3], ∃ w : Int, d = .int w ∧ 0 ≤ w ∧ w < 4 := by
  intro d hd
  simp only [List.mem_cons, List.not_mem_nil, or_false] at hd
  rcases hd with h | h | h | h <;> exact ⟨_, h, by omega, by omega⟩
theorem hw2 : ∀ d ∈ [PyData.int 2, .int 3], ∃ w : Int, d = .int w ∧ 0 ≤ w ∧ w < 4 := fun d hd => hw4 d (by
  simp only [List.mem_cons, List.not_mem_nil, or_false] at hd ⊢
  rcases hd with h | h <;> simp [h])
theorem sh_flt {l : List Nat} (h : ∀ c ∈ l, c < 0x110000) : Sh (fltD l) 1 (4 + l.length + 100) :=
  (Sh.list (k := 0) (.cons (Sh.bool (w := 0)) (.cons (Sh.bool (w := 0)) (.cons (Sh.bool (w := 0)) (.cons (Sh.str h) .nil))))).mono (by omega) (by omega)
theorem round_k37 : Round 1100 M_law_right_k37 := by
  intro p n Q hp hn k
  refine Ev_defI ⟨rfl, rfl⟩ ?_
  unfold B_law_right_k37
  simp_arith [Ev_eq]
  refine ev_line_k36 hp (by omega) (by decide) (by decide) fun l p1 hl l0 l1 hp1 => ?_
  simp_arith [Ev_eq]
  refine ev_line_k36 hp1 (by omega) (by decide) (by decide) fun r p2 hr r0 r1 hp2 => ?_
  simp_arith [Ev_eq]
  refine ev_bent_k37 hp2 (by omega) hl l1 fun b p3 hb b1 bo hp3 => ?_
  simp_arith [Ev_eq]
  refine ev_bent_k37 hp3 (by omega) hr r1 fun w p4 hw w1 wo hp4 => ?_
  simp_arith [rngOf1]
  refine ⟨by decide, ?_⟩
  rw [rg4]
  refine lc37 (a := b) (b := r) hw4 (fun _ => rfl) (fun _ => rfl) (by omega) (by omega) (by decide) ?_
  have hf : ∀ x, PyData.list [.bool false, .bool true, .bool false, .str (S x)] = fltD x := fun _ => rfl
  have shb := sh_flt bo
  have shw := sh_flt wo
  obtain ⟨e0, he⟩ : ∃ e0 : List Nat, e0 = [] := ⟨[], rfl⟩
  have lit0 : ("" : Str) = S e0 := by rw [he, lit_nil]
  have he0 : e0.length = 0 := by rw [he]; rfl
  have shn : Sh (fltD e0) 1 (4 + 0 + 100) := (sh_flt (l := e0) (by rw [he]; simp)).mono (by omega) (by omega)
  have ok4 : okR (.list [fltD b, fltD b, fltD b, fltD b]) = true := (Sh.list (.cons shb (.cons shb (.cons shb (.cons shb .nil))))).okR (by omega) (by omega)
  have ok2 : okR (.list [fltD b, fltD b]) = true := (Sh.list (.cons shb (.cons shb .nil))).okR (by omega) (by omega)
  have okw : okR (.list [fltD w, fltD w]) = true := (Sh.list (.cons shw (.cons shw .nil))).okR (by omega) (by omega)
  have okn : okR (.list [fltD e0, fltD e0, .none, .none]) = true := (Sh.list (.cons shn (.cons shn (.cons (Sh.none (w := 0)) (.cons (Sh.none (w := 0)) .nil))))).okR (by omega) (by omega)
  have hnil : Ltr e0 := by rw [he]; unfold Ltr; simp
  have nn10 : Sh (.list [.none, .none, .none, .none, .none, .none, .none, .none, .none, .none]) 1 100 := (Sh.list (k := 0) (.cons (Sh.none (w := 0)) (.cons (Sh.none (w := 0)) (.cons (Sh.none (w := 0)) (.cons (Sh.none (w := 0)) (.cons (Sh.none (w := 0)) (.cons (Sh.none (w := 0)) (.cons (Sh.none (w := 0)) (.cons (Sh.none (w := 0)) (.cons (Sh.none (w := 0)) (.cons (Sh.none (w := 0)) .nil))))))))))).mono (by omega) (by omega)
  have hl0 : l ≠ [] := List.length_pos_iff.mp l0
  simp_arith [g37, out_bad hb, hf, ok4, List.flatten_cons, List.flatten_nil]
  refine ⟨by decide, lc37 (a := b) (b := w) hw2 (fun _ => rfl) (fun _ => rfl) (by omega) (by omega) (by decide) ?_⟩
  simp_arith [g37, out_bad hb, hf, ok2, List.flatten_cons, List.flatten_nil]
  refine ⟨by decide, ?_⟩
  refine ev_forL (name_nx 7) (fun (rest : List PyData) (env : Env) => (∀ d ∈ rest, ∃ x, d = .str (S x) ∧ Ltr x ∧ x.length ≤ 400) ∧ ∃ k5 s7, freeK (some s7) = true ∧ (k5 = Sl.ow Kd.fr (fltD w) ∨ k5 = Sl.fz (fltD w)) ∧ env = [Sl.ow Kd.pn p4, Sl.fz (.str (S l)), Sl.fz (.str (S r)), Sl.fz (.str (S b)), Sl.fz (.str (S w)), k5, Sl.no, s7, Sl.no]) ?_ ?_ _ _ ⟨?_, _, _, rfl, .inl rfl, rfl⟩
  · rintro d ds env ⟨hd, k5, s7, f7, h5, rfl⟩
    obtain ⟨x, rfl, hx, hx1⟩ := hd d (by simp)
    have hd' : ∀ d ∈ ds, ∃ x, d = .str (S x) ∧ Ltr x ∧ x.length ≤ 400 := fun d' h => hd d' (List.mem_cons_of_mem _ h)
    simp_arith [f7]
    refine lc37 (a := x) (b := w) hw2 (fun _ => rfl) (fun _ => rfl) (by omega) (by omega) (by decide) ?_
    have o2 := out_worse (w := 2) (by omega) hx hw
    have o3 := out_worse (w := 3) (by omega) hx hw
    rcases h5 with rfl | rfl
    · simp_arith [g37, o2, o3, okw, List.flatten_cons, List.flatten_nil]
      exact ⟨by decide, hd', _, _, rfl, .inr rfl, rfl⟩
    · simp_arith [g37, o2, o3, okw, List.flatten_cons, List.flatten_nil]
      exact ⟨by decide, hd', _, _, rfl, .inr rfl, rfl⟩
  · rintro env ⟨_, k5, s7, f7, h5, rfl⟩
    have o0 : out37 0 e0 r = fltD e0 := by rw [he]; exact out_nil (by omega)
    have o1 : out37 1 e0 r = fltD e0 := by rw [he]; exact out_nil (by omega)
    have o2 := out_none (w := 2) (a := e0) (.inr (by omega)) hnil hr
    have o3 := out_none (w := 3) (a := e0) (.inr (by omega)) hnil hr
    have on : ∀ w : Int, out37 w l r = .none := fun w => out_none (.inl hl0) hl hr
    have on2 : ∀ w : Int, out37 w l e0 = .none := fun w => out_none (.inl hl0) hl hnil
    have on3 := out_none (w := 2) (a := e0) (.inr (by omega)) hnil hnil
    have on4 := out_none (w := 3) (a := e0) (.inr (by omega)) hnil hnil
    rcases h5 with rfl | rfl
    all_goals
      simp_arith [rngOf1, lit0, hf]
      refine ⟨by decide, ?_⟩
      rw [rg4]
      refine lc37 (a := e0) (b := r) hw4 (fun _ => rfl) (fun _ => rfl) (by omega) (by omega) (by decide) ?_
      simp_arith [g37, o0, o1, o2, o3, okn, rngOf1]
      refine ⟨by decide, ?_⟩
      rw [rg4]
      refine lc37 (a := l) (b := r) hw4 (fun _ => rfl) (fun _ => rfl) (by omega) (by omega) (by decide) ?_
      simp_arith [g37, on, rngOf1]
      refine ⟨by decide, ?_⟩
      rw [rg4]
      refine lc37 (a := l) (b := e0) hw4 (fun _ => rfl) (fun _ => rfl) (by omega) (by omega) (by decide) ?_
      simp_arith [g37, on2]
      generalize hF : M_law_caught_k37 = F
      refine ev_caught_g hF (l := e0) (r := e0) (by decide) (by decide) (by omega) (by omega) fun v hv => ?_
      rw [on3] at hv
      have fin : Q (.val (.bool true), [.ow .pn p4]) := k p4 (hp4.mono (by omega))
      rcases hv with rfl | rfl
      all_goals
        simp_arith [on, on2]
        refine ev_caught_g hF (l := e0) (r := e0) (by decide) (by decide) (by omega) (by omega) fun v hv => ?_
        rw [on4] at hv
        rcases hv with rfl | rfl
        all_goals
          simp_arith [on, on2, List.flatten_cons, List.flatten_nil, dEq_same nn10 (by decide)]
          exact ⟨by decide, fin⟩
  · intro d hd
    simp only [List.mem_cons, List.not_mem_nil, or_false] at hd
    rcases hd with h | h
    · exact ⟨l, h, hl, l1⟩
    · exact ⟨e0, by rw [h, lit0], hnil, by omega⟩
theorem plain_k37 : Holds M_law_k37 63 := frameN round_k37 (by decide) (by decide) (by decide) (by decide) (by decide)
end DL
end
end
namespace DL.K37
open PySem PySem.Spec L2 DL
open PyProof.Rows (envOfC)
def topS (i : Nat) : Stmt := PySem.Challenge.pw_wordhulls_k37_errors_of_roots.main.body.getD i (.Pass ⟨0, 0, 0, 0⟩)
/-- what the top has for names that are no defs -/
structure Txt (K : PySem.W.Frag) (mg : Str → Option Value) : Prop where
  z_ValueError : mg "ValueError" = none
  z_abs : mg "abs" = none
  z_all : mg "all" = none
  z_int : mg "int" = none
  z_isinstance : mg "isinstance" = none
  z_len : mg "len" = none
  z_max : mg "max" = none
  z_min : mg "min" = none
  z_range : mg "range" = none
  z_repr : mg "repr" = none
  u_LETTERS : ∃ t, mg "LETTERS" = some (.str "abcdefghijklmnopqrstuvwxyz" t)
  ea : ErrAll K mg
  h_InvalidNumber : SubC K mg "InvalidNumber"
  h_InvalidReading : SubC K mg "InvalidReading"
  h_InvalidText : SubC K mg "InvalidText"
  h_InvalidWord : SubC K mg "InvalidWord"
  h_NotApart : SubC K mg "NotApart"
  h_NotOneWay : SubC K mg "NotOneWay"
  h_NothingToUndo : SubC K mg "NothingToUndo"
  h_TooMany : SubC K mg "TooMany"
  h_Unreadable : SubC K mg "Unreadable"
  h_WordError : SubC K mg "WordError"
theorem Txt.g_LETTERS {X : Cx} {K : PySem.W.Frag} {mg : Str → Option Value} (T : Txt K mg) (W : WX) (pos : Pos) (hx : mg = X.mg) (hg : Gl X "LETTERS" := by rfl) : DE X W (.Name "LETTERS" pos) (mC (.str "abcdefghijklmnopqrstuvwxyz")) := by
  obtain ⟨t, e⟩ := T.u_LETTERS
  subst hx
  exact de_glob (v := (V.str "abcdefghijklmnopqrstuvwxyz")) hg e ⟨t, rfl⟩ (fun _ => .str _ (by decide +kernel))
abbrev s_law_pool : Stmt := topS 20
abbrev N_law_pool : List Str := ["script", "spot", "cell"]
theorem sc_law_pool : FnScope N_law_pool ["script", "spot"] (defScope s_law_pool) := ⟨rfl, rfl, rfl, by decide +kernel, rfl, by decide +kernel, by decide +kernel⟩
abbrev s_law_draw : Stmt := topS 21
abbrev N_law_draw : List Str := ["pool", "span", "drawn", "mixed"]
theorem sc_law_draw : FnScope N_law_draw ["pool", "span"] (defScope s_law_draw) := ⟨rfl, rfl, rfl, by decide +kernel, rfl, by decide +kernel, by decide +kernel⟩
abbrev s_law_line_k36 : Stmt := topS 22
abbrev N_law_line_k36 : List Str := ["pool", "most_here", "signs", "size", "found", "turn", "spot"]
theorem sc_law_line_k36 : FnScope N_law_line_k36 ["pool", "most_here"] (defScope s_law_line_k36) := ⟨rfl, rfl, rfl, by decide +kernel, rfl, by decide +kernel, by decide +kernel⟩
abbrev s_law_bent_k37 : Stmt := topS 25
abbrev N_law_bent_k37 : List Str := ["pool", "line", "spot", "odd"]
theorem sc_law_bent_k37 : FnScope N_law_bent_k37 ["pool", "line"] (defScope s_law_bent_k37) := ⟨rfl, rfl, rfl, by decide +kernel, rfl, by decide +kernel, by decide +kernel⟩
abbrev s_is_row : Stmt := topS 13
abbrev N_is_row : List Str := ["signs", "sign"]
theorem sc_is_row : FnScope N_is_row ["signs"] (defScope s_is_row) := ⟨rfl, rfl, rfl, by decide +kernel, rfl, by decide +kernel, by decide +kernel⟩
abbrev s_check_text : Stmt := topS 14
abbrev N_check_text : List Str := ["text"]
theorem sc_check_text : FnScope N_check_text ["text"] (defScope s_check_text) := ⟨rfl, rfl, rfl, by decide +kernel, rfl, by decide +kernel, by decide +kernel⟩
abbrev s_root_of : Stmt := topS 16
abbrev N_root_of : List Str := ["text", "size"]
theorem sc_root_of : FnScope N_root_of ["text"] (defScope s_root_of) := ⟨rfl, rfl, rfl, by decide +kernel, rfl, by decide +kernel, by decide +kernel⟩
abbrev s_root : Stmt := topS 17
abbrev N_root : List Str := ["text"]
theorem sc_root : FnScope N_root ["text"] (defScope s_root) := ⟨rfl, rfl, rfl, by decide +kernel, rfl, by decide +kernel, by decide +kernel⟩
abbrev s_law_flags_k34 : Stmt := topS 23
abbrev N_law_flags_k34 : List Str := ["e", "odd", "found"]
theorem sc_law_flags_k34 : FnScope N_law_flags_k34 ["e"] (defScope s_law_flags_k34) := ⟨rfl, rfl, rfl, by decide +kernel, rfl, by decide +kernel, by decide +kernel⟩
abbrev s_commute : Stmt := topS 18
abbrev N_commute : List Str := ["one", "other"]
theorem sc_commute : FnScope N_commute ["one", "other"] (defScope s_commute) := ⟨rfl, rfl, rfl, by decide +kernel, rfl, by decide +kernel, by decide +kernel⟩
abbrev s_law_caught_k37 : Stmt := topS 24
abbrev N_law_caught_k37 : List Str := ["way", "left", "right", "caught", "e"]
theorem sc_law_caught_k37 : FnScope N_law_caught_k37 ["way", "left", "right"] (defScope s_law_caught_k37) := ⟨rfl, rfl, rfl, by decide +kernel, rfl, by decide +kernel, by decide +kernel⟩
abbrev s_law_right_k37 : Stmt := topS 26
abbrev N_law_right_k37 : List Str := ["pool", "left", "right", "bad", "worse", "fault", "way", "start", "told"]
theorem sc_law_right_k37 : FnScope N_law_right_k37 ["pool"] (defScope s_law_right_k37) := ⟨rfl, rfl, rfl, by decide +kernel, rfl, by decide +kernel, by decide +kernel⟩
abbrev s_law_k37 : Stmt := topS 27
abbrev N_law_k37 : List Str := ["script", "spot", "pool", "turn"]
theorem sc_law_k37 : FnScope N_law_k37 ["script"] (defScope s_law_k37) := ⟨rfl, rfl, rfl, by decide +kernel, rfl, by decide +kernel, by decide +kernel⟩
abbrev s_errInit : Stmt := inClass (topS 1) 0
section
variable {P : Program} {w : World} {K : PySem.W.Frag} {mg : Str → Option Value} {base : Heap} {fa : Addr} {fd : FuncData}
theorem fn_law_pool (F : Fun K "_law_pool" "_law_pool" s_law_pool fa fd) (T : Txt K mg)     : FnG P w K mg base 1 fa fd ["script", "spot"] M_law_pool :=
  fng_of (k := 0) F sc_law_pool fun cdv A outer s H E hr gd => (dss_cons (ds_set (i := 2) sc_law_pool.nd rfl (Or.inl rfl) de_int)
  (dss_cons (ds_if (dt_lt  (dv 1) (de_len  T.z_len (da_cons (dv 0) da_nil))) (dss_one (ds_set (i := 2) sc_law_pool.nd rfl (Or.inl rfl) (de_at (dv 0) (dv 1)))) dss_nil)
  (dss_one (ds_ret (de_list (da_cons (de_max2 rfl T.z_max (da_cons de_int (da_cons (de_sub (de_abs  T.z_abs (da_cons (dv 2) da_nil)) (de_pow de_int de_int)) da_nil))) (da_cons (de_add (de_mod (de_intc  T.z_int (da_cons (dv 2) da_nil)) de_int) (de_mul de_int (de_add (dv 1) de_int))) (da_cons de_int da_nil))))))))
theorem fn_law_draw (F : Fun K "_law_draw" "_law_draw" s_law_draw fa fd) (T : Txt K mg)     : FnG P w K mg base 1 fa fd ["pool", "span"] M_law_draw :=
  fng_of (k := 0) F sc_law_draw fun cdv A outer s H E hr gd => (dss_cons (ds_if (dt_gt  (de_at (dv 0) de_int) de_int) (dss_cons (ds_set (i := 2) sc_law_draw.nd rfl (Or.inl rfl) (de_mod (de_intc  T.z_int (da_cons (de_at (dv 0) de_int) da_nil)) (dv 1)))
  (dss_cons (ds_setIx (j := 0) (de_div (de_at (dv 0) de_int) (dv 1)) de_int rfl (by first | exact Or.inl rfl | exact Or.inr (Or.inl rfl)))
  (dss_one (ds_ret (dv 2))))) dss_nil)
  (dss_cons (ds_setIx (j := 0) (de_add (de_at (dv 0) de_int) de_int) de_int rfl (by first | exact Or.inl rfl | exact Or.inr (Or.inl rfl)))
  (dss_cons (ds_set (i := 3) sc_law_draw.nd rfl (Or.inl rfl) (de_mod (de_intc  T.z_int (da_cons (de_pow (de_add (de_at (dv 0) de_int) (de_mul de_int (de_at (dv 0) de_int))) de_int) da_nil)) de_int))
  (dss_cons (ds_set (i := 3) sc_law_draw.nd rfl (Or.inl rfl) (de_mod (de_intc  T.z_int (da_cons (de_pow (de_add (dv 3) (de_mul de_int (de_at (dv 0) de_int))) de_int) da_nil)) de_int))
  (dss_one (ds_ret (de_mod (de_intc  T.z_int (da_cons (de_div (dv 3) de_int) da_nil)) (dv 1))))))))
theorem fn_law_line_k36 (F : Fun K "_law_line" "_law_line" s_law_line_k36 fa fd) (T : Txt K mg)   (c_law_draw : Cal P w K mg base "_law_draw" s_law_draw 1 ["pool", "span"] M_law_draw)  : FnG P w K mg base 2 fa fd ["pool", "most_here"] M_law_line_k36 :=
  fng_of (k := 1) F sc_law_line_k36 fun cdv A outer s H E hr gd => (dss_cons (ds_set (i := 2) sc_law_line_k36.nd rfl (Or.inr rfl) (de_at (de_list (da_cons de_str (da_cons de_str (da_cons de_str (da_cons de_str da_nil))))) (dcall c_law_draw hr (by decide) gd (takes_of rfl rfl rfl rfl) [.p, .c] (da_cons (dv 0) (da_cons de_int da_nil)))))
  (dss_cons (ds_set (i := 3) sc_law_line_k36.nd rfl (Or.inl rfl) (de_at (de_list (da_cons (de_add de_int (dcall c_law_draw hr (by decide) gd (takes_of rfl rfl rfl rfl) [.p, .c] (da_cons (dv 0) (da_cons de_int da_nil)))) (da_cons (de_add de_int (dcall c_law_draw hr (by decide) gd (takes_of rfl rfl rfl rfl) [.p, .c] (da_cons (dv 0) (da_cons de_int da_nil)))) (da_cons (de_add de_int (dcall c_law_draw hr (by decide) gd (takes_of rfl rfl rfl rfl) [.p, .l] (da_cons (dv 0) (da_cons (dv 1) da_nil)))) da_nil)))) (dcall c_law_draw hr (by decide) gd (takes_of rfl rfl rfl rfl) [.p, .c] (da_cons (dv 0) (da_cons de_int da_nil)))))
  (dss_cons (ds_set (i := 4) sc_law_line_k36.nd rfl (Or.inl rfl) (de_join de_str (de_lc (own := [("turn", 5)]) (t := (.nm 5)) rfl sc_law_line_k36.nd (di_range1 T.z_range (dv 3)) (blkOk_by (own := [("turn", 5)]) (N := N_law_line_k36) (sc := defScope s_law_line_k36) (by decide +kernel)) (by decide) (fun _ _ _ _ _ => (dtg_name (i := 5) sc_law_line_k36.nd rfl (Or.inl rfl))) (fun _ _ _ _ _ => dts_nil) (fun _ _ _ _ _ => (de_at (dv 2) (dcall c_law_draw hr (by decide) gd takes0 [.p, .c] (da_cons (dv 0) (da_cons (de_len  T.z_len (da_cons (dv 2) da_nil)) da_nil))))))))
  (dss_cons (ds_set (i := 4) sc_law_line_k36.nd rfl (Or.inl rfl) (de_mul (dv 4) (de_add de_int (dcall c_law_draw hr (by decide) gd (takes_of rfl rfl rfl rfl) [.p, .c] (da_cons (dv 0) (da_cons (de_div (dv 1) (de_len  T.z_len (da_cons (dv 4) da_nil))) da_nil))))))
  (dss_cons (ds_if (dt_eq (hu64 hr) (dcall c_law_draw hr (by decide) gd (takes_of rfl rfl rfl rfl) [.p, .c] (da_cons (dv 0) (da_cons de_int da_nil))) de_int) (dss_cons (ds_set (i := 6) sc_law_line_k36.nd rfl (Or.inl rfl) (dcall c_law_draw hr (by decide) gd (takes_of rfl rfl rfl rfl) [.p, .c] (da_cons (dv 0) (da_cons (de_len  T.z_len (da_cons (dv 4) da_nil)) da_nil))))
  (dss_one (ds_set (i := 4) sc_law_line_k36.nd rfl (Or.inl rfl) (de_add (de_add (de_cut (dv 4) do_none (do_some (dv 6))) de_str) (de_cut (dv 4) (do_some (de_add (dv 6) de_int)) do_none))))) dss_nil)
  (dss_one (ds_ret (dv 4))))))))
theorem fn_law_bent_k37 (F : Fun K "_law_bent" "_law_bent" s_law_bent_k37 fa fd) (T : Txt K mg)   (c_law_draw : Cal P w K mg base "_law_draw" s_law_draw 1 ["pool", "span"] M_law_draw)  : FnG P w K mg base 2 fa fd ["pool", "line"] M_law_bent_k37 :=
  fng_of (k := 1) F sc_law_bent_k37 fun cdv A outer s H E hr gd => (dss_cons (ds_par2 (i := 2) (j := 3) rfl sc_law_bent_k37.nd rfl rfl (by decide) rfl rfl (da_cons (dcall c_law_draw hr (by decide) gd (takes_of rfl rfl rfl rfl) [.p, .c] (da_cons (dv 0) (da_cons (de_add (de_len  T.z_len (da_cons (dv 1) da_nil)) de_int) da_nil))) (da_cons (de_list (da_cons de_str (da_cons de_str (da_cons de_str (da_cons de_str (da_cons de_str (da_cons de_str (da_cons de_str (da_cons de_str (da_cons de_str (da_cons de_str (da_cons de_str da_nil)))))))))))) da_nil)))
  (dss_one (ds_ret (de_add (de_add (de_cut (dv 1) do_none (do_some (dv 2))) (de_at (dv 3) (dcall c_law_draw hr (by decide) gd (takes_of rfl rfl rfl rfl) [.p, .c] (da_cons (dv 0) (da_cons de_int da_nil))))) (de_cut (dv 1) (do_some (dv 2)) do_none)))))
theorem fn_is_row (F : Fun K "is_row" "is_row" s_is_row fa fd) (T : Txt K mg)     : FnG P w K mg base 1 fa fd ["signs"] M_is_row :=
  fng_of (k := 0) F sc_is_row fun cdv A outer s H E hr gd => (dss_one (ds_ret (de_all rfl T.z_all (da_cons (de_lc (own := [("sign", 1)]) (t := (.nm 1)) rfl sc_is_row.nd (di_val (dv 0)) (blkOk_by (own := [("sign", 1)]) (N := N_is_row) (sc := defScope s_is_row) (by decide +kernel)) (by decide) (fun _ _ _ _ _ => (dtg_name (i := 1) sc_is_row.nd rfl (Or.inl rfl))) (fun _ _ _ _ _ => dts_nil) (fun _ _ _ _ _ => (de_in (hu65 hr) (dv 1) (T.g_LETTERS _ _ rfl)))) da_nil))))
theorem fn_check_text (F : Fun K "check_text" "check_text" s_check_text fa fd) (T : Txt K mg) (r_InvalidText : ErrF P K mg "InvalidText")  (c_is_row : Cal P w K mg base "is_row" s_is_row 1 ["signs"] M_is_row)  : FnG P w K mg base 3 fa fd ["text"] M_check_text :=
  fng_of (k := 2) F sc_check_text fun cdv A outer s H E hr gd => (dss_one (ds_if (dt_not (dt_val (dcall c_is_row hr (by decide) gd (takes_of rfl rfl rfl rfl) [.l] (da_cons (dv 0) da_nil)))) (dss_one (ds_raise r_InvalidText hr (by decide) rfl (takes_of rfl rfl rfl rfl) (dv 0))) dss_nil))
theorem fn_root_of (F : Fun K "root_of" "root_of" s_root_of fa fd) (T : Txt K mg)     : FnG P w K mg base 1 fa fd ["text"] M_root_of :=
  fng_of (k := 0) F sc_root_of fun cdv A outer s H E hr gd => (dss_cons (ds_set (i := 1) sc_root_of.nd rfl (Or.inl rfl) de_int)
  (dss_cons (ds_while (passes_of rfl) (dt_w (dw_or (dt_gt  (de_mod (de_len  T.z_len (da_cons (dv 0) da_nil)) (dv 1)) de_int) (dw_or1 (dt_ne (hu64 hr) (de_mul (de_cut (dv 0) do_none (do_some (dv 1))) (de_div (de_len  T.z_len (da_cons (dv 0) da_nil)) (dv 1))) (dv 0))))) (dss_one (ds_aug (i := 1) sc_root_of.nd rfl (Or.inl rfl) ip_addD good_iadd de_int)))
  (dss_one (ds_ret (de_cut (dv 0) do_none (do_some (dv 1)))))))
theorem fn_root (F : Fun K "root" "root" s_root fa fd) (T : Txt K mg) (r_InvalidText : ErrF P K mg "InvalidText")  (c_check_text : Cal P w K mg base "check_text" s_check_text 3 ["text"] M_check_text) (c_root_of : Cal P w K mg base "root_of" s_root_of 1 ["text"] M_root_of)  : FnG P w K mg base 4 fa fd ["text"] M_root :=
  fng_of (k := 3) F sc_root fun cdv A outer s H E hr gd => (dss_cons (ds_if (dt_eq (hu64 hr) (dv 0) de_str) (dss_one (ds_raise r_InvalidText hr (by decide) rfl (takes_of rfl rfl rfl rfl) (dv 0))) dss_nil)
  (dss_cons (ds_expr (dcall c_check_text hr (by decide) gd (takes_of rfl rfl rfl rfl) [.c] (da_cons (dv 0) da_nil)))
  (dss_one (ds_ret (de_tup (da_cons (dcall c_root_of hr (by decide) gd (takes_of rfl rfl rfl rfl) [.l] (da_cons (dv 0) da_nil)) (da_cons (de_div (de_len  T.z_len (da_cons (dv 0) da_nil)) (de_len  T.z_len (da_cons (dcall c_root_of hr (by decide) gd (takes_of rfl rfl rfl rfl) [.l] (da_cons (dv 0) da_nil)) da_nil))) da_nil)))))))
theorem fn_law_flags_k34 (F : Fun K "_law_flags" "_law_flags" s_law_flags_k34 fa fd) (T : Txt K mg) : FnGH P w K mg base 1 fa fd ["e"] M_law_flags_k34 :=
  fngh_of (k := 0) F sc_law_flags_k34 fun cdv A outer s H E hr gd => (dss_cons (ds_set (i := 1) sc_law_flags_k34.nd rfl (Or.inl rfl) (de_isXT T.ea T.z_isinstance (dv 0) (dcs_cons T.h_InvalidReading (dcs_cons T.h_InvalidWord (dcs_cons T.h_NotApart (dcs_cons T.h_NotOneWay (dcs_cons T.h_NothingToUndo (dcs_cons T.h_TooMany (dcs_cons T.h_Unreadable dcs_nil)))))))))
  (dss_cons (ds_set (i := 2) sc_law_flags_k34.nd rfl (Or.inl rfl) (de_list (da_cons (de_isX T.ea T.h_InvalidNumber T.z_isinstance (dv 0)) (da_cons (de_isX T.ea T.h_InvalidText T.z_isinstance (dv 0)) (da_cons (de_or (dv 1) (de_one (de_not (de_isXV T.ea T.z_isinstance T.z_ValueError (dv 0))))) da_nil)))))
  (dss_one (ds_ret (de_add (dv 2) (de_list (da_cons (de_xv T.ea (dv 0)) da_nil)))))))
theorem fn_commute (F : Fun K "commute" "commute" s_commute fa fd) (T : Txt K mg)   (c_check_text : Cal P w K mg base "check_text" s_check_text 3 ["text"] M_check_text)  : FnG P w K mg base 4 fa fd ["one", "other"] M_commute :=
  fng_of (k := 3) F sc_commute fun cdv A outer s H E hr gd => (dss_cons (ds_expr (dcall c_check_text hr (by decide) gd (takes_of rfl rfl rfl rfl) [.c] (da_cons (dv 0) da_nil)))
  (dss_cons (ds_expr (dcall c_check_text hr (by decide) gd (takes_of rfl rfl rfl rfl) [.c] (da_cons (dv 1) da_nil)))
  (dss_one (ds_ret (de_eq (hu64 hr) (de_add (dv 0) (dv 1)) (de_add (dv 1) (dv 0)))))))
theorem fn_law_caught_k37 (F : Fun K "_law_caught" "_law_caught" s_law_caught_k37 fa fd) (T : Txt K mg)  (c_law_flags_k34 : CalH P w K mg base "_law_flags" s_law_flags_k34 1 ["e"] M_law_flags_k34) (c_root : Cal P w K mg base "root" s_root 4 ["text"] M_root) (c_commute : Cal P w K mg base "commute" s_commute 4 ["one", "other"] M_commute)  : FnG P w K mg base 5 fa fd ["way", "left", "right"] M_law_caught_k37 :=
  fng_of (k := 4) F sc_law_caught_k37 fun cdv A outer s H E hr gd => (dss_cons (ds_set (i := 3) sc_law_caught_k37.nd rfl (Or.inl rfl) de_non)
  (dss_cons (ds_try rfl rfl rfl sc_law_caught_k37.nd (takes_of rfl rfl rfl rfl) (fun W' pn xe tk ps => (dss_one (ds_if (dt_eq (hu64 hr) (dv 0) de_int) (dss_one (ds_expr (dcall c_root hr (by decide) gd tk [.c] (da_cons (dv 1) da_nil)))) (dss_one (ds_if (dt_eq (hu64 hr) (dv 0) de_int) (dss_one (ds_expr (dcallK0 c_root hr (by decide) gd tk [0] ["text"] (fun _ _ _ _ _ _ us ws h1 h2 => match us, ws, h1, h2 with | [], [_], _, _ => rfl) (by decide) rfl (dk_cons (dv 1) dk_nil)))) (dss_one (ds_if (dt_eq (hu64 hr) (dv 0) de_int) (dss_one (ds_expr (dcall c_commute hr (by decide) gd tk [.c, .c] (da_cons (dv 1) (da_cons (dv 2) da_nil))))) (dss_one (ds_expr (dcallK0 c_commute hr (by decide) gd tk [1, 0] ["other", "one"] (fun _ _ _ _ _ _ us ws h1 h2 => match us, ws, h1, h2 with | [], [_, _], _, _ => rfl) (by decide) rfl (dk_cons (dv 2) (dk_cons (dv 1) dk_nil))))))))))))
  (.as T.h_WordError rfl (by decide) (i := 4) rfl rfl (fun a pn => (dss_one (ds_set (i := 3) sc_law_caught_k37.nd rfl (Or.inl rfl) (dcallHs c_law_flags_k34 hr (by decide) gd takes0 [.c] (da_cons (dv 4) da_nil))))) .nil))
  (dss_one (ds_ret (dv 3)))))
theorem fn_law_right_k37 (F : Fun K "_law_right" "_law_right" s_law_right_k37 fa fd) (T : Txt K mg)   (c_law_line_k36 : Cal P w K mg base "_law_line" s_law_line_k36 2 ["pool", "most_here"] M_law_line_k36) (c_law_bent_k37 : Cal P w K mg base "_law_bent" s_law_bent_k37 2 ["pool", "line"] M_law_bent_k37) (c_law_caught_k37 : Cal P w K mg base "_law_caught" s_law_caught_k37 5 ["way", "left", "right"] M_law_caught_k37)  : FnG P w K mg base 6 fa fd ["pool"] M_law_right_k37 :=
  fng_of (k := 5) F sc_law_right_k37 fun cdv A outer s H E hr gd => (dss_cons (ds_asg (de_tup (da_cons (dcall c_law_line_k36 hr (by decide) gd (takes_of rfl rfl rfl rfl) [.p, .c] (da_cons (dv 0) (da_cons de_int da_nil))) (da_cons (dcall c_law_line_k36 hr (by decide) gd (takes_of rfl rfl rfl rfl) [.p, .c] (da_cons (dv 0) (da_cons de_int da_nil))) da_nil))) (dg_tup rfl (dgs_cons (dg_name (i := 1) sc_law_right_k37.nd rfl (Or.inr rfl)) (dgs_cons (dg_name (i := 2) sc_law_right_k37.nd rfl (Or.inr rfl)) dgs_nil))))
  (dss_cons (ds_asg (de_tup (da_cons (dcall c_law_bent_k37 hr (by decide) gd (takes_of rfl rfl rfl rfl) [.p, .c] (da_cons (dv 0) (da_cons (dv 1) da_nil))) (da_cons (dcall c_law_bent_k37 hr (by decide) gd (takes_of rfl rfl rfl rfl) [.p, .c] (da_cons (dv 0) (da_cons (dv 2) da_nil))) da_nil))) (dg_tup rfl (dgs_cons (dg_name (i := 3) sc_law_right_k37.nd rfl (Or.inr rfl)) (dgs_cons (dg_name (i := 4) sc_law_right_k37.nd rfl (Or.inr rfl)) dgs_nil))))
  (dss_cons (ds_set (i := 5) sc_law_right_k37.nd rfl (Or.inl rfl) (de_list (da_cons de_bl (da_cons de_bl (da_cons de_bl (da_cons (dv 3) da_nil))))))
  (dss_cons (ds_if (dt_rne (dr_repr gd (hu65 hr) T.z_repr (de_lc (own := [("way", 6)]) (t := (.nm 6)) rfl sc_law_right_k37.nd (di_range1 T.z_range de_int) (blkOk_by (own := [("way", 6)]) (N := N_law_right_k37) (sc := defScope s_law_right_k37) (by decide +kernel)) (by decide) (fun _ _ _ _ _ => (dtg_name (i := 6) sc_law_right_k37.nd rfl (Or.inl rfl))) (fun _ _ _ _ _ => dts_nil) (fun _ _ _ _ _ => (dcall c_law_caught_k37 hr (by decide) gd takes0 [.c, .c, .c] (da_cons (dv 6) (da_cons (dv 3) (da_cons (dv 2) da_nil))))))) (dr_repr gd (hu65 hr) T.z_repr (de_mul (de_list (da_cons (dv 5) da_nil)) de_int))) (dss_one (ds_ret de_bl)) dss_nil)
  (dss_cons (ds_if (dt_rne (dr_repr gd (hu65 hr) T.z_repr (de_lc (own := [("way", 6)]) (t := (.nm 6)) rfl sc_law_right_k37.nd (di_val (de_tup (da_cons de_int (da_cons de_int da_nil)))) (blkOk_by (own := [("way", 6)]) (N := N_law_right_k37) (sc := defScope s_law_right_k37) (by decide +kernel)) (by decide) (fun _ _ _ _ _ => (dtg_name (i := 6) sc_law_right_k37.nd rfl (Or.inl rfl))) (fun _ _ _ _ _ => dts_nil) (fun _ _ _ _ _ => (dcall c_law_caught_k37 hr (by decide) gd takes0 [.c, .c, .c] (da_cons (dv 6) (da_cons (dv 3) (da_cons (dv 4) da_nil))))))) (dr_repr gd (hu65 hr) T.z_repr (de_mul (de_list (da_cons (dv 5) da_nil)) de_int))) (dss_one (ds_ret de_bl)) dss_nil)
  (dss_cons (ds_set (i := 5) sc_law_right_k37.nd rfl (Or.inl rfl) (de_list (da_cons de_bl (da_cons de_bl (da_cons de_bl (da_cons (dv 4) da_nil))))))
  (dss_cons (ds_for (passes_of rfl) rfl (di_val (de_tup (da_cons (dv 1) (da_cons de_str da_nil)))) (dg_name (i := 7) sc_law_right_k37.nd rfl (Or.inr rfl)) (dss_one (ds_if (dt_rne (dr_repr gd (hu65 hr) T.z_repr (de_lc (own := [("way", 6)]) (t := (.nm 6)) rfl sc_law_right_k37.nd (di_val (de_tup (da_cons de_int (da_cons de_int da_nil)))) (blkOk_by (own := [("way", 6)]) (N := N_law_right_k37) (sc := defScope s_law_right_k37) (by decide +kernel)) (by decide) (fun _ _ _ _ _ => (dtg_name (i := 6) sc_law_right_k37.nd rfl (Or.inl rfl))) (fun _ _ _ _ _ => dts_nil) (fun _ _ _ _ _ => (dcall c_law_caught_k37 hr (by decide) gd takes0 [.c, .c, .c] (da_cons (dv 6) (da_cons (dv 7) (da_cons (dv 4) da_nil))))))) (dr_repr gd (hu65 hr) T.z_repr (de_mul (de_list (da_cons (dv 5) da_nil)) de_int))) (dss_one (ds_ret de_bl)) dss_nil)))
  (dss_cons (ds_set (i := 5) sc_law_right_k37.nd rfl (Or.inl rfl) (de_list (da_cons de_bl (da_cons de_bl (da_cons de_bl (da_cons de_str da_nil))))))
  (dss_cons (ds_if (dt_rne (dr_repr gd (hu65 hr) T.z_repr (de_lc (own := [("way", 6)]) (t := (.nm 6)) rfl sc_law_right_k37.nd (di_range1 T.z_range de_int) (blkOk_by (own := [("way", 6)]) (N := N_law_right_k37) (sc := defScope s_law_right_k37) (by decide +kernel)) (by decide) (fun _ _ _ _ _ => (dtg_name (i := 6) sc_law_right_k37.nd rfl (Or.inl rfl))) (fun _ _ _ _ _ => dts_nil) (fun _ _ _ _ _ => (dcall c_law_caught_k37 hr (by decide) gd takes0 [.c, .c, .c] (da_cons (dv 6) (da_cons de_str (da_cons (dv 2) da_nil))))))) (dr_repr gd (hu65 hr) T.z_repr (de_list (da_cons (dv 5) (da_cons (dv 5) (da_cons de_non (da_cons de_non da_nil))))))) (dss_one (ds_ret de_bl)) dss_nil)
  (dss_cons (ds_set (i := 8) sc_law_right_k37.nd rfl (Or.inl rfl) (de_add (de_lc (own := [("way", 6)]) (t := (.nm 6)) rfl sc_law_right_k37.nd (di_range1 T.z_range de_int) (blkOk_by (own := [("way", 6)]) (N := N_law_right_k37) (sc := defScope s_law_right_k37) (by decide +kernel)) (by decide) (fun _ _ _ _ _ => (dtg_name (i := 6) sc_law_right_k37.nd rfl (Or.inl rfl))) (fun _ _ _ _ _ => dts_nil) (fun _ _ _ _ _ => (dcall c_law_caught_k37 hr (by decide) gd takes0 [.c, .c, .c] (da_cons (dv 6) (da_cons (dv 1) (da_cons (dv 2) da_nil)))))) (de_lc (own := [("way", 6)]) (t := (.nm 6)) rfl sc_law_right_k37.nd (di_range1 T.z_range de_int) (blkOk_by (own := [("way", 6)]) (N := N_law_right_k37) (sc := defScope s_law_right_k37) (by decide +kernel)) (by decide) (fun _ _ _ _ _ => (dtg_name (i := 6) sc_law_right_k37.nd rfl (Or.inl rfl))) (fun _ _ _ _ _ => dts_nil) (fun _ _ _ _ _ => (dcall c_law_caught_k37 hr (by decide) gd takes0 [.c, .c, .c] (da_cons (dv 6) (da_cons (dv 1) (da_cons de_str da_nil))))))))
  (dss_one (ds_ret (de_eq (hu64 hr) (de_add (dv 8) (de_list (da_cons (dcall c_law_caught_k37 hr (by decide) gd (takes_of rfl rfl rfl rfl) [.c, .c, .c] (da_cons de_int (da_cons de_str (da_cons de_str da_nil)))) (da_cons (dcall c_law_caught_k37 hr (by decide) gd (takes_of rfl rfl rfl rfl) [.c, .c, .c] (da_cons de_int (da_cons de_str (da_cons de_str da_nil)))) da_nil)))) (de_mul (de_list (da_cons de_non da_nil)) de_int))))))))))))))
theorem fn_law_k37 (F : Fun K "law" "law" s_law_k37 fa fd) (T : Txt K mg)   (c_law_pool : Cal P w K mg base "_law_pool" s_law_pool 1 ["script", "spot"] M_law_pool) (c_law_right_k37 : Cal P w K mg base "_law_right" s_law_right_k37 6 ["pool"] M_law_right_k37)  : FnG P w K mg base 7 fa fd ["script"] M_law_k37 :=
  fng_of (k := 6) F sc_law_k37 fun cdv A outer s H E hr gd => (dss_cons (ds_for (passes_of rfl) rfl (di_range1 T.z_range (de_max2 rfl T.z_max (da_cons de_int (da_cons (de_min2 rfl T.z_min (da_cons de_int (da_cons (de_len  T.z_len (da_cons (dv 0) da_nil)) da_nil))) da_nil)))) (dg_name (i := 1) sc_law_k37.nd rfl (Or.inl rfl)) (dss_cons (ds_set (i := 2) sc_law_k37.nd rfl (Or.inl rfl) (dcall c_law_pool hr (by decide) gd (takes_of rfl rfl rfl rfl) [.l, .c] (da_cons (dv 0) (da_cons (dv 1) da_nil))))
  (dss_one (ds_for (passes_of rfl) rfl (di_range1 T.z_range de_int) (dg_name (i := 3) sc_law_k37.nd rfl (Or.inl rfl)) (dss_one (ds_if (dt_not (dt_val (dcall c_law_right_k37 hr (by decide) gd (takes_of rfl rfl rfl rfl) [.p] (da_cons (dv 2) da_nil)))) (dss_one (ds_ret de_bl)) dss_nil))))))
  (dss_one (ds_ret de_bl)))
end
theorem plain : Holds M_law_k37 63 := plain_k37
theorem all_mk {l : PySem.W.OpenLaw} {w : World} {K : PySem.W.Frag} {h : Heap} {mg : Str → Option Value} {fa f1 f2 f3 f4 f5 f6 f7 f8 f9 f10 f11 f12 f13 : Addr} (X : K.In h) (G : h.Ns mainGlobals mg) (hfa : mg "law" = some (.ref fa))
    {od1 an1 od2 an2 od3 an3 od4 an4 od5 an5 od6 an6 od7 an7 od8 an8 od9 an9 od10 an10 od11 an11 od12 an12 od13 an13 : Option Addr} {sl1 sl2 sl3 sl4 sl5 sl6 sl7 sl8 sl9 sl10 sl11 sl12 sl13 : Array (Option Value)} {oc1 kV1 dc1 pm1 cd1 ct1 oc2 kV2 dc2 pm2 cd2 ct2 oc3 kV3 dc3 pm3 cd3 ct3 oc4 kV4 dc4 pm4 cd4 ct4 oc5 kV5 dc5 pm5 cd5 ct5 oc6 kV6 dc6 pm6 cd6 ct6 oc7 kV7 dc7 pm7 cd7 ct7 oc8 kV8 dc8 pm8 cd8 ct8 oc9 kV9 dc9 pm9 cd9 ct9 oc10 kV10 dc10 pm10 cd10 ct10 oc11 kV11 dc11 pm11 cd11 ct11 oc12 kV12 dc12 pm12 cd12 ct12 oc13 kV13 dc13 pm13 cd13 ct13 : Value}
    {t_LETTERS : _}
    {E_WordError E_InvalidWord E_InvalidNumber E_InvalidText E_InvalidReading E_NotOneWay E_NotApart E_NothingToUndo E_TooMany E_Unreadable : Addr}
    (eA_WordError : PySem.W.nsIn K mainGlobals "WordError" = some (some (.ref E_WordError)))
    (eA_InvalidWord : PySem.W.nsIn K mainGlobals "InvalidWord" = some (some (.ref E_InvalidWord)))
    (eA_InvalidNumber : PySem.W.nsIn K mainGlobals "InvalidNumber" = some (some (.ref E_InvalidNumber)))
    (eA_InvalidText : PySem.W.nsIn K mainGlobals "InvalidText" = some (some (.ref E_InvalidText)))
    (eA_InvalidReading : PySem.W.nsIn K mainGlobals "InvalidReading" = some (some (.ref E_InvalidReading)))
    (eA_NotOneWay : PySem.W.nsIn K mainGlobals "NotOneWay" = some (some (.ref E_NotOneWay)))
    (eA_NotApart : PySem.W.nsIn K mainGlobals "NotApart" = some (some (.ref E_NotApart)))
    (eA_NothingToUndo : PySem.W.nsIn K mainGlobals "NothingToUndo" = some (some (.ref E_NothingToUndo)))
    (eA_TooMany : PySem.W.nsIn K mainGlobals "TooMany" = some (some (.ref E_TooMany)))
    (eA_Unreadable : PySem.W.nsIn K mainGlobals "Unreadable" = some (some (.ref E_Unreadable)))
    (eS : PySem.W.specialIn K (.builtin "object.__class__") "__get__" = some (some (.builtin "getset_descriptor.__get__")))
    (eT : PySem.W.takesIn K (.builtin "object.__class__") = some true)
    (eg_WordError : PySem.W.findIn K (.ref E_WordError) "__getattribute__" = some (some (.builtin "BaseException.__getattribute__")))
    (eh_WordError : PySem.W.findIn K (.ref E_WordError) "__getattr__" = some none)
    (ed_WordError : PySem.W.hasDictIn K E_WordError = true)
    (ec_WordError : PySem.W.findIn K (.ref E_WordError) "__class__" = some (some (.builtin "object.__class__")))
    (em_WordError : PySem.W.mroIn K E_WordError (.type "object") = some true)
    (eg_InvalidWord : PySem.W.findIn K (.ref E_InvalidWord) "__getattribute__" = some (some (.builtin "BaseException.__getattribute__")))
    (eh_InvalidWord : PySem.W.findIn K (.ref E_InvalidWord) "__getattr__" = some none)
    (ed_InvalidWord : PySem.W.hasDictIn K E_InvalidWord = true)
    (ec_InvalidWord : PySem.W.findIn K (.ref E_InvalidWord) "__class__" = some (some (.builtin "object.__class__")))
    (em_InvalidWord : PySem.W.mroIn K E_InvalidWord (.type "object") = some true)
    (eg_InvalidNumber : PySem.W.findIn K (.ref E_InvalidNumber) "__getattribute__" = some (some (.builtin "BaseException.__getattribute__")))
    (eh_InvalidNumber : PySem.W.findIn K (.ref E_InvalidNumber) "__getattr__" = some none)
    (ed_InvalidNumber : PySem.W.hasDictIn K E_InvalidNumber = true)
    (ec_InvalidNumber : PySem.W.findIn K (.ref E_InvalidNumber) "__class__" = some (some (.builtin "object.__class__")))
    (em_InvalidNumber : PySem.W.mroIn K E_InvalidNumber (.type "object") = some true)
    (eg_InvalidText : PySem.W.findIn K (.ref E_InvalidText) "__getattribute__" = some (some (.builtin "BaseException.__getattribute__")))
    (eh_InvalidText : PySem.W.findIn K (.ref E_InvalidText) "__getattr__" = some none)
    (ed_InvalidText : PySem.W.hasDictIn K E_InvalidText = true)
    (ec_InvalidText : PySem.W.findIn K (.ref E_InvalidText) "__class__" = some (some (.builtin "object.__class__")))
    (em_InvalidText : PySem.W.mroIn K E_InvalidText (.type "object") = some true)
    (eg_InvalidReading : PySem.W.findIn K (.ref E_InvalidReading) "__getattribute__" = some (some (.builtin "BaseException.__getattribute__")))
    (eh_InvalidReading : PySem.W.findIn K (.ref E_InvalidReading) "__getattr__" = some none)
    (ed_InvalidReading : PySem.W.hasDictIn K E_InvalidReading = true)
    (ec_InvalidReading : PySem.W.findIn K (.ref E_InvalidReading) "__class__" = some (some (.builtin "object.__class__")))
    (em_InvalidReading : PySem.W.mroIn K E_InvalidReading (.type "object") = some true)
    (eg_NotOneWay : PySem.W.findIn K (.ref E_NotOneWay) "__getattribute__" = some (some (.builtin "BaseException.__getattribute__")))
    (eh_NotOneWay : PySem.W.findIn K (.ref E_NotOneWay) "__getattr__" = some none)
    (ed_NotOneWay : PySem.W.hasDictIn K E_NotOneWay = true)
    (ec_NotOneWay : PySem.W.findIn K (.ref E_NotOneWay) "__class__" = some (some (.builtin "object.__class__")))
    (em_NotOneWay : PySem.W.mroIn K E_NotOneWay (.type "object") = some true)
    (eg_NotApart : PySem.W.findIn K (.ref E_NotApart) "__getattribute__" = some (some (.builtin "BaseException.__getattribute__")))
    (eh_NotApart : PySem.W.findIn K (.ref E_NotApart) "__getattr__" = some none)
    (ed_NotApart : PySem.W.hasDictIn K E_NotApart = true)
    (ec_NotApart : PySem.W.findIn K (.ref E_NotApart) "__class__" = some (some (.builtin "object.__class__")))
    (em_NotApart : PySem.W.mroIn K E_NotApart (.type "object") = some true)
    (eg_NothingToUndo : PySem.W.findIn K (.ref E_NothingToUndo) "__getattribute__" = some (some (.builtin "BaseException.__getattribute__")))
    (eh_NothingToUndo : PySem.W.findIn K (.ref E_NothingToUndo) "__getattr__" = some none)
    (ed_NothingToUndo : PySem.W.hasDictIn K E_NothingToUndo = true)
    (ec_NothingToUndo : PySem.W.findIn K (.ref E_NothingToUndo) "__class__" = some (some (.builtin "object.__class__")))
    (em_NothingToUndo : PySem.W.mroIn K E_NothingToUndo (.type "object") = some true)
    (eg_TooMany : PySem.W.findIn K (.ref E_TooMany) "__getattribute__" = some (some (.builtin "BaseException.__getattribute__")))
    (eh_TooMany : PySem.W.findIn K (.ref E_TooMany) "__getattr__" = some none)
    (ed_TooMany : PySem.W.hasDictIn K E_TooMany = true)
    (ec_TooMany : PySem.W.findIn K (.ref E_TooMany) "__class__" = some (some (.builtin "object.__class__")))
    (em_TooMany : PySem.W.mroIn K E_TooMany (.type "object") = some true)
    (eg_Unreadable : PySem.W.findIn K (.ref E_Unreadable) "__getattribute__" = some (some (.builtin "BaseException.__getattribute__")))
    (eh_Unreadable : PySem.W.findIn K (.ref E_Unreadable) "__getattr__" = some none)
    (ed_Unreadable : PySem.W.hasDictIn K E_Unreadable = true)
    (ec_Unreadable : PySem.W.findIn K (.ref E_Unreadable) "__class__" = some (some (.builtin "object.__class__")))
    (em_Unreadable : PySem.W.mroIn K E_Unreadable (.type "object") = some true)
    (ev_WordError : PySem.W.findIn K (.ref E_WordError) "value" = some none)
    (ew_WordError : PySem.W.subIn K (.ref E_WordError) (.type "ValueError") = some true)
    (ev_InvalidWord : PySem.W.findIn K (.ref E_InvalidWord) "value" = some none)
    (ew_InvalidWord : PySem.W.subIn K (.ref E_InvalidWord) (.type "ValueError") = some true)
    (ev_InvalidNumber : PySem.W.findIn K (.ref E_InvalidNumber) "value" = some none)
    (ew_InvalidNumber : PySem.W.subIn K (.ref E_InvalidNumber) (.type "ValueError") = some true)
    (ev_InvalidText : PySem.W.findIn K (.ref E_InvalidText) "value" = some none)
    (ew_InvalidText : PySem.W.subIn K (.ref E_InvalidText) (.type "ValueError") = some true)
    (ev_InvalidReading : PySem.W.findIn K (.ref E_InvalidReading) "value" = some none)
    (ew_InvalidReading : PySem.W.subIn K (.ref E_InvalidReading) (.type "ValueError") = some true)
    (ev_NotOneWay : PySem.W.findIn K (.ref E_NotOneWay) "value" = some none)
    (ew_NotOneWay : PySem.W.subIn K (.ref E_NotOneWay) (.type "ValueError") = some true)
    (ev_NotApart : PySem.W.findIn K (.ref E_NotApart) "value" = some none)
    (ew_NotApart : PySem.W.subIn K (.ref E_NotApart) (.type "ValueError") = some true)
    (ev_NothingToUndo : PySem.W.findIn K (.ref E_NothingToUndo) "value" = some none)
    (ew_NothingToUndo : PySem.W.subIn K (.ref E_NothingToUndo) (.type "ValueError") = some true)
    (ev_TooMany : PySem.W.findIn K (.ref E_TooMany) "value" = some none)
    (ew_TooMany : PySem.W.subIn K (.ref E_TooMany) (.type "ValueError") = some true)
    (ev_Unreadable : PySem.W.findIn K (.ref E_Unreadable) "value" = some none)
    (ew_Unreadable : PySem.W.subIn K (.ref E_Unreadable) (.type "ValueError") = some true)
    (eb_WordError : PySem.W.subIn K (.ref E_WordError) (.type "BaseException") = some true)
    (ei_WordError : PySem.W.isClsIn K E_WordError = true)
    (ey_WordError : PySem.W.typeIn K (.ref E_WordError) = some (.type "type"))
    (eb_InvalidWord : PySem.W.subIn K (.ref E_InvalidWord) (.type "BaseException") = some true)
    (ei_InvalidWord : PySem.W.isClsIn K E_InvalidWord = true)
    (ey_InvalidWord : PySem.W.typeIn K (.ref E_InvalidWord) = some (.type "type"))
    (eb_InvalidNumber : PySem.W.subIn K (.ref E_InvalidNumber) (.type "BaseException") = some true)
    (ei_InvalidNumber : PySem.W.isClsIn K E_InvalidNumber = true)
    (ey_InvalidNumber : PySem.W.typeIn K (.ref E_InvalidNumber) = some (.type "type"))
    (eb_InvalidText : PySem.W.subIn K (.ref E_InvalidText) (.type "BaseException") = some true)
    (ei_InvalidText : PySem.W.isClsIn K E_InvalidText = true)
    (ey_InvalidText : PySem.W.typeIn K (.ref E_InvalidText) = some (.type "type"))
    (eb_InvalidReading : PySem.W.subIn K (.ref E_InvalidReading) (.type "BaseException") = some true)
    (ei_InvalidReading : PySem.W.isClsIn K E_InvalidReading = true)
    (ey_InvalidReading : PySem.W.typeIn K (.ref E_InvalidReading) = some (.type "type"))
    (eb_NotOneWay : PySem.W.subIn K (.ref E_NotOneWay) (.type "BaseException") = some true)
    (ei_NotOneWay : PySem.W.isClsIn K E_NotOneWay = true)
    (ey_NotOneWay : PySem.W.typeIn K (.ref E_NotOneWay) = some (.type "type"))
    (eb_NotApart : PySem.W.subIn K (.ref E_NotApart) (.type "BaseException") = some true)
    (ei_NotApart : PySem.W.isClsIn K E_NotApart = true)
    (ey_NotApart : PySem.W.typeIn K (.ref E_NotApart) = some (.type "type"))
    (eb_NothingToUndo : PySem.W.subIn K (.ref E_NothingToUndo) (.type "BaseException") = some true)
    (ei_NothingToUndo : PySem.W.isClsIn K E_NothingToUndo = true)
    (ey_NothingToUndo : PySem.W.typeIn K (.ref E_NothingToUndo) = some (.type "type"))
    (eb_TooMany : PySem.W.subIn K (.ref E_TooMany) (.type "BaseException") = some true)
    (ei_TooMany : PySem.W.isClsIn K E_TooMany = true)
    (ey_TooMany : PySem.W.typeIn K (.ref E_TooMany) = some (.type "type"))
    (eb_Unreadable : PySem.W.subIn K (.ref E_Unreadable) (.type "BaseException") = some true)
    (ei_Unreadable : PySem.W.isClsIn K E_Unreadable = true)
    (ey_Unreadable : PySem.W.typeIn K (.ref E_Unreadable) = some (.type "type"))
    (es_WordError_InvalidNumber : PySem.W.subIn K (.ref E_WordError) (.ref E_InvalidNumber) = some false)
    (es_InvalidWord_InvalidNumber : PySem.W.subIn K (.ref E_InvalidWord) (.ref E_InvalidNumber) = some false)
    (es_InvalidNumber_InvalidNumber : PySem.W.subIn K (.ref E_InvalidNumber) (.ref E_InvalidNumber) = some true)
    (es_InvalidText_InvalidNumber : PySem.W.subIn K (.ref E_InvalidText) (.ref E_InvalidNumber) = some false)
    (es_InvalidReading_InvalidNumber : PySem.W.subIn K (.ref E_InvalidReading) (.ref E_InvalidNumber) = some false)
    (es_NotOneWay_InvalidNumber : PySem.W.subIn K (.ref E_NotOneWay) (.ref E_InvalidNumber) = some false)
    (es_NotApart_InvalidNumber : PySem.W.subIn K (.ref E_NotApart) (.ref E_InvalidNumber) = some false)
    (es_NothingToUndo_InvalidNumber : PySem.W.subIn K (.ref E_NothingToUndo) (.ref E_InvalidNumber) = some false)
    (es_TooMany_InvalidNumber : PySem.W.subIn K (.ref E_TooMany) (.ref E_InvalidNumber) = some false)
    (es_Unreadable_InvalidNumber : PySem.W.subIn K (.ref E_Unreadable) (.ref E_InvalidNumber) = some false)
    (es_WordError_InvalidReading : PySem.W.subIn K (.ref E_WordError) (.ref E_InvalidReading) = some false)
    (es_InvalidWord_InvalidReading : PySem.W.subIn K (.ref E_InvalidWord) (.ref E_InvalidReading) = some false)
    (es_InvalidNumber_InvalidReading : PySem.W.subIn K (.ref E_InvalidNumber) (.ref E_InvalidReading) = some false)
    (es_InvalidText_InvalidReading : PySem.W.subIn K (.ref E_InvalidText) (.ref E_InvalidReading) = some false)
    (es_InvalidReading_InvalidReading : PySem.W.subIn K (.ref E_InvalidReading) (.ref E_InvalidReading) = some true)
    (es_NotOneWay_InvalidReading : PySem.W.subIn K (.ref E_NotOneWay) (.ref E_InvalidReading) = some false)
    (es_NotApart_InvalidReading : PySem.W.subIn K (.ref E_NotApart) (.ref E_InvalidReading) = some false)
    (es_NothingToUndo_InvalidReading : PySem.W.subIn K (.ref E_NothingToUndo) (.ref E_InvalidReading) = some false)
    (es_TooMany_InvalidReading : PySem.W.subIn K (.ref E_TooMany) (.ref E_InvalidReading) = some false)
    (es_Unreadable_InvalidReading : PySem.W.subIn K (.ref E_Unreadable) (.ref E_InvalidReading) = some false)
    (es_WordError_InvalidText : PySem.W.subIn K (.ref E_WordError) (.ref E_InvalidText) = some false)
    (es_InvalidWord_InvalidText : PySem.W.subIn K (.ref E_InvalidWord) (.ref E_InvalidText) = some false)
    (es_InvalidNumber_InvalidText : PySem.W.subIn K (.ref E_InvalidNumber) (.ref E_InvalidText) = some false)
    (es_InvalidText_InvalidText : PySem.W.subIn K (.ref E_InvalidText) (.ref E_InvalidText) = some true)
    (es_InvalidReading_InvalidText : PySem.W.subIn K (.ref E_InvalidReading) (.ref E_InvalidText) = some false)
    (es_NotOneWay_InvalidText : PySem.W.subIn K (.ref E_NotOneWay) (.ref E_InvalidText) = some false)
    (es_NotApart_InvalidText : PySem.W.subIn K (.ref E_NotApart) (.ref E_InvalidText) = some false)
    (es_NothingToUndo_InvalidText : PySem.W.subIn K (.ref E_NothingToUndo) (.ref E_InvalidText) = some false)
    (es_TooMany_InvalidText : PySem.W.subIn K (.ref E_TooMany) (.ref E_InvalidText) = some false)
    (es_Unreadable_InvalidText : PySem.W.subIn K (.ref E_Unreadable) (.ref E_InvalidText) = some false)
    (es_WordError_InvalidWord : PySem.W.subIn K (.ref E_WordError) (.ref E_InvalidWord) = some false)
    (es_InvalidWord_InvalidWord : PySem.W.subIn K (.ref E_InvalidWord) (.ref E_InvalidWord) = some true)
    (es_InvalidNumber_InvalidWord : PySem.W.subIn K (.ref E_InvalidNumber) (.ref E_InvalidWord) = some false)
    (es_InvalidText_InvalidWord : PySem.W.subIn K (.ref E_InvalidText) (.ref E_InvalidWord) = some false)
    (es_InvalidReading_InvalidWord : PySem.W.subIn K (.ref E_InvalidReading) (.ref E_InvalidWord) = some false)
    (es_NotOneWay_InvalidWord : PySem.W.subIn K (.ref E_NotOneWay) (.ref E_InvalidWord) = some false)
    (es_NotApart_InvalidWord : PySem.W.subIn K (.ref E_NotApart) (.ref E_InvalidWord) = some false)
    (es_NothingToUndo_InvalidWord : PySem.W.subIn K (.ref E_NothingToUndo) (.ref E_InvalidWord) = some false)
    (es_TooMany_InvalidWord : PySem.W.subIn K (.ref E_TooMany) (.ref E_InvalidWord) = some false)
    (es_Unreadable_InvalidWord : PySem.W.subIn K (.ref E_Unreadable) (.ref E_InvalidWord) = some false)
    (es_WordError_NotApart : PySem.W.subIn K (.ref E_WordError) (.ref E_NotApart) = some false)
    (es_InvalidWord_NotApart : PySem.W.subIn K (.ref E_InvalidWord) (.ref E_NotApart) = some false)
    (es_InvalidNumber_NotApart : PySem.W.subIn K (.ref E_InvalidNumber) (.ref E_NotApart) = some false)
    (es_InvalidText_NotApart : PySem.W.subIn K (.ref E_InvalidText) (.ref E_NotApart) = some false)
    (es_InvalidReading_NotApart : PySem.W.subIn K (.ref E_InvalidReading) (.ref E_NotApart) = some false)
    (es_NotOneWay_NotApart : PySem.W.subIn K (.ref E_NotOneWay) (.ref E_NotApart) = some false)
    (es_NotApart_NotApart : PySem.W.subIn K (.ref E_NotApart) (.ref E_NotApart) = some true)
    (es_NothingToUndo_NotApart : PySem.W.subIn K (.ref E_NothingToUndo) (.ref E_NotApart) = some false)
    (es_TooMany_NotApart : PySem.W.subIn K (.ref E_TooMany) (.ref E_NotApart) = some false)
    (es_Unreadable_NotApart : PySem.W.subIn K (.ref E_Unreadable) (.ref E_NotApart) = some false)
    (es_WordError_NotOneWay : PySem.W.subIn K (.ref E_WordError) (.ref E_NotOneWay) = some false)
    (es_InvalidWord_NotOneWay : PySem.W.subIn K (.ref E_InvalidWord) (.ref E_NotOneWay) = some false)
    (es_InvalidNumber_NotOneWay : PySem.W.subIn K (.ref E_InvalidNumber) (.ref E_NotOneWay) = some false)
    (es_InvalidText_NotOneWay : PySem.W.subIn K (.ref E_InvalidText) (.ref E_NotOneWay) = some false)
    (es_InvalidReading_NotOneWay : PySem.W.subIn K (.ref E_InvalidReading) (.ref E_NotOneWay) = some false)
    (es_NotOneWay_NotOneWay : PySem.W.subIn K (.ref E_NotOneWay) (.ref E_NotOneWay) = some true)
    (es_NotApart_NotOneWay : PySem.W.subIn K (.ref E_NotApart) (.ref E_NotOneWay) = some false)
    (es_NothingToUndo_NotOneWay : PySem.W.subIn K (.ref E_NothingToUndo) (.ref E_NotOneWay) = some false)
    (es_TooMany_NotOneWay : PySem.W.subIn K (.ref E_TooMany) (.ref E_NotOneWay) = some false)
    (es_Unreadable_NotOneWay : PySem.W.subIn K (.ref E_Unreadable) (.ref E_NotOneWay) = some false)
    (es_WordError_NothingToUndo : PySem.W.subIn K (.ref E_WordError) (.ref E_NothingToUndo) = some false)
    (es_InvalidWord_NothingToUndo : PySem.W.subIn K (.ref E_InvalidWord) (.ref E_NothingToUndo) = some false)
    (es_InvalidNumber_NothingToUndo : PySem.W.subIn K (.ref E_InvalidNumber) (.ref E_NothingToUndo) = some false)
    (es_InvalidText_NothingToUndo : PySem.W.subIn K (.ref E_InvalidText) (.ref E_NothingToUndo) = some false)
    (es_InvalidReading_NothingToUndo : PySem.W.subIn K (.ref E_InvalidReading) (.ref E_NothingToUndo) = some false)
    (es_NotOneWay_NothingToUndo : PySem.W.subIn K (.ref E_NotOneWay) (.ref E_NothingToUndo) = some false)
    (es_NotApart_NothingToUndo : PySem.W.subIn K (.ref E_NotApart) (.ref E_NothingToUndo) = some false)
    (es_NothingToUndo_NothingToUndo : PySem.W.subIn K (.ref E_NothingToUndo) (.ref E_NothingToUndo) = some true)
    (es_TooMany_NothingToUndo : PySem.W.subIn K (.ref E_TooMany) (.ref E_NothingToUndo) = some false)
    (es_Unreadable_NothingToUndo : PySem.W.subIn K (.ref E_Unreadable) (.ref E_NothingToUndo) = some false)
    (es_WordError_TooMany : PySem.W.subIn K (.ref E_WordError) (.ref E_TooMany) = some false)
    (es_InvalidWord_TooMany : PySem.W.subIn K (.ref E_InvalidWord) (.ref E_TooMany) = some false)
    (es_InvalidNumber_TooMany : PySem.W.subIn K (.ref E_InvalidNumber) (.ref E_TooMany) = some false)
    (es_InvalidText_TooMany : PySem.W.subIn K (.ref E_InvalidText) (.ref E_TooMany) = some false)
    (es_InvalidReading_TooMany : PySem.W.subIn K (.ref E_InvalidReading) (.ref E_TooMany) = some false)
    (es_NotOneWay_TooMany : PySem.W.subIn K (.ref E_NotOneWay) (.ref E_TooMany) = some false)
    (es_NotApart_TooMany : PySem.W.subIn K (.ref E_NotApart) (.ref E_TooMany) = some false)
    (es_NothingToUndo_TooMany : PySem.W.subIn K (.ref E_NothingToUndo) (.ref E_TooMany) = some false)
    (es_TooMany_TooMany : PySem.W.subIn K (.ref E_TooMany) (.ref E_TooMany) = some true)
    (es_Unreadable_TooMany : PySem.W.subIn K (.ref E_Unreadable) (.ref E_TooMany) = some false)
    (es_WordError_Unreadable : PySem.W.subIn K (.ref E_WordError) (.ref E_Unreadable) = some false)
    (es_InvalidWord_Unreadable : PySem.W.subIn K (.ref E_InvalidWord) (.ref E_Unreadable) = some false)
    (es_InvalidNumber_Unreadable : PySem.W.subIn K (.ref E_InvalidNumber) (.ref E_Unreadable) = some false)
    (es_InvalidText_Unreadable : PySem.W.subIn K (.ref E_InvalidText) (.ref E_Unreadable) = some false)
    (es_InvalidReading_Unreadable : PySem.W.subIn K (.ref E_InvalidReading) (.ref E_Unreadable) = some false)
    (es_NotOneWay_Unreadable : PySem.W.subIn K (.ref E_NotOneWay) (.ref E_Unreadable) = some false)
    (es_NotApart_Unreadable : PySem.W.subIn K (.ref E_NotApart) (.ref E_Unreadable) = some false)
    (es_NothingToUndo_Unreadable : PySem.W.subIn K (.ref E_NothingToUndo) (.ref E_Unreadable) = some false)
    (es_TooMany_Unreadable : PySem.W.subIn K (.ref E_TooMany) (.ref E_Unreadable) = some false)
    (es_Unreadable_Unreadable : PySem.W.subIn K (.ref E_Unreadable) (.ref E_Unreadable) = some true)
    (es_WordError_WordError : PySem.W.subIn K (.ref E_WordError) (.ref E_WordError) = some true)
    (es_InvalidWord_WordError : PySem.W.subIn K (.ref E_InvalidWord) (.ref E_WordError) = some true)
    (es_InvalidNumber_WordError : PySem.W.subIn K (.ref E_InvalidNumber) (.ref E_WordError) = some true)
    (es_InvalidText_WordError : PySem.W.subIn K (.ref E_InvalidText) (.ref E_WordError) = some true)
    (es_InvalidReading_WordError : PySem.W.subIn K (.ref E_InvalidReading) (.ref E_WordError) = some true)
    (es_NotOneWay_WordError : PySem.W.subIn K (.ref E_NotOneWay) (.ref E_WordError) = some true)
    (es_NotApart_WordError : PySem.W.subIn K (.ref E_NotApart) (.ref E_WordError) = some true)
    (es_NothingToUndo_WordError : PySem.W.subIn K (.ref E_NothingToUndo) (.ref E_WordError) = some true)
    (es_TooMany_WordError : PySem.W.subIn K (.ref E_TooMany) (.ref E_WordError) = some true)
    (es_Unreadable_WordError : PySem.W.subIn K (.ref E_Unreadable) (.ref E_WordError) = some true)
    {fI cdaI ccI : Addr} {odI anI cddI cldI : Option Addr} {oslI ccsI cslI : Array (Option Value)} {ocI dVI kVI docI pmI ctI cclI clI : Value} {vsI : Array Value} {fileI : Str} {tfI : Tok} {cdI : ClassData}
    (iF : PySem.W.findIn K (.ref E_WordError) "__init__" = some (some (.ref fI)))
    (iL : K.lookup fI = some ⟨ocI, odI, .func (PySem.W.ksFn "__init__" "WordError.__init__" (defArgs s_errInit) (defBody s_errInit) (defScope s_errInit) dVI kVI docI pmI anI (.ref cdaI) ctI ccI), oslI⟩)
    (iC : PySem.W.codeIn K (.ref cdaI) "WordError.__init__" = true)
    (iD : K.lookup cdaI = some ⟨cclI, cddI, .fields vsI, ccsI⟩)
    (iV : vsI[2]? = some (.str fileI tfI))
    (iW : ((l.prog.main.file : Str) == fileI) = true)
    (iE : K.lookup ccI = some ⟨clI, cldI, .cell (some (.ref E_WordError)), cslI⟩)
    (iG : PySem.W.clsIn K E_WordError = some cdI)
    (iH : (l.prog.main.scope.names.lookup ("super" : Str)).isSome = false)
    (iS : PySem.W.nsIn K mainGlobals "super" = some none)
    (iA : PySem.W.nsIn K cStatics "thirdparty.any" = some none)
    (iT : PySem.W.typeIn K (.ref fI) = some (.type "function"))
    (iN : dVI = .none)
    {nm_InvalidText q_InvalidText : Str} {N_InvalidText : Addr} {bs_InvalidText bm_InvalidText sub_InvalidText : List Value} {sn_InvalidText : List Str} {ab_InvalidText : Bool} {col_InvalidText : Option Bool} {dd_InvalidText : Option Addr} {k0_InvalidText k1_InvalidText k2_InvalidText k3_InvalidText k5_InvalidText : Option Value}
    (il_InvalidText : K.lookup E_InvalidText = some (excClassObj nm_InvalidText q_InvalidText E_InvalidText N_InvalidText bs_InvalidText bm_InvalidText true sn_InvalidText sub_InvalidText ab_InvalidText col_InvalidText dd_InvalidText k0_InvalidText k1_InvalidText k2_InvalidText k3_InvalidText k5_InvalidText "ValueError.__new__"))
    (ib_InvalidText : PySem.HandSPX.refsVE bm_InvalidText = true)
    (isa_InvalidText : PySem.W.findIn K (.ref E_InvalidText) "__setattr__" = some (some (.builtin "object.__setattr__")))
    (ik_InvalidText : PySem.W.keepIn K (.ref E_InvalidText) = true)
    (im_InvalidText : PySem.W.mroIn K E_InvalidText (.ref E_WordError) = some true)
    (ii_InvalidText : PySem.W.ks_superIn K E_InvalidText E_WordError "__init__" = some (some (.builtin "ValueError.__init__")))
    (if_InvalidText : PySem.W.findIn K (.ref E_InvalidText) "__init__" = some (some (.ref fI)))
    (a1 : PySem.W.nsIn K mainGlobals "_law_pool" = some (some (.ref f1)))
    (l1 : K.lookup f1 = some ⟨oc1, od1, .func (PySem.W.fnOf "_law_pool" "_law_pool" (defArgs s_law_pool) (defBody s_law_pool) (defScope s_law_pool) .none kV1 dc1 pm1 an1 cd1 ct1), sl1⟩) (c1 : PySem.W.codeIn K cd1 "_law_pool" = true) (k1 : PySem.W.keepIn K (.ref f1) = true)
    (a2 : PySem.W.nsIn K mainGlobals "_law_draw" = some (some (.ref f2)))
    (l2 : K.lookup f2 = some ⟨oc2, od2, .func (PySem.W.fnOf "_law_draw" "_law_draw" (defArgs s_law_draw) (defBody s_law_draw) (defScope s_law_draw) .none kV2 dc2 pm2 an2 cd2 ct2), sl2⟩) (c2 : PySem.W.codeIn K cd2 "_law_draw" = true) (k2 : PySem.W.keepIn K (.ref f2) = true)
    (a3 : PySem.W.nsIn K mainGlobals "_law_line" = some (some (.ref f3)))
    (l3 : K.lookup f3 = some ⟨oc3, od3, .func (PySem.W.fnOf "_law_line" "_law_line" (defArgs s_law_line_k36) (defBody s_law_line_k36) (defScope s_law_line_k36) .none kV3 dc3 pm3 an3 cd3 ct3), sl3⟩) (c3 : PySem.W.codeIn K cd3 "_law_line" = true) (k3 : PySem.W.keepIn K (.ref f3) = true)
    (a4 : PySem.W.nsIn K mainGlobals "_law_bent" = some (some (.ref f4)))
    (l4 : K.lookup f4 = some ⟨oc4, od4, .func (PySem.W.fnOf "_law_bent" "_law_bent" (defArgs s_law_bent_k37) (defBody s_law_bent_k37) (defScope s_law_bent_k37) .none kV4 dc4 pm4 an4 cd4 ct4), sl4⟩) (c4 : PySem.W.codeIn K cd4 "_law_bent" = true) (k4 : PySem.W.keepIn K (.ref f4) = true)
    (a5 : PySem.W.nsIn K mainGlobals "is_row" = some (some (.ref f5)))
    (l5 : K.lookup f5 = some ⟨oc5, od5, .func (PySem.W.fnOf "is_row" "is_row" (defArgs s_is_row) (defBody s_is_row) (defScope s_is_row) .none kV5 dc5 pm5 an5 cd5 ct5), sl5⟩) (c5 : PySem.W.codeIn K cd5 "is_row" = true) (k5 : PySem.W.keepIn K (.ref f5) = true)
    (a6 : PySem.W.nsIn K mainGlobals "check_text" = some (some (.ref f6)))
    (l6 : K.lookup f6 = some ⟨oc6, od6, .func (PySem.W.fnOf "check_text" "check_text" (defArgs s_check_text) (defBody s_check_text) (defScope s_check_text) .none kV6 dc6 pm6 an6 cd6 ct6), sl6⟩) (c6 : PySem.W.codeIn K cd6 "check_text" = true) (k6 : PySem.W.keepIn K (.ref f6) = true)
    (a7 : PySem.W.nsIn K mainGlobals "root_of" = some (some (.ref f7)))
    (l7 : K.lookup f7 = some ⟨oc7, od7, .func (PySem.W.fnOf "root_of" "root_of" (defArgs s_root_of) (defBody s_root_of) (defScope s_root_of) .none kV7 dc7 pm7 an7 cd7 ct7), sl7⟩) (c7 : PySem.W.codeIn K cd7 "root_of" = true) (k7 : PySem.W.keepIn K (.ref f7) = true)
    (a8 : PySem.W.nsIn K mainGlobals "root" = some (some (.ref f8)))
    (l8 : K.lookup f8 = some ⟨oc8, od8, .func (PySem.W.fnOf "root" "root" (defArgs s_root) (defBody s_root) (defScope s_root) .none kV8 dc8 pm8 an8 cd8 ct8), sl8⟩) (c8 : PySem.W.codeIn K cd8 "root" = true) (k8 : PySem.W.keepIn K (.ref f8) = true)
    (a9 : PySem.W.nsIn K mainGlobals "_law_flags" = some (some (.ref f9)))
    (l9 : K.lookup f9 = some ⟨oc9, od9, .func (PySem.W.fnOf "_law_flags" "_law_flags" (defArgs s_law_flags_k34) (defBody s_law_flags_k34) (defScope s_law_flags_k34) .none kV9 dc9 pm9 an9 cd9 ct9), sl9⟩) (c9 : PySem.W.codeIn K cd9 "_law_flags" = true) (k9 : PySem.W.keepIn K (.ref f9) = true)
    (a10 : PySem.W.nsIn K mainGlobals "commute" = some (some (.ref f10)))
    (l10 : K.lookup f10 = some ⟨oc10, od10, .func (PySem.W.fnOf "commute" "commute" (defArgs s_commute) (defBody s_commute) (defScope s_commute) .none kV10 dc10 pm10 an10 cd10 ct10), sl10⟩) (c10 : PySem.W.codeIn K cd10 "commute" = true) (k10 : PySem.W.keepIn K (.ref f10) = true)
    (a11 : PySem.W.nsIn K mainGlobals "_law_caught" = some (some (.ref f11)))
    (l11 : K.lookup f11 = some ⟨oc11, od11, .func (PySem.W.fnOf "_law_caught" "_law_caught" (defArgs s_law_caught_k37) (defBody s_law_caught_k37) (defScope s_law_caught_k37) .none kV11 dc11 pm11 an11 cd11 ct11), sl11⟩) (c11 : PySem.W.codeIn K cd11 "_law_caught" = true) (k11 : PySem.W.keepIn K (.ref f11) = true)
    (a12 : PySem.W.nsIn K mainGlobals "_law_right" = some (some (.ref f12)))
    (l12 : K.lookup f12 = some ⟨oc12, od12, .func (PySem.W.fnOf "_law_right" "_law_right" (defArgs s_law_right_k37) (defBody s_law_right_k37) (defScope s_law_right_k37) .none kV12 dc12 pm12 an12 cd12 ct12), sl12⟩) (c12 : PySem.W.codeIn K cd12 "_law_right" = true) (k12 : PySem.W.keepIn K (.ref f12) = true)
    (a13 : PySem.W.nsIn K mainGlobals "law" = some (some (.ref f13)))
    (l13 : K.lookup f13 = some ⟨oc13, od13, .func (PySem.W.fnOf "law" "law" (defArgs s_law_k37) (defBody s_law_k37) (defScope s_law_k37) .none kV13 dc13 pm13 an13 cd13 ct13), sl13⟩) (c13 : PySem.W.codeIn K cd13 "law" = true) (k13 : PySem.W.keepIn K (.ref f13) = true)
    (z_ValueError : PySem.W.nsIn K mainGlobals "ValueError" = some none)
    (z_abs : PySem.W.nsIn K mainGlobals "abs" = some none)
    (z_all : PySem.W.nsIn K mainGlobals "all" = some none)
    (z_int : PySem.W.nsIn K mainGlobals "int" = some none)
    (z_isinstance : PySem.W.nsIn K mainGlobals "isinstance" = some none)
    (z_len : PySem.W.nsIn K mainGlobals "len" = some none)
    (z_max : PySem.W.nsIn K mainGlobals "max" = some none)
    (z_min : PySem.W.nsIn K mainGlobals "min" = some none)
    (z_range : PySem.W.nsIn K mainGlobals "range" = some none)
    (z_repr : PySem.W.nsIn K mainGlobals "repr" = some none)
    (u_LETTERS : PySem.W.nsIn K mainGlobals "LETTERS" = some (some (.str "abcdefghijklmnopqrstuvwxyz" t_LETTERS)))
    : ∃ fd : FuncData, (∀ (s : Shared) (v : Value), BindsTo s fd ⟨[v], []⟩ [("script", v)]) ∧ ∀ base : Heap, K.In base → base.Ns mainGlobals mg → FnG l.prog w K mg base 7 fa fd ["script"] M_law_k37 := by
  have e := hfa.symm.trans (PySem.W.mg_of X G a13)
  cases e
  have T : Txt K mg := ⟨PySem.W.mg_none_of X G z_ValueError, PySem.W.mg_none_of X G z_abs, PySem.W.mg_none_of X G z_all, PySem.W.mg_none_of X G z_int, PySem.W.mg_none_of X G z_isinstance, PySem.W.mg_none_of X G z_len, PySem.W.mg_none_of X G z_max, PySem.W.mg_none_of X G z_min, PySem.W.mg_none_of X G z_range, PySem.W.mg_none_of X G z_repr, ⟨_, PySem.W.mg_of X G u_LETTERS⟩, errAll_of (List.forall_mem_cons.mpr ⟨err_here (PySem.W.mg_of X G eA_WordError) ⟨⟨eg_WordError, eh_WordError, eb_WordError, ed_WordError⟩, ev_WordError, ei_WordError, ec_WordError, eS, eT, em_WordError, ew_WordError⟩, List.forall_mem_cons.mpr ⟨err_here (PySem.W.mg_of X G eA_InvalidWord) ⟨⟨eg_InvalidWord, eh_InvalidWord, eb_InvalidWord, ed_InvalidWord⟩, ev_InvalidWord, ei_InvalidWord, ec_InvalidWord, eS, eT, em_InvalidWord, ew_InvalidWord⟩, List.forall_mem_cons.mpr ⟨err_here (PySem.W.mg_of X G eA_InvalidNumber) ⟨⟨eg_InvalidNumber, eh_InvalidNumber, eb_InvalidNumber, ed_InvalidNumber⟩, ev_InvalidNumber, ei_InvalidNumber, ec_InvalidNumber, eS, eT, em_InvalidNumber, ew_InvalidNumber⟩, List.forall_mem_cons.mpr ⟨err_here (PySem.W.mg_of X G eA_InvalidText) ⟨⟨eg_InvalidText, eh_InvalidText, eb_InvalidText, ed_InvalidText⟩, ev_InvalidText, ei_InvalidText, ec_InvalidText, eS, eT, em_InvalidText, ew_InvalidText⟩, List.forall_mem_cons.mpr ⟨err_here (PySem.W.mg_of X G eA_InvalidReading) ⟨⟨eg_InvalidReading, eh_InvalidReading, eb_InvalidReading, ed_InvalidReading⟩, ev_InvalidReading, ei_InvalidReading, ec_InvalidReading, eS, eT, em_InvalidReading, ew_InvalidReading⟩, List.forall_mem_cons.mpr ⟨err_here (PySem.W.mg_of X G eA_NotOneWay) ⟨⟨eg_NotOneWay, eh_NotOneWay, eb_NotOneWay, ed_NotOneWay⟩, ev_NotOneWay, ei_NotOneWay, ec_NotOneWay, eS, eT, em_NotOneWay, ew_NotOneWay⟩, List.forall_mem_cons.mpr ⟨err_here (PySem.W.mg_of X G eA_NotApart) ⟨⟨eg_NotApart, eh_NotApart, eb_NotApart, ed_NotApart⟩, ev_NotApart, ei_NotApart, ec_NotApart, eS, eT, em_NotApart, ew_NotApart⟩, List.forall_mem_cons.mpr ⟨err_here (PySem.W.mg_of X G eA_NothingToUndo) ⟨⟨eg_NothingToUndo, eh_NothingToUndo, eb_NothingToUndo, ed_NothingToUndo⟩, ev_NothingToUndo, ei_NothingToUndo, ec_NothingToUndo, eS, eT, em_NothingToUndo, ew_NothingToUndo⟩, List.forall_mem_cons.mpr ⟨err_here (PySem.W.mg_of X G eA_TooMany) ⟨⟨eg_TooMany, eh_TooMany, eb_TooMany, ed_TooMany⟩, ev_TooMany, ei_TooMany, ec_TooMany, eS, eT, em_TooMany, ew_TooMany⟩, List.forall_mem_cons.mpr ⟨err_here (PySem.W.mg_of X G eA_Unreadable) ⟨⟨eg_Unreadable, eh_Unreadable, eb_Unreadable, ed_Unreadable⟩, ev_Unreadable, ei_Unreadable, ec_Unreadable, eS, eT, em_Unreadable, ew_Unreadable⟩, by simp⟩⟩⟩⟩⟩⟩⟩⟩⟩⟩), ⟨E_InvalidNumber, subAt_of (PySem.W.mg_of X G eA_InvalidNumber) ei_InvalidNumber ey_InvalidNumber eb_InvalidNumber es_InvalidNumber_InvalidNumber (List.forall_mem_cons.mpr ⟨sub_here (by decide) (PySem.W.mg_of X G eA_WordError) es_WordError_InvalidNumber, List.forall_mem_cons.mpr ⟨sub_here (by decide) (PySem.W.mg_of X G eA_InvalidWord) es_InvalidWord_InvalidNumber, List.forall_mem_cons.mpr ⟨sub_here (by decide) (PySem.W.mg_of X G eA_InvalidNumber) es_InvalidNumber_InvalidNumber, List.forall_mem_cons.mpr ⟨sub_here (by decide) (PySem.W.mg_of X G eA_InvalidText) es_InvalidText_InvalidNumber, List.forall_mem_cons.mpr ⟨sub_here (by decide) (PySem.W.mg_of X G eA_InvalidReading) es_InvalidReading_InvalidNumber, List.forall_mem_cons.mpr ⟨sub_here (by decide) (PySem.W.mg_of X G eA_NotOneWay) es_NotOneWay_InvalidNumber, List.forall_mem_cons.mpr ⟨sub_here (by decide) (PySem.W.mg_of X G eA_NotApart) es_NotApart_InvalidNumber, List.forall_mem_cons.mpr ⟨sub_here (by decide) (PySem.W.mg_of X G eA_NothingToUndo) es_NothingToUndo_InvalidNumber, List.forall_mem_cons.mpr ⟨sub_here (by decide) (PySem.W.mg_of X G eA_TooMany) es_TooMany_InvalidNumber, List.forall_mem_cons.mpr ⟨sub_here (by decide) (PySem.W.mg_of X G eA_Unreadable) es_Unreadable_InvalidNumber, by simp⟩⟩⟩⟩⟩⟩⟩⟩⟩⟩)⟩, ⟨E_InvalidReading, subAt_of (PySem.W.mg_of X G eA_InvalidReading) ei_InvalidReading ey_InvalidReading eb_InvalidReading es_InvalidReading_InvalidReading (List.forall_mem_cons.mpr ⟨sub_here (by decide) (PySem.W.mg_of X G eA_WordError) es_WordError_InvalidReading, List.forall_mem_cons.mpr ⟨sub_here (by decide) (PySem.W.mg_of X G eA_InvalidWord) es_InvalidWord_InvalidReading, List.forall_mem_cons.mpr ⟨sub_here (by decide) (PySem.W.mg_of X G eA_InvalidNumber) es_InvalidNumber_InvalidReading, List.forall_mem_cons.mpr ⟨sub_here (by decide) (PySem.W.mg_of X G eA_InvalidText) es_InvalidText_InvalidReading, List.forall_mem_cons.mpr ⟨sub_here (by decide) (PySem.W.mg_of X G eA_InvalidReading) es_InvalidReading_InvalidReading, List.forall_mem_cons.mpr ⟨sub_here (by decide) (PySem.W.mg_of X G eA_NotOneWay) es_NotOneWay_InvalidReading, List.forall_mem_cons.mpr ⟨sub_here (by decide) (PySem.W.mg_of X G eA_NotApart) es_NotApart_InvalidReading, List.forall_mem_cons.mpr ⟨sub_here (by decide) (PySem.W.mg_of X G eA_NothingToUndo) es_NothingToUndo_InvalidReading, List.forall_mem_cons.mpr ⟨sub_here (by decide) (PySem.W.mg_of X G eA_TooMany) es_TooMany_InvalidReading, List.forall_mem_cons.mpr ⟨sub_here (by decide) (PySem.W.mg_of X G eA_Unreadable) es_Unreadable_InvalidReading, by simp⟩⟩⟩⟩⟩⟩⟩⟩⟩⟩)⟩, ⟨E_InvalidText, subAt_of (PySem.W.mg_of X G eA_InvalidText) ei_InvalidText ey_InvalidText eb_InvalidText es_InvalidText_InvalidText (List.forall_mem_cons.mpr ⟨sub_here (by decide) (PySem.W.mg_of X G eA_WordError) es_WordError_InvalidText, List.forall_mem_cons.mpr ⟨sub_here (by decide) (PySem.W.mg_of X G eA_InvalidWord) es_InvalidWord_InvalidText, List.forall_mem_cons.mpr ⟨sub_here (by decide) (PySem.W.mg_of X G eA_InvalidNumber) es_InvalidNumber_InvalidText, List.forall_mem_cons.mpr ⟨sub_here (by decide) (PySem.W.mg_of X G eA_InvalidText) es_InvalidText_InvalidText, List.forall_mem_cons.mpr ⟨sub_here (by decide) (PySem.W.mg_of X G eA_InvalidReading) es_InvalidReading_InvalidText, List.forall_mem_cons.mpr ⟨sub_here (by decide) (PySem.W.mg_of X G eA_NotOneWay) es_NotOneWay_InvalidText, List.forall_mem_cons.mpr ⟨sub_here (by decide) (PySem.W.mg_of X G eA_NotApart) es_NotApart_InvalidText, List.forall_mem_cons.mpr ⟨sub_here (by decide) (PySem.W.mg_of X G eA_NothingToUndo) es_NothingToUndo_InvalidText, List.forall_mem_cons.mpr ⟨sub_here (by decide) (PySem.W.mg_of X G eA_TooMany) es_TooMany_InvalidText, List.forall_mem_cons.mpr ⟨sub_here (by decide) (PySem.W.mg_of X G eA_Unreadable) es_Unreadable_InvalidText, by simp⟩⟩⟩⟩⟩⟩⟩⟩⟩⟩)⟩, ⟨E_InvalidWord, subAt_of (PySem.W.mg_of X G eA_InvalidWord) ei_InvalidWord ey_InvalidWord eb_InvalidWord es_InvalidWord_InvalidWord (List.forall_mem_cons.mpr ⟨sub_here (by decide) (PySem.W.mg_of X G eA_WordError) es_WordError_InvalidWord, List.forall_mem_cons.mpr ⟨sub_here (by decide) (PySem.W.mg_of X G eA_InvalidWord) es_InvalidWord_InvalidWord, List.forall_mem_cons.mpr ⟨sub_here (by decide) (PySem.W.mg_of X G eA_InvalidNumber) es_InvalidNumber_InvalidWord, List.forall_mem_cons.mpr ⟨sub_here (by decide) (PySem.W.mg_of X G eA_InvalidText) es_InvalidText_InvalidWord, List.forall_mem_cons.mpr ⟨sub_here (by decide) (PySem.W.mg_of X G eA_InvalidReading) es_InvalidReading_InvalidWord, List.forall_mem_cons.mpr ⟨sub_here (by decide) (PySem.W.mg_of X G eA_NotOneWay) es_NotOneWay_InvalidWord, List.forall_mem_cons.mpr ⟨sub_here (by decide) (PySem.W.mg_of X G eA_NotApart) es_NotApart_InvalidWord, List.forall_mem_cons.mpr ⟨sub_here (by decide) (PySem.W.mg_of X G eA_NothingToUndo) es_NothingToUndo_InvalidWord, List.forall_mem_cons.mpr ⟨sub_here (by decide) (PySem.W.mg_of X G eA_TooMany) es_TooMany_InvalidWord, List.forall_mem_cons.mpr ⟨sub_here (by decide) (PySem.W.mg_of X G eA_Unreadable) es_Unreadable_InvalidWord, by simp⟩⟩⟩⟩⟩⟩⟩⟩⟩⟩)⟩, ⟨E_NotApart, subAt_of (PySem.W.mg_of X G eA_NotApart) ei_NotApart ey_NotApart eb_NotApart es_NotApart_NotApart (List.forall_mem_cons.mpr ⟨sub_here (by decide) (PySem.W.mg_of X G eA_WordError) es_WordError_NotApart, List.forall_mem_cons.mpr ⟨sub_here (by decide) (PySem.W.mg_of X G eA_InvalidWord) es_InvalidWord_NotApart, List.forall_mem_cons.mpr ⟨sub_here (by decide) (PySem.W.mg_of X G eA_InvalidNumber) es_InvalidNumber_NotApart, List.forall_mem_cons.mpr ⟨sub_here (by decide) (PySem.W.mg_of X G eA_InvalidText) es_InvalidText_NotApart, List.forall_mem_cons.mpr ⟨sub_here (by decide) (PySem.W.mg_of X G eA_InvalidReading) es_InvalidReading_NotApart, List.forall_mem_cons.mpr ⟨sub_here (by decide) (PySem.W.mg_of X G eA_NotOneWay) es_NotOneWay_NotApart, List.forall_mem_cons.mpr ⟨sub_here (by decide) (PySem.W.mg_of X G eA_NotApart) es_NotApart_NotApart, List.forall_mem_cons.mpr ⟨sub_here (by decide) (PySem.W.mg_of X G eA_NothingToUndo) es_NothingToUndo_NotApart, List.forall_mem_cons.mpr ⟨sub_here (by decide) (PySem.W.mg_of X G eA_TooMany) es_TooMany_NotApart, List.forall_mem_cons.mpr ⟨sub_here (by decide) (PySem.W.mg_of X G eA_Unreadable) es_Unreadable_NotApart, by simp⟩⟩⟩⟩⟩⟩⟩⟩⟩⟩)⟩, ⟨E_NotOneWay, subAt_of (PySem.W.mg_of X G eA_NotOneWay) ei_NotOneWay ey_NotOneWay eb_NotOneWay es_NotOneWay_NotOneWay (List.forall_mem_cons.mpr ⟨sub_here (by decide) (PySem.W.mg_of X G eA_WordError) es_WordError_NotOneWay, List.forall_mem_cons.mpr ⟨sub_here (by decide) (PySem.W.mg_of X G eA_InvalidWord) es_InvalidWord_NotOneWay, List.forall_mem_cons.mpr ⟨sub_here (by decide) (PySem.W.mg_of X G eA_InvalidNumber) es_InvalidNumber_NotOneWay, List.forall_mem_cons.mpr ⟨sub_here (by decide) (PySem.W.mg_of X G eA_InvalidText) es_InvalidText_NotOneWay, List.forall_mem_cons.mpr ⟨sub_here (by decide) (PySem.W.mg_of X G eA_InvalidReading) es_InvalidReading_NotOneWay, List.forall_mem_cons.mpr ⟨sub_here (by decide) (PySem.W.mg_of X G eA_NotOneWay) es_NotOneWay_NotOneWay, List.forall_mem_cons.mpr ⟨sub_here (by decide) (PySem.W.mg_of X G eA_NotApart) es_NotApart_NotOneWay, List.forall_mem_cons.mpr ⟨sub_here (by decide) (PySem.W.mg_of X G eA_NothingToUndo) es_NothingToUndo_NotOneWay, List.forall_mem_cons.mpr ⟨sub_here (by decide) (PySem.W.mg_of X G eA_TooMany) es_TooMany_NotOneWay, List.forall_mem_cons.mpr ⟨sub_here (by decide) (PySem.W.mg_of X G eA_Unreadable) es_Unreadable_NotOneWay, by simp⟩⟩⟩⟩⟩⟩⟩⟩⟩⟩)⟩, ⟨E_NothingToUndo, subAt_of (PySem.W.mg_of X G eA_NothingToUndo) ei_NothingToUndo ey_NothingToUndo eb_NothingToUndo es_NothingToUndo_NothingToUndo (List.forall_mem_cons.mpr ⟨sub_here (by decide) (PySem.W.mg_of X G eA_WordError) es_WordError_NothingToUndo, List.forall_mem_cons.mpr ⟨sub_here (by decide) (PySem.W.mg_of X G eA_InvalidWord) es_InvalidWord_NothingToUndo, List.forall_mem_cons.mpr ⟨sub_here (by decide) (PySem.W.mg_of X G eA_InvalidNumber) es_InvalidNumber_NothingToUndo, List.forall_mem_cons.mpr ⟨sub_here (by decide) (PySem.W.mg_of X G eA_InvalidText) es_InvalidText_NothingToUndo, List.forall_mem_cons.mpr ⟨sub_here (by decide) (PySem.W.mg_of X G eA_InvalidReading) es_InvalidReading_NothingToUndo, List.forall_mem_cons.mpr ⟨sub_here (by decide) (PySem.W.mg_of X G eA_NotOneWay) es_NotOneWay_NothingToUndo, List.forall_mem_cons.mpr ⟨sub_here (by decide) (PySem.W.mg_of X G eA_NotApart) es_NotApart_NothingToUndo, List.forall_mem_cons.mpr ⟨sub_here (by decide) (PySem.W.mg_of X G eA_NothingToUndo) es_NothingToUndo_NothingToUndo, List.forall_mem_cons.mpr ⟨sub_here (by decide) (PySem.W.mg_of X G eA_TooMany) es_TooMany_NothingToUndo, List.forall_mem_cons.mpr ⟨sub_here (by decide) (PySem.W.mg_of X G eA_Unreadable) es_Unreadable_NothingToUndo, by simp⟩⟩⟩⟩⟩⟩⟩⟩⟩⟩)⟩, ⟨E_TooMany, subAt_of (PySem.W.mg_of X G eA_TooMany) ei_TooMany ey_TooMany eb_TooMany es_TooMany_TooMany (List.forall_mem_cons.mpr ⟨sub_here (by decide) (PySem.W.mg_of X G eA_WordError) es_WordError_TooMany, List.forall_mem_cons.mpr ⟨sub_here (by decide) (PySem.W.mg_of X G eA_InvalidWord) es_InvalidWord_TooMany, List.forall_mem_cons.mpr ⟨sub_here (by decide) (PySem.W.mg_of X G eA_InvalidNumber) es_InvalidNumber_TooMany, List.forall_mem_cons.mpr ⟨sub_here (by decide) (PySem.W.mg_of X G eA_InvalidText) es_InvalidText_TooMany, List.forall_mem_cons.mpr ⟨sub_here (by decide) (PySem.W.mg_of X G eA_InvalidReading) es_InvalidReading_TooMany, List.forall_mem_cons.mpr ⟨sub_here (by decide) (PySem.W.mg_of X G eA_NotOneWay) es_NotOneWay_TooMany, List.forall_mem_cons.mpr ⟨sub_here (by decide) (PySem.W.mg_of X G eA_NotApart) es_NotApart_TooMany, List.forall_mem_cons.mpr ⟨sub_here (by decide) (PySem.W.mg_of X G eA_NothingToUndo) es_NothingToUndo_TooMany, List.forall_mem_cons.mpr ⟨sub_here (by decide) (PySem.W.mg_of X G eA_TooMany) es_TooMany_TooMany, List.forall_mem_cons.mpr ⟨sub_here (by decide) (PySem.W.mg_of X G eA_Unreadable) es_Unreadable_TooMany, by simp⟩⟩⟩⟩⟩⟩⟩⟩⟩⟩)⟩, ⟨E_Unreadable, subAt_of (PySem.W.mg_of X G eA_Unreadable) ei_Unreadable ey_Unreadable eb_Unreadable es_Unreadable_Unreadable (List.forall_mem_cons.mpr ⟨sub_here (by decide) (PySem.W.mg_of X G eA_WordError) es_WordError_Unreadable, List.forall_mem_cons.mpr ⟨sub_here (by decide) (PySem.W.mg_of X G eA_InvalidWord) es_InvalidWord_Unreadable, List.forall_mem_cons.mpr ⟨sub_here (by decide) (PySem.W.mg_of X G eA_InvalidNumber) es_InvalidNumber_Unreadable, List.forall_mem_cons.mpr ⟨sub_here (by decide) (PySem.W.mg_of X G eA_InvalidText) es_InvalidText_Unreadable, List.forall_mem_cons.mpr ⟨sub_here (by decide) (PySem.W.mg_of X G eA_InvalidReading) es_InvalidReading_Unreadable, List.forall_mem_cons.mpr ⟨sub_here (by decide) (PySem.W.mg_of X G eA_NotOneWay) es_NotOneWay_Unreadable, List.forall_mem_cons.mpr ⟨sub_here (by decide) (PySem.W.mg_of X G eA_NotApart) es_NotApart_Unreadable, List.forall_mem_cons.mpr ⟨sub_here (by decide) (PySem.W.mg_of X G eA_NothingToUndo) es_NothingToUndo_Unreadable, List.forall_mem_cons.mpr ⟨sub_here (by decide) (PySem.W.mg_of X G eA_TooMany) es_TooMany_Unreadable, List.forall_mem_cons.mpr ⟨sub_here (by decide) (PySem.W.mg_of X G eA_Unreadable) es_Unreadable_Unreadable, by simp⟩⟩⟩⟩⟩⟩⟩⟩⟩⟩)⟩, ⟨E_WordError, subAt_of (PySem.W.mg_of X G eA_WordError) ei_WordError ey_WordError eb_WordError es_WordError_WordError (List.forall_mem_cons.mpr ⟨sub_here (by decide) (PySem.W.mg_of X G eA_WordError) es_WordError_WordError, List.forall_mem_cons.mpr ⟨sub_here (by decide) (PySem.W.mg_of X G eA_InvalidWord) es_InvalidWord_WordError, List.forall_mem_cons.mpr ⟨sub_here (by decide) (PySem.W.mg_of X G eA_InvalidNumber) es_InvalidNumber_WordError, List.forall_mem_cons.mpr ⟨sub_here (by decide) (PySem.W.mg_of X G eA_InvalidText) es_InvalidText_WordError, List.forall_mem_cons.mpr ⟨sub_here (by decide) (PySem.W.mg_of X G eA_InvalidReading) es_InvalidReading_WordError, List.forall_mem_cons.mpr ⟨sub_here (by decide) (PySem.W.mg_of X G eA_NotOneWay) es_NotOneWay_WordError, List.forall_mem_cons.mpr ⟨sub_here (by decide) (PySem.W.mg_of X G eA_NotApart) es_NotApart_WordError, List.forall_mem_cons.mpr ⟨sub_here (by decide) (PySem.W.mg_of X G eA_NothingToUndo) es_NothingToUndo_WordError, List.forall_mem_cons.mpr ⟨sub_here (by decide) (PySem.W.mg_of X G eA_TooMany) es_TooMany_WordError, List.forall_mem_cons.mpr ⟨sub_here (by decide) (PySem.W.mg_of X G eA_Unreadable) es_Unreadable_WordError, by simp⟩⟩⟩⟩⟩⟩⟩⟩⟩⟩)⟩⟩
  have F1 := fun_mk (st := s_law_pool) l1 c1 k1
  have F2 := fun_mk (st := s_law_draw) l2 c2 k2
  have F3 := fun_mk (st := s_law_line_k36) l3 c3 k3
  have F4 := fun_mk (st := s_law_bent_k37) l4 c4 k4
  have F5 := fun_mk (st := s_is_row) l5 c5 k5
  have F6 := fun_mk (st := s_check_text) l6 c6 k6
  have F7 := fun_mk (st := s_root_of) l7 c7 k7
  have F8 := fun_mk (st := s_root) l8 c8 k8
  have F9 := fun_mk (st := s_law_flags_k34) l9 c9 k9
  have F10 := fun_mk (st := s_commute) l10 c10 k10
  have F11 := fun_mk (st := s_law_caught_k37) l11 c11 k11
  have F12 := fun_mk (st := s_law_right_k37) l12 c12 k12
  have F13 := fun_mk (st := s_law_k37) l13 c13 k13
  subst iN
  have IK : InitK l.prog K fI E_WordError s_errInit _ := ⟨⟨_, _, _, _, _, _, _, _, _, _, _, _, _, _, _, _, _, _, _, _, _, rfl, iL, iC, iD, iV, iW, iE, iG⟩, ⟨⟨_, _, _, _, _, _, _, _, _, _, _, _, _, _, _, by first | exact .inl rfl | exact .inr rfl, rfl⟩, ⟨_, rfl, rfl⟩, rfl⟩, iH, iS, iA⟩
  have r_InvalidText : ErrF l.prog K mg "InvalidText" := ⟨⟨E_InvalidText, E_WordError, fI, s_errInit, _, PySem.W.mg_of X G eA_InvalidText, IK, ⟨⟨⟨_, _, _, _, _, _, _, _, _, _, _, _, _, _, _, il_InvalidText, ib_InvalidText⟩, isa_InvalidText, eb_InvalidText, ey_InvalidText, ik_InvalidText⟩, im_InvalidText, ii_InvalidText, ew_InvalidText, ev_InvalidText⟩, if_InvalidText, iT, fun s us _ hl => match us, hl with | [_, _], _ => .of_eq rfl⟩⟩
  refine ⟨PySem.W.fnOf "law" "law" (defArgs s_law_k37) (defBody s_law_k37) (defScope s_law_k37) .none kV13 dc13 pm13 an13 cd13 ct13, fun s v => .of_eq rfl, fun base _ _ => ?_⟩
  have c_law_pool : Cal l.prog w K mg base "_law_pool" s_law_pool 1 ["script", "spot"] M_law_pool := ⟨⟨_, _, F1, PySem.W.mg_of X G a1, fn_law_pool F1 T , F1.binds (ps := ["script", "spot"]) fun _ _ _ _ _ _ us hl => match us, hl with | [_, _], _ => rfl⟩⟩
  have c_law_draw : Cal l.prog w K mg base "_law_draw" s_law_draw 1 ["pool", "span"] M_law_draw := ⟨⟨_, _, F2, PySem.W.mg_of X G a2, fn_law_draw F2 T , F2.binds (ps := ["pool", "span"]) fun _ _ _ _ _ _ us hl => match us, hl with | [_, _], _ => rfl⟩⟩
  have c_law_line_k36 : Cal l.prog w K mg base "_law_line" s_law_line_k36 2 ["pool", "most_here"] M_law_line_k36 := ⟨⟨_, _, F3, PySem.W.mg_of X G a3, fn_law_line_k36 F3 T c_law_draw, F3.binds (ps := ["pool", "most_here"]) fun _ _ _ _ _ _ us hl => match us, hl with | [_, _], _ => rfl⟩⟩
  have c_law_bent_k37 : Cal l.prog w K mg base "_law_bent" s_law_bent_k37 2 ["pool", "line"] M_law_bent_k37 := ⟨⟨_, _, F4, PySem.W.mg_of X G a4, fn_law_bent_k37 F4 T c_law_draw, F4.binds (ps := ["pool", "line"]) fun _ _ _ _ _ _ us hl => match us, hl with | [_, _], _ => rfl⟩⟩
  have c_is_row : Cal l.prog w K mg base "is_row" s_is_row 1 ["signs"] M_is_row := ⟨⟨_, _, F5, PySem.W.mg_of X G a5, fn_is_row F5 T , F5.binds (ps := ["signs"]) fun _ _ _ _ _ _ us hl => match us, hl with | [_], _ => rfl⟩⟩
  have c_check_text : Cal l.prog w K mg base "check_text" s_check_text 3 ["text"] M_check_text := ⟨⟨_, _, F6, PySem.W.mg_of X G a6, fn_check_text F6 T r_InvalidText c_is_row, F6.binds (ps := ["text"]) fun _ _ _ _ _ _ us hl => match us, hl with | [_], _ => rfl⟩⟩
  have c_root_of : Cal l.prog w K mg base "root_of" s_root_of 1 ["text"] M_root_of := ⟨⟨_, _, F7, PySem.W.mg_of X G a7, fn_root_of F7 T , F7.binds (ps := ["text"]) fun _ _ _ _ _ _ us hl => match us, hl with | [_], _ => rfl⟩⟩
  have c_root : Cal l.prog w K mg base "root" s_root 4 ["text"] M_root := ⟨⟨_, _, F8, PySem.W.mg_of X G a8, fn_root F8 T r_InvalidText c_check_text c_root_of, F8.binds (ps := ["text"]) fun _ _ _ _ _ _ us hl => match us, hl with | [_], _ => rfl⟩⟩
  have c_law_flags_k34 : CalH l.prog w K mg base "_law_flags" s_law_flags_k34 1 ["e"] M_law_flags_k34 := ⟨⟨_, _, F9, PySem.W.mg_of X G a9, fn_law_flags_k34 F9 T , F9.binds (ps := ["e"]) fun _ _ _ _ _ _ us hl => match us, hl with | [_], _ => rfl⟩⟩
  have c_commute : Cal l.prog w K mg base "commute" s_commute 4 ["one", "other"] M_commute := ⟨⟨_, _, F10, PySem.W.mg_of X G a10, fn_commute F10 T c_check_text, F10.binds (ps := ["one", "other"]) fun _ _ _ _ _ _ us hl => match us, hl with | [_, _], _ => rfl⟩⟩
  have c_law_caught_k37 : Cal l.prog w K mg base "_law_caught" s_law_caught_k37 5 ["way", "left", "right"] M_law_caught_k37 := ⟨⟨_, _, F11, PySem.W.mg_of X G a11, fn_law_caught_k37 F11 T c_law_flags_k34 c_root c_commute, F11.binds (ps := ["way", "left", "right"]) fun _ _ _ _ _ _ us hl => match us, hl with | [_, _, _], _ => rfl⟩⟩
  have c_law_right_k37 : Cal l.prog w K mg base "_law_right" s_law_right_k37 6 ["pool"] M_law_right_k37 := ⟨⟨_, _, F12, PySem.W.mg_of X G a12, fn_law_right_k37 F12 T c_law_line_k36 c_law_bent_k37 c_law_caught_k37, F12.binds (ps := ["pool"]) fun _ _ _ _ _ _ us hl => match us, hl with | [_], _ => rfl⟩⟩
  exact fn_law_k37 F13 T c_law_pool c_law_right_k37
end DL.K37
open PySem PySem.W PyProof.Rows
set_option maxRecDepth 100000 in
set_option maxHeartbeats 0 in
theorem PySem.Challenge.cw_wordhulls_k37_errors_of_roots_holds : PySem.Challenge.rw_wordhulls_k37_errors_of_roots.Holds := by
  w_on; o_law; k_head; (case hw => w_witness2)
  k_fill
  refine DL.walk_g (l := PySem.Challenge.rw_wordhulls_k37_errors_of_roots) (n := 63) (k := 7) (fm := DL.M_law_k37) (x := "script") rfl (by decide) rfl ⟨rfl, by decide, by decide⟩ (fun w h Y => PySem.W.kIn_of Y) ?F DL.K37.plain
  case F =>
    intro w mg fa h KX G hmg
    refine' DL.K37.all_mk KX G hmg ?eA_WordError ?eA_InvalidWord ?eA_InvalidNumber ?eA_InvalidText ?eA_InvalidReading ?eA_NotOneWay ?eA_NotApart ?eA_NothingToUndo ?eA_TooMany ?eA_Unreadable ?eS ?eT ?eg_WordError ?eh_WordError ?ed_WordError ?ec_WordError ?em_WordError ?eg_InvalidWord ?eh_InvalidWord ?ed_InvalidWord ?ec_InvalidWord ?em_InvalidWord ?eg_InvalidNumber ?eh_InvalidNumber ?ed_InvalidNumber ?ec_InvalidNumber ?em_InvalidNumber ?eg_InvalidText ?eh_InvalidText ?ed_InvalidText ?ec_InvalidText ?em_InvalidText ?eg_InvalidReading ?eh_InvalidReading ?ed_InvalidReading ?ec_InvalidReading ?em_InvalidReading ?eg_NotOneWay ?eh_NotOneWay ?ed_NotOneWay ?ec_NotOneWay ?em_NotOneWay ?eg_NotApart ?eh_NotApart ?ed_NotApart ?ec_NotApart ?em_NotApart ?eg_NothingToUndo ?eh_NothingToUndo ?ed_NothingToUndo ?ec_NothingToUndo ?em_NothingToUndo ?eg_TooMany ?eh_TooMany ?ed_TooMany ?ec_TooMany ?em_TooMany ?eg_Unreadable ?eh_Unreadable ?ed_Unreadable ?ec_Unreadable ?em_Unreadable ?ev_WordError ?ew_WordError ?ev_InvalidWord ?ew_InvalidWord ?ev_InvalidNumber ?ew_InvalidNumber ?ev_InvalidText ?ew_InvalidText ?ev_InvalidReading ?ew_InvalidReading ?ev_NotOneWay ?ew_NotOneWay ?ev_NotApart ?ew_NotApart ?ev_NothingToUndo ?ew_NothingToUndo ?ev_TooMany ?ew_TooMany ?ev_Unreadable ?ew_Unreadable ?eb_WordError ?ei_WordError ?ey_WordError ?eb_InvalidWord ?ei_InvalidWord ?ey_InvalidWord ?eb_InvalidNumber ?ei_InvalidNumber ?ey_InvalidNumber ?eb_InvalidText ?ei_InvalidText ?ey_InvalidText ?eb_InvalidReading ?ei_InvalidReading ?ey_InvalidReading ?eb_NotOneWay ?ei_NotOneWay ?ey_NotOneWay ?eb_NotApart ?ei_NotApart ?ey_NotApart ?eb_NothingToUndo ?ei_NothingToUndo ?ey_NothingToUndo ?eb_TooMany ?ei_TooMany ?ey_TooMany ?eb_Unreadable ?ei_Unreadable ?ey_Unreadable ?es_WordError_InvalidNumber ?es_InvalidWord_InvalidNumber ?es_InvalidNumber_InvalidNumber ?es_InvalidText_InvalidNumber ?es_InvalidReading_InvalidNumber ?es_NotOneWay_InvalidNumber ?es_NotApart_InvalidNumber ?es_NothingToUndo_InvalidNumber ?es_TooMany_InvalidNumber ?es_Unreadable_InvalidNumber ?es_WordError_InvalidReading ?es_InvalidWord_InvalidReading ?es_InvalidNumber_InvalidReading ?es_InvalidText_InvalidReading ?es_InvalidReading_InvalidReading ?es_NotOneWay_InvalidReading ?es_NotApart_InvalidReading ?es_NothingToUndo_InvalidReading ?es_TooMany_InvalidReading ?es_Unreadable_InvalidReading ?es_WordError_InvalidText ?es_InvalidWord_InvalidText ?es_InvalidNumber_InvalidText ?es_InvalidText_InvalidText ?es_InvalidReading_InvalidText ?es_NotOneWay_InvalidText ?es_NotApart_InvalidText ?es_NothingToUndo_InvalidText ?es_TooMany_InvalidText ?es_Unreadable_InvalidText ?es_WordError_InvalidWord ?es_InvalidWord_InvalidWord ?es_InvalidNumber_InvalidWord ?es_InvalidText_InvalidWord ?es_InvalidReading_InvalidWord ?es_NotOneWay_InvalidWord ?es_NotApart_InvalidWord ?es_NothingToUndo_InvalidWord ?es_TooMany_InvalidWord ?es_Unreadable_InvalidWord ?es_WordError_NotApart ?es_InvalidWord_NotApart ?es_InvalidNumber_NotApart ?es_InvalidText_NotApart ?es_InvalidReading_NotApart ?es_NotOneWay_NotApart ?es_NotApart_NotApart ?es_NothingToUndo_NotApart ?es_TooMany_NotApart ?es_Unreadable_NotApart ?es_WordError_NotOneWay ?es_InvalidWord_NotOneWay ?es_InvalidNumber_NotOneWay ?es_InvalidText_NotOneWay ?es_InvalidReading_NotOneWay ?es_NotOneWay_NotOneWay ?es_NotApart_NotOneWay ?es_NothingToUndo_NotOneWay ?es_TooMany_NotOneWay ?es_Unreadable_NotOneWay ?es_WordError_NothingToUndo ?es_InvalidWord_NothingToUndo ?es_InvalidNumber_NothingToUndo ?es_InvalidText_NothingToUndo ?es_InvalidReading_NothingToUndo ?es_NotOneWay_NothingToUndo ?es_NotApart_NothingToUndo ?es_NothingToUndo_NothingToUndo ?es_TooMany_NothingToUndo ?es_Unreadable_NothingToUndo ?es_WordError_TooMany ?es_InvalidWord_TooMany ?es_InvalidNumber_TooMany ?es_InvalidText_TooMany ?es_InvalidReading_TooMany ?es_NotOneWay_TooMany ?es_NotApart_TooMany ?es_NothingToUndo_TooMany ?es_TooMany_TooMany ?es_Unreadable_TooMany ?es_WordError_Unreadable ?es_InvalidWord_Unreadable ?es_InvalidNumber_Unreadable ?es_InvalidText_Unreadable ?es_InvalidReading_Unreadable ?es_NotOneWay_Unreadable ?es_NotApart_Unreadable ?es_NothingToUndo_Unreadable ?es_TooMany_Unreadable ?es_Unreadable_Unreadable ?es_WordError_WordError ?es_InvalidWord_WordError ?es_InvalidNumber_WordError ?es_InvalidText_WordError ?es_InvalidReading_WordError ?es_NotOneWay_WordError ?es_NotApart_WordError ?es_NothingToUndo_WordError ?es_TooMany_WordError ?es_Unreadable_WordError ?iF ?iL ?iC ?iD ?iV ?iW ?iE ?iG ?iH ?iS ?iA ?iT ?iN ?il_InvalidText ?ib_InvalidText ?isa_InvalidText ?ik_InvalidText ?im_InvalidText ?ii_InvalidText ?if_InvalidText ?a1 ?l1 ?c1 ?k1 ?a2 ?l2 ?c2 ?k2 ?a3 ?l3 ?c3 ?k3 ?a4 ?l4 ?c4 ?k4 ?a5 ?l5 ?c5 ?k5 ?a6 ?l6 ?c6 ?k6 ?a7 ?l7 ?c7 ?k7 ?a8 ?l8 ?c8 ?k8 ?a9 ?l9 ?c9 ?k9 ?a10 ?l10 ?c10 ?k10 ?a11 ?l11 ?c11 ?k11 ?a12 ?l12 ?c12 ?k12 ?a13 ?l13 ?c13 ?k13 ?z_ValueError ?z_abs ?z_all ?z_int ?z_isinstance ?z_len ?z_max ?z_min ?z_range ?z_repr ?u_LETTERS
    (case eA_WordError => k_is)
    (case eA_InvalidWord => k_is)
    (case eA_InvalidNumber => k_is)
    (case eA_InvalidText => k_is)
    (case eA_InvalidReading => k_is)
    (case eA_NotOneWay => k_is)
    (case eA_NotApart => k_is)
    (case eA_NothingToUndo => k_is)
    (case eA_TooMany => k_is)
    (case eA_Unreadable => k_is)
    (case eS => k_is)
    (case eT => k_is)
    (case eg_WordError => k_is)
    (case eh_WordError => k_is)
    (case ed_WordError => k_is)
    (case ec_WordError => k_is)
    (case em_WordError => k_is)
    (case eg_InvalidWord => k_is)
    (case eh_InvalidWord => k_is)
    (case ed_InvalidWord => k_is)
    (case ec_InvalidWord => k_is)
    (case em_InvalidWord => k_is)
    (case eg_InvalidNumber => k_is)
    (case eh_InvalidNumber => k_is)
    (case ed_InvalidNumber => k_is)
    (case ec_InvalidNumber => k_is)
    (case em_InvalidNumber => k_is)
    (case eg_InvalidText => k_is)
    (case eh_InvalidText => k_is)
    (case ed_InvalidText => k_is)
    (case ec_InvalidText => k_is)
    (case em_InvalidText => k_is)
    (case eg_InvalidReading => k_is)
    (case eh_InvalidReading => k_is)
    (case ed_InvalidReading => k_is)
    (case ec_InvalidReading => k_is)
    (case em_InvalidReading => k_is)
    (case eg_NotOneWay => k_is)
    (case eh_NotOneWay => k_is)
    (case ed_NotOneWay => k_is)
    (case ec_NotOneWay => k_is)
    (case em_NotOneWay => k_is)
    (case eg_NotApart => k_is)
    (case eh_NotApart => k_is)
    (case ed_NotApart => k_is)
    (case ec_NotApart => k_is)
    (case em_NotApart => k_is)
    (case eg_NothingToUndo => k_is)
    (case eh_NothingToUndo => k_is)
    (case ed_NothingToUndo => k_is)
    (case ec_NothingToUndo => k_is)
    (case em_NothingToUndo => k_is)
    (case eg_TooMany => k_is)
    (case eh_TooMany => k_is)
    (case ed_TooMany => k_is)
    (case ec_TooMany => k_is)
    (case em_TooMany => k_is)
    (case eg_Unreadable => k_is)
    (case eh_Unreadable => k_is)
    (case ed_Unreadable => k_is)
    (case ec_Unreadable => k_is)
    (case em_Unreadable => k_is)
    (case ev_WordError => k_is)
    (case ew_WordError => k_is)
    (case ev_InvalidWord => k_is)
    (case ew_InvalidWord => k_is)
    (case ev_InvalidNumber => k_is)
    (case ew_InvalidNumber => k_is)
    (case ev_InvalidText => k_is)
    (case ew_InvalidText => k_is)
    (case ev_InvalidReading => k_is)
    (case ew_InvalidReading => k_is)
    (case ev_NotOneWay => k_is)
    (case ew_NotOneWay => k_is)
    (case ev_NotApart => k_is)
    (case ew_NotApart => k_is)
    (case ev_NothingToUndo => k_is)
    (case ew_NothingToUndo => k_is)
    (case ev_TooMany => k_is)
    (case ew_TooMany => k_is)
    (case ev_Unreadable => k_is)
    (case ew_Unreadable => k_is)
    (case eb_WordError => k_is)
    (case ei_WordError => k_is)
    (case ey_WordError => k_is)
    (case eb_InvalidWord => k_is)
    (case ei_InvalidWord => k_is)
    (case ey_InvalidWord => k_is)
    (case eb_InvalidNumber => k_is)
    (case ei_InvalidNumber => k_is)
    (case ey_InvalidNumber => k_is)
    (case eb_InvalidText => k_is)
    (case ei_InvalidText => k_is)
    (case ey_InvalidText => k_is)
    (case eb_InvalidReading => k_is)
    (case ei_InvalidReading => k_is)
    (case ey_InvalidReading => k_is)
    (case eb_NotOneWay => k_is)
    (case ei_NotOneWay => k_is)
    (case ey_NotOneWay => k_is)
    (case eb_NotApart => k_is)
    (case ei_NotApart => k_is)
    (case ey_NotApart => k_is)
    (case eb_NothingToUndo => k_is)
    (case ei_NothingToUndo => k_is)
    (case ey_NothingToUndo => k_is)
    (case eb_TooMany => k_is)
    (case ei_TooMany => k_is)
    (case ey_TooMany => k_is)
    (case eb_Unreadable => k_is)
    (case ei_Unreadable => k_is)
    (case ey_Unreadable => k_is)
    (case es_WordError_InvalidNumber => k_is)
    (case es_InvalidWord_InvalidNumber => k_is)
    (case es_InvalidNumber_InvalidNumber => k_is)
    (case es_InvalidText_InvalidNumber => k_is)
    (case es_InvalidReading_InvalidNumber => k_is)
    (case es_NotOneWay_InvalidNumber => k_is)
    (case es_NotApart_InvalidNumber => k_is)
    (case es_NothingToUndo_InvalidNumber => k_is)
    (case es_TooMany_InvalidNumber => k_is)
    (case es_Unreadable_InvalidNumber => k_is)
    (case es_WordError_InvalidReading => k_is)
    (case es_InvalidWord_InvalidReading => k_is)
    (case es_InvalidNumber_InvalidReading => k_is)
    (case es_InvalidText_InvalidReading => k_is)
    (case es_InvalidReading_InvalidReading => k_is)
    (case es_NotOneWay_InvalidReading => k_is)
    (case es_NotApart_InvalidReading => k_is)
    (case es_NothingToUndo_InvalidReading => k_is)
    (case es_TooMany_InvalidReading => k_is)
    (case es_Unreadable_InvalidReading => k_is)
    (case es_WordError_InvalidText => k_is)
    (case es_InvalidWord_InvalidText => k_is)
    (case es_InvalidNumber_InvalidText => k_is)
    (case es_InvalidText_InvalidText => k_is)
    (case es_InvalidReading_InvalidText => k_is)
    (case es_NotOneWay_InvalidText => k_is)
    (case es_NotApart_InvalidText => k_is)
    (case es_NothingToUndo_InvalidText => k_is)
    (case es_TooMany_InvalidText => k_is)
    (case es_Unreadable_InvalidText => k_is)
    (case es_WordError_InvalidWord => k_is)
    (case es_InvalidWord_InvalidWord => k_is)
    (case es_InvalidNumber_InvalidWord => k_is)
    (case es_InvalidText_InvalidWord => k_is)
    (case es_InvalidReading_InvalidWord => k_is)
    (case es_NotOneWay_InvalidWord => k_is)
    (case es_NotApart_InvalidWord => k_is)
    (case es_NothingToUndo_InvalidWord => k_is)
    (case es_TooMany_InvalidWord => k_is)
    (case es_Unreadable_InvalidWord => k_is)
    (case es_WordError_NotApart => k_is)
    (case es_InvalidWord_NotApart => k_is)
    (case es_InvalidNumber_NotApart => k_is)
    (case es_InvalidText_NotApart => k_is)
    (case es_InvalidReading_NotApart => k_is)
    (case es_NotOneWay_NotApart => k_is)
    (case es_NotApart_NotApart => k_is)
    (case es_NothingToUndo_NotApart => k_is)
    (case es_TooMany_NotApart => k_is)
    (case es_Unreadable_NotApart => k_is)
    (case es_WordError_NotOneWay => k_is)
    (case es_InvalidWord_NotOneWay => k_is)
    (case es_InvalidNumber_NotOneWay => k_is)
    (case es_InvalidText_NotOneWay => k_is)
    (case es_InvalidReading_NotOneWay => k_is)
    (case es_NotOneWay_NotOneWay => k_is)
    (case es_NotApart_NotOneWay => k_is)
    (case es_NothingToUndo_NotOneWay => k_is)
    (case es_TooMany_NotOneWay => k_is)
    (case es_Unreadable_NotOneWay => k_is)
    (case es_WordError_NothingToUndo => k_is)
    (case es_InvalidWord_NothingToUndo => k_is)
    (case es_InvalidNumber_NothingToUndo => k_is)
    (case es_InvalidText_NothingToUndo => k_is)
    (case es_InvalidReading_NothingToUndo => k_is)
    (case es_NotOneWay_NothingToUndo => k_is)
    (case es_NotApart_NothingToUndo => k_is)
    (case es_NothingToUndo_NothingToUndo => k_is)
    (case es_TooMany_NothingToUndo => k_is)
    (case es_Unreadable_NothingToUndo => k_is)
    (case es_WordError_TooMany => k_is)
    (case es_InvalidWord_TooMany => k_is)
    (case es_InvalidNumber_TooMany => k_is)
    (case es_InvalidText_TooMany => k_is)
    (case es_InvalidReading_TooMany => k_is)
    (case es_NotOneWay_TooMany => k_is)
    (case es_NotApart_TooMany => k_is)
    (case es_NothingToUndo_TooMany => k_is)
    (case es_TooMany_TooMany => k_is)
    (case es_Unreadable_TooMany => k_is)
    (case es_WordError_Unreadable => k_is)
    (case es_InvalidWord_Unreadable => k_is)
    (case es_InvalidNumber_Unreadable => k_is)
    (case es_InvalidText_Unreadable => k_is)
    (case es_InvalidReading_Unreadable => k_is)
    (case es_NotOneWay_Unreadable => k_is)
    (case es_NotApart_Unreadable => k_is)
    (case es_NothingToUndo_Unreadable => k_is)
    (case es_TooMany_Unreadable => k_is)
    (case es_Unreadable_Unreadable => k_is)
    (case es_WordError_WordError => k_is)
    (case es_InvalidWord_WordError => k_is)
    (case es_InvalidNumber_WordError => k_is)
    (case es_InvalidText_WordError => k_is)
    (case es_InvalidReading_WordError => k_is)
    (case es_NotOneWay_WordError => k_is)
    (case es_NotApart_WordError => k_is)
    (case es_NothingToUndo_WordError => k_is)
    (case es_TooMany_WordError => k_is)
    (case es_Unreadable_WordError => k_is)
    (case iF => k_is)
    (case iL => k_is)
    (case iC => k_is)
    (case iD => k_is)
    (case iV => rfl)
    (case iW => decide +kernel)
    (case iE => k_is)
    (case iG => k_is)
    (case iH => decide +kernel)
    (case iS => k_is)
    (case iA => k_is)
    (case iT => k_is)
    (case iN => rfl)
    (case il_InvalidText => k_is)
    (case ib_InvalidText => decide +kernel)
    (case isa_InvalidText => k_is)
    (case ik_InvalidText => k_is)
    (case im_InvalidText => k_is)
    (case ii_InvalidText => ks_is)
    (case if_InvalidText => k_is)
    (case a1 => k_is)
    (case l1 => k_is)
    (case c1 => k_is)
    (case k1 => k_is)
    (case a2 => k_is)
    (case l2 => k_is)
    (case c2 => k_is)
    (case k2 => k_is)
    (case a3 => k_is)
    (case l3 => k_is)
    (case c3 => k_is)
    (case k3 => k_is)
    (case a4 => k_is)
    (case l4 => k_is)
    (case c4 => k_is)
    (case k4 => k_is)
    (case a5 => k_is)
    (case l5 => k_is)
    (case c5 => k_is)
    (case k5 => k_is)
    (case a6 => k_is)
    (case l6 => k_is)
    (case c6 => k_is)
    (case k6 => k_is)
    (case a7 => k_is)
    (case l7 => k_is)
    (case c7 => k_is)
    (case k7 => k_is)
    (case a8 => k_is)
    (case l8 => k_is)
    (case c8 => k_is)
    (case k8 => k_is)
    (case a9 => k_is)
    (case l9 => k_is)
    (case c9 => k_is)
    (case k9 => k_is)
    (case a10 => k_is)
    (case l10 => k_is)
    (case c10 => k_is)
    (case k10 => k_is)
    (case a11 => k_is)
    (case l11 => k_is)
    (case c11 => k_is)
    (case k11 => k_is)
    (case a12 => k_is)
    (case l12 => k_is)
    (case c12 => k_is)
    (case k12 => k_is)
    (case a13 => k_is)
    (case l13 => k_is)
    (case c13 => k_is)
    (case k13 => k_is)
    (case z_ValueError => k_is)
    (case z_abs => k_is)
    (case z_all => k_is)
    (case z_int => k_is)
    (case z_isinstance => k_is)
    (case z_len => k_is)
    (case z_max => k_is)
    (case z_min => k_is)
    (case z_range => k_is)
    (case z_repr => k_is)
    (case u_LETTERS => k_is)
