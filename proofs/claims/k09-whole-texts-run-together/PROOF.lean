import PyProof.Rows.All
import Wide.All
import OpenK.AllK
import Wide.FinOn
import HandS.ForMost
import HandS.ForExc
import HandS.Wide
import HandS.TupAny
import HandS.Style
import HandS.TupLe
import HandS.Deep
import HandS.StrMore
import KE.KRevSl
import HandS.Iter
import KE.GoesMore
import HandS.Property
import HandS.SortInts
import HandS.Star
import PyProof.Rows.SortShellAny
import HandS.Ends
import HandS.SetFor
import HandS.SetTxt0
import HandS.Conv
import HandS.OwnEq
import HandS.IsInst
import PyProof.InstEq
import PyProof.ReprLen
import PySem.Challenge.RW_wordhulls_k09_whole_texts_run_together
set_option Elab.async false
set_option linter.all false
set_option maxRecDepth 100000
set_option maxHeartbeats 4000000
/-! DCore: the data layer over HandS. Data (PyData), slots with an owner, the judgements. -/
namespace DL
open PySem PySem.Spec L2
abbrev strOk (x : Str) : Bool := PyData.strOk x

abbrev D := PyData
/-- what the program's top says -/
structure G where
  K : PySem.W.Frag
  mg : Str → Option Value
def keyD : Key → D
  | .inl i => .int i
  | .inr x => .str x
def keyOk1 : Key → Bool
  | .inl _ => true
  | .inr x => strOk x
def keysOk (l : List Key) : Bool := l.all keyOk1
def keysOkT (l : List (List Key)) : Bool := l.all keysOk
/-- a list that is read alone (the script) -/
def roD (ds : List D) : D := .dict [(.bool true, .list ds)]
/-- an instance as data: a dict that begins with None -/
def insD (c : Str) (ns : List Str) (ds : List D) : D := .dict ((.none, .str c) :: (ns.map PyData.str).zip ds)

def Sub (F H : Hp) : Prop := ∀ a o, F a = some o → H a = some o
theorem Sub.refl {F : Hp} : Sub F F := fun _ _ h => h
theorem Sub.trans {F H J : Hp} (a : Sub F H) (b : Sub H J) : Sub F J := fun x o h => b x o (a x o h)
theorem Sub.rd {F H : Hp} {a : Addr} {u : HO} (s : Sub F H) (r : Rd F a u) : Rd H a u := by
  rcases r with r | ⟨o, r⟩
  · exact .inl (s _ _ r)
  · exact .inr ⟨o, s _ _ r⟩
theorem Sub.sqL {K : PySem.W.Frag} {F H : Hp} {a : Addr} {xs : List V} (s : Sub F H) (h : SqL K F a xs) : SqL K H a xs := by
  rcases h with h | h
  · exact .inl (s.rd h)
  · exact .inr h
theorem Sub.sqT {K : PySem.W.Frag} {F H : Hp} {a : Addr} {xs : List V} (s : Sub F H) (h : SqT K F a xs) : SqT K H a xs := by
  rcases h with h | h
  · exact .inl (s.rd h)
  · exact .inr h

mutual
/-- v is the data d, all its objects stand in F -/
inductive Den (g : G) (F : Hp) : V → D → Prop
  | non : Den g F .non .none
  | bl (b : Bool) : Den g F (.bl b) (.bool b)
  | int (i : Int) : Den g F (.int i) (.int i)
  | str (x : Str) : strOk x = true → Den g F (.str x) (.str x)
  | lst {a : Addr} {xs : List V} {ds : List D} : F a = some (.lst xs) → DenL g F xs ds → Den g F (.ref a) (.list ds)
  | ro {a : Addr} {xs : List V} {ds : List D} {d : D} : SqL g.K F a xs → DenL g F xs ds → d = roD ds → Den g F (.ref a) d
  | tup {a : Addr} {xs : List V} {ds : List D} : SqT g.K F a xs → DenL g F xs ds → Den g F (.ref a) (.tuple ds)
  | ins {a C dx : Addr} {c : Str} {fs : List (Str × V)} {vs : List V} {ds : List D} {d : D} : g.mg c = some (.ref C) → F a = some (.ins C dx fs) → vs = fs.map (·.2) → DenL g F vs ds → d = insD c (fs.map (·.1)) ds → Den g F (.ref a) d
  | dctK {a : Addr} {kvs : List (Key × V)} {vs : List V} {ds : List D} {d : D} : Rd F a (.dK kvs) → keysOk (kvs.map (·.1)) = true → vs = kvs.map (·.2) → DenL g F vs ds → d = .dict ((kvs.map fun p => keyD p.1).zip ds) → Den g F (.ref a) d
  | dctT {a : Addr} {kvs : List (List Key × V)} {vs : List V} {ds : List D} {d : D} : Rd F a (.dT kvs) → keysOkT (kvs.map (·.1)) = true → vs = kvs.map (·.2) → DenL g F vs ds → d = .dict ((kvs.map fun p => .tuple (p.1.map keyD)).zip ds) → Den g F (.ref a) d
inductive DenL (g : G) (F : Hp) : List V → List D → Prop
  | nil : DenL g F [] []
  | cons {v : V} {vs : List V} {d : D} {ds : List D} : Den g F v d → DenL g F vs ds → DenL g F (v :: vs) (d :: ds)
end
variable {g : G}
mutual
theorem Den.mono {F F' : Hp} (s : Sub F F') : ∀ {v : V} {d : D}, Den g F v d → Den g F' v d
  | _, _, .non => .non
  | _, _, .bl b => .bl b
  | _, _, .int i => .int i
  | _, _, .str x h => .str x h
  | _, _, .lst h r => .lst (s _ _ h) (DenL.mono s r)
  | _, _, .ro h r e => .ro (s.sqL h) (DenL.mono s r) e
  | _, _, .tup h r => .tup (s.sqT h) (DenL.mono s r)
  | _, _, .ins h1 h2 h3 r e => .ins h1 (s _ _ h2) h3 (DenL.mono s r) e
  | _, _, .dctK h1 h2 h3 r e => .dctK (s.rd h1) h2 h3 (DenL.mono s r) e
  | _, _, .dctT h1 h2 h3 r e => .dctT (s.rd h1) h2 h3 (DenL.mono s r) e
theorem DenL.mono {F F' : Hp} (s : Sub F F') : ∀ {vs : List V} {ds : List D}, DenL g F vs ds → DenL g F' vs ds
  | _, _, .nil => .nil
  | _, _, .cons h r => .cons (Den.mono s h) (DenL.mono s r)
end
theorem DenL.length {F : Hp} : ∀ {vs : List V} {ds : List D}, DenL g F vs ds → vs.length = ds.length
  | _, _, .nil => rfl
  | _, _, .cons _ r => congrArg (· + 1) (DenL.length r)
theorem DenL.get {F : Hp} : ∀ {vs : List V} {ds : List D} {i : Nat} {d : D}, DenL g F vs ds → ds[i]? = some d → ∃ v, vs[i]? = some v ∧ Den g F v d
  | _, _, 0, _, .cons h _, e => by simp at e; subst e; exact ⟨_, by simp, h⟩
  | _, _, i + 1, _, .cons _ r, e => by
    obtain ⟨v, h1, h2⟩ := DenL.get (i := i) r (by simpa using e)
    exact ⟨v, by simpa using h1, h2⟩
  | _, _, _, _, .nil, e => by simp at e
theorem DenL.get' {F : Hp} : ∀ {vs : List V} {ds : List D} {i : Nat} {v : V}, DenL g F vs ds → vs[i]? = some v → ∃ d, ds[i]? = some d ∧ Den g F v d
  | _, _, 0, _, .cons h _, e => by simp at e; subst e; exact ⟨_, by simp, h⟩
  | _, _, i + 1, _, .cons _ r, e => by
    obtain ⟨v, h1, h2⟩ := DenL.get' (i := i) r (by simpa using e)
    exact ⟨v, by simpa using h1, h2⟩
  | _, _, _, _, .nil, e => by simp at e
theorem DenL.append {F : Hp} : ∀ {vs ws : List V} {ds es : List D}, DenL g F vs ds → DenL g F ws es → DenL g F (vs ++ ws) (ds ++ es)
  | _, _, _, _, .nil, s => s
  | _, _, _, _, .cons h r, s => .cons h (DenL.append r s)
theorem DenL.take {F : Hp} : ∀ {vs : List V} {ds : List D} (n : Nat), DenL g F vs ds → DenL g F (vs.take n) (ds.take n)
  | _, _, 0, _ => .nil
  | _, _, _ + 1, .nil => .nil
  | _, _, n + 1, .cons h r => .cons h (DenL.take n r)
theorem DenL.drop {F : Hp} : ∀ {vs : List V} {ds : List D} (n : Nat), DenL g F vs ds → DenL g F (vs.drop n) (ds.drop n)
  | _, _, 0, r => r
  | _, _, _ + 1, .nil => .nil
  | _, _, n + 1, .cons _ r => DenL.drop n r
theorem DenL.set {F : Hp} {v : V} {d : D} (h : Den g F v d) : ∀ {vs : List V} {ds : List D} (n : Nat), DenL g F vs ds → DenL g F (vs.set n v) (ds.set n d)
  | _, _, _, .nil => .nil
  | _, _, 0, .cons _ r => .cons h r
  | _, _, n + 1, .cons k r => .cons k (DenL.set h n r)

/-- an object of one's own: it alone may change, what it holds stands in F -/
inductive OwnAt (g : G) (F H : Hp) (a : Addr) : D → Prop
  | lst {xs : List V} {ds : List D} : H a = some (.lst xs) → DenL g F xs ds → OwnAt g F H a (.list ds)
  | dctK {kvs : List (Key × V)} {vs : List V} {ds : List D} {d : D} : H a = some (.dK kvs) → keysOk (kvs.map (·.1)) = true → vs = kvs.map (·.2) → DenL g F vs ds → d = .dict ((kvs.map fun p => keyD p.1).zip ds) → OwnAt g F H a d
  | dctT {kvs : List (List Key × V)} {vs : List V} {ds : List D} {d : D} : H a = some (.dT kvs) → keysOkT (kvs.map (·.1)) = true → vs = kvs.map (·.2) → DenL g F vs ds → d = .dict ((kvs.map fun p => .tuple (p.1.map keyD)).zip ds) → OwnAt g F H a d
  | ins {C dx : Addr} {c : Str} {fs : List (Str × V)} {vs : List V} {ds : List D} {d : D} : g.mg c = some (.ref C) → H a = some (.ins C dx fs) → vs = fs.map (·.2) → DenL g F vs ds → d = insD c (fs.map (·.1)) ds → OwnAt g F H a d
theorem OwnAt.mono {F F' H H' : Hp} {a : Addr} {d : D} (s : Sub F F') (k : ∀ o, H a = some o → H' a = some o) (h : OwnAt g F H a d) : OwnAt g F' H' a d := by
  cases h with
  | lst h r => exact .lst (k _ h) (r.mono s)
  | dctK h1 h2 h3 r e => exact .dctK (k _ h1) h2 h3 (r.mono s) e
  | dctT h1 h2 h3 r e => exact .dctT (k _ h1) h2 h3 (r.mono s) e
  | ins h1 h2 h3 r e => exact .ins h1 (k _ h2) h3 (r.mono s) e
theorem OwnAt.there {F H : Hp} {a : Addr} {d : D} (h : OwnAt g F H a d) : ∃ o, H a = some o := by
  cases h with
  | lst h _ => exact ⟨_, h⟩
  | dctK h _ _ _ _ => exact ⟨_, h⟩
  | dctT h _ _ _ _ => exact ⟨_, h⟩
  | ins _ h _ _ _ => exact ⟨_, h⟩
/-- it stands still from now on -/
theorem OwnAt.den {F H : Hp} {a : Addr} {d : D} {o : HO} (h : OwnAt g F H a d) (ho : H a = some o) (hn : F a = none) : Den g (upd F a o) (.ref a) d := by
  have s : Sub F (upd F a o) := fun b u e => by
    by_cases hb : b = a
    · subst hb; rw [hn] at e; cases e
    · rw [upd_ne hb]; exact e
  cases h with
  | lst h r => rw [h] at ho; cases ho; exact .lst upd_same (r.mono s)
  | dctK h1 h2 h3 r e => rw [h1] at ho; cases ho; exact .dctK (.inl upd_same) h2 h3 (r.mono s) e
  | dctT h1 h2 h3 r e => rw [h1] at ho; cases ho; exact .dctT (.inl upd_same) h2 h3 (r.mono s) e
  | ins h1 h2 h3 r e => rw [h2] at ho; cases ho; exact .ins h1 upd_same h3 (r.mono s) e

/-! ### slots -/
inductive Kd | fr | lk | pn
  deriving DecidableEq
inductive Sl
  | no
  | fz (d : D)
  | ow (k : Kd) (d : D)
abbrev Env := List Sl
def SlOk (g : G) (F H : Hp) (o : Option V) : Sl → Prop
  | .no => True
  | .fz d => ∃ v, o = some v ∧ Den g F v d
  | .ow _ d => ∃ a, o = some (.ref a) ∧ F a = none ∧ OwnAt g F H a d
def Adr (σ : St) (env : Env) (i : Nat) (a : Addr) : Prop := (∃ k d, env[i]? = some (.ow k d)) ∧ σ[i]? = some (some (.ref a))
def Own (σ : St) (env : Env) (a : Addr) : Prop := ∃ i, Adr σ env i a
structure EnvOk (g : G) (F H : Hp) (σ : St) (env : Env) : Prop where
  len : σ.length = env.length
  sub : Sub F H
  sl : ∀ (i : Nat) (s : Sl), env[i]? = some s → ∃ o, σ[i]? = some o ∧ SlOk g F H o s
  dis : ∀ (i j : Nat) (a : Addr), Adr σ env i a → Adr σ env j a → i = j
/-- from F, H with the own objects O to F', H' with O' -/
structure Ext (F H : Hp) (O : Addr → Prop) (F' H' : Hp) (O' : Addr → Prop) : Prop where
  sub : Sub F F'
  keep : ∀ b o, H b = some o → ¬ O b → H' b = some o
  dom : ∀ b, H b ≠ none → H' b ≠ none
  new : ∀ b, F b = none → F' b ≠ none → H b = none ∨ O b
  own : ∀ b, O' b → H b = none ∨ O b
theorem Ext.refl {F H : Hp} {O : Addr → Prop} : Ext F H O F H O := ⟨.refl, fun _ _ h _ => h, fun _ h => h, fun _ h h' => absurd h h', fun _ h => .inr h⟩
theorem Ext.trans {F H F1 H1 F2 H2 : Hp} {O O1 O2 : Addr → Prop} (a : Ext F H O F1 H1 O1) (b : Ext F1 H1 O1 F2 H2 O2) : Ext F H O F2 H2 O2 := by
  have back : ∀ x, H1 x = none ∨ O1 x → H x = none ∨ O x := fun x h => by
    rcases h with h | h
    · by_cases e : H x = none
      · exact .inl e
      · exact absurd h (a.dom x e)
    · exact a.own x h
  refine ⟨a.sub.trans b.sub, fun x o h n => b.keep x o (a.keep x o h n) fun q => ?_, fun x h => b.dom x (a.dom x h), fun x h h' => ?_, fun x h => back x (b.own x h)⟩
  · rcases a.own x q with e | e
    · rw [h] at e; cases e
    · exact n e
  · by_cases e : F1 x = none
    · exact back x (b.new x e h')
    · exact a.new x h e
/-- nothing that stood changes -/
structure Grow (F H F' H' : Hp) : Prop where
  sub : Sub F F'
  keep : Sub H H'
  new : ∀ b, F b = none → F' b ≠ none → H b = none
  fr : Sub F' H'
theorem Sub.dom {H H' : Hp} (s : Sub H H') : ∀ b, H b ≠ none → H' b ≠ none := fun b h e => by
  cases q : H b with
  | none => exact h q
  | some o => rw [s b o q] at e; cases e
theorem Grow.ext {F H F' H' : Hp} {O : Addr → Prop} (x : Grow F H F' H') : Ext F H O F' H' O :=
  ⟨x.sub, fun b o h _ => x.keep b o h, x.keep.dom, fun b h h' => .inl (x.new b h h'), fun b h => .inr h⟩
theorem EnvOk.grow {F H F' H' : Hp} {σ : St} {env : Env} (k : EnvOk g F H σ env) (x : Grow F H F' H') : EnvOk g F' H' σ env := by
  refine ⟨k.len, x.fr, fun i s e => ?_, k.dis⟩
  obtain ⟨o, h1, h2⟩ := k.sl i s e
  refine ⟨o, h1, ?_⟩
  cases s with
  | no => trivial
  | fz d =>
    obtain ⟨v, e1, h3⟩ := h2
    exact ⟨v, e1, h3.mono x.sub⟩
  | ow kd d =>
    obtain ⟨a, e1, h3, h4⟩ := h2
    refine ⟨a, e1, ?_, h4.mono x.sub fun o h => x.keep a o h⟩
    cases q : F' a with
    | none => rfl
    | some u =>
      obtain ⟨o', q'⟩ := h4.there
      have := x.new a h3 (by rw [q]; simp)
      rw [q'] at this; cases this

inductive Rv
  | val (d : D)
  | new (d : D)
  | sl (i : Nat)
inductive Res (α : Type)
  | ok (a : α)
  | ex (c : Str) (d : D) (env : Env)
  | stuck
def Res.bind {α β : Type} (m : Res α) (k : α → Res β) : Res β :=
  match m with
  | .ok a => k a
  | .ex c d e => .ex c d e
  | .stuck => .stuck
instance : Monad Res where
  pure := .ok
  bind := Res.bind
@[simp] theorem Res.pure_eq {α : Type} (a : α) : (pure a : Res α) = .ok a := rfl
@[simp] theorem Res.ok_bind {α β : Type} (a : α) (k : α → Res β) : (Res.ok a >>= k) = k a := rfl
@[simp] theorem Res.ex_bind {α β : Type} (c : Str) (d : D) (e : Env) (k : α → Res β) : (Res.ex c d e >>= k) = .ex c d e := rfl
@[simp] theorem Res.stuck_bind {α β : Type} (k : α → Res β) : ((Res.stuck : Res α) >>= k) = .stuck := rfl

def Rv.data (r : Rv) (env : Env) : Res D :=
  match r with
  | .val d => .ok d
  | .new d => .ok d
  | .sl i => match env[i]? with
    | some (.fz d) => .ok d
    | some (.ow _ d) => .ok d
    | _ => .stuck
def Rv.frz (r : Rv) (env : Env) : Res (D × Env) :=
  match r with
  | .val d => .ok (d, env)
  | .new d => .ok (d, env)
  | .sl i => match env[i]? with
    | some (.fz d) => .ok (d, env)
    | some (.ow .fr d) => .ok (d, env.set i (.fz d))
    | _ => .stuck
def RvOk (g : G) (H0 F H : Hp) (σ : St) (env : Env) (v : V) : Rv → Prop
  | .val d => Den g F v d
  | .new d => ∃ a, v = .ref a ∧ H0 a = none ∧ F a = none ∧ ¬ Own σ env a ∧ OwnAt g F H a d
  | .sl i => σ[i]? = some (some v)
/-- v is d as the heap is now: to be looked at at once -/
def Pk (g : G) (F H : Hp) (v : V) (d : D) : Prop := Den g F v d ∨ ∃ a, v = .ref a ∧ OwnAt g F H a d
theorem RvOk.ext {H0 F H F' H' : Hp} {σ : St} {env env' : Env} {v : V} {r : Rv} (h : RvOk g H0 F H σ env v r) (x : Ext F H (Own σ env) F' H' (Own σ env')) : RvOk g H0 F' H' σ env' v r := by
  cases r with
  | val d => exact Den.mono x.sub h
  | new d =>
    obtain ⟨a, e, h0, hf, ho, w⟩ := h
    obtain ⟨o, q⟩ := w.there
    have nn : ¬ (H a = none ∨ Own σ env a) := fun z => z.elim (fun z => by rw [q] at z; cases z) ho
    refine ⟨a, e, h0, ?_, fun z => nn (x.own a z), w.mono x.sub fun o' e' => x.keep a o' e' ho⟩
    cases q' : F' a with
    | none => rfl
    | some u => exact absurd (x.new a hf (by rw [q']; simp)) nn
  | sl i => exact h
theorem RvOk.earlier {H0 H1 F H : Hp} {σ : St} {env : Env} {v : V} {r : Rv} (h : RvOk g H1 F H σ env v r) (k : ∀ b, H0 b ≠ none → H1 b ≠ none) : RvOk g H0 F H σ env v r := by
  cases r with
  | val d => exact h
  | new d =>
    obtain ⟨a, e, h0, r⟩ := h
    refine ⟨a, e, ?_, r⟩
    cases q : H0 a with
    | none => rfl
    | some u => exact absurd h0 (k a (by rw [q]; simp))
  | sl i => exact h
theorem RvOk.pk {H0 F H : Hp} {σ : St} {env : Env} {v : V} {r : Rv} {d : D} (h : RvOk g H0 F H σ env v r) (k : EnvOk g F H σ env) (e : r.data env = .ok d) : Pk g F H v d := by
  cases r with
  | val d' => cases e; exact .inl h
  | new d' =>
    cases e
    obtain ⟨a, e, _, _, _, w⟩ := h
    exact .inr ⟨a, e, w⟩
  | sl i =>
    have h : σ[i]? = some (some v) := h
    unfold Rv.data at e
    simp only at e
    split at e
    · rename_i d' q
      cases e
      obtain ⟨o, h1, v', h2, h3⟩ := k.sl i _ q
      rw [h] at h1; cases h1; cases h2
      exact .inl h3
    · rename_i kd d' q
      cases e
      obtain ⟨o, h1, a, h2, h3, h4⟩ := k.sl i _ q
      rw [h] at h1; cases h1; cases h2
      exact .inr ⟨a, rfl, h4⟩
    · cases e

section
variable {F H : Hp} {v : V}
theorem Pk.int {i : Int} (h : Pk g F H v (.int i)) : v = .int i := by
  rcases h with h | ⟨a, e, h⟩
  · cases h <;> first | rfl | (rename_i e; first | exact absurd e (by simp [insD, roD]) | cases e)
  · cases h <;> (rename_i e; cases e)
theorem Pk.bl {i : Bool} (h : Pk g F H v (.bool i)) : v = .bl i := by
  rcases h with h | ⟨a, e, h⟩
  · cases h <;> first | rfl | (rename_i e; first | exact absurd e (by simp [insD, roD]) | cases e)
  · cases h <;> (rename_i e; cases e)
theorem Pk.non (h : Pk g F H v .none) : v = .non := by
  rcases h with h | ⟨a, e, h⟩
  · cases h <;> first | rfl | (rename_i e; first | exact absurd e (by simp [insD, roD]) | cases e)
  · cases h <;> (rename_i e; cases e)
theorem Pk.str {x : Str} (h : Pk g F H v (.str x)) : v = .str x ∧ strOk x = true := by
  rcases h with h | ⟨a, e, h⟩
  · cases h <;> first | exact ⟨rfl, by assumption⟩ | (rename_i e; first | exact absurd e (by simp [insD, roD]) | cases e)
  · cases h <;> (rename_i e; cases e)
theorem Pk.lst {ds : List D} (s : Sub F H) (h : Pk g F H v (.list ds)) : ∃ a xs, v = .ref a ∧ H a = some (.lst xs) ∧ DenL g F xs ds := by
  rcases h with h | ⟨a, e, h⟩
  · cases h <;> first | exact ⟨_, _, rfl, s _ _ (by assumption), by assumption⟩ | (rename_i e; first | exact absurd e (by simp [insD, roD]) | cases e)
  · cases h <;> first | exact ⟨a, _, e, by assumption, by assumption⟩ | (rename_i e; cases e)
theorem Pk.tup {ds : List D} (s : Sub F H) (h : Pk g F H v (.tuple ds)) : ∃ a xs, v = .ref a ∧ SqT g.K H a xs ∧ DenL g F xs ds := by
  rcases h with h | ⟨a, e, h⟩
  · cases h <;> first | exact ⟨_, _, rfl, s.sqT (by assumption), by assumption⟩ | (rename_i e; first | exact absurd e (by simp [insD, roD]) | cases e)
  · cases h <;> (rename_i e; cases e)
end
/-- objects held or walked stay where they are -/
def Keep (σ : St) (env : Env) (σ' : St) (env' : Env) : Prop :=
  ∀ (i : Nat) (k : Kd) (d : D), env[i]? = some (.ow k d) → k ≠ .fr → σ'[i]? = σ[i]? ∧ ∃ d', env'[i]? = some (.ow k d') ∧ (k = .lk → d' = d)
theorem Keep.refl {σ : St} {env : Env} : Keep σ env σ env := fun _ _ d e _ => ⟨rfl, d, e, fun _ => rfl⟩
theorem Keep.trans {σ σ1 σ2 : St} {e e1 e2 : Env} (a : Keep σ e σ1 e1) (b : Keep σ1 e1 σ2 e2) : Keep σ e σ2 e2 := fun i k d h n => by
  obtain ⟨h1, d1, h2, h3⟩ := a i k d h n
  obtain ⟨h4, d2, h5, h6⟩ := b i k d1 h2 n
  exact ⟨h4.trans h1, d2, h5, fun q => (h6 q).trans (h3 q)⟩

/-- an own object of a slot that stands still from now on -/
theorem EnvOk.freeze {F H : Hp} {σ : St} {env : Env} {a : Addr} {o : HO} (k : EnvOk g F H σ env) (ho : H a = some o) (hf : F a = none) (hn : ¬ Own σ env a) : EnvOk g (upd F a o) H σ env := by
  have s : Sub F (upd F a o) := fun b u e => by
    by_cases hb : b = a
    · subst hb; rw [hf] at e; cases e
    · rw [upd_ne hb]; exact e
  refine ⟨k.len, fun b u e => ?_, fun i sl e => ?_, k.dis⟩
  · by_cases hb : b = a
    · subst hb; rw [upd_same] at e; cases e; exact ho
    · rw [upd_ne hb] at e; exact k.sub b u e
  · obtain ⟨o', h1, h2⟩ := k.sl i sl e
    refine ⟨o', h1, ?_⟩
    cases sl with
    | no => trivial
    | fz d =>
      obtain ⟨v, e1, h3⟩ := h2
      exact ⟨v, e1, h3.mono s⟩
    | ow kd d =>
      obtain ⟨b, e1, h3, h4⟩ := h2
      refine ⟨b, e1, ?_, h4.mono s fun _ h => h⟩
      have nb : b ≠ a := fun z => hn ⟨i, ⟨kd, d, e⟩, by rw [h1, e1, z]⟩
      rw [upd_ne nb]; exact h3
theorem upd_sub {F : Hp} {a : Addr} {o : HO} (hf : F a = none) : Sub F (upd F a o) := fun b u e => by
  by_cases hb : b = a
  · subst hb; rw [hf] at e; cases e
  · rw [upd_ne hb]; exact e
theorem upd_new {F : Hp} {a b : Addr} {o : HO} (hf : F b = none) (h : upd F a o b ≠ none) : b = a := by
  by_cases hb : b = a
  · exact hb
  · rw [upd_ne hb] at h; exact absurd hf h
theorem get_set {α : Type} {l : List α} {i j : Nat} {x y : α} (h : (l.set i x)[j]? = some y) : (i = j ∧ y = x ∧ i < l.length) ∨ (i ≠ j ∧ l[j]? = some y) := by
  by_cases e : i = j
  · subst e
    by_cases hl : i < l.length
    · rw [List.getElem?_set_self hl] at h; cases h; exact .inl ⟨rfl, rfl, hl⟩
    · rw [List.getElem?_eq_none (by simpa using hl)] at h; cases h
  · rw [List.getElem?_set_ne e] at h
    exact .inr ⟨e, h⟩
theorem lt_of_get {α : Type} {l : List α} {i : Nat} {x : α} (h : l[i]? = some x) : i < l.length := by
  by_cases e : i < l.length
  · exact e
  · rw [List.getElem?_eq_none (by omega)] at h; cases h
/-- a value that is kept: what it is stands still from now on -/
theorem RvOk.frz {F0 H0 F H : Hp} {O : Addr → Prop} {σ : St} {env env' : Env} {v : V} {r : Rv} {d : D} (h : RvOk g H0 F H σ env v r) (x : Ext F0 H0 O F H (Own σ env)) (k : EnvOk g F H σ env) (e : r.frz env = .ok (d, env')) :
    ∃ F', Ext F0 H0 O F' H (Own σ env') ∧ EnvOk g F' H σ env' ∧ Keep σ env σ env' ∧ Den g F' v d := by
  cases r with
  | val d' => cases e; exact ⟨F, x, k, .refl, h⟩
  | new d' =>
    cases e
    obtain ⟨a, e, h0, hf, hn, w⟩ := h
    obtain ⟨o, ho⟩ := w.there
    subst e
    refine ⟨upd F a o, ⟨x.sub.trans (upd_sub hf), x.keep, x.dom, fun b q q' => ?_, x.own⟩, k.freeze ho hf hn, .refl, w.den ho hf⟩
    by_cases qb : F b = none
    · have := upd_new qb q'
      subst this
      exact .inl h0
    · exact x.new b q qb
  | sl i =>
    have h : σ[i]? = some (some v) := h
    unfold Rv.frz at e
    simp only at e
    split at e
    · rename_i d' q
      cases e
      obtain ⟨o, h1, v', h2, h3⟩ := k.sl i _ q
      rw [h] at h1; cases h1; cases h2
      exact ⟨F, x, k, .refl, h3⟩
    · rename_i d' q
      cases e
      obtain ⟨o, h1, a, h2, h3, h4⟩ := k.sl i _ q
      rw [h] at h1; cases h1; cases h2
      obtain ⟨o, ho⟩ := h4.there
      have oa : Own σ env a := ⟨i, ⟨.fr, d, q⟩, h⟩
      have hd := h4.den ho h3
      have hs : ∀ j s, (env.set i (.fz d))[j]? = some s → (j = i ∧ s = .fz d) ∨ (j ≠ i ∧ env[j]? = some s) := fun j s z => by
        rcases get_set z with ⟨z1, z2, _⟩ | ⟨z1, z2⟩
        · exact .inl ⟨z1.symm, z2⟩
        · exact .inr ⟨Ne.symm z1, z2⟩
      have adr : ∀ j b, Adr σ (env.set i (.fz d)) j b → j ≠ i ∧ Adr σ env j b := fun j b ⟨⟨kd, d2, z⟩, z2⟩ => by
        rcases hs j _ z with ⟨_, z3⟩ | ⟨z3, z4⟩
        · cases z3
        · exact ⟨z3, ⟨kd, d2, z4⟩, z2⟩
      refine ⟨upd F a o, ⟨x.sub.trans (upd_sub h3), x.keep, x.dom, fun b q1 q2 => ?_, fun b ⟨j, z⟩ => x.own b ⟨j, (adr j b z).2⟩⟩, ⟨by simpa using k.len, fun b u q1 => ?_, fun j s z => ?_, fun j1 j2 b z1 z2 => k.dis j1 j2 b (adr _ _ z1).2 (adr _ _ z2).2⟩, fun j kd d2 z nk => ?_, hd⟩
      · by_cases qb : F b = none
        · have := upd_new qb q2
          subst this
          exact x.own b oa
        · exact x.new b q1 qb
      · by_cases hb : b = a
        · subst hb; rw [upd_same] at q1; cases q1; exact ho
        · rw [upd_ne hb] at q1; exact k.sub b u q1
      · rcases hs j s z with ⟨z1, z2⟩ | ⟨z1, z2⟩
        · subst z1; subst z2
          exact ⟨_, h, _, rfl, hd⟩
        · obtain ⟨o', y1, y2⟩ := k.sl j s z2
          refine ⟨o', y1, ?_⟩
          cases s with
          | no => trivial
          | fz d2 => obtain ⟨v2, y3, y4⟩ := y2; exact ⟨v2, y3, y4.mono (upd_sub h3)⟩
          | ow kd d2 =>
            obtain ⟨b, y3, y4, y5⟩ := y2
            refine ⟨b, y3, ?_, y5.mono (upd_sub h3) fun _ z => z⟩
            have nb : b ≠ a := fun zz => z1 (k.dis j i a ⟨⟨kd, d2, z2⟩, by rw [y1, y3, zz]⟩ ⟨⟨.fr, d, q⟩, h⟩)
            rw [upd_ne nb]; exact y4
      · have hj : i ≠ j := fun zz => by subst zz; rw [q] at z; cases z; exact nk rfl
        exact ⟨rfl, d2, by rw [List.getElem?_set_ne hj]; exact z, fun _ => rfl⟩
    · cases e
end DL
namespace DL
open PySem PySem.Spec L2
variable {g : G} {W : WX}

/-- how a result is what the mirror says: the heap ahead, then F, H, the env behind -/
abbrev RelB (β α : Type) := Hp → Hp → Hp → St → Env → β → α → Prop
structure Early {β α : Type} (R : RelB β α) : Prop where
  run : ∀ H0 H1 F H σ env b a, (∀ x, H0 x ≠ none → H1 x ≠ none) → R H1 F H σ env b a → R H0 F H σ env b a
/-- what is wanted behind a part -/
def Post {β α : Type} (R : RelB β α) (g : G) (W : WX) (F H : Hp) (σ : St) (env : Env) (Q : β → Hp → Prop) : Res (α × Env) → Prop
  | .ok (r, env') => ∀ F' H' v, Ext F H (Own σ env) F' H' (Own σ env') → EnvOk g F' H' σ env' → Keep σ env σ env' → R H F' H' σ env' v r → Q v H'
  | .ex c d env' => ∀ F' H' dd C v, Ext F H (Own σ env) F' H' (Own σ env') → EnvOk g F' H' σ env' → Keep σ env σ env' → g.mg c = some (.ref C) → H' dd = some (.xd [(("value" : Str), v)]) → Den g F' v d → W (.ref C) (some dd) σ H'
  | .stuck => False
theorem Post.after {β α : Type} {R : RelB β α} (er : Early R) {F H F1 H1 : Hp} {σ : St} {env e1 : Env} {Q : β → Hp → Prop} {m : Res (α × Env)} (x : Ext F H (Own σ env) F1 H1 (Own σ e1)) (k : Keep σ env σ e1) (h : Post R g W F H σ env Q m) : Post R g W F1 H1 σ e1 Q m := by
  cases m with
  | ok p => obtain ⟨r, e2⟩ := p; exact fun F' H' v x' ok k' rv => h F' H' v (x.trans x') ok (k.trans k') (er.run _ _ _ _ _ _ _ _ x.dom rv)
  | ex c d e2 => exact fun F' H' dd C v x' ok k' => h F' H' dd C v (x.trans x') ok (k.trans k')
  | stuck => exact h
/-- one part, then what is made of it -/
theorem Post.bind {β α β' α' : Type} {R : RelB β α} {R' : RelB β' α'} (er : Early R') {F H : Hp} {σ : St} {env : Env} {Q : β' → Hp → Prop} {Qa : β → Hp → Prop} {m : Res (α × Env)} {k : α × Env → Res (α' × Env)} (h : Post R' g W F H σ env Q (m >>= k))
    (hk : ∀ r e1 F1 H1 v, Ext F H (Own σ env) F1 H1 (Own σ e1) → EnvOk g F1 H1 σ e1 → Keep σ env σ e1 → R H F1 H1 σ e1 v r → Post R' g W F1 H1 σ e1 Q (k (r, e1)) → Qa v H1) : Post R g W F H σ env Qa m := by
  cases m with
  | ok p =>
    obtain ⟨r, e1⟩ := p
    exact fun F1 H1 v x ok kp rv => hk r e1 F1 H1 v x ok kp rv (Post.after er x kp h)
  | ex c d e => exact h
  | stuck => exact h
def RE (g : G) : RelB V Rv := fun H0 F H σ env v r => RvOk g H0 F H σ env v r
def RB : RelB Bool Bool := fun _ _ _ _ _ b c => b = c
def RD (g : G) : RelB V D := fun _ F _ _ _ v d => Den g F v d
def RDs (g : G) : RelB (List V) (List D) := fun _ F _ _ _ v d => DenL g F v d
def ROI : RelB (Option Int) (Option Int) := fun _ _ _ _ _ b c => b = c
theorem RE.early : Early (RE g) := ⟨fun _ _ _ _ _ _ _ _ k h => RvOk.earlier h k⟩
theorem RB.early : Early RB := ⟨fun _ _ _ _ _ _ _ _ _ h => h⟩
theorem RD.early : Early (RD g) := ⟨fun _ _ _ _ _ _ _ _ _ h => h⟩
theorem RDs.early : Early (RDs g) := ⟨fun _ _ _ _ _ _ _ _ _ h => h⟩
theorem ROI.early : Early ROI := ⟨fun _ _ _ _ _ _ _ _ _ h => h⟩
abbrev ME := Env → Res (Rv × Env)
abbrev MT := Env → Res (Bool × Env)
def Good {β α : Type} (R : RelB β α) (g : G) (W : WX) (t : St → Hp → (β → Hp → Prop) → Prop) (f : Env → Res (α × Env)) : Prop := ∀ F H σ env Q, EnvOk g F H σ env → Post R g W F H σ env Q (f env) → t σ H Q
abbrev GoodE (g : G) (W : WX) (t : TE) (f : ME) : Prop := Good (RE g) g W t f
abbrev GoodT (g : G) (W : WX) (t : TT) (f : MT) : Prop := Good RB g W t f
/-- an expression of the text and what it is worth; a test -/
structure DE (X : Cx) (W : WX) (e : Expr) (f : ME) : Prop where
  ex : ∃ t, PE X e t ∧ GoodE ⟨X.K, X.mg⟩ W t f
structure DT (X : Cx) (W : WX) (e : Expr) (f : MT) : Prop where
  ex : ∃ t, PT X e t ∧ GoodT ⟨X.K, X.mg⟩ W t f
structure DW (X : Cx) (W : WX) (e : Expr) (f : MT) : Prop where
  ex : ∃ t, PW X e t ∧ GoodT ⟨X.K, X.mg⟩ W t f

/-! ### names, constants -/
def mVar (i : Nat) : ME := fun env => match env[i]? with
  | some (.fz d) => .ok (.val d, env)
  | some (.ow _ _) => .ok (.sl i, env)
  | _ => .stuck
def mC (d : D) : ME := fun env => .ok (.val d, env)
theorem good_var {i : Nat} : GoodE g W (tVar i) (mVar i) := fun F H σ env Q k h => by
  unfold mVar at h
  split at h
  · rename_i d q
    obtain ⟨o, h1, v, h2, h3⟩ := k.sl i _ q
    subst h2
    exact ⟨v, h1, h F H v .refl k .refl h3⟩
  · rename_i kd d q
    obtain ⟨o, h1, a, h2, h3⟩ := k.sl i _ q
    subst h2
    exact ⟨_, h1, h F H _ .refl k .refl h1⟩
  · exact h.elim
theorem good_c {v : V} {d : D} (hd : ∀ F, Den g F v d) : GoodE g W (tC v) (mC d) := fun F H σ env Q k h => h F H v .refl k .refl (hd F)
section
variable {X : Cx} {pos : Pos}
theorem de_var {i : Nat} {x : Str} (hN : X.N[i]? = some x) (hv : Vis X.env.scope x) (hd : (x == ("__debug__" : Str)) = false := by decide) (hcd : (x == ("__classdict__" : Str)) = false := by decide) : DE X W (.Name x pos) (mVar i) :=
  ⟨_, pe_var hN hv hd hcd, good_var⟩
theorem de_int {i j} : DE X W (.Constant (.int i) j pos) (mC (.int i)) := ⟨_, pe_int, good_c fun _ => .int i⟩
theorem de_str {i j} (h : strOk i = true := by decide +kernel) : DE X W (.Constant (.str i) j pos) (mC (.str i)) := ⟨_, pe_str, good_c fun _ => .str i h⟩
theorem de_bl {i j} : DE X W (.Constant (.bool i) j pos) (mC (.bool i)) := ⟨_, pe_bl, good_c fun _ => .bl i⟩
theorem de_non {j} : DE X W (.Constant .none j pos) (mC .none) := ⟨_, pe_non, good_c fun _ => .non⟩
/-- a module's constant -/
theorem de_glob {x : Str} {v : V} {u : Value} {d : D} (hg : Gl X x) (hm : X.mg x = some u) (r : RelV v u) (hd : ∀ F, Den ⟨X.K, X.mg⟩ F v d) (hdb : (x == ("__debug__" : Str)) = false := by decide) : DE X W (.Name x pos) (mC d) :=
  ⟨_, pe_glob hg hm r hdb, good_c hd⟩
end

/-! ### what is made of values at once -/
/-- r does what o says, of values looked at -/
def Post0 (g : G) (F H : Hp) (Q : VK) : Option Rv → Prop
  | some (.val d) => ∀ F' H' v, Grow F H F' H' → Den g F' v d → Q v H'
  | some (.new d) => ∀ H' a, H a = none → Grow F H F H' → OwnAt g F H' a d → Q (.ref a) H'
  | _ => False
def orStuck {α : Type} (o : Option α) (env : Env) : Res (α × Env) := match o with | some r => .ok (r, env) | none => .stuck
@[simp] theorem orStuck_some {α : Type} (r : α) (env : Env) : orStuck (some r) env = .ok (r, env) := rfl
@[simp] theorem orStuck_none {α : Type} (env : Env) : orStuck (none : Option α) env = .stuck := rfl
def NoSl (o : Option Rv) : Prop := ∀ i, o ≠ some (.sl i)
theorem NoSl.none : NoSl Option.none := fun _ h => nomatch h
theorem NoSl.val {d : D} : NoSl (some (.val d)) := fun _ h => nomatch h
theorem NoSl.new {d : D} : NoSl (some (.new d)) := fun _ h => nomatch h
theorem EnvOk.fresh {F H : Hp} {σ : St} {env : Env} {a : Addr} (k : EnvOk g F H σ env) (hn : H a = none) : F a = none ∧ ¬ Own σ env a := by
  refine ⟨?_, fun ⟨i, ⟨kd, d2, z⟩, z2⟩ => ?_⟩
  · cases q : F a with
    | none => rfl
    | some u => rw [k.sub a u q] at hn; cases hn
  · obtain ⟨o, h1, b, h2, h3, h4⟩ := k.sl i _ z
    rw [z2] at h1; cases h1; cases h2
    obtain ⟨u, q⟩ := h4.there
    rw [hn] at q; cases q
theorem post0_of {F H : Hp} {σ : St} {env : Env} {Q : VK} {o : Option Rv} (k : EnvOk g F H σ env) (h : Post (RE g) g W F H σ env Q (orStuck o env)) (hs : NoSl o) : Post0 g F H Q o := by
  cases o with
  | none => exact h
  | some r =>
    cases r with
    | val d => exact fun F' H' v x hv => h F' H' v x.ext (k.grow x) .refl hv
    | new d =>
      refine fun H' a hn x w => h F H' (.ref a) x.ext (k.grow x) .refl ⟨a, rfl, hn, (k.fresh hn).1, (k.fresh hn).2, w⟩
    | sl i => exact absurd rfl (hs i)
theorem Grow.refl {F H : Hp} (s : Sub F H) : Grow F H F H := ⟨.refl, .refl, fun _ h h' => absurd h h', s⟩
/-- a new object is laid -/
theorem Grow.laid {F H : Hp} {a : Addr} {o : HO} (s : Sub F H) (hn : H a = none) : Grow F H F (upd H a o) :=
  ⟨.refl, upd_sub hn, fun _ h h' => absurd h h', s.trans (upd_sub hn)⟩
/-- a new object is laid that never changes -/
theorem Grow.laidF {F H : Hp} {a : Addr} {o : HO} (s : Sub F H) (hn : H a = none) : Grow F H (upd F a o) (upd H a o) := by
  have hf : F a = none := by
    cases q : F a with
    | none => rfl
    | some u => rw [s a u q] at hn; cases hn
  refine ⟨upd_sub hf, upd_sub hn, fun b h h' => ?_, fun b u e => ?_⟩
  · rw [upd_new h h']; exact hn
  · by_cases hb : b = a
    · subst hb; rw [upd_same] at e ⊢; exact e
    · rw [upd_ne hb] at e ⊢; exact s b u e
theorem Post0.val0 {F H : Hp} {Q : VK} {d : D} {v : V} (s : Sub F H) (h : Post0 g F H Q (some (.val d))) (hv : Den g F v d) : Q v H := h F H v (.refl s) hv
theorem Post0.newL {F H : Hp} {Q : VK} {ds : List D} {vs : List V} {a : Addr} (s : Sub F H) (h : Post0 g F H Q (some (.new (.list ds)))) (hn : H a = none) (hv : DenL g F vs ds) : Q (.ref a) (upd H a (.lst vs)) :=
  h _ a hn (.laid s hn) (.lst upd_same hv)
theorem Post0.valT {F H : Hp} {Q : VK} {ds : List D} {vs : List V} {a : Addr} (s : Sub F H) (h : Post0 g F H Q (some (.val (.tuple ds)))) (hn : H a = none) (hv : DenL g F vs ds) : Q (.ref a) (upd H a (.tup vs)) := by
  have x := Grow.laidF (o := .tup vs) s hn
  exact h _ _ _ x (.tup (.inl (.inl upd_same)) (hv.mono x.sub))
theorem data_cases (r : Rv) (env : Env) : (∃ d, r.data env = .ok d) ∨ r.data env = .stuck := by
  unfold Rv.data
  cases r with
  | val d => exact .inl ⟨d, rfl⟩
  | new d => exact .inl ⟨d, rfl⟩
  | sl i =>
    show (∃ d, (match env[i]? with | some (.fz d) => Res.ok d | some (.ow _ d) => .ok d | _ => .stuck) = .ok d) ∨ (match env[i]? with | some (.fz d) => Res.ok d | some (.ow _ d) => .ok d | _ => .stuck) = .stuck
    split
    · exact .inl ⟨_, rfl⟩
    · exact .inl ⟨_, rfl⟩
    · exact .inr rfl
theorem frz_cases (r : Rv) (env : Env) : (∃ d e, r.frz env = .ok (d, e)) ∨ r.frz env = .stuck := by
  unfold Rv.frz
  cases r with
  | val d => exact .inl ⟨d, _, rfl⟩
  | new d => exact .inl ⟨d, _, rfl⟩
  | sl i =>
    show (∃ d e, (match env[i]? with | some (.fz d) => Res.ok (d, env) | some (.ow .fr d) => .ok (d, env.set i (.fz d)) | _ => .stuck) = .ok (d, e)) ∨ (match env[i]? with | some (.fz d) => Res.ok (d, env) | some (.ow .fr d) => .ok (d, env.set i (.fz d)) | _ => .stuck) = .stuck
    split
    · exact .inl ⟨_, _, rfl⟩
    · exact .inl ⟨_, _, rfl⟩
    · exact .inr rfl
/-- the reading r of two values (an operator) is good for o -/
structure Good2 (g : G) (r : R2) (o : D → D → Option Rv) : Prop where
  run : ∀ F H x y d e Q, Sub F H → Pk g F H x d → Pk g F H y e → Post0 g F H Q (o d e) → r x y H Q
  nosl : ∀ d e, NoSl (o d e)
def mBin (o : D → D → Option Rv) (f h : ME) : ME := fun env => do
  let (r1, e1) ← f env
  let (r2, e2) ← h e1
  let d1 ← r1.data e2
  let d2 ← r2.data e2
  orStuck (o d1 d2) e2
theorem good_bin {ta tb : TE} {r : R2} {o : D → D → Option Rv} {f h : ME} (ha : GoodE g W ta f) (hb : GoodE g W tb h) (ho : Good2 g r o) : GoodE g W (tOp r ta tb) (mBin o f h) := fun F H σ env Q k p => by
  refine ha F H σ env _ k (Post.bind RE.early p fun r1 e1 F1 H1 x x1 k1 kp1 rv1 p1 => ?_)
  refine hb F1 H1 σ e1 _ k1 (Post.bind RE.early p1 fun r2 e2 F2 H2 y x2 k2 kp2 rv2 p2 => ?_)
  have rv1' := RvOk.ext rv1 x2
  rcases data_cases r1 e2 with ⟨d1, q1⟩ | q1
  · rcases data_cases r2 e2 with ⟨d2, q2⟩ | q2
    · simp only [q1, q2, Res.ok_bind] at p2
      exact ho.run F2 H2 x y d1 d2 Q k2.sub (rv1'.pk k2 q1) (RvOk.pk rv2 k2 q2) (post0_of k2 p2 (ho.nosl d1 d2))
    · simp only [q1, q2, Res.ok_bind, Res.stuck_bind] at p2; exact p2.elim
  · simp only [q1, Res.stuck_bind] at p2; exact p2.elim
section
variable {X : Cx} {a b : Expr} {pos : Pos} {f h : ME} {r : R2} {o : D → D → Option Rv}
theorem de_op {op : Operator} (ho : OpR X (binaryOp op) r) (hg : Good2 ⟨X.K, X.mg⟩ r o) (ha : DE X W a f) (hb : DE X W b h) : DE X W (.BinOp a op b pos) (mBin o f h) := by
  obtain ⟨ta, pa, ga⟩ := ha
  obtain ⟨tb, pb, gb⟩ := hb
  exact ⟨_, pe_op ho pa pb, good_bin ga gb hg⟩
theorem de_cmp {op : CmpOp} (ho : OpR X (compareOp op) r) (hg : Good2 ⟨X.K, X.mg⟩ r o) (ha : DE X W a f) (hb : DE X W b h) (hm : behindInMarks op b = false) : DE X W (.Compare a [op] [b] pos) (mBin o f h) := by
  obtain ⟨ta, pa, ga⟩ := ha
  obtain ⟨tb, pb, gb⟩ := hb
  exact ⟨_, pe_cmpR ho pa pb hm, good_bin ga gb hg⟩
theorem de_ix (ho : IxR X r) (hg : Good2 ⟨X.K, X.mg⟩ r o) (ha : DE X W a f) (hb : DE X W b h) (hs : PlainIx b) : DE X W (.Subscript a b pos) (mBin o f h) := by
  obtain ⟨ta, pa, ga⟩ := ha
  obtain ⟨tb, pb, gb⟩ := hb
  exact ⟨_, pe_ix ho pa pb hs, good_bin ga gb hg⟩
end

/-! ### tests -/
def asB : D → Option Bool
  | .bool b => some b
  | _ => none
def mTest (f : ME) : MT := fun env => do
  let (r, e) ← f env
  let d ← r.data e
  orStuck (asB d) e
theorem good_test {t : TE} {f : ME} (h : GoodE g W t f) : GoodT g W (tTest t) (mTest f) := fun F H σ env Q k p => by
  refine h F H σ env _ k (Post.bind RB.early p fun r1 e1 F1 H1 x x1 k1 kp1 rv1 p1 => ?_)
  rcases data_cases r1 e1 with ⟨d, q1⟩ | q1
  · have pk := RvOk.pk rv1 k1 q1
    simp only [q1, Res.ok_bind] at p1
    cases d with
    | bool b => exact ⟨b, pk.bl, p1 F1 H1 b .refl k1 .refl rfl⟩
    | _ => exact p1.elim
  · simp only [q1, Res.stuck_bind] at p1; exact p1.elim
def mAnd (f h : MT) : MT := fun env => do
  let (b, e) ← f env
  if b = true then h e else .ok (false, e)
def mOr (f h : MT) : MT := fun env => do
  let (b, e) ← f env
  if b = true then .ok (true, e) else h e
def mNot (f : MT) : MT := fun env => do
  let (b, e) ← f env
  .ok (!b, e)
theorem good_and {t u : TT} {f h : MT} (ha : GoodT g W t f) (hb : GoodT g W u h) : GoodT g W (tAnd t u) (mAnd f h) := fun F H σ env Q k p => by
  refine ha F H σ env _ k (Post.bind RB.early p fun r1 e1 F1 H1 x x1 k1 kp1 rv1 p1 => ?_)
  have rv1 : x = r1 := rv1
  subst rv1
  cases x with
  | true => exact hb F1 H1 σ e1 Q k1 p1
  | false => exact p1 F1 H1 false .refl k1 .refl rfl
theorem good_or {t u : TT} {f h : MT} (ha : GoodT g W t f) (hb : GoodT g W u h) : GoodT g W (tOr t u) (mOr f h) := fun F H σ env Q k p => by
  refine ha F H σ env _ k (Post.bind RB.early p fun r1 e1 F1 H1 x x1 k1 kp1 rv1 p1 => ?_)
  have rv1 : x = r1 := rv1
  subst rv1
  cases x with
  | false => exact hb F1 H1 σ e1 Q k1 p1
  | true => exact p1 F1 H1 true .refl k1 .refl rfl
theorem good_not {t : TT} {f : MT} (ha : GoodT g W t f) : GoodT g W (tNot t) (mNot f) := fun F H σ env Q k p => by
  refine ha F H σ env _ k (Post.bind RB.early p fun r1 e1 F1 H1 x x1 k1 kp1 rv1 p1 => ?_)
  have rv1 : x = r1 := rv1
  subst rv1
  exact p1 F1 H1 _ .refl k1 .refl rfl
/-- a test as a value -/
def mVal (f : MT) : ME := fun env => do
  let (b, e) ← f env
  .ok (.val (.bool b), e)
/-- and, or, not of bools as values -/
theorem good_andV {ta tb : TE} {f h : ME} (ha : GoodE g W ta f) (hb : GoodE g W tb h) : GoodE g W (tAndV ta tb) (mVal (mAnd (mTest f) (mTest h))) := fun F H σ env Q k p => by
  have e : mVal (mAnd (mTest f) (mTest h)) env = (f env >>= fun q => q.1.data q.2 >>= fun d => orStuck (asB d) q.2 >>= fun w => (if w.1 = true then mTest h w.2 else .ok (false, w.2)) >>= fun z => .ok (.val (.bool z.1), z.2)) := by
    unfold mVal mAnd
    show ((mTest f env >>= _) >>= _) = _
    unfold mTest
    cases f env with
    | ok q =>
      simp only [Res.ok_bind]
      cases q.1.data q.2 with
      | ok d => simp only [Res.ok_bind]; cases asB d <;> rfl
      | ex => rfl
      | stuck => rfl
    | ex => rfl
    | stuck => rfl
  rw [e] at p
  refine ha F H σ env _ k (Post.bind RE.early p fun r1 e1 F1 H1 x x1 k1 kp1 rv1 p1 => ?_)
  rcases data_cases r1 e1 with ⟨d, q1⟩ | q1
  · have pk := RvOk.pk rv1 k1 q1
    simp only [q1, Res.ok_bind] at p1
    cases d with
    | bool b =>
      refine ⟨b, pk.bl, ?_⟩
      cases b with
      | false => exact p1 F1 H1 _ .refl k1 .refl (.bl false)
      | true =>
        rw [if_pos rfl]
        have e2 : (orStuck (asB (.bool true)) e1 >>= fun w => (if w.1 = true then mTest h w.2 else .ok (false, w.2)) >>= fun z => Res.ok (Rv.val (.bool z.1), z.2)) = (h e1 >>= fun q => (q.1.data q.2 >>= fun d => orStuck (asB d) q.2) >>= fun z => .ok (.val (.bool z.1), z.2)) := by
          show (mTest h e1 >>= _) = _
          unfold mTest
          cases h e1 <;> rfl
        rw [e2] at p1
        refine hb F1 H1 σ e1 _ k1 (Post.bind RE.early p1 fun r2 e2 F2 H2 y x2 k2 kp2 rv2 p2 => ?_)
        rcases data_cases r2 e2 with ⟨d2, q2⟩ | q2
        · have pk2 := RvOk.pk rv2 k2 q2
          simp only [q2, Res.ok_bind] at p2
          cases d2 with
          | bool b2 => rw [pk2.bl]; exact p2 F2 H2 _ .refl k2 .refl (.bl b2)
          | _ => exact p2.elim
        · simp only [q2, Res.stuck_bind] at p2; exact p2.elim
    | _ => exact p1.elim
  · simp only [q1, Res.stuck_bind] at p1; exact p1.elim
theorem good_orV {ta tb : TE} {f h : ME} (ha : GoodE g W ta f) (hb : GoodE g W tb h) : GoodE g W (tOrV ta tb) (mVal (mOr (mTest f) (mTest h))) := fun F H σ env Q k p => by
  have e : mVal (mOr (mTest f) (mTest h)) env = (f env >>= fun q => q.1.data q.2 >>= fun d => orStuck (asB d) q.2 >>= fun w => (if w.1 = true then .ok (true, w.2) else mTest h w.2) >>= fun z => .ok (.val (.bool z.1), z.2)) := by
    unfold mVal mOr
    show ((mTest f env >>= _) >>= _) = _
    unfold mTest
    cases f env with
    | ok q =>
      simp only [Res.ok_bind]
      cases q.1.data q.2 with
      | ok d => simp only [Res.ok_bind]; cases asB d <;> rfl
      | ex => rfl
      | stuck => rfl
    | ex => rfl
    | stuck => rfl
  rw [e] at p
  refine ha F H σ env _ k (Post.bind RE.early p fun r1 e1 F1 H1 x x1 k1 kp1 rv1 p1 => ?_)
  rcases data_cases r1 e1 with ⟨d, q1⟩ | q1
  · have pk := RvOk.pk rv1 k1 q1
    simp only [q1, Res.ok_bind] at p1
    cases d with
    | bool b =>
      refine ⟨b, pk.bl, ?_⟩
      cases b with
      | true => exact p1 F1 H1 _ .refl k1 .refl (.bl true)
      | false =>
        rw [if_neg Bool.false_ne_true]
        have e2 : (orStuck (asB (.bool false)) e1 >>= fun w => (if w.1 = true then Res.ok (true, w.2) else mTest h w.2) >>= fun z => Res.ok (Rv.val (.bool z.1), z.2)) = (h e1 >>= fun q => (q.1.data q.2 >>= fun d => orStuck (asB d) q.2) >>= fun z => .ok (.val (.bool z.1), z.2)) := by
          show (mTest h e1 >>= _) = _
          unfold mTest
          cases h e1 <;> rfl
        rw [e2] at p1
        refine hb F1 H1 σ e1 _ k1 (Post.bind RE.early p1 fun r2 e2 F2 H2 y x2 k2 kp2 rv2 p2 => ?_)
        rcases data_cases r2 e2 with ⟨d2, q2⟩ | q2
        · have pk2 := RvOk.pk rv2 k2 q2
          simp only [q2, Res.ok_bind] at p2
          cases d2 with
          | bool b2 => rw [pk2.bl]; exact p2 F2 H2 _ .refl k2 .refl (.bl b2)
          | _ => exact p2.elim
        · simp only [q2, Res.stuck_bind] at p2; exact p2.elim
    | _ => exact p1.elim
  · simp only [q1, Res.stuck_bind] at p1; exact p1.elim
theorem good_notV {ta : TE} {f : ME} (ha : GoodE g W ta f) : GoodE g W (tNotV ta) (mVal (mNot (mTest f))) := fun F H σ env Q k p => by
  have e : mVal (mNot (mTest f)) env = (f env >>= fun q => q.1.data q.2 >>= fun d => orStuck (asB d) q.2 >>= fun w => .ok (.val (.bool (!w.1)), w.2)) := by
    unfold mVal mNot
    show ((mTest f env >>= _) >>= _) = _
    unfold mTest
    cases f env with
    | ok q =>
      simp only [Res.ok_bind]
      cases q.1.data q.2 with
      | ok d => simp only [Res.ok_bind]; cases asB d <;> rfl
      | ex => rfl
      | stuck => rfl
    | ex => rfl
    | stuck => rfl
  rw [e] at p
  refine ha F H σ env _ k (Post.bind RE.early p fun r1 e1 F1 H1 x x1 k1 kp1 rv1 p1 => ?_)
  rcases data_cases r1 e1 with ⟨d, q1⟩ | q1
  · have pk := RvOk.pk rv1 k1 q1
    simp only [q1, Res.ok_bind] at p1
    cases d with
    | bool b => exact ⟨b, pk.bl, p1 F1 H1 _ .refl k1 .refl (.bl _)⟩
    | _ => exact p1.elim
  · simp only [q1, Res.stuck_bind] at p1; exact p1.elim
def mIf (c : MT) (f h : ME) : ME := fun env => do
  let (b, e) ← c env
  if b = true then f e else h e
theorem good_if {t : TT} {ta tb : TE} {c : MT} {f h : ME} (hc : GoodT g W t c) (ha : GoodE g W ta f) (hb : GoodE g W tb h) : GoodE g W (tIf t ta tb) (mIf c f h) := fun F H σ env Q k p => by
  refine hc F H σ env _ k (Post.bind RE.early p fun r1 e1 F1 H1 x x1 k1 kp1 rv1 p1 => ?_)
  have rv1 : x = r1 := rv1
  subst rv1
  cases x with
  | true => exact ha F1 H1 σ e1 Q k1 p1
  | false => exact hb F1 H1 σ e1 Q k1 p1
section
variable {X : Cx} {a b c : Expr} {pos : Pos} {f h : ME} {p q : MT} {rest : List Expr}
/-- a bool's expression as a test -/
theorem dt_val (ha : DE X W a f) (he : ∀ whole, isTrue a X.env whole = (do let v ← whole; standAt a.pos; holding [v] (truthy v)) := by intro _; rfl) : DT X W a (mTest f) := by
  obtain ⟨t, pa, ga⟩ := ha
  exact ⟨_, pt_val pa he, good_test ga⟩
theorem dt_cmp {op : CmpOp} {r : R2} {o : D → D → Option Rv} (ho : OpR X (compareOp op) r) (hg : Good2 ⟨X.K, X.mg⟩ r o) (ha : DE X W a f) (hb : DE X W b h) (hm : behindInMarks op b = false) : DT X W (.Compare a [op] [b] pos) (mTest (mBin o f h)) := by
  obtain ⟨ta, pa, ga⟩ := ha
  obtain ⟨tb, pb, gb⟩ := hb
  exact ⟨_, pt_cmpR ho pa pb hm, good_test (good_bin ga gb hg)⟩
theorem dt_not (ha : DT X W a p) : DT X W (.UnaryOp .Not a pos) (mNot p) := by
  obtain ⟨t, pa, ga⟩ := ha
  exact ⟨_, pt_not pa, good_not ga⟩
theorem dw_and1 (ha : DT X W a p) : DW X W (.BoolOp .And [a] pos) p := by obtain ⟨t, pa, ga⟩ := ha; exact ⟨_, pw_and1 pa, ga⟩
theorem dw_or1 (ha : DT X W a p) : DW X W (.BoolOp .Or [a] pos) p := by obtain ⟨t, pa, ga⟩ := ha; exact ⟨_, pw_or1 pa, ga⟩
theorem dw_and (ha : DT X W a p) (hb : DW X W (.BoolOp .And (b :: rest) pos) q) : DW X W (.BoolOp .And (a :: b :: rest) pos) (mAnd p q) := by
  obtain ⟨t, pa, ga⟩ := ha
  obtain ⟨u, pb, gb⟩ := hb
  exact ⟨_, pw_and pa pb, good_and ga gb⟩
theorem dw_or (ha : DT X W a p) (hb : DW X W (.BoolOp .Or (b :: rest) pos) q) : DW X W (.BoolOp .Or (a :: b :: rest) pos) (mOr p q) := by
  obtain ⟨t, pa, ga⟩ := ha
  obtain ⟨u, pb, gb⟩ := hb
  exact ⟨_, pw_or pa pb, good_or ga gb⟩
theorem dt_w (ha : DW X W a p) : DT X W a p := by obtain ⟨t, pa, ga⟩ := ha; exact ⟨_, pa.pt, ga⟩
theorem de_one {op} (ha : DE X W a f) : DE X W (.BoolOp op [a] pos) f := by obtain ⟨t, pa, ga⟩ := ha; exact ⟨_, pe_one pa, ga⟩
theorem de_and (ha : DE X W a f) (hb : DE X W (.BoolOp .And (b :: rest) pos) h) : DE X W (.BoolOp .And (a :: b :: rest) pos) (mVal (mAnd (mTest f) (mTest h))) := by
  obtain ⟨t, pa, ga⟩ := ha
  obtain ⟨u, pb, gb⟩ := hb
  exact ⟨_, pe_and pa pb, good_andV ga gb⟩
theorem de_or (ha : DE X W a f) (hb : DE X W (.BoolOp .Or (b :: rest) pos) h) : DE X W (.BoolOp .Or (a :: b :: rest) pos) (mVal (mOr (mTest f) (mTest h))) := by
  obtain ⟨t, pa, ga⟩ := ha
  obtain ⟨u, pb, gb⟩ := hb
  exact ⟨_, pe_or pa pb, good_orV ga gb⟩
theorem de_not (ha : DE X W a f) : DE X W (.UnaryOp .Not a pos) (mVal (mNot (mTest f))) := by
  obtain ⟨t, pa, ga⟩ := ha
  exact ⟨_, pe_not pa, good_notV ga⟩
theorem de_if (hc : DT X W c p) (ha : DE X W a f) (hb : DE X W b h) : DE X W (.IfExp c a b pos) (mIf p f h) := by
  obtain ⟨t, pc, gc⟩ := hc
  obtain ⟨ta, pa, ga⟩ := ha
  obtain ⟨tb, pb, gb⟩ := hb
  exact ⟨_, pe_ifExp pc pa pb, good_if gc ga gb⟩
/-- a < b < c -/
def mChain (o o' : D → D → Option Rv) (f h k : ME) : ME := fun env => do
  let (r1, e1) ← f env
  let (r2, e2) ← h e1
  let d1 ← r1.data e2
  let d2 ← r2.data e2
  let (r, _) ← orStuck (o d1 d2) e2
  match r with
  | .val (.bool true) => (do
      let (r3, e3) ← k e2
      let d2' ← r2.data e3
      let d3 ← r3.data e3
      orStuck (o' d2' d3) e3)
  | .val (.bool false) => .ok (.val (.bool false), e2)
  | _ => .stuck
/-- an operator that tells a bool and changes nothing -/
structure Good2B (g : G) (r : R2) (o : D → D → Option Rv) : Prop extends Good2 g r o where
  tells : ∀ F H x y d e b, Sub F H → Pk g F H x d → Pk g F H y e → o d e = some (.val (.bool b)) → ∀ Q : VK, Q (.bl b) H → r x y H Q
theorem good_chain {ta tb tc : TE} {r r' : R2} {o o' : D → D → Option Rv} {f h k : ME} (ha : GoodE g W ta f) (hb : GoodE g W tb h) (hc : GoodE g W tc k) (ho : Good2B g r o) (ho' : Good2 g r' o') : GoodE g W (tChain r r' ta tb tc) (mChain o o' f h k) := fun F H σ env Q k0 p => by
  refine ha F H σ env _ k0 (Post.bind RE.early p fun r1 e1 F1 H1 x x1 k1 kp1 rv1 p1 => ?_)
  refine hb F1 H1 σ e1 _ k1 (Post.bind RE.early p1 fun r2 e2 F2 H2 y x2 k2 kp2 rv2 p2 => ?_)
  have rv1' := RvOk.ext rv1 x2
  rcases data_cases r1 e2 with ⟨d1, q1⟩ | q1
  · rcases data_cases r2 e2 with ⟨d2, q2⟩ | q2
    · simp only [q1, q2, Res.ok_bind] at p2
      cases ho12 : o d1 d2 with
      | none => rw [ho12] at p2; exact p2.elim
      | some rr =>
        rw [ho12] at p2
        simp only [orStuck_some, Res.ok_bind] at p2
        cases rr with
        | val d =>
          cases d with
          | bool b =>
            refine ho.tells F2 H2 x y d1 d2 b k2.sub (rv1'.pk k2 q1) (RvOk.pk rv2 k2 q2) ho12 _ ⟨b, rfl, ?_⟩
            cases b with
            | true =>
              rw [if_pos rfl]
              refine hc F2 H2 σ e2 _ k2 (Post.bind RE.early p2 fun r3 e3 F3 H3 z x3 k3 kp3 rv3 p3 => ?_)
              have rv2' := RvOk.ext rv2 x3
              rcases data_cases r2 e3 with ⟨d2', q2'⟩ | q2'
              · rcases data_cases r3 e3 with ⟨d3, q3⟩ | q3
                · simp only [q2', q3, Res.ok_bind] at p3
                  exact ho'.run F3 H3 y z d2' d3 Q k3.sub (rv2'.pk k3 q2') (RvOk.pk rv3 k3 q3) (post0_of k3 p3 (ho'.nosl d2' d3))
                · simp only [q2', q3, Res.ok_bind, Res.stuck_bind] at p3; exact p3.elim
              · simp only [q2', Res.stuck_bind] at p3; exact p3.elim
            | false => rw [if_neg Bool.false_ne_true]; exact p2 F2 H2 _ .refl k2 .refl (.bl false)
          | _ => exact p2.elim
        | _ => exact p2.elim
    · simp only [q1, q2, Res.ok_bind, Res.stuck_bind] at p2; exact p2.elim
  · simp only [q1, Res.stuck_bind] at p2; exact p2.elim
theorem de_chain {op op' : CmpOp} {r r' : R2} {o o' : D → D → Option Rv} {k : ME} (ho : OpR X (compareOp op) r) (hg : Good2B ⟨X.K, X.mg⟩ r o) (ho' : OpR X (compareOp op') r') (hg' : Good2 ⟨X.K, X.mg⟩ r' o') (ha : DE X W a f) (hb : DE X W b h) (hc : DE X W c k)
    (hm : lastMarks [op, op'] [b, c] = false := by with_unfolding_all rfl) : DE X W (.Compare a [op, op'] [b, c] pos) (mChain o o' f h k) := by
  obtain ⟨ta, pa, ga⟩ := ha
  obtain ⟨tb, pb, gb⟩ := hb
  obtain ⟨tc, pc, gc⟩ := hc
  exact ⟨_, pe_chain ho ho' pa pb pc hm, good_chain ga gb gc hg hg'⟩
theorem dt_chain {op op' : CmpOp} {r r' : R2} {o o' : D → D → Option Rv} {k : ME} (ho : OpR X (compareOp op) r) (hg : Good2B ⟨X.K, X.mg⟩ r o) (ho' : OpR X (compareOp op') r') (hg' : Good2 ⟨X.K, X.mg⟩ r' o') (ha : DE X W a f) (hb : DE X W b h) (hc : DE X W c k)
    (hm : lastMarks [op, op'] [b, c] = false := by with_unfolding_all rfl) : DT X W (.Compare a [op, op'] [b, c] pos) (mTest (mChain o o' f h k)) := by
  obtain ⟨ta, pa, ga⟩ := ha
  obtain ⟨tb, pb, gb⟩ := hb
  obtain ⟨tc, pc, gc⟩ := hc
  exact ⟨_, pt_chain ho ho' pa pb pc hm, good_test (good_chain ga gb gc hg hg')⟩
end
end DL
namespace DL
open PySem PySem.Spec L2
variable {g : G} {W : WX}

/-- one part that is kept, then what is made of it -/
theorem Post.bindF {β' α' : Type} {R' : RelB β' α'} (er : Early R') {F H : Hp} {σ : St} {env : Env} {Q : β' → Hp → Prop} {Qa : V → Hp → Prop} {m : Res (Rv × Env)} {k : D × Env → Res (α' × Env)} (h : Post R' g W F H σ env Q (m >>= fun z => z.1.frz z.2 >>= k))
    (hk : ∀ d e2 F2 H1 v, Ext F H (Own σ env) F2 H1 (Own σ e2) → EnvOk g F2 H1 σ e2 → Keep σ env σ e2 → Den g F2 v d → Post R' g W F2 H1 σ e2 Q (k (d, e2)) → Qa v H1) : Post (RE g) g W F H σ env Qa m := by
  cases m with
  | ok p =>
    obtain ⟨r, e1⟩ := p
    intro F1 H1 v x ok kp rv
    rcases frz_cases r e1 with ⟨d, e2, q⟩ | q
    · simp only [q, Res.ok_bind] at h
      obtain ⟨F2, x2, k2, kp2, hd⟩ := RvOk.frz rv x ok q
      exact hk d e2 F2 H1 v x2 k2 (kp.trans kp2) hd (Post.after er x2 (kp.trans kp2) h)
    · simp only [q, Res.ok_bind, Res.stuck_bind] at h; exact h.elim
  | ex c d e => exact h
  | stuck => exact h

/-! ### argument lists -/
inductive AllE (g : G) (W : WX) : TA → List ME → Prop
  | nil : AllE g W tNil []
  | cons {t : TE} {tr : TA} {f : ME} {fs : List ME} : GoodE g W t f → AllE g W tr fs → AllE g W (tCons t tr) (f :: fs)
structure DA (X : Cx) (W : WX) (es : List Expr) (fs : List ME) : Prop where
  ex : ∃ t, PA X es t ∧ AllE ⟨X.K, X.mg⟩ W t fs
theorem da_nil {X : Cx} : DA X W [] [] := ⟨_, pa_nil, .nil⟩
theorem da_cons {X : Cx} {e : Expr} {es : List Expr} {f : ME} {fs : List ME} (h : DE X W e f) (hr : DA X W es fs) (hs : starEach (e :: es) X.env = (false, eval e X.env) :: starEach es X.env := by rfl) : DA X W (e :: es) (f :: fs) := by
  obtain ⟨t, p, q⟩ := h
  obtain ⟨tr, pr, qr⟩ := hr
  exact ⟨_, pa_cons p pr hs, .cons q qr⟩
/-- all are kept -/
def evDs : List ME → Env → Res (List D × Env)
  | [], env => .ok ([], env)
  | f :: fs, env => do
    let z ← f env
    let y ← z.1.frz z.2
    let x ← evDs fs y.2
    .ok (y.1 :: x.1, x.2)
theorem AllE.ds {t : TA} {fs : List ME} (h : AllE g W t fs) : Good (RDs g) g W t (evDs fs) := by
  induction h with
  | nil => exact fun F H σ env Q k p => p F H [] .refl k .refl .nil
  | @cons t tr f fs hf hr ih =>
    intro F H σ env Q k p
    refine hf F H σ env _ k (Post.bindF RDs.early p fun d e2 F2 H1 v x2 k2 kp2 hd p2 => ?_)
    refine ih F2 H1 σ e2 _ k2 (Post.bind RDs.early p2 fun ds e3 F3 H3 vs x3 k3 kp3 hds p3 => ?_)
    exact p3 F3 H3 (v :: vs) .refl k3 .refl (.cons (hd.mono x3.sub) hds)
/-- all are looked at, at the end -/
def noH : Hp := fun _ => none
def RRs (g : G) : RelB (List V) (List Rv) := fun _ F H σ env vs rs => Paired (fun v r => RvOk g noH F H σ env v r) vs rs
theorem RRs.early : Early (RRs g) := ⟨fun _ _ _ _ _ _ _ _ _ h => h⟩
def evRs : List ME → Env → Res (List Rv × Env)
  | [], env => .ok ([], env)
  | f :: fs, env => do
    let z ← f env
    let x ← evRs fs z.2
    .ok (z.1 :: x.1, x.2)
theorem AllE.rs {t : TA} {fs : List ME} (h : AllE g W t fs) : Good (RRs g) g W t (evRs fs) := by
  induction h with
  | nil => exact fun F H σ env Q k p => p F H [] .refl k .refl .nil
  | @cons t tr f fs hf hr ih =>
    intro F H σ env Q k p
    refine hf F H σ env _ k (Post.bind RRs.early p fun r1 e1 F1 H1 v x1 k1 kp1 rv1 p1 => ?_)
    refine ih F1 H1 σ e1 _ k1 (Post.bind RRs.early p1 fun rs e2 F2 H2 vs x2 k2 kp2 hrs p2 => ?_)
    exact p2 F2 H2 (v :: vs) .refl k2 .refl (.cons ((RvOk.earlier rv1 fun _ z => absurd rfl z).ext x2) hrs)
def datas (env : Env) : List Rv → Option (List D)
  | [] => some []
  | r :: rs => match r.data env with
    | .ok d => match datas env rs with
      | some ds => some (d :: ds)
      | none => none
    | _ => none
abbrev Pks (g : G) (F H : Hp) : List V → List D → Prop := Paired (Pk g F H)
theorem datas_pk {F H : Hp} {σ : St} {env : Env} (k : EnvOk g F H σ env) : ∀ {vs : List V} {rs : List Rv} {ds : List D}, Paired (fun v r => RvOk g noH F H σ env v r) vs rs → datas env rs = some ds → Pks g F H vs ds
  | _, _, _, .nil, e => by cases e; exact .nil
  | _, _, _, .cons (b := r) (l₂ := rs) h t, e => by
    unfold datas at e
    split at e
    · rename_i d q
      split at e
      · rename_i ds' q'
        cases e
        exact .cons (RvOk.pk h k q) (datas_pk k t q')
      · cases e
    · cases e
/-- a call of a built-in: r of the values, o of their data -/
structure GoodC (g : G) (r : List V → Hp → VK → Prop) (o : List D → Option Rv) : Prop where
  run : ∀ F H vs ds Q, Sub F H → Pks g F H vs ds → Post0 g F H Q (o ds) → r vs H Q
  nosl : ∀ ds, NoSl (o ds)
def mCallB (o : List D → Option Rv) (fs : List ME) : ME := fun env => do
  let z ← evRs fs env
  let ds ← orStuck (datas z.2 z.1) z.2
  orStuck (o ds.1) ds.2
theorem good_callB {t : TA} {fs : List ME} {r : List V → Hp → VK → Prop} {o : List D → Option Rv} (h : AllE g W t fs) (ho : GoodC g r o) : GoodE g W (tCB r t) (mCallB o fs) := fun F H σ env Q k p => by
  refine h.rs F H σ env _ k (Post.bind RE.early p fun rs e1 F1 H1 vs x1 k1 kp1 hrs p1 => ?_)
  cases q : datas e1 rs with
  | none => rw [q] at p1; exact p1.elim
  | some ds =>
    rw [q] at p1
    simp only [orStuck_some, Res.ok_bind] at p1
    exact ho.run F1 H1 vs ds Q k1.sub (datas_pk k1 hrs q) (post0_of k1 p1 (ho.nosl ds))
section
variable {X : Cx} {x : Str} {p pos : Pos} {e : Expr} {es : List Expr} {fs : List ME} {id T : String} {r : List V → Hp → VK → Prop} {o : List D → Option Rv}
theorem de_callB (hc : CallR X (.builtin id) r) (ho : GoodC ⟨X.K, X.mg⟩ r o) (hg : Gl X x) (hm : X.mg x = none) (hv : bootBuiltins x = some (.builtin id)) (ha : DA X W (e :: es) fs) (hn : x ≠ "__name__" := by decide) (hdb : (x == ("__debug__" : Str)) = false := by decide)
    (he : starEach (e :: es) X.env = (false, eval e X.env) :: starEach es X.env := by rfl) (hpl : (backTo pos (starEach es X.env)).any (·.1) = false := by rfl) : DE X W (.Call (.Name x p) (e :: es) [] pos) (mCallB o fs) := by
  obtain ⟨t, pt, gt⟩ := ha
  exact ⟨_, pe_callB hc hg hm hv pt hn hdb he hpl, good_callB gt ho⟩
theorem de_callTy (hc : CallR X (.type T) r) (ho : GoodC ⟨X.K, X.mg⟩ r o) (hg : Gl X x) (hm : X.mg x = none) (hv : bootBuiltins x = some (.type T)) (ha : DA X W (e :: es) fs) (hn : x ≠ "__name__" := by decide) (hdb : (x == ("__debug__" : Str)) = false := by decide)
    (he : starEach (e :: es) X.env = (false, eval e X.env) :: starEach es X.env := by rfl) (hpl : (backTo pos (starEach es X.env)).any (·.1) = false := by rfl) : DE X W (.Call (.Name x p) (e :: es) [] pos) (mCallB o fs) := by
  obtain ⟨t, pt, gt⟩ := ha
  exact ⟨_, pe_callTy hc hg hm hv pt hn hdb he hpl, good_callB gt ho⟩
end
/-! ### displays -/
def lineM : Nat := 16777216
theorem lineM_eq : sizeLine = lineM := sizeLine_eq
def mList (fs : List ME) : ME := fun env => do
  let z ← evDs fs env
  if z.1.length ≤ lineM then .ok (.new (.list z.1), z.2) else .stuck
def mTup (fs : List ME) : ME := fun env => do
  let z ← evDs fs env
  if z.1.length ≤ lineM then .ok (.val (.tuple z.1), z.2) else .stuck
theorem good_lst {t : TA} {fs : List ME} (h : AllE g W t fs) : GoodE g W (tLst t) (mList fs) := fun F H σ env Q k p => by
  refine h.ds F H σ env _ k (Post.bind RE.early p fun ds e1 F1 H1 vs x1 k1 kp1 hds p1 => ?_)
  have hds : DenL g F1 vs ds := hds
  by_cases z : ds.length ≤ lineM
  · simp only [z, if_true] at p1
    have p2 := post0_of (o := some (.new (.list ds))) k1 p1 NoSl.new
    exact ⟨by rw [hds.length, lineM_eq]; exact z, fun a hn => Post0.newL k1.sub p2 hn hds⟩
  · simp only [z, if_false] at p1; exact p1.elim
theorem good_tup {t : TA} {fs : List ME} (h : AllE g W t fs) : GoodE g W (tTup t) (mTup fs) := fun F H σ env Q k p => by
  refine h.ds F H σ env _ k (Post.bind RE.early p fun ds e1 F1 H1 vs x1 k1 kp1 hds p1 => ?_)
  have hds : DenL g F1 vs ds := hds
  by_cases z : ds.length ≤ lineM
  · simp only [z, if_true] at p1
    have p2 := post0_of (o := some (.val (.tuple ds))) k1 p1 NoSl.val
    exact ⟨by rw [hds.length, lineM_eq]; exact z, fun a hn => Post0.valT k1.sub p2 hn hds⟩
  · simp only [z, if_false] at p1; exact p1.elim
section
variable {X : Cx} {pos : Pos} {es : List Expr} {fs : List ME}
theorem de_list (h : DA X W es fs) : DE X W (.List es pos) (mList fs) := by
  obtain ⟨t, pt, gt⟩ := h
  exact ⟨_, pe_lst pt, good_lst gt⟩
theorem de_tup {n} (h : DA X W es fs) : DE X W (.Tuple es n pos) (mTup fs) := by
  obtain ⟨t, pt, gt⟩ := h
  exact ⟨_, pe_tup pt, good_tup gt⟩
end

/-! ### slices -/
abbrev MO := Env → Res (Option Int × Env)
abbrev GoodO (g : G) (W : WX) (t : TO) (f : MO) : Prop := Good ROI g W t f
structure DO (X : Cx) (W : WX) (e : Option Expr) (f : MO) : Prop where
  ex : ∃ t, PO X e t ∧ GoodO ⟨X.K, X.mg⟩ W t f
def asI : D → Option (Option Int)
  | .int i => some (some i)
  | _ => none
def mNoPart : MO := fun env => .ok (none, env)
def mPart (f : ME) : MO := fun env => do
  let z ← f env
  let d ← z.1.data z.2
  orStuck (asI d) z.2
theorem do_none {X : Cx} : DO X W none mNoPart := ⟨_, po_none, fun F H σ env Q k p => p F H none .refl k .refl rfl⟩
theorem do_some {X : Cx} {e : Expr} {f : ME} (h : DE X W e f) : DO X W (some e) (mPart f) := by
  obtain ⟨t, pt, gt⟩ := h
  refine ⟨_, po_some pt, fun F H σ env Q k p => ?_⟩
  refine gt F H σ env _ k (Post.bind ROI.early p fun r1 e1 F1 H1 x x1 k1 kp1 rv1 p1 => ?_)
  rcases data_cases r1 e1 with ⟨d, q1⟩ | q1
  · have pk := RvOk.pk rv1 k1 q1
    simp only [q1, Res.ok_bind] at p1
    cases d with
    | int i => exact ⟨i, pk.int, p1 F1 H1 (some i) .refl k1 .refl rfl⟩
    | _ => exact p1.elim
  · simp only [q1, Res.stuck_bind] at p1; exact p1.elim
structure GoodSl (g : G) (r : V → Option Int → Option Int → Hp → VK → Prop) (o : D → Option Int → Option Int → Option Rv) : Prop where
  run : ∀ F H x d lo hi Q, Sub F H → Pk g F H x d → Post0 g F H Q (o d lo hi) → r x lo hi H Q
  nosl : ∀ d lo hi, NoSl (o d lo hi)
def mSl (o : D → Option Int → Option Int → Option Rv) (f : ME) (l h : MO) : ME := fun env => do
  let z ← f env
  let y ← l z.2
  let x ← h y.2
  let d ← z.1.data x.2
  orStuck (o d y.1 x.1) x.2
theorem good_sl {te : TE} {tl th : TO} {r : V → Option Int → Option Int → Hp → VK → Prop} {o : D → Option Int → Option Int → Option Rv} {f : ME} {l h : MO} (ha : GoodE g W te f) (hl : GoodO g W tl l) (hh : GoodO g W th h) (ho : GoodSl g r o) : GoodE g W (tSl r te tl th) (mSl o f l h) := fun F H σ env Q k p => by
  refine ha F H σ env _ k (Post.bind RE.early p fun r1 e1 F1 H1 x x1 k1 kp1 rv1 p1 => ?_)
  refine hl F1 H1 σ e1 _ k1 (Post.bind RE.early p1 fun lo e2 F2 H2 b2 x2 k2 kp2 rv2 p2 => ?_)
  have rv2 : b2 = lo := rv2
  subst rv2
  refine hh F2 H2 σ e2 _ k2 (Post.bind RE.early p2 fun hi e3 F3 H3 b3 x3 k3 kp3 rv3 p3 => ?_)
  have rv3 : b3 = hi := rv3
  subst rv3
  have rv1' := (RvOk.ext rv1 x2).ext x3
  rcases data_cases r1 e3 with ⟨d, q1⟩ | q1
  · simp only [q1, Res.ok_bind] at p3
    exact ho.run F3 H3 x d b2 b3 Q k3.sub (rv1'.pk k3 q1) (post0_of k3 p3 (ho.nosl d b2 b3))
  · simp only [q1, Res.stuck_bind] at p3; exact p3.elim
theorem de_slice {X : Cx} {e : Expr} {lo hi : Option Expr} {p2 pos : Pos} {r : V → Option Int → Option Int → Hp → VK → Prop} {o : D → Option Int → Option Int → Option Rv} {f : ME} {l h : MO} (hr : SlR X r) (ho : GoodSl ⟨X.K, X.mg⟩ r o) (he : DE X W e f) (hl : DO X W lo l) (hu : DO X W hi h) : DE X W (.Subscript e (.Slice lo hi none p2) pos) (mSl o f l h) := by
  obtain ⟨t, pt, gt⟩ := he
  obtain ⟨tl, pl, gl⟩ := hl
  obtain ⟨th, ph, gh⟩ := hu
  exact ⟨_, pe_slice hr pt pl ph, good_sl gt gl gh ho⟩

/-! ### methods of built-in types that change nothing -/
structure GoodM (g : G) (T : String) (r : V → List V → Hp → VK → Prop) (o : D → List D → Option Rv) : Prop where
  run : ∀ F H x vs d ds Q, Sub F H → Pk g F H x d → Pks g F H vs ds → Post0 g F H Q (o d ds) → r x vs H Q
  ty : ∀ F H x d, Sub F H → Pk g F H x d → (∃ ds, o d ds ≠ none) → tyV g.K T x H
  nosl : ∀ d ds, NoSl (o d ds)
def mMeth (o : D → List D → Option Rv) (isT : D → Bool) (f : ME) (fs : List ME) : ME := fun env => do
  let z ← f env
  let d0 ← z.1.data z.2
  if isT d0 = true then do
    let y ← evRs fs z.2
    let d ← z.1.data y.2
    let ds ← orStuck (datas y.2 y.1) y.2
    orStuck (o d ds.1) ds.2
  else .stuck
theorem good_meth {T : String} {to : TE} {t : TA} {fs : List ME} {f : ME} {r : V → List V → Hp → VK → Prop} {o : D → List D → Option Rv} {isT : D → Bool} (hf : GoodE g W to f) (h : AllE g W t fs) (ho : ∀ F H x vs d ds Q, Sub F H → Pk g F H x d → Pks g F H vs ds → Post0 g F H Q (o d ds) → r x vs H Q)
    (hty : ∀ F H x d, Sub F H → Pk g F H x d → isT d = true → tyV g.K T x H) (nosl : ∀ d ds, NoSl (o d ds)) : GoodE g W (tBM g.K T r to t) (mMeth o isT f fs) := fun F H σ env Q k p => by
  refine hf F H σ env _ k (Post.bind RE.early p fun r1 e1 F1 H1 x x1 k1 kp1 rv1 p1 => ?_)
  rcases data_cases r1 e1 with ⟨d0, q0⟩ | q0
  · simp only [q0, Res.ok_bind] at p1
    by_cases ht : isT d0 = true
    · simp only [ht, if_true] at p1
      refine ⟨hty F1 H1 x d0 k1.sub (RvOk.pk rv1 k1 q0) ht, ?_⟩
      refine h.rs F1 H1 σ e1 _ k1 (Post.bind RE.early p1 fun rs e2 F2 H2 vs x2 k2 kp2 hrs p2 => ?_)
      have rv1' := RvOk.ext rv1 x2
      rcases data_cases r1 e2 with ⟨d, q1⟩ | q1
      · simp only [q1, Res.ok_bind] at p2
        cases q : datas e2 rs with
        | none => simp only [q] at p2; exact p2.elim
        | some ds =>
          simp only [q, orStuck_some, Res.ok_bind] at p2
          exact ho F2 H2 x vs d ds Q k2.sub (rv1'.pk k2 q1) (datas_pk k2 hrs q) (post0_of k2 p2 (nosl d ds))
      · simp only [q1, Res.stuck_bind] at p2; exact p2.elim
    · simp only [ht, if_false] at p1; exact p1.elim
  · simp only [q0, Res.stuck_bind] at p1; exact p1.elim
theorem good_meth0 {T : String} {to : TE} {f : ME} {r : V → List V → Hp → VK → Prop} {o : D → List D → Option Rv} {isT : D → Bool} (hf : GoodE g W to f) (ho : ∀ F H x vs d ds Q, Sub F H → Pk g F H x d → Pks g F H vs ds → Post0 g F H Q (o d ds) → r x vs H Q)
    (hty : ∀ F H x d, Sub F H → Pk g F H x d → isT d = true → tyV g.K T x H) (nosl : ∀ d ds, NoSl (o d ds)) : GoodE g W (tBM0 g.K T r to) (mMeth o isT f []) := fun F H σ env Q k p =>
  good_meth (t := tNil) hf .nil ho hty nosl F H σ env Q k p
end DL
namespace DL
open PySem PySem.Spec L2
variable {g : G} {W : WX}

inductive Fl
  | nx
  | rt (r : Rv)
  | bk
  | ct
def EndOk (g : G) (H0 F H : Hp) (σ : St) (env : Env) (Dn : Ends) : Fl → Prop
  | .nx => Dn.nx σ H
  | .bk => Dn.bk σ H
  | .ct => Dn.ct σ H
  | .rt r => ∀ v, RvOk g H0 F H σ env v r → Dn.rt v H
theorem EndOk.later {H0 H1 F H : Hp} {σ : St} {env : Env} {Dn : Ends} {f : Fl} (k : ∀ x, H0 x ≠ none → H1 x ≠ none) (h : EndOk g H0 F H σ env Dn f) : EndOk g H1 F H σ env Dn f := by
  cases f with
  | rt r => exact fun v q => h v (RvOk.earlier q k)
  | nx => exact h
  | bk => exact h
  | ct => exact h
abbrev MS := Env → Res (Fl × Env)
def PostS (g : G) (W : WX) (F H : Hp) (σ : St) (env : Env) (Dn : Ends) : Res (Fl × Env) → Prop
  | .ok (f, env') => ∀ F' H' σ', Ext F H (Own σ env) F' H' (Own σ' env') → EnvOk g F' H' σ' env' → Keep σ env σ' env' → EndOk g H F' H' σ' env' Dn f
  | .ex c d env' => ∀ F' H' σ' dd C v, Ext F H (Own σ env) F' H' (Own σ' env') → EnvOk g F' H' σ' env' → Keep σ env σ' env' → g.mg c = some (.ref C) → H' dd = some (.xd [(("value" : Str), v)]) → Den g F' v d → W (.ref C) (some dd) σ' H'
  | .stuck => False
theorem PostS.after {F H F1 H1 : Hp} {σ σ1 : St} {env e1 : Env} {Dn : Ends} {m : Res (Fl × Env)} (x : Ext F H (Own σ env) F1 H1 (Own σ1 e1)) (k : Keep σ env σ1 e1) (h : PostS g W F H σ env Dn m) : PostS g W F1 H1 σ1 e1 Dn m := by
  cases m with
  | ok p => obtain ⟨r, e2⟩ := p; exact fun F' H' σ' x' ok k' => (h F' H' σ' (x.trans x') ok (k.trans k')).later x.dom
  | ex c d e2 => exact fun F' H' σ' dd C v x' ok k' => h F' H' σ' dd C v (x.trans x') ok (k.trans k')
  | stuck => exact h
/-- the end nx alone is another one -/
theorem PostS.bind {F H : Hp} {σ : St} {env : Env} {Dn : Ends} {nx : St → Hp → Prop} {m : Res (Fl × Env)} {k : Env → Res (Fl × Env)}
    (h : PostS g W F H σ env Dn (m >>= fun z => match z.1 with | .nx => k z.2 | _ => .ok z))
    (hk : ∀ e1 F1 H1 σ1, Ext F H (Own σ env) F1 H1 (Own σ1 e1) → EnvOk g F1 H1 σ1 e1 → Keep σ env σ1 e1 → PostS g W F1 H1 σ1 e1 Dn (k e1) → nx σ1 H1) : PostS g W F H σ env { Dn with nx := nx } m := by
  cases m with
  | ok p =>
    obtain ⟨f, e1⟩ := p
    cases f with
    | nx => exact fun F' H' σ' x ok kp => hk e1 F' H' σ' x ok kp (PostS.after x kp h)
    | rt r => exact h
    | bk => exact h
    | ct => exact h
  | ex c d e => exact h
  | stuck => exact h
/-- a part's value, what is made of it told from the start -/
theorem PostS.bindE {β α : Type} {R : RelB β α} {F H : Hp} {σ : St} {env : Env} {Dn : Ends} {Qa : β → Hp → Prop} {m : Res (α × Env)} {k : α × Env → Res (Fl × Env)} (h : PostS g W F H σ env Dn (m >>= k))
    (hk : ∀ r e1 F1 H1 v, Ext F H (Own σ env) F1 H1 (Own σ e1) → EnvOk g F1 H1 σ e1 → Keep σ env σ e1 → R H F1 H1 σ e1 v r → PostS g W F H σ env Dn (k (r, e1)) → Qa v H1) : Post R g W F H σ env Qa m := by
  cases m with
  | ok p =>
    obtain ⟨r, e1⟩ := p
    exact fun F1 H1 v x ok kp rv => hk r e1 F1 H1 v x ok kp rv h
  | ex c d e => exact fun F' H' dd C v => h F' H' σ dd C v
  | stuck => exact h
def GoodS (g : G) (W : WX) (t : TS) (m : MS) : Prop := ∀ F H σ env Dn, EnvOk g F H σ env → PostS g W F H σ env Dn (m env) → t Dn σ H
structure DS (X : Cx) (W : WX) (st : Stmt) (m : MS) : Prop where
  ex : ∃ t, PS X st t ∧ GoodS ⟨X.K, X.mg⟩ W t m
structure DSs (X : Cx) (W : WX) (st : List Stmt) (m : MS) : Prop where
  ex : ∃ t, PSs X st t ∧ GoodS ⟨X.K, X.mg⟩ W t m

def mPass : MS := fun env => .ok (.nx, env)
def mSeq (m n : MS) : MS := fun env => m env >>= fun z => match z.1 with | .nx => n z.2 | _ => .ok z
def mBreak : MS := fun env => .ok (.bk, env)
def mCont : MS := fun env => .ok (.ct, env)
def mRet (f : ME) : MS := fun env => f env >>= fun z => .ok (.rt z.1, z.2)
def mRetN : MS := fun env => .ok (.rt (.val .none), env)
def mIfS (c : MT) (m n : MS) : MS := fun env => c env >>= fun z => if z.1 = true then m z.2 else n z.2
theorem good_pass : GoodS g W tNext mPass := fun F H σ env Dn k p => p F H σ .refl k .refl
theorem good_seq {t u : TS} {m n : MS} (h1 : GoodS g W t m) (h2 : GoodS g W u n) : GoodS g W (tSeq t u) (mSeq m n) := fun F H σ env Dn k p =>
  h1 F H σ env _ k (PostS.bind p fun e1 F1 H1 σ1 x1 k1 kp1 p1 => h2 F1 H1 σ1 e1 Dn k1 p1)
theorem good_break : GoodS g W tBreak mBreak := fun F H σ env Dn k p => p F H σ .refl k .refl
theorem good_cont : GoodS g W tCont mCont := fun F H σ env Dn k p => p F H σ .refl k .refl
theorem good_ret {t : TE} {f : ME} (h : GoodE g W t f) : GoodS g W (tRet t) (mRet f) := fun F H σ env Dn k p =>
  h F H σ env _ k (PostS.bindE p fun r e1 F1 H1 v x1 k1 kp1 rv p1 => p1 F1 H1 σ x1 k1 kp1 v rv)
theorem good_retN : GoodS g W tRetN mRetN := fun F H σ env Dn k p => p F H σ .refl k .refl .non .non
theorem good_ifS {c : TT} {t u : TS} {mc : MT} {m n : MS} (hc : GoodT g W c mc) (h1 : GoodS g W t m) (h2 : GoodS g W u n) : GoodS g W (tIfS c t u) (mIfS mc m n) := fun F H σ env Dn k p => by
  refine hc F H σ env _ k (PostS.bindE p fun r e1 F1 H1 v x1 k1 kp1 rv p1 => ?_)
  have rv : v = r := rv
  subst rv
  have p2 := PostS.after x1 kp1 p1
  cases v with
  | true => exact h1 F1 H1 σ e1 Dn k1 p2
  | false => exact h2 F1 H1 σ e1 Dn k1 p2
/-- a value dropped -/
def mDrop (f : ME) : MS := fun env => f env >>= fun z => .ok (.nx, z.2)
theorem good_drop {t : TE} {f : ME} (h : GoodE g W t f) : GoodS g W (tDrop t) (mDrop f) := fun F H σ env Dn k p =>
  h F H σ env _ k (PostS.bindE p fun r e1 F1 H1 v x1 k1 kp1 rv p1 => p1 F1 H1 σ x1 k1 kp1)

/-! ### targets -/
abbrev MG := Rv → Env → Res (Fl × Env)
/-- told from the start: the value was made since -/
def GoodG (g : G) (W : WX) (t : TG) (m : MG) : Prop := ∀ F0 H0 σ0 env0 F H σ env v r (Dn : Ends), Ext F0 H0 (Own σ0 env0) F H (Own σ env) → EnvOk g F H σ env → Keep σ0 env0 σ env → RvOk g H0 F H σ env v r → PostS g W F0 H0 σ0 env0 Dn (m r env) → t v σ H Dn.nx
structure DG (X : Cx) (W : WX) (e : Expr) (m : MG) : Prop where
  ex : ∃ t, PG X e t ∧ GoodG ⟨X.K, X.mg⟩ W t m
def free (env : Env) (i : Nat) : Bool := match env[i]? with
  | some .no => true
  | some (.fz _) => true
  | some (.ow .fr _) => true
  | _ => false
def storeR (i : Nat) (r : Rv) (env : Env) : Res (Fl × Env) :=
  if free env i = true then
    match r with
    | .val d => .ok (.nx, env.set i (.fz d))
    | .new d => .ok (.nx, env.set i (.ow .fr d))
    | .sl j => if j = i then .ok (.nx, env) else (Rv.sl j).frz env >>= fun z => .ok (.nx, z.2.set i (.fz z.1))
  else .stuck
def mName (i : Nat) : MG := fun r env => storeR i r env
theorem free_lt {env : Env} {i : Nat} (h : free env i = true) : i < env.length := by
  unfold free at h
  split at h <;> first | exact lt_of_get (by assumption) | cases h
theorem free_keep {env : Env} {i j : Nat} {k : Kd} {d : D} (h : free env i = true) (e : env[j]? = some (.ow k d)) (n : k ≠ .fr) : i ≠ j := by
  intro z; subst z
  unfold free at h
  rw [e] at h
  cases k with
  | fr => exact n rfl
  | lk => cases h
  | pn => cases h
theorem adr_set {σ : St} {env : Env} {i j : Nat} {v : V} {s : Sl} {a : Addr} (h : Adr (σ.set i (some v)) (env.set i s) j a) : (j = i ∧ (∃ k d, s = .ow k d) ∧ v = .ref a) ∨ (j ≠ i ∧ Adr σ env j a) := by
  obtain ⟨⟨k, d, h1⟩, h2⟩ := h
  rcases get_set h1 with ⟨e, h3, _⟩ | ⟨e, h3⟩
  · subst e
    rcases get_set h2 with ⟨_, h4, _⟩ | ⟨e, _⟩
    · exact .inl ⟨rfl, ⟨k, d, h3.symm⟩, by cases h4; rfl⟩
    · exact absurd rfl e
  · rcases get_set h2 with ⟨e', _, _⟩ | ⟨_, h4⟩
    · exact absurd e' e
    · exact .inr ⟨Ne.symm e, ⟨k, d, h3⟩, h4⟩
theorem EnvOk.store {F H : Hp} {σ : St} {env : Env} {i : Nat} {v : V} {s : Sl} (k : EnvOk g F H σ env) (hi : i < env.length) (hs : SlOk g F H (some v) s) (hn : ∀ a, v = .ref a → (∃ kd d, s = .ow kd d) → ∀ j, j ≠ i → ¬ Adr σ env j a) : EnvOk g F H (σ.set i (some v)) (env.set i s) := by
  refine ⟨by simpa using k.len, k.sub, fun j t e => ?_, fun j1 j2 a h1 h2 => ?_⟩
  · rcases get_set e with ⟨e1, e2, _⟩ | ⟨e1, e2⟩
    · subst e1; subst e2
      exact ⟨some v, List.getElem?_set_self (by rw [k.len]; exact hi), hs⟩
    · obtain ⟨o, h1, h2⟩ := k.sl j t e2
      exact ⟨o, by rw [List.getElem?_set_ne e1]; exact h1, h2⟩
  · rcases adr_set h1 with ⟨e1, w1, v1⟩ | ⟨e1, a1⟩
    · rcases adr_set h2 with ⟨e2, _, _⟩ | ⟨e2, a2⟩
      · rw [e1, e2]
      · exact absurd a2 (hn a v1 w1 j2 e2)
    · rcases adr_set h2 with ⟨e2, w2, v2⟩ | ⟨e2, a2⟩
      · exact absurd a1 (hn a v2 w2 j1 e1)
      · exact k.dis j1 j2 a a1 a2
theorem keep_set {σ : St} {env : Env} {i : Nat} {v : V} {s : Sl} (h : free env i = true) : Keep σ env (σ.set i (some v)) (env.set i s) := fun j k d e n => by
  have hij := free_keep h e n
  exact ⟨List.getElem?_set_ne hij, d, by rw [List.getElem?_set_ne hij]; exact e, fun _ => rfl⟩
theorem free_frz {env e1 : Env} {i j : Nat} {d : D} (h : free env i = true) (q : (Rv.sl j).frz env = .ok (d, e1)) : free e1 i = true := by
  unfold Rv.frz at q
  simp only at q
  split at q
  · cases q; exact h
  · rename_i d' q'
    cases q
    by_cases e : j = i
    · subst e
      unfold free
      rw [List.getElem?_set_self (lt_of_get q')]
    · unfold free at h ⊢
      rw [List.getElem?_set_ne e]; exact h
  · cases q
theorem set_same {σ : St} {i : Nat} {v : V} (h : σ[i]? = some (some v)) : σ.set i (some v) = σ := by
  apply List.ext_getElem?
  intro j
  by_cases e : i = j
  · subst e; rw [List.getElem?_set_self (lt_of_get h), h]
  · rw [List.getElem?_set_ne e]
theorem good_name {i : Nat} : GoodG g W (gName i) (mName i) := fun F0 H0 σ0 env0 F H σ env v r Dn x k kp rv p => by
  unfold mName storeR at p
  by_cases hf : free env i = true
  · rw [if_pos hf] at p
    have hl := free_lt hf
    cases r with
    | val d =>
      have ks := k.store (v := v) (s := .fz d) hl ⟨v, rfl, rv⟩ fun _ _ ⟨kd, d2, z⟩ => nomatch z
      refine p F H (σ.set i (some v)) ⟨x.sub, x.keep, x.dom, x.new, fun b ⟨j, hb⟩ => ?_⟩ ks (kp.trans (keep_set hf))
      rcases adr_set hb with ⟨_, ⟨_, _, z⟩, _⟩ | ⟨_, a1⟩
      · cases z
      · exact x.own b ⟨j, a1⟩
    | new d =>
      obtain ⟨a, e, h0, hF, hO, w⟩ := rv
      have ks := k.store (v := v) (s := .ow .fr d) hl ⟨a, by rw [e], hF, w⟩ fun b e' _ j _ hb => by
        rw [e] at e'; cases e'; exact hO ⟨j, hb⟩
      refine p F H (σ.set i (some v)) ⟨x.sub, x.keep, x.dom, x.new, fun b ⟨j, hb⟩ => ?_⟩ ks (kp.trans (keep_set hf))
      rcases adr_set hb with ⟨_, _, z⟩ | ⟨_, a1⟩
      · rw [e] at z; cases z; exact .inl h0
      · exact x.own b ⟨j, a1⟩
    | sl j =>
      by_cases e : j = i
      · simp only [if_pos e] at p
        subst e
        have rv : σ[j]? = some (some v) := rv
        have := p F H σ x k kp
        show Dn.nx (σ.set j (some v)) H
        rw [set_same rv]; exact this
      · simp only [if_neg e] at p
        rcases frz_cases (.sl j) env with ⟨d, e1, q⟩ | q
        · simp only [q, Res.ok_bind] at p
          obtain ⟨F2, x2, k2, kp2, hd⟩ := RvOk.frz rv x k q
          have hf2 := free_frz hf q
          have ks := k2.store (v := v) (s := .fz d) (free_lt hf2) ⟨v, rfl, hd⟩ fun _ _ ⟨kd, d2, z⟩ => nomatch z
          refine p F2 H (σ.set i (some v)) ⟨x2.sub, x2.keep, x2.dom, x2.new, fun b ⟨j, hb⟩ => ?_⟩ ks ((kp.trans kp2).trans (keep_set hf2))
          rcases adr_set hb with ⟨_, ⟨_, _, z⟩, _⟩ | ⟨_, a1⟩
          · cases z
          · exact x2.own b ⟨j, a1⟩
        · simp only [q, Res.stuck_bind] at p; exact p.elim
  · rw [if_neg hf] at p; exact p.elim
/-- several targets, data that stands still -/
inductive AllG (g : G) (W : WX) : TGs → List MG → Prop
  | nil : AllG g W gNil []
  | cons {t : TG} {u : TGs} {m : MG} {ms : List MG} : GoodG g W t m → AllG g W u ms → AllG g W (gCons t u) (m :: ms)
def asgAll : List MG → List D → Env → Res (Fl × Env)
  | [], [], env => .ok (.nx, env)
  | m :: ms, d :: ds, env => m (.val d) env >>= fun z => match z.1 with | .nx => asgAll ms ds z.2 | _ => .stuck
  | _, _, _ => .stuck
theorem AllG.run {u : TGs} {ms : List MG} (h : AllG g W u ms) : ∀ F H σ env vs ds (Dn : Ends), EnvOk g F H σ env → DenL g F vs ds → PostS g W F H σ env Dn (asgAll ms ds env) → u vs σ H Dn.nx := by
  induction h with
  | nil =>
    intro F H σ env vs ds Dn k hd p
    cases hd with
    | nil => exact ⟨rfl, p F H σ .refl k .refl⟩
    | cons => exact p.elim
  | @cons t u m ms hm hr ih =>
    intro F H σ env vs ds Dn k hd p
    cases hd with
    | nil => exact p.elim
    | @cons v vs d ds h1 h2 =>
      refine ⟨v, vs, rfl, ?_⟩
      have p' : PostS g W F H σ env Dn (m (.val d) env >>= fun z => match z.1 with | .nx => asgAll ms ds z.2 | _ => .stuck) := p
      refine hm F H σ env F H σ env v (.val d) { Dn with nx := fun σ' H' => u vs σ' H' Dn.nx } .refl k .refl h1 ?_
      cases q : m (.val d) env with
      | ok z =>
        obtain ⟨f, e1⟩ := z
        rw [q] at p'
        cases f with
        | nx => exact fun F1 H1 σ1 x1 k1 kp1 => ih F1 H1 σ1 e1 vs ds Dn k1 (h2.mono x1.sub) (PostS.after x1 kp1 p')
        | _ => exact p'.elim
      | ex c d e => rw [q] at p'; exact p'
      | stuck => rw [q] at p'; exact p'
def mTupG (ms : List MG) : MG := fun r env => r.data env >>= fun d => match d with
  | .tuple ds => if ds.length = ms.length then asgAll ms ds env else .stuck
  | _ => .stuck
theorem good_tupG {u : TGs} {ms : List MG} {n : Nat} (h : AllG g W u ms) (hn : ms.length = n) : GoodG g W (gTup g.K n u) (mTupG ms) := fun F0 H0 σ0 env0 F H σ env v r Dn x k kp rv p => by
  unfold mTupG at p
  rcases data_cases r env with ⟨d, q⟩ | q
  · have pk := RvOk.pk rv k q
    simp only [q, Res.ok_bind] at p
    cases d with
    | tuple ds =>
      obtain ⟨a, xs, e, hq, hd⟩ := pk.tup k.sub
      by_cases hl : ds.length = ms.length
      · simp only [hl, if_true] at p
        exact ⟨a, xs, e, hq, by rw [hd.length, hl, hn], h.run F H σ env xs ds Dn k hd (PostS.after x kp p)⟩
      · simp only [hl, if_false] at p; exact p.elim
    | _ => exact p.elim
  · simp only [q, Res.stuck_bind] at p; exact p.elim
structure DGs (X : Cx) (W : WX) (es : List Expr) (ms : List MG) : Prop where
  ex : ∃ t, PGs X es t ∧ AllG ⟨X.K, X.mg⟩ W t ms
def mAsg (f : ME) (m : MG) : MS := fun env => f env >>= fun z => m z.1 z.2
theorem good_asg {t : TE} {u : TG} {f : ME} {m : MG} (h : GoodE g W t f) (hg : GoodG g W u m) : GoodS g W (tAsg t u) (mAsg f m) := fun F H σ env Dn k p =>
  h F H σ env _ k (PostS.bindE p fun r e1 F1 H1 v x1 k1 kp1 rv p1 => hg F H σ env F1 H1 σ e1 v r Dn x1 k1 kp1 rv p1)

section
variable {X : Cx} {pos : Pos} {st : Stmt} {rest : List Stmt} {m n : MS} {e c : Expr} {f : ME} {q : MT} {a b : List Stmt}
theorem dss_nil : DSs X W [] mPass := ⟨_, pss_nil, good_pass⟩
theorem dss_cons (h : DS X W st m) (hr : DSs X W rest n) : DSs X W (st :: rest) (mSeq m n) := by
  obtain ⟨t, p, q⟩ := h
  obtain ⟨u, p2, q2⟩ := hr
  exact ⟨_, pss_cons p p2, good_seq q q2⟩
theorem dss_one (h : DS X W st m) : DSs X W [st] m := by
  obtain ⟨t, p, q⟩ := h
  exact ⟨_, pss_one p, q⟩
theorem ds_pass : DS X W (.Pass pos) mPass := ⟨_, ps_pass, good_pass⟩
theorem ds_break : DS X W (.Break pos) mBreak := ⟨_, ps_break, good_break⟩
theorem ds_cont : DS X W (.Continue pos) mCont := ⟨_, ps_continue, good_cont⟩
theorem ds_ret (h : DE X W e f) : DS X W (.Return (some e) pos) (mRet f) := by
  obtain ⟨t, p, q⟩ := h
  exact ⟨_, ps_ret p, good_ret q⟩
theorem ds_retN : DS X W (.Return none pos) mRetN := ⟨_, ps_retN, good_retN⟩
theorem ds_expr (h : DE X W e f) (hs : swapsWith e none pos.line X.env = pure false := by rfl) : DS X W (.Expr e pos) (mDrop f) := by
  obtain ⟨t, p, q⟩ := h
  exact ⟨_, ps_expr p hs, good_drop q⟩
theorem ds_if (hc : DT X W c q) (ha : DSs X W a m) (hb : DSs X W b n) : DS X W (.If c a b pos) (mIfS q m n) := by
  obtain ⟨t, pc, gc⟩ := hc
  obtain ⟨ta, pa, ga⟩ := ha
  obtain ⟨tb, pb, gb⟩ := hb
  exact ⟨_, ps_if pc pa pb, good_ifS gc ga gb⟩
theorem dg_name {i : Nat} {x : Str} (hN : X.N.Nodup) (hi : X.N[i]? = some x) (hx : Loc X.env.scope x) (hf : X.fn x = true ∨ X.env.scope.names.lookup x = some .local := by first | exact .inl rfl | exact .inr rfl | assumption) : DG X W (.Name x pos) (mName i) :=
  ⟨_, pg_name hN hi hx hf, good_name⟩
theorem dgs_nil : DGs X W [] [] := ⟨_, pgs_nil, .nil⟩
theorem dgs_cons {es : List Expr} {m : MG} {ms : List MG} (h : DG X W e m) (hr : DGs X W es ms) (hs : (assignEach (e :: es) X.env).map (·.2) = assign e X.env :: (assignEach es X.env).map (·.2) := by rfl) : DGs X W (e :: es) (m :: ms) := by
  obtain ⟨t, p, q⟩ := h
  obtain ⟨u, p2, q2⟩ := hr
  exact ⟨_, pgs_cons p p2 hs, .cons q q2⟩
theorem dg_tup {es : List Expr} {k : Nat} {ms : List MG} (hc : X.calm = true) (h : DGs X W es ms) (hn : (assignEach es X.env).length = ms.length := by rfl) (hst : (assignEach es X.env).findIdx? (·.1) = none := by rfl) : DG X W (.Tuple es k pos) (mTupG ms) := by
  obtain ⟨t, p, q⟩ := h
  exact ⟨_, pg_tup hc p hn hst, good_tupG q rfl⟩
theorem ds_set {i : Nat} {x : Str} {pos' : Pos} (hN : X.N.Nodup) (hi : X.N[i]? = some x) (hx : Loc X.env.scope x) (he : DE X W e f) (hs : swapsWith e (some (.Name x pos')) pos.line X.env = pure false := by rfl) (hf : X.fn x = true ∨ X.env.scope.names.lookup x = some .local := by first | exact .inl rfl | exact .inr rfl | assumption) :
    DS X W (.Assign [.Name x pos'] e pos) (mAsg f (mName i)) := by
  obtain ⟨t, p, q⟩ := he
  exact ⟨_, ps_set hN hi hx p hs hf, good_asg q good_name⟩
theorem ds_asg {tg : Expr} {m : MG} (he : DE X W e f) (hg : DG X W tg m) (hs : swapsWithSole [tg] e pos.line X.env = pure false := by rfl) (hw : swappedStores [tg] e X.env = pure none := by rfl)
    (h1 : (assignEach [tg] X.env).map (·.2) = [assign tg X.env] := by rfl) : DS X W (.Assign [tg] e pos) (mAsg f m) := by
  obtain ⟨t, p, q⟩ := he
  obtain ⟨u, p2, q2⟩ := hg
  exact ⟨_, ps_asg p p2 hs hw h1, good_asg q q2⟩
end
end DL
namespace DL
open PySem PySem.Spec L2
variable {g : G} {W : WX}

/-! ### while -/
/-- behind a turn -/
def turnEnd (k : MS) : Fl × Env → Res (Fl × Env)
  | (.nx, e) => k e
  | (.ct, e) => k e
  | (.bk, e) => .ok (.nx, e)
  | (.rt r, e) => .ok (.rt r, e)
def whileN (c : MT) (b : MS) : Nat → MS
  | 0, _ => .stuck
  | n + 1, env => c env >>= fun z => if z.1 = true then b z.2 >>= turnEnd (whileN c b n) else .ok (.nx, z.2)
theorem turnEnd_mono {k k' : MS} (h : ∀ e, k e ≠ .stuck → k' e = k e) : ∀ z, turnEnd k z ≠ .stuck → turnEnd k' z = turnEnd k z
  | (.nx, e), n => h e n
  | (.ct, e), n => h e n
  | (.bk, _), _ => rfl
  | (.rt _, _), _ => rfl
theorem bind_mono {α β : Type} {m : Res α} {k k' : α → Res β} (h : ∀ a, k a ≠ .stuck → k' a = k a) (n : (m >>= k) ≠ .stuck) : (m >>= k') = (m >>= k) := by
  cases m with
  | ok a => exact h a n
  | ex c d e => rfl
  | stuck => rfl
theorem whileN_succ {c : MT} {b : MS} : ∀ (n : Nat) (env : Env), whileN c b n env ≠ .stuck → whileN c b (n + 1) env = whileN c b n env
  | 0, env, h => absurd rfl h
  | n + 1, env, h => by
    show (c env >>= fun z => if z.1 = true then b z.2 >>= turnEnd (whileN c b (n + 1)) else .ok (.nx, z.2)) = (c env >>= fun z => if z.1 = true then b z.2 >>= turnEnd (whileN c b n) else .ok (.nx, z.2))
    refine bind_mono (fun z hz => ?_) h
    by_cases e : z.1 = true
    · simp only [if_pos e] at hz ⊢
      exact bind_mono (turnEnd_mono fun e he => whileN_succ n e he) hz
    · simp only [if_neg e]
theorem whileN_le {c : MT} {b : MS} {n m : Nat} {env : Env} (h : n ≤ m) (s : whileN c b n env ≠ .stuck) : whileN c b m env = whileN c b n env := by
  induction h with
  | refl => rfl
  | @step m _ ih => rw [whileN_succ m env (by rw [ih]; exact s), ih]
open Classical in
noncomputable def mWhile (c : MT) (b : MS) : MS := fun env => if h : ∃ n, whileN c b n env ≠ .stuck then whileN c b (Classical.choose h) env else .stuck
theorem mWhile_of {c : MT} {b : MS} {n : Nat} {env : Env} {r : Res (Fl × Env)} (h : whileN c b n env = r) (s : r ≠ .stuck) : mWhile c b env = r := by
  have ex : ∃ n, whileN c b n env ≠ .stuck := ⟨n, by rw [h]; exact s⟩
  unfold mWhile
  rw [dif_pos ex]
  have q := Classical.choose_spec ex
  rcases Nat.le_total n (Classical.choose ex) with l | l
  · rw [whileN_le l (by rw [h]; exact s), h]
  · rw [← h, whileN_le l q]
theorem mWhile_ex {c : MT} {b : MS} {env : Env} (s : mWhile c b env ≠ .stuck) : ∃ n, whileN c b n env = mWhile c b env := by
  unfold mWhile at s ⊢
  by_cases ex : ∃ n, whileN c b n env ≠ .stuck
  · rw [dif_pos ex]; exact ⟨_, rfl⟩
  · rw [dif_neg ex] at s; exact absurd rfl s
theorem PostS.stuck_ne {F H : Hp} {σ : St} {env : Env} {Dn : Ends} {m : Res (Fl × Env)} (h : PostS g W F H σ env Dn m) : m ≠ .stuck := fun e => by subst e; exact h
theorem PostS.turn {F H : Hp} {σ : St} {env : Env} {Dn : Ends} {N : St → Hp → Prop} {m : Res (Fl × Env)} {k : MS} (h : PostS g W F H σ env Dn (m >>= turnEnd k))
    (hk : ∀ e1 F1 H1 σ1, Ext F H (Own σ env) F1 H1 (Own σ1 e1) → EnvOk g F1 H1 σ1 e1 → Keep σ env σ1 e1 → PostS g W F H σ env Dn (k e1) → N σ1 H1) : PostS g W F H σ env { Dn with nx := N, ct := N, bk := Dn.nx } m := by
  cases m with
  | ok p =>
    obtain ⟨f, e1⟩ := p
    cases f with
    | nx => exact fun F' H' σ' x ok kp => hk e1 F' H' σ' x ok kp h
    | ct => exact fun F' H' σ' x ok kp => hk e1 F' H' σ' x ok kp h
    | bk => exact h
    | rt r => exact h
  | ex c d e => exact h
  | stuck => exact h
theorem good_while {c : TT} {tb : TS} {mc : MT} {b : MS} (hc : GoodT g W c mc) (hb : GoodS g W tb b) : GoodS g W (tWhile c tb) (mWhile mc b) := fun F H σ env Dn k p => by
  obtain ⟨n, hn⟩ := mWhile_ex p.stuck_ne
  rw [← hn] at p
  refine ⟨fun m σ H => ∃ F env, EnvOk g F H σ env ∧ PostS g W F H σ env Dn (whileN mc b m env), ⟨n, F, env, k, p⟩, ?_⟩
  rintro m σ H ⟨F, env, k, p⟩
  cases m with
  | zero => exact p.elim
  | succ m =>
    refine hc F H σ env _ k (PostS.bindE p fun r e1 F1 H1 v x1 k1 kp1 rv p1 => ?_)
    have rv : v = r := rv
    subst rv
    have p2 := PostS.after x1 kp1 p1
    cases v with
    | true =>
      rw [if_pos rfl]
      refine ⟨fun σ' H' => ∃ F env, EnvOk g F H' σ' env ∧ PostS g W F H' σ' env Dn (whileN mc b m env), fun σ' H' h => ⟨m, Nat.lt_succ_self _, h⟩, ?_⟩
      exact hb F1 H1 σ e1 _ k1 (PostS.turn p2 fun e2 F2 H2 σ2 x2 k2 kp2 p3 => ⟨F2, e2, k2, PostS.after x2 kp2 p3⟩)
    | false => rw [if_neg Bool.false_ne_true]; exact p2 F1 H1 σ .refl k1 .refl
theorem ds_while {X : Cx} {c : Expr} {body : List Stmt} {pos : Pos} {mc : MT} {b : MS} (hp : PassesOwn (model X.prog X.w) X.A X.env X.xe) (hc : DT X W c mc) (hb : DSs X W body b) : DS X W (.While c body [] pos) (mWhile mc b) := by
  obtain ⟨t, pt, gt⟩ := hc
  obtain ⟨u, pu, gu⟩ := hb
  exact ⟨_, ps_while hp pt pu, good_while gt gu⟩

/-! ### for -/
/-- J gives the items ds, whatever comes, as long as what is walked stands -/
def IterOk (g : G) (J : It) (ds : List D) (F H : Hp) (σ : St) (env : Env) : Prop := ∀ (i : Nat) (F2 H2 : Hp) (σ2 : St) (env2 : Env), Ext F H (Own σ env) F2 H2 (Own σ2 env2) → Keep σ env σ2 env2 → EnvOk g F2 H2 σ2 env2 →
  (∀ d, ds[i]? = some d → J.go i H2 ∧ ∀ x H3, J.yld i H2 x H3 → ∃ F3, Grow F2 H2 F3 H3 ∧ Den g F3 x d) ∧ (i = ds.length → J.stop i H2)
abbrev MI := Env → Res ((List D × Option Nat) × Env)
def RI (g : G) : RelB It (List D × Option Nat) := fun _ F H σ env J r => IterOk g J r.1 F H σ env
theorem RI.early : Early (RI g) := ⟨fun _ _ _ _ _ _ _ _ _ h => h⟩
def unlock : Option Nat → Env → Env
  | none, e => e
  | some j, e => match e[j]? with
    | some (.ow .lk d) => e.set j (.ow .fr d)
    | _ => e
theorem unlock_adr {o : Option Nat} {σ : St} {env : Env} {i : Nat} {a : Addr} : Adr σ (unlock o env) i a ↔ Adr σ env i a := by
  cases o with
  | none => exact Iff.rfl
  | some j =>
    unfold unlock
    simp only
    split
    · rename_i d q
      constructor
      · rintro ⟨⟨k, d2, h1⟩, h2⟩
        rcases get_set h1 with ⟨e, _, _⟩ | ⟨_, h3⟩
        · subst e; exact ⟨⟨_, _, q⟩, h2⟩
        · exact ⟨⟨k, d2, h3⟩, h2⟩
      · rintro ⟨⟨k, d2, h1⟩, h2⟩
        by_cases e : j = i
        · subst e; exact ⟨⟨.fr, d, List.getElem?_set_self (lt_of_get q)⟩, h2⟩
        · exact ⟨⟨k, d2, by rw [List.getElem?_set_ne e]; exact h1⟩, h2⟩
    · exact Iff.rfl
theorem unlock_own {o : Option Nat} {σ : St} {env : Env} : Own σ (unlock o env) = Own σ env := by
  funext a
  exact propext ⟨fun ⟨i, h⟩ => ⟨i, unlock_adr.mp h⟩, fun ⟨i, h⟩ => ⟨i, unlock_adr.mpr h⟩⟩
theorem unlock_ok {o : Option Nat} {F H : Hp} {σ : St} {env : Env} (k : EnvOk g F H σ env) : EnvOk g F H σ (unlock o env) := by
  refine ⟨?_, k.sub, fun i s e => ?_, fun i j a h1 h2 => k.dis i j a (unlock_adr.mp h1) (unlock_adr.mp h2)⟩
  · rw [k.len]
    cases o with
    | none => rfl
    | some j => unfold unlock; simp only; split <;> simp
  · cases o with
    | none => exact k.sl i s e
    | some j =>
      unfold unlock at e
      simp only at e
      split at e
      · rename_i d q
        rcases get_set e with ⟨e1, e2, _⟩ | ⟨_, e2⟩
        · subst e1; subst e2
          obtain ⟨o', h1, h2⟩ := k.sl j _ q
          exact ⟨o', h1, h2⟩
        · exact k.sl i s e2
      · exact k.sl i s e
theorem unlock_rv {o : Option Nat} {H0 F H : Hp} {σ : St} {env : Env} {v : V} {r : Rv} (h : RvOk g H0 F H σ env v r) : RvOk g H0 F H σ (unlock o env) v r := by
  cases r with
  | val d => exact h
  | sl i => exact h
  | new d =>
    obtain ⟨a, h1, h2, h3, h4, h5⟩ := h
    exact ⟨a, h1, h2, h3, by rw [unlock_own]; exact h4, h5⟩
/-- the one that was locked was free ahead -/
def LockOk (o : Option Nat) (env : Env) : Prop := ∀ j, o = some j → ∀ k d, env[j]? = some (.ow k d) → k = .fr
theorem unlock_keep {o : Option Nat} {σ0 σ : St} {env0 env : Env} (h : Keep σ0 env0 σ env) (l : LockOk o env0) : Keep σ0 env0 σ (unlock o env) := fun i k d e n => by
  obtain ⟨h1, d', h2, h3⟩ := h i k d e n
  refine ⟨h1, d', ?_, h3⟩
  cases o with
  | none => exact h2
  | some j =>
    unfold unlock
    simp only
    split
    · have ne : j ≠ i := fun z => by subst z; exact n (l j rfl k d e)
      rw [List.getElem?_set_ne ne]; exact h2
    · exact h2
def unl (o : Option Nat) : Res (Fl × Env) → Res (Fl × Env)
  | .ok (f, e) => .ok (f, unlock o e)
  | .ex c d e => .ex c d (unlock o e)
  | .stuck => .stuck
def mForL (gm : MG) (b : MS) : List D → MS
  | [], env => .ok (.nx, env)
  | d :: ds, env => gm (.val d) env >>= fun z => match z.1 with
    | .nx => b z.2 >>= turnEnd (mForL gm b ds)
    | _ => .stuck
def lockB (o : Option Nat) (env : Env) : Bool := match o with
  | none => true
  | some j => match env[j]? with
    | some (.ow .fr _) => true
    | some (.ow _ _) => false
    | _ => true
theorem lockB_ok {o : Option Nat} {env : Env} (h : lockB o env = true) : LockOk o env := fun j e k d q => by
  subst e
  unfold lockB at h
  simp only [q] at h
  cases k with
  | fr => rfl
  | lk => cases h
  | pn => cases h
def mFor (mi : MI) (gm : MG) (b : MS) : MS := fun env => mi env >>= fun z => if lockB z.1.2 env = true then unl z.1.2 (mForL gm b z.1.1 z.2) else .stuck
abbrev GoodI (g : G) (W : WX) (t : TI) (m : MI) : Prop := Good (RI g) g W t m
structure DI (X : Cx) (W : WX) (tg e : Expr) (m : MI) : Prop where
  ex : ∃ t, PI X tg e t ∧ GoodI ⟨X.K, X.mg⟩ W t m
/-- told from the start, behind the unlocking -/
theorem PostS.unl_end {F H F1 H1 : Hp} {σ σ1 : St} {env e1 : Env} {o : Option Nat} {Dn : Ends} {f : Fl} (l : LockOk o env) (h : PostS g W F H σ env Dn (unl o (.ok (f, e1)))) (x : Ext F H (Own σ env) F1 H1 (Own σ1 e1)) (ok : EnvOk g F1 H1 σ1 e1) (kp : Keep σ env σ1 e1) : EndOk g H F1 H1 σ1 e1 Dn f := by
  have q := h F1 H1 σ1 (by rw [unlock_own]; exact x) (unlock_ok ok) (unlock_keep kp l)
  cases f with
  | nx => exact q
  | bk => exact q
  | ct => exact q
  | rt r => exact fun v rv => q v (unlock_rv rv)
theorem PostS.unl_ex {F H F1 H1 : Hp} {σ σ1 : St} {env e1 : Env} {o : Option Nat} {Dn : Ends} {c : Str} {d : D} {dd C : Addr} {v : V} (l : LockOk o env) (h : PostS g W F H σ env Dn (unl o (.ex c d e1))) (x : Ext F H (Own σ env) F1 H1 (Own σ1 e1)) (ok : EnvOk g F1 H1 σ1 e1) (kp : Keep σ env σ1 e1)
    (h1 : g.mg c = some (.ref C)) (h2 : H1 dd = some (.xd [(("value" : Str), v)])) (h3 : Den g F1 v d) : W (.ref C) (some dd) σ1 H1 :=
  h F1 H1 σ1 dd C v (by rw [unlock_own]; exact x) (unlock_ok ok) (unlock_keep kp l) h1 h2 h3
theorem good_for {wi : TI} {t : TG} {tb : TS} {mi : MI} {gm : MG} {b : MS} (hi : GoodI g W wi mi) (hg : GoodG g W t gm) (hb : GoodS g W tb b) : GoodS g W (tFor wi t tb) (mFor mi gm b) := fun F H σ env Dn k p => by
  cases hmi : mi env with
  | stuck => exact (hi F H σ env _ k (by unfold mFor at p; rw [hmi] at p ⊢; exact p.elim))
  | ex c d e => exact (hi F H σ env _ k (by unfold mFor at p; rw [hmi] at p ⊢; exact fun F' H' dd C v => p F' H' σ dd C v))
  | ok z =>
    obtain ⟨⟨ds, o⟩, e1⟩ := z
    unfold mFor at p
    rw [hmi] at p
    by_cases hlo : lockB o env = true
    rotate_left
    · simp only [Res.ok_bind, hlo, if_false] at p; exact p.elim
    have lo : LockOk o env := lockB_ok hlo
    simp only [Res.ok_bind, hlo, if_true] at p
    refine hi F H σ env _ k ?_
    rw [hmi]
    intro F1 H1 J x1 k1 kp1 it
    have it : IterOk g J ds F1 H1 σ e1 := it
    have p : PostS g W F H σ env Dn (unl o (mForL gm b ds e1)) := p
    refine ⟨fun i m σ2 H2 => ∃ F2 env2, Ext F1 H1 (Own σ e1) F2 H2 (Own σ2 env2) ∧ Keep σ e1 σ2 env2 ∧ EnvOk g F2 H2 σ2 env2 ∧ m = ds.length - i ∧ i ≤ ds.length ∧ PostS g W F H σ env Dn (unl o (mForL gm b (ds.drop i) env2)), ⟨ds.length, F1, e1, .refl, .refl, k1, rfl, Nat.zero_le _, p⟩, ?_⟩
    rintro i m σ2 H2 ⟨F2, env2, x2, kp2, k2, rfl, hle, p2⟩
    obtain ⟨itg, its⟩ := it i F2 H2 σ2 env2 x2 kp2 k2
    by_cases hl : i < ds.length
    · obtain ⟨d, hd⟩ : ∃ d, ds[i]? = some d := ⟨ds[i], by simp [hl]⟩
      obtain ⟨hgo, hy⟩ := itg d hd
      refine .inr ⟨hgo, fun σ' H' => ∃ F2 env2, Ext F1 H1 (Own σ e1) F2 H' (Own σ' env2) ∧ Keep σ e1 σ' env2 ∧ EnvOk g F2 H' σ' env2 ∧ PostS g W F H σ env Dn (unl o (mForL gm b (ds.drop (i + 1)) env2)),
        fun σ' H' ⟨F3, e3, a1, a2, a3, a4⟩ => ⟨ds.length - (i + 1), by omega, F3, e3, a1, a2, a3, rfl, hl, a4⟩, fun x H3 y => ?_⟩
      obtain ⟨F3, gr, hden⟩ := hy x H3 y
      have hdrop : ds.drop i = d :: ds.drop (i + 1) := by
        rw [List.drop_eq_getElem_cons hl]
        have : ds[i] = d := by
          have := hd
          rw [List.getElem?_eq_getElem hl] at this
          exact Option.some.inj this
        rw [this]
      rw [hdrop] at p2
      have p2 : PostS g W F H σ env Dn (unl o (gm (.val d) env2 >>= fun z => match z.1 with | .nx => b z.2 >>= turnEnd (mForL gm b (ds.drop (i + 1))) | _ => .stuck)) := p2
      have k3 := k2.grow gr
      have x3 : Ext F1 H1 (Own σ e1) F3 H3 (Own σ2 env2) := x2.trans gr.ext
      refine hg F3 H3 σ2 env2 F3 H3 σ2 env2 x (.val d) { nx := fun σ' H' => tb { Dn with nx := _, ct := _, bk := Dn.nx } σ' H', rt := Dn.rt } .refl k3 .refl hden ?_
      cases hgm : gm (.val d) env2 with
      | stuck => rw [hgm] at p2; exact p2.elim
      | ex c dd e => rw [hgm] at p2; exact fun F' H' σ' dd' C v x' ok' kp' a1 a2 a3 => PostS.unl_ex lo p2 ((x1.trans x3).trans x') ok' ((kp1.trans kp2).trans kp') a1 a2 a3
      | ok z =>
        obtain ⟨f, e3⟩ := z
        rw [hgm] at p2
        cases f with
        | nx =>
          intro F4 H4 σ4 x4 k4 kp4
          have p3 : PostS g W F H σ env Dn (unl o (b e3 >>= turnEnd (mForL gm b (ds.drop (i + 1))))) := p2
          refine hb F4 H4 σ4 e3 _ k4 ?_
          have xs := (x1.trans x3).trans x4
          have ks := (kp1.trans kp2).trans kp4
          cases hbb : b e3 with
          | stuck => rw [hbb] at p3; exact p3.elim
          | ex c dd e => rw [hbb] at p3; exact fun F' H' σ' dd' C v x' ok' kp' a1 a2 a3 => PostS.unl_ex lo p3 (xs.trans x') ok' (ks.trans kp') a1 a2 a3
          | ok y =>
            obtain ⟨f2, e4⟩ := y
            rw [hbb] at p3
            intro F5 H5 σ5 x5 k5 kp5
            cases f2 with
            | nx => exact ⟨F5, e4, (x3.trans x4).trans x5, (kp2.trans kp4).trans kp5, k5, p3⟩
            | ct => exact ⟨F5, e4, (x3.trans x4).trans x5, (kp2.trans kp4).trans kp5, k5, p3⟩
            | bk => exact PostS.unl_end (f := .nx) lo p3 (xs.trans x5) k5 (ks.trans kp5)
            | rt r => exact fun v rv => PostS.unl_end (f := .rt r) lo p3 (xs.trans x5) k5 (ks.trans kp5) v (RvOk.earlier rv xs.dom)
        | _ => exact p2.elim
    · have e : i = ds.length := by omega
      have e0 : ds.drop i = [] := List.drop_eq_nil_of_le (by omega)
      rw [e0] at p2
      exact .inl ⟨its e, PostS.unl_end (f := .nx) lo p2 (x1.trans x2) k2 (kp1.trans kp2)⟩
theorem ds_for {X : Cx} {tg iter : Expr} {body : List Stmt} {pos : Pos} {mi : MI} {gm : MG} {b : MS} (hp : PassesOwn (model X.prog X.w) X.A X.env X.xe) (hc : X.calm = true) (hi : DI X W tg iter mi) (hg : DG X W tg gm) (hb : DSs X W body b)
    (hs : ∀ x, foldedSetIterable iter X.env x = pure x := by intro _; rfl) : DS X W (.For tg iter body [] pos) (mFor mi gm b) := by
  obtain ⟨t, pt, gt⟩ := hi
  obtain ⟨u, pu, gu⟩ := hg
  obtain ⟨v, pv, gv⟩ := hb
  exact ⟨_, ps_for hp hc pt pu pv hs, good_for gt gu gv⟩
end DL
namespace DL
open PySem PySem.Spec L2
variable {g : G} {W : WX}

abbrev WNo : WX := fun _ _ _ _ => False
/-- the target stores within vs alone -/
def Wi (vs : List Nat) (t : TG) : Prop := ∀ x σ H (Q Q' : St → Hp → Prop), t x σ H Q → (∀ σ2 H2, wipe σ2 vs = wipe σ vs → Q σ2 H2 → Q' σ2 H2) → t x σ H Q'
def WiS (vs : List Nat) (t : TGs) : Prop := ∀ xs σ H (Q Q' : St → Hp → Prop), t xs σ H Q → (∀ σ2 H2, wipe σ2 vs = wipe σ vs → Q σ2 H2 → Q' σ2 H2) → t xs σ H Q'
theorem wipe_get (σ : St) (j : Nat) : ∀ vs : List Nat, (wipe σ vs)[j]? = if j ∈ vs ∧ j < σ.length then some none else σ[j]?
  | [] => by simp [wipe]
  | v :: vs => by
    unfold wipe
    by_cases e : v = j
    · subst e
      by_cases hl : v < σ.length
      · rw [List.getElem?_set_self (by rw [wipe_length]; exact hl)]; simp [hl]
      · rw [List.getElem?_eq_none (by rw [List.length_set, wipe_length]; omega)]
        simp [hl]
    · rw [List.getElem?_set_ne e, wipe_get σ j vs]
      have : (j = v ∨ j ∈ vs) ↔ j ∈ vs := ⟨fun h => h.resolve_left (Ne.symm e), .inr⟩
      simp [this]
theorem wipe_set {σ : St} {i : Nat} {x : Option V} {vs : List Nat} (h : i ∈ vs) : wipe (σ.set i x) vs = wipe σ vs := by
  apply List.ext_getElem?
  intro j
  rw [wipe_get, wipe_get]
  by_cases e : j = i
  · subst e
    by_cases hl : j < σ.length
    · simp [h, hl]
    · have h1 : (σ.set j x)[j]? = none := List.getElem?_eq_none (by rw [List.length_set]; omega)
      have h2 : σ[j]? = none := List.getElem?_eq_none (by omega)
      simp [h1, h2]
  · rw [List.length_set, List.getElem?_set_ne (Ne.symm e)]
theorem wipe_wipe {σ : St} {vs : List Nat} : wipe (wipe σ vs) vs = wipe σ vs := by
  apply List.ext_getElem?
  intro j
  rw [wipe_get, wipe_length, wipe_get]
  by_cases e : j ∈ vs ∧ j < σ.length
  · simp [e]
  · simp [e]
theorem wi_name {i : Nat} {vs : List Nat} (h : i ∈ vs) : Wi vs (gName i) := fun x σ H Q Q' q k => k _ _ (wipe_set h) q
theorem wi_nil {vs : List Nat} : WiS vs gNil := fun xs σ H Q Q' q k => ⟨q.1, k _ _ rfl q.2⟩
theorem wi_cons {vs : List Nat} {t : TG} {u : TGs} (h : Wi vs t) (hr : WiS vs u) : WiS vs (gCons t u) := fun xs σ H Q Q' ⟨v, r, e, q⟩ k =>
  ⟨v, r, e, h v σ H _ _ q fun σ2 H2 e2 q2 => hr r σ2 H2 _ _ q2 fun σ3 H3 e3 q3 => k σ3 H3 (e3.trans e2) q3⟩
theorem wi_tup {K : PySem.W.Frag} {n : Nat} {vs : List Nat} {u : TGs} (h : WiS vs u) : Wi vs (gTup K n u) := fun x σ H Q Q' ⟨a, xs, e1, e2, e3, q⟩ k => ⟨a, xs, e1, e2, e3, h xs σ H _ _ q k⟩

def wipeE (env : Env) : List Nat → Env
  | [] => env
  | v :: vs => (wipeE env vs).set v .no
def backE (orig env : Env) : List Nat → Env
  | [] => env
  | v :: vs => (backE orig env vs).set v (orig.getD v .no)
def plainAt (env : Env) (v : Nat) : Bool := match env[v]? with
  | some .no => true
  | some (.fz _) => true
  | _ => false
theorem wipeE_length (env : Env) : ∀ vs : List Nat, (wipeE env vs).length = env.length
  | [] => rfl
  | v :: vs => by unfold wipeE; rw [List.length_set, wipeE_length env vs]
theorem wipeE_get (env : Env) (j : Nat) : ∀ vs : List Nat, (wipeE env vs)[j]? = if j ∈ vs ∧ j < env.length then some .no else env[j]?
  | [] => by simp [wipeE]
  | v :: vs => by
    unfold wipeE
    by_cases e : v = j
    · subst e
      by_cases hl : v < env.length
      · rw [List.getElem?_set_self (by rw [wipeE_length]; exact hl)]; simp [hl]
      · rw [List.getElem?_eq_none (by rw [List.length_set, wipeE_length]; omega)]
        simp [hl]
    · rw [List.getElem?_set_ne e, wipeE_get env j vs]
      have : (j = v ∨ j ∈ vs) ↔ j ∈ vs := ⟨fun h => h.resolve_left (Ne.symm e), .inr⟩
      simp [this]
theorem backE_length (o env : Env) : ∀ vs : List Nat, (backE o env vs).length = env.length
  | [] => rfl
  | v :: vs => by unfold backE; rw [List.length_set, backE_length o env vs]
theorem backE_get (o env : Env) (j : Nat) : ∀ vs : List Nat, (backE o env vs)[j]? = if j ∈ vs ∧ j < env.length then some (o.getD j .no) else env[j]?
  | [] => by simp [backE]
  | v :: vs => by
    unfold backE
    by_cases e : v = j
    · subst e
      by_cases hl : v < env.length
      · rw [List.getElem?_set_self (by rw [backE_length]; exact hl)]; simp [hl]
      · rw [List.getElem?_eq_none (by rw [List.length_set, backE_length]; omega)]
        simp [hl]
    · rw [List.getElem?_set_ne e, backE_get o env j vs]
      have : (j = v ∨ j ∈ vs) ↔ j ∈ vs := ⟨fun h => h.resolve_left (Ne.symm e), .inr⟩
      simp [this]
theorem wipe_adr {σ : St} {env : Env} {vs : List Nat} {i : Nat} {a : Addr} (h : Adr (wipe σ vs) (wipeE env vs) i a) : i ∉ vs ∧ Adr σ env i a := by
  obtain ⟨⟨k, d, h1⟩, h2⟩ := h
  rw [wipeE_get] at h1
  rw [wipe_get] at h2
  by_cases e : i ∈ vs ∧ i < env.length
  · rw [if_pos e] at h1; cases h1
  · rw [if_neg e] at h1
    by_cases e2 : i ∈ vs ∧ i < σ.length
    · rw [if_pos e2] at h2; cases h2
    · rw [if_neg e2] at h2
      exact ⟨fun z => e ⟨z, lt_of_get h1⟩, ⟨k, d, h1⟩, h2⟩
theorem adr_wipe {σ : St} {env : Env} {vs : List Nat} {i : Nat} {a : Addr} (hv : i ∉ vs) (h : Adr σ env i a) : Adr (wipe σ vs) (wipeE env vs) i a := by
  obtain ⟨⟨k, d, h1⟩, h2⟩ := h
  exact ⟨⟨k, d, by rw [wipeE_get, if_neg (fun z => hv z.1)]; exact h1⟩, by rw [wipe_get, if_neg (fun z => hv z.1)]; exact h2⟩
theorem EnvOk.wipe {F H : Hp} {σ : St} {env : Env} {vs : List Nat} (k : EnvOk g F H σ env) : EnvOk g F H (L2.wipe σ vs) (wipeE env vs) := by
  refine ⟨by rw [wipe_length, wipeE_length, k.len], k.sub, fun i s e => ?_, fun i j a h1 h2 => k.dis i j a (wipe_adr h1).2 (wipe_adr h2).2⟩
  rw [wipeE_get] at e
  by_cases h : i ∈ vs ∧ i < env.length
  · rw [if_pos h] at e
    cases e
    exact ⟨none, by rw [wipe_get, if_pos ⟨h.1, by rw [k.len]; exact h.2⟩], trivial⟩
  · rw [if_neg h] at e
    obtain ⟨o, h1, h2⟩ := k.sl i s e
    exact ⟨o, by rw [wipe_get, if_neg (fun z => h ⟨z.1, lt_of_get e⟩)]; exact h1, h2⟩
/-- out of the block: the def's own again -/
theorem back_adr {σ : St} {o env : Env} {vs : List Nat} {i : Nat} {a : Addr} (hp : vs.all (plainAt o) = true) (h : Adr σ (backE o env vs) i a) : Adr (wipe σ vs) (wipeE env vs) i a := by
  obtain ⟨⟨k, d, h1⟩, h2⟩ := h
  rw [backE_get] at h1
  by_cases e : i ∈ vs ∧ i < env.length
  · rw [if_pos e] at h1
    have hp := List.all_eq_true.mp hp i e.1
    unfold plainAt at hp
    rw [List.getD_eq_getElem?_getD] at h1
    cases q : o[i]? with
    | none => rw [q] at h1; simp at h1
    | some s => rw [q] at h1 hp; simp at h1; subst h1; cases hp
  · rw [if_neg e] at h1
    exact adr_wipe (fun z => e ⟨z, lt_of_get h1⟩) ⟨⟨k, d, h1⟩, h2⟩
theorem EnvOk.back {F0 H0 F H : Hp} {σ : St} {o env : Env} {vs : List Nat} (hp : vs.all (plainAt o) = true) (k0 : EnvOk g F0 H0 σ o) (s : Sub F0 F) (k : EnvOk g F H (L2.wipe σ vs) (wipeE env vs)) : EnvOk g F H σ (backE o env vs) := by
  have hl : σ.length = env.length := by have := k.len; rw [wipe_length, wipeE_length] at this; exact this
  refine ⟨by rw [backE_length]; exact hl, k.sub, fun i t e => ?_, fun i j a h1 h2 => k.dis i j a (back_adr hp h1) (back_adr hp h2)⟩
  rw [backE_get] at e
  by_cases h : i ∈ vs ∧ i < env.length
  · rw [if_pos h] at e
    have hp := List.all_eq_true.mp hp i h.1
    unfold plainAt at hp
    have e' := Option.some.inj e
    cases q : o[i]? with
    | none => rw [q] at hp; cases hp
    | some u =>
      rw [List.getD_eq_getElem?_getD, q] at e'
      simp at e'
      subst e'
      obtain ⟨w, h1, h2⟩ := k0.sl i _ q
      refine ⟨w, h1, ?_⟩
      rw [q] at hp
      cases u with
      | no => trivial
      | fz d => obtain ⟨v, h3, h4⟩ := h2; exact ⟨v, h3, h4.mono s⟩
      | ow kd d => cases hp
  · rw [if_neg h] at e
    have hv : i ∉ vs := fun z => h ⟨z, lt_of_get e⟩
    obtain ⟨w, h1, h2⟩ := k.sl i t (by rw [wipeE_get, if_neg (fun z => hv z.1)]; exact e)
    rw [wipe_get, if_neg (fun z => hv z.1)] at h1
    exact ⟨w, h1, h2⟩
/-- something else changes -/
theorem EnvOk.beside {F H : Hp} {σ : St} {env : Env} {a : Addr} {o : HO} (k : EnvOk g F H σ env) (hf : F a = none) (hn : ¬ Own σ env a) : EnvOk g F (upd H a o) σ env := by
  refine ⟨k.len, fun b u e => ?_, fun i s e => ?_, k.dis⟩
  · have hb : b ≠ a := fun z => by subst z; rw [hf] at e; cases e
    rw [upd_ne hb]; exact k.sub b u e
  · obtain ⟨w, h1, h2⟩ := k.sl i s e
    refine ⟨w, h1, ?_⟩
    cases s with
    | no => trivial
    | fz d => exact h2
    | ow kd d =>
      obtain ⟨b, h3, h4, h5⟩ := h2
      have hb : b ≠ a := fun z => hn ⟨i, ⟨kd, d, e⟩, by rw [h1, h3, z]⟩
      exact ⟨b, h3, h4, h5.mono .refl fun u q => by rw [upd_ne hb]; exact q⟩

def bindN {α β : Type} (m : Res α) (k : α → Res β) : Res β := match m with
  | .ok a => k a
  | _ => .stuck
@[simp] theorem bindN_ok {α β : Type} (a : α) (k : α → Res β) : bindN (.ok a) k = k a := rfl
def mLcL (gm : MG) (tt : MT) (f : ME) (vs : List Nat) : List D → List D → Env → Res (List D × Env)
  | [], acc, env => .ok (acc, env)
  | d :: ds, acc, env => bindN (gm (.val d) env) fun z => match z.1 with
    | .nx => bindN (tt z.2) fun y => if y.1 = true then
        bindN (f y.2) fun x => bindN (x.1.frz x.2) fun u => if acc.length < lineM then mLcL gm tt f vs ds (acc ++ [u.1]) (wipeE u.2 vs) else .stuck
      else mLcL gm tt f vs ds acc (wipeE y.2 vs)
    | _ => .stuck
def mLc (mi : MI) (gm : MG) (tt : MT) (f : ME) (vs : List Nat) : ME := fun env => mi env >>= fun z =>
  if vs.all (plainAt z.2) = true ∧ lockB z.1.2 env = true then bindN (mLcL gm tt f vs z.1.1 [] (wipeE z.2 vs)) fun y => .ok (.new (.list y.1), unlock z.1.2 (backE z.2 y.2 vs))
  else .stuck
theorem good_lc {wi : TI} {t : TG} {tt : TT} {te : TE} {mi : MI} {gm : MG} {mt : MT} {f : ME} {vs : List Nat} (hi : GoodI g W wi mi) (hw : Wi vs t) (hg : GoodG g WNo t gm) (ht : GoodT g WNo tt mt) (he : GoodE g WNo te f) : GoodE g W (tLc wi t tt te vs) (mLc mi gm mt f vs) := fun F H σ env Q k p => by
  cases hmi : mi env with
  | stuck => exact (hi F H σ env _ k (by unfold mLc at p; rw [hmi] at p ⊢; exact p.elim))
  | ex c d e => exact (hi F H σ env _ k (by unfold mLc at p; rw [hmi] at p ⊢; exact fun F' H' dd C v => p F' H' dd C v))
  | ok z =>
    obtain ⟨⟨ds, o⟩, e1⟩ := z
    unfold mLc at p
    rw [hmi] at p
    refine hi F H σ env _ k ?_
    rw [hmi]
    intro F1 H1 J x1 k1 kp1 it a ha
    have it : IterOk g J ds F1 H1 σ e1 := it
    by_cases hpl : vs.all (plainAt e1) = true ∧ lockB o env = true
    · have hp := hpl.1
      have lo : LockOk o env := lockB_ok hpl.2
      simp only [Res.ok_bind] at p
      rw [if_pos hpl] at p
      have k1w : EnvOk g F1 H1 (wipe σ vs) (wipeE e1 vs) := k1.wipe
      have own_w : ∀ {e : Env} {b : Addr}, Own (wipe σ vs) (wipeE e vs) b → Own σ e b := fun ⟨i, h⟩ => ⟨i, (wipe_adr h).2⟩
      have fa := k1.fresh ha
      -- what a state within the block is to the def's own
      have outE : ∀ {F2 H2 : Hp} {e2 : Env}, e2 = wipeE e2 vs → Ext F1 H1 (Own (wipe σ vs) (wipeE e1 vs)) F2 H2 (Own (wipe σ vs) e2) → EnvOk g F2 H2 (wipe σ vs) e2 → Keep (wipe σ vs) (wipeE e1 vs) (wipe σ vs) e2 →
          Ext F1 H1 (Own σ e1) F2 H2 (Own σ (backE e1 e2 vs)) ∧ EnvOk g F2 H2 σ (backE e1 e2 vs) ∧ Keep σ e1 σ (backE e1 e2 vs) := fun {F2 H2 e2} hw2 x ok kp => by
        refine ⟨⟨x.sub, fun b u q n => x.keep b u q fun z => n (own_w z), x.dom, fun b q1 q2 => (x.new b q1 q2).imp id own_w, fun b ⟨i, q⟩ => ?_⟩, EnvOk.back hp k1 x.sub (by rw [← hw2]; exact ok), fun i kd d e n => ?_⟩
        · exact (x.own b ⟨i, by rw [hw2]; exact back_adr hp q⟩).imp id own_w
        · have hv : i ∉ vs := fun z => by
            have := List.all_eq_true.mp hp i z
            unfold plainAt at this
            rw [e] at this; cases this
          obtain ⟨q1, d', q2, q3⟩ := kp i kd d (by rw [wipeE_get, if_neg (fun z => hv z.1)]; exact e) n
          exact ⟨rfl, d', by rw [backE_get, if_neg (fun z => hv z.1)]; exact q2, q3⟩
      have wipe_id : ∀ e : Env, wipeE (wipeE e vs) vs = wipeE e vs := fun e => by
        apply List.ext_getElem?
        intro j
        rw [wipeE_get, wipeE_length, wipeE_get]
        by_cases q : j ∈ vs ∧ j < e.length
        · simp [q]
        · simp [q]
      refine ⟨fun i m H2 => ∃ F2 env2 acc vacc, env2 = wipeE env2 vs ∧ Ext F1 H1 (Own (wipe σ vs) (wipeE e1 vs)) F2 H2 (Own (wipe σ vs) env2) ∧ Keep (wipe σ vs) (wipeE e1 vs) (wipe σ vs) env2 ∧ EnvOk g F2 H2 (wipe σ vs) env2 ∧ H2 a = some (.lst vacc) ∧ F2 a = none ∧ ¬ Own (wipe σ vs) env2 a ∧ DenL g F2 vacc acc ∧
        m = ds.length - i ∧ i ≤ ds.length ∧ Post (RE g) g W F H σ env Q (bindN (mLcL gm mt f vs (ds.drop i) acc env2) fun y => .ok (.new (.list y.1), unlock o (backE e1 y.2 vs))),
        ⟨ds.length, F1, wipeE e1 vs, [], [], (wipe_id e1).symm, ?_, .refl, k1w.beside fa.1 (fun z => fa.2 (own_w z)), upd_same, fa.1, fun z => fa.2 (own_w z), .nil, rfl, Nat.zero_le _, p⟩, ?_⟩
      · refine ⟨.refl, fun b u q n => by rw [upd_ne (ne_of_none q ha)]; exact q, fun b q => ?_, fun b q1 q2 => absurd q1 q2, fun b q => .inr q⟩
        by_cases e : b = a
        · subst e; rw [upd_same]; simp
        · rw [upd_ne e]; exact q
      rintro i m H2 ⟨F2, env2, acc, vacc, w2, x2, kp2, k2, hD, hF, hO, hden, rfl, hle, p2⟩
      obtain ⟨x2', k2', kp2'⟩ := outE w2 x2 k2 kp2
      obtain ⟨itg, its⟩ := it i F2 H2 σ _ x2' kp2' k2'
      by_cases hl : i < ds.length
      · obtain ⟨d, hd⟩ : ∃ d, ds[i]? = some d := ⟨ds[i], by simp [hl]⟩
        obtain ⟨hgo, hy⟩ := itg d hd
        have hdrop : ds.drop i = d :: ds.drop (i + 1) := by
          rw [List.drop_eq_getElem_cons hl]
          have : ds[i] = d := by
            have := hd
            rw [List.getElem?_eq_getElem hl] at this
            exact Option.some.inj this
          rw [this]
        rw [hdrop] at p2
        refine .inr ⟨hgo, fun H' => ∃ F2 env2 acc vacc, env2 = wipeE env2 vs ∧ Ext F1 H1 (Own (wipe σ vs) (wipeE e1 vs)) F2 H' (Own (wipe σ vs) env2) ∧ Keep (wipe σ vs) (wipeE e1 vs) (wipe σ vs) env2 ∧ EnvOk g F2 H' (wipe σ vs) env2 ∧ H' a = some (.lst vacc) ∧ F2 a = none ∧ ¬ Own (wipe σ vs) env2 a ∧ DenL g F2 vacc acc ∧
          Post (RE g) g W F H σ env Q (bindN (mLcL gm mt f vs (ds.drop (i + 1)) acc env2) fun y => .ok (.new (.list y.1), unlock o (backE e1 y.2 vs))),
          fun H' ⟨F3, e3, a1, a2, b1, b2, b3, b4, b5, b6, b7, b8, b9⟩ => ⟨ds.length - (i + 1), by omega, F3, e3, a1, a2, b1, b2, b3, b4, b5, b6, b7, b8, rfl, hl, b9⟩, fun x H3 y => ?_⟩
        obtain ⟨F3, gr, hdn⟩ := hy x H3 y
        have k3 := k2.grow gr
        have x3 : Ext F1 H1 (Own (wipe σ vs) (wipeE e1 vs)) F3 H3 (Own (wipe σ vs) env2) := x2.trans gr.ext
        have hD3 : H3 a = some (.lst vacc) := gr.keep _ _ hD
        have hF3 : F3 a = none := by
          cases q : F3 a with
          | none => rfl
          | some u =>
            have := gr.new a hF (by rw [q]; simp)
            rw [hD] at this; cases this
        have stay : ∀ {Fa Ha Fb Hb : Hp} {sa : St} {ea eb : Env}, Ext Fa Ha (Own sa ea) Fb Hb (Own sa eb) → Ha a = some (.lst vacc) → Fa a = none → ¬ Own sa ea a → Hb a = some (.lst vacc) ∧ Fb a = none ∧ ¬ Own sa eb a := fun {Fa Ha Fb Hb sa ea eb} xx h1 h2 h3 => by
          refine ⟨xx.keep _ _ h1 h3, ?_, fun z => ?_⟩
          · cases q : Fb a with
            | none => rfl
            | some u =>
              rcases xx.new a h2 (by rw [q]; simp) with z | z
              · rw [h1] at z; cases z
              · exact absurd z h3
          · rcases xx.own a z with z | z
            · rw [h1] at z; cases z
            · exact h3 z
        cases hgm : gm (.val d) env2 with
        | stuck => unfold mLcL at p2; rw [hgm] at p2; exact p2.elim
        | ex c dd e => unfold mLcL at p2; rw [hgm] at p2; exact p2.elim
        | ok z =>
          obtain ⟨fl, e3⟩ := z
          unfold mLcL at p2
          rw [hgm] at p2
          cases fl with
          | nx =>
            simp only [bindN_ok] at p2
            refine hw x (wipe σ vs) H3 (fun σ2 H2 => wipe σ2 vs = wipe σ vs → tt σ2 H2 _) _ ?_ fun σ2 H2 e q => ⟨e.trans wipe_wipe, q (e.trans wipe_wipe)⟩
            refine hg F3 H3 (wipe σ vs) env2 F3 H3 (wipe σ vs) env2 x (.val d) ⟨_, fun _ _ => True, fun _ _ => False, fun _ _ => False⟩ .refl k3 .refl hdn ?_
            rw [hgm]
            intro F4 H4 σ4 x4 k4 kp4 s4
            -- the test
            refine ht F4 H4 σ4 e3 _ k4 ?_
            have hD4 : H4 a = some (.lst vacc) ∧ F4 a = none ∧ ¬ Own σ4 e3 a := by
              refine ⟨x4.keep _ _ hD3 hO, ?_, fun z => ?_⟩
              · cases q : F4 a with
                | none => rfl
                | some u =>
                  rcases x4.new a hF3 (by rw [q]; simp) with z | z
                  · rw [hD3] at z; cases z
                  · exact absurd z hO
              · rcases x4.own a z with z | z
                · rw [hD3] at z; cases z
                · exact hO z
            have xs4 : Ext F1 H1 (Own (wipe σ vs) (wipeE e1 vs)) F4 H4 (Own σ4 e3) := x3.trans x4
            -- back to the turn's start
            have toW : ∀ {Fb Hb : Hp} {eb : Env}, Ext F1 H1 (Own (wipe σ vs) (wipeE e1 vs)) Fb Hb (Own σ4 eb) → EnvOk g Fb Hb σ4 eb → Keep (wipe σ vs) (wipeE e1 vs) σ4 eb → Ext F1 H1 (Own (wipe σ vs) (wipeE e1 vs)) Fb Hb (Own (wipe σ vs) (wipeE eb vs)) ∧ EnvOk g Fb Hb (wipe σ vs) (wipeE eb vs) ∧ Keep (wipe σ vs) (wipeE e1 vs) (wipe σ vs) (wipeE eb vs) := fun {Fb Hb eb} xx ok kk => by
              have ok' : EnvOk g Fb Hb (wipe σ4 vs) (wipeE eb vs) := ok.wipe
              rw [s4] at ok'
              refine ⟨⟨xx.sub, xx.keep, xx.dom, xx.new, fun b ⟨j, q⟩ => ?_⟩, ok', fun j kd dj e n => ?_⟩
              · rw [← s4] at q
                exact xx.own b ⟨j, (wipe_adr q).2⟩
              · obtain ⟨q1, d', q2, q3⟩ := kk j kd dj e n
                have hv : j ∉ vs := fun z => by
                  rw [wipeE_get] at e
                  by_cases hj : j ∈ vs ∧ j < e1.length
                  · rw [if_pos hj] at e; cases e
                  · rw [if_neg hj] at e; exact hj ⟨z, lt_of_get e⟩
                exact ⟨rfl, d', by rw [wipeE_get, if_neg (fun z => hv z.1)]; exact q2, q3⟩
            have kps4 : Keep (wipe σ vs) (wipeE e1 vs) σ4 e3 := kp2.trans kp4
            cases hmt : mt e3 with
            | stuck => rw [hmt] at p2; exact p2.elim
            | ex c dd e => rw [hmt] at p2; exact p2.elim
            | ok y' =>
              obtain ⟨b, e4⟩ := y'
              rw [hmt] at p2
              simp only [bindN_ok] at p2
              intro F5 H5 b' x5 k5 kp5 hb'
              have hb' : b' = b := hb'
              subst hb'
              obtain ⟨hD5, hF5, hO5⟩ := stay x5 hD4.1 hD4.2.1 hD4.2.2
              cases b' with
              | true =>
                simp only [if_true] at p2 ⊢
                refine he F5 H5 σ4 e4 _ k5 ?_
                cases hf : f e4 with
                | stuck => rw [hf] at p2; exact p2.elim
                | ex c dd e => rw [hf] at p2; exact p2.elim
                | ok x' =>
                  obtain ⟨r, e5⟩ := x'
                  rw [hf] at p2
                  simp only [bindN_ok] at p2
                  intro F6 H6 v x6 k6 kp6 rv
                  rcases frz_cases r e5 with ⟨du, e6, q⟩ | q
                  · rw [q] at p2
                    simp only [bindN_ok] at p2
                    obtain ⟨F7, x7, k7, kp7, hdu⟩ := RvOk.frz rv x6 k6 q
                    obtain ⟨hD7, hF7, hO7⟩ := stay x7 hD5 hF5 hO5
                    by_cases hz : acc.length < lineM
                    · rw [if_pos hz] at p2
                      obtain ⟨y1, y2, y3⟩ := toW ((xs4.trans x5).trans x7) k7 ((kps4.trans kp5).trans (kp6.trans kp7))
                      have hO7' : ¬ Own (wipe σ vs) (wipeE e6 vs) a := fun ⟨j, z⟩ => by
                        rw [← s4] at z
                        exact hO7 ⟨j, (wipe_adr z).2⟩
                      refine ⟨vacc, hD7, by rw [(hden.length : vacc.length = acc.length), lineM_eq]; exact hz, F7, wipeE e6 vs, acc ++ [du], vacc ++ [v], (wipe_id _).symm, ⟨y1.sub, fun b u q n => ?_, fun b q => ?_, y1.new, y1.own⟩, y3, y2.beside hF7 hO7', upd_same, hF7, hO7', ((hden.mono ((gr.sub.trans x4.sub).trans (x5.sub.trans x7.sub))).append (.cons hdu .nil)), p2⟩
                      · have nb : b ≠ a := ne_of_none q ha
                        rw [upd_ne nb]; exact y1.keep b u q n
                      · by_cases e : b = a
                        · subst e; rw [upd_same]; simp
                        · rw [upd_ne e]; exact y1.dom b q
                    · rw [if_neg hz] at p2; exact p2.elim
                  · rw [q] at p2; exact p2.elim
              | false =>
                simp only [Bool.false_eq_true, if_false] at p2 ⊢
                obtain ⟨y1, y2, y3⟩ := toW (xs4.trans x5) k5 (kps4.trans kp5)
                refine ⟨F5, wipeE e4 vs, acc, vacc, (wipe_id _).symm, y1, y3, y2, hD5, hF5, fun ⟨j, z⟩ => ?_, hden.mono ((gr.sub.trans x4.sub).trans x5.sub), p2⟩
                rw [← s4] at z
                exact hO5 ⟨j, (wipe_adr z).2⟩
          | _ => exact p2.elim
      · have e : i = ds.length := by omega
        have e0 : ds.drop i = [] := List.drop_eq_nil_of_le (by omega)
        rw [e0] at p2
        have p3 : Post (RE g) g W F H σ env Q (.ok (.new (.list acc), unlock o (backE e1 env2 vs))) := p2
        refine .inl ⟨its e, p3 F2 H2 (.ref a) (by rw [unlock_own]; exact x1.trans x2') (unlock_ok k2') (unlock_keep (kp1.trans kp2') lo) ⟨a, rfl, ?_, hF, ?_, .lst hD hden⟩⟩
        · cases q : H a with
          | none => rfl
          | some u => exact absurd ha (x1.dom a (by rw [q]; simp))
        · rw [unlock_own]
          intro ⟨j, z⟩
          exact hO ⟨j, by rw [w2]; exact back_adr hp z⟩
    · simp only [Res.ok_bind] at p; rw [if_neg hpl] at p; exact p.elim
end DL
namespace DL
open PySem PySem.Spec L2
variable {g : G} {W : WX}

/-! ### a def's promise -/
abbrev FM := Env → Res (Rv × Env)
def fnSp (g : G) (f : FM) : Sp := fun vs H Q E => ∃ F env, EnvOk g F H (vs.map some) env ∧ Post (RE g) g (fun c d _ H => E c d H) F H (vs.map some) env Q (f env)
structure FnG (P : Program) (w : World) (K : PySem.W.Frag) (mg : Str → Option Value) (base : Heap) (k : Nat) (f : Addr) (fd : FuncData) (ps : List Str) (fm : FM) : Prop where
  len : ∀ env, fm env ≠ .stuck → env.length = ps.length
  run : ∀ (A : Around) (outer : List PySem.Env) (s : Shared) (H : Hp) (args : Args) (us : List Value) (vs : List V) (Q : VK) (E : XK), Room k A → A.guards = some [] → Env0 P w K mg base A outer s H →
    BindsTo s fd args (ps.zip us) → Vals vs us → fnSp ⟨K, mg⟩ fm vs H Q E → codeAny (model P w) A (.call (.ref f) args) (CR (L2.CX P w) outer P w H s Q E) s
theorem FnG.mono {P : Program} {w : World} {K : PySem.W.Frag} {mg : Str → Option Value} {base : Heap} {j k : Nat} {f : Addr} {fd : FuncData} {ps : List Str} {fm : FM} (F : FnG P w K mg base j f fd ps fm) (h : j ≤ k) : FnG P w K mg base k f fd ps fm :=
  ⟨F.len, fun A outer s H args us vs Q E hr => F.run A outer s H args us vs Q E (hr.mono h)⟩
theorem fnSp_len {f : FM} {n : Nat} (hl : ∀ env, f env ≠ .stuck → env.length = n) {vs : List V} {H : Hp} {Q : VK} {E : XK} (h : fnSp g f vs H Q E) : vs.length = n := by
  obtain ⟨F, env, k, p⟩ := h
  have := k.len
  rw [List.length_map] at this
  rw [this]
  exact hl env fun e => by rw [e] at p; exact p

/-! ### the body -/
def argOk : Sl → Bool
  | .fz _ => true
  | .ow .pn _ => true
  | .ow .lk _ => true
  | _ => false
def outEnv : Env → Env → Env
  | s :: r, t :: u => (match s with | .ow _ _ => t | s => s) :: outEnv r u
  | _, _ => []
def finR (env e : Env) : Rv → Res (Rv × Env)
  | .val d => .ok (.val d, outEnv env e)
  | .new d => .ok (.new d, outEnv env e)
  | .sl i => match e[i]? with
    | some (.fz d) => .ok (.val d, outEnv env e)
    | some (.ow .fr d) => .ok (.new d, outEnv env e)
    | _ => .stuck
def chk {α : Type} (env e : Env) (r : Res α) : Res α := if env.length ≤ e.length then r else .stuck
def fin (env : Env) : Res (Fl × Env) → Res (Rv × Env)
  | .ok (.nx, e) => chk env e (.ok (.val .none, outEnv env e))
  | .ok (.rt r, e) => chk env e (finR env e r)
  | .ex c d e => chk env e (.ex c d (outEnv env e))
  | _ => .stuck
def mDef (np nl : Nat) (m : MS) : FM := fun env => if env.length = np ∧ env.all argOk = true then fin env (m (env ++ List.replicate (nl - np) .no)) else .stuck
theorem outEnv_get {s : Sl} {i : Nat} : ∀ {env e : Env}, env.length ≤ e.length → (outEnv env e)[i]? = some s → (∃ k d, env[i]? = some (.ow k d) ∧ e[i]? = some s) ∨ ((∀ k d, s ≠ .ow k d) ∧ env[i]? = some s) := by
  intro env
  induction env generalizing i with
  | nil => intro e _ h; simp [outEnv] at h
  | cons a r ih =>
    intro e hl h
    cases e with
    | nil => simp at hl
    | cons t u =>
      cases i with
      | zero =>
        simp only [outEnv, List.getElem?_cons_zero, Option.some.injEq] at h
        cases a with
        | no => subst h; exact .inr ⟨fun _ _ z => (nomatch z), by simp⟩
        | fz d => subst h; exact .inr ⟨fun _ _ z => (nomatch z), by simp⟩
        | ow k d => subst h; exact .inl ⟨k, d, by simp, by simp⟩
      | succ i =>
        simp only [outEnv, List.getElem?_cons_succ] at h ⊢
        exact ih (by simpa using hl) h
theorem outEnv_length : ∀ {env e : Env}, env.length ≤ e.length → (outEnv env e).length = env.length
  | [], _, _ => by simp [outEnv]
  | _ :: _, [], h => by simp at h
  | a :: r, t :: u, h => by simp [outEnv, outEnv_length (env := r) (e := u) (by simpa using h)]
section
variable {F H F' H' : Hp} {vs : List V} {env e : Env} {σ' : St} {n : Nat}
theorem get_app {α : Type} {l m : List α} {i : Nat} {x : α} (h : l[i]? = some x) : (l ++ m)[i]? = some x := by rw [List.getElem?_append_left (lt_of_get h)]; exact h
theorem app_none {env : Env} {n i : Nat} {s : Sl} (h : (env ++ List.replicate n .no)[i]? = some s) : env[i]? = some s ∨ s = .no := by
  by_cases e : i < env.length
  · rw [List.getElem?_append_left e] at h; exact .inl h
  · rw [List.getElem?_append_right (by omega), List.getElem?_replicate] at h
    split at h
    · cases h; exact .inr rfl
    · cases h
theorem start_adr {i : Nat} {a : Addr} {m : Nat} (hm : vs.length = env.length) : Adr (vs.map some ++ List.replicate m none) (env ++ List.replicate n .no) i a ↔ Adr (vs.map some) env i a := by
  constructor
  · rintro ⟨⟨k, d, h1⟩, h2⟩
    rcases app_none h1 with q | q
    · refine ⟨⟨k, d, q⟩, ?_⟩
      have hi : i < (vs.map some).length := by rw [List.length_map, hm]; exact lt_of_get q
      rw [List.getElem?_append_left hi] at h2; exact h2
    · cases q
  · rintro ⟨⟨k, d, h1⟩, h2⟩
    exact ⟨⟨k, d, get_app h1⟩, get_app h2⟩
theorem start_own {m : Nat} (hm : vs.length = env.length) : Own (vs.map some ++ List.replicate m none) (env ++ List.replicate n .no) = Own (vs.map some) env := by
  funext a
  exact propext ⟨fun ⟨i, h⟩ => ⟨i, (start_adr hm).mp h⟩, fun ⟨i, h⟩ => ⟨i, (start_adr hm).mpr h⟩⟩
theorem EnvOk.start (k : EnvOk g F H (vs.map some) env) : EnvOk g F H (vs.map some ++ List.replicate n none) (env ++ List.replicate n .no) := by
  have hm : vs.length = env.length := by have := k.len; rwa [List.length_map] at this
  refine ⟨by simp [hm], k.sub, fun i s e => ?_, fun i j a h1 h2 => k.dis i j a ((start_adr hm).mp h1) ((start_adr hm).mp h2)⟩
  by_cases hi : i < env.length
  · rw [List.getElem?_append_left hi] at e
    obtain ⟨o, h1, h2⟩ := k.sl i s e
    exact ⟨o, get_app h1, h2⟩
  · have hl := lt_of_get e
    rw [List.length_append, List.length_replicate] at hl
    rcases app_none e with q | q
    · exact absurd (lt_of_get q) hi
    · subst q
      exact ⟨none, by rw [List.getElem?_append_right (by rw [List.length_map, hm]; omega), List.getElem?_replicate, if_pos (by rw [List.length_map, hm]; omega)], trivial⟩
/-- the caller's look at what a body has left -/
theorem body_out (k : EnvOk g F H (vs.map some) env) (ha : env.all argOk = true) (x : Ext F H (Own (vs.map some) env) F' H' (Own σ' e)) (k' : EnvOk g F' H' σ' e) (kp : Keep (vs.map some ++ List.replicate n none) (env ++ List.replicate n .no) σ' e) (hl : env.length ≤ e.length) :
    Ext F H (Own (vs.map some) env) F' H' (Own (vs.map some) (outEnv env e)) ∧ EnvOk g F' H' (vs.map some) (outEnv env e) ∧ Keep (vs.map some) env (vs.map some) (outEnv env e) := by
  have arg : ∀ i s, env[i]? = some s → argOk s = true := fun i s h => List.all_eq_true.mp ha s (List.mem_of_getElem? h)
  have nf : ∀ (i : Nat) (k : Kd) (d : D), env[i]? = some (Sl.ow k d) → k ≠ .fr := fun i k d h e => by
    subst e; have := arg i _ h; cases this
  have pn : ∀ (i : Nat) (k : Kd) (d : D), env[i]? = some (Sl.ow k d) → σ'[i]? = (vs.map some)[i]? ∧ ∃ d', e[i]? = some (Sl.ow k d') ∧ (k = .lk → d' = d) := fun i kd d h => by
    obtain ⟨q1, d', q2, q3⟩ := kp i kd d (get_app h) (nf i kd d h)
    have hi : i < (vs.map some).length := by rw [k.len]; exact lt_of_get h
    rw [List.getElem?_append_left hi] at q1
    exact ⟨q1, d', q2, q3⟩
  have adr : ∀ i a, Adr (vs.map some) (outEnv env e) i a → Adr (vs.map some) env i a ∧ Adr σ' e i a := fun i a ⟨⟨kd, d, h1⟩, h2⟩ => by
    rcases outEnv_get hl h1 with ⟨k0, d0, q1, q2⟩ | ⟨q1, q2⟩
    · obtain ⟨y1, d', y2, _⟩ := pn i k0 d0 q1
      exact ⟨⟨⟨_, _, q1⟩, h2⟩, ⟨⟨_, _, y2⟩, by rw [y1]; exact h2⟩⟩
    · exact absurd rfl (q1 kd d)
  refine ⟨⟨x.sub, x.keep, x.dom, x.new, fun b ⟨i, h⟩ => .inr ⟨i, (adr i b h).1⟩⟩, ⟨by rw [outEnv_length hl]; exact k.len, k'.sub, fun i s h => ?_, fun i j a h1 h2 => k.dis i j a (adr i a h1).1 (adr j a h2).1⟩, fun i kd d h nk => ?_⟩
  · rcases outEnv_get hl h with ⟨k0, d0, q1, q2⟩ | ⟨q1, q2⟩
    · obtain ⟨y1, d', y2, _⟩ := pn i k0 d0 q1
      obtain ⟨o, h1, h2⟩ := k'.sl i s q2
      exact ⟨o, by rw [← y1]; exact h1, h2⟩
    · obtain ⟨o, h1, h2⟩ := k.sl i s q2
      refine ⟨o, h1, ?_⟩
      have := arg i _ q2
      cases s with
      | no => trivial
      | fz d => obtain ⟨v, h3, h4⟩ := h2; exact ⟨v, h3, h4.mono x.sub⟩
      | ow kd d => exact absurd rfl (q1 kd d)
  · obtain ⟨y1, d', y2, y3⟩ := pn i kd d h
    refine ⟨rfl, d', ?_, y3⟩
    have hi : i < (outEnv env e).length := by rw [outEnv_length hl]; exact lt_of_get h
    have e1 : (outEnv env e)[i]? = some ((outEnv env e)[i]) := List.getElem?_eq_getElem hi
    rcases outEnv_get hl e1 with ⟨k0, d0, q1, q2⟩ | ⟨q1, q2⟩
    · rw [e1, ← q2, y2]
    · rw [h] at q2
      exact absurd (Option.some.inj q2).symm (q1 kd d)
theorem keep_len {σ : St} {env : Env} (k : EnvOk g F H σ env) (k' : EnvOk g F' H' σ' e) (h : σ.length = σ'.length) : env.length = e.length := by rw [← k.len, ← k'.len, h]
end
/-- a body's reading from the promise -/
theorem body_post {n : Nat} {m : MS} {vs : List V} {F H : Hp} {env : Env} {Q : VK} {E : XK} (k : EnvOk g F H (vs.map some) env) (ha : env.all argOk = true) (p : Post (RE g) g (fun c d _ H => E c d H) F H (vs.map some) env Q (fin env (m (env ++ List.replicate n .no)))) {t : TS} (ht : GoodS g (fun c d _ H => E c d H) t m) :
    t { nx := fun _ H' => Q .non H', rt := Q } (vs.map some ++ List.replicate n none) H := by
  have hm : vs.length = env.length := by have := k.len; rwa [List.length_map] at this
  have nf : ∀ (i : Nat) (k : Kd) (d : D), env[i]? = some (Sl.ow k d) → k ≠ .fr := fun i k d h e => by
    subst e; have := List.all_eq_true.mp ha _ (List.mem_of_getElem? h); cases this
  refine ht F H _ _ _ (k.start (n := n)) ?_
  cases q : m (env ++ List.replicate n .no) with
  | stuck => rw [q] at p; exact p.elim
  | ex c d e =>
    rw [q] at p
    intro F' H' σ' dd C v x k' kp a1 a2 a3
    rw [start_own hm] at x
    by_cases hl : env.length ≤ e.length
    · have p : Post (RE g) g (fun c d _ H => E c d H) F H (vs.map some) env Q (.ex c d (outEnv env e)) := by simpa [fin, chk, hl] using p
      obtain ⟨y1, y2, y3⟩ := body_out k ha x k' kp hl
      exact p F' H' dd C v y1 y2 y3 a1 a2 a3
    · simp [fin, chk, hl] at p; exact p.elim
  | ok z =>
    obtain ⟨f, e⟩ := z
    rw [q] at p
    intro F' H' σ' x k' kp
    rw [start_own hm] at x
    cases f with
    | bk => exact p.elim
    | ct => exact p.elim
    | nx =>
      by_cases hl : env.length ≤ e.length
      · have p : Post (RE g) g (fun c d _ H => E c d H) F H (vs.map some) env Q (.ok (.val .none, outEnv env e)) := by simpa [fin, chk, hl] using p
        obtain ⟨y1, y2, y3⟩ := body_out k ha x k' kp hl
        exact p F' H' .non y1 y2 y3 .non
      · simp [fin, chk, hl] at p; exact p.elim
    | rt r =>
      by_cases hl : env.length ≤ e.length
      · have p : Post (RE g) g (fun c d _ H => E c d H) F H (vs.map some) env Q (finR env e r) := by simpa [fin, chk, hl] using p
        obtain ⟨y1, y2, y3⟩ := body_out k ha x k' kp hl
        intro v rv
        cases r with
        | val d => exact p F' H' v y1 y2 y3 rv
        | new d =>
          obtain ⟨a, h1, h2, h3, h4, h5⟩ := rv
          refine p F' H' v y1 y2 y3 ⟨a, h1, h2, h3, fun z => ?_, h5⟩
          rcases y1.own a z with z' | z'
          · obtain ⟨i, hi⟩ := z
            obtain ⟨⟨kd, d2, w1⟩, w2⟩ := hi
            obtain ⟨o, u1, u2⟩ := y2.sl i _ w1
            rw [w2] at u1; cases u1
            obtain ⟨b, u3, u4, u5⟩ := u2
            cases u3
            -- pinned: its slot's own object, so one of the body's
            have hs : Own σ' e a := by
              rcases outEnv_get hl w1 with ⟨k0, d0, q1, q2⟩ | ⟨q1, q2⟩
              · obtain ⟨z1, d', z2, _⟩ := kp i k0 d0 (get_app q1) (nf i k0 d0 q1)
                have hi : i < (vs.map some).length := by rw [k.len]; exact lt_of_get q1
                rw [List.getElem?_append_left hi] at z1
                exact ⟨i, ⟨_, _, z2⟩, by rw [z1]; exact w2⟩
              · exact absurd rfl (q1 kd d2)
            exact absurd hs h4
          · obtain ⟨i, hi⟩ := z'
            obtain ⟨⟨kd, d2, w1⟩, w2⟩ := hi
            obtain ⟨z1, d', z2, _⟩ := kp i kd d2 (get_app w1) (nf i kd d2 w1)
            have hi : i < (vs.map some).length := by rw [k.len]; exact lt_of_get w1
            rw [List.getElem?_append_left hi] at z1
            exact absurd ⟨i, ⟨_, _, z2⟩, by rw [z1]; exact w2⟩ h4
        | sl i =>
          have rv : σ'[i]? = some (some v) := rv
          unfold finR at p
          simp only at p
          split at p
          · rename_i d q'
            obtain ⟨o, w1, v', w2, w3⟩ := k'.sl i _ q'
            rw [rv] at w1; cases w1; cases w2
            exact p F' H' v y1 y2 y3 w3
          · rename_i d q'
            obtain ⟨o, w1, a, w2, w3, w4⟩ := k'.sl i _ q'
            rw [rv] at w1; cases w1; cases w2
            have no : ¬ Own (vs.map some) (outEnv env e) a := fun ⟨j, hj⟩ => by
              obtain ⟨⟨kd, d2, u1⟩, u2⟩ := hj
              rcases outEnv_get hl u1 with ⟨k0, d0, q1, q2⟩ | ⟨q1, q2⟩
              · obtain ⟨z1, d', z2, _⟩ := kp j k0 d0 (get_app q1) (nf j k0 d0 q1)
                have hj : j < (vs.map some).length := by rw [k.len]; exact lt_of_get q1
                rw [List.getElem?_append_left hj] at z1
                have e2 := k'.dis i j a ⟨⟨_, _, q'⟩, rv⟩ ⟨⟨_, _, z2⟩, by rw [z1]; exact u2⟩
                subst e2
                rw [q'] at z2
                have z3 := Option.some.inj z2
                injection z3 with z4 _
                exact nf i k0 d0 q1 z4.symm
              · exact absurd rfl (q1 kd d2)
            refine p F' H' (.ref a) y1 y2 y3 ⟨a, rfl, ?_, w3, no, w4⟩
            rcases x.own a ⟨i, ⟨_, _, q'⟩, rv⟩ with z | ⟨j, hj⟩
            · exact z
            · obtain ⟨⟨kd, d2, u1⟩, u2⟩ := hj
              obtain ⟨z1, d', z2, _⟩ := kp j kd d2 (get_app u1) (nf j kd d2 u1)
              have hj : j < (vs.map some).length := by rw [k.len]; exact lt_of_get u1
              rw [List.getElem?_append_left hj] at z1
              have e2 := k'.dis i j a ⟨⟨_, _, q'⟩, rv⟩ ⟨⟨_, _, z2⟩, by rw [z1]; exact u2⟩
              subst e2
              rw [q'] at z2
              have z3 := Option.some.inj z2
              injection z3 with z4 _
              exact absurd z4.symm (nf i kd d2 u1)
          · exact p.elim
      · simp [fin, chk, hl] at p; exact p.elim
end DL
namespace DL
open PySem PySem.Spec L2
open PyProof.Rows (envOfC)

section
variable {P : Program} {w : World} {K : PySem.W.Frag} {mg : Str → Option Value} {base : Heap}
theorem mDef_len {np nl : Nat} {m : MS} (env : Env) (h : mDef np nl m env ≠ .stuck) : env.length = np := by
  unfold mDef at h
  by_cases e : env.length = np ∧ env.all argOk = true
  · exact e.1
  · rw [if_neg e] at h; exact absurd rfl h
/-- a def of the text by its body -/
theorem fng_of {x qual : Str} {st : Stmt} {f : Addr} {fd : FuncData} {N ps : List Str} {k : Nat} {m : MS} (Fu : Fun K x qual st f fd) (S : FnScope N ps (defScope st))
    (hb : ∀ (cdv : Value) (A : Around) (outer : List PySem.Env) (s : Shared) (H : Hp) (E : XK), Room k (A.deeper (envOfC qual (defScope st) s.heap.objs.size f cdv)) → (A.deeper (envOfC qual (defScope st) s.heap.objs.size f cdv)).guards = some [] →
      DSs (cxOf (L2.CX P w) P w K mg base N qual (defScope st) f cdv A outer s H E) (fun c d _ H => E c d H) (defBody st) m) : FnG P w K mg base (k + 1) f fd ps (mDef ps.length N.length m) := by
  obtain ⟨oc, od, kV, doc, pm, an, cdv, ct, osl, rfl, lk, hcd⟩ := Fu.ex
  refine ⟨mDef_len, fun A outer s H args us vs Q E hr hgd e0 hbd r hsp => ?_⟩
  have hl := fnSp_len (g := ⟨K, mg⟩) mDef_len hsp
  obtain ⟨F, env, ek, p⟩ := hsp
  have h0 : ∀ b o, base.get? b = some o → s.heap.get? b = some o := fun b o e => (e0.bs b o e).1
  have KX : K.In s.heap := e0.mod.kin.keeps h0
  have lim : s.heap.NoLimit := e0.mod.nolimit.keeps h0
  have hin : ∀ y ∈ ps.zip us, (defScope st).names.lookup y.1 = some .local ∨ ((defScope st).names.lookup y.1 = some .cell ∧ ((cellsFrom (s.heap.objs.size + 1) (defScope st).names []).lookup y.1).isSome = true) := by
    rintro ⟨n, v⟩ hy
    exact (S.par n (List.of_mem_zip hy).1).imp id fun q => ⟨q, PySem.W.cellsFrom_some _ _ _ (.inl q)⟩
  refine codeAny_call_function hr.depth (KX _ _ lk) rfl S.co S.gen rfl (PySem.W.codeRec_of KX hcd) (hbd _ _ _ _ ?_)
  refine wpAny_newFunctionEnv_cells S.kind hin fun env' he s1 x => ?_
  subst he
  refine ⟨lim.keeps x.toInCall.keep, codeAny_func ?_⟩
  obtain ⟨t, ht, hg⟩ := (hb cdv A outer s H E (hr.deeper _) hgd).ex
  have len1 : env.length = ps.length := by rw [← hl]; have := ek.len; rw [List.length_map] at this; exact this.symm
  have arg1 : env.all argOk = true := by
    unfold mDef at p
    by_cases e : env.length = ps.length ∧ env.all argOk = true
    · exact e.2
    · rw [if_neg e] at p; exact p.elim
  have q : t { nx := fun _ H' => Q .non H', rt := Q } (L2.start N vs) H := by
    unfold mDef at p
    rw [if_pos ⟨len1, arg1⟩] at p
    have := body_post ek arg1 p hg
    unfold L2.start
    rw [hl]
    exact this
  have I := inv_start (CX := L2.CX P w) (E := E) (qual := qual) (f := f) (cd := cdv) S hr.hd e0 hl r x
  refine wpAny_mono (ht.run [] s1 (L2.start N vs) H _ I q) (fun fl s' hs => ?_) fun e s' hs => hs
  cases fl with
  | ret u =>
    obtain ⟨v, σ', H', J, rv, q⟩ := hs
    exact ⟨v, H', J.os, J.bare, J.base, J.hok, rv, q⟩
  | next =>
    obtain ⟨σ', H', J, q⟩ := hs
    exact ⟨V.non, H', J.os, J.bare, J.base, J.hok, rfl, q⟩
  | brk => obtain ⟨_, _, _, q⟩ := hs; exact q.elim
  | cont => obtain ⟨_, _, _, q⟩ := hs; exact q.elim
end

/-! ### calls -/
variable {g : G} {W : WX}
inductive AV
  | d (d : D)
  | s (i : Nat)
  | l (i : Nat)
/-- how an argument is handed over: for good, to be changed, to be looked at -/
inductive Md | c | p | l
def AvOk (g : G) (F : Hp) (σ : St) (v : V) : AV → Prop
  | .d d => Den g F v d
  | .s i => σ[i]? = some (some v)
  | .l i => σ[i]? = some (some v)
def evAs : List Md → List ME → Env → Res (List AV × Env)
  | [], [], env => .ok ([], env)
  | m :: ms, f :: fs, env => f env >>= fun z =>
    match m with
    | .p => (match z.1 with
      | .sl i => evAs ms fs z.2 >>= fun x => .ok (.s i :: x.1, x.2)
      | _ => .stuck)
    | .l => (match z.1 with
      | .sl i => evAs ms fs z.2 >>= fun x => .ok (.l i :: x.1, x.2)
      | .val d => evAs ms fs z.2 >>= fun x => .ok (.d d :: x.1, x.2)
      | _ => .stuck)
    | .c => z.1.frz z.2 >>= fun y => evAs ms fs y.2 >>= fun x => .ok (.d y.1 :: x.1, x.2)
  | _, _, _ => .stuck
def RAs (g : G) : RelB (List V) (List AV) := fun _ F _ σ _ vs as => Paired (AvOk g F σ) vs as
theorem RAs.early : Early (RAs g) := ⟨fun _ _ _ _ _ _ _ _ _ h => h⟩
theorem AvOk.mono {F F' : Hp} {σ : St} {v : V} {a : AV} (s : Sub F F') (h : AvOk g F σ v a) : AvOk g F' σ v a := by
  cases a with
  | d d => exact Den.mono s h
  | s i => exact h
  | l i => exact h
theorem AllE.as {t : TA} {fs : List ME} (h : AllE g W t fs) : ∀ ms, Good (RAs g) g W t (evAs ms fs) := by
  induction h with
  | nil =>
    intro ms F H σ env Q k p
    cases ms with
    | nil => exact p F H [] .refl k .refl .nil
    | cons => exact p.elim
  | @cons t tr f fs hf hr ih =>
    intro ms F H σ env Q k p
    cases ms with
    | nil => exact (hf F H σ env _ k (by
        exact p.elim))
    | cons m ms =>
      cases m with
      | p =>
        refine hf F H σ env _ k (Post.bind (R := RE g) RAs.early (k := fun z => (match z.1 with
          | .sl i => evAs ms fs z.2 >>= fun x => .ok (.s i :: x.1, x.2)
          | _ => .stuck)) p fun r1 e1 F1 H1 v x1 k1 kp1 rv1 p1 => ?_)
        cases r1 with
        | sl i =>
          have rv1 : σ[i]? = some (some v) := rv1
          refine ih ms F1 H1 σ e1 _ k1 (Post.bind (R := RAs g) RAs.early p1 fun as e2 F2 H2 vs x2 k2 kp2 has p2 => ?_)
          exact p2 F2 H2 (v :: vs) .refl k2 .refl (.cons rv1 has)
        | _ => exact p1.elim
      | l =>
        refine hf F H σ env _ k (Post.bind (R := RE g) RAs.early (k := fun z => (match z.1 with
          | .sl i => evAs ms fs z.2 >>= fun x => .ok (.l i :: x.1, x.2)
          | .val d => evAs ms fs z.2 >>= fun x => .ok (.d d :: x.1, x.2)
          | _ => .stuck)) p fun r1 e1 F1 H1 v x1 k1 kp1 rv1 p1 => ?_)
        cases r1 with
        | sl i =>
          have rv1 : σ[i]? = some (some v) := rv1
          refine ih ms F1 H1 σ e1 _ k1 (Post.bind (R := RAs g) RAs.early p1 fun as e2 F2 H2 vs x2 k2 kp2 has p2 => ?_)
          exact p2 F2 H2 (v :: vs) .refl k2 .refl (.cons rv1 has)
        | val d =>
          have rv1 : Den g F1 v d := rv1
          refine ih ms F1 H1 σ e1 _ k1 (Post.bind (R := RAs g) RAs.early p1 fun as e2 F2 H2 vs x2 k2 kp2 has p2 => ?_)
          exact p2 F2 H2 (v :: vs) .refl k2 .refl (.cons (Den.mono x2.sub rv1) has)
        | _ => exact p1.elim
      | c =>
        have p' : Post (RAs g) g W F H σ env Q (f env >>= fun z => z.1.frz z.2 >>= fun y => evAs ms fs y.2 >>= fun x => .ok (.d y.1 :: x.1, x.2)) := p
        refine hf F H σ env _ k (Post.bindF RAs.early p' fun d e2 F2 H1 v x2 k2 kp2 hd p2 => ?_)
        refine ih ms F2 H1 σ e2 _ k2 (Post.bind (R := RAs g) RAs.early p2 fun as e3 F3 H3 vs x3 k3 kp3 has p3 => ?_)
        exact p3 F3 H3 (v :: vs) .refl k3 .refl (.cons (Den.mono x3.sub hd) has)
/-- the callee's slots -/
def argSl (env : Env) : AV → Option Sl
  | .d d => some (.fz d)
  | .s i => match env[i]? with
    | some (.fz d) => some (.fz d)
    | some (.ow .fr d) => some (.ow .pn d)
    | some (.ow .pn d) => some (.ow .pn d)
    | _ => none
  | .l i => match env[i]? with
    | some (.fz d) => some (.fz d)
    | some (.ow _ d) => some (.ow .lk d)
    | _ => none
/-- the slot that an argument looks at -/
def AV.at? : AV → Option Nat
  | .d _ => none
  | .s i => some i
  | .l i => some i
def mkArgs (env : Env) : List AV → Option Env
  | [] => some []
  | a :: as => match argSl env a, mkArgs env as with
    | some s, some r => some (s :: r)
    | _, _ => none
def slotsOf : List AV → List Nat
  | [] => []
  | .d _ :: r => slotsOf r
  | .s i :: r => i :: slotsOf r
  | .l i :: r => i :: slotsOf r
def noDup : List Nat → Bool
  | [] => true
  | i :: r => !r.contains i && noDup r
/-- what a callee has left in the slots -/
def putBack : List AV → Env → Env → Env
  | .s i :: as, t :: ts, env => (match env[i]?, t with
    | some (.ow k _), .ow _ d => (putBack as ts env).set i (.ow k d)
    | _, _ => putBack as ts env)
  | .l i :: as, t :: ts, env => (match env[i]?, t with
    | some (.ow k _), .ow _ d => (putBack as ts env).set i (.ow k d)
    | _, _ => putBack as ts env)
  | .d _ :: as, _ :: ts, env => putBack as ts env
  | _, _, env => env
def mCallF (fm : FM) (ms : List Md) (fs : List ME) : ME := fun env => evAs ms fs env >>= fun z =>
  if noDup (slotsOf z.1) = true then match mkArgs z.2 z.1 with
    | some ae => match fm ae with
      | .ok (.val d, ae') => .ok (.val d, putBack z.1 ae' z.2)
      | .ok (.new d, ae') => .ok (.new d, putBack z.1 ae' z.2)
      | .ok (.sl _, _) => .stuck
      | .ex c d ae' => .ex c d (putBack z.1 ae' z.2)
      | .stuck => .stuck
    | none => .stuck
  else .stuck
theorem mkArgs_get {env : Env} : ∀ {as : List AV} {ae : Env} {j : Nat}, mkArgs env as = some ae → ∀ {s : Sl}, ae[j]? = some s → ∃ a, as[j]? = some a ∧ argSl env a = some s
  | [], ae, j, h, s, e => by cases h; simp at e
  | a :: as, ae, j, h, s, e => by
    unfold mkArgs at h
    split at h
    · rename_i s' r q1 q2
      cases h
      cases j with
      | zero => simp at e; subst e; exact ⟨a, by simp, q1⟩
      | succ j => exact (mkArgs_get (j := j) q2 (by simpa using e)).imp fun a h => ⟨by simpa using h.1, h.2⟩
    · cases h
theorem mkArgs_len {env : Env} : ∀ {as : List AV} {ae : Env}, mkArgs env as = some ae → ae.length = as.length
  | [], ae, h => by cases h; rfl
  | a :: as, ae, h => by
    unfold mkArgs at h
    split at h
    · rename_i s' r q1 q2
      cases h
      simp [mkArgs_len q2]
    · cases h
theorem paired_len {α β : Type} {R : α → β → Prop} : ∀ {l : List α} {m : List β}, Paired R l m → l.length = m.length
  | _, _, .nil => rfl
  | _, _, .cons _ t => by simp [paired_len t]
theorem paired_get {α β : Type} {R : α → β → Prop} : ∀ {l : List α} {m : List β} {i : Nat} {y : β}, Paired R l m → m[i]? = some y → ∃ x, l[i]? = some x ∧ R x y
  | _, _, 0, y, .cons h _, e => by simp at e; subst e; exact ⟨_, by simp, h⟩
  | _, _, i + 1, y, .cons _ t, e => by
    obtain ⟨x, h1, h2⟩ := paired_get (i := i) t (by simpa using e)
    exact ⟨x, by simpa using h1, h2⟩
  | _, _, _, _, .nil, e => by simp at e
theorem slots_inj : ∀ {as : List AV} {j1 j2 i : Nat}, noDup (slotsOf as) = true → as[j1]?.bind AV.at? = some i → as[j2]?.bind AV.at? = some i → j1 = j2 := by
  have mem : ∀ {as : List AV} {j i : Nat}, as[j]?.bind AV.at? = some i → i ∈ slotsOf as := by
    intro as
    induction as with
    | nil => intro j i h; simp at h
    | cons a as ih =>
      intro j i h
      cases j with
      | zero =>
        simp only [List.getElem?_cons_zero, Option.bind_some] at h
        cases a with
        | d d => cases h
        | s n => cases h; simp [slotsOf]
        | l n => cases h; simp [slotsOf]
      | succ j =>
        have := ih (j := j) (by simpa using h)
        cases a <;> simp [slotsOf, this]
  intro as
  induction as with
  | nil => intro j1 j2 i _ h; simp at h
  | cons a as ih =>
    intro j1 j2 i nd h1 h2
    have nd' : noDup (slotsOf as) = true ∧ ∀ i, a.at? = some i → i ∉ slotsOf as := by
      cases a with
      | d d => exact ⟨nd, fun i e => by cases e⟩
      | s n =>
        have nd2 : (!(slotsOf as).contains n && noDup (slotsOf as)) = true := nd
        simp only [Bool.and_eq_true, Bool.not_eq_true', List.contains_eq_mem, decide_eq_false_iff_not] at nd2
        exact ⟨nd2.2, fun i e => by cases e; exact nd2.1⟩
      | l n =>
        have nd2 : (!(slotsOf as).contains n && noDup (slotsOf as)) = true := nd
        simp only [Bool.and_eq_true, Bool.not_eq_true', List.contains_eq_mem, decide_eq_false_iff_not] at nd2
        exact ⟨nd2.2, fun i e => by cases e; exact nd2.1⟩
    cases j1 with
    | zero =>
      cases j2 with
      | zero => rfl
      | succ j2 => simp only [List.getElem?_cons_zero, Option.bind_some] at h1; exact absurd (mem (j := j2) (by simpa using h2)) (nd'.2 i h1)
    | succ j1 =>
      cases j2 with
      | zero => simp only [List.getElem?_cons_zero, Option.bind_some] at h2; exact absurd (mem (j := j1) (by simpa using h1)) (nd'.2 i h2)
      | succ j2 => rw [ih nd'.1 (j1 := j1) (j2 := j2) (i := i) (by simpa using h1) (by simpa using h2)]
theorem putBack_len : ∀ (as : List AV) (ts env : Env), (putBack as ts env).length = env.length
  | [], _, _ => by simp [putBack]
  | .d _ :: as, [], _ => by simp [putBack]
  | .s _ :: as, [], _ => by simp [putBack]
  | .d _ :: as, _ :: ts, env => by unfold putBack; exact putBack_len as ts env
  | .s i :: as, t :: ts, env => by
    unfold putBack
    split
    · rw [List.length_set]; exact putBack_len as ts env
    · exact putBack_len as ts env
  | .l _ :: as, [], _ => by simp [putBack]
  | .l i :: as, t :: ts, env => by
    unfold putBack
    split
    · rw [List.length_set]; exact putBack_len as ts env
    · exact putBack_len as ts env
theorem putBack_one {a : AV} {as : List AV} {t : Sl} {ts env : Env} (n : Nat) (e : a.at? = some n) : putBack (a :: as) (t :: ts) env = (match env[n]?, t with
          | some (.ow k _), .ow _ d => (putBack as ts env).set n (.ow k d)
          | _, _ => putBack as ts env) := by
  cases a with
  | d d => cases e
  | s m => cases e; rfl
  | l m => cases e; rfl
/-- a slot behind a call: as it was, or what the callee left -/
theorem putBack_get : ∀ {as : List AV} {ts env : Env} {i : Nat} {s : Sl}, (putBack as ts env)[i]? = some s → (env[i]? = some s ∧ ∀ (j : Nat) (k1 : Kd) (d : D), as[j]?.bind AV.at? = some i → ts[j]? = some (Sl.ow k1 d) → ∀ (k : Kd) (d2 : D), env[i]? ≠ some (Sl.ow k d2)) ∨ ∃ (j : Nat) (k k1 : Kd) (d d0 : D), as[j]?.bind AV.at? = some i ∧ ts[j]? = some (Sl.ow k1 d) ∧ env[i]? = some (Sl.ow k d0) ∧ s = Sl.ow k d := by
  intro as
  induction as with
  | nil => intro ts env i s h; simp [putBack] at h; exact .inl ⟨h, fun j k1 d q => by simp at q⟩
  | cons a as ih =>
    intro ts env i s h
    cases ts with
    | nil =>
      have : putBack (a :: as) [] env = env := by cases a <;> rfl
      rw [this] at h
      exact .inl ⟨h, fun j k1 d q r => by simp at r⟩
    | cons t ts =>
      have lift : ((putBack as ts env)[i]? = some s) → (∀ (k1 : Kd) (d : D), a.at? = some i → t = Sl.ow k1 d → ∀ (k : Kd) (d2 : D), env[i]? ≠ some (Sl.ow k d2)) → (env[i]? = some s ∧ ∀ (j : Nat) (k1 : Kd) (d : D), (a :: as)[j]?.bind AV.at? = some i → (t :: ts)[j]? = some (Sl.ow k1 d) → ∀ (k : Kd) (d2 : D), env[i]? ≠ some (Sl.ow k d2)) ∨ ∃ (j : Nat) (k k1 : Kd) (d d0 : D), (a :: as)[j]?.bind AV.at? = some i ∧ (t :: ts)[j]? = some (Sl.ow k1 d) ∧ env[i]? = some (Sl.ow k d0) ∧ s = Sl.ow k d := fun h hz => by
        rcases ih h with ⟨h1, h2⟩ | ⟨j, k, k1, d, d0, h1, h2, h3, h4⟩
        · refine .inl ⟨h1, fun j k1 d q r => ?_⟩
          cases j with
          | zero => simp only [List.getElem?_cons_zero, Option.bind_some, Option.some.injEq] at q r; exact hz k1 d q r
          | succ j => exact h2 j k1 d (by simpa using q) (by simpa using r)
        · exact .inr ⟨j + 1, k, k1, d, d0, by simpa using h1, by simpa using h2, h3, h4⟩
      cases ha : a.at? with
      | none =>
        have : putBack (a :: as) (t :: ts) env = putBack as ts env := by
          cases a with
          | d d => rw [putBack]
          | s m => cases ha
          | l m => cases ha
        rw [this] at h
        exact lift h fun _ _ e => by rw [ha] at e; cases e
      | some n =>
        rw [putBack_one n ha] at h
        cases he : env[n]? with
        | none =>
          rw [he] at h
          exact lift h fun k1 d e1 e2 k d2 e3 => by rw [ha] at e1; cases e1; rw [he] at e3; cases e3
        | some s0 =>
          rw [he] at h
          cases s0 with
          | no => exact lift h fun k1 d e1 e2 k d2 e3 => by rw [ha] at e1; cases e1; rw [he] at e3; cases e3
          | fz d0 => exact lift h fun k1 d e1 e2 k d2 e3 => by rw [ha] at e1; cases e1; rw [he] at e3; cases e3
          | ow k d0 =>
            cases t with
            | no => exact lift h fun k1 d e1 e2 => by cases e2
            | fz d => exact lift h fun k1 d e1 e2 => by cases e2
            | ow k1 d =>
              rcases get_set h with ⟨e1, e2, _⟩ | ⟨e1, e2⟩
              · subst e1; subst e2
                exact .inr ⟨0, k, k1, d, d0, by simpa using ha, by simp, he, rfl⟩
              · exact lift e2 fun k' d' e => by rw [ha] at e; cases e; exact absurd rfl e1
theorem args_ok {F H : Hp} {σ : St} {env ae : Env} {vs : List V} {as : List AV} (k : EnvOk g F H σ env) (ha : Paired (AvOk g F σ) vs as) (nd : noDup (slotsOf as) = true) (hm : mkArgs env as = some ae) :
    EnvOk g F H (vs.map some) ae ∧ ∀ j a, Adr (vs.map some) ae j a → ∃ i, as[j]?.bind AV.at? = some i ∧ Adr σ env i a := by
  have adr : ∀ j a, Adr (vs.map some) ae j a → ∃ i, as[j]?.bind AV.at? = some i ∧ Adr σ env i a := fun j a ⟨⟨kd, d, h1⟩, h2⟩ => by
    obtain ⟨av, q1, q2⟩ := mkArgs_get hm h1
    obtain ⟨v, q3, q4⟩ := paired_get ha q1
    rw [List.getElem?_map, q3] at h2
    have ev : v = .ref a := by simpa using h2
    subst ev
    cases av with
    | d d' => cases q2
    | s i =>
      have q4 : σ[i]? = some (some (.ref a)) := q4
      refine ⟨i, by rw [q1]; rfl, ?_⟩
      unfold argSl at q2
      simp only at q2
      split at q2 <;> first
        | cases q2; done
        | (rename_i d' q; exact ⟨⟨_, _, q⟩, q4⟩)
        | cases q2
    | l i =>
      have q4 : σ[i]? = some (some (.ref a)) := q4
      refine ⟨i, by rw [q1]; rfl, ?_⟩
      unfold argSl at q2
      simp only at q2
      split at q2
      · cases q2
      · rename_i kd' d' q; exact ⟨⟨_, _, q⟩, q4⟩
      · cases q2
  refine ⟨⟨by rw [List.length_map, mkArgs_len hm, paired_len ha], k.sub, fun j s e => ?_, fun j1 j2 a h1 h2 => ?_⟩, adr⟩
  · obtain ⟨av, q1, q2⟩ := mkArgs_get hm e
    obtain ⟨v, q3, q4⟩ := paired_get ha q1
    refine ⟨some v, by rw [List.getElem?_map, q3]; rfl, ?_⟩
    cases av with
    | d d => cases q2; exact ⟨v, rfl, q4⟩
    | s i =>
      have q4 : σ[i]? = some (some v) := q4
      unfold argSl at q2
      simp only at q2
      split at q2
      · rename_i d' q; cases q2; obtain ⟨o, h1, v', h2, h3⟩ := k.sl i _ q; rw [q4] at h1; cases h1; cases h2; exact ⟨v, rfl, h3⟩
      · rename_i d' q; cases q2; obtain ⟨o, h1, a, h2, h3⟩ := k.sl i _ q; rw [q4] at h1; cases h1; cases h2; exact ⟨a, rfl, h3⟩
      · rename_i d' q; cases q2; obtain ⟨o, h1, a, h2, h3⟩ := k.sl i _ q; rw [q4] at h1; cases h1; cases h2; exact ⟨a, rfl, h3⟩
      · cases q2
    | l i =>
      have q4 : σ[i]? = some (some v) := q4
      unfold argSl at q2
      simp only at q2
      split at q2
      · rename_i d' q; cases q2; obtain ⟨o, h1, v', h2, h3⟩ := k.sl i _ q; rw [q4] at h1; cases h1; cases h2; exact ⟨v, rfl, h3⟩
      · rename_i kd' d' q; cases q2; obtain ⟨o, h1, a, h2, h3⟩ := k.sl i _ q; rw [q4] at h1; cases h1; cases h2; exact ⟨a, rfl, h3⟩
      · cases q2
  · obtain ⟨i1, w1, w2⟩ := adr j1 a h1
    obtain ⟨i2, w3, w4⟩ := adr j2 a h2
    have := k.dis i1 i2 a w2 w4
    subst this
    exact slots_inj nd w1 w3
/-- what a callee has of an own slot: pinned or locked; locked if it is -/
theorem arg_kd {env ae : Env} {as : List AV} {j i : Nat} {k kd : Kd} {d d0 : D} (hm : mkArgs env as = some ae) (h : as[j]?.bind AV.at? = some i) (ha : ae[j]? = some (.ow k d)) (he : env[i]? = some (.ow kd d0)) : k ≠ .fr ∧ d = d0 ∧ (kd = .lk → k = .lk) := by
  obtain ⟨av, q1, q2⟩ := mkArgs_get hm ha
  rw [q1] at h
  cases av with
  | d d => cases h
  | s n =>
    cases h
    unfold argSl at q2
    simp only [he] at q2
    cases kd <;> simp only [Option.some.injEq, Sl.ow.injEq, reduceCtorEq] at q2
    · exact ⟨by rw [← q2.1]; decide, q2.2.symm, fun z => by cases z⟩
    · exact ⟨by rw [← q2.1]; decide, q2.2.symm, fun z => by cases z⟩
  | l n =>
    cases h
    unfold argSl at q2
    simp only [he, Option.some.injEq, Sl.ow.injEq] at q2
    exact ⟨by rw [← q2.1]; decide, q2.2.symm, fun _ => q2.1.symm⟩
/-- the caller behind the call -/
theorem call_back {F H F' H' : Hp} {σ : St} {env ae ae' : Env} {vs : List V} {as : List AV} (k : EnvOk g F H σ env) (ha : Paired (AvOk g F σ) vs as) (nd : noDup (slotsOf as) = true) (hm : mkArgs env as = some ae)
    (x : Ext F H (Own (vs.map some) ae) F' H' (Own (vs.map some) ae')) (k' : EnvOk g F' H' (vs.map some) ae') (kp : Keep (vs.map some) ae (vs.map some) ae') :
    Ext F H (Own σ env) F' H' (Own σ (putBack as ae' env)) ∧ EnvOk g F' H' σ (putBack as ae' env) ∧ Keep σ env σ (putBack as ae' env) := by
  obtain ⟨ka, adr⟩ := args_ok k ha nd hm
  have sub : ∀ a, Own (vs.map some) ae a → Own σ env a := fun a ⟨j, h⟩ => let ⟨i, _, q⟩ := adr j a h; ⟨i, q⟩
  have adr2 : ∀ i a, Adr σ (putBack as ae' env) i a → Adr σ env i a := fun i a ⟨⟨kd, d, h1⟩, h2⟩ => by
    rcases putBack_get h1 with ⟨q, _⟩ | ⟨j, k2, k1, d2, d0, q1, q2, q3, q4⟩
    · exact ⟨⟨_, _, q⟩, h2⟩
    · exact ⟨⟨_, _, q3⟩, h2⟩
  refine ⟨⟨x.sub, fun b o h n => x.keep b o h fun z => n (sub b z), x.dom, fun b h h' => (x.new b h h').imp id (sub b), fun b ⟨i, h⟩ => .inr ⟨i, adr2 i b h⟩⟩,
    ⟨by rw [putBack_len]; exact k.len, k'.sub, fun i s h => ?_, fun i j a h1 h2 => k.dis i j a (adr2 i a h1) (adr2 j a h2)⟩, fun i kd d h n => ?_⟩
  · rcases putBack_get h with ⟨q, hno⟩ | ⟨j, k2, k1, d2, d0, q1, q2, q3, q4⟩
    · obtain ⟨o, h1, h2⟩ := k.sl i s q
      refine ⟨o, h1, ?_⟩
      cases s with
      | no => trivial
      | fz d => obtain ⟨v, h3, h4⟩ := h2; exact ⟨v, h3, h4.mono x.sub⟩
      | ow kd d =>
        obtain ⟨a, h3, h4, h5⟩ := h2
        obtain ⟨ho, hh⟩ := h5.there
        have na : ¬ Own (vs.map some) ae a := fun ⟨j, z⟩ => by
          obtain ⟨i', z1, z2⟩ := adr j a z
          have e := k.dis i' i a z2 ⟨⟨_, _, q⟩, by rw [h1, h3]⟩
          subst e
          obtain ⟨⟨kd2, d2, y1⟩, y2⟩ := z
          obtain ⟨w1, d', w2, w3⟩ := kp j kd2 d2 y1 (arg_kd hm z1 y1 q).1
          exact hno j kd2 d' z1 w2 kd d q
        refine ⟨a, h3, ?_, h5.mono x.sub fun o e => x.keep a o e na⟩
        cases y : F' a with
        | none => rfl
        | some u =>
          rcases x.new a h4 (by rw [y]; simp) with z | z
          · rw [hh] at z; cases z
          · exact absurd z na
    · subst q4
      obtain ⟨o, h1, h2⟩ := k.sl i _ q3
      obtain ⟨a, h3, h4, h5⟩ := h2
      obtain ⟨av, hav, hat⟩ : ∃ av, as[j]? = some av ∧ av.at? = some i := by
        cases hj : as[j]? with
        | none => rw [hj] at q1; cases q1
        | some av => rw [hj] at q1; exact ⟨av, rfl, q1⟩
      obtain ⟨v, y1, y2⟩ := paired_get ha hav
      have y2 : σ[i]? = some (some v) := by
        cases av with
        | d d => cases hat
        | s n => cases hat; exact y2
        | l n => cases hat; exact y2
      obtain ⟨o', w1, w2⟩ := k'.sl j _ q2
      rw [List.getElem?_map, y1] at w1
      cases w1
      rw [y2] at h1; cases h1
      exact ⟨_, y2, w2⟩
  · refine ⟨rfl, ?_⟩
    have hi : i < (putBack as ae' env).length := by rw [putBack_len]; exact lt_of_get h
    have e1 : (putBack as ae' env)[i]? = some ((putBack as ae' env)[i]) := List.getElem?_eq_getElem hi
    rcases putBack_get e1 with ⟨q, _⟩ | ⟨j, k2, k1, d2, d0, q1, q2, q3, q4⟩
    · rw [e1, ← q, h]
      exact ⟨d, rfl, fun _ => rfl⟩
    · rw [h] at q3
      cases q3
      refine ⟨d2, by rw [e1, q4], fun z => ?_⟩
      -- a locked one is handed over as locked
      subst z
      obtain ⟨t, y⟩ : ∃ t, ae[j]? = some t := by
        have hj : j < ae.length := by
          rw [mkArgs_len hm]
          cases hj : as[j]? with
          | none => rw [hj] at q1; cases q1
          | some av => exact lt_of_get hj
        exact ⟨_, List.getElem?_eq_getElem hj⟩
      obtain ⟨av, y3, y4⟩ := mkArgs_get hm y
      have tl : t = .ow .lk d := by
        rw [y3] at q1
        cases av with
        | d d => cases q1
        | s n => cases q1; unfold argSl at y4; simp only [h] at y4; cases y4
        | l n => cases q1; unfold argSl at y4; simp only [h, Option.some.injEq] at y4; exact y4.symm
      subst tl
      obtain ⟨w1, d', w2, w3⟩ := kp j .lk d y (by decide)
      rw [q2] at w2
      cases w2
      exact w3 rfl
def tCallG (g : G) (W : WX) (fm : FM) (t : TA) : TE := fun σ H Q => t σ H fun vs H1 => fnSp g fm vs H1 Q (fun c d H' => W c d σ H')
theorem good_callG {t : TA} {fs : List ME} (h : AllE g W t fs) (fm : FM) (ms : List Md) : GoodE g W (tCallG g W fm t) (mCallF fm ms fs) := fun F H σ env Q k p => by
  refine h.as ms F H σ env _ k (Post.bind RE.early p fun as e1 F1 H1 vs x1 k1 kp1 ha p1 => ?_)
  have ha : Paired (AvOk g F1 σ) vs as := ha
  by_cases nd : noDup (slotsOf as) = true
  · simp only [nd, if_true] at p1
    cases hm : mkArgs e1 as with
    | none => rw [hm] at p1; exact p1.elim
    | some ae =>
      rw [hm] at p1
      simp only at p1
      refine ⟨F1, ae, (args_ok k1 ha nd hm).1, ?_⟩
      cases hf : fm ae with
      | stuck => rw [hf] at p1; exact p1.elim
      | ex c d ae' =>
        rw [hf] at p1
        intro F' H' dd C v x k' kp a1 a2 a3
        obtain ⟨y1, y2, y3⟩ := call_back k1 ha nd hm x k' kp
        exact p1 F' H' dd C v y1 y2 y3 a1 a2 a3
      | ok z =>
        obtain ⟨r, ae'⟩ := z
        rw [hf] at p1
        intro F' H' v x k' kp rv
        obtain ⟨y1, y2, y3⟩ := call_back k1 ha nd hm x k' kp
        cases r with
        | val d => exact p1 F' H' v y1 y2 y3 rv
        | new d =>
          obtain ⟨a, h1, h2, h3, h4, h5⟩ := rv
          refine p1 F' H' v y1 y2 y3 ⟨a, h1, h2, h3, fun z => ?_, h5⟩
          rcases y1.own a z with z' | z'
          · -- owned behind, so owned ahead
            obtain ⟨i, ⟨kd, d2, w1⟩, w2⟩ := z
            rcases putBack_get w1 with ⟨q, _⟩ | ⟨j, k2, k3, d3, d0, q1, q2, q3, q4⟩
            · obtain ⟨o, u1, b, u2, u3, u4⟩ := k1.sl i _ q
              rw [w2] at u1; cases u1; cases u2
              obtain ⟨_, u5⟩ := u4.there
              rw [u5] at z'; cases z'
            · obtain ⟨o, u1, b, u2, u3, u4⟩ := k1.sl i _ q3
              rw [w2] at u1; cases u1; cases u2
              obtain ⟨_, u5⟩ := u4.there
              rw [u5] at z'; cases z'
          · obtain ⟨i, ⟨kd, d2, w1⟩, w2⟩ := z'
            obtain ⟨o, u1, b, u2, u3, u4⟩ := k1.sl i _ w1
            rw [w2] at u1; cases u1; cases u2
            obtain ⟨_, u5⟩ := u4.there
            rw [u5] at h2; cases h2
        | sl i => exact p1.elim
  · simp only [nd, if_false] at p1; exact p1.elim
section
variable {X : Cx} {k : Nat} {f : Addr} {fd : FuncData} {ps : List Str} {fm : FM} {x : Str} {p pos : Pos} {e : Expr} {es : List Expr} {fs : List ME} {ms : List Md}
theorem run_g {pins : List (Addr × Obj)} {σ : St} {H : Hp} {s : Shared} {Q : VK} {us : List Value} {vs : List V} (F : FnG X.prog X.w X.K X.mg X.base k f fd ps fm) (hr : Room k X.A) (gd : X.A.guards = some []) (tk : Takes X W) {args : Args}
    (hb : (us.length = ps.length) → BindsTo s fd args (ps.zip us)) (I : Inv X pins σ H s) (r : Vals vs us) (h : fnSp ⟨X.K, X.mg⟩ fm vs H Q (fun c d H' => W c d σ H')) : codeAny (model X.prog X.w) X.A (.call (.ref f) args) (fun r s' => match r with
      | .ok (.ret u) => EP X pins σ Q u s'
      | .ok _ => False
      | .error e => X.xe e s') s := by
  have hl : us.length = ps.length := by rw [← r.length]; exact fnSp_len F.len h
  refine codeAny_mono (F.run X.A X.stack s H args us vs Q _ hr gd I.env0 (hb hl) r h) fun r s' hq => ?_
  cases r with
  | error e => exact tk e s' (XE.of_call (E := fun c d H' => W c d σ H') I (fun _ _ _ z => z) hq)
  | ok fl =>
    cases fl with
    | ret u => exact I.after hq
    | next => exact hq
    | brk => exact hq
    | cont => exact hq
theorem code_end {M : Model} {A : Around} {c : Code} {s : Shared} {Q E : Value → Shared → Prop} (h : codeAny M A c (fun r s' => match r with
      | .ok (.ret u) => Q u s'
      | .ok _ => False
      | .error e => E e s') s) : codeAny M A c (fun r s' => match r with
      | .ok (.ret u) => Q u s'
      | .ok _ => False
      | .error e => E e s') s := h
end
end DL
namespace DL
open PySem PySem.Spec L2
open PyProof.Rows (envOfC)
variable {g : G} {W : WX}
section
variable {X : Cx} {k : Nat} {f : Addr} {fd : FuncData} {ps : List Str} {fm : FM} {x : Str} {p pos : Pos} {e : Expr} {es : List Expr} {fs : List ME} {ms : List Md} {t : TA}
theorem pe_callG (F : FnG X.prog X.w X.K X.mg X.base k f fd ps fm) (hr : Room k X.A) (gd : X.A.guards = some []) (tk : Takes X W) (hg : Gl X x) (hm : X.mg x = some (.ref f)) (hk : PySem.W.keepIn X.K (.ref f) = true) (hb : Binds X.K fd ps []) (ha : PA X (e :: es) t)
    (hdb : (x == ("__debug__" : Str)) = false := by decide) (he : starEach (e :: es) X.env = (false, eval e X.env) :: starEach es X.env := by rfl) (hpl : (backTo pos (starEach es X.env)).any (·.1) = false := by rfl) :
    PE X (.Call (.Name x p) (e :: es) [] pos) (tCallG ⟨X.K, X.mg⟩ W fm t) := by
  refine ⟨fun pins s σ H Q I h => wpAny_Call_Name_kw (ld_glob I hg hm ?_ hdb)⟩
  refine PySem.W.callWith_K (h₀ := X.base) I.ok.mod.kin hk (thn (ha.run pos pins s σ H _ I h) fun us s1 ⟨vs, H1, I1, r, q⟩ => ⟨I1.kIn, ?_⟩) he hpl
  refine wpAny_call (run_g F hr gd tk (args := ⟨us, []⟩) (fun hl => ?_) I1 r q)
  have := hb s1 us I1.kIn (by rw [List.append_nil]; exact hl)
  rw [List.append_nil] at this
  exact this
theorem de_call (F : FnG X.prog X.w X.K X.mg X.base k f fd ps fm) (hr : Room k X.A) (gd : X.A.guards = some []) (tk : Takes X W) (hg : Gl X x) (hm : X.mg x = some (.ref f)) (hk : PySem.W.keepIn X.K (.ref f) = true) (hb : Binds X.K fd ps []) (ms : List Md) (ha : DA X W (e :: es) fs)
    (hdb : (x == ("__debug__" : Str)) = false := by decide) (he : starEach (e :: es) X.env = (false, eval e X.env) :: starEach es X.env := by rfl) (hpl : (backTo pos (starEach es X.env)).any (·.1) = false := by rfl) :
    DE X W (.Call (.Name x p) (e :: es) [] pos) (mCallF fm ms fs) := by
  obtain ⟨t, pt, gt⟩ := ha
  exact ⟨_, pe_callG F hr gd tk hg hm hk hb pt hdb he hpl, good_callG gt fm ms⟩
end
/-! ### keywords -/
structure DK (X : Cx) (W : WX) (kws : List Keyword) (fs : List ME) : Prop where
  ex : ∃ t, PK X kws t ∧ AllE ⟨X.K, X.mg⟩ W t fs
theorem dk_nil {X : Cx} : DK X W [] [] := ⟨_, pk_nil, .nil⟩
theorem dk_cons {X : Cx} {nm : Option Str} {e : Expr} {kpos : Pos} {kws : List Keyword} {f : ME} {fs : List ME} (h : DE X W e f) (hr : DK X W kws fs) : DK X W (⟨nm, e, kpos⟩ :: kws) (f :: fs) := by
  obtain ⟨t, p, q⟩ := h
  obtain ⟨u, p2, q2⟩ := hr
  exact ⟨_, pk_cons p p2, .cons q q2⟩
def pick {α : Type} (dflt : α) (perm : List Nat) (l : List α) : List α := perm.map fun i => l.getD i dflt
def pickV (np nk : Nat) (perm : List Nat) (us ws : List Value) : List Value := if us.length = np ∧ ws.length = nk then pick Value.none perm (us ++ ws) else []
structure KB (K : PySem.W.Frag) (fd : FuncData) (ps ks : List Str) (np : Nat) (perm : List Nat) : Prop where
  to : ∀ (s : Shared) (us ws : List Value), K.In s.heap → us.length = np → ws.length = ks.length → BindsTo s fd ⟨us, ks.zip ws⟩ (ps.zip (pick Value.none perm (us ++ ws)))
  lt : ∀ i ∈ perm, i < np + ks.length
  len : perm.length = ps.length
/-- what a callee gives that is handed data alone -/
def fzRes (env : Env) : Res (Rv × Env) → Res (Rv × Env)
  | .ok (.val d, _) => .ok (.val d, env)
  | .ok (.new d, _) => .ok (.new d, env)
  | .ok (.sl _, _) => .stuck
  | .ex c d _ => .ex c d env
  | .stuck => .stuck
def mCallK (fm : FM) (perm : List Nat) (np nk : Nat) (fs ks : List ME) : ME := fun env => evDs fs env >>= fun z => evDs ks z.2 >>= fun y =>
  if z.1.length = np ∧ y.1.length = nk then fzRes y.2 (fm ((pick PyData.none perm (z.1 ++ y.1)).map .fz)) else .stuck
theorem fz_env {F H : Hp} {vs : List V} {ds : List D} (s : Sub F H) (h : DenL g F vs ds) : EnvOk g F H (vs.map some) (ds.map .fz) ∧ ∀ a, ¬ Own (vs.map some) (ds.map .fz) a := by
  have no : ∀ (i : Nat) (k : Kd) (d : D), (ds.map Sl.fz)[i]? ≠ some (.ow k d) := fun i k d e => by
    rw [List.getElem?_map] at e
    cases q : ds[i]? with
    | none => rw [q] at e; cases e
    | some u => rw [q] at e; cases e
  refine ⟨⟨by simp [h.length], s, fun i sl e => ?_, fun i j a h1 _ => by obtain ⟨⟨k, d, z⟩, _⟩ := h1; exact absurd z (no i k d)⟩, fun a ⟨i, ⟨k, d, z⟩, _⟩ => no i k d z⟩
  rw [List.getElem?_map] at e
  cases q : ds[i]? with
  | none => rw [q] at e; cases e
  | some d =>
    rw [q] at e
    cases e
    obtain ⟨v, h1, h2⟩ := h.get q
    exact ⟨some v, by rw [List.getElem?_map, h1]; rfl, v, rfl, h2⟩
theorem DenL.getD {F : Hp} {vs : List V} {ds : List D} (h : DenL g F vs ds) (i : Nat) : Den g F (vs.getD i .non) (ds.getD i .none) := by
  rw [List.getD_eq_getElem?_getD, List.getD_eq_getElem?_getD]
  cases q : ds[i]? with
  | none =>
    have : vs[i]? = none := by
      have := h.length
      rw [List.getElem?_eq_none_iff] at q ⊢
      omega
    rw [this]; exact .non
  | some d =>
    obtain ⟨v, h1, h2⟩ := h.get q
    rw [h1]; exact h2
theorem DenL.pick {F : Hp} {vs : List V} {ds : List D} (h : DenL g F vs ds) : ∀ perm : List Nat, DenL g F (DL.pick V.non perm vs) (DL.pick PyData.none perm ds)
  | [] => .nil
  | i :: r => .cons (h.getD i) (DenL.pick h r)
theorem Vals.getD {vs : List V} {us : List Value} (h : Vals vs us) (i : Nat) : RelV (vs.getD i .non) (us.getD i .none) := by
  rw [List.getD_eq_getElem?_getD, List.getD_eq_getElem?_getD]
  cases q : vs[i]? with
  | none =>
    rw [h.none_of q]; rfl
  | some d =>
    obtain ⟨v, h1, h2⟩ := h.get q
    rw [h1]; exact h2
theorem Vals.pick {vs : List V} {us : List Value} (h : Vals vs us) : ∀ perm : List Nat, Vals (DL.pick V.non perm vs) (DL.pick Value.none perm us)
  | [] => .nil
  | i :: r => .cons (Vals.getD h i) (Vals.pick h r)
/-- a callee that is handed data alone -/
theorem call_fz {F H : Hp} {σ : St} {env : Env} {vs : List V} {ds : List D} {Q : VK} {fm : FM} (k : EnvOk g F H σ env) (h : DenL g F vs ds)
    (p : Post (RE g) g W F H σ env Q (fzRes env (fm (ds.map .fz)))) : fnSp g fm vs H Q (fun c d H' => W c d σ H') := by
  obtain ⟨ke, no⟩ := fz_env k.sub h
  refine ⟨F, ds.map .fz, ke, ?_⟩
  have grow : ∀ {F' H' : Hp} {O' : Addr → Prop}, Ext F H (Own (vs.map some) (ds.map .fz)) F' H' O' → Sub F' H' → Grow F H F' H' := fun x s =>
    ⟨x.sub, fun b o e => x.keep b o e (no b), fun b e e' => (x.new b e e').resolve_right (no b), s⟩
  cases hf : fm (ds.map .fz) with
  | stuck => rw [hf] at p; exact p.elim
  | ex c d e =>
    rw [hf] at p
    intro F' H' dd C v x k' kp a1 a2 a3
    have gr := grow x k'.sub
    exact p F' H' dd C v gr.ext (k.grow gr) .refl a1 a2 a3
  | ok z =>
    obtain ⟨r, e⟩ := z
    rw [hf] at p
    intro F' H' v x k' kp rv
    have gr := grow x k'.sub
    cases r with
    | val d => exact p F' H' v gr.ext (k.grow gr) .refl rv
    | new d =>
      obtain ⟨a, h1, h2, h3, h4, h5⟩ := rv
      exact p F' H' v gr.ext (k.grow gr) .refl ⟨a, h1, h2, h3, (k.fresh h2).2, h5⟩
    | sl i => exact p.elim
def tCallKG (g : G) (W : WX) (fm : FM) (perm : List Nat) (np nk : Nat) (t tk : TA) : TE := fun σ H Q => t σ H fun vs H1 => tk σ H1 fun zs H2 => vs.length = np ∧ zs.length = nk ∧ fnSp g fm (pick V.non perm (vs ++ zs)) H2 Q (fun c d H' => W c d σ H')
theorem good_callK {t tk : TA} {fs ks : List ME} (h : AllE g W t fs) (hk : AllE g W tk ks) (fm : FM) (perm : List Nat) (np nk : Nat) : GoodE g W (tCallKG g W fm perm np nk t tk) (mCallK fm perm np nk fs ks) := fun F H σ env Q k p => by
  refine h.ds F H σ env _ k (Post.bind (R := RDs g) RE.early p fun ds e1 F1 H1 vs x1 k1 kp1 hd p1 => ?_)
  have hd : DenL g F1 vs ds := hd
  refine hk.ds F1 H1 σ e1 _ k1 (Post.bind (R := RDs g) RE.early p1 fun es e2 F2 H2 zs x2 k2 kp2 he p2 => ?_)
  have he : DenL g F2 zs es := he
  have hd2 := hd.mono x2.sub
  by_cases hl : ds.length = np ∧ es.length = nk
  · rw [if_pos hl] at p2
    exact ⟨by rw [hd.length]; exact hl.1, by rw [he.length]; exact hl.2, call_fz k2 ((hd2.append he).pick perm) p2⟩
  · rw [if_neg hl] at p2; exact p2.elim
section
variable {X : Cx} {k : Nat} {f : Addr} {fd : FuncData} {ps ks : List Str} {fm : FM} {x : Str} {p pos : Pos} {e : Expr} {es : List Expr} {kws : List Keyword} {fs gs : List ME} {t tk : TA} {np : Nat} {perm : List Nat}
theorem pick_length {α : Type} {d : α} {perm : List Nat} {l : List α} : (pick d perm l).length = perm.length := by simp [pick]
theorem run_k {pins : List (Addr × Obj)} {σ : St} {H : Hp} {s : Shared} {Q : VK} {us ws : List Value} {vs zs : List V} (F : FnG X.prog X.w X.K X.mg X.base k f fd ps fm) (hr : Room k X.A) (gd : X.A.guards = some []) (tw : Takes X W) (hb : KB X.K fd ps ks np perm)
    (I : Inv X pins σ H s) (r : Vals vs us) (r2 : Vals zs ws) (l1 : vs.length = np) (l2 : zs.length = ks.length) (h : fnSp ⟨X.K, X.mg⟩ fm (pick V.non perm (vs ++ zs)) H Q (fun c d H' => W c d σ H')) :
    wpAny (model X.prog X.w) X.A (call (.ref f) us (ks.zip ws)) (EP X pins σ Q) X.xe s :=
  wpAny_call (run_g F hr gd tw (us := pick Value.none perm (us ++ ws)) (args := ⟨us, ks.zip ws⟩) (fun _ => hb.to s us ws I.kIn (by rw [← r.length]; exact l1) (by rw [← r2.length]; exact l2)) I (Vals.pick (r.append r2) perm) h)
theorem de_callK (F : FnG X.prog X.w X.K X.mg X.base k f fd ps fm) (hr : Room k X.A) (gd : X.A.guards = some []) (tw : Takes X W) (hg : Gl X x) (hm : X.mg x = some (.ref f)) (hk : PySem.W.keepIn X.K (.ref f) = true) (hb : KB X.K fd ps ks np perm) (ha : DA X W (e :: es) fs) (hkw : DK X W kws gs)
    (hall : (backToKw pos (keywordEach kws X.env)).all (·.1.isSome) = true := by rfl) (hks : (backToKw pos (keywordEach kws X.env)).filterMap (·.1) = ks := by rfl) (hdb : (x == ("__debug__" : Str)) = false := by decide) (he : starEach (e :: es) X.env = (false, eval e X.env) :: starEach es X.env := by rfl)
    (hpl : ((backTo pos (starEach (e :: es) X.env)).any (·.1) || (backToKw pos (keywordEach kws X.env)).any (·.1.isNone)) = false := by rfl) : DE X W (.Call (.Name x p) (e :: es) kws pos) (mCallK fm perm np ks.length fs gs) := by
  obtain ⟨t, pt, gt⟩ := ha
  obtain ⟨tk, pk, gk⟩ := hkw
  refine ⟨tCallKG ⟨X.K, X.mg⟩ W fm perm np ks.length t tk, ⟨fun pins s σ H Q I h => wpAny_Call_Name_kw (ld_glob I hg hm ?_ hdb)⟩, good_callK gt gk fm perm np ks.length⟩
  refine PySem.W.callWith_KW (h₀ := X.base) I.ok.mod.kin hk hall (thn (pt.run pos pins s σ H _ I h) fun us s1 ⟨vs, H1, I1, r, q⟩ => ?_) hpl he
  refine thn (pk.run pos pins s1 σ H1 _ I1 q) fun ws s2 ⟨zs, H2, I2, rz, l1, l2, q2⟩ => ⟨I2.kIn, ?_⟩
  rw [hks]
  exact run_k F hr gd tw hb I2 r rz l1 l2 q2
/-- keywords alone -/
theorem de_callK0 (F : FnG X.prog X.w X.K X.mg X.base k f fd ps fm) (hr : Room k X.A) (gd : X.A.guards = some []) (tw : Takes X W) (hg : Gl X x) (hm : X.mg x = some (.ref f)) (hk : PySem.W.keepIn X.K (.ref f) = true) (hb : KB X.K fd ps ks 0 perm) (hkw : DK X W kws gs)
    (hall : (backToKw pos (keywordEach kws X.env)).all (·.1.isSome) = true := by rfl) (hks : (backToKw pos (keywordEach kws X.env)).filterMap (·.1) = ks := by rfl) (hdb : (x == ("__debug__" : Str)) = false := by decide)
    (hpl : ((backTo pos (starEach [] X.env)).any (·.1) || (backToKw pos (keywordEach kws X.env)).any (·.1.isNone)) = false := by rfl) : DE X W (.Call (.Name x p) [] kws pos) (mCallK fm perm 0 ks.length [] gs) := by
  obtain ⟨tk, pk, gk⟩ := hkw
  refine ⟨tCallKG ⟨X.K, X.mg⟩ W fm perm 0 ks.length tNil tk, ⟨fun pins s σ H Q I h => wpAny_Call_Name_kw (ld_glob I hg hm ?_ hdb)⟩, good_callK .nil gk fm perm 0 ks.length⟩
  refine PySem.W.callWith_KW0 (h₀ := X.base) I.ok.mod.kin hk hall (thn (pk.run pos pins s σ H _ I h) fun ws s2 ⟨zs, H2, I2, rz, l1, l2, q2⟩ => ⟨I2.kIn, ?_⟩) hpl
  rw [hks]
  exact run_k (us := []) F hr gd tw hb I2 .nil rz l1 l2 q2
end
end DL
namespace DL
open PySem PySem.Spec L2
variable {g : G} {W : WX}

/-! ### texts and their code points -/
theorem strOk_iff {x : Str} : strOk x = true ↔ ∀ c ∈ x.cps.toList, c < 0x110000 := by
  show (x.cps.all (· < 0x110000)) = true ↔ _
  rw [Array.all_eq_true_iff_forall_mem]
  simp
theorem strOk_app {x y : Str} (h : strOk x = true) (k : strOk y = true) : strOk (x ++ y) = true := by
  rw [strOk_iff] at h k ⊢
  intro c hc
  have : (x ++ y).cps.toList = x.cps.toList ++ y.cps.toList := by show (x.cps ++ y.cps).toList = _; simp
  rw [this, List.mem_append] at hc
  exact hc.elim (h c) (k c)
theorem strOk_sub {x : Str} {l : List Nat} (h : strOk x = true) (s : ∀ c ∈ l, c ∈ x.cps.toList) : strOk ⟨l.toArray⟩ = true := by
  rw [strOk_iff] at h ⊢
  intro c hc
  exact h c (s c (by simpa using hc))
theorem strOk_cut {x : Str} {lo hi : Option Int} (h : strOk x = true) : strOk (cutS x lo hi) = true :=
  strOk_sub h fun c hc => List.mem_of_mem_drop (List.mem_of_mem_take hc)

/-! ### + -/
def dAdd : D → D → Option Rv
  | .int i, .int j => some (.val (.int (i + j)))
  | .str x, .str y => if x.length + y.length ≤ lineM then some (.val (.str (x ++ y))) else none
  | .list xs, .list ys => if xs.length + ys.length ≤ lineM then some (.new (.list (xs ++ ys))) else none
  | .tuple xs, .tuple ys => if xs.length + ys.length ≤ lineM then some (.val (.tuple (xs ++ ys))) else none
  | _, _ => none
abbrev rAddD (K : PySem.W.Frag) : R2 := fun x y H Q => (rI0 (fun i j => .int (i + j)) x y H Q ∨ ∃ i j, x = .str i ∧ y = .str j ∧ i.length + j.length ≤ sizeLine ∧ Q (.str (i ++ j)) H) ∨ (rCat x y H Q ∨ rCatA K x y H Q)
theorem op_addD {X : Cx} : OpR X (binaryOp .Add) (rAddD X.K) := OpR.or (OpR.or op_add op_add_str) (OpR.or op_cat op_catA)
theorem good_add : Good2 g (rAddD g.K) dAdd := by
  refine ⟨fun F H x y d e Q s hx hy p => ?_, fun d e => ?_⟩
  · unfold dAdd at p
    split at p
    · exact .inl (.inl ⟨_, _, hx.int, hy.int, p.val0 s (.int _)⟩)
    · split at p
      · rename_i hl
        obtain ⟨e1, o1⟩ := hx.str
        obtain ⟨e2, o2⟩ := hy.str
        exact .inl (.inr ⟨_, _, e1, e2, by rw [lineM_eq]; exact hl, p.val0 s (.str _ (strOk_app o1 o2))⟩)
      · exact p.elim
    · split at p
      · rename_i hl
        obtain ⟨a, xs, e1, h1, d1⟩ := hx.lst s
        obtain ⟨b, ys, e2, h2, d2⟩ := hy.lst s
        exact .inr (.inl ⟨a, b, xs, ys, e1, e2, h1, h2, by rw [d1.length, d2.length, lineM_eq]; exact hl, fun q hq => p.newL s hq (d1.append d2)⟩)
      · exact p.elim
    · split at p
      · rename_i hl
        obtain ⟨a, xs, e1, h1, d1⟩ := hx.tup s
        obtain ⟨b, ys, e2, h2, d2⟩ := hy.tup s
        have hden : ∀ {F' : Hp}, Sub F F' → DenL g F' (xs ++ ys) _ := fun s' => (d1.append d2).mono s'
        refine .inr (.inr ⟨a, b, xs, ys, e1, e2, h1, h2, by rw [d1.length, d2.length, lineM_eq]; exact hl, fun z => ?_, fun z z2 => ?_, fun _ _ q hq => p.valT s hq (d1.append d2)⟩)
        · subst z
          cases d1
          subst e2
          rcases hy with hy | ⟨_, _, w⟩
          · exact p.val0 s (by simpa using hy)
          · cases w <;> (rename_i e; cases e)
        · subst z2
          cases d2
          subst e1
          rcases hx with hx | ⟨_, _, w⟩
          · exact p.val0 s (by simpa using hx)
          · cases w <;> (rename_i e; cases e)
      · exact p.elim
    · exact p.elim
  · unfold dAdd
    split <;> first | exact NoSl.val | exact NoSl.none | (split <;> first | exact NoSl.val | exact NoSl.new | exact NoSl.none)

/-! ### ints -/
def dSub : D → D → Option Rv
  | .int i, .int j => some (.val (.int (i - j)))
  | _, _ => none
theorem good_sub : Good2 g (rI0 fun i j => .int (i - j)) dSub := by
  refine ⟨fun F H x y d e Q s hx hy p => ?_, fun d e => ?_⟩
  · unfold dSub at p
    split at p
    · exact ⟨_, _, hx.int, hy.int, p.val0 s (.int _)⟩
    · exact p.elim
  · unfold dSub; split <;> first | exact NoSl.val | exact NoSl.none
def dDiv : D → D → Option Rv
  | .int i, .int j => if 0 < j ∧ j.natAbs.log2 < 9000 then some (.val (.int (i / j))) else none
  | _, _ => none
theorem good_div : Good2 g (rI CDivW fun i j => .int (i / j)) dDiv := by
  refine ⟨fun F H x y d e Q s hx hy p => ?_, fun d e => ?_⟩
  · unfold dDiv at p
    split at p
    · split at p
      · rename_i h; exact ⟨_, _, hx.int, hy.int, h, p.val0 s (.int _)⟩
      · exact p.elim
    · exact p.elim
  · unfold dDiv; split <;> first | exact NoSl.none | (split <;> first | exact NoSl.val | exact NoSl.none)
def dMod : D → D → Option Rv
  | .int i, .int j => if 0 < j then some (.val (.int (i % j))) else none
  | _, _ => none
theorem good_mod : Good2 g (rI (fun _ j => 0 < j) fun i j => .int (i % j)) dMod := by
  refine ⟨fun F H x y d e Q s hx hy p => ?_, fun d e => ?_⟩
  · unfold dMod at p
    split at p
    · split at p
      · rename_i h; exact ⟨_, _, hx.int, hy.int, h, p.val0 s (.int _)⟩
      · exact p.elim
    · exact p.elim
  · unfold dMod; split <;> first | exact NoSl.none | (split <;> first | exact NoSl.val | exact NoSl.none)
def CPowD (i j : Int) : Prop := 0 ≤ j ∧ ((i.natAbs.log2 + 1 : Nat) : Int) * j ≤ 100000000
instance {i j : Int} : Decidable (CPowD i j) := inferInstanceAs (Decidable (_ ∧ _))
theorem op_powD {X : Cx} : OpR X (binaryOp .Pow) (rI CPowD fun i j => .int (i ^ j.toNat)) := opI fun i j _ _ _ _ _ hc q => by
  refine PyProof.Rows.pow_int hc.1 ?_ q
  have b : Builtin.Int.intBits i ≤ i.natAbs.log2 + 1 := by
    unfold Builtin.Int.intBits
    split <;> omega
  have h1 : ((Builtin.Int.intBits i : Nat) : Int) * j ≤ ((i.natAbs.log2 + 1 : Nat) : Int) * j := Int.mul_le_mul_of_nonneg_right (by omega) hc.1
  have h2 := hc.2
  have h3 : (2 : Int) ^ 27 = 134217728 := by decide
  rw [h3]
  omega
def dPow : D → D → Option Rv
  | .int i, .int j => if CPowD i j then some (.val (.int (i ^ j.toNat))) else none
  | _, _ => none
theorem good_pow : Good2 g (rI CPowD fun i j => .int (i ^ j.toNat)) dPow := by
  refine ⟨fun F H x y d e Q s hx hy p => ?_, fun d e => ?_⟩
  · unfold dPow at p
    split at p
    · split at p
      · rename_i h; exact ⟨_, _, hx.int, hy.int, h, p.val0 s (.int _)⟩
      · exact p.elim
    · exact p.elim
  · unfold dPow; split <;> first | exact NoSl.none | (split <;> first | exact NoSl.val | exact NoSl.none)

/-! ### * -/
def repS (x : Str) (n : Nat) : Str := ⟨(List.replicate n x.cps.toList).flatten.toArray⟩
theorem strOk_rep {x : Str} {n : Nat} (h : strOk x = true) : strOk (repS x n) = true := strOk_sub h fun c hc => by
  rw [List.mem_flatten] at hc
  obtain ⟨l, h1, h2⟩ := hc
  rw [List.mem_replicate] at h1
  rw [← h1.2]; exact h2
theorem foldl_arr (a : Array Nat) : ∀ (n : Nat) (acc : Array Nat), (List.replicate n a).foldl (· ++ ·) acc = (acc.toList ++ (List.replicate n a.toList).flatten).toArray
  | 0, acc => by simp
  | n + 1, acc => by
    rw [List.replicate_succ, List.foldl_cons, foldl_arr a n]
    simp [List.replicate_succ]
def dMul : D → D → Option Rv
  | .int i, .int j => if i.natAbs.log2 + j.natAbs.log2 < 1000000 then some (.val (.int (i * j))) else none
  | .str x, .int n => if n < 10000000 ∧ -10000000 < n ∧ x.length * n.toNat ≤ 10000000 then some (.val (.str (repS x n.toNat))) else none
  | .list xs, .int n => if n < 10000000 ∧ -10000000 < n ∧ xs.length * n.toNat ≤ lineM then some (.new (.list (List.replicate n.toNat xs).flatten)) else none
  | _, _ => none
def rMulS : R2 := fun x y H Q => ∃ z n, x = .str z ∧ y = .int n ∧ n < 10000000 ∧ -10000000 < n ∧ z.length * n.toNat ≤ 10000000 ∧ Q (.str (repS z n.toNat)) H
theorem op_mulS {X : Cx} : OpR X (binaryOp .Mult) rMulS := by
  intro pins s σ H x y v u Q I rx ry h
  obtain ⟨z, n, rfl, rfl, h1, h2, h3, q⟩ := h
  obtain ⟨t, rfl⟩ := rx
  obtain ⟨t', rfl⟩ := ry
  have fits : ∀ m : Nat, m ≤ 10000000 → Builtin.Str.tooLong m = false := fun m hm => by
    unfold Builtin.Str.tooLong
    rw [sizeLine_eq]
    exact decide_eq_false (by omega)
  refine PySem.P.mul_str ?_ (fun a b c => ?_) (fun a b => fits _ h3) ?_
  · rw [decide_eq_false (by omega), decide_eq_false (by omega)]; rfl
  · have hz : (z.length : Int) ≤ 10000000 := by
      have : z.length * 1 ≤ z.length * n.toNat := Nat.mul_le_mul_left _ (by omega)
      omega
    have h9 : (10000000 : Int) ≤ (2 ^ 63 - 1) / n := by
      rw [Int.le_ediv_iff_mul_le (by omega)]
      have : (10000000 : Int) * n ≤ 10000000 * 10000000 := by omega
      have h63 : (2 : Int) ^ 63 = 9223372036854775808 := by decide
      omega
    omega
  · by_cases hn : n < 1
    · rw [if_pos hn]
      have e0 : n.toNat = 0 := by omega
      refine ⟨by decide, ⟨.str (repS z n.toNat), H, I.tok _, ⟨s.toks, ?_⟩, q⟩⟩
      rw [e0]; rfl
    · rw [if_neg hn]
      by_cases h4 : (n == 1 || z.length == 0) = true
      · rw [if_pos h4]
        have e : repS z n.toNat = z := by
          rw [Bool.or_eq_true] at h4
          rcases h4 with h4 | h4
          · have : n = 1 := by simpa using h4
            subst this
            show (⟨(List.replicate 1 z.cps.toList).flatten.toArray⟩ : Str) = z
            simp
          · have hz : z.cps.size = 0 := by simpa [Str.length] using h4
            have hz2 : z.cps = #[] := Array.eq_empty_of_size_eq_zero hz
            show (⟨(List.replicate n.toNat z.cps.toList).flatten.toArray⟩ : Str) = z
            cases z
            simp at hz2
            subst hz2
            simp
        exact ⟨.str (repS z n.toNat), H, I, ⟨t, by rw [e]⟩, q⟩
      · rw [if_neg h4]
        have e : (⟨(List.replicate n.toNat z.cps).foldl (· ++ ·) #[]⟩ : Str) = repS z n.toNat := by
          rw [foldl_arr]; simp [repS]
        rw [e]
        refine ⟨?_, ⟨.str (repS z n.toNat), H, I.tok _, ⟨s.toks, rfl⟩, q⟩⟩
        have : (repS z n.toNat).length = n.toNat * z.length := by
          show ((List.replicate n.toNat z.cps.toList).flatten.toArray).size = _
          simp [Str.length]
        rw [this, sizeLine_eq, Nat.mul_comm]
        omega
end DL
namespace DL
open PySem PySem.Spec L2
variable {g : G} {W : WX}

abbrev rMulD : R2 := fun x y H Q => (rI CMulW (fun i j => .int (i * j)) x y H Q ∨ rMulS x y H Q) ∨ rRep x y H Q
theorem op_mulD {X : Cx} : OpR X (binaryOp .Mult) rMulD := OpR.or (OpR.or op_mulW op_mulS) op_rep
theorem DenL.rep {F : Hp} {xs : List V} {ds : List D} (h : DenL g F xs ds) : ∀ n : Nat, DenL g F (List.replicate n xs).flatten (List.replicate n ds).flatten
  | 0 => .nil
  | n + 1 => by rw [List.replicate_succ, List.replicate_succ]; exact h.append (DenL.rep h n)
theorem good_mul : Good2 g rMulD dMul := by
  refine ⟨fun F H x y d e Q s hx hy p => ?_, fun d e => ?_⟩
  · unfold dMul at p
    split at p
    · split at p
      · rename_i h; exact .inl (.inl ⟨_, _, hx.int, hy.int, h, p.val0 s (.int _)⟩)
      · exact p.elim
    · split at p
      · rename_i h
        obtain ⟨e1, o1⟩ := hx.str
        exact .inl (.inr ⟨_, _, e1, hy.int, h.1, h.2.1, h.2.2, p.val0 s (.str _ (strOk_rep o1))⟩)
      · exact p.elim
    · split at p
      · rename_i xs n h
        obtain ⟨a, vs, e1, h1, d1⟩ := hx.lst s
        have h63 : (2 : Int) ^ 63 = 9223372036854775808 := by decide
        exact .inr ⟨a, _, vs, e1, hy.int, h1, by omega, by omega, by rw [d1.length, lineM_eq]; exact h.2.2, fun q hq => p.newL s hq (d1.rep _)⟩
      · exact p.elim
    · exact p.elim
  · unfold dMul
    split <;> first | exact NoSl.none | (split <;> first | exact NoSl.val | exact NoSl.new | exact NoSl.none)

/-! ### data as the library reads it -/
mutual
theorem Den.dp {F H : Hp} (s : Sub F H) : ∀ {v : V} {d : D}, Den g F v d → d.hasDict = false → Dp g.K H v d ∧ d.canLay0 = true
  | _, _, .non, _ => ⟨.non, by simp only [PyData.canLay0]⟩
  | _, _, .bl b, _ => ⟨.bl b, by simp only [PyData.canLay0]⟩
  | _, _, .int i, _ => ⟨.int i, by simp only [PyData.canLay0]⟩
  | _, _, .str x h, _ => ⟨.str x, by simp only [PyData.canLay0]; exact h⟩
  | _, _, .lst h r, n => by
    obtain ⟨q1, q2⟩ := DenL.dp s r (by simpa only [PyData.hasDict] using n)
    exact ⟨.lst (.inl (.inl (s _ _ h))) q1, by simp only [PyData.canLay0]; exact q2⟩
  | _, _, .tup h r, n => by
    obtain ⟨q1, q2⟩ := DenL.dp s r (by simpa only [PyData.hasDict] using n)
    exact ⟨.tup (s.sqT h) q1, by simp only [PyData.canLay0]; exact q2⟩
  | _, _, .ro _ _ e, n => by subst e; simp only [roD, PyData.hasDict] at n; cases n
  | _, _, .ins _ _ _ _ e, n => by subst e; simp only [insD, PyData.hasDict] at n; cases n
  | _, _, .dctK _ _ _ _ e, n => by subst e; simp only [PyData.hasDict] at n; cases n
  | _, _, .dctT _ _ _ _ e, n => by subst e; simp only [PyData.hasDict] at n; cases n
theorem DenL.dp {F H : Hp} (s : Sub F H) : ∀ {vs : List V} {ds : List D}, DenL g F vs ds → PyData.hasDictAll ds = false → DpAll g.K H vs ds ∧ PyData.canLayAll0 ds = true
  | _, _, .nil, _ => ⟨.nil, by simp only [PyData.canLayAll0]⟩
  | _, _, .cons h r, n => by
    simp only [PyData.hasDictAll, Bool.or_eq_false_iff] at n
    obtain ⟨q1, q2⟩ := Den.dp s h n.1
    obtain ⟨q3, q4⟩ := DenL.dp s r n.2
    exact ⟨.cons q1 q3, by simp only [PyData.canLayAll0, q2, q4, Bool.and_self]⟩
end
theorem Pk.dp {F H : Hp} {v : V} {d : D} (s : Sub F H) (h : Pk g F H v d) (n : d.hasDict = false) : Dp g.K H v d ∧ d.canLay0 = true := by
  rcases h with h | ⟨a, e, h⟩
  · exact h.dp s n
  · subst e
    cases h with
    | lst h r =>
      obtain ⟨q1, q2⟩ := DenL.dp s r (by simpa only [PyData.hasDict] using n)
      exact ⟨.lst (.inl (.inl h)) q1, by simp only [PyData.canLay0]; exact q2⟩
    | dctK _ _ _ _ e => subst e; simp only [PyData.hasDict] at n; cases n
    | dctT _ _ _ _ e => subst e; simp only [PyData.hasDict] at n; cases n
    | ins _ _ _ _ e => subst e; simp only [insD, PyData.hasDict] at n; cases n
/-- data that can be compared -/
def okD (d : D) : Bool := !d.hasDict && decide (d.depth ≤ 64)
theorem Pk.cmp {F H : Hp} {v : V} {d : D} (s : Sub F H) (h : Pk g F H v d) (n : okD d = true) : Dp g.K H v d ∧ SeqAt.shaped d = true := by
  unfold okD at n
  simp only [Bool.and_eq_true, Bool.not_eq_true', decide_eq_true_eq] at n
  obtain ⟨q1, q2⟩ := h.dp s n.1
  exact ⟨q1, by unfold SeqAt.shaped; simp [q2, n.2]⟩
def dEq (d e : D) : Option Rv := if okD d && okD e then some (.val (.bool (PyData.eqv d e))) else none
def dNe (d e : D) : Option Rv := if okD d && okD e then some (.val (.bool (!PyData.eqv d e))) else none
theorem good_eq : Good2B g (rEqD g.K) dEq := by
  have k : ∀ F H x y d e b, Sub F H → Pk g F H x d → Pk g F H y e → dEq d e = some (.val (.bool b)) → ∀ Q : VK, Q (.bl b) H → rEqD g.K x y H Q := fun F H x y d e b s hx hy q Q hq => by
    unfold dEq at q
    split at q
    · rename_i h
      rw [Bool.and_eq_true] at h
      cases q
      obtain ⟨q1, q2⟩ := hx.cmp s h.1
      obtain ⟨q3, q4⟩ := hy.cmp s h.2
      exact ⟨d, e, q1, q3, q2, q4, hq⟩
    · cases q
  refine ⟨⟨fun F H x y d e Q s hx hy p => ?_, fun d e => ?_⟩, k⟩
  · cases q : dEq d e with
    | none => rw [q] at p; exact p.elim
    | some r =>
      have : ∃ b, r = .val (.bool b) := by
        unfold dEq at q
        split at q
        · cases q; exact ⟨_, rfl⟩
        · cases q
      obtain ⟨b, rfl⟩ := this
      rw [q] at p
      exact k F H x y d e b s hx hy q Q (p.val0 s (.bl b))
  · unfold dEq; split <;> first | exact NoSl.val | exact NoSl.none
theorem good_ne : Good2B g (rNeD g.K) dNe := by
  have k : ∀ F H x y d e b, Sub F H → Pk g F H x d → Pk g F H y e → dNe d e = some (.val (.bool b)) → ∀ Q : VK, Q (.bl b) H → rNeD g.K x y H Q := fun F H x y d e b s hx hy q Q hq => by
    unfold dNe at q
    split at q
    · rename_i h
      rw [Bool.and_eq_true] at h
      cases q
      obtain ⟨q1, q2⟩ := hx.cmp s h.1
      obtain ⟨q3, q4⟩ := hy.cmp s h.2
      exact ⟨d, e, q1, q3, q2, q4, hq⟩
    · cases q
  refine ⟨⟨fun F H x y d e Q s hx hy p => ?_, fun d e => ?_⟩, k⟩
  · cases q : dNe d e with
    | none => rw [q] at p; exact p.elim
    | some r =>
      have : ∃ b, r = .val (.bool b) := by
        unfold dNe at q
        split at q
        · cases q; exact ⟨_, rfl⟩
        · cases q
      obtain ⟨b, rfl⟩ := this
      rw [q] at p
      exact k F H x y d e b s hx hy q Q (p.val0 s (.bl b))
  · unfold dNe; split <;> first | exact NoSl.val | exact NoSl.none
/-- a comparison by its table on ints and texts -/
def dOrd (pi : Int → Int → Bool) (ps : Str → Str → Bool) : D → D → Option Rv
  | .int i, .int j => some (.val (.bool (pi i j)))
  | .str x, .str y => some (.val (.bool (ps x y)))
  | _, _ => none
abbrev rOrd (pi : Int → Int → Bool) (ps : Str → Str → Bool) : R2 := fun x y H Q => rI0 (fun i j => .bl (pi i j)) x y H Q ∨ ∃ i j, x = .str i ∧ y = .str j ∧ Q (.bl (ps i j)) H
theorem good_ord {pi : Int → Int → Bool} {ps : Str → Str → Bool} : Good2B g (rOrd pi ps) (dOrd pi ps) := by
  have k : ∀ F H x y d e b, Sub F H → Pk g F H x d → Pk g F H y e → dOrd pi ps d e = some (.val (.bool b)) → ∀ Q : VK, Q (.bl b) H → rOrd pi ps x y H Q := fun F H x y d e b s hx hy q Q hq => by
    unfold dOrd at q
    split at q
    · cases q; exact .inl ⟨_, _, hx.int, hy.int, hq⟩
    · cases q; exact .inr ⟨_, _, hx.str.1, hy.str.1, hq⟩
    · cases q
  refine ⟨⟨fun F H x y d e Q s hx hy p => ?_, fun d e => ?_⟩, k⟩
  · cases q : dOrd pi ps d e with
    | none => rw [q] at p; exact p.elim
    | some r =>
      have : ∃ b, r = .val (.bool b) := by
        unfold dOrd at q
        split at q <;> first | (cases q; exact ⟨_, rfl⟩) | cases q
      obtain ⟨b, rfl⟩ := this
      rw [q] at p
      exact k F H x y d e b s hx hy q Q (p.val0 s (.bl b))
  · unfold dOrd; split <;> first | exact NoSl.val | exact NoSl.none
def ltS (x y : Str) : Bool := decide (x.cps.toList < y.cps.toList)
abbrev dLt := dOrd (fun i j => decide (i < j)) ltS
abbrev dLe := dOrd (fun i j => decide (i ≤ j)) (fun x y => !ltS y x)
abbrev dGt := dOrd (fun i j => decide (j < i)) (fun x y => ltS y x)
abbrev dGe := dOrd (fun i j => decide (j ≤ i)) (fun x y => !ltS x y)
section
variable {X : Cx}
theorem op_ltD : OpR X (compareOp .Lt) (rOrd (fun i j => decide (i < j)) ltS) := OpR.or op_lt op_lt_str
theorem op_leD : OpR X (compareOp .LtE) (rOrd (fun i j => decide (i ≤ j)) fun x y => !ltS y x) := OpR.or op_le op_le_str
theorem op_gtD : OpR X (compareOp .Gt) (rOrd (fun i j => decide (j < i)) fun x y => ltS y x) := OpR.or op_gt op_gt_str
theorem op_geD : OpR X (compareOp .GtE) (rOrd (fun i j => decide (j ≤ i)) fun x y => !ltS x y) := OpR.or op_ge op_ge_str
end

/-! ### in -/
def mem1 (x y : Str) : Option Bool := match x.cps.toList with
  | [c] => some (decide (c ∈ y.cps.toList))
  | _ => none
def dIn : D → D → Option Rv
  | .str x, .str y => (mem1 x y).map fun b => .val (.bool b)
  | d, .list ds => if okD d && okD (.list ds) then some (.val (.bool (ds.any fun z => PyData.eqv z d))) else none
  | d, .tuple ds => if okD d && okD (.tuple ds) then some (.val (.bool (ds.any fun z => PyData.eqv z d))) else none
  | _, _ => none
def dNotIn : D → D → Option Rv
  | .str x, .str y => (mem1 x y).map fun b => .val (.bool (!b))
  | d, .list ds => if okD d && okD (.list ds) then some (.val (.bool (!ds.any fun z => PyData.eqv z d))) else none
  | d, .tuple ds => if okD d && okD (.tuple ds) then some (.val (.bool (!ds.any fun z => PyData.eqv z d))) else none
  | _, _ => none
def rInT (K : PySem.W.Frag) : R2 := fun x y H Q => ∃ d ds, Dp K H x d ∧ Dp K H y (.tuple ds) ∧ SeqAt.shaped d = true ∧ SeqAt.shaped (.tuple ds) = true ∧ Q (.bl (ds.any fun z => PyData.eqv z d)) H
def rNotInT (K : PySem.W.Frag) : R2 := fun x y H Q => ∃ d ds, Dp K H x d ∧ Dp K H y (.tuple ds) ∧ SeqAt.shaped d = true ∧ SeqAt.shaped (.tuple ds) = true ∧ Q (.bl (!ds.any fun z => PyData.eqv z d)) H
section
variable {X : Cx}
theorem op_inT (hu : X.A.units + 65 < cLine) : OpR X (compareOp .In) (rInT X.K) := by
  intro pins s σ H x y v u Q I rx ry ⟨d, ds, hd, he, sd, se, q⟩
  obtain ⟨as, r1⟩ := Dp.reads I d x v hd rx
  obtain ⟨bs, r2⟩ := Dp.reads I (.tuple ds) y u he ry
  exact SeqAt.in_tuple_reads r2 r1 (SeqAt.canLay_of_shaped se) (SeqAt.canLay_of_shaped sd) (PyProof.Rows.room_in_shaped sd hu) ⟨.bl _, H, I, rfl, q⟩
theorem op_notInT (hu : X.A.units + 65 < cLine) : OpR X (compareOp .NotIn) (rNotInT X.K) := by
  intro pins s σ H x y v u Q I rx ry ⟨d, ds, hd, he, sd, se, q⟩
  obtain ⟨as, r1⟩ := Dp.reads I d x v hd rx
  obtain ⟨bs, r2⟩ := Dp.reads I (.tuple ds) y u he ry
  exact SeqAt.notIn_tuple_reads r2 r1 (SeqAt.canLay_of_shaped se) (SeqAt.canLay_of_shaped sd) (PyProof.Rows.room_in_shaped sd hu) ⟨.bl _, H, I, rfl, q⟩
abbrev rInX (K : PySem.W.Frag) : R2 := fun x y H Q => (∃ (c : Nat) (z : Str), x = .str ⟨#[c]⟩ ∧ y = .str z ∧ Q (.bl (decide (c ∈ z.cps.toList))) H) ∨ (rInD K x y H Q ∨ rInT K x y H Q)
abbrev rNotInX (K : PySem.W.Frag) : R2 := fun x y H Q => (∃ (c : Nat) (z : Str), x = .str ⟨#[c]⟩ ∧ y = .str z ∧ Q (.bl (!decide (c ∈ z.cps.toList))) H) ∨ (rNotInD K x y H Q ∨ rNotInT K x y H Q)
theorem op_inX (hu : X.A.units + 65 < cLine) : OpR X (compareOp .In) (rInX X.K) := OpR.or op_in_sign (OpR.or (op_inD hu) (op_inT hu))
theorem op_notInX (hu : X.A.units + 65 < cLine) : OpR X (compareOp .NotIn) (rNotInX X.K) := OpR.or op_notIn_sign (OpR.or (op_notInD hu) (op_notInT hu))
end
theorem mem1_some {x y : Str} {b : Bool} (h : mem1 x y = some b) : ∃ c, x = ⟨#[c]⟩ ∧ b = decide (c ∈ y.cps.toList) := by
  unfold mem1 at h
  split at h
  · rename_i c q
    cases h
    refine ⟨c, ?_, rfl⟩
    cases x with
    | mk cps => have : cps = #[c] := by rw [← Array.toList_inj]; exact q
                rw [this]
  · cases h
theorem good_in : Good2 g (rInX g.K) dIn := by
  refine ⟨fun F H x y d e Q s hx hy p => ?_, fun d e => ?_⟩
  · unfold dIn at p
    split at p
    · rename_i a b
      cases q : mem1 a b with
      | none => rw [q] at p; exact p.elim
      | some c =>
        rw [q] at p
        obtain ⟨c', rfl, rfl⟩ := mem1_some q
        exact .inl ⟨c', _, hx.str.1, hy.str.1, p.val0 s (.bl _)⟩
    · split at p
      · rename_i h
        rw [Bool.and_eq_true] at h
        obtain ⟨q1, q2⟩ := hx.cmp s h.1
        obtain ⟨q3, q4⟩ := hy.cmp s h.2
        exact .inr (.inl ⟨_, _, q1, q3, q2, q4, p.val0 s (.bl _)⟩)
      · exact p.elim
    · split at p
      · rename_i h
        rw [Bool.and_eq_true] at h
        obtain ⟨q1, q2⟩ := hx.cmp s h.1
        obtain ⟨q3, q4⟩ := hy.cmp s h.2
        exact .inr (.inr ⟨_, _, q1, q3, q2, q4, p.val0 s (.bl _)⟩)
      · exact p.elim
    · exact p.elim
  · unfold dIn
    split
    · rename_i a b; cases mem1 a b <;> first | exact NoSl.val | exact NoSl.none
    · split <;> first | exact NoSl.val | exact NoSl.none
    · split <;> first | exact NoSl.val | exact NoSl.none
    · exact NoSl.none
theorem good_notIn : Good2 g (rNotInX g.K) dNotIn := by
  refine ⟨fun F H x y d e Q s hx hy p => ?_, fun d e => ?_⟩
  · unfold dNotIn at p
    split at p
    · rename_i a b
      cases q : mem1 a b with
      | none => rw [q] at p; exact p.elim
      | some c =>
        rw [q] at p
        obtain ⟨c', rfl, rfl⟩ := mem1_some q
        exact .inl ⟨c', _, hx.str.1, hy.str.1, p.val0 s (.bl _)⟩
    · split at p
      · rename_i h
        rw [Bool.and_eq_true] at h
        obtain ⟨q1, q2⟩ := hx.cmp s h.1
        obtain ⟨q3, q4⟩ := hy.cmp s h.2
        exact .inr (.inl ⟨_, _, q1, q3, q2, q4, p.val0 s (.bl _)⟩)
      · exact p.elim
    · split at p
      · rename_i h
        rw [Bool.and_eq_true] at h
        obtain ⟨q1, q2⟩ := hx.cmp s h.1
        obtain ⟨q3, q4⟩ := hy.cmp s h.2
        exact .inr (.inr ⟨_, _, q1, q3, q2, q4, p.val0 s (.bl _)⟩)
      · exact p.elim
    · exact p.elim
  · unfold dNotIn
    split
    · rename_i a b; cases mem1 a b <;> first | exact NoSl.val | exact NoSl.none
    · split <;> first | exact NoSl.val | exact NoSl.none
    · split <;> first | exact NoSl.val | exact NoSl.none
    · exact NoSl.none

/-! ### is -/
def isNon : D → Bool
  | .none => true
  | _ => false
theorem Pk.isNon {F H : Hp} {v : V} {d : D} (h : Pk g F H v d) : decide (v = .non) = isNon d := by
  rcases h with h | ⟨a, e, h⟩
  · cases h <;> first | rfl | (rename_i e; subst e; rfl)
  · subst e
    cases h <;> first | rfl | (rename_i e; subst e; rfl)
def dIs : D → D → Option Rv
  | d, .none => some (.val (.bool (isNon d)))
  | .bool a, .bool b => some (.val (.bool (decide (a = b))))
  | _, _ => none
def dIsNot : D → D → Option Rv
  | d, .none => some (.val (.bool (!isNon d)))
  | .bool a, .bool b => some (.val (.bool (!decide (a = b))))
  | _, _ => none
abbrev rIsX : R2 := fun x y H Q => (y = .non ∧ Q (.bl (decide (x = .non))) H) ∨ ∃ a b, x = .bl a ∧ y = .bl b ∧ Q (.bl (decide (a = b))) H
abbrev rIsNotX : R2 := fun x y H Q => (y = .non ∧ Q (.bl (!decide (x = .non))) H) ∨ ∃ a b, x = .bl a ∧ y = .bl b ∧ Q (.bl (!decide (a = b))) H
theorem op_isX {X : Cx} : OpR X (compareOp .Is) rIsX := OpR.or op_isN op_is_bl
theorem op_isNotX {X : Cx} : OpR X (compareOp .IsNot) rIsNotX := OpR.or op_notN op_isnot_bl
theorem good_is : Good2 g rIsX dIs := by
  refine ⟨fun F H x y d e Q s hx hy p => ?_, fun d e => ?_⟩
  · unfold dIs at p
    split at p
    · exact .inl ⟨hy.non, by rw [hx.isNon]; exact p.val0 s (.bl _)⟩
    · exact .inr ⟨_, _, hx.bl, hy.bl, p.val0 s (.bl _)⟩
    · exact p.elim
  · unfold dIs; split <;> first | exact NoSl.val | exact NoSl.none
theorem good_isNot : Good2 g rIsNotX dIsNot := by
  refine ⟨fun F H x y d e Q s hx hy p => ?_, fun d e => ?_⟩
  · unfold dIsNot at p
    split at p
    · exact .inl ⟨hy.non, by rw [hx.isNon]; exact p.val0 s (.bl _)⟩
    · exact .inr ⟨_, _, hx.bl, hy.bl, p.val0 s (.bl _)⟩
    · exact p.elim
  · unfold dIsNot; split <;> first | exact NoSl.val | exact NoSl.none

/-! ### xs[i] -/
theorem Pk.ro {F H : Hp} {v : V} {ds : List D} (s : Sub F H) (h : Pk g F H v (roD ds)) : ∃ a xs, v = .ref a ∧ SqL g.K H a xs ∧ DenL g F xs ds := by
  rcases h with h | ⟨a, e, h⟩
  · generalize hd : roD ds = d at h
    cases h with
    | ro h r e => unfold roD at hd e; subst hd; injection e with e; injection e with e _; injection e with _ e; injection e with e; subst e; exact ⟨_, _, rfl, s.sqL h, r⟩
    | ins _ _ _ _ e => subst e; simp [roD, insD] at hd
    | @dctK a kvs vs ds' d _ _ _ _ e =>
      subst e
      unfold roD at hd
      injection hd with hd
      cases kvs with
      | nil => simp at hd
      | cons p r => cases ds' with
        | nil => simp at hd
        | cons d' r' =>
          simp only [List.map_cons, List.zip_cons_cons] at hd
          injection hd with hd _
          injection hd with hd _
          cases p.1 <;> (rename_i w; simp [keyD] at hd) <;> (first | (cases hk : p.1 <;> rw [hk] at hd <;> simp [keyD] at hd) | skip)
    | @dctT a kvs vs ds' d _ _ _ _ e =>
      subst e
      unfold roD at hd
      injection hd with hd
      cases kvs with
      | nil => simp at hd
      | cons p r => cases ds' with
        | nil => simp at hd
        | cons d' r' =>
          simp only [List.map_cons, List.zip_cons_cons] at hd
          injection hd with hd _
          injection hd with hd _
          cases hd
    | _ => simp [roD] at hd
  · generalize hd : roD ds = d at h
    cases h with
    | lst => simp [roD] at hd
    | @dctK kvs vs ds' d _ _ _ _ e =>
      subst e
      unfold roD at hd
      injection hd with hd
      cases kvs with
      | nil => simp at hd
      | cons p r => cases ds' with
        | nil => simp at hd
        | cons d' r' =>
          simp only [List.map_cons, List.zip_cons_cons] at hd
          injection hd with hd _
          injection hd with hd _
          cases hk : p.1 <;> rw [hk] at hd <;> simp [keyD] at hd
    | @dctT kvs vs ds' d _ _ _ _ e =>
      subst e
      unfold roD at hd
      injection hd with hd
      cases kvs with
      | nil => simp at hd
      | cons p r => cases ds' with
        | nil => simp at hd
        | cons d' r' =>
          simp only [List.map_cons, List.zip_cons_cons] at hd
          injection hd with hd _
          injection hd with hd _
          cases hd
    | ins _ _ _ _ e => subst e; simp [roD, insD] at hd
end DL
namespace DL
open PySem PySem.Spec L2
variable {g : G} {W : WX}

/-! ### xs[i] -/
def atD (ds : List D) (i : Int) : Option D := (ixN ds.length i).bind fun j => ds[j]?
theorem DenL.at {F : Hp} {vs : List V} {ds : List D} {i : Int} {d : D} (h : DenL g F vs ds) (e : atD ds i = some d) : ∃ v, atI vs i = some v ∧ Den g F v d := by
  unfold atD at e
  unfold atI
  rw [h.length]
  cases q : ixN ds.length i with
  | none => rw [q] at e; cases e
  | some j => rw [q] at e; exact h.get e
def signS (c : Nat) : Str := ⟨#[c]⟩
def dIx : D → D → Option Rv
  | .list ds, .int i => (atD ds i).map .val
  | .tuple ds, .int i => (atD ds i).map .val
  | .str x, .int i => if x.length ≤ lineM then (atI x.cps.toList i).map fun c => .val (.str (signS c)) else none
  | .dict [(.bool true, .list ds)], .int i => (atD ds i).map .val
  | _, _ => none
theorem good_ix : Good2 g (rIx g.K) dIx := by
  refine ⟨fun F H x y d e Q s hx hy p => ?_, fun d e => ?_⟩
  · unfold dIx at p
    split at p
    · rename_i ds i
      cases q : atD ds i with
      | none => rw [q] at p; exact p.elim
      | some d' =>
        rw [q] at p
        obtain ⟨a, xs, e1, h1, d1⟩ := hx.lst s
        obtain ⟨v, q1, q2⟩ := d1.at q
        exact .inl ⟨a, xs, i, v, e1, hy.int, .inl (.inl h1), q1, p.val0 s q2⟩
    · rename_i ds i
      cases q : atD ds i with
      | none => rw [q] at p; exact p.elim
      | some d' =>
        rw [q] at p
        obtain ⟨a, xs, e1, h1, d1⟩ := hx.tup s
        obtain ⟨v, q1, q2⟩ := d1.at q
        exact .inr (.inl ⟨a, xs, i, v, e1, hy.int, h1, q1, p.val0 s q2⟩)
    · rename_i z i
      split at p
      · rename_i hl
        cases q : atI z.cps.toList i with
        | none => rw [q] at p; exact p.elim
        | some c =>
          rw [q] at p
          obtain ⟨e1, o1⟩ := hx.str
          have hc : strOk (signS c) = true := strOk_sub (l := [c]) o1 fun c' hc => by
            have : c' = c := by simpa using hc
            subst this
            unfold atI at q
            cases q2 : ixN z.cps.toList.length i with
            | none => rw [q2] at q; cases q
            | some j => rw [q2] at q; exact List.mem_of_getElem? q
          exact .inr (.inr ⟨z, i, c, e1, hy.int, by rw [lineM_eq]; exact hl, q, p.val0 s (.str _ hc)⟩)
      · exact p.elim
    · rename_i ds i
      cases q : atD ds i with
      | none => rw [q] at p; exact p.elim
      | some d' =>
        rw [q] at p
        obtain ⟨a, xs, e1, h1, d1⟩ := Pk.ro s hx
        obtain ⟨v, q1, q2⟩ := d1.at q
        exact .inl ⟨a, xs, i, v, e1, hy.int, h1, q1, p.val0 s q2⟩
    · exact p.elim
  · unfold dIx
    split
    · rename_i ds i; cases atD ds i <;> first | exact NoSl.val | exact NoSl.none
    · rename_i ds i; cases atD ds i <;> first | exact NoSl.val | exact NoSl.none
    · split
      · rename_i z i _; cases atI z.cps.toList i <;> first | exact NoSl.val | exact NoSl.none
      · exact NoSl.none
    · rename_i ds i; cases atD ds i <;> first | exact NoSl.val | exact NoSl.none
    · exact NoSl.none

/-! ### slices -/
def cutD (ds : List D) (lo hi : Option Int) : List D := (ds.drop (HT.sIx ds.length 0 lo)).take (HT.sIx ds.length ds.length hi - HT.sIx ds.length 0 lo)
theorem DenL.cut {F : Hp} {vs : List V} {ds : List D} (h : DenL g F vs ds) (lo hi : Option Int) : DenL g F (cutV vs lo hi) (cutD ds lo hi) := by
  unfold cutV cutD
  rw [h.length]
  exact (h.drop _).take _
def dSl : D → Option Int → Option Int → Option Rv
  | .str x, lo, hi => if x.length ≤ lineM then some (.val (.str (cutS x lo hi))) else none
  | .list ds, lo, hi => some (.new (.list (cutD ds lo hi)))
  | .tuple ds, lo, hi => some (.val (.tuple (cutD ds lo hi)))
  | _, _, _ => none
abbrev rSlD (K : PySem.W.Frag) : V → Option Int → Option Int → Hp → VK → Prop := fun x lo hi H Q => rSlS x lo hi H Q ∨ (rSlL K x lo hi H Q ∨ rSlA K x lo hi H Q)
theorem sl_D {X : Cx} : SlR X (rSlD X.K) := SlR.or sl_str (SlR.or sl_list sl_tupA)
theorem good_slD : GoodSl g (rSlD g.K) dSl := by
  refine ⟨fun F H x d lo hi Q s hx p => ?_, fun d lo hi => ?_⟩
  · unfold dSl at p
    split at p
    · split at p
      · rename_i hl
        obtain ⟨e1, o1⟩ := hx.str
        exact .inl ⟨_, e1, by rw [lineM_eq]; exact hl, p.val0 s (.str _ (strOk_cut o1))⟩
      · exact p.elim
    · obtain ⟨a, xs, e1, h1, d1⟩ := hx.lst s
      exact .inr (.inl ⟨a, xs, e1, .inl (.inl h1), fun q hq => p.newL s hq (d1.cut lo hi)⟩)
    · rename_i ds
      obtain ⟨a, xs, e1, h1, d1⟩ := hx.tup s
      refine .inr (.inr ⟨a, xs, e1, h1, fun w => ?_, fun _ q hq => p.valT s hq (d1.cut lo hi)⟩)
      rw [d1.length] at w
      have : cutD ds lo hi = ds := by unfold cutD; rw [w.1, w.2]; simp
      rw [this] at p
      subst e1
      rcases hx with hx | ⟨_, _, w⟩
      · exact p.val0 s hx
      · cases w <;> (rename_i e; cases e)
    · exact p.elim
  · unfold dSl
    split
    · split <;> first | exact NoSl.val | exact NoSl.none
    · exact NoSl.new
    · exact NoSl.val
    · exact NoSl.none
/-- [::-1] -/
def revS (x : Str) : Str := ⟨x.cps.toList.reverse.toArray⟩
def dRev : D → Option Rv
  | .str x => if x.length ≤ lineM then some (.val (.str (revS x))) else none
  | .list ds => some (.new (.list ds.reverse))
  | _ => none
def rRev : V → Hp → VK → Prop := fun x H Q => (∃ z, x = .str z ∧ z.length ≤ lineM ∧ Q (.str (revS z)) H) ∨ ∃ a xs, x = .ref a ∧ H a = some (.lst xs) ∧ ∀ p, H p = none → Q (.ref p) (upd H p (.lst xs.reverse))
theorem rev_pick (z : Str) : ((Builtin.Str.strSliceIndices none none (-1) z.length).filterMap (z.cps[·]?)).toArray = z.cps.toList.reverse.toArray := by
  have e : Builtin.Str.strSliceIndices none none (-1) z.length = sliceRange ((z.length : Int) - 1) (-1) (-1) := rfl
  rw [e, PySem.W.krv_sliceRange, PySem.W.krv_range, List.filterMap_reverse]
  have := PySem.W.krv_all z.cps
  show ((List.range z.cps.size).filterMap (z.cps[·]?)).reverse.toArray = _
  rw [this]
theorem pe_rev {X : Cx} {e : Expr} {te : TE} {k : Nat} {p1 p2 p3 pos : Pos} (he : PE X e te) : PE X (.Subscript e (.Slice none none (some (.UnaryOp .USub (.Constant (.int 1) k p1) p2)) p3) pos) (tUn rRev te) := by
  refine ⟨fun pins s σ H Q I h => ?_⟩
  refine PyProof.Rows.Subscript_ (thn (he.run pins s σ H _ I h) fun v s1 ⟨x, H1, I1, r1, q1⟩ => ?_)
  have hst : PO X (some (.UnaryOp .USub (.Constant (.int 1) k p1) p2)) (tPart (tUn (rU fun i => .int (-i)) (tC (.int 1)))) := po_some (pe_un un_neg pe_int)
  refine wpAny_Slice (thn (po_none.run pins s1 σ H1 (fun o H2 => o = none ∧ H2 = H1) I1 ⟨rfl, rfl⟩) fun vl s2 ⟨l, H2, I2, pl, el, e2⟩ => ?_)
  subst el
  subst e2
  refine thn (po_none.run pins s2 σ H2 (fun o H3 => o = none ∧ H3 = H2) I2 ⟨rfl, rfl⟩) fun vu s3 ⟨u, H3, I3, pu, eu, e3⟩ => ?_
  subst eu
  subst e3
  refine thn (hst.run pins s3 σ H3 (fun o H4 => o = some (-1) ∧ H4 = H3) I3 ⟨1, rfl, -1, rfl, rfl, rfl⟩) fun vs s4 ⟨o, H4, I4, ps, eo, e4⟩ => ?_
  subst eo
  subst e4
  have J : Inv X pins σ H4 { s4 with heap := s4.heap.push { cls := .type "slice", data := .fields #[vl, vu, vs] } } := I4.kept (t' := s4.toks) fun b ob q => Heap.get?_push_of_some _ q
  rcases q1 with ⟨z, ez, hz, q⟩ | ⟨a, xs, ea, hx, q⟩
  · subst ez
    obtain ⟨t, rfl⟩ := r1
    obtain ⟨l', rfl, el'⟩ := IsPart.raw pl
    obtain ⟨u', rfl, eu'⟩ := IsPart.raw pu
    obtain ⟨w', rfl, ew'⟩ := IsPart.raw ps
    refine PyProof.Rows.tail_any (T := "str") (ops := [.str z t, .ref s4.heap.objs.size]) (typeIs_str _ _ _) PySem.F.slot_str_getitem.lookup ?_ (by with_unfolding_all rfl)
    have hw : (w'.map (·.1)).getD 1 = -1 := by rw [ew']; rfl
    refine PySem.wpAny_getItem_str_slice (l := l') (u := u') (st := w') ⟨_, Heap.get?_push_size _ rfl, rfl, rfl⟩ (by rw [hw]; rfl) ?_
    have hp : ((Builtin.Str.strSliceIndices (l'.map (·.1)) (u'.map (·.1)) ((w'.map (·.1)).getD 1) z.length).filterMap (z.cps[·]?)).toArray = z.cps.toList.reverse.toArray := by
      rw [hw, el', eu']
      exact rev_pick z
    show Made.post (if ((w'.map (·.1)).getD 1 == 1 && (Builtin.Str.strSliceIndices (l'.map (·.1)) (u'.map (·.1)) ((w'.map (·.1)).getD 1) z.length).length == z.length) = true then Made.val (.str z t)
      else Made.str ⟨((Builtin.Str.strSliceIndices (l'.map (·.1)) (u'.map (·.1)) ((w'.map (·.1)).getD 1) z.length).filterMap (z.cps[·]?)).toArray⟩) (EP X pins σ Q) _
    rw [hp, hw]
    rw [if_neg (by simp)]
    refine ⟨?_, .str (revS z), H4, J.tok _, ⟨_, rfl⟩, q⟩
    show (z.cps.toList.reverse.toArray).size ≤ sizeLine
    rw [lineM_eq]
    have : (z.cps.toList.reverse.toArray).size = z.length := by simp [Str.length]
    rw [this]; exact hz
  · subst ea
    cases r1
    obtain ⟨its, r, ht, hz⟩ := J.list (.inl (.inl hx))
    have hlen := r.length
    refine PyProof.Rows.tail_any (ops := [.ref a, .ref s4.heap.objs.size]) ht.isList.typeIs PySem.slot_list_getitem.lookup ?_ (by with_unfolding_all rfl)
    refine wpAny_getItem_list_slice ht.isList (Heap.IsSliceOf.new _ vl vu vs) pl pu ps (by decide) ?_ (by rw [List.size_toArray]; omega)
    rw [PySem.W.krv_pick]
    refine ⟨.ref _, _, J.laid (t' := s4.toks) (o := .lst xs.reverse) (fun b ob q => Heap.get?_push_of_some _ q) (Nat.le_refl _) ?_, rfl, q _ (J.hok.fresh (Nat.le_refl _))⟩
    exact ⟨by rw [List.length_reverse]; exact hz, _, 0, r.reverse, Heap.get?_push_size _ rfl⟩
theorem DenL.reverse {F : Hp} : ∀ {vs : List V} {ds : List D}, DenL g F vs ds → DenL g F vs.reverse ds.reverse
  | _, _, .nil => .nil
  | _, _, .cons h r => by rw [List.reverse_cons, List.reverse_cons]; exact (DenL.reverse r).append (.cons h .nil)
/-- what is made of one value -/
structure Good1 (g : G) (r : V → Hp → VK → Prop) (o : D → Option Rv) : Prop where
  run : ∀ F H x d Q, Sub F H → Pk g F H x d → Post0 g F H Q (o d) → r x H Q
  nosl : ∀ d, NoSl (o d)
def mUn (o : D → Option Rv) (f : ME) : ME := fun env => f env >>= fun z => z.1.data z.2 >>= fun d => orStuck (o d) z.2
theorem good_un {t : TE} {r : V → Hp → VK → Prop} {o : D → Option Rv} {f : ME} (h : GoodE g W t f) (ho : Good1 g r o) : GoodE g W (tUn r t) (mUn o f) := fun F H σ env Q k p => by
  refine h F H σ env _ k (Post.bind RE.early p fun r1 e1 F1 H1 x x1 k1 kp1 rv1 p1 => ?_)
  rcases data_cases r1 e1 with ⟨d, q⟩ | q
  · simp only [q, Res.ok_bind] at p1
    exact ho.run F1 H1 x d Q k1.sub (RvOk.pk rv1 k1 q) (post0_of k1 p1 (ho.nosl d))
  · simp only [q, Res.stuck_bind] at p1; exact p1.elim
theorem good_rev : Good1 g rRev dRev := by
  refine ⟨fun F H x d Q s hx p => ?_, fun d => ?_⟩
  · unfold dRev at p
    split at p
    · split at p
      · rename_i hl
        obtain ⟨e1, o1⟩ := hx.str
        exact .inl ⟨_, e1, hl, p.val0 s (.str _ (strOk_sub o1 fun c hc => by simpa using hc))⟩
      · exact p.elim
    · obtain ⟨a, xs, e1, h1, d1⟩ := hx.lst s
      exact .inr ⟨a, xs, e1, h1, fun q hq => p.newL s hq d1.reverse⟩
    · exact p.elim
  · unfold dRev
    split
    · split <;> first | exact NoSl.val | exact NoSl.none
    · exact NoSl.new
    · exact NoSl.none
theorem de_rev {X : Cx} {e : Expr} {f : ME} {k : Nat} {p1 p2 p3 pos : Pos} (h : DE X W e f) : DE X W (.Subscript e (.Slice none none (some (.UnaryOp .USub (.Constant (.int 1) k p1) p2)) p3) pos) (mUn dRev f) := by
  obtain ⟨t, pt, gt⟩ := h
  exact ⟨_, pe_rev pt, good_un gt good_rev⟩
def dNeg : D → Option Rv
  | .int i => some (.val (.int (-i)))
  | _ => none
theorem good_neg : Good1 g (rU fun i => .int (-i)) dNeg := by
  refine ⟨fun F H x d Q s hx p => ?_, fun d => ?_⟩
  · unfold dNeg at p
    split at p
    · exact ⟨_, hx.int, p.val0 s (.int _)⟩
    · exact p.elim
  · unfold dNeg; split <;> first | exact NoSl.val | exact NoSl.none
theorem de_neg {X : Cx} {e : Expr} {f : ME} {pos : Pos} (h : DE X W e f) : DE X W (.UnaryOp .USub e pos) (mUn dNeg f) := by
  obtain ⟨t, pt, gt⟩ := h
  exact ⟨_, pe_un un_neg pt, good_un gt good_neg⟩

/-! ### built-in functions -/
theorem Pks.one {F H : Hp} {vs : List V} {d : D} (h : Pks g F H vs [d]) : ∃ v, vs = [v] ∧ Pk g F H v d := by
  cases h with
  | cons h1 h2 => cases h2; exact ⟨_, rfl, h1⟩
theorem Pks.two {F H : Hp} {vs : List V} {d e : D} (h : Pks g F H vs [d, e]) : ∃ v w, vs = [v, w] ∧ Pk g F H v d ∧ Pk g F H w e := by
  cases h with
  | cons h1 h2 =>
    obtain ⟨w, e2, h3⟩ := Pks.one h2
    subst e2
    exact ⟨_, w, rfl, h1, h3⟩
def dLen : List D → Option Rv
  | [.list ds] => some (.val (.int ds.length))
  | [.tuple ds] => some (.val (.int ds.length))
  | [.str x] => if x.length ≤ lineM then some (.val (.int x.length)) else none
  | [.dict [(.bool true, .list ds)]] => some (.val (.int ds.length))
  | _ => none
abbrev rLen (K : PySem.W.Frag) : List V → Hp → VK → Prop := fun xs H Q => (∃ p ys, xs = [.ref p] ∧ (SqL K H p ys ∨ SqT K H p ys) ∧ Q (.int ys.length) H) ∨ ∃ z, xs = [.str z] ∧ z.length ≤ sizeLine ∧ Q (.int z.length) H
theorem call_lenD2 {X : Cx} : CallR X (.builtin "len") (rLen X.K) := CallR.or call_len_seq call_len_str
theorem good_len : GoodC g (rLen g.K) dLen := by
  refine ⟨fun F H vs ds Q s h p => ?_, fun ds => ?_⟩
  · unfold dLen at p
    split at p
    · obtain ⟨v, rfl, hx⟩ := h.one
      obtain ⟨a, xs, rfl, h1, d1⟩ := hx.lst s
      exact .inl ⟨a, xs, rfl, .inl (.inl (.inl h1)), by rw [d1.length]; exact p.val0 s (.int _)⟩
    · obtain ⟨v, rfl, hx⟩ := h.one
      obtain ⟨a, xs, rfl, h1, d1⟩ := hx.tup s
      exact .inl ⟨a, xs, rfl, .inr h1, by rw [d1.length]; exact p.val0 s (.int _)⟩
    · split at p
      · rename_i hl
        obtain ⟨v, rfl, hx⟩ := h.one
        obtain ⟨rfl, o1⟩ := hx.str
        exact .inr ⟨_, rfl, by rw [lineM_eq]; exact hl, p.val0 s (.int _)⟩
      · exact p.elim
    · obtain ⟨v, rfl, hx⟩ := h.one
      obtain ⟨a, xs, rfl, h1, d1⟩ := Pk.ro s hx
      exact .inl ⟨a, xs, rfl, .inl h1, by rw [d1.length]; exact p.val0 s (.int _)⟩
    · exact p.elim
  · unfold dLen
    split <;> first | exact NoSl.val | exact NoSl.none | (split <;> first | exact NoSl.val | exact NoSl.none)
def dMax2 : List D → Option Rv
  | [.int i, .int j] => some (.val (.int (if j > i then j else i)))
  | _ => none
theorem good_max2 : GoodC g (fun xs H Q => ∃ i j, xs = [.int i, .int j] ∧ Q (.int (if j > i then j else i)) H) dMax2 := by
  refine ⟨fun F H vs ds Q s h p => ?_, fun ds => ?_⟩
  · unfold dMax2 at p
    split at p
    · obtain ⟨v, w, rfl, h1, h2⟩ := h.two
      exact ⟨_, _, by rw [h1.int, h2.int], p.val0 s (.int _)⟩
    · exact p.elim
  · unfold dMax2; split <;> first | exact NoSl.val | exact NoSl.none
def dMin2 : List D → Option Rv
  | [.int i, .int j] => some (.val (.int (if j < i then j else i)))
  | _ => none
theorem good_min2 : GoodC g (fun xs H Q => ∃ i j, xs = [.int i, .int j] ∧ Q (.int (if j < i then j else i)) H) dMin2 := by
  refine ⟨fun F H vs ds Q s h p => ?_, fun ds => ?_⟩
  · unfold dMin2 at p
    split at p
    · obtain ⟨v, w, rfl, h1, h2⟩ := h.two
      exact ⟨_, _, by rw [h1.int, h2.int], p.val0 s (.int _)⟩
    · exact p.elim
  · unfold dMin2; split <;> first | exact NoSl.val | exact NoSl.none
def dAbs : List D → Option Rv
  | [.int i] => some (.val (.int (if i < 0 then -i else i)))
  | _ => none
theorem good_abs : GoodC g (fun xs H Q => ∃ i, xs = [.int i] ∧ Q (.int (if i < 0 then -i else i)) H) dAbs := by
  refine ⟨fun F H vs ds Q s h p => ?_, fun ds => ?_⟩
  · unfold dAbs at p
    split at p
    · obtain ⟨v, rfl, h1⟩ := h.one
      exact ⟨_, by rw [h1.int], p.val0 s (.int _)⟩
    · exact p.elim
  · unfold dAbs; split <;> first | exact NoSl.val | exact NoSl.none
def dInt : List D → Option Rv
  | [.int i] => some (.val (.int i))
  | [.bool b] => some (.val (.int (if b then 1 else 0)))
  | _ => none
theorem good_int : GoodC g (fun xs H Q => (∃ i, xs = [.int i] ∧ Q (.int i) H) ∨ ∃ k, xs = [.bl k] ∧ Q (.int (if k then 1 else 0)) H) dInt := by
  refine ⟨fun F H vs ds Q s h p => ?_, fun ds => ?_⟩
  · unfold dInt at p
    split at p
    · obtain ⟨v, rfl, h1⟩ := h.one
      exact .inl ⟨_, by rw [h1.int], p.val0 s (.int _)⟩
    · obtain ⟨v, rfl, h1⟩ := h.one
      exact .inr ⟨_, by rw [h1.bl], p.val0 s (.int _)⟩
    · exact p.elim
  · unfold dInt; split <;> first | exact NoSl.val | exact NoSl.none
/-- a list of ints, of texts, of bools -/
def asInts : List D → Option (List Int)
  | [] => some []
  | .int i :: r => (asInts r).map (i :: ·)
  | _ => none
def asStrs : List D → Option (List Str)
  | [] => some []
  | .str i :: r => (asStrs r).map (i :: ·)
  | _ => none
def asBools : List D → Option (List Bool)
  | [] => some []
  | .bool i :: r => (asBools r).map (i :: ·)
  | _ => none
theorem DenL.ints {F : Hp} : ∀ {vs : List V} {ds : List D} {ns : List Int}, DenL g F vs ds → asInts ds = some ns → vs = ns.map V.int
  | _, _, _, .nil, e => by cases e; rfl
  | _, _, _, .cons (d := d) (ds := ds) h r, e => by
    cases d with
    | int i =>
      unfold asInts at e
      cases q : asInts ds with
      | none => rw [q] at e; cases e
      | some ns => rw [q] at e; cases e; rw [Pk.int (g := g) (F := F) (H := F) (Or.inl h), DenL.ints r q]; rfl
    | _ => cases e
theorem DenL.bools {F : Hp} : ∀ {vs : List V} {ds : List D} {ns : List Bool}, DenL g F vs ds → asBools ds = some ns → vs = ns.map V.bl
  | _, _, _, .nil, e => by cases e; rfl
  | _, _, _, .cons (d := d) (ds := ds) h r, e => by
    cases d with
    | bool i =>
      unfold asBools at e
      cases q : asBools ds with
      | none => rw [q] at e; cases e
      | some ns => rw [q] at e; cases e; rw [Pk.bl (g := g) (F := F) (H := F) (Or.inl h), DenL.bools r q]; rfl
    | _ => cases e
theorem DenL.strs {F : Hp} : ∀ {vs : List V} {ds : List D} {ns : List Str}, DenL g F vs ds → asStrs ds = some ns → vs = ns.map V.str ∧ ∀ x ∈ ns, strOk x = true
  | _, _, _, .nil, e => by cases e; exact ⟨rfl, by simp⟩
  | _, _, _, .cons (d := d) (ds := ds) h r, e => by
    cases d with
    | str i =>
      unfold asStrs at e
      cases q : asStrs ds with
      | none => rw [q] at e; cases e
      | some ns =>
        rw [q] at e; cases e
        obtain ⟨e1, o1⟩ := Pk.str (g := g) (F := F) (H := F) (Or.inl h)
        obtain ⟨e2, o2⟩ := DenL.strs r q
        refine ⟨by rw [e1, e2]; rfl, fun x hx => ?_⟩
        rcases List.mem_cons.mp hx with h | h
        · rw [h]; exact o1
        · exact o2 x h
    | _ => cases e
theorem asInts_map : ∀ ns : List Int, asInts (ns.map .int) = some ns
  | [] => rfl
  | n :: r => by show (asInts (r.map .int)).map (n :: ·) = _; rw [asInts_map r]; rfl
theorem asStrs_map : ∀ ns : List Str, asStrs (ns.map .str) = some ns
  | [] => rfl
  | n :: r => by show (asStrs (r.map .str)).map (n :: ·) = _; rw [asStrs_map r]; rfl
theorem asBools_map : ∀ ns : List Bool, asBools (ns.map .bool) = some ns
  | [] => rfl
  | n :: r => by show (asBools (r.map .bool)).map (n :: ·) = _; rw [asBools_map r]; rfl
def dAll : List D → Option Rv
  | [.list ds] => (asBools ds).map fun bs => .val (.bool (bs.all id))
  | _ => none
theorem good_all : GoodC g (rAll g.K) dAll := by
  refine ⟨fun F H vs ds Q s h p => ?_, fun ds => ?_⟩
  · unfold dAll at p
    split at p
    · rename_i ds
      cases q : asBools ds with
      | none => rw [q] at p; exact p.elim
      | some bs =>
        rw [q] at p
        obtain ⟨v, rfl, hx⟩ := h.one
        obtain ⟨a, xs, rfl, h1, d1⟩ := hx.lst s
        exact ⟨a, bs, rfl, by rw [← d1.bools q]; exact .inl (.inl h1), p.val0 s (.bl _)⟩
    · exact p.elim
  · unfold dAll
    split
    · rename_i ds; cases asBools ds <;> first | exact NoSl.val | exact NoSl.none
    · exact NoSl.none
def dSum : List D → Option Rv
  | [.list ds] => (asInts ds).map fun bs => .val (.int bs.sum)
  | _ => none
theorem good_sum : GoodC g (rSum g.K) dSum := by
  refine ⟨fun F H vs ds Q s h p => ?_, fun ds => ?_⟩
  · unfold dSum at p
    split at p
    · rename_i ds
      cases q : asInts ds with
      | none => rw [q] at p; exact p.elim
      | some bs =>
        rw [q] at p
        obtain ⟨v, rfl, hx⟩ := h.one
        obtain ⟨a, xs, rfl, h1, d1⟩ := hx.lst s
        exact ⟨a, bs, rfl, by rw [← d1.ints q]; exact .inl (.inl h1), p.val0 s (.int _)⟩
    · exact p.elim
  · unfold dSum
    split
    · rename_i ds; cases asInts ds <;> first | exact NoSl.val | exact NoSl.none
    · exact NoSl.none
end DL
namespace DL
open PySem PySem.Spec L2
variable {g : G} {W : WX}

/-! ### what is never come to -/
def mNever : MS := fun _ => .stuck
theorem ds_never {X : Cx} {st : Stmt} : DS X W st mNever := ⟨_, ps_never, fun _ _ _ _ _ _ p => p.elim⟩

/-! ### repr, compared -/
def RS : RelB V Str := fun _ _ _ _ _ v x => v = .str x
theorem RS.early : Early RS := ⟨fun _ _ _ _ _ _ _ _ _ h => h⟩
abbrev MR := Env → Res (Str × Env)
structure DR (X : Cx) (W : WX) (e : Expr) (f : MR) : Prop where
  ex : ∃ t, PE X e t ∧ Good RS ⟨X.K, X.mg⟩ W t f
def okR (d : D) : Bool := d.showable && !d.hasDict && decide (d.depth ≤ 64) && decide (d.shown.length ≤ lineM)
def rRepr (K : PySem.W.Frag) : List V → Hp → VK → Prop := fun xs H Q => ∃ x d, xs = [x] ∧ Dp K H x d ∧ okR d = true ∧ Q (.str d.shown) H
theorem call_repr {X : Cx} (gd : X.A.guards = some []) (hu : X.A.units + 65 < cLine) : CallR X (.builtin "repr") (rRepr X.K) := by
  intro pins s σ H xs us Q I r ⟨x, d, ex, hd, ok, q⟩
  subst ex
  cases r with
  | cons r1 r2 =>
    cases r2
    unfold okR at ok
    simp only [Bool.and_eq_true, decide_eq_true_eq, Bool.not_eq_true'] at ok
    obtain ⟨⟨⟨o1, o2⟩, o3⟩, o4⟩ := ok
    have o4' : d.shown.length ≤ sizeLine := by rw [lineM_eq]; exact o4
    cases hd with
    | non => cases r1; exact PySem.P.repr_of_none ⟨.str _, H, I.tok _, ⟨_, rfl⟩, by simpa only [PyData.shown] using q⟩
    | bl b => cases r1; exact PySem.P.repr_of_bool ⟨.str _, H, I.tok _, ⟨_, rfl⟩, by simpa only [PyData.shown] using q⟩
    | int i =>
      obtain ⟨t, rfl⟩ := r1
      simp only [PyData.showable, decide_eq_true_eq] at o1
      exact PySem.P.repr_of_int o1 ⟨.str _, H, I.tok _, ⟨_, rfl⟩, by simpa only [PyData.shown] using q⟩
    | str x =>
      obtain ⟨t, rfl⟩ := r1
      simp only [PyData.shown] at q o4'
      exact PySem.P.repr_of_str ⟨.str _, H, I.tok _, ⟨_, rfl⟩, q⟩ o4'
    | lst h1 h2 =>
      obtain ⟨as, rd⟩ := Dp.reads I _ _ _ (Dp.lst h1 h2) r1
      cases r1
      exact PySem.repr_of_reads' rd o1 (PySem.PyData.noDict_hsm o2) gd (by omega) (fun _ _ e => e) (fun h' u tk k => ⟨.str _, H, I.kept k, ⟨_, rfl⟩, q⟩) o4'
    | tup h1 h2 =>
      obtain ⟨as, rd⟩ := Dp.reads I _ _ _ (Dp.tup h1 h2) r1
      cases r1
      exact PySem.repr_of_reads' rd o1 (PySem.PyData.noDict_hsm o2) gd (by omega) (fun _ _ e => e) (fun h' u tk k => ⟨.str _, H, I.kept k, ⟨_, rfl⟩, q⟩) o4'
def mRepr (f : ME) : MR := fun env => f env >>= fun z => z.1.data z.2 >>= fun d => if okR d = true then .ok (d.shown, z.2) else .stuck
theorem good_repr {t : TE} {f : ME} (h : GoodE g W t f) : Good RS g W (tCB (rRepr g.K) (tCons t tNil)) (mRepr f) := fun F H σ env Q k p => by
  refine h F H σ env _ k (Post.bind RS.early p fun r1 e1 F1 H1 x x1 k1 kp1 rv1 p1 => ?_)
  rcases data_cases r1 e1 with ⟨d, q⟩ | q
  · simp only [q, Res.ok_bind] at p1
    by_cases ok : okR d = true
    · rw [if_pos ok] at p1
      have nd : d.hasDict = false := by
        unfold okR at ok
        simp only [Bool.and_eq_true, Bool.not_eq_true'] at ok
        exact ok.1.1.2
      exact ⟨x, d, rfl, ((RvOk.pk rv1 k1 q).dp k1.sub nd).1, ok, p1 F1 H1 _ .refl k1 .refl rfl⟩
    · rw [if_neg ok] at p1; exact p1.elim
  · simp only [q, Res.stuck_bind] at p1; exact p1.elim
section
variable {X : Cx} {a b : Expr} {p pos : Pos} {f h : ME} {fr hr : MR}
theorem dr_repr (gd : X.A.guards = some []) (hu : X.A.units + 65 < cLine) (hm : X.mg "repr" = none) (ha : DE X W a f) (hg : Gl X "repr" := by rfl) (hs : starEach [a] X.env = (false, eval a X.env) :: starEach [] X.env := by rfl) (hpl : (backTo pos (starEach [] X.env)).any (·.1) = false := by rfl) : DR X W (.Call (.Name "repr" p) [a] [] pos) (mRepr f) := by
  obtain ⟨t, pt, gt⟩ := ha
  exact ⟨_, pe_callB (call_repr gd hu) hg hm (by decide +kernel) (pa_cons pt pa_nil hs) (by decide) (by decide) hs hpl, good_repr gt⟩
def mRNe (f h : MR) : ME := fun env => f env >>= fun z => h z.2 >>= fun y => .ok (.val (.bool (!decide (z.1 = y.1))), y.2)
def mREq (f h : MR) : ME := fun env => f env >>= fun z => h z.2 >>= fun y => .ok (.val (.bool (decide (z.1 = y.1))), y.2)
theorem good_rne {ta tb : TE} {f h : MR} (ha : Good RS g W ta f) (hb : Good RS g W tb h) : GoodE g W (tOp rNe ta tb) (mRNe f h) := fun F H σ env Q k p => by
  refine ha F H σ env _ k (Post.bind RE.early p fun r1 e1 F1 H1 x x1 k1 kp1 rv1 p1 => ?_)
  have rv1 : x = .str r1 := rv1
  subst rv1
  refine hb F1 H1 σ e1 _ k1 (Post.bind RE.early p1 fun r2 e2 F2 H2 y x2 k2 kp2 rv2 p2 => ?_)
  have rv2 : y = .str r2 := rv2
  subst rv2
  refine ⟨rfl, ?_⟩
  have e : decide (V.str r1 = V.str r2) = decide (r1 = r2) := by
    by_cases q : r1 = r2
    · simp [q]
    · have : ¬ V.str r1 = V.str r2 := fun z => q (by injection z)
      rw [decide_eq_false q, decide_eq_false this]
  rw [e]
  exact p2 F2 H2 _ .refl k2 .refl (.bl _)
theorem good_req {ta tb : TE} {f h : MR} (ha : Good RS g W ta f) (hb : Good RS g W tb h) : GoodE g W (tOp rEq ta tb) (mREq f h) := fun F H σ env Q k p => by
  refine ha F H σ env _ k (Post.bind RE.early p fun r1 e1 F1 H1 x x1 k1 kp1 rv1 p1 => ?_)
  have rv1 : x = .str r1 := rv1
  subst rv1
  refine hb F1 H1 σ e1 _ k1 (Post.bind RE.early p1 fun r2 e2 F2 H2 y x2 k2 kp2 rv2 p2 => ?_)
  have rv2 : y = .str r2 := rv2
  subst rv2
  refine ⟨rfl, ?_⟩
  have e : decide (V.str r1 = V.str r2) = decide (r1 = r2) := by
    by_cases q : r1 = r2
    · simp [q]
    · have : ¬ V.str r1 = V.str r2 := fun z => q (by injection z)
      rw [decide_eq_false q, decide_eq_false this]
  rw [e]
  exact p2 F2 H2 _ .refl k2 .refl (.bl _)
theorem de_rne (ha : DR X W a fr) (hb : DR X W b hr) : DE X W (.Compare a [.NotEq] [b] pos) (mRNe fr hr) := by
  obtain ⟨ta, pa, ga⟩ := ha
  obtain ⟨tb, pb, gb⟩ := hb
  exact ⟨_, pe_cmpR op_ne pa pb (nobehind _ (by decide) (by decide)), good_rne ga gb⟩
theorem de_req (ha : DR X W a fr) (hb : DR X W b hr) : DE X W (.Compare a [.Eq] [b] pos) (mREq fr hr) := by
  obtain ⟨ta, pa, ga⟩ := ha
  obtain ⟨tb, pb, gb⟩ := hb
  exact ⟨_, pe_cmpR op_eq pa pb (nobehind _ (by decide) (by decide)), good_req ga gb⟩
theorem dt_rne (ha : DR X W a fr) (hb : DR X W b hr) : DT X W (.Compare a [.NotEq] [b] pos) (mTest (mRNe fr hr)) := by
  obtain ⟨ta, pa, ga⟩ := ha
  obtain ⟨tb, pb, gb⟩ := hb
  exact ⟨_, pt_cmpR op_ne pa pb (nobehind _ (by decide) (by decide)), good_test (good_rne ga gb)⟩
theorem dt_req (ha : DR X W a fr) (hb : DR X W b hr) : DT X W (.Compare a [.Eq] [b] pos) (mTest (mREq fr hr)) := by
  obtain ⟨ta, pa, ga⟩ := ha
  obtain ⟨tb, pb, gb⟩ := hb
  exact ⟨_, pt_cmpR op_eq pa pb (nobehind _ (by decide) (by decide)), good_test (good_req ga gb)⟩
end

/-! ### methods of texts -/
def isStrD : D → Bool
  | .str _ => true
  | _ => false
theorem ty_str {F H : Hp} {x : V} {d : D} (s : Sub F H) (h : Pk g F H x d) (e : isStrD d = true) : tyV g.K "str" x H := by
  cases d with
  | str z => rw [h.str.1]; rfl
  | _ => cases e
def sumLen (l : List Str) : Nat := (l.map (·.length)).sum
def dJoin1 (a : Str) (ds : List D) : Option Rv := match asStrs ds with
  | some ys => if sumLen ys + ys.length * a.length ≤ 16777216 then some (.val (.str (Str.join a ys))) else none
  | none => none
def dJoin : D → List D → Option Rv
  | .str a, [.list ds] => dJoin1 a ds
  | .str a, [.tuple ds] => dJoin1 a ds
  | _, _ => none
theorem strOk_join {a : Str} (ha : strOk a = true) : ∀ {ys : List Str}, (∀ y ∈ ys, strOk y = true) → strOk (Str.join a ys) = true
  | [], _ => by rw [strOk_iff]; intro c hc; have : c ∈ (Str.empty).cps.toList := hc; simp [Str.empty] at this
  | [x], h => h x (by simp)
  | x :: y :: r, h => strOk_app (strOk_app (h x (by simp)) ha) (strOk_join ha fun z hz => h z (List.mem_cons_of_mem _ hz))
def rJoin (K : PySem.W.Frag) : V → List V → Hp → VK → Prop := fun x xs H Q => ∃ a p, ∃ ys : List Str, x = .str a ∧ xs = [.ref p] ∧ (SqL K H p (ys.map V.str) ∨ SqT K H p (ys.map V.str)) ∧
  (ys.map (·.length)).sum + ys.length * a.length ≤ 16777216 ∧ Q (.str (Txt.join a ys)) H
theorem good_join {F H : Hp} {x : V} {vs : List V} {d : D} {ds : List D} {Q : VK} (s : Sub F H) (hx : Pk g F H x d) (h : Pks g F H vs ds) (p : Post0 g F H Q (dJoin d ds)) : rJoin g.K x vs H Q := by
  have one : ∀ {a : Str} {es : List D} {b : Addr} {ws : List V}, Pk g F H x (.str a) → vs = [.ref b] → (SqL g.K H b ws ∨ SqT g.K H b ws) → DenL g F ws es → Post0 g F H Q (dJoin1 a es) → rJoin g.K x vs H Q := fun {a es b ws} hx e hb hd p => by
    unfold dJoin1 at p
    split at p
    · rename_i ys q
      split at p
      · rename_i hl
        obtain ⟨e1, o1⟩ := hx.str
        obtain ⟨e2, o2⟩ := hd.strs q
        subst e2
        refine ⟨a, b, ys, e1, e, hb, hl, ?_⟩
        have ej : Txt.join a ys = Str.join a ys := PySem.StrLaws.glued_eq_join a ys
        rw [ej]
        exact p.val0 s (.str _ (strOk_join o1 o2))
      · exact p.elim
    · exact p.elim
  unfold dJoin at p
  split at p
  · obtain ⟨v, rfl, hv⟩ := h.one
    obtain ⟨b, ws, rfl, h1, d1⟩ := hv.lst s
    exact one hx rfl (.inl (.inl (.inl h1))) d1 p
  · obtain ⟨v, rfl, hv⟩ := h.one
    obtain ⟨b, ws, rfl, h1, d1⟩ := hv.tup s
    exact one hx rfl (.inr h1) d1 p
  · exact p.elim
theorem nosl_join (d : D) (ds : List D) : NoSl (dJoin d ds) := by
  unfold dJoin dJoin1
  split
  · split
    · split <;> first | exact NoSl.val | exact NoSl.none
    · exact NoSl.none
  · split
    · split <;> first | exact NoSl.val | exact NoSl.none
    · exact NoSl.none
  · exact NoSl.none
theorem de_join {X : Cx} {o e : Expr} {apos cpos : Pos} {f h : ME} (ho : DE X W o f) (ha : DE X W e h) (hs : starEach [e] X.env = (false, eval e X.env) :: starEach [] X.env := by rfl) (hbase : attributeBase o "join" X.env (eval o X.env) = eval o X.env := by rfl)
    (hfew : ((backTo cpos (starEach [e] X.env)).all (fun x => !x.1) && (backToKw cpos (keywordEach [] X.env)).all (fun x => x.1.isSome)
      && decide ([e].length + ([] : List Keyword).length + (if ([] : List Keyword).isEmpty then 0 else 1) < 30)) = true := by rfl)
    (hline : (apos.endLine == cpos.line) = true := by rfl) (hplain : (backTo cpos (starEach [] X.env)).any (·.1) = false := by rfl) : DE X W (.Call (.Attribute o "join" apos) [e] [] cpos) (mMeth dJoin isStrD f [h]) := by
  obtain ⟨t, pt, gt⟩ := ho
  obtain ⟨u, pu, gu⟩ := ha
  exact ⟨_, pe_bm PySem.F.plainAttrs_str PySem.F.slot_str_join PySem.F.type_str_join mt_join pt (pa_cons pu pa_nil hs) hbase hfew hline hs hplain, good_meth (T := "str") (r := rJoin X.K) gt (.cons gu .nil) (fun F H x vs d ds Q s hx h p => good_join s hx h p) (fun F H x d s h e => ty_str s h e) nosl_join⟩

/-! ### what is walked -/
def itemsD : D → Option (List D)
  | .list ds => some ds
  | .tuple ds => some ds
  | .str x => some (x.cps.toList.map fun c => .str (signS c))
  | .dict [(.bool true, .list ds)] => some ds
  | _ => none
def lockR (r : Rv) (env : Env) : Res ((D × Option Nat) × Env) := match r with
  | .sl j => match env[j]? with
    | some (.fz d) => .ok ((d, none), env)
    | some (.ow .fr d) => .ok ((d, some j), env.set j (.ow .lk d))
    | some (.ow .lk d) => .ok ((d, none), env)
    | _ => .stuck
  | r => r.frz env >>= fun z => .ok ((z.1, none), z.2)
def mIter (f : ME) : MI := fun env => f env >>= fun z => lockR z.1 z.2 >>= fun y => match itemsD y.1.1 with
  | some ds => .ok ((ds, y.1.2), y.2)
  | none => .stuck
def iVal (K : PySem.W.Frag) (te : TE) : TI := fun σ H R => te σ H fun x H1 => (∃ a, x = .ref a ∧ (∃ xs, SqL K H1 a xs) ∧ R (Itl K a) H1) ∨ (∃ a, x = .ref a ∧ (∃ xs, SqT K H1 a xs) ∧ R (Itt K a) H1) ∨ ∃ z, x = .str z ∧ R (Its z) H1
theorem pi_val {X : Cx} {tg e : Expr} {te : TE} (he : PE X e te) : PI X tg e (iVal X.K te) := by
  refine ⟨fun pins s σ H R I h => ?_⟩
  refine thn (he.run pins s σ H _ I h) fun v s1 ⟨x, H1, I1, r1, q1⟩ => ?_
  rcases q1 with ⟨a, ex, ⟨xs, hq⟩, q⟩ | ⟨a, ex, ⟨xs, hq⟩, q⟩ | ⟨z, ex, q⟩
  · subst ex
    cases r1
    obtain ⟨its, rv, p, _⟩ := I1.list hq
    exact wpAny_pyIter_list p.isList (pi_one (tk := s1.toks) I1 _ (turn_list a _) ⟨_, Heap.get?_push_size _ rfl, rfl, rfl⟩ q)
  · subst ex
    cases r1
    obtain ⟨its, rv, p, _⟩ := I1.tuple hq
    exact wpAny_pyIter_tuple (show s1.heap.IsTuple a its.toArray from p) (pi_one (tk := s1.toks) I1 _ (turn_tuple a _) ⟨_, Heap.get?_push_size _ rfl, rfl, rfl⟩ q)
  · subst ex
    obtain ⟨t, rfl⟩ := r1
    cases ha : z.cps.all (· < 128)
    · exact PySem.wpAny_pyIter_wide ha (pi_one (tk := s1.toks) I1 _ (turn_str _ z t "str_iterator" (.inr rfl)) ⟨_, Heap.get?_push_size _ rfl, rfl, rfl⟩ q)
    · exact PySem.wpAny_pyIter_ascii ha (pi_one (tk := s1.toks) I1 _ (turn_str _ z t "str_ascii_iterator" (.inl rfl)) ⟨_, Heap.get?_push_size _ rfl, rfl, rfl⟩ q)
theorem lock_adr {σ : St} {env : Env} {j i : Nat} {a : Addr} {d : D} (q : env[j]? = some (.ow .fr d)) : Adr σ (env.set j (.ow .lk d)) i a ↔ Adr σ env i a := by
  constructor
  · rintro ⟨⟨k, d2, h1⟩, h2⟩
    rcases get_set h1 with ⟨e, _, _⟩ | ⟨_, h3⟩
    · subst e; exact ⟨⟨_, _, q⟩, h2⟩
    · exact ⟨⟨k, d2, h3⟩, h2⟩
  · rintro ⟨⟨k, d2, h1⟩, h2⟩
    by_cases e : j = i
    · subst e; exact ⟨⟨.lk, d, List.getElem?_set_self (lt_of_get q)⟩, h2⟩
    · exact ⟨⟨k, d2, by rw [List.getElem?_set_ne e]; exact h1⟩, h2⟩
theorem lock_own {σ : St} {env : Env} {j : Nat} {d : D} (q : env[j]? = some (.ow .fr d)) : Own σ (env.set j (.ow .lk d)) = Own σ env := by
  funext a
  exact propext ⟨fun ⟨i, h⟩ => ⟨i, (lock_adr q).mp h⟩, fun ⟨i, h⟩ => ⟨i, (lock_adr q).mpr h⟩⟩
/-- what is walked is there whatever comes -/
def Still (g : G) (v : V) (d : D) (F H : Hp) (σ : St) (env : Env) : Prop := ∀ F2 H2 σ2 env2, Ext F H (Own σ env) F2 H2 (Own σ2 env2) → Keep σ env σ2 env2 → EnvOk g F2 H2 σ2 env2 → Pk g F2 H2 v d
theorem lockR_ok {F0 H0 F H : Hp} {O : Addr → Prop} {σ : St} {env e' : Env} {v : V} {r : Rv} {d : D} {o : Option Nat} (h : RvOk g H0 F H σ env v r) (x : Ext F0 H0 O F H (Own σ env)) (k : EnvOk g F H σ env) (e : lockR r env = .ok ((d, o), e')) :
    ∃ F', Ext F0 H0 O F' H (Own σ e') ∧ EnvOk g F' H σ e' ∧ Keep σ env σ e' ∧ Still g v d F' H σ e' := by
  have frozen : ∀ {r : Rv} {z : D × Env}, RvOk g H0 F H σ env v r → r.frz env = .ok z → (d, e') = z → ∃ F', Ext F0 H0 O F' H (Own σ e') ∧ EnvOk g F' H σ e' ∧ Keep σ env σ e' ∧ Still g v d F' H σ e' := fun {r z} h q ez => by
    subst ez
    obtain ⟨F', x', k', kp, hd⟩ := RvOk.frz h x k q
    exact ⟨F', x', k', kp, fun F2 H2 σ2 env2 x2 _ _ => .inl (hd.mono x2.sub)⟩
  cases r with
  | val d' =>
    unfold lockR at e
    simp only [Rv.frz, Res.ok_bind] at e
    cases e
    exact frozen (r := .val d) h rfl rfl
  | new d' =>
    unfold lockR at e
    simp only [Rv.frz, Res.ok_bind] at e
    cases e
    exact frozen (r := .new d) h rfl rfl
  | sl j =>
    have hs : σ[j]? = some (some v) := h
    unfold lockR at e
    simp only at e
    split at e
    · rename_i d' q
      cases e
      obtain ⟨w, h1, v', h2, h3⟩ := k.sl j _ q
      rw [hs] at h1; cases h1; cases h2
      exact ⟨F, x, k, .refl, fun F2 H2 σ2 env2 x2 _ _ => .inl (h3.mono x2.sub)⟩
    · rename_i d' q
      cases e
      refine ⟨F, ?_, ⟨by simpa using k.len, k.sub, fun i s z => ?_, fun i1 i2 a z1 z2 => k.dis i1 i2 a ((lock_adr q).mp z1) ((lock_adr q).mp z2)⟩, fun i kd d2 z n => ?_, fun F2 H2 σ2 env2 x2 kp2 k2 => ?_⟩
      · rw [lock_own q]; exact x
      · rcases get_set z with ⟨e1, e2, _⟩ | ⟨_, e2⟩
        · subst e1; subst e2
          obtain ⟨w, h1, h2⟩ := k.sl j _ q
          exact ⟨w, h1, h2⟩
        · exact k.sl i s e2
      · have hj : j ≠ i := fun zz => by subst zz; rw [q] at z; cases z; exact n rfl
        exact ⟨rfl, d2, by rw [List.getElem?_set_ne hj]; exact z, fun _ => rfl⟩
      · obtain ⟨y1, d', y2, y3⟩ := kp2 j .lk d (List.getElem?_set_self (lt_of_get q)) (by decide)
        have := y3 rfl
        subst this
        obtain ⟨w, h1, a, h2, h3, h4⟩ := k2.sl j _ y2
        rw [y1, hs] at h1; cases h1; cases h2
        exact .inr ⟨a, rfl, h4⟩
    · rename_i d' q
      cases e
      refine ⟨F, x, k, .refl, fun F2 H2 σ2 env2 x2 kp2 k2 => ?_⟩
      obtain ⟨y1, d', y2, y3⟩ := kp2 j .lk d q (by decide)
      have := y3 rfl
      subst this
      obtain ⟨w, h1, a, h2, h3, h4⟩ := k2.sl j _ y2
      rw [y1, hs] at h1; cases h1; cases h2
      exact .inr ⟨a, rfl, h4⟩
    · cases e
theorem good_iter {te : TE} {f : ME} (h : GoodE g W te f) : GoodI g W (iVal g.K te) (mIter f) := fun F H σ env R k p => by
  cases hf : f env with
  | stuck => exact h F H σ env _ k (by unfold mIter at p; rw [hf] at p ⊢; exact p.elim)
  | ex c d e => exact h F H σ env _ k (by unfold mIter at p; rw [hf] at p ⊢; exact p)
  | ok z =>
    obtain ⟨r, e1⟩ := z
    refine h F H σ env _ k ?_
    rw [hf]
    intro F1 H1 v x1 k1 kp1 rv
    unfold mIter at p
    rw [hf] at p
    simp only [Res.ok_bind] at p
    cases hl : lockR r e1 with
    | stuck => rw [hl] at p; exact p.elim
    | ex c d e => rw [hl] at p; unfold lockR at hl; cases r <;> simp [Rv.frz] at hl; split at hl <;> cases hl
    | ok y =>
      obtain ⟨⟨d, o⟩, e2⟩ := y
      rw [hl] at p
      simp only [Res.ok_bind] at p
      obtain ⟨F2, x2, k2, kp2, st⟩ := lockR_ok rv x1 k1 hl
      cases hd : itemsD d with
      | none => rw [hd] at p; exact p.elim
      | some ds =>
        rw [hd] at p
        have fin : ∀ J : It, IterOk g J ds F2 H1 σ e2 → R J H1 := fun J hj => p F2 H1 J x2 k2 (kp1.trans kp2) hj
        have now := st F2 H1 σ e2 .refl .refl k2
        unfold itemsD at hd
        split at hd
        · cases hd
          obtain ⟨a, xs, e, ha, hden⟩ := now.lst k2.sub
          refine .inl ⟨a, e, ⟨xs, .inl (.inl ha)⟩, fin _ fun i F3 H3 σ3 e3 x3 kp3 k3 => ?_⟩
          obtain ⟨b, ys, e', hb, hden'⟩ := (st F3 H3 σ3 e3 x3 kp3 k3).lst k3.sub
          rw [e] at e'; cases e'
          refine ⟨fun d' hd' => ?_, fun hi => ⟨ys, .inl (.inl hb), by rw [hden'.length, hi]; exact Nat.le_refl _⟩⟩
          obtain ⟨w, hw, dw⟩ := hden'.get hd'
          refine ⟨⟨ys, w, .inl (.inl hb), hw⟩, fun x' H4 ⟨e4, y4⟩ => ?_⟩
          subst e4
          have := y4 ys (.inl (.inl hb))
          rw [hw] at this; cases this
          exact ⟨F3, .refl k3.sub, dw⟩
        · cases hd
          obtain ⟨a, xs, e, ha, hden⟩ := now.tup k2.sub
          refine .inr (.inl ⟨a, e, ⟨xs, ha⟩, fin _ fun i F3 H3 σ3 e3 x3 kp3 k3 => ?_⟩)
          obtain ⟨b, ys, e', hb, hden'⟩ := (st F3 H3 σ3 e3 x3 kp3 k3).tup k3.sub
          rw [e] at e'; cases e'
          refine ⟨fun d' hd' => ?_, fun hi => ⟨ys, hb, by rw [hden'.length, hi]; exact Nat.le_refl _⟩⟩
          obtain ⟨w, hw, dw⟩ := hden'.get hd'
          refine ⟨⟨ys, w, hb, hw⟩, fun x' H4 ⟨e4, y4⟩ => ?_⟩
          subst e4
          have := y4 ys hb
          rw [hw] at this; cases this
          exact ⟨F3, .refl k3.sub, dw⟩
        · rename_i z
          cases hd
          obtain ⟨e, ok⟩ := now.str
          refine .inr (.inr ⟨z, e, fin _ fun i F3 H3 σ3 e3 x3 kp3 k3 => ⟨fun d' hd' => ?_, fun hi => ?_⟩⟩)
          · rw [List.getElem?_map] at hd'
            cases hc : z.cps.toList[i]? with
            | none => rw [hc] at hd'; cases hd'
            | some c =>
              rw [hc] at hd'
              cases hd'
              have hlt : i < z.cps.size := by have := lt_of_get hc; simpa using this
              refine ⟨hlt, fun x' H4 ⟨e4, c', y4, y5⟩ => ?_⟩
              subst e4; subst y5
              have : c' = c := by
                have h1 : z.cps.toList[i]? = z.cps[i]? := by simp
                rw [← h1, hc] at y4
                exact (Option.some.inj y4).symm
              subst this
              exact ⟨F3, .refl k3.sub, .str _ (strOk_sub (l := [c']) ok fun c2 h2 => by
                have : c2 = c' := by simpa using h2
                subst this
                exact List.mem_of_getElem? hc)⟩
          · show z.cps.size ≤ i
            rw [hi]; simp
        · cases hd
          obtain ⟨a, xs, e, ha, hden⟩ := Pk.ro k2.sub now
          refine .inl ⟨a, e, ⟨xs, ha⟩, fin _ fun i F3 H3 σ3 e3 x3 kp3 k3 => ?_⟩
          obtain ⟨b, ys, e', hb, hden'⟩ := Pk.ro k3.sub (st F3 H3 σ3 e3 x3 kp3 k3)
          rw [e] at e'; cases e'
          refine ⟨fun d' hd' => ?_, fun hi => ⟨ys, hb, by rw [hden'.length, hi]; exact Nat.le_refl _⟩⟩
          obtain ⟨w, hw, dw⟩ := hden'.get hd'
          refine ⟨⟨ys, w, hb, hw⟩, fun x' H4 ⟨e4, y4⟩ => ?_⟩
          subst e4
          have := y4 ys hb
          rw [hw] at this; cases this
          exact ⟨F3, .refl k3.sub, dw⟩
        · cases hd
theorem di_val {X : Cx} {tg e : Expr} {f : ME} (h : DE X W e f) : DI X W tg e (mIter f) := by
  obtain ⟨t, pt, gt⟩ := h
  exact ⟨_, pi_val pt, good_iter gt⟩
/-- ranges -/
def rangeD (lo : Int) (n : Nat) : List D := (List.range n).map fun i => .int (lo + (i : Nat))
def rng62 (i : Int) : Bool := decide (-4611686018427387904 ≤ i) && decide (i < 4611686018427387904)
def rngOf1 : List D → Option (Int × Nat)
  | [.int j] => if rng62 j = true then some (0, j.toNat) else none
  | _ => none
def rngOf2 : List D → Option (Int × Nat)
  | [.int i, .int j] => if rng62 i = true ∧ rng62 j = true then some (i, (j - i).toNat) else none
  | _ => none
def mRange (o : List D → Option (Int × Nat)) (fs : List ME) : MI := fun env => evRs fs env >>= fun z => match datas z.2 z.1 with
  | some ds => match o ds with
    | some r => .ok ((rangeD r.1 r.2, none), z.2)
    | none => .stuck
  | none => .stuck
theorem iter_range {lo : Int} {n : Nat} {F H : Hp} {σ : St} {env : Env} : IterOk g (Itr lo n) (rangeD lo n) F H σ env := fun i F3 H3 σ3 e3 x3 kp3 k3 => by
  refine ⟨fun d hd => ?_, fun hi => ?_⟩
  · unfold rangeD at hd
    rw [List.getElem?_map] at hd
    by_cases hl : i < n
    · rw [List.getElem?_range hl] at hd
      cases hd
      refine ⟨hl, fun x H4 ⟨e4, y4⟩ => ?_⟩
      subst e4; subst y4
      exact ⟨F3, .refl k3.sub, .int _⟩
    · rw [List.getElem?_eq_none (by simpa using hl)] at hd; cases hd
  · show n ≤ i
    rw [hi]; simp [rangeD]
theorem rng62_ok {i : Int} (h : rng62 i = true) : -(2 ^ 62) ≤ i ∧ i < 2 ^ 62 := by
  unfold rng62 at h
  rw [Bool.and_eq_true, decide_eq_true_eq, decide_eq_true_eq] at h
  have : (2 : Int) ^ 62 = 4611686018427387904 := by decide
  omega
theorem good_range1 {t : TA} {fs : List ME} (h : AllE g W t fs) : GoodI g W (iRng1 t) (mRange rngOf1 fs) := fun F H σ env R k p => by
  refine h.rs F H σ env _ k (Post.bind (R := RRs g) RI.early p fun rs e1 F1 H1 vs x1 k1 kp1 hrs p1 => ?_)
  have hrs : Paired (fun v r => RvOk g noH F1 H1 σ e1 v r) vs rs := hrs
  cases q : datas e1 rs with
  | none => rw [q] at p1; exact p1.elim
  | some ds =>
    rw [q] at p1
    have pk := datas_pk k1 hrs q
    cases hr : rngOf1 ds with
    | none => simp only [hr] at p1; exact p1.elim
    | some r =>
      simp only [hr] at p1
      unfold rngOf1 at hr
      split at hr
      · split at hr
        · rename_i j hj
          cases hr
          obtain ⟨v, rfl, hv⟩ := pk.one
          exact ⟨j, by rw [hv.int], (rng62_ok hj).1, (rng62_ok hj).2, p1 F1 H1 _ .refl k1 .refl iter_range⟩
        · cases hr
      · cases hr
theorem good_range2 {t : TA} {fs : List ME} (h : AllE g W t fs) : GoodI g W (iRng2 t) (mRange rngOf2 fs) := fun F H σ env R k p => by
  refine h.rs F H σ env _ k (Post.bind (R := RRs g) RI.early p fun rs e1 F1 H1 vs x1 k1 kp1 hrs p1 => ?_)
  have hrs : Paired (fun v r => RvOk g noH F1 H1 σ e1 v r) vs rs := hrs
  cases q : datas e1 rs with
  | none => rw [q] at p1; exact p1.elim
  | some ds =>
    rw [q] at p1
    have pk := datas_pk k1 hrs q
    cases hr : rngOf2 ds with
    | none => simp only [hr] at p1; exact p1.elim
    | some r =>
      simp only [hr] at p1
      unfold rngOf2 at hr
      split at hr
      · split at hr
        · rename_i i j hj
          cases hr
          obtain ⟨v, w, rfl, hv, hw⟩ := pk.two
          exact ⟨i, j, by rw [hv.int, hw.int], ⟨(rng62_ok hj.1).1, (rng62_ok hj.1).2, (rng62_ok hj.2).1, (rng62_ok hj.2).2⟩, p1 F1 H1 _ .refl k1 .refl iter_range⟩
        · cases hr
      · cases hr
section
variable {X : Cx} {tg a b : Expr} {p pos : Pos} {f h : ME}
theorem di_range1 (hm : X.mg "range" = none) (ha : DE X W a f) (hg : Gl X "range" := by rfl) (hs : starEach [a] X.env = [(false, eval a X.env)] := by rfl) : DI X W tg (.Call (.Name "range" p) [a] [] pos) (mRange rngOf1 [f]) := by
  obtain ⟨t, pt, gt⟩ := ha
  exact ⟨_, pi_range1 hg hm (pa_cons pt pa_nil hs) hs, good_range1 (.cons gt .nil)⟩
theorem di_range2 (hm : X.mg "range" = none) (ha : DE X W a f) (hb : DE X W b h) (hg : Gl X "range" := by rfl) (hs : starEach [a, b] X.env = [(false, eval a X.env), (false, eval b X.env)] := by rfl) (hs2 : starEach [b] X.env = [(false, eval b X.env)] := by rfl) : DI X W tg (.Call (.Name "range" p) [a, b] [] pos) (mRange rngOf2 [f, h]) := by
  obtain ⟨t, pt, gt⟩ := ha
  obtain ⟨u, pu, gu⟩ := hb
  exact ⟨_, pi_range2 hg hm (pa_cons pt (pa_cons pu pa_nil hs2) (by rw [hs, hs2])) hs hs2, good_range2 (.cons gt (.cons gu .nil))⟩
end
end DL
namespace DL
open PySem PySem.Spec L2
variable {g : G} {W : WX}

/-- the reading that a mirror is -/
def tOf {β α : Type} (R : RelB β α) (g : G) (W : WX) (f : Env → Res (α × Env)) : St → Hp → (β → Hp → Prop) → Prop := fun σ H Q => ∃ F env, EnvOk g F H σ env ∧ Post R g W F H σ env Q (f env)
theorem good_of {β α : Type} {R : RelB β α} {f : Env → Res (α × Env)} : Good R g W (tOf R g W f) f := fun F H σ env Q k p => ⟨F, env, k, p⟩
theorem of_good {β α : Type} {R : RelB β α} {f : Env → Res (α × Env)} {t : St → Hp → (β → Hp → Prop) → Prop} (h : Good R g W t f) {σ : St} {H : Hp} {Q : β → Hp → Prop} (q : tOf R g W f σ H Q) : t σ H Q := let ⟨F, env, k, p⟩ := q; h F H σ env Q k p
theorem DE.pe {X : Cx} {e : Expr} {f : ME} (h : DE X W e f) : PE X e (tOf (RE ⟨X.K, X.mg⟩) ⟨X.K, X.mg⟩ W f) := by
  obtain ⟨t, p, q⟩ := h
  exact ⟨fun pins s σ H Q I z => p.run pins s σ H Q I (of_good q z)⟩
theorem DT.pt {X : Cx} {e : Expr} {f : MT} (h : DT X W e f) : PT X e (tOf RB ⟨X.K, X.mg⟩ W f) := by
  obtain ⟨t, p, q⟩ := h
  exact ⟨fun pins s σ H Q I z => p.run pins s σ H Q I (of_good q z)⟩
/-- targets: names, tuples of targets -/
inductive Tg
  | nm (i : Nat)
  | tp (r : List Tg)
mutual
def Tg.r (K : PySem.W.Frag) : Tg → TG
  | .nm i => gName i
  | .tp l => gTup K l.length (Tg.rs K l)
def Tg.rs (K : PySem.W.Frag) : List Tg → TGs
  | [] => gNil
  | t :: l => gCons (Tg.r K t) (Tg.rs K l)
end
mutual
def Tg.m : Tg → MG
  | .nm i => mName i
  | .tp l => mTupG (Tg.ms l)
def Tg.ms : List Tg → List MG
  | [] => []
  | t :: l => Tg.m t :: Tg.ms l
end
mutual
def Tg.inn (vs : List Nat) : Tg → Bool
  | .nm i => vs.contains i
  | .tp l => Tg.inns vs l
def Tg.inns (vs : List Nat) : List Tg → Bool
  | [] => true
  | t :: l => Tg.inn vs t && Tg.inns vs l
end
theorem Tg.ms_len : ∀ l : List Tg, (Tg.ms l).length = l.length
  | [] => by simp [Tg.ms]
  | t :: l => by simp [Tg.ms, Tg.ms_len l]
mutual
theorem Tg.good : ∀ t : Tg, GoodG g W (t.r g.K) t.m
  | .nm i => by simp only [Tg.r, Tg.m]; exact good_name
  | .tp l => by simp only [Tg.r, Tg.m]; exact good_tupG (Tg.goods l) (Tg.ms_len l)
theorem Tg.goods : ∀ l : List Tg, AllG g W (Tg.rs g.K l) (Tg.ms l)
  | [] => by simp only [Tg.rs, Tg.ms]; exact .nil
  | t :: l => by simp only [Tg.rs, Tg.ms]; exact .cons (Tg.good t) (Tg.goods l)
end
mutual
theorem Tg.wi {K : PySem.W.Frag} {vs : List Nat} : ∀ t : Tg, t.inn vs = true → Wi vs (t.r K)
  | .nm i, h => by simp only [Tg.r]; simp only [Tg.inn, List.contains_eq_mem, decide_eq_true_eq] at h; exact wi_name h
  | .tp l, h => by simp only [Tg.r]; simp only [Tg.inn] at h; exact wi_tup (Tg.wis l h)
theorem Tg.wis {K : PySem.W.Frag} {vs : List Nat} : ∀ l : List Tg, Tg.inns vs l = true → WiS vs (Tg.rs K l)
  | [], _ => by simp only [Tg.rs]; exact wi_nil
  | t :: l, h => by
    simp only [Tg.rs]
    simp only [Tg.inns, Bool.and_eq_true] at h
    exact wi_cons (Tg.wi t h.1) (Tg.wis l h.2)
end
/-- a target of the text -/
structure DTg (X : Cx) (e : Expr) (t : Tg) : Prop where
  pg : PG X e (t.r X.K)
structure DTgs (X : Cx) (es : List Expr) (l : List Tg) : Prop where
  pg : PGs X es (Tg.rs X.K l)
section
variable {X : Cx} {e : Expr} {es : List Expr} {t : Tg} {l : List Tg} {pos : Pos}
theorem dtg_name {i : Nat} {x : Str} (hN : X.N.Nodup) (hi : X.N[i]? = some x) (hx : Loc X.env.scope x) (hf : X.fn x = true ∨ X.env.scope.names.lookup x = some .local := by first | exact .inl rfl | exact .inr rfl | assumption) : DTg X (.Name x pos) (.nm i) :=
  ⟨by simp only [Tg.r]; exact pg_name hN hi hx hf⟩
theorem dtgs_nil : DTgs X [] [] := ⟨by simp only [Tg.rs]; exact pgs_nil⟩
theorem dtgs_cons (h : DTg X e t) (hr : DTgs X es l) (hs : (assignEach (e :: es) X.env).map (·.2) = assign e X.env :: (assignEach es X.env).map (·.2) := by rfl) : DTgs X (e :: es) (t :: l) :=
  ⟨by simp only [Tg.rs]; exact pgs_cons h.pg hr.pg hs⟩
theorem dtg_tup {k : Nat} (hc : X.calm = true) (h : DTgs X es l) (hn : (assignEach es X.env).length = l.length := by rfl) (hst : (assignEach es X.env).findIdx? (·.1) = none := by rfl) : DTg X (.Tuple es k pos) (.tp l) :=
  ⟨by simp only [Tg.r]; exact pg_tup hc h.pg hn hst⟩
theorem DTg.dg (h : DTg X e t) : DG X W e t.m := ⟨_, h.pg, Tg.good t⟩
end
def mYes : MT := fun env => .ok (true, env)
/-- a comprehension's tests -/
structure DTs (X : Cx) (W : WX) (ifs : List Expr) (f : MT) : Prop where
  pt : PTs X ifs (tOf RB ⟨X.K, X.mg⟩ W f)
theorem dts_nil {X : Cx} : DTs X W [] mYes := ⟨⟨fun pins s σ H Q I ⟨F, env, k, p⟩ => pts_nil.run pins s σ H Q I (p F H true .refl k .refl rfl)⟩⟩
theorem dts_one {X : Cx} {c : Expr} {f : MT} (h : DT X W c f) : DTs X W [c] f := ⟨pts_one h.pt⟩
theorem de_lc {X : Cx} {elt tg iter : Expr} {ifs : List Expr} {scope : Scope} {own : List (Str × Nat)} {pos : Pos} {mi : MI} {t : Tg} {mt : MT} {f : ME} (hc : X.calm = true) (hN : X.N.Nodup) (hi : DI X W tg iter mi) (ok : BlkOk X.N X.env.scope scope own) (hin : t.inn (own.map (·.2)) = true)
    (hg : ∀ (s : Shared) (H : Hp) (C : Addr) (cl : List (Str × Addr)) (fp : List Addr), DTg (X.blk s H scope (compEnvC scope cl C X.env) fp) tg t) (ht : ∀ (s : Shared) (H : Hp) (C : Addr) (cl : List (Str × Addr)) (fp : List Addr), DTs (X.blk s H scope (compEnvC scope cl C X.env) fp) WNo ifs mt)
    (he : ∀ (s : Shared) (H : Hp) (C : Addr) (cl : List (Str × Addr)) (fp : List Addr), DE (X.blk s H scope (compEnvC scope cl C X.env) fp) WNo elt f) (hs : ∀ x, foldedSetIterable iter X.env x = pure x := by intro _; rfl) :
    DE X W (.ListComp elt [⟨tg, iter, ifs, 0⟩] scope pos) (mLc mi t.m mt f (own.map (·.2))) := by
  obtain ⟨ti, pi, gi⟩ := hi
  exact ⟨_, pe_lc hc hN pi ok (fun s H C cl fp => (hg s H C cl fp).pg) (fun s H C cl fp => (ht s H C cl fp).pt) (fun s H C cl fp => (he s H C cl fp).pe) hs, good_lc gi (Tg.wi t hin) (Tg.good t) good_of good_of⟩
theorem ds_setLc {X : Cx} {i : Nat} {y : Str} {py : Pos} {elt tg iter : Expr} {ifs : List Expr} {scope : Scope} {own : List (Str × Nat)} {pos spos : Pos} {mi : MI} {t : Tg} {mt : MT} {f : ME} (hc : X.calm = true) (hN : X.N.Nodup) (hy : X.N[i]? = some y) (hyl : X.env.scope.names.lookup y = some .local)
    (hsw : swapsWith (.ListComp elt [⟨tg, iter, ifs, 0⟩] scope pos) (some (.Name y py)) spos.line X.env = pure true) (hi : DI X W tg iter mi) (ok : BlkOk X.N X.env.scope scope own) (hin : t.inn (own.map (·.2)) = true)
    (hg : ∀ (s : Shared) (H : Hp) (C : Addr) (cl : List (Str × Addr)) (fp : List Addr), DTg (X.blk s H scope (compEnvC scope cl C X.env) fp) tg t) (ht : ∀ (s : Shared) (H : Hp) (C : Addr) (cl : List (Str × Addr)) (fp : List Addr), DTs (X.blk s H scope (compEnvC scope cl C X.env) fp) WNo ifs mt)
    (he : ∀ (s : Shared) (H : Hp) (C : Addr) (cl : List (Str × Addr)) (fp : List Addr), DE (X.blk s H scope (compEnvC scope cl C X.env) fp) WNo elt f) (hs : ∀ x, foldedSetIterable iter X.env x = pure x := by intro _; rfl) :
    DS X W (.Assign [.Name y py] (.ListComp elt [⟨tg, iter, ifs, 0⟩] scope pos) spos) (mAsg (mLc mi t.m mt f (own.map (·.2))) (mName i)) := by
  obtain ⟨ti, pi, gi⟩ := hi
  exact ⟨_, ps_setLc hc hN hy hyl hsw pi ok (fun s H C cl fp => (hg s H C cl fp).pg) (fun s H C cl fp => (ht s H C cl fp).pt) (fun s H C cl fp => (he s H C cl fp).pe) hs, good_asg (good_lc gi (Tg.wi t hin) (Tg.good t) good_of good_of) good_name⟩
end DL
namespace DL
open PySem PySem.Spec L2
variable {g : G} {W : WX}

/-- an own object of a slot has changed -/
theorem EnvOk.change {F H : Hp} {σ : St} {env : Env} {i : Nat} {kd : Kd} {d0 d : D} {a : Addr} {o : HO} (k : EnvOk g F H σ env) (he : env[i]? = some (.ow kd d0)) (hs : σ[i]? = some (some (.ref a))) (hk : kd ≠ .lk) (hw : OwnAt g F (upd H a o) a d) :
    Ext F H (Own σ env) F (upd H a o) (Own σ (env.set i (.ow kd d))) ∧ EnvOk g F (upd H a o) σ (env.set i (.ow kd d)) ∧ Keep σ env σ (env.set i (.ow kd d)) := by
  obtain ⟨w, h1, b, h2, h3, h4⟩ := k.sl i _ he
  rw [hs] at h1; cases h1; cases h2
  have oa : Own σ env a := ⟨i, ⟨_, _, he⟩, hs⟩
  have adr : ∀ j c, Adr σ (env.set i (.ow kd d)) j c → Adr σ env j c := fun j c ⟨⟨k2, d2, z1⟩, z2⟩ => by
    rcases get_set z1 with ⟨e1, _, _⟩ | ⟨_, e2⟩
    · subst e1; exact ⟨⟨_, _, he⟩, z2⟩
    · exact ⟨⟨_, _, e2⟩, z2⟩
  refine ⟨⟨.refl, fun b u q n => ?_, fun b q => ?_, fun b q1 q2 => absurd q1 q2, fun b ⟨j, q⟩ => .inr ⟨j, adr j b q⟩⟩, ⟨by simpa using k.len, fun b u q => ?_, fun j s q => ?_, fun j1 j2 c q1 q2 => k.dis j1 j2 c (adr j1 c q1) (adr j2 c q2)⟩, fun j k2 d2 q n => ?_⟩
  · have : b ≠ a := fun z => by subst z; exact n oa
    rw [upd_ne this]; exact q
  · by_cases e : b = a
    · subst e; rw [upd_same]; simp
    · rw [upd_ne e]; exact q
  · have : b ≠ a := fun z => by subst z; rw [h3] at q; cases q
    rw [upd_ne this]; exact k.sub b u q
  · rcases get_set q with ⟨e1, e2, _⟩ | ⟨e1, e2⟩
    · subst e1; subst e2
      exact ⟨_, hs, a, rfl, h3, hw⟩
    · obtain ⟨w, y1, y2⟩ := k.sl j s e2
      refine ⟨w, y1, ?_⟩
      cases s with
      | no => trivial
      | fz d => exact y2
      | ow k3 d3 =>
        obtain ⟨b, y3, y4, y5⟩ := y2
        have nb : b ≠ a := fun z => e1 (k.dis i j a ⟨⟨_, _, he⟩, hs⟩ ⟨⟨_, _, e2⟩, by rw [y1, y3, z]⟩)
        exact ⟨b, y3, y4, y5.mono .refl fun u q => by rw [upd_ne nb]; exact q⟩
  · by_cases e : i = j
    · subst e
      rw [he] at q; cases q
      exact ⟨rfl, d, List.getElem?_set_self (lt_of_get he), fun z => absurd z hk⟩
    · exact ⟨rfl, d2, by rw [List.getElem?_set_ne e]; exact q, fun _ => rfl⟩
/-- the own list of a slot -/
def ownL (env : Env) (i : Nat) : Option (Kd × List D) := match env[i]? with
  | some (.ow .fr (.list ds)) => some (.fr, ds)
  | some (.ow .pn (.list ds)) => some (.pn, ds)
  | _ => none
theorem ownL_ok {env : Env} {i : Nat} {k : Kd} {ds : List D} (h : ownL env i = some (k, ds)) : env[i]? = some (.ow k (.list ds)) ∧ k ≠ .lk := by
  unfold ownL at h
  split at h
  · rename_i q; cases h; exact ⟨q, by decide⟩
  · rename_i q; cases h; exact ⟨q, by decide⟩
  · cases h
theorem EnvOk.ownL {F H : Hp} {σ : St} {env : Env} {i : Nat} {kd : Kd} {ds : List D} (k : EnvOk g F H σ env) (h : DL.ownL env i = some (kd, ds)) : ∃ a xs, σ[i]? = some (some (.ref a)) ∧ H a = some (.lst xs) ∧ DenL g F xs ds := by
  obtain ⟨w, h1, a, h2, h3, h4⟩ := k.sl i _ (ownL_ok h).1
  subst h2
  generalize hd : PyData.list ds = d at h4
  cases h4 with
  | lst h r => cases hd; exact ⟨a, _, h1, h, r⟩
  | dctK _ _ _ _ e => subst e; cases hd
  | dctT _ _ _ _ e => subst e; cases hd
  | ins _ _ _ _ e => subst e; cases hd
theorem PostS.bindF {F H : Hp} {σ : St} {env : Env} {Dn : Ends} {Qa : VK} {m : Res (Rv × Env)} {k : D × Env → Res (Fl × Env)} (h : PostS g W F H σ env Dn (m >>= fun z => z.1.frz z.2 >>= k))
    (hk : ∀ d e2 F2 H1 v, Ext F H (Own σ env) F2 H1 (Own σ e2) → EnvOk g F2 H1 σ e2 → Keep σ env σ e2 → Den g F2 v d → PostS g W F2 H1 σ e2 Dn (k (d, e2)) → Qa v H1) : Post (RE g) g W F H σ env Qa m := by
  refine PostS.bindE h fun r e1 F1 H1 v x ok kp rv p => ?_
  rcases frz_cases r e1 with ⟨d, e2, q⟩ | q
  · simp only [q, Res.ok_bind] at p
    obtain ⟨F2, x2, k2, kp2, hd⟩ := RvOk.frz rv x ok q
    exact hk d e2 F2 H1 v x2 k2 (kp.trans kp2) hd (PostS.after x2 (kp.trans kp2) p)
  · simp only [q, Res.stuck_bind] at p; exact p.elim
/-- x[i] = e -/
def mSetIx (j : Nat) (f fi : ME) : MS := fun env => f env >>= fun z => z.1.frz z.2 >>= fun y => if (ownL y.2 j).isSome = true then fi y.2 >>= fun x => x.1.data x.2 >>= fun di => match ownL x.2 j, di with
    | some (k, ds), .int i => match ixN ds.length i with
      | some n => .ok (.nx, x.2.set j (.ow k (.list (ds.set n y.1))))
      | none => .stuck
    | _, _ => .stuck
  else .stuck
theorem good_setIx {t ti : TE} {j : Nat} {f fi : ME} (h : GoodE g W t f) (hi : GoodE g W ti fi) : GoodS g W (tAsg t (gSub (tVar j) ti rSetL)) (mSetIx j f fi) := fun F H σ env Dn k p => by
  refine h F H σ env _ k (PostS.bindF p fun d e2 F2 H1 v x2 k2 kp2 hd p2 => ?_)
  by_cases hs : (ownL e2 j).isSome = true
  · rw [if_pos hs] at p2
    obtain ⟨⟨kd, ds⟩, ho⟩ := Option.isSome_iff_exists.mp hs
    obtain ⟨a, xs, s1, _, _⟩ := k2.ownL ho
    refine ⟨_, s1, ?_⟩
    refine hi F2 H1 σ e2 _ k2 (PostS.bindE p2 fun r e3 F3 H3 x x3 k3 kp3 rv p3 => ?_)
    have p3 := PostS.after x3 kp3 p3
    rcases data_cases r e3 with ⟨di, q⟩ | q
    · simp only [q, Res.ok_bind] at p3
      have pk := RvOk.pk rv k3 q
      cases ho3 : ownL e3 j with
      | none => simp only [ho3] at p3; exact p3.elim
      | some w =>
        obtain ⟨kd3, ds3⟩ := w
        cases di with
        | int i =>
          simp only [ho3] at p3
          cases hx : ixN ds3.length i with
          | none => simp only [hx] at p3; exact p3.elim
          | some n =>
            simp only [hx] at p3
            obtain ⟨b, ys, s2, hb, db⟩ := k3.ownL ho3
            rw [s1] at s2; cases s2
            obtain ⟨he, hk⟩ := ownL_ok ho3
            have dw : OwnAt g F3 (upd H3 a (.lst (ys.set n v))) a (.list (ds3.set n d)) := .lst upd_same (DenL.set (hd.mono x3.sub) n db)
            obtain ⟨y1, y2, y3⟩ := k3.change he s1 hk dw
            exact ⟨a, ys, i, n, rfl, pk.int, hb, by rw [db.length]; exact hx, p3 F3 _ σ y1 y2 y3⟩
        | _ => simp only [ho3] at p3; exact p3.elim
    · simp only [q, Res.stuck_bind] at p3; exact p3.elim
  · rw [if_neg hs] at p2; exact p2.elim
theorem ds_setIx {X : Cx} {j : Nat} {x : Str} {e ix : Expr} {p spos pos : Pos} {f fi : ME} (he : DE X W e f) (hi : DE X W ix fi) (hN : X.N[j]? = some x) (hv : Vis X.env.scope x)
    (ha : ∀ v, assign (.Subscript (.Name x p) ix spos) X.env v = (do
      let ov ← holding [v] (eval (.Name x p) X.env)
      let iv ← holding [v, ov] (eval ix X.env)
      standAt spos
      holding [v, ov, iv] (setItem ov iv v)
      release [v, ov, iv] []) := by intro _; rfl)
    (hs : swapsWithSole [.Subscript (.Name x p) ix spos] e pos.line X.env = pure false := by rfl) (hw : swappedStores [.Subscript (.Name x p) ix spos] e X.env = pure none := by rfl)
    (h1 : (assignEach [.Subscript (.Name x p) ix spos] X.env).map (·.2) = [assign (.Subscript (.Name x p) ix spos) X.env] := by rfl) (hd : (x == ("__debug__" : Str)) = false := by decide) (hcd : (x == ("__classdict__" : Str)) = false := by decide) :
    DS X W (.Assign [.Subscript (.Name x p) ix spos] e pos) (mSetIx j f fi) := by
  obtain ⟨t, pt, gt⟩ := he
  obtain ⟨u, pu, gu⟩ := hi
  exact ⟨_, ps_asg pt (pg_sub (pe_var hN hv hd hcd) pu set_list ha) hs hw h1, good_setIx gt gu⟩
/-- a method of an own list, an argument that is kept -/
def mAppend (j : Nat) (f : ME) : MS := fun env => if (ownL env j).isSome = true then f env >>= fun z => z.1.frz z.2 >>= fun y => match ownL y.2 j with
    | some (k, ds) => if ds.length < lineM then .ok (.nx, y.2.set j (.ow k (.list (ds ++ [y.1])))) else .stuck
    | none => .stuck
  else .stuck
theorem good_append {t : TE} {j : Nat} {f : ME} (h : GoodE g W t f) : GoodS g W (tDrop (tBM g.K "list" rAppend (tVar j) (tCons t tNil))) (mAppend j f) := fun F H σ env Dn k p => by
  unfold mAppend at p
  by_cases hs : (ownL env j).isSome = true
  · rw [if_pos hs] at p
    obtain ⟨⟨kd, ds⟩, ho⟩ := Option.isSome_iff_exists.mp hs
    obtain ⟨a, xs, s1, ha, _⟩ := k.ownL ho
    refine ⟨_, s1, .inl ⟨rfl, xs, .inl (.inl ha)⟩, ?_⟩
    refine h F H σ env _ k (PostS.bindF p fun d e2 F2 H2 v x2 k2 kp2 hd p2 => ?_)
    cases ho2 : ownL e2 j with
    | none => simp only [ho2] at p2; exact p2.elim
    | some w =>
      obtain ⟨kd2, ds2⟩ := w
      simp only [ho2] at p2
      split at p2
      · rename_i hl
        obtain ⟨b, ys, s2, hb, db⟩ := k2.ownL ho2
        rw [s1] at s2; cases s2
        obtain ⟨he, hk⟩ := ownL_ok ho2
        have dw : OwnAt g F2 (upd H2 a (.lst (ys ++ [v]))) a (.list (ds2 ++ [d])) := .lst upd_same (db.append (.cons hd .nil))
        obtain ⟨y1, y2, y3⟩ := k2.change he s1 hk dw
        exact ⟨a, ys, v, rfl, rfl, hb, by rw [db.length, lineM_eq]; exact hl, p2 F2 _ σ y1 y2 y3⟩
      · exact p2.elim
  · rw [if_neg hs] at p; exact p.elim
section
variable {X : Cx} {j : Nat} {x : Str} {e : Expr} {np apos cpos pos : Pos} {f : ME}
theorem ds_append (hN : X.N[j]? = some x) (hv : Vis X.env.scope x) (ha : DE X W e f) (hs : starEach [e] X.env = (false, eval e X.env) :: starEach [] X.env := by rfl) (hbase : attributeBase (.Name x np) "append" X.env (eval (.Name x np) X.env) = eval (.Name x np) X.env := by rfl)
    (hfew : ((backTo cpos (starEach [e] X.env)).all (fun x => !x.1) && (backToKw cpos (keywordEach [] X.env)).all (fun x => x.1.isSome)
      && decide ([e].length + ([] : List Keyword).length + (if ([] : List Keyword).isEmpty then 0 else 1) < 30)) = true := by rfl)
    (hline : (apos.endLine == cpos.line) = true := by rfl) (hplain : (backTo cpos (starEach [] X.env)).any (·.1) = false := by rfl) (hsw : swapsWith (.Call (.Attribute (.Name x np) "append" apos) [e] [] cpos) none pos.line X.env = pure false := by rfl)
    (hd : (x == ("__debug__" : Str)) = false := by decide) (hcd : (x == ("__classdict__" : Str)) = false := by decide) : DS X W (.Expr (.Call (.Attribute (.Name x np) "append" apos) [e] [] cpos) pos) (mAppend j f) := by
  obtain ⟨t, pt, gt⟩ := ha
  exact ⟨_, ps_expr (pe_bm PySem.F.plainAttrs_list PySem.F.slot_list_append PySem.F.type_list_append mt_append (pe_var hN hv hd hcd) (pa_cons pt pa_nil hs) hbase hfew hline hs hplain) hsw, good_append gt⟩
end
/-- x op= e of values -/
def mAug (i : Nat) (o : D → D → Option Rv) (f : ME) : MS := fun env => match env[i]? with
  | some (.fz d0) => f env >>= fun z => z.1.data z.2 >>= fun d => match o d0 d with
    | some (.val d') => if free z.2 i = true then .ok (.nx, z.2.set i (.fz d')) else .stuck
    | _ => .stuck
  | _ => .stuck
theorem good_aug {t : TE} {i : Nat} {o : D → D → Option Rv} {f : ME} {r : R2} (h : GoodE g W t f) (ho : Good2 g r o) : GoodS g W (tAug i t r) (mAug i o f) := fun F H σ env Dn k p => by
  unfold mAug at p
  cases he : env[i]? with
  | none => simp only [he] at p; exact p.elim
  | some s =>
    cases s with
    | fz d0 =>
      simp only [he] at p
      obtain ⟨w, h1, v, h2, h3⟩ := k.sl i _ he
      subst h2
      refine ⟨v, h1, ?_⟩
      refine h F H σ env _ k (PostS.bindE p fun rr e1 F1 H1 y x1 k1 kp1 rv p1 => ?_)
      have p1 := PostS.after x1 kp1 p1
      rcases data_cases rr e1 with ⟨d, q⟩ | q
      · simp only [q, Res.ok_bind] at p1
        refine ho.run F1 H1 v y d0 d _ k1.sub (.inl (h3.mono x1.sub)) (RvOk.pk rv k1 q) ?_
        cases hod : o d0 d with
        | none => simp only [hod] at p1; exact p1.elim
        | some z =>
          cases z with
          | val d' =>
            simp only [hod] at p1
            split at p1
            · rename_i hf
              intro F2 H2 v' gr hv
              have k2 := k1.grow gr
              have := good_name (g := g) (W := W) (i := i) F1 H1 σ e1 F2 H2 σ e1 v' (.val d') Dn gr.ext k2 .refl hv (by unfold mName storeR; rw [if_pos hf]; exact p1)
              exact this
            · exact p1.elim
          | new d' => simp only [hod] at p1; exact p1.elim
          | sl j => simp only [hod] at p1; exact p1.elim
      · simp only [q, Res.stuck_bind] at p1; exact p1.elim
    | no => simp only [he] at p; exact p.elim
    | ow kk d => simp only [he] at p; exact p.elim
theorem ds_aug {X : Cx} {i : Nat} {x : Str} {e : Expr} {op : Operator} {r : R2} {o : D → D → Option Rv} {pos' pos : Pos} {f : ME} (hN : X.N.Nodup) (hi : X.N[i]? = some x) (hx : Loc X.env.scope x) (ho : PIp X op r) (hg : Good2 ⟨X.K, X.mg⟩ r o) (he : DE X W e f) (hf : X.fn x = true ∨ X.env.scope.names.lookup x = some .local := by first | exact .inl rfl | exact .inr rfl | assumption) :
    DS X W (.AugAssign (.Name x pos') op e pos) (mAug i o f) := by
  obtain ⟨t, pt, gt⟩ := he
  exact ⟨_, ps_aug hN hi hx pt ho hf, good_aug gt hg⟩
/-- += of ints and texts -/
def dIAdd : D → D → Option Rv
  | .int i, .int j => some (.val (.int (i + j)))
  | .str x, .str y => if x.length + y.length ≤ lineM then some (.val (.str (x ++ y))) else none
  | _, _ => none
abbrev rIAdd : R2 := fun x y H Q => rI0 (fun i j => .int (i + j)) x y H Q ∨ ∃ i j, x = .str i ∧ y = .str j ∧ i.length + j.length ≤ sizeLine ∧ Q (.str (i ++ j)) H
theorem ip_addD {X : Cx} : PIp X .Add rIAdd := OpR.or iop_add iop_add_str
theorem good_iadd : Good2 g rIAdd dIAdd := by
  refine ⟨fun F H x y d e Q s hx hy p => ?_, fun d e => ?_⟩
  · unfold dIAdd at p
    split at p
    · exact .inl ⟨_, _, hx.int, hy.int, p.val0 s (.int _)⟩
    · split at p
      · rename_i hl
        obtain ⟨e1, o1⟩ := hx.str
        obtain ⟨e2, o2⟩ := hy.str
        exact .inr ⟨_, _, e1, e2, by rw [lineM_eq]; exact hl, p.val0 s (.str _ (strOk_app o1 o2))⟩
      · exact p.elim
    · exact p.elim
  · unfold dIAdd
    split <;> first | exact NoSl.val | exact NoSl.none | (split <;> first | exact NoSl.val | exact NoSl.none)
end DL
namespace DL
open PySem PySem.Spec L2
open PyProof.Rows (envOfC)
variable {W : WX}

/-- a def of the text that may be called -/
structure Cal (P : Program) (w : World) (K : PySem.W.Frag) (mg : Str → Option Value) (base : Heap) (x : Str) (st : Stmt) (k : Nat) (ps : List Str) (fm : FM) : Prop where
  ex : ∃ f fd, Fun K x x st f fd ∧ mg x = some (.ref f) ∧ FnG P w K mg base k f fd ps fm ∧ Binds K fd ps []
section
variable {X : Cx}
theorem dv (i : Nat) {x : Str} {pos : Pos} (hN : X.N[i]? = some x := by rfl) (hv : Vis X.env.scope x := by first | exact Or.inl rfl | exact Or.inr (Or.inl rfl) | exact Or.inr (Or.inr rfl)) (hd : (x == ("__debug__" : Str)) = false := by decide)
    (hcd : (x == ("__classdict__" : Str)) = false := by decide) : DE X W (.Name x pos) (mVar i) := de_var hN hv hd hcd
theorem de_add {a b : Expr} {pos : Pos} {f h : ME} (ha : DE X W a f) (hb : DE X W b h) : DE X W (.BinOp a .Add b pos) (mBin dAdd f h) := de_op op_addD good_add ha hb
theorem de_sub {a b : Expr} {pos : Pos} {f h : ME} (ha : DE X W a f) (hb : DE X W b h) : DE X W (.BinOp a .Sub b pos) (mBin dSub f h) := de_op op_sub good_sub ha hb
theorem de_mul {a b : Expr} {pos : Pos} {f h : ME} (ha : DE X W a f) (hb : DE X W b h) : DE X W (.BinOp a .Mult b pos) (mBin dMul f h) := de_op op_mulD good_mul ha hb
theorem de_div {a b : Expr} {pos : Pos} {f h : ME} (ha : DE X W a f) (hb : DE X W b h) : DE X W (.BinOp a .FloorDiv b pos) (mBin dDiv f h) := de_op op_fdivW good_div ha hb
theorem de_mod {a b : Expr} {pos : Pos} {f h : ME} (ha : DE X W a f) (hb : DE X W b h) : DE X W (.BinOp a .Mod b pos) (mBin dMod f h) := de_op op_mod good_mod ha hb
theorem de_pow {a b : Expr} {pos : Pos} {f h : ME} (ha : DE X W a f) (hb : DE X W b h) : DE X W (.BinOp a .Pow b pos) (mBin dPow f h) := de_op op_powD good_pow ha hb
theorem de_lt {a b : Expr} {pos : Pos} {f h : ME} (ha : DE X W a f) (hb : DE X W b h) : DE X W (.Compare a [.Lt] [b] pos) (mBin dLt f h) := de_cmp op_ltD good_ord.toGood2 ha hb (nobehind _ (by decide) (by decide))
theorem de_le {a b : Expr} {pos : Pos} {f h : ME} (ha : DE X W a f) (hb : DE X W b h) : DE X W (.Compare a [.LtE] [b] pos) (mBin dLe f h) := de_cmp op_leD good_ord.toGood2 ha hb (nobehind _ (by decide) (by decide))
theorem de_gt {a b : Expr} {pos : Pos} {f h : ME} (ha : DE X W a f) (hb : DE X W b h) : DE X W (.Compare a [.Gt] [b] pos) (mBin dGt f h) := de_cmp op_gtD good_ord.toGood2 ha hb (nobehind _ (by decide) (by decide))
theorem de_ge {a b : Expr} {pos : Pos} {f h : ME} (ha : DE X W a f) (hb : DE X W b h) : DE X W (.Compare a [.GtE] [b] pos) (mBin dGe f h) := de_cmp op_geD good_ord.toGood2 ha hb (nobehind _ (by decide) (by decide))
theorem de_eq (hu : X.A.units + 64 < cLine) {a b : Expr} {pos : Pos} {f h : ME} (ha : DE X W a f) (hb : DE X W b h) : DE X W (.Compare a [.Eq] [b] pos) (mBin dEq f h) := de_cmp (op_eqD hu) good_eq.toGood2 ha hb (nobehind _ (by decide) (by decide))
theorem de_ne (hu : X.A.units + 64 < cLine) {a b : Expr} {pos : Pos} {f h : ME} (ha : DE X W a f) (hb : DE X W b h) : DE X W (.Compare a [.NotEq] [b] pos) (mBin dNe f h) := de_cmp (op_neD hu) good_ne.toGood2 ha hb (nobehind _ (by decide) (by decide))
theorem de_in (hu : X.A.units + 65 < cLine) {a b : Expr} {pos : Pos} {f h : ME} (ha : DE X W a f) (hb : DE X W b h) (hm : behindInMarks .In b = false := by rfl) : DE X W (.Compare a [.In] [b] pos) (mBin dIn f h) := de_cmp (op_inX hu) good_in ha hb hm
theorem de_nin (hu : X.A.units + 65 < cLine) {a b : Expr} {pos : Pos} {f h : ME} (ha : DE X W a f) (hb : DE X W b h) (hm : behindInMarks .NotIn b = false := by rfl) : DE X W (.Compare a [.NotIn] [b] pos) (mBin dNotIn f h) := de_cmp (op_notInX hu) good_notIn ha hb hm
theorem de_is {a b : Expr} {pos : Pos} {f h : ME} (ha : DE X W a f) (hb : DE X W b h) : DE X W (.Compare a [.Is] [b] pos) (mBin dIs f h) := de_cmp op_isX good_is ha hb (nobehind _ (by decide) (by decide))
theorem de_isnt {a b : Expr} {pos : Pos} {f h : ME} (ha : DE X W a f) (hb : DE X W b h) : DE X W (.Compare a [.IsNot] [b] pos) (mBin dIsNot f h) := de_cmp op_isNotX good_isNot ha hb (nobehind _ (by decide) (by decide))
theorem dt_lt {a b : Expr} {pos : Pos} {f h : ME} (ha : DE X W a f) (hb : DE X W b h) : DT X W (.Compare a [.Lt] [b] pos) (mTest (mBin dLt f h)) := dt_cmp op_ltD good_ord.toGood2 ha hb (nobehind _ (by decide) (by decide))
theorem dt_le {a b : Expr} {pos : Pos} {f h : ME} (ha : DE X W a f) (hb : DE X W b h) : DT X W (.Compare a [.LtE] [b] pos) (mTest (mBin dLe f h)) := dt_cmp op_leD good_ord.toGood2 ha hb (nobehind _ (by decide) (by decide))
theorem dt_gt {a b : Expr} {pos : Pos} {f h : ME} (ha : DE X W a f) (hb : DE X W b h) : DT X W (.Compare a [.Gt] [b] pos) (mTest (mBin dGt f h)) := dt_cmp op_gtD good_ord.toGood2 ha hb (nobehind _ (by decide) (by decide))
theorem dt_ge {a b : Expr} {pos : Pos} {f h : ME} (ha : DE X W a f) (hb : DE X W b h) : DT X W (.Compare a [.GtE] [b] pos) (mTest (mBin dGe f h)) := dt_cmp op_geD good_ord.toGood2 ha hb (nobehind _ (by decide) (by decide))
theorem dt_eq (hu : X.A.units + 64 < cLine) {a b : Expr} {pos : Pos} {f h : ME} (ha : DE X W a f) (hb : DE X W b h) : DT X W (.Compare a [.Eq] [b] pos) (mTest (mBin dEq f h)) := dt_cmp (op_eqD hu) good_eq.toGood2 ha hb (nobehind _ (by decide) (by decide))
theorem dt_ne (hu : X.A.units + 64 < cLine) {a b : Expr} {pos : Pos} {f h : ME} (ha : DE X W a f) (hb : DE X W b h) : DT X W (.Compare a [.NotEq] [b] pos) (mTest (mBin dNe f h)) := dt_cmp (op_neD hu) good_ne.toGood2 ha hb (nobehind _ (by decide) (by decide))
theorem dt_in (hu : X.A.units + 65 < cLine) {a b : Expr} {pos : Pos} {f h : ME} (ha : DE X W a f) (hb : DE X W b h) (hm : behindInMarks .In b = false := by rfl) : DT X W (.Compare a [.In] [b] pos) (mTest (mBin dIn f h)) := dt_cmp (op_inX hu) good_in ha hb hm
theorem dt_nin (hu : X.A.units + 65 < cLine) {a b : Expr} {pos : Pos} {f h : ME} (ha : DE X W a f) (hb : DE X W b h) (hm : behindInMarks .NotIn b = false := by rfl) : DT X W (.Compare a [.NotIn] [b] pos) (mTest (mBin dNotIn f h)) := dt_cmp (op_notInX hu) good_notIn ha hb hm
theorem dt_is {a b : Expr} {pos : Pos} {f h : ME} (ha : DE X W a f) (hb : DE X W b h) : DT X W (.Compare a [.Is] [b] pos) (mTest (mBin dIs f h)) := dt_cmp op_isX good_is ha hb (nobehind _ (by decide) (by decide))
theorem dt_isnt {a b : Expr} {pos : Pos} {f h : ME} (ha : DE X W a f) (hb : DE X W b h) : DT X W (.Compare a [.IsNot] [b] pos) (mTest (mBin dIsNot f h)) := dt_cmp op_isNotX good_isNot ha hb (nobehind _ (by decide) (by decide))
theorem de_at {a b : Expr} {pos : Pos} {f h : ME} (ha : DE X W a f) (hb : DE X W b h) (hs : PlainIx b := by exact fun _ _ => rfl) : DE X W (.Subscript a b pos) (mBin dIx f h) := de_ix ix_seq good_ix ha hb hs
theorem de_cut {e : Expr} {lo hi : Option Expr} {p2 pos : Pos} {f : ME} {l h : MO} (he : DE X W e f) (hl : DO X W lo l) (hu : DO X W hi h) : DE X W (.Subscript e (.Slice lo hi none p2) pos) (mSl dSl f l h) := de_slice sl_D good_slD he hl hu
theorem de_len {p pos : Pos} {e : Expr} {f : ME} (hm : X.mg "len" = none) (ha : DA X W [e] [f]) (hg : Gl X "len" := by rfl) (he : starEach [e] X.env = (false, eval e X.env) :: starEach [] X.env := by rfl) (hpl : (backTo pos (starEach [] X.env)).any (·.1) = false := by rfl) : DE X W (.Call (.Name "len" p) [e] [] pos) (mCallB dLen [f]) :=
  de_callB call_lenD2 good_len hg hm (by decide +kernel) ha (by decide) (by decide) he hpl
theorem de_abs {p pos : Pos} {e : Expr} {f : ME} (hm : X.mg "abs" = none) (ha : DA X W [e] [f]) (hg : Gl X "abs" := by rfl) (he : starEach [e] X.env = (false, eval e X.env) :: starEach [] X.env := by rfl) (hpl : (backTo pos (starEach [] X.env)).any (·.1) = false := by rfl) : DE X W (.Call (.Name "abs" p) [e] [] pos) (mCallB dAbs [f]) :=
  de_callB call_abs good_abs hg hm (by decide +kernel) ha (by decide) (by decide) he hpl
theorem de_max2 {p pos : Pos} {e a : Expr} {f h : ME} (hc : X.calm = true) (hm : X.mg "max" = none) (ha : DA X W [e, a] [f, h]) (hg : Gl X "max" := by rfl) (he : starEach [e, a] X.env = (false, eval e X.env) :: starEach [a] X.env := by rfl) (hpl : (backTo pos (starEach [a] X.env)).any (·.1) = false := by rfl) : DE X W (.Call (.Name "max" p) [e, a] [] pos) (mCallB dMax2 [f, h]) :=
  de_callB (call_max2 hc) good_max2 hg hm (by decide +kernel) ha (by decide) (by decide) he hpl
theorem de_min2 {p pos : Pos} {e a : Expr} {f h : ME} (hc : X.calm = true) (hm : X.mg "min" = none) (ha : DA X W [e, a] [f, h]) (hg : Gl X "min" := by rfl) (he : starEach [e, a] X.env = (false, eval e X.env) :: starEach [a] X.env := by rfl) (hpl : (backTo pos (starEach [a] X.env)).any (·.1) = false := by rfl) : DE X W (.Call (.Name "min" p) [e, a] [] pos) (mCallB dMin2 [f, h]) :=
  de_callB (call_min2 hc) good_min2 hg hm (by decide +kernel) ha (by decide) (by decide) he hpl
theorem de_all {p pos : Pos} {e : Expr} {f : ME} (hc : X.calm = true) (hm : X.mg "all" = none) (ha : DA X W [e] [f]) (hg : Gl X "all" := by rfl) (he : starEach [e] X.env = (false, eval e X.env) :: starEach [] X.env := by rfl) (hpl : (backTo pos (starEach [] X.env)).any (·.1) = false := by rfl) : DE X W (.Call (.Name "all" p) [e] [] pos) (mCallB dAll [f]) :=
  de_callB (cr_all hc) good_all hg hm (by decide +kernel) ha (by decide) (by decide) he hpl
theorem de_sum {p pos : Pos} {e : Expr} {f : ME} (hc : X.calm = true) (hm : X.mg "sum" = none) (ha : DA X W [e] [f]) (hg : Gl X "sum" := by rfl) (he : starEach [e] X.env = (false, eval e X.env) :: starEach [] X.env := by rfl) (hpl : (backTo pos (starEach [] X.env)).any (·.1) = false := by rfl) : DE X W (.Call (.Name "sum" p) [e] [] pos) (mCallB dSum [f]) :=
  de_callB (cr_sum hc) good_sum hg hm (by decide +kernel) ha (by decide) (by decide) he hpl
theorem de_intc {p pos : Pos} {e : Expr} {f : ME} (hm : X.mg "int" = none) (ha : DA X W [e] [f]) (hg : Gl X "int" := by rfl) (he : starEach [e] X.env = (false, eval e X.env) :: starEach [] X.env := by rfl) (hpl : (backTo pos (starEach [] X.env)).any (·.1) = false := by rfl) : DE X W (.Call (.Name "int" p) [e] [] pos) (mCallB dInt [f]) :=
  de_callTy call_int1 good_int hg hm (by decide +kernel) ha (by decide) (by decide) he hpl
theorem de_da1 {e : Expr} {f : ME} (h : DE X W e f) (hs : starEach [e] X.env = (false, eval e X.env) :: starEach [] X.env := by rfl) : DA X W [e] [f] := da_cons h da_nil hs
end
section
variable {X : Cx} {x : Str} {st : Stmt} {k j : Nat} {ps ks : List Str} {fm : FM} {p pos : Pos} {e : Expr} {es : List Expr} {fs gs : List ME} {kws : List Keyword} {np : Nat}
theorem dcall (c : Cal X.prog X.w X.K X.mg X.base x st j ps fm) (hr : Room k X.A) (hj : j ≤ k) (gd : X.A.guards = some []) (tk : Takes X W) (ms : List Md) (ha : DA X W (e :: es) fs) (hg : Gl X x := by rfl)
    (hdb : (x == ("__debug__" : Str)) = false := by decide) (he : starEach (e :: es) X.env = (false, eval e X.env) :: starEach es X.env := by rfl) (hpl : (backTo pos (starEach es X.env)).any (·.1) = false := by rfl) : DE X W (.Call (.Name x p) (e :: es) [] pos) (mCallF fm ms fs) := by
  obtain ⟨f, fd, Fu, hm, F, hb⟩ := c
  exact de_call F (hr.mono hj) gd tk hg hm Fu.kp hb ms ha hdb he hpl
theorem dcallK (c : Cal X.prog X.w X.K X.mg X.base x st j ps fm) (hr : Room k X.A) (hj : j ≤ k) (gd : X.A.guards = some []) (tk : Takes X W) (perm : List Nat) (ks : List Str)
    (kb : ∀ (kV doc pm : Value) (an : Option Addr) (cdv ct : Value) (us ws : List Value), us.length = fs.length → ws.length = ks.length → bindArgs (PySem.W.fnOf x x (defArgs st) (defBody st) (defScope st) .none kV doc pm an cdv ct) ⟨us, ks.zip ws⟩ = pure (ps.zip (pick Value.none perm (us ++ ws))))
    (hlt : ∀ i ∈ perm, i < fs.length + ks.length) (hlen : perm.length = ps.length) (ha : DA X W (e :: es) fs) (hkw : DK X W kws gs) (hg : Gl X x := by rfl) (hall : (backToKw pos (keywordEach kws X.env)).all (·.1.isSome) = true := by rfl) (hks : (backToKw pos (keywordEach kws X.env)).filterMap (·.1) = ks := by rfl)
    (hdb : (x == ("__debug__" : Str)) = false := by decide) (he : starEach (e :: es) X.env = (false, eval e X.env) :: starEach es X.env := by rfl)
    (hpl : ((backTo pos (starEach (e :: es) X.env)).any (·.1) || (backToKw pos (keywordEach kws X.env)).any (·.1.isNone)) = false := by rfl) : DE X W (.Call (.Name x p) (e :: es) kws pos) (mCallK fm perm fs.length ks.length fs gs) := by
  obtain ⟨f, fd, Fu, hm, F, hb⟩ := c
  have kp := Fu.kp
  obtain ⟨oc, od, kV, doc, pm, an, cdv, ct, osl, rfl, lk, hcd⟩ := Fu.ex
  exact de_callK F (hr.mono hj) gd tk hg hm kp ⟨fun s us ws _ h1 h2 => .of_eq (kb kV doc pm an cdv ct us ws h1 h2), hlt, hlen⟩ ha hkw hall hks hdb he hpl
theorem dcallK0 (c : Cal X.prog X.w X.K X.mg X.base x st j ps fm) (hr : Room k X.A) (hj : j ≤ k) (gd : X.A.guards = some []) (tk : Takes X W) (perm : List Nat) (ks : List Str)
    (kb : ∀ (kV doc pm : Value) (an : Option Addr) (cdv ct : Value) (us ws : List Value), us.length = 0 → ws.length = ks.length → bindArgs (PySem.W.fnOf x x (defArgs st) (defBody st) (defScope st) .none kV doc pm an cdv ct) ⟨us, ks.zip ws⟩ = pure (ps.zip (pick Value.none perm (us ++ ws))))
    (hlt : ∀ i ∈ perm, i < 0 + ks.length) (hlen : perm.length = ps.length) (hkw : DK X W kws gs) (hg : Gl X x := by rfl) (hall : (backToKw pos (keywordEach kws X.env)).all (·.1.isSome) = true := by rfl) (hks : (backToKw pos (keywordEach kws X.env)).filterMap (·.1) = ks := by rfl)
    (hdb : (x == ("__debug__" : Str)) = false := by decide)
    (hpl : ((backTo pos (starEach [] X.env)).any (·.1) || (backToKw pos (keywordEach kws X.env)).any (·.1.isNone)) = false := by rfl) : DE X W (.Call (.Name x p) [] kws pos) (mCallK fm perm 0 ks.length [] gs) := by
  obtain ⟨f, fd, Fu, hm, F, hb⟩ := c
  have kp := Fu.kp
  obtain ⟨oc, od, kV, doc, pm, an, cdv, ct, osl, rfl, lk, hcd⟩ := Fu.ex
  exact de_callK0 F (hr.mono hj) gd tk hg hm kp ⟨fun s us ws _ h1 h2 => .of_eq (kb kV doc pm an cdv ct us ws h1 h2), hlt, hlen⟩ hkw hall hks hdb hpl
end
/-- the built-in names that a text uses are no names of its own -/
abbrev Blt (mg : Str → Option Value) (l : List Str) : Prop := ∀ x ∈ l, mg x = none
theorem hu64 {A : Around} {k : Nat} (hr : Room k A) : A.units + 64 < cLine := hr.units
theorem hu65 {A : Around} {k : Nat} (hr : Room k A) : A.units + 65 < cLine := by have := hr.un; omega
theorem Cal.mk' {P : Program} {w : World} {K : PySem.W.Frag} {mg : Str → Option Value} {base : Heap} {x : Str} {st : Stmt} {k : Nat} {N ps : List Str} {m : MS} {f : Addr} {fd : FuncData} (Fu : Fun K x x st f fd) (hm : mg x = some (.ref f)) (S : FnScope N ps (defScope st)) (hb : Binds K fd ps [])
    (h : ∀ (cdv : Value) (A : Around) (outer : List PySem.Env) (s : Shared) (H : Hp) (E : XK), Room k (A.deeper (envOfC x (defScope st) s.heap.objs.size f cdv)) → (A.deeper (envOfC x (defScope st) s.heap.objs.size f cdv)).guards = some [] →
      DSs (cxOf (L2.CX P w) P w K mg base N x (defScope st) f cdv A outer s H E) (fun c d _ H => E c d H) (defBody st) m) : Cal P w K mg base x st (k + 1) ps (mDef ps.length N.length m) :=
  ⟨⟨f, fd, Fu, hm, fng_of Fu S h, hb⟩⟩
end DL
namespace DL
open PySem PySem.Spec L2
variable {g : G} {W : WX}

/-! ### a, b = x, y : all values first, then the stores -/
def hold : Rv → Env → Res (Rv × Env)
  | .val d, env => .ok (.val d, env)
  | .new d, env => .ok (.new d, env)
  | .sl i, env => (Rv.sl i).frz env >>= fun z => .ok (.val z.1, z.2)
def isNew : Rv → Bool
  | .new _ => true
  | _ => false
def notSl : Rv → Bool
  | .sl _ => false
  | _ => true
inductive HOkL (g : G) (F H : Hp) (σ : St) (env : Env) : Hp → List V → List Rv → Prop
  | nil {H0 : Hp} : HOkL g F H σ env H0 [] []
  | cons {H0 H1 : Hp} {v : V} {r : Rv} {vs : List V} {rs : List Rv} : RvOk g H0 F H σ env v r → notSl r = true → (∀ b, H0 b ≠ none → H1 b ≠ none) → (∀ a, isNew r = true → v = .ref a → H1 a ≠ none) → HOkL g F H σ env H1 vs rs → HOkL g F H σ env H0 (v :: vs) (r :: rs)
theorem HOkL.earlier {F H : Hp} {σ : St} {env : Env} {H0 H1 : Hp} {vs : List V} {rs : List Rv} (h : HOkL g F H σ env H1 vs rs) (k : ∀ b, H0 b ≠ none → H1 b ≠ none) : HOkL g F H σ env H0 vs rs := by
  cases h with
  | nil => exact .nil
  | cons h1 h2 h3 h4 h5 => exact .cons (RvOk.earlier h1 k) h2 (fun b z => h3 b (k b z)) h4 h5
def RHs (g : G) : RelB (List V) (List Rv) := fun H0 F H σ env vs rs => HOkL g F H σ env H0 vs rs
theorem RHs.early : Early (RHs g) := ⟨fun _ _ _ _ _ _ _ _ k h => HOkL.earlier h k⟩
def evHs : List ME → Env → Res (List Rv × Env)
  | [], env => .ok ([], env)
  | f :: fs, env => f env >>= fun z => hold z.1 z.2 >>= fun y => evHs fs y.2 >>= fun x => .ok (y.1 :: x.1, x.2)
theorem hold_ok {F0 H0 F H : Hp} {O : Addr → Prop} {σ : St} {env env' : Env} {v : V} {r r' : Rv} (h : RvOk g H0 F H σ env v r) (x : Ext F0 H0 O F H (Own σ env)) (k : EnvOk g F H σ env) (e : hold r env = .ok (r', env')) :
    ∃ F', Ext F0 H0 O F' H (Own σ env') ∧ EnvOk g F' H σ env' ∧ Keep σ env σ env' ∧ RvOk g H0 F' H σ env' v r' ∧ notSl r' = true := by
  cases r with
  | val d => cases e; exact ⟨F, x, k, .refl, h, rfl⟩
  | new d => cases e; exact ⟨F, x, k, .refl, h, rfl⟩
  | sl i =>
    unfold hold at e
    rcases frz_cases (.sl i) env with ⟨d, e1, q⟩ | q
    · simp only [q, Res.ok_bind] at e
      cases e
      obtain ⟨F2, x2, k2, kp2, hd⟩ := RvOk.frz h x k q
      exact ⟨F2, x2, k2, kp2, hd, rfl⟩
    · simp only [q, Res.stuck_bind] at e; cases e
theorem hold_cases (r : Rv) (env : Env) : (∃ y, hold r env = .ok y) ∨ hold r env = .stuck := by
  cases r with
  | val d => exact .inl ⟨_, rfl⟩
  | new d => exact .inl ⟨_, rfl⟩
  | sl i =>
    unfold hold
    rcases frz_cases (.sl i) env with ⟨d, e1, q⟩ | q
    · exact .inl ⟨(.val d, e1), by simp only [q, Res.ok_bind]⟩
    · exact .inr (by simp only [q, Res.stuck_bind])
/-- a part, told from an earlier start -/
theorem Post.since {β α β' α' : Type} {R : RelB β α} {R' : RelB β' α'} {F H F1 H1 : Hp} {σ : St} {env e1 : Env} {Q : β' → Hp → Prop} {Qa : β → Hp → Prop} {m : Res (α × Env)} {k : α × Env → Res (α' × Env)} (x : Ext F H (Own σ env) F1 H1 (Own σ e1)) (kp : Keep σ env σ e1)
    (h : Post R' g W F H σ env Q (m >>= k)) (hk : ∀ r e2 F2 H2 v, Ext F1 H1 (Own σ e1) F2 H2 (Own σ e2) → EnvOk g F2 H2 σ e2 → Keep σ e1 σ e2 → R H1 F2 H2 σ e2 v r → Post R' g W F H σ env Q (k (r, e2)) → Qa v H2) : Post R g W F1 H1 σ e1 Qa m := by
  cases m with
  | ok p => obtain ⟨r, e2⟩ := p; exact fun F2 H2 v x2 ok k2 rv => hk r e2 F2 H2 v x2 ok k2 rv h
  | ex c d e => exact fun F' H' dd C v x' ok k' => h F' H' dd C v (x.trans x') ok (kp.trans k')
  | stuck => exact h
theorem AllE.hs {t : TA} {fs : List ME} (h : AllE g W t fs) : Good (RHs g) g W t (evHs fs) := by
  induction h with
  | nil => exact fun F H σ env Q k p => p F H [] .refl k .refl .nil
  | @cons t tr f fs hf hr ih =>
    intro F H σ env Q k p
    have p' : Post (RHs g) g W F H σ env Q (f env >>= fun z => hold z.1 z.2 >>= fun y => evHs fs y.2 >>= fun x => .ok (y.1 :: x.1, x.2)) := p
    refine hf F H σ env _ k (Post.since .refl .refl p' fun r0 e0 F0 H1 v x0 k0 kp0 rv0 p1 => ?_)
    rcases hold_cases r0 e0 with ⟨⟨r1, e1⟩, q⟩ | q
    · simp only [q, Res.ok_bind] at p1
      obtain ⟨F1, x1, k1, kp1, rv1, ns⟩ := hold_ok rv0 x0 k0 q
      refine ih F1 H1 σ e1 _ k1 (Post.since (R := RHs g) x1 (kp0.trans kp1) p1 fun rs e2 F2 H2 vs x2 k2 kp2 hrs p2 => ?_)
      have dm : ∀ a, isNew r1 = true → v = .ref a → H1 a ≠ none := fun a hn hv => by
        cases r1 with
        | new d =>
          obtain ⟨a', e, _, _, _, w⟩ := rv1
          rw [hv] at e; cases e
          obtain ⟨o, ho⟩ := w.there
          rw [ho]; simp
        | _ => cases hn
      exact p2 F2 H2 (v :: vs) (x1.trans x2) k2 ((kp0.trans kp1).trans kp2) (.cons (rv1.ext x2) ns x1.dom dm hrs)
    · simp only [q, Res.stuck_bind] at p1; exact p1.elim
def slOf : Rv → Sl
  | .val d => .fz d
  | .new d => .ow .fr d
  | .sl _ => .no
def storeHs : List Nat → List Rv → Env → Res (Fl × Env)
  | [], [], env => .ok (.nx, env)
  | i :: is, r :: rs, env => if free env i = true then storeHs is rs (env.set i (slOf r)) else .stuck
  | _, _, _ => .stuck
theorem storeHs_cons (i : Nat) (is : List Nat) (r : Rv) (rs : List Rv) (env : Env) : storeHs (i :: is) (r :: rs) env = if free env i = true then storeHs is rs (env.set i (slOf r)) else .stuck := rfl
theorem storeHs_nil (env : Env) : storeHs [] [] env = .ok (.nx, env) := rfl
def setAll (σ : St) : List Nat → List V → St
  | i :: is, v :: vs => setAll (σ.set i (some v)) is vs
  | _, _ => σ
/-- one store of a value that is held -/
theorem store_step {F0 H0 F H : Hp} {σ0 σ : St} {env0 env : Env} {i : Nat} {v : V} {r : Rv} (hf : free env i = true) (ns : notSl r = true) (x : Ext F0 H0 (Own σ0 env0) F H (Own σ env)) (k : EnvOk g F H σ env) (kp : Keep σ0 env0 σ env) (rv : RvOk g H0 F H σ env v r) :
    Ext F0 H0 (Own σ0 env0) F H (Own (σ.set i (some v)) (env.set i (slOf r))) ∧ EnvOk g F H (σ.set i (some v)) (env.set i (slOf r)) ∧ Keep σ0 env0 (σ.set i (some v)) (env.set i (slOf r)) := by
  have hl := free_lt hf
  cases r with
  | val d =>
    have ks := k.store (v := v) (s := .fz d) hl ⟨v, rfl, rv⟩ fun _ _ ⟨kd, d2, z⟩ => nomatch z
    refine ⟨⟨x.sub, x.keep, x.dom, x.new, fun b ⟨j, hb⟩ => ?_⟩, ks, kp.trans (keep_set hf)⟩
    rcases adr_set hb with ⟨_, ⟨_, _, z⟩, _⟩ | ⟨_, a1⟩
    · cases z
    · exact x.own b ⟨j, a1⟩
  | new d =>
    obtain ⟨a, e, h0, hF, hO, w⟩ := rv
    have ks := k.store (v := v) (s := .ow .fr d) hl ⟨a, by rw [e], hF, w⟩ fun b e' _ j _ hb => by
      rw [e] at e'; cases e'; exact hO ⟨j, hb⟩
    refine ⟨⟨x.sub, x.keep, x.dom, x.new, fun b ⟨j, hb⟩ => ?_⟩, ks, kp.trans (keep_set hf)⟩
    rcases adr_set hb with ⟨_, _, z⟩ | ⟨_, a1⟩
    · rw [e] at z; cases z; exact .inl h0
    · exact x.own b ⟨j, a1⟩
  | sl j => cases ns
theorem HOkL.stored {F H : Hp} {σ : St} {env : Env} {i : Nat} {v : V} {r : Rv} (dm : ∀ a, isNew r = true → v = .ref a → ∃ H1 : Hp, H1 a ≠ none ∧ True) {H0 : Hp} {vs : List V} {rs : List Rv} (h : HOkL g F H σ env H0 vs rs) (fresh : ∀ a, isNew r = true → v = .ref a → H0 a ≠ none) : HOkL g F H (σ.set i (some v)) (env.set i (slOf r)) H0 vs rs := by
  induction h with
  | nil => exact .nil
  | @cons H0 H1 v2 r2 vs rs h1 h2 h3 h4 h5 ih =>
    refine .cons ?_ h2 h3 h4 (ih fun a z y => h3 a (fresh a z y))
    cases r2 with
    | val d => exact h1
    | new d =>
      obtain ⟨a, e, e0, hF, hO, w⟩ := h1
      refine ⟨a, e, e0, hF, fun ⟨j, hb⟩ => ?_, w⟩
      rcases adr_set hb with ⟨_, ⟨kd, d2, z⟩, z2⟩ | ⟨_, a1⟩
      · have hn : isNew r = true := by cases r with
          | new => rfl
          | val => cases z
          | sl => cases z
        exact fresh a hn z2 e0
      · exact hO ⟨j, a1⟩
    | sl j => cases h2
theorem storeHs_ok {F0 H0 : Hp} {σ0 : St} {env0 : Env} {Dn : Ends} : ∀ {is : List Nat} {vs : List V} {rs : List Rv} {F H : Hp} {σ : St} {env : Env} {H1 : Hp}, (∀ b, H0 b ≠ none → H1 b ≠ none) → HOkL g F H σ env H1 vs rs → Ext F0 H0 (Own σ0 env0) F H (Own σ env) → EnvOk g F H σ env → Keep σ0 env0 σ env → PostS g W F0 H0 σ0 env0 Dn (storeHs is rs env) → Dn.nx (setAll σ is vs) H
  | [], _, _, F, H, σ, env, H1, _, .nil, x, k, kp, p => p F H σ x k kp
  | _ :: _, _, _, _, _, _, _, _, _, .nil, _, _, _, p => p.elim
  | [], _, _, _, _, _, _, _, _, .cons .., _, _, _, p => p.elim
  | i :: is, _, _, F, H, σ, env, H1, d1, .cons (v := v) (r := r) (rs := rs) h1 h2 h3 h4 h5, x, k, kp, p => by
    by_cases hf : free env i = true
    · have p' : PostS g W F0 H0 σ0 env0 Dn (storeHs is rs (env.set i (slOf r))) := by
        rw [storeHs_cons, if_pos hf] at p
        exact p
      obtain ⟨x2, k2, kp2⟩ := store_step hf h2 x k kp (RvOk.earlier h1 d1)
      show Dn.nx (setAll (σ.set i (some v)) is _) H
      exact storeHs_ok (is := is) (rs := rs) (fun b z => h3 b (d1 b z)) (h5.stored (fun a _ _ => ⟨fun _ => some (.lst []), by simp⟩) h4) x2 k2 kp2 p'
    · rw [storeHs_cons, if_neg hf] at p
      exact p.elim
def mPar (is : List Nat) (fs : List ME) : MS := fun env => evHs fs env >>= fun z => storeHs is z.1 z.2
theorem storeHs_len : ∀ {is : List Nat} {rs : List Rv} {env : Env}, storeHs is rs env ≠ .stuck → is.length = rs.length
  | [], [], _, _ => rfl
  | [], _ :: _, _, h => absurd rfl h
  | _ :: _, [], _, h => absurd rfl h
  | i :: is, r :: rs, env, h => by
    rw [storeHs_cons] at h
    split at h
    · simp [storeHs_len h]
    · exact absurd rfl h
theorem HOkL.len {F H : Hp} {σ : St} {env : Env} : ∀ {H0 : Hp} {vs : List V} {rs : List Rv}, HOkL g F H σ env H0 vs rs → vs.length = rs.length
  | _, _, _, .nil => rfl
  | _, _, _, .cons _ _ _ _ h => by simp [HOkL.len h]
theorem par_run {t : TA} {fs : List ME} {is : List Nat} (h : AllE g W t fs) {F H : Hp} {σ : St} {env : Env} {Dn : Ends} {Q : List V → Hp → Prop} (k : EnvOk g F H σ env) (p : PostS g W F H σ env Dn (mPar is fs env)) (q : ∀ vs H1, vs.length = is.length → Dn.nx (setAll σ is vs) H1 → Q vs H1) : t σ H Q := by
  refine h.hs F H σ env _ k ?_
  unfold mPar at p
  cases hm : evHs fs env with
  | stuck => rw [hm] at p; exact p.elim
  | ex c d e => rw [hm] at p; exact fun F' H' dd C v => p F' H' σ dd C v
  | ok z =>
    obtain ⟨rs, e⟩ := z
    rw [hm, Res.ok_bind] at p
    intro F1 H1 vs x1 k1 kp1 hrs
    have hrs : HOkL g F1 H1 σ e H vs rs := hrs
    exact q vs H1 (by rw [hrs.len, storeHs_len p.stuck_ne]) (storeHs_ok (fun _ z => z) hrs x1 k1 kp1 p)
theorem good_par2 {t : TA} {fs : List ME} {i j : Nat} (h : AllE g W t fs) : GoodS g W (tPar i j t) (mPar [i, j] fs) := fun F H σ env Dn k p =>
  par_run h k p fun vs H1 hl hd => match vs, hl, hd with
    | [v, w], _, hd => ⟨v, w, rfl, hd⟩
theorem good_par3 {t : TA} {fs : List ME} {i j l : Nat} (h : AllE g W t fs) : GoodS g W (tPar3 i j l t) (mPar [i, j, l] fs) := fun F H σ env Dn k p =>
  par_run h k p fun vs H1 hl hd => match vs, hl, hd with
    | [u, v, w], _, hd => ⟨u, v, w, rfl, hd⟩
section
variable {X : Cx} {fs : List ME} {a b c : Expr} {px py pz pt pos : Pos}
theorem ds_par2 {i j : Nat} {x y : Str} {kt k2 pt2} (hc : X.calm = true) (hN : X.N.Nodup) (hi : X.N[i]? = some x) (hj : X.N[j]? = some y) (hij : i ≠ j)
    (hx : X.env.scope.names.lookup x = some .local) (hy : X.env.scope.names.lookup y = some .local) (ha : DA X W [a, b] fs)
    (hw : swappedStores [.Tuple [.Name x px, .Name y py] kt pt] (.Tuple [a, b] k2 pt2) X.env = pure (some [x, y]) := by rfl)
    (hs : swapsWithSole [.Tuple [.Name x px, .Name y py] kt pt] (.Tuple [a, b] k2 pt2) pos.line X.env = pure false := by rfl) :
    DS X W (.Assign [.Tuple [.Name x px, .Name y py] kt pt] (.Tuple [a, b] k2 pt2) pos) (mPar [i, j] fs) := by
  obtain ⟨t, pt, gt⟩ := ha
  exact ⟨_, ps_par hc hN hi hj hij hx hy pt hw hs, good_par2 gt⟩
theorem ds_par3 {i j l : Nat} {x y z : Str} {kt k2 pt2} (hc : X.calm = true) (hN : X.N.Nodup) (hi : X.N[i]? = some x) (hj : X.N[j]? = some y) (hl : X.N[l]? = some z) (hij : i ≠ j) (hil : i ≠ l) (hjl : j ≠ l)
    (hx : X.env.scope.names.lookup x = some .local) (hy : X.env.scope.names.lookup y = some .local) (hz : X.env.scope.names.lookup z = some .local) (ha : DA X W [a, b, c] fs)
    (hw : swappedStores [.Tuple [.Name x px, .Name y py, .Name z pz] kt pt] (.Tuple [a, b, c] k2 pt2) X.env = pure (some [x, y, z]) := by rfl)
    (hs : swapsWithSole [.Tuple [.Name x px, .Name y py, .Name z pz] kt pt] (.Tuple [a, b, c] k2 pt2) pos.line X.env = pure false := by rfl) :
    DS X W (.Assign [.Tuple [.Name x px, .Name y py, .Name z pz] kt pt] (.Tuple [a, b, c] k2 pt2) pos) (mPar [i, j, l] fs) := by
  obtain ⟨t, pt, gt⟩ := ha
  exact ⟨_, ps_par3 hc hN hi hj hl hij hil hjl hx hy hz pt hw hs, good_par3 gt⟩
end
end DL
namespace DL
open PySem PySem.Spec L2
variable {g : G} {W : WX}

/-! ### enumerate of tuples and texts -/
theorem enum_step {X : Cx} {pins : List (Addr × Obj)} {σ : St} {H : Hp} {s : Shared} {E : Value → Shared → Prop} {elts : List Expr} {kk : Nat} {tpos : Pos} {e it : Addr} {fp : List Addr} {n i : Nat} {Pv : Nat → Value → Prop} {Tn : Nat → Heap → Prop} {Y : V → Prop} {old : Value}
    (I : Inv X pins σ H s) (D : Draws X.prog X.w X.A.in1 it fp n Pv Tn) (he : IsEnum s.heap e it ((i : Nat) : Int) old) (ht : Tn i s.heap) (hi : i < n) (hne : e ≠ it) (hef : e ∉ fp) (hf : ∀ b ∈ [e, it], FpOk X pins H b) (hY : ∀ u, Pv i u → ∃ x, RelV x u ∧ Y x) :
    wpAny (model X.prog X.w) X.A (pyNext (.ref e)) (fun r s1 => ∃ u, r = some u ∧ wpAny (model X.prog X.w) X.A (letOwnedTupleGo (.Tuple elts kk tpos) (.ref e) u) (fun _ s2 => ∃ v H', Inv X pins σ H' s2 ∧ RelV v u ∧ (∃ T x, v = .ref T ∧ H T = none ∧ H' = upd H T (.tup [.int (i : Nat), x]) ∧ Y x) ∧
      ((∃ old, IsEnum s2.heap e it (((i + 1 : Nat)) : Int) old) ∧ Tn (i + 1) s2.heap) ∧ ∀ b ∈ [e, it], H' b = none) E s1) E s := by
  have hel : e < s.heap.objs.size := Heap.lt_size he
  have hil : it < s.heap.objs.size := by obtain ⟨_, q⟩ := D.live _ _ ht; exact Heap.lt_size q
  refine wpAny_pyNext_enum_itemD D he ht hi hne hef fun u h1 tk hp out t1 hT hz keep => ?_
  obtain ⟨x, ru, y⟩ := hY u hp
  refine ⟨_, rfl, wpAny_letOwnedTupleGo_enum (s := ⟨h1, s.gens, s.drawn, tk + 1, s.os⟩) out fun h2 e2 sb => ?_⟩
  have hT2 : h2.get? s.heap.objs.size = some { cls := .type "tuple", data := .seq #[.int i tk, u] } := (sb.2 _ (Nat.ne_of_gt hel)).trans hT
  have new : ObjOk X.prog X.w (upd H s.heap.objs.size (.tup [.int (i : Nat), x])) h2 s.heap.objs.size (.tup [.int (i : Nat), x]) :=
    ⟨by show 2 ≤ sizeLine; decide, [.int i tk, u], .cons ⟨tk, rfl⟩ (.cons ru .nil), ⟨_, hT2, rfl, _, rfl⟩⟩
  have I1 := I.turnedNew (t' := tk + 1) (ch := [e, it]) (fun b ob hb q => by
    have n1 : b ≠ e := fun z => hb (by simp [z])
    have n2 : b ≠ it := fun z => hb (by simp [z])
    exact (sb.2 b n1).trans (keep b ob n1 n2 q)) hf (Nat.le_refl _) new
  refine ⟨.ref s.heap.objs.size, _, I1, rfl, ⟨_, x, rfl, I.hok.fresh (Nat.le_refl _), rfl, y⟩, ⟨⟨u, ?_⟩, ?_⟩, fun b hb => ?_⟩
  · rw [show (((i + 1 : Nat)) : Int) = (i : Int) + 1 by omega]; exact e2
  · exact D.frame _ _ _ t1 fun b hb o q => (sb.2 b fun z => hef (z ▸ hb)).trans q
  · have hb' : b < s.heap.objs.size := by
      rcases List.mem_cons.mp hb with z | z
      · rw [z]; exact hel
      · rw [List.mem_singleton.mp z]; exact hil
    rw [upd_ne (Nat.ne_of_lt hb')]
    exact (hf b hb).1
theorem vals_back : ∀ {xs : List V} {us : List Value} {i : Nat} {u : Value}, Vals xs us → us[i]? = some u → ∃ x, xs[i]? = some x ∧ RelV x u
  | _, _, _, _, .nil, e => by simp at e
  | _, _, 0, _, .cons (a := x) r _, e => by simp at e; subst e; exact ⟨x, by simp, r⟩
  | _, _, i + 1, _, .cons _ t, e => by
    obtain ⟨x, h1, h2⟩ := vals_back (i := i) t (by simpa using e)
    exact ⟨x, by simpa using h1, h2⟩
def IteT (K : PySem.W.Frag) (a : Addr) : It where
  go := fun i H => ∃ xs : List V, SqT K H a xs ∧ i < xs.length
  yld := fun i H v H' => ∃ T x, v = .ref T ∧ H T = none ∧ H' = upd H T (.tup [.int (i : Nat), x]) ∧ ∀ xs, SqT K H a xs → xs[i]? = some x
  stop := fun i H => ∃ xs : List V, SqT K H a xs ∧ xs.length = i
def IteS (z : Str) : It where
  go := fun i _ => i < z.cps.size
  yld := fun i H v H' => ∃ T x, v = .ref T ∧ H T = none ∧ H' = upd H T (.tup [.int (i : Nat), x]) ∧ ∃ c, z.cps[i]? = some c ∧ x = .str ⟨#[c]⟩
  stop := fun i _ => z.cps.size = i
theorem turn_enumT {P : Program} {w : World} {K : PySem.W.Frag} {elts : List Expr} {kk : Nat} {tpos : Pos} (a e it : Addr) (hne : e ≠ it) (hea : e ≠ a) (hia : a ≠ it) :
    Turn P w K (.Tuple elts kk tpos) (IteT K a) [e, it] e (fun i h => (∃ old, IsEnum h e it ((i : Nat) : Int) old) ∧ h.IsTupleIter it a i) where
  mem := by simp
  obj := fun i h st b hb => by
    obtain ⟨⟨old, he⟩, ⟨o, ho, hc, hd⟩⟩ := st
    rcases List.mem_cons.mp hb with z | z
    · rw [z]; exact ⟨_, he, fun v q => nomatch q⟩
    · rw [List.mem_singleton.mp z]; exact ⟨o, ho, fun v q => by rw [hd] at q; cases q⟩
  keep := fun i h h' st k => ⟨⟨st.1.choose, k e (by simp) _ st.1.choose_spec⟩, st.2.at fun o q => k it (by simp) o q⟩
  item := by
    intro X e1 e2 e3 hc i pins s σ H E I hf st hg
    subst e1 e2 e3
    obtain ⟨⟨old, he⟩, hit⟩ := st
    obtain ⟨xs, hq, hx⟩ := hg
    obtain ⟨its, rv, tup, hz⟩ := I.tuple hq
    have D := Draws.tuple (prog := X.prog) (w := X.w) (A := X.A.in1) (I.ok.hd hc) it a hia its.toArray
    have hl := rv.length
    have step := enum_step (elts := elts) (kk := kk) (tpos := tpos) (Y := fun x => ∀ xs, SqT X.K H a xs → xs[i]? = some x) (E := E) I D he ⟨hit, tup⟩ (by simp; omega) hne (by simp [hne, hea]) hf fun u hu => by
      obtain ⟨x, h1, h2⟩ := vals_back rv (show its[i]? = some u by simpa using hu)
      exact ⟨x, h2, fun ys hy => by rw [I.tuple_inj hy hq]; exact h1⟩
    refine thn step fun r s1 hr => ?_
    obtain ⟨u, eu, h⟩ := hr
    refine ⟨u, eu, thn h fun _ s2 h => ?_⟩
    obtain ⟨v, H', I', r, y, t, z⟩ := h
    exact ⟨v, H', I', r, y, ⟨t.1, t.2.1⟩, z⟩
  done := by
    intro X e1 e2 e3 hc i pins s σ H E I hf st hg
    subst e1 e2 e3
    obtain ⟨⟨old, he⟩, hit⟩ := st
    obtain ⟨xs, hq, hx⟩ := hg
    obtain ⟨its, rv, tup, hz⟩ := I.tuple hq
    have D := Draws.tuple (prog := X.prog) (w := X.w) (A := X.A.in1) (I.ok.hd hc) it a hia its.toArray
    have hl := rv.length
    have e0 : its.toArray.size = i := by simp; omega
    obtain ⟨f0, f1, f2, f3, f4, f5⟩ := hf it (by simp)
    exact wpAny_pyNext_enum_endD D he (by rw [e0]; exact ⟨hit, tup⟩) fun h' eb => ⟨rfl, I.turned (t' := s.toks) (fun b o hb q => eb b o hb q) f0 f1 f3 f4 f5⟩
  self := fun A i s Q E st h => wpAny_pyIter_enum st.1.choose_spec h
theorem turn_enumS {P : Program} {w : World} {K : PySem.W.Frag} {elts : List Expr} {kk : Nat} {tpos : Pos} (x : Str) (t : Tok) (e it : Addr) (hne : e ≠ it) :
    Turn P w K (.Tuple elts kk tpos) (IteS x) [e, it] e (fun i h => (∃ old, IsEnum h e it ((i : Nat) : Int) old) ∧ h.IsStrIter it (strIterType x) x t i) where
  mem := by simp
  obj := fun i h st b hb => by
    obtain ⟨⟨old, he⟩, ⟨o, ho, hc, hd⟩⟩ := st
    rcases List.mem_cons.mp hb with z | z
    · rw [z]; exact ⟨_, he, fun v q => nomatch q⟩
    · rw [List.mem_singleton.mp z]; exact ⟨o, ho, fun v q => by rw [hd] at q; cases q⟩
  keep := fun i h h' st k => ⟨⟨st.1.choose, k e (by simp) _ st.1.choose_spec⟩, (Draws.text (prog := P) (w := w) (A := { depth := 0, frames := none, guards := none, units := 0 }) rfl it x t).frame _ _ _ st.2 fun b hb o q => k b (by simp at hb; simp [hb]) o q⟩
  item := by
    intro X e1 e2 e3 hc i pins s σ H E I hf st hg
    subst e1 e2 e3
    obtain ⟨⟨old, he⟩, hit⟩ := st
    have D := Draws.text (prog := X.prog) (w := X.w) (A := X.A.in1) (I.ok.hd hc) it x t
    have step := enum_step (elts := elts) (kk := kk) (tpos := tpos) (Y := fun y => ∃ c, x.cps[i]? = some c ∧ y = .str ⟨#[c]⟩) (E := E) I D he hit hg hne (by simp [hne]) hf fun u hu => by
      obtain ⟨c, v, h1, h2⟩ := hu
      exact ⟨.str ⟨#[c]⟩, ⟨v, h2⟩, c, h1, rfl⟩
    exact step
  done := by
    intro X e1 e2 e3 hc i pins s σ H E I hf st hg
    subst e1 e2 e3
    obtain ⟨⟨old, he⟩, hit⟩ := st
    have D := Draws.text (prog := X.prog) (w := X.w) (A := X.A.in1) (I.ok.hd hc) it x t
    have hg : x.cps.size = i := hg
    obtain ⟨f0, f1, f2, f3, f4, f5⟩ := hf it (by simp)
    exact wpAny_pyNext_enum_endD D he (by rw [hg]; exact hit) fun h' eb => ⟨rfl, I.turned (t' := s.toks) (fun b o hb q => eb b o hb q) f0 f1 f3 f4 f5⟩
  self := fun A i s Q E st h => wpAny_pyIter_enum st.1.choose_spec h
end DL
namespace DL
open PySem PySem.Spec L2
open Sem (wp)
open Builtin Builtin.Str
variable {g : G} {W : WX}

/-- the enumerate object over the iterator ahead of it -/
def enumO (it : Addr) : Obj := { cls := .type "enumerate", data := .fields #[.none, .bool false, .ref it, rawInt 0, .none, .none] }
theorem meets_enumB {v : Value} {o : Obj} {Hb : Heap → Prop} (B : Begins v o Hb) :
    Meets (Builtin.«enumerate.__new__» ⟨[.type "enumerate", v], []⟩) (fun _ R s => Hb s.heap ∧ R (.ok (.ret (.ref (s.heap.push o).objs.size))) { s with heap := (s.heap.push o).push (enumO s.heap.objs.size) }) :=
  .of_wp fun pr w A R s h => by
    obtain ⟨hh, gg, dd, tt, oo⟩ := s
    have is_sub := sub_enumerate
    obtain ⟨b1, b2⟩ := h
    have step : ∀ {A2 : Around} {E2 : Value → Shared → Prop} {Q2 : Value → Shared → Prop}, Q2 (.ref hh.objs.size) ⟨hh.push o, gg, dd, tt, oo⟩ → wpAny (model pr w) A2 (pyIter v) Q2 E2 ⟨hh, gg, dd, tt, oo⟩ := fun z =>
      B.iter pr w _ _ ⟨hh, gg, dd, tt, oo⟩ _ b1 z
    wp_walk using step
    refine wpAny_stack_any fun fr => wpAny_pure ?_
    split
    · rename_i cl _ _ _ _ _
      cases (cl == Value.type "enumerate")
      all_goals
        wp_walk using step
        exact ⟨_, rfl, b2⟩
    · wp_walk using step
      exact ⟨_, rfl, b2⟩
section
variable {prog : Program} {w : World} {A : Around} {E : Value → Shared → Prop} {s : Shared}
theorem call_enumB {v : Value} {o : Obj} {Hb : Heap → Prop} {Q : Value → Shared → Prop} (B : Begins v o Hb) (hb : Hb s.heap)
    (k : ∀ h', IsEnum h' (s.heap.objs.size + 1) s.heap.objs.size 0 .none → h'.get? s.heap.objs.size = some o → (∀ b u, s.heap.get? b = some u → h'.get? b = some u) → Q (.ref (s.heap.objs.size + 1)) { s with heap := h' }) :
    wpAny (model prog w) A (call (.type "enumerate") [v]) Q E s := by
  refine callType_new F.called_enumerate (by decide) (F.typeCall_enumerate_1 _) (F.newCall_enumerate_1 _) (fun ob => F.args_object_init_2 ob _) F.entry_enumerate_new (meets_enumB B) ⟨hb, ?_⟩
  have sz : (s.heap.push o).objs.size = s.heap.objs.size + 1 := Heap.size_push ..
  have at1 := Heap.get?_push_size (s.heap.push o) (o := enumO s.heap.objs.size) rfl
  rw [sz] at at1
  show _ ∧ _
  rw [sz]
  have en : IsEnum ((s.heap.push o).push (enumO s.heap.objs.size)) (s.heap.objs.size + 1) s.heap.objs.size 0 .none := at1
  exact ⟨⟨_, en, rfl⟩, k _ en (Heap.get?_push_of_some _ (Heap.get?_push_size _ B.free)) fun b u q => Heap.get?_push_of_some _ (Heap.get?_push_of_some _ q)⟩
end
theorem vals_one {x : V} {us : List Value} (h : Vals [x] us) : ∃ u, us = [u] ∧ RelV x u := by
  cases h with
  | cons r rr =>
    cases rr
    exact ⟨_, rfl, r⟩
def iEnumX (K : PySem.W.Frag) (ta : TA) : TI := fun σ H R => ta σ H fun vs H1 => (∃ a xs, vs = [.ref a] ∧ SqL K H1 a xs ∧ R (Ite K a) H1) ∨ (∃ a xs, vs = [.ref a] ∧ SqT K H1 a xs ∧ R (IteT K a) H1) ∨ ∃ z, vs = [.str z] ∧ R (IteS z) H1
theorem enum_fp {X : Cx} {pins : List (Addr × Obj)} {σ : St} {H : Hp} {s : Shared} {h' : Heap} (I : Inv X pins σ H s) : ∀ b ∈ [s.heap.objs.size + 1, s.heap.objs.size], FpOk X pins H b := fun b hb => by
  have le : s.heap.objs.size ≤ b := by
    rcases List.mem_cons.mp hb with z | z
    · omega
    · rw [List.mem_singleton.mp z]; exact Nat.le_refl _
  exact I.fpOk le (I.hok.fresh le)
theorem pi_enumX {X : Cx} {e : Expr} {ta : TA} {p pos tpos : Pos} {elts : List Expr} {kk : Nat} (hg : Gl X "enumerate") (hm : X.mg "enumerate" = none) (ha : PA X [e] ta) (hs : starEach [e] X.env = [(false, eval e X.env)] := by rfl) :
    PI X (.Tuple elts kk tpos) (.Call (.Name "enumerate" p) [e] [] pos) (iEnumX X.K ta) := by
  refine ⟨fun pins s σ H R I h => ?_⟩
  refine PyProof.Rows.Call_ (ld_blt I hg hm PyProof.Rows.boot_enumerate (PyProof.Rows.callWith_type1 (thn (ha.run pos pins s σ H _ I h) fun us s1 ⟨vs, H1, I1, r1, q1⟩ => ?_) hs rfl))
  rcases q1 with ⟨a, xs, ex, hq, q⟩ | ⟨a, xs, ex, hq, q⟩ | ⟨z, ex, q⟩
  · subst ex
    obtain ⟨u, rfl, r⟩ := vals_one r1
    cases r
    obtain ⟨its, rv, pl, hz⟩ := I1.list hq
    refine call_enumerate_list pl.isList fun h' he hit hsz hk => wpAny_pyIter_enum he ?_
    exact ⟨s1.heap.objs.size + 1, _, _, _, H1, rfl, I1.kept (t' := s1.toks) hk, turn_enum a (s1.heap.objs.size + 1) s1.heap.objs.size, ⟨⟨.none, he⟩, hit, Nat.succ_ne_self _⟩, enum_fp (h' := h') I1, q⟩
  · subst ex
    obtain ⟨u, rfl, r⟩ := vals_one r1
    cases r
    obtain ⟨its, rv, pl, hz⟩ := I1.tuple hq
    have al : a < s1.heap.objs.size := by obtain ⟨o, ho, _⟩ := pl; exact Heap.lt_size ho
    refine call_enumB (begins_tuple a its.toArray) pl fun h' he hit hk => wpAny_pyIter_enum he ?_
    exact ⟨s1.heap.objs.size + 1, _, _, _, H1, rfl, I1.kept (t' := s1.toks) hk, turn_enumT a (s1.heap.objs.size + 1) s1.heap.objs.size (Nat.succ_ne_self _) (Nat.ne_of_gt (Nat.lt_succ_of_lt al)) (Nat.ne_of_lt al), ⟨⟨.none, he⟩, ⟨_, hit, rfl, rfl⟩⟩, enum_fp (h' := h') I1, q⟩
  · subst ex
    obtain ⟨u, rfl, r⟩ := vals_one r1
    obtain ⟨t, rfl⟩ := r
    refine call_enumB (begins_text z t) trivial fun h' he hit hk => wpAny_pyIter_enum he ?_
    exact ⟨s1.heap.objs.size + 1, _, _, _, H1, rfl, I1.kept (t' := s1.toks) hk, turn_enumS z t (s1.heap.objs.size + 1) s1.heap.objs.size (Nat.succ_ne_self _), ⟨⟨.none, he⟩, ⟨_, hit, rfl, rfl⟩⟩, enum_fp (h' := h') I1, q⟩
/-- what enumerate gives -/
def enumD (ds : List D) : List D := (List.range ds.length).map fun i => .tuple [.int (i : Nat), ds.getD i .none]
def mEnum (f : ME) : MI := fun env => f env >>= fun z => lockR z.1 z.2 >>= fun y => match itemsD y.1.1 with
  | some ds => .ok ((enumD ds, y.1.2), y.2)
  | none => .stuck
theorem enumD_get {ds : List D} {i : Nat} {d : D} (h : (enumD ds)[i]? = some d) : ∃ e, ds[i]? = some e ∧ d = .tuple [.int (i : Nat), e] := by
  unfold enumD at h
  rw [List.getElem?_map] at h
  by_cases hi : i < ds.length
  · rw [List.getElem?_range hi] at h
    cases h
    exact ⟨ds[i], by simp [hi], by simp [List.getD_eq_getElem?_getD, hi]⟩
  · rw [List.getElem?_eq_none (by simpa using hi)] at h; cases h
theorem enumD_len (ds : List D) : (enumD ds).length = ds.length := by simp [enumD]
/-- a pair is made anew -/
theorem grow_pair {F H : Hp} {T : Addr} {i : Nat} {x : V} {e : D} (s : Sub F H) (hn : H T = none) (hx : Den g F x e) : ∃ F3, Grow F H F3 (upd H T (.tup [.int (i : Nat), x])) ∧ Den g F3 (.ref T) (.tuple [.int (i : Nat), e]) := by
  have hF : F T = none := by
    cases q : F T with
    | none => rfl
    | some o => rw [s _ _ q] at hn; cases hn
  refine ⟨upd F T (.tup [.int (i : Nat), x]), Grow.laidF s hn, .tup (.inl (.inl upd_same)) (.cons (.int _) (.cons (hx.mono (upd_sub hF)) .nil))⟩
theorem good_enum {t : TE} {f : ME} (h : GoodE g W t f) : GoodI g W (iEnumX g.K (tCons t tNil)) (mEnum f) := fun F H σ env R k p => by
  show t σ H fun v H1 => tNil σ H1 fun vs H2 => _
  refine h F H σ env _ k (Post.since (R := RE g) (R' := RI g) .refl .refl (k := fun z => lockR z.1 z.2 >>= fun y => match itemsD y.1.1 with
    | some ds => .ok ((enumD ds, y.1.2), y.2)
    | none => .stuck) p fun r e1 F1 H1 v x1 k1 kp1 rv p1 => ?_)
  cases hl : lockR r e1 with
  | stuck => simp only [hl, Res.stuck_bind] at p1; exact p1.elim
  | ex c d e => unfold lockR at hl; cases r <;> simp [Rv.frz] at hl; split at hl <;> cases hl
  | ok y =>
    obtain ⟨⟨d, o⟩, e2⟩ := y
    simp only [hl, Res.ok_bind] at p1
    obtain ⟨F2, x2, k2, kp2, st⟩ := lockR_ok rv x1 k1 hl
    cases hd : itemsD d with
    | none => simp only [hd] at p1; exact p1.elim
    | some ds =>
      simp only [hd] at p1
      have fin : ∀ J : It, IterOk g J (enumD ds) F2 H1 σ e2 → R J H1 := fun J hj => p1 F2 H1 J x2 k2 (kp1.trans kp2) hj
      have now := st F2 H1 σ e2 .refl .refl k2
      unfold itemsD at hd
      have lists : ∀ (J : Addr → It) (a : Addr) (xs : List V), J = Ite g.K → v = .ref a → SqL g.K H1 a xs →
          (∀ F3 H3 σ3 e3, Ext F2 H1 (Own σ e2) F3 H3 (Own σ3 e3) → Keep σ e2 σ3 e3 → EnvOk g F3 H3 σ3 e3 → ∃ ys, SqL g.K H3 a ys ∧ DenL g F3 ys ds) → R (Ite g.K a) H1 := fun J a xs _ ev hq stq => by
        refine fin _ fun i F3 H3 σ3 e3 x3 kp3 k3 => ?_
        obtain ⟨ys, hb, hden⟩ := stq F3 H3 σ3 e3 x3 kp3 k3
        refine ⟨fun d' hd' => ?_, fun hi => ⟨ys, hb, by rw [hden.length, hi, enumD_len]; exact Nat.le_refl _⟩⟩
        obtain ⟨e, he, rfl⟩ := enumD_get hd'
        obtain ⟨w, hw, dw⟩ := hden.get he
        refine ⟨⟨ys, w, hb, hw⟩, fun x' H4 ⟨T, x, e4, hT, e5, y4⟩ => ?_⟩
        subst e4 e5
        have := y4 ys hb
        rw [hw] at this; cases this
        exact grow_pair k3.sub hT dw
      split at hd
      · cases hd
        obtain ⟨a, xs, e, ha, hden⟩ := now.lst k2.sub
        refine .inl ⟨a, xs, by rw [e], .inl (.inl ha), lists (Ite g.K) a xs rfl e (.inl (.inl ha)) fun F3 H3 σ3 e3 x3 kp3 k3 => ?_⟩
        obtain ⟨b, ys, e', hb, hden'⟩ := (st F3 H3 σ3 e3 x3 kp3 k3).lst k3.sub
        rw [e] at e'; cases e'
        exact ⟨ys, .inl (.inl hb), hden'⟩
      · cases hd
        obtain ⟨a, xs, e, ha, hden⟩ := now.tup k2.sub
        refine .inr (.inl ⟨a, xs, by rw [e], ha, fin _ fun i F3 H3 σ3 e3 x3 kp3 k3 => ?_⟩)
        obtain ⟨b, ys, e', hb, hden'⟩ := (st F3 H3 σ3 e3 x3 kp3 k3).tup k3.sub
        rw [e] at e'; cases e'
        refine ⟨fun d' hd' => ?_, fun hi => ⟨ys, hb, by rw [hden'.length, hi, enumD_len]⟩⟩
        obtain ⟨e, he, rfl⟩ := enumD_get hd'
        obtain ⟨w, hw, dw⟩ := hden'.get he
        refine ⟨⟨ys, hb, lt_of_get hw⟩, fun x' H4 ⟨T, x, e4, hT, e5, y4⟩ => ?_⟩
        subst e4 e5
        have := y4 ys hb
        rw [hw] at this; cases this
        exact grow_pair k3.sub hT dw
      · rename_i z
        cases hd
        obtain ⟨e, ok⟩ := now.str
        have hz : ∀ (i : Nat) (c : Nat), z.cps[i]? = some c → z.cps.toList[i]? = some c := fun i c q => by simpa using q
        refine .inr (.inr ⟨z, by rw [e], fin _ fun i F3 H3 σ3 e3 x3 kp3 k3 => ⟨fun d' hd' => ?_, fun hi => ?_⟩⟩)
        · obtain ⟨u, hu, rfl⟩ := enumD_get hd'
          rw [List.getElem?_map] at hu
          cases hc : z.cps.toList[i]? with
          | none => rw [hc] at hu; cases hu
          | some c =>
            rw [hc] at hu
            cases hu
            have hlt : i < z.cps.size := by have := lt_of_get hc; simpa using this
            refine ⟨hlt, fun x' H4 ⟨T, x, e4, hT, e5, c2, y4, y5⟩ => ?_⟩
            subst e4 e5 y5
            have : c2 = c := by
              have := hz i c2 y4
              rw [hc] at this
              exact (Option.some.inj this).symm
            subst this
            refine grow_pair k3.sub hT (.str _ (strOk_sub (l := [c2]) ok fun c3 h3 => ?_))
            have : c3 = c2 := by simpa using h3
            subst this
            exact List.mem_of_getElem? hc
        · show z.cps.size = i
          rw [hi, enumD_len]; simp
      · cases hd
        obtain ⟨a, xs, e, ha, hden⟩ := Pk.ro k2.sub now
        refine .inl ⟨a, xs, by rw [e], ha, lists (Ite g.K) a xs rfl e ha fun F3 H3 σ3 e3 x3 kp3 k3 => ?_⟩
        obtain ⟨b, ys, e', hb, hden'⟩ := Pk.ro k3.sub (st F3 H3 σ3 e3 x3 kp3 k3)
        rw [e] at e'; cases e'
        exact ⟨ys, hb, hden'⟩
      · cases hd
theorem di_enum {X : Cx} {e : Expr} {p pos tpos : Pos} {elts : List Expr} {kk : Nat} {f : ME} (hm : X.mg "enumerate" = none) (h : DE X W e f) (hg : Gl X "enumerate" := by rfl) (hs : starEach [e] X.env = [(false, eval e X.env)] := by rfl) :
    DI X W (.Tuple elts kk tpos) (.Call (.Name "enumerate" p) [e] [] pos) (mEnum f) := by
  obtain ⟨t, pt, gt⟩ := h
  exact ⟨_, pi_enumX hg hm (pa_cons pt pa_nil hs) hs, good_enum gt⟩
end DL
namespace DL
open PySem PySem.Spec L2
variable {g : G} {W : WX}

/-! ### an object is made -/
section
variable {X : Cx} {k : Nat} {f C : Addr} {fd : FuncData} {ps : List Str} {fm : FM} {x : Str} {p pos : Pos} {e : Expr} {es : List Expr} {t : TA}
/-- what the making of an object asks of its __init__ -/
def mkSp (g : G) (C : Addr) (fm : FM) (W : WX) (σ : St) (vs : List V) (H1 : Hp) (Q : VK) : Prop :=
  ∀ x dx, H1 x = none → H1 dx = none → dx ≠ x → fnSp g fm (.ref x :: vs) (upd (upd H1 dx (.own x)) x (.ins C dx [])) (fun v H2 => v = .non ∧ Q (.ref x) H2) fun c d H' => W c d σ H'
theorem run_mkG {pins : List (Addr × Obj)} {σ : St} {H : Hp} {s : Shared} {Q : VK} {us : List Value} {vs : List V} {kw : List (Str × Value)} {ws : List Value} (M : Mk X.K C f) (F : FnG X.prog X.w X.K X.mg X.base k f fd ps fm) (hr : Room (k + 1) X.A) (gd : X.A.guards = some []) (tk : Takes X W)
    (hb : ∀ (s' : Shared) (self : Value), X.K.In s'.heap → (self :: ws).length = ps.length → BindsTo s' fd ⟨self :: us, kw⟩ (ps.zip (self :: ws))) (I : Inv X pins σ H s) (r : Vals vs ws) (h : mkSp ⟨X.K, X.mg⟩ C fm W σ vs H Q) :
    codeAny (model X.prog X.w) X.A (.call (.ref C) ⟨us, kw⟩) (fun r s' => match r with
      | .ok (.ret u) => EP X pins σ Q u s'
      | .ok _ => False
      | .error e => X.xe e s') s := by
  have fresh1 : H (s.heap.objs.size + 1) = none := I.hok.fresh (Nat.le_succ _)
  have fresh0 : H s.heap.objs.size = none := I.hok.fresh (Nat.le_refl _)
  have sp := h _ _ fresh1 fresh0 (Nat.ne_of_lt (Nat.lt_succ_self _))
  have J := Inv.made (C := C) I
  have rel : Vals (V.ref (s.heap.objs.size + 1) :: vs) (Value.ref (s.heap.objs.size + 1) :: ws) := .cons rfl r
  have len : (Value.ref (s.heap.objs.size + 1) :: ws).length = ps.length := by rw [← rel.length]; exact fnSp_len F.len sp
  refine make_map (f := f) I.kIn M.makes M.init (beq_iff_eq.mp M.fn) (codeAny_mono (F.run _ X.stack _ _ ⟨Value.ref (s.heap.objs.size + 1) :: us, kw⟩ _ _ _ _ (hr.make C us kw) ?_ (J.env0.make C us kw) (hb _ _ J.kIn len) rel sp) fun r s' q => ?_)
  · simp [Around.under, gd, pushGuards, Code.guards, Code.isGuard, guardIds]
  · match r, q with
    | .error e, q => exact tk e s' (XE.of_call (E := fun c d H' => W c d σ H') J (fun _ _ _ z => z) q)
    | .ok .next, q => exact q.elim
    | .ok .brk, q => exact q.elim
    | .ok .cont, q => exact q.elim
    | .ok (.ret u), q =>
      obtain ⟨v, H', I3, rv, ev, q3⟩ := J.after q
      subst ev
      exact ⟨rv, V.ref _, H', I3, rfl, q3⟩
def tMakeG (g : G) (C : Addr) (fm : FM) (W : WX) (t : TA) : TE := fun σ H Q => t σ H fun vs H1 => mkSp g C fm W σ vs H1 Q
theorem pe_makeG (M : Mk X.K C f) (F : FnG X.prog X.w X.K X.mg X.base k f fd ps fm) (hr : Room (k + 1) X.A) (gd : X.A.guards = some []) (tk : Takes X W) (hg : Gl X x) (hm : X.mg x = some (.ref C)) (hb : Binds X.K fd ps []) (ha : PA X (e :: es) t)
    (hdb : (x == ("__debug__" : Str)) = false := by decide) (he : starEach (e :: es) X.env = (false, eval e X.env) :: starEach es X.env := by rfl) (hpl : (backTo pos (starEach es X.env)).any (·.1) = false := by rfl) :
    PE X (.Call (.Name x p) (e :: es) [] pos) (tMakeG ⟨X.K, X.mg⟩ C fm W t) := by
  refine ⟨fun pins s σ H Q I h => wpAny_Call_Name_kw (ld_glob I hg hm ?_ hdb)⟩
  refine PySem.W.callWith_K (h₀ := X.base) I.ok.mod.kin M.kp (thn (ha.run pos pins s σ H _ I h) fun us s1 ⟨vs, H1, I1, r, q⟩ => ⟨I1.kIn, ?_⟩) he hpl
  refine wpAny_call (run_mkG (ws := us) M F hr gd tk (fun s' self hk hl => ?_) I1 r q)
  have := hb s' (self :: us) hk (by rw [List.append_nil]; exact hl)
  rw [List.append_nil] at this
  exact this
end
/-- an object that stands still once it is made -/
def mkEnd (e1 : Env) : Res (Rv × Env) → Res (Rv × Env)
  | .ok (.val .none, .ow .pn d :: _) => .ok (.new d, e1)
  | .ex c d _ => .ex c d e1
  | _ => .stuck
def mMake (c : Str) (fm : FM) (fs : List ME) : ME := fun env => evDs fs env >>= fun z => mkEnd z.2 (fm (.ow .pn (insD c [] []) :: z.1.map .fz))
theorem mk_ok {F H : Hp} {σ : St} {env : Env} {C : Addr} {c : Str} {vs : List V} {ds : List D} {Q : VK} {fm : FM} (k : EnvOk g F H σ env) (hc : g.mg c = some (.ref C)) (hd : DenL g F vs ds)
    (p : Post (RE g) g W F H σ env Q (mkEnd env (fm (.ow .pn (insD c [] []) :: ds.map .fz)))) : mkSp g C fm W σ vs H Q := by
  intro x dx nx ndx ne
  have fx : F x = none := (k.fresh nx).1
  have fdx : F dx = none := (k.fresh ndx).1
  have hx1 : upd (upd H dx (.own x)) x (.ins C dx []) x = some (.ins C dx []) := upd_same
  have sub1 : Sub H (upd (upd H dx (.own x)) x (.ins C dx [])) := fun b o e => by
    have n1 : b ≠ x := fun z => by subst z; rw [nx] at e; cases e
    have n2 : b ≠ dx := fun z => by subst z; rw [ndx] at e; cases e
    rw [upd_ne n1, upd_ne n2]; exact e
  have getS : ∀ (i : Nat) (s : Sl), (Sl.ow .pn (insD c [] []) :: ds.map Sl.fz)[i]? = some s → (i = 0 ∧ s = .ow .pn (insD c [] [])) ∨ ∃ j d, i = j + 1 ∧ ds[j]? = some d ∧ s = .fz d := fun i s e => by
    cases i with
    | zero => simp at e; exact .inl ⟨rfl, e.symm⟩
    | succ j =>
      simp only [List.getElem?_cons_succ, List.getElem?_map] at e
      cases q : ds[j]? with
      | none => rw [q] at e; cases e
      | some d => rw [q] at e; cases e; exact .inr ⟨j, d, rfl, q, rfl⟩
  have own0 : ∀ (b : Addr) (i : Nat), Adr ((V.ref x :: vs).map some) (Sl.ow .pn (insD c [] []) :: ds.map Sl.fz) i b → i = 0 ∧ b = x := fun b i ⟨⟨kd, d, h1⟩, h2⟩ => by
    rcases getS i _ h1 with ⟨e, _⟩ | ⟨j, d', _, _, e⟩
    · subst e
      simp at h2
      exact ⟨rfl, h2.symm⟩
    · cases e
  have ke : EnvOk g F (upd (upd H dx (.own x)) x (.ins C dx [])) ((V.ref x :: vs).map some) (Sl.ow .pn (insD c [] []) :: ds.map Sl.fz) := by
    refine ⟨by simp [hd.length], k.sub.trans sub1, fun i s e => ?_, fun i j a h1 h2 => by rw [(own0 a i h1).1, (own0 a j h2).1]⟩
    rcases getS i s e with ⟨e1, e2⟩ | ⟨j, d, e1, e2, e3⟩
    · subst e1; subst e2
      exact ⟨_, rfl, x, rfl, fx, .ins hc hx1 rfl .nil rfl⟩
    · subst e1; subst e3
      obtain ⟨v, h1, h2⟩ := hd.get e2
      exact ⟨some v, by simp [h1], v, rfl, h2⟩
  have hO : ∀ b, Own ((V.ref x :: vs).map some) (Sl.ow .pn (insD c [] []) :: ds.map Sl.fz) b → b = x := fun b ⟨i, h⟩ => (own0 b i h).2
  have back : ∀ {F' H' : Hp} {O' : Addr → Prop}, Ext F (upd (upd H dx (.own x)) x (.ins C dx [])) (Own ((V.ref x :: vs).map some) (Sl.ow .pn (insD c [] []) :: ds.map Sl.fz)) F' H' O' → Sub F' H' → Grow F H F' H' := fun {F' H' O'} y s => by
    refine ⟨y.sub, fun b o e => y.keep b o (sub1 b o e) (fun z => by rw [hO b z, nx] at e; cases e), fun b h1 h2 => ?_, s⟩
    rcases y.new b h1 h2 with z | z
    · cases q : H b with
      | none => rfl
      | some o => rw [sub1 b o q] at z; cases z
    · rw [hO b z]; exact nx
  refine ⟨F, _, ke, ?_⟩
  cases hf : fm (Sl.ow .pn (insD c [] []) :: ds.map Sl.fz) with
  | stuck => rw [hf] at p; exact p.elim
  | ex c' d e =>
    rw [hf] at p
    intro F' H' dd C' v y k' kp a1 a2 a3
    have gr := back y k'.sub
    exact p F' H' dd C' v gr.ext (k.grow gr) .refl a1 a2 a3
  | ok z =>
    obtain ⟨r, e⟩ := z
    rw [hf] at p
    intro F' H' v y k' kp rv
    have gr := back y k'.sub
    cases r with
    | new d => exact p.elim
    | sl i => exact p.elim
    | val d0 =>
      cases d0 with
      | none =>
        cases e with
        | nil => exact p.elim
        | cons s r =>
          cases s with
          | ow kd d =>
            cases kd with
            | pn =>
              have rv : Den g F' v .none := rv
              obtain ⟨o, q1, a, q2, q3, q4⟩ := k'.sl 0 _ rfl
              have q1 : some (V.ref x) = o := Option.some.inj q1
              subst q1; cases q2
              refine ⟨Pk.non (g := g) (F := F') (H := F') (.inl rv), p F' H' (.ref x) gr.ext (k.grow gr) .refl ⟨x, rfl, nx, q3, fun ⟨i, ⟨kd, d2, w1⟩, w2⟩ => ?_, q4⟩⟩
              obtain ⟨o', u1, b, u2, u3, u4⟩ := k.sl i _ w1
              rw [w2] at u1; cases u1; cases u2
              obtain ⟨_, u5⟩ := u4.there
              rw [nx] at u5; cases u5
            | _ => exact p.elim
          | _ => exact p.elim
      | _ => exact p.elim
theorem good_make {t : TA} {fs : List ME} {C : Addr} {c : Str} (h : AllE g W t fs) (hc : g.mg c = some (.ref C)) (fm : FM) : GoodE g W (tMakeG g C fm W t) (mMake c fm fs) := fun F H σ env Q k p => by
  refine h.ds F H σ env _ k (Post.bind (R := RDs g) RE.early p fun ds e1 F1 H1 vs x1 k1 kp1 hd p1 => ?_)
  exact mk_ok k1 hc hd p1
end DL
namespace DL
open PySem PySem.Spec L2
variable {g : G} {W : WX}

/-! ### the fields of an object -/
def kvsGet (f : Str) : List (D × D) → Option D
  | [] => none
  | (.str h, d) :: r => if h = f then some d else kvsGet f r
  | _ :: _ => none
def kvsPut (f : Str) (e : D) : List (D × D) → List (D × D)
  | [] => [(.str f, e)]
  | (.str h, d) :: r => if h = f then (.str h, e) :: r else (.str h, d) :: kvsPut f e r
  | p :: r => p :: r
def insGet (c f : Str) : D → Option D
  | .dict ((.none, .str c') :: kvs) => if c' = c then kvsGet f kvs else none
  | _ => none
def insPut (c f : Str) (e : D) : D → Option D
  | .dict ((.none, .str c') :: kvs) => if c' = c ∧ kvs.length < 1000 then some (.dict ((.none, .str c') :: kvsPut f e kvs)) else none
  | _ => none
def kvsOf (ns : List Str) (ds : List D) : List (D × D) := (ns.map PyData.str).zip ds
theorem kvs_get {F : Hp} {f : Str} : ∀ {fs : List (Str × V)} {ds : List D} {d : D}, DenL g F (fs.map (·.2)) ds → kvsGet f (kvsOf (fs.map (·.1)) ds) = some d → ∃ v, fs.lookup f = some v ∧ Den g F v d
  | [], _, _, _, e => by simp [kvsOf, kvsGet] at e
  | (h, v) :: r, _, d, .cons hv hr, e => by
    have e : (if h = f then some _ else kvsGet f (kvsOf (r.map (·.1)) _)) = some d := e
    by_cases q : h = f
    · rw [if_pos q] at e
      cases e
      exact ⟨v, by rw [List.lookup_cons]; simp [q], hv⟩
    · rw [if_neg q] at e
      obtain ⟨w, h1, h2⟩ := kvs_get hr e
      exact ⟨w, by rw [List.lookup_cons]; simp [show (f == h) = false by simpa using fun z => q z.symm, h1], h2⟩
theorem kvs_put {F : Hp} {f : Str} {v : V} {e : D} (he : Den g F v e) : ∀ {fs : List (Str × V)} {ds : List D}, DenL g F (fs.map (·.2)) ds → ∃ es, DenL g F ((putF f v fs).map (·.2)) es ∧ kvsPut f e (kvsOf (fs.map (·.1)) ds) = kvsOf ((putF f v fs).map (·.1)) es
  | [], _, .nil => ⟨[e], .cons he .nil, rfl⟩
  | (h, w) :: r, _, .cons (d := d) (ds := ds) hw hr => by
    by_cases q : h = f
    · refine ⟨e :: ds, ?_, ?_⟩
      · show DenL g F ((if h = f then (h, v) :: r else (h, w) :: putF f v r).map (·.2)) _
        rw [if_pos q]; exact .cons he hr
      · show (if h = f then _ else _) = kvsOf ((if h = f then (h, v) :: r else (h, w) :: putF f v r).map (·.1)) _
        rw [if_pos q, if_pos q]; rfl
    · obtain ⟨es, h1, h2⟩ := kvs_put he hr
      refine ⟨d :: es, ?_, ?_⟩
      · show DenL g F ((if h = f then (h, v) :: r else (h, w) :: putF f v r).map (·.2)) _
        rw [if_neg q]; exact .cons hw h1
      · show (if h = f then _ else (PyData.str h, d) :: kvsPut f e (kvsOf (r.map (·.1)) ds)) = kvsOf ((if h = f then (h, v) :: r else (h, w) :: putF f v r).map (·.1)) _
        rw [if_neg q, if_neg q, h2]; rfl
theorem Pk.ins {F H : Hp} {v : V} {c : Str} {kvs : List (D × D)} (s : Sub F H) (h : Pk g F H v (.dict ((.none, .str c) :: kvs))) :
    ∃ a C dx fs ds, v = .ref a ∧ g.mg c = some (.ref C) ∧ H a = some (.ins C dx fs) ∧ DenL g F (fs.map (·.2)) ds ∧ kvs = kvsOf (fs.map (·.1)) ds := by
  generalize hd : PyData.dict ((.none, .str c) :: kvs) = d at h
  rcases h with h | ⟨a, e, h⟩
  · cases h with
    | ro _ _ e => subst e; simp [roD] at hd
    | @ins a C dx c2 fs vs ds d h1 h2 h3 r e =>
      subst e; subst h3
      injection hd with hd
      injection hd with hd1 hd2
      injection hd1 with _ hd1
      injection hd1 with hd1
      subst hd1
      exact ⟨a, C, dx, fs, ds, rfl, h1, s _ _ h2, r, hd2⟩
    | @dctK a kvs2 vs ds d _ _ _ _ e =>
      subst e
      injection hd with hd
      cases kvs2 with
      | nil => simp at hd
      | cons p r => cases ds with
        | nil => simp at hd
        | cons d' r' =>
          simp only [List.map_cons, List.zip_cons_cons] at hd
          injection hd with hd _
          injection hd with hd _
          cases hk : p.1 <;> rw [hk] at hd <;> simp [keyD] at hd
    | @dctT a kvs2 vs ds d _ _ _ _ e =>
      subst e
      injection hd with hd
      cases kvs2 with
      | nil => simp at hd
      | cons p r => cases ds with
        | nil => simp at hd
        | cons d' r' =>
          simp only [List.map_cons, List.zip_cons_cons] at hd
          injection hd with hd _
          injection hd with hd _
          cases hd
    | _ => cases hd
  · subst e
    cases h with
    | lst => cases hd
    | @ins C dx c2 fs vs ds d h1 h2 h3 r e =>
      subst e; subst h3
      injection hd with hd
      injection hd with hd1 hd2
      injection hd1 with _ hd1
      injection hd1 with hd1
      subst hd1
      exact ⟨a, C, dx, fs, ds, rfl, h1, h2, r, hd2⟩
    | @dctK kvs2 vs ds d _ _ _ _ e =>
      subst e
      injection hd with hd
      cases kvs2 with
      | nil => simp at hd
      | cons p r => cases ds with
        | nil => simp at hd
        | cons d' r' =>
          simp only [List.map_cons, List.zip_cons_cons] at hd
          injection hd with hd _
          injection hd with hd _
          cases hk : p.1 <;> rw [hk] at hd <;> simp [keyD] at hd
    | @dctT kvs2 vs ds d _ _ _ _ e =>
      subst e
      injection hd with hd
      cases kvs2 with
      | nil => simp at hd
      | cons p r => cases ds with
        | nil => simp at hd
        | cons d' r' =>
          simp only [List.map_cons, List.zip_cons_cons] at hd
          injection hd with hd _
          injection hd with hd _
          cases hd
/-- a class of the text whose objects have the fields -/
structure ClsF (K : PySem.W.Frag) (mg : Str → Option Value) (c : Str) (fields : List Str) : Prop where
  ex : ∃ C, mg c = some (.ref C) ∧ Cls K C ∧ ∀ f ∈ fields, NoAttr K C f
def dFld (c f : Str) (d : D) : Option Rv := (insGet c f d).map .val
theorem good_fld {c f : Str} {fields : List Str} (hc : ClsF g.K g.mg c fields) (hf : f ∈ fields) : Good1 g (fun x H1 Q => ∃ a C dx fs v, x = .ref a ∧ H1 a = some (.ins C dx fs) ∧ Cls g.K C ∧ NoAttr g.K C f ∧ fs.lookup f = some v ∧ Q v H1) (dFld c f) := by
  obtain ⟨C, c1, c2, c3⟩ := hc
  refine ⟨fun F H x d Q s hx p => ?_, fun d => ?_⟩
  · unfold dFld insGet at p
    split at p
    · rename_i c' kvs
      by_cases e : c' = c
      · rw [if_pos e] at p
        subst e
        obtain ⟨a, C2, dx, fs, ds, e1, e2, e3, e4, e5⟩ := hx.ins s
        rw [c1] at e2; cases e2
        subst e5
        cases q : kvsGet f (kvsOf (fs.map (·.1)) ds) with
        | none => rw [q] at p; exact p.elim
        | some d =>
          rw [q] at p
          obtain ⟨v, v1, v2⟩ := kvs_get e4 q
          exact ⟨a, C, dx, fs, v, e1, e3, c2, c3 f hf, v1, p.val0 s v2⟩
      · rw [if_neg e] at p; exact p.elim
    · exact p.elim
  · unfold dFld
    cases insGet c f d with
    | none => exact NoSl.none
    | some e => exact NoSl.val
theorem de_fld {X : Cx} {e : Expr} {f c : Str} {pos : Pos} {fields : List Str} {h : ME} (hc : ClsF X.K X.mg c fields) (hf : f ∈ fields) (he : DE X W e h) (hb : attributeBase e f X.env (eval e X.env) = eval e X.env := by rfl) : DE X W (.Attribute e f pos) (mUn (dFld c f) h) := by
  obtain ⟨t, pt, gt⟩ := he
  exact ⟨_, pe_fld pt hb, good_un gt (good_fld (g := ⟨X.K, X.mg⟩) hc hf)⟩
end DL
namespace DL
open PySem PySem.Spec L2
variable {g : G} {W : WX}

/-! ### self.f = e, on an own object -/
def fldS (c f : Str) (j : Nat) (d : D) (env : Env) : Option Sl → Res (Fl × Env)
  | some (.ow .fr d0) => match insPut c f d d0 with
    | some d1 => .ok (.nx, env.set j (.ow .fr d1))
    | none => .stuck
  | some (.ow .pn d0) => match insPut c f d d0 with
    | some d1 => .ok (.nx, env.set j (.ow .pn d1))
    | none => .stuck
  | _ => .stuck
def mFldS (c f : Str) (j : Nat) (h : ME) : MS := fun env => h env >>= fun z => z.1.frz z.2 >>= fun y => fldS c f j y.1 y.2 y.2[j]?
theorem fld_step {c f : Str} {fields : List Str} (hc : ClsF g.K g.mg c fields) (hf : f ∈ fields) {F H : Hp} {σ : St} {env : Env} {j : Nat} {kd : Kd} {d d0 d1 : D} {v : V} {Dn : Ends} (k : EnvOk g F H σ env) (hd : Den g F v d) (he : env[j]? = some (.ow kd d0)) (hk : kd ≠ .lk) (hp : insPut c f d d0 = some d1)
    (p : PostS g W F H σ env Dn (.ok (.nx, env.set j (.ow kd d1)))) :
    ∃ x, σ[j]? = some (some x) ∧ ∃ a C dx fs, x = .ref a ∧ H a = some (.ins C dx fs) ∧ Cls g.K C ∧ NoAttr g.K C f ∧ fs.length < 1000 ∧ Dn.nx σ (upd H a (.ins C dx (putF f v fs))) := by
  obtain ⟨C, c1, c2, c3⟩ := hc
  obtain ⟨o, h1, a, h2, h3, h4⟩ := k.sl j _ he
  subst h2
  unfold insPut at hp
  split at hp
  · rename_i c' kvs
    by_cases e : c' = c ∧ kvs.length < 1000
    · rw [if_pos e] at hp
      cases hp
      obtain ⟨e, hlen⟩ := e
      subst e
      have pk : Pk g F H (.ref a) (.dict ((.none, .str c') :: kvs)) := .inr ⟨a, rfl, h4⟩
      obtain ⟨b, C2, dx, fs, ds, e1, e2, e3, e4, e5⟩ := pk.ins k.sub
      cases e1
      rw [c1] at e2; cases e2
      have hl : fs.length < 1000 := by
        have := e4.length
        rw [e5] at hlen
        simp [kvsOf] at hlen this
        omega
      obtain ⟨es, q1, q2⟩ := kvs_put hd e4
      have w : OwnAt g F (upd H a (.ins C dx (putF f v fs))) a (.dict ((.none, .str c') :: kvsPut f d kvs)) := .ins c1 upd_same rfl q1 (by rw [e5, q2]; rfl)
      obtain ⟨y1, y2, y3⟩ := k.change he h1 hk w
      exact ⟨_, h1, a, C, dx, fs, rfl, e3, c2, c3 f hf, hl, p F _ σ y1 y2 y3⟩
    · rw [if_neg e] at hp; cases hp
  · cases hp
theorem good_fldS {c f : Str} {fields : List Str} (hc : ClsF g.K g.mg c fields) (hf : f ∈ fields) {j : Nat} {t : TE} {h : ME} (ht : GoodE g W t h) : GoodS g W (sFld g.K (tVar j) t f) (mFldS c f j h) := fun F H σ env Dn k p => by
  refine ht F H σ env _ k (PostS.bindF p fun d e2 F2 H1 v x2 k2 kp2 hd p2 => ?_)
  cases he : e2[j]? with
  | none => simp only [he] at p2; exact p2.elim
  | some s =>
    simp only [he] at p2
    cases s with
    | no => exact p2.elim
    | fz => exact p2.elim
    | ow kd d0 =>
      cases kd with
      | lk => exact p2.elim
      | fr =>
        cases hp : insPut c f d d0 with
        | none => simp only [fldS, hp] at p2; exact p2.elim
        | some d1 =>
          simp only [fldS, hp] at p2
          exact fld_step hc hf k2 hd he (by decide) hp p2
      | pn =>
        cases hp : insPut c f d d0 with
        | none => simp only [fldS, hp] at p2; exact p2.elim
        | some d1 =>
          simp only [fldS, hp] at p2
          exact fld_step hc hf k2 hd he (by decide) hp p2
theorem ds_fld {X : Cx} {c f x : Str} {fields : List Str} {j : Nat} {e : Expr} {p pos pos' : Pos} {h : ME} (hc : ClsF X.K X.mg c fields) (hf : f ∈ fields) (hN : X.N[j]? = some x) (hv : Vis X.env.scope x) (he : DE X W e h)
    (hs : swapsWith e (some (.Attribute (.Name x p) f pos')) pos.line X.env = pure false := by rfl) (hd : (x == ("__debug__" : Str)) = false := by decide) (hcd : (x == ("__classdict__" : Str)) = false := by decide) :
    DS X W (.Assign [.Attribute (.Name x p) f pos'] e pos) (mFldS c f j h) := by
  obtain ⟨t, pt, gt⟩ := he
  exact ⟨_, ps_fld (pe_var hN hv hd hcd) pt hs, good_fldS (g := ⟨X.K, X.mg⟩) hc hf gt⟩

/-! ### e.f, a property that reads alone -/
theorem getprop_G {X : Cx} {k : Nat} {C p ga a dx : Addr} {fs : List (Str × V)} {f : Str} {fd : FuncData} {ps : List Str} {fm : FM} {pins : List (Addr × Obj)} {σ : St} {H : Hp} {s : Shared} {Q : VK} {b : Bool} (I : Inv X pins σ H s) (ea : H a = some (.ins C dx fs)) (c : Cls X.K C) (hp : PropOf X.K C f p ga)
    (F : FnG X.prog X.w X.K X.mg X.base k ga fd ps fm) (hr : Room (k + 1) X.A) (gd : X.A.guards = some []) (hb : Binds X.K fd ps []) (h : fnSp ⟨X.K, X.mg⟩ fm [.ref a] H Q (fun _ _ _ => False)) :
    wpAny (model X.prog X.w) X.A (getAttr (.ref a) f b) (EP X pins σ Q) X.xe s := by
  obtain ⟨mA, O, _, _, _, _⟩ := ins_get I.hok ea
  obtain ⟨od, J, _⟩ := O.look
  obtain ⟨rest, isrec⟩ := hp.rec_
  have I1 := I.tok (s.toks + 1)
  have len : ([Value.ref a]).length = ps.length := fnSp_len F.len h
  refine PySem.W.get_bind I.kIn J (PySem.W.plainGet_of (c.get f)).1 (PySem.W.findObj_data (by obtain ⟨cd, q, _⟩ := PySem.W.any_some c.hd; rw [q]; rfl) hp.at_ hp.get hp.tak) (PySem.W.plainGet_of (c.get f)).2 (wpAny_call (PySem.W.prop_get (s := ⟨s.heap, s.gens, s.drawn, s.toks + 1, s.os⟩) I.kIn isrec ?_))
  refine codeAny_mono (F.run X.A.in1 X.stack _ H ⟨[.ref a], []⟩ [.ref a] [.ref a] Q _ hr.in1 gd I1.env0.in1 (by have := hb ⟨s.heap, s.gens, s.drawn, s.toks + 1, s.os⟩ [.ref a] I1.kIn len; exact this) (.cons rfl .nil) h) fun r s' q => ?_
  match r, q with
  | .error e, q => obtain ⟨_, _, _, _, _, _, _, _, _, _, _, _, _, z⟩ := q
  | .ok .next, q => exact q.elim
  | .ok .brk, q => exact q.elim
  | .ok .cont, q => exact q.elim
  | .ok (.ret u), q =>
    obtain ⟨v, H', I3, rv, q3⟩ := I1.after q
    show wpAny _ _ (handedOut u) _ _ _
    rw [PySem.W.handedOut_of (handed_of rv)]
    exact wpAny_pure ⟨v, H', I3, rv, q3⟩
/-- what a callee gives that is handed data alone and never raises -/
def fzResN (env : Env) : Res (Rv × Env) → Res (Rv × Env)
  | .ok (.val d, _) => .ok (.val d, env)
  | .ok (.new d, _) => .ok (.new d, env)
  | _ => .stuck
def isIns (c : Str) : D → Bool
  | .dict ((.none, .str c') :: _) => decide (c' = c)
  | _ => false
def mProp (c : Str) (fm : FM) (h : ME) : ME := fun env => h env >>= fun z => z.1.frz z.2 >>= fun y => if isIns c y.1 = true then fzResN y.2 (fm [.fz y.1]) else .stuck
def tPropG (g : G) (C : Addr) (fm : FM) (ta : TE) : TE := fun σ H Q => ta σ H fun x H1 => ∃ a dx fs, x = .ref a ∧ H1 a = some (.ins C dx fs) ∧ fnSp g fm [.ref a] H1 Q (fun _ _ _ => False)
theorem good_prop {c : Str} {C : Addr} (hc : g.mg c = some (.ref C)) (fm : FM) {t : TE} {h : ME} (ht : GoodE g W t h) : GoodE g W (tPropG g C fm t) (mProp c fm h) := fun F H σ env Q k p => by
  refine ht F H σ env _ k (Post.bindF (R' := RE g) RE.early p fun d e2 F2 H1 v x2 k2 kp2 hd p2 => ?_)
  by_cases hi : isIns c d = true
  · simp only [hi, if_true] at p2
    unfold isIns at hi
    split at hi
    · rename_i c' kvs
      have hi : c' = c := by simpa using hi
      subst hi
      obtain ⟨a, C2, dx, fs, ds, e1, e2', e3, _, _⟩ := Pk.ins (g := g) (F := F2) (H := H1) k2.sub (.inl hd)
      rw [hc] at e2'; cases e2'
      refine ⟨a, dx, fs, e1, e3, ?_⟩
      rw [← e1]
      obtain ⟨ke, no⟩ := fz_env (g := g) (vs := [v]) (ds := [PyData.dict ((.none, .str c') :: kvs)]) k2.sub (.cons hd .nil)
      refine ⟨F2, [.fz (.dict ((.none, .str c') :: kvs))], ke, ?_⟩
      have grow : ∀ {F' H' : Hp} {O' : Addr → Prop}, Ext F2 H1 (Own ([v].map some) [Sl.fz (.dict ((.none, .str c') :: kvs))]) F' H' O' → Sub F' H' → Grow F2 H1 F' H' := fun y s =>
        ⟨y.sub, fun b o e => y.keep b o e (no b), fun b q1 q2 => (y.new b q1 q2).elim id fun z => absurd z (no b), s⟩
      cases hf : fm [Sl.fz (.dict ((.none, .str c') :: kvs))] with
      | stuck => rw [hf] at p2; exact p2.elim
      | ex => rw [hf] at p2; exact p2.elim
      | ok z =>
        obtain ⟨r, e⟩ := z
        rw [hf] at p2
        intro F' H' w y k' kp rv
        have gr := grow y k'.sub
        cases r with
        | val d' => exact p2 F' H' w gr.ext (k2.grow gr) .refl rv
        | new d' =>
          obtain ⟨b, b1, b2, b3, b4, b5⟩ := rv
          refine p2 F' H' w gr.ext (k2.grow gr) .refl ⟨b, b1, b2, b3, fun ⟨i, ⟨kd, d2, w1⟩, w2⟩ => ?_, b5⟩
          obtain ⟨o', u1, b', u2, u3, u4⟩ := k2.sl i _ w1
          rw [w2] at u1; cases u1; cases u2
          obtain ⟨_, u5⟩ := u4.there
          rw [b2] at u5; cases u5
        | sl i => exact p2.elim
    · cases hi
  · rw [Bool.not_eq_true] at hi
    simp only [hi] at p2; exact p2.elim
/-- a property of a class of the text -/
structure CalP (P : Program) (w : World) (K : PySem.W.Frag) (mg : Str → Option Value) (base : Heap) (c f : Str) (st : Stmt) (k : Nat) (ps : List Str) (fm : FM) : Prop where
  ex : ∃ C p ga fd, mg c = some (.ref C) ∧ Cls K C ∧ PropOf K C f p ga ∧ FnG P w K mg base k ga fd ps fm ∧ Binds K fd ps []
theorem de_prop {X : Cx} {c f : Str} {st : Stmt} {k j : Nat} {ps : List Str} {fm : FM} {e : Expr} {pos : Pos} {h : ME} (cp : CalP X.prog X.w X.K X.mg X.base c f st j ps fm) (hr : Room k X.A) (hj : j + 1 ≤ k) (gd : X.A.guards = some []) (he : DE X W e h)
    (hb : attributeBase e f X.env (eval e X.env) = eval e X.env := by rfl) : DE X W (.Attribute e f pos) (mProp c fm h) := by
  obtain ⟨C, p, ga, fd, hm, cls, hp, F, bd⟩ := cp
  obtain ⟨t, pt, gt⟩ := he
  refine ⟨tPropG ⟨X.K, X.mg⟩ C fm t, ⟨fun pins s σ H Q I q => ?_⟩, good_prop (g := ⟨X.K, X.mg⟩) hm fm gt⟩
  refine attr_of hb (thn (pt.run pins s σ H _ I q) fun u s1 ⟨x, H1, I1, rx, a, dx, fs, ex, ea, q1⟩ => ?_)
  subst ex
  have eu : u = Value.ref a := rx
  subst eu
  exact getprop_G I1 ea cls hp F (hr.mono hj) gd bd q1
/-- a class of the text that may be made -/
structure CalM (P : Program) (w : World) (K : PySem.W.Frag) (mg : Str → Option Value) (base : Heap) (c : Str) (k : Nat) (ps : List Str) (fm : FM) : Prop where
  ex : ∃ C f fd, mg c = some (.ref C) ∧ Mk K C f ∧ FnG P w K mg base k f fd ps fm ∧ Binds K fd ps []
theorem de_make {X : Cx} {x : Str} {k j : Nat} {ps : List Str} {fm : FM} {p pos : Pos} {e : Expr} {es : List Expr} {fs : List ME} (cm : CalM X.prog X.w X.K X.mg X.base x j ps fm) (hr : Room k X.A) (hj : j + 1 ≤ k) (gd : X.A.guards = some []) (tk : Takes X W) (ha : DA X W (e :: es) fs) (hg : Gl X x := by rfl)
    (hdb : (x == ("__debug__" : Str)) = false := by decide) (he : starEach (e :: es) X.env = (false, eval e X.env) :: starEach es X.env := by rfl) (hpl : (backTo pos (starEach es X.env)).any (·.1) = false := by rfl) : DE X W (.Call (.Name x p) (e :: es) [] pos) (mMake x fm fs) := by
  obtain ⟨C, f, fd, hm, M, F, bd⟩ := cm
  obtain ⟨t, pt, gt⟩ := ha
  exact ⟨_, pe_makeG M F (hr.mono hj) gd tk hg hm bd pt hdb he hpl, good_make (g := ⟨X.K, X.mg⟩) gt hm fm⟩
end DL
namespace DL
open PySem PySem.Spec L2
open PyProof.Rows (sortedS risingS)
variable {g : G} {W : WX}

/-! ### sorted texts -/
theorem ltc_cons {a b : Nat} {r t : List Nat} : ltCps (a :: r) (b :: t) = false ↔ b ≤ a ∧ (a = b → ltCps r t = false) := by
  show (decide (a < b) || (a == b && ltCps r t)) = false ↔ _
  rw [Bool.or_eq_false_iff, Bool.and_eq_false_iff, decide_eq_false_iff_not]
  constructor
  · rintro ⟨h1, h2⟩
    refine ⟨by omega, fun e => ?_⟩
    rcases h2 with h | h
    · rw [e] at h; simp at h
    · exact h
  · rintro ⟨h1, h2⟩
    refine ⟨by omega, ?_⟩
    by_cases e : a = b
    · exact .inr (h2 e)
    · exact .inl (by simpa using e)
theorem ltc_irrefl : ∀ a : List Nat, ltCps a a = false
  | [] => rfl
  | a :: r => ltc_cons.mpr ⟨Nat.le_refl _, fun _ => ltc_irrefl r⟩
theorem ltc_trans : ∀ a b c : List Nat, ltCps b a = false → ltCps c b = false → ltCps c a = false
  | [], _, [], _, _ => rfl
  | [], [], _ :: _, _, _ => rfl
  | [], _ :: _, _ :: _, _, _ => rfl
  | a :: r, [], _, h, _ => by cases h
  | a :: r, b :: t, [], _, h => by cases h
  | a :: r, b :: t, c :: u, h1, h2 => by
    obtain ⟨p1, p2⟩ := ltc_cons.mp h1
    obtain ⟨q1, q2⟩ := ltc_cons.mp h2
    exact ltc_cons.mpr ⟨Nat.le_trans p1 q1, fun e => ltc_trans r t u (p2 (by omega)) (q2 (by omega))⟩
theorem ltc_anti : ∀ a b : List Nat, ltCps b a = false → ltCps a b = false → a = b
  | [], [], _, _ => rfl
  | [], _ :: _, _, h => by cases h
  | _ :: _, [], h, _ => by cases h
  | a :: r, b :: t, h1, h2 => by
    obtain ⟨p1, p2⟩ := ltc_cons.mp h1
    obtain ⟨q1, q2⟩ := ltc_cons.mp h2
    have e : a = b := Nat.le_antisymm p1 q1
    subst e
    rw [ltc_anti r t (p2 rfl) (q2 rfl)]
theorem ltc_total (a b : List Nat) : ltCps a b = false ∨ ltCps b a = false := by
  induction a generalizing b with
  | nil => cases b <;> simp [ltCps]
  | cons x r ih => cases b with
    | nil => simp [ltCps]
    | cons y t =>
      rcases Nat.lt_trichotomy x y with h | h | h
      · exact .inr (ltc_cons.mpr ⟨by omega, fun e => by omega⟩)
      · subst h
        rcases ih t with q | q
        · exact .inl (ltc_cons.mpr ⟨Nat.le_refl _, fun _ => q⟩)
        · exact .inr (ltc_cons.mpr ⟨Nat.le_refl _, fun _ => q⟩)
      · exact .inl (ltc_cons.mpr ⟨by omega, fun e => by omega⟩)
/-- x stands ahead of y or is y -/
def LeS (x y : Str) : Prop := ltCps y.cps.toList x.cps.toList = false
theorem rising_pw : ∀ (p : Str) (l : List Str), risingS p l = true → (p :: l).Pairwise LeS
  | p, [], _ => by simp
  | p, x :: r, h => by
    have h : (!ltCps x.cps.toList p.cps.toList && risingS x r) = true := h
    rw [Bool.and_eq_true, Bool.not_eq_true'] at h
    have ih := rising_pw x r h.2
    refine List.pairwise_cons.mpr ⟨fun y hy => ?_, ih⟩
    rcases List.mem_cons.mp hy with e | hy
    · subst e; exact h.1
    · exact ltc_trans _ _ _ h.1 ((List.pairwise_cons.mp ih).1 y hy)
theorem sorted_pw {l : List Str} (h : sortedS l = true) : l.Pairwise LeS := by
  cases l with
  | nil => simp
  | cons x r => exact rising_pw x r h
theorem sorted_uniq : ∀ {l m : List Str}, l.Pairwise LeS → m.Pairwise LeS → l.Perm m → l = m
  | [], m, _, _, p => (List.Perm.nil_eq p)
  | x :: r, [], _, _, p => by simpa using p.length_eq
  | x :: r, y :: t, h1, h2, p => by
    have hx : x ∈ y :: t := p.mem_iff.mp (by simp)
    have hy : y ∈ x :: r := p.mem_iff.mpr (by simp)
    have e : x = y := by
      rcases List.mem_cons.mp hx with e | hx
      · exact e
      · rcases List.mem_cons.mp hy with e | hy
        · exact e.symm
        · have a1 : LeS y x := (List.pairwise_cons.mp h2).1 x hx
          have a2 : LeS x y := (List.pairwise_cons.mp h1).1 y hy
          have := ltc_anti _ _ a2 a1
          cases x; cases y; congr 1; exact Array.toList_inj.mp this
    subst e
    rw [sorted_uniq (List.pairwise_cons.mp h1).2 (List.pairwise_cons.mp h2).2 (List.Perm.cons_inv p)]
def insS (x : Str) : List Str → List Str
  | [] => [x]
  | y :: r => if ltCps y.cps.toList x.cps.toList = true then y :: insS x r else x :: y :: r
def sortS : List Str → List Str
  | [] => []
  | x :: r => insS x (sortS r)
theorem insS_perm (x : Str) : ∀ l : List Str, (insS x l).Perm (x :: l)
  | [] => .refl _
  | y :: r => by
    unfold insS
    split
    · exact ((insS_perm x r).cons y).trans (List.Perm.swap x y r)
    · exact .refl _
theorem sortS_perm : ∀ l : List Str, (sortS l).Perm l
  | [] => .refl _
  | x :: r => (insS_perm x _).trans ((sortS_perm r).cons x)
theorem insS_pw {x : Str} : ∀ {l : List Str}, l.Pairwise LeS → (insS x l).Pairwise LeS
  | [], _ => by simp [insS]
  | y :: r, h => by
    unfold insS
    split
    · rename_i q
      refine List.pairwise_cons.mpr ⟨fun z hz => ?_, insS_pw (List.pairwise_cons.mp h).2⟩
      rcases List.mem_cons.mp ((insS_perm x r).mem_iff.mp hz) with e | hz
      · subst e
        rcases ltc_total z.cps.toList y.cps.toList with w | w
        · exact w
        · rw [q] at w; cases w
      · exact (List.pairwise_cons.mp h).1 z hz
    · rename_i q
      have q : LeS x y := by unfold LeS; simpa using q
      refine List.pairwise_cons.mpr ⟨fun z hz => ?_, h⟩
      rcases List.mem_cons.mp hz with e | hz
      · subst e; exact q
      · exact ltc_trans _ _ _ q ((List.pairwise_cons.mp h).1 z hz)
theorem sortS_pw : ∀ l : List Str, (sortS l).Pairwise LeS
  | [] => by simp [sortS]
  | x :: r => insS_pw (sortS_pw r)
theorem sortS_of {l m : List Str} (p : m.Perm l) (h : sortedS m = true) : m = sortS l := sorted_uniq (sorted_pw h) (sortS_pw l) (p.trans (sortS_perm l).symm)
/-! ### sorted ints -/
def insI (x : Int) : List Int → List Int
  | [] => [x]
  | y :: r => if y < x then y :: insI x r else x :: y :: r
def sortI : List Int → List Int
  | [] => []
  | x :: r => insI x (sortI r)
theorem insI_perm (x : Int) : ∀ l : List Int, (insI x l).Perm (x :: l)
  | [] => .refl _
  | y :: r => by
    unfold insI
    split
    · exact ((insI_perm x r).cons y).trans (List.Perm.swap x y r)
    · exact .refl _
theorem sortI_perm : ∀ l : List Int, (sortI l).Perm l
  | [] => .refl _
  | x :: r => (insI_perm x _).trans ((sortI_perm r).cons x)
theorem insI_pw {x : Int} : ∀ {l : List Int}, l.Pairwise (· ≤ ·) → (insI x l).Pairwise (· ≤ ·)
  | [], _ => by simp [insI]
  | y :: r, h => by
    unfold insI
    split
    · rename_i q
      refine List.pairwise_cons.mpr ⟨fun z hz => ?_, insI_pw (List.pairwise_cons.mp h).2⟩
      rcases List.mem_cons.mp ((insI_perm x r).mem_iff.mp hz) with e | hz
      · subst e; omega
      · exact (List.pairwise_cons.mp h).1 z hz
    · refine List.pairwise_cons.mpr ⟨fun z hz => ?_, h⟩
      rcases List.mem_cons.mp hz with e | hz
      · subst e; omega
      · have := (List.pairwise_cons.mp h).1 z hz; omega
theorem sortI_pw : ∀ l : List Int, (sortI l).Pairwise (· ≤ ·)
  | [] => by simp [sortI]
  | x :: r => insI_pw (sortI_pw r)
theorem sortI_uniq : ∀ {l m : List Int}, l.Pairwise (· ≤ ·) → m.Pairwise (· ≤ ·) → l.Perm m → l = m
  | [], m, _, _, p => (List.Perm.nil_eq p)
  | x :: r, [], _, _, p => by simpa using p.length_eq
  | x :: r, y :: t, h1, h2, p => by
    have hx : x ∈ y :: t := p.mem_iff.mp (by simp)
    have hy : y ∈ x :: r := p.mem_iff.mpr (by simp)
    have e : x = y := by
      rcases List.mem_cons.mp hx with e | hx
      · exact e
      · rcases List.mem_cons.mp hy with e | hy
        · exact e.symm
        · have a1 := (List.pairwise_cons.mp h2).1 x hx
          have a2 := (List.pairwise_cons.mp h1).1 y hy
          omega
    subst e
    rw [sortI_uniq (List.pairwise_cons.mp h1).2 (List.pairwise_cons.mp h2).2 (List.Perm.cons_inv p)]
theorem sortI_of {l m : List Int} (p : m.Perm l) (h : m.Pairwise (· ≤ ·)) : m = sortI l := sortI_uniq h (sortI_pw l) (p.trans (sortI_perm l).symm)
end DL
namespace PyProof.Rows
open PySem PySem.Spec
section
variable {prog : Program} {w : World} {A : Around} {E : Value → Shared → Prop} {s : Shared}
/-- the items of a tuple, in a new list -/
theorem collect_tupD {a : Addr} {us : List Value} {o : Obj} {k : Nat} {Q : List Value → Shared → Prop} (oa : s.heap.get? a = some o) (cls : o.cls = .type "tuple") (dat : o.data = .seq us.toArray k) (fits : us.length ≤ sizeLine)
    (q : Q us { s with heap := (s.heap.push (seqObj "list" #[] 0)).update s.heap.objs.size (Obj.mapSeq (· ++ us.toArray)) }) : wpAny (model prog w) A (collect (.ref a)) Q E s := by
  have there := Heap.get?_push_of_some (seqObj "list" #[] 0) oa
  have made := Heap.get?_push_size s.heap (o := seqObj "list" #[] 0) rfl
  unfold collect
  refine wpAny_bind (wpAny_runValue (codeAny_builtin entry_proto_collect' ?_))
  change wpAny _ _ (do again (.builtin "list.__iadd__" ⟨[← newList [], .ref a], []⟩)) _ _ s
  refine wpAny_bind (wpAny_newList (wpAny_pure ⟨Code.quiet_builtin _ (by decide +kernel), codeAny_builtin entry_list_iadd' ?_⟩))
  change wpAny _ _ (Builtin.List.listExtendWith (.ref s.heap.objs.size) (.ref a) (.ref s.heap.objs.size)) _ _ ⟨s.heap.push (seqObj "list" #[] 0), s.gens, s.drawn, s.toks, s.os⟩
  unfold Builtin.List.listExtendWith
  refine wpAny_bind (wpAny_typeOf (T := "tuple") ⟨o, there, cls⟩ ?_)
  rw [if_pos (by have z : (Value.type "tuple" == Value.type "tuple") = true := beq_self_eq_true _; rw [z]; simp)]
  refine wpAny_bind (listItems_at there dat (wpAny_bind (listItems_at (xs := #[]) (n := 0) made rfl ?_)))
  rw [if_neg (by simp)]
  refine wpAny_bind (listUpdate_at (xs := #[]) (n := 0) made rfl (wpAny_pure ?_) (Nat.zero_le _) (by simp; omega))
  have upd := get?_update_seq made (· ++ us.toArray)
  show wpAny (model prog w) A (load s.heap.objs.size >>= fun ob => match ob.data with
    | .seq xs _ => pure xs.toList
    | _ => unsupported "internal:collect") Q E _
  refine wpAny_bind (wpAny_load upd ?_)
  show wpAny _ _ (pure ((#[] : Array Value) ++ us.toArray).toList) Q E _
  have e : ((#[] : Array Value) ++ us.toArray).toList = us := by simp
  rw [e]
  exact wpAny_pure q
theorem sorted_tupD {κ : KeyKind} (hO : κ.OneLt) {a : Addr} {us : List Value} {o : Obj} {k : Nat} {Q : Value → Shared → Prop} (oa : s.heap.get? a = some o) (cls : o.cls = .type "tuple") (dat : o.data = .seq us.toArray k) (fits : us.length ≤ sizeLine)
    (h0 : KeysOf κ (pairsOf us)) (hkk : ∀ v₁ v₂ rest, us = v₁ :: v₂ :: rest → keyKind' (v₁ :: v₂ :: rest).toArray = pure oneType')
    (q : ∀ st : SortSt, (arrOf st).Perm (pairsOf us) → SortedToK κ (arrOf st) (pairsOf us).size → Q (.ref (s.heap.objs.size + 1)) { s with heap := sortedAll s.heap us ((arrOf st).map (·.2)) }) : wpAny (model prog w) A (call (.builtin "sorted") [.ref a]) Q E s := by
  refine Calls.call_function_entry kind_sorted plain_sorted entry_sorted (args_sorted1 _) ?_
  unfold Builtin.«sorted»
  refine wpAny_bind (m := checkCount "sorted" 1 1 _) (wpAny_pure (wpAny_bind (collect_tupD oa cls dat fits (wpAny_bind (wpAny_newList ?_)))))
  have sz : ((s.heap.push (seqObj "list" #[] 0)).update s.heap.objs.size (Obj.mapSeq (· ++ us.toArray))).objs.size = s.heap.objs.size + 1 := by rw [Heap.size_update, size_push']
  have at1 : (((s.heap.push (seqObj "list" #[] 0)).update s.heap.objs.size (Obj.mapSeq (· ++ us.toArray))).push (seqObj "list" us.toArray 0)).get? (s.heap.objs.size + 1) = some (seqObj "list" us.toArray 0) := sz ▸ Heap.get?_push_size _ rfl
  change wpAny _ _ _ _ _ ⟨((s.heap.push (seqObj "list" #[] 0)).update s.heap.objs.size (Obj.mapSeq (· ++ us.toArray))).push (seqObj "list" us.toArray 0), s.gens, s.drawn, s.toks, s.os⟩
  rw [sz]
  exact wpAny_bind (wpAny_holding (wpAny_call_entry slot_list_sort ⟨_, at1, rfl⟩ entry_list_sort (list_sort_treeKAny hO at1 h0 hkk fits fun st p1 p2 => ⟨_, rfl, wpAny_pure ⟨_, rfl, q st p1 p2⟩⟩) (args_list_sort _)))
theorem sorted_strsT {a : Addr} {us : List Value} {o : Obj} {k : Nat} {ss : List Str} {Q : Value → Shared → Prop} (oa : s.heap.get? a = some o) (cls : o.cls = .type "tuple") (dat : o.data = .seq us.toArray k) (fits : us.length ≤ sizeLine) (hS : StrsAre us ss)
    (q : ∀ (out : Array Value) (zs : List Str), StrsAre out.toList zs → zs.Perm ss → sortedS zs = true → Q (.ref (s.heap.objs.size + 1)) { s with heap := sortedAll s.heap us out }) : wpAny (model prog w) A (call (.builtin "sorted") [.ref a]) Q E s :=
  sorted_tupD strKind_oneLt oa cls dat fits hS.keysOf (fun v₁ v₂ rest e => keyKind_strs (e ▸ hS)) fun st p1 p2 => by
    obtain ⟨zs, z1, z2, z3⟩ := sorted_out_str hS p1 p2
    exact q _ zs z1 z2 z3
end
end PyProof.Rows

namespace DL
open PySem PySem.Spec L2
open PyProof.Rows (sortedS)
def rSortedW (K : PySem.W.Frag) : List V → Hp → VK → Prop := fun vs H Q => ∃ (a : Addr) (xs : List Str), vs = [V.ref a] ∧ (SqL K H a (xs.map V.str) ∨ SqT K H a (xs.map V.str)) ∧ ∀ (ys : List Str) (p : Addr), ys.Perm xs → sortedS ys = true → H p = none → Q (.ref p) (upd H p (.lst (ys.map V.str)))
theorem vals_strsD {ss : List Str} {us : List Value} (h : PyProof.Rows.StrsAre us ss) : Vals (ss.map V.str) us := by
  induction h with
  | nil => exact .nil
  | cons x t _ ih => exact .cons ⟨t, rfl⟩ ih
theorem strs_valsD : ∀ {ss : List Str} {us : List Value}, Vals (ss.map V.str) us → PyProof.Rows.StrsAre us ss
  | [], _, h => by cases h; exact .nil
  | x :: r, _, .cons h t => by
    obtain ⟨k, rfl⟩ := h
    exact .cons x k (strs_valsD t)
theorem cr_sortedW {X : Cx} : CallR X (.builtin "sorted") (rSortedW X.K) := by
  intro pins s σ H vs us Q I r h
  obtain ⟨a, ss, rfl, hs, q⟩ := h
  rw [Vals.ref1 r]
  have fin : ∀ (its : List Value), PyProof.Rows.StrsAre its ss → ss.length ≤ sizeLine → ∀ (out : Array Value) (zs : List Str), PyProof.Rows.StrsAre out.toList zs → zs.Perm ss → sortedS zs = true →
      EP X pins σ Q (.ref (s.heap.objs.size + 1)) { s with heap := PyProof.Rows.sortedAll s.heap its out } := fun its hi hz out zs h1 h2 h3 => by
    obtain ⟨ep, at_⟩ := PyProof.Rows.sortedAll_at s.heap its out
    have hl : (zs.map V.str).length ≤ sizeLine := by rw [List.length_map, h2.length_eq]; exact hz
    exact ⟨.ref _, upd H (s.heap.objs.size + 1) (.lst (zs.map V.str)), I.laid (t' := s.toks) (fun _ _ => PyProof.Rows.sortedAll_old) (Nat.le_succ _) ⟨hl, out.toList, ep, vals_strsD h1, at_⟩, rfl, q zs _ h2 h3 (I.hok.fresh (Nat.le_succ _))⟩
  rcases hs with hs | hs
  · obtain ⟨its, rv, hl, hz⟩ := I.list hs
    have hi := strs_valsD rv
    have len := rv.length
    rw [List.length_map] at hz len
    exact PyProof.Rows.sorted_strsAny hl.isList hi (by rw [← len]; exact hz) (fin its hi hz)
  · obtain ⟨its, rv, ⟨o, o1, o2, k, o3⟩, hz⟩ := I.tuple hs
    have hi := strs_valsD rv
    have len := rv.length
    rw [List.length_map] at hz len
    exact PyProof.Rows.sorted_strsT o1 o2 o3 (by rw [← len]; exact hz) hi (fin its hi hz)
end DL
namespace DL
open PySem PySem.Spec L2
variable {g : G} {W : WX}

/-! ### list(x), tuple(x), sorted(x) -/
def seqD : D → Option (List D)
  | .list ds => some ds
  | .tuple ds => some ds
  | .dict [(.bool true, .list ds)] => some ds
  | _ => none
theorem Pk.seq {F H : Hp} {v : V} {d : D} {ds : List D} (s : Sub F H) (h : Pk g F H v d) (e : seqD d = some ds) : ∃ a xs, v = .ref a ∧ (SqL g.K H a xs ∨ SqT g.K H a xs) ∧ DenL g F xs ds := by
  unfold seqD at e
  split at e
  · cases e; obtain ⟨a, xs, e1, e2, e3⟩ := h.lst s; exact ⟨a, xs, e1, .inl (.inl (.inl e2)), e3⟩
  · cases e; obtain ⟨a, xs, e1, e2, e3⟩ := h.tup s; exact ⟨a, xs, e1, .inr e2, e3⟩
  · cases e; obtain ⟨a, xs, e1, e2, e3⟩ := Pk.ro s h; exact ⟨a, xs, e1, .inl e2, e3⟩
  · cases e
def dListOf : List D → Option Rv
  | [d] => (seqD d).map fun ds => .new (.list ds)
  | _ => none
theorem good_listOf : GoodC g (fun xs H Q => ∃ p ys, xs = [.ref p] ∧ (SqL g.K H p ys ∨ SqT g.K H p ys) ∧ ∀ l, H l = none → Q (.ref l) (upd H l (.lst ys))) dListOf := by
  refine ⟨fun F H vs ds Q s h p => ?_, fun ds => ?_⟩
  · unfold dListOf at p
    split at p
    · rename_i d
      obtain ⟨v, rfl, hv⟩ := h.one
      cases q : seqD d with
      | none => rw [q] at p; exact p.elim
      | some es =>
        rw [q] at p
        obtain ⟨a, xs, e1, e2, e3⟩ := hv.seq s q
        exact ⟨a, xs, by rw [e1], e2, fun l hn => Post0.newL s p hn e3⟩
    · exact p.elim
  · unfold dListOf
    split
    · rename_i d; cases seqD d <;> first | exact NoSl.none | exact NoSl.new
    · exact NoSl.none
def dTupOf : List D → Option Rv
  | [.list ds] => some (.val (.tuple ds))
  | [.tuple ds] => some (.val (.tuple ds))
  | _ => none
theorem good_tupOf : GoodC g (fun xs H Q => ∃ p ys, xs = [.ref p] ∧ ((SqL g.K H p ys ∧ ∀ l, H l = none → Q (.ref l) (upd H l (.tup ys))) ∨ (SqT g.K H p ys ∧ Q (.ref p) H))) dTupOf := by
  refine ⟨fun F H vs ds Q s h p => ?_, fun ds => ?_⟩
  · unfold dTupOf at p
    split at p
    · obtain ⟨v, rfl, hv⟩ := h.one
      obtain ⟨a, xs, e1, e2, e3⟩ := hv.lst s
      exact ⟨a, xs, by rw [e1], .inl ⟨.inl (.inl e2), fun l hn => Post0.valT s p hn e3⟩⟩
    · obtain ⟨v, rfl, hv⟩ := h.one
      rcases hv with hv | ⟨b, e, w⟩
      · cases hv with
        | tup hq r => exact ⟨_, _, rfl, .inr ⟨s.sqT hq, p.val0 s (.tup hq r)⟩⟩
        | ro _ _ e => simp [roD] at e
        | ins _ _ _ _ e => simp [insD] at e
        | dctK _ _ _ _ e => cases e
        | dctT _ _ _ _ e => cases e
      · cases w with
        | dctK _ _ _ _ e => cases e
        | dctT _ _ _ _ e => cases e
        | ins _ _ _ _ e => cases e
    · exact p.elim
  · unfold dTupOf; split <;> first | exact NoSl.val | exact NoSl.none
def dSorted1 (ds : List D) : Option Rv := (asStrs ds).map fun ss => .new (.list ((sortS ss).map .str))
def dSorted : List D → Option Rv
  | [.list ds] => match asInts ds with
    | some ns => some (.new (.list ((sortI ns).map .int)))
    | none => dSorted1 ds
  | [.tuple ds] => dSorted1 ds
  | _ => none
abbrev rSortedX (K : PySem.W.Frag) : List V → Hp → VK → Prop := fun xs H Q => rSortedI K xs H Q ∨ rSortedW K xs H Q
theorem denL_strs {F : Hp} : ∀ {ss : List Str}, (∀ x ∈ ss, strOk x = true) → DenL g F (ss.map V.str) (ss.map PyData.str)
  | [], _ => .nil
  | x :: r, h => .cons (.str x (h x (by simp))) (denL_strs fun y hy => h y (List.mem_cons_of_mem _ hy))
theorem denL_int {F : Hp} : ∀ (ns : List Int), DenL g F (ns.map V.int) (ns.map PyData.int)
  | [] => .nil
  | n :: r => .cons (.int n) (denL_int r)
theorem sorted1 {F H : Hp} {v : V} {a : Addr} {xs : List V} {es : List D} {Q : VK} (s : Sub F H) (e1 : v = .ref a) (e2 : SqL g.K H a xs ∨ SqT g.K H a xs) (e3 : DenL g F xs es) (p : Post0 g F H Q (dSorted1 es)) : rSortedW g.K [v] H Q := by
  unfold dSorted1 at p
  cases q2 : asStrs es with
  | none => simp only [q2] at p; exact p.elim
  | some ss =>
    simp only [q2, Option.map_some] at p
    obtain ⟨w, ok⟩ := e3.strs q2
    subst w
    exact ⟨a, ss, by rw [e1], e2, fun ys b hp hs hn => by
      rw [sortS_of hp hs]
      exact Post0.newL s p hn (denL_strs fun x hx => ok x ((sortS_perm ss).mem_iff.mp hx))⟩
theorem nosl_sorted1 (ds : List D) : NoSl (dSorted1 ds) := by
  unfold dSorted1; cases asStrs ds <;> first | exact NoSl.none | exact NoSl.new
theorem good_sorted : GoodC g (rSortedX g.K) dSorted := by
  refine ⟨fun F H vs ds Q s h p => ?_, fun ds => ?_⟩
  · unfold dSorted at p
    split at p
    · rename_i es
      obtain ⟨v, rfl, hv⟩ := h.one
      obtain ⟨a, xs, e1, e2, e3⟩ := hv.lst s
      cases q : asInts es with
      | some ns =>
        simp only [q] at p
        have := e3.ints q
        subst this
        exact .inl ⟨a, ns, by rw [e1], .inl (.inl e2), fun ns' b hp hs hn => by rw [sortI_of hp hs]; exact Post0.newL s p hn (denL_int _)⟩
      | none =>
        simp only [q] at p
        exact .inr (sorted1 s e1 (.inl (.inl (.inl e2))) e3 p)
    · rename_i es
      obtain ⟨v, rfl, hv⟩ := h.one
      obtain ⟨a, xs, e1, e2, e3⟩ := hv.tup s
      exact .inr (sorted1 s e1 (.inr e2) e3 p)
    · exact p.elim
  · unfold dSorted
    split
    · split
      · exact NoSl.new
      · exact nosl_sorted1 _
    · exact nosl_sorted1 _
    · exact NoSl.none
section
variable {X : Cx} {p pos : Pos} {e : Expr} {f : ME}
theorem de_listOf (hm : X.mg "list" = none) (ha : DA X W [e] [f]) (hg : Gl X "list" := by rfl) (he : starEach [e] X.env = (false, eval e X.env) :: starEach [] X.env := by rfl) (hpl : (backTo pos (starEach [] X.env)).any (·.1) = false := by rfl) : DE X W (.Call (.Name "list" p) [e] [] pos) (mCallB dListOf [f]) :=
  de_callTy call_list_of good_listOf hg hm (by decide +kernel) ha (by decide) (by decide) he hpl
theorem de_tupOf (hm : X.mg "tuple" = none) (ha : DA X W [e] [f]) (hg : Gl X "tuple" := by rfl) (he : starEach [e] X.env = (false, eval e X.env) :: starEach [] X.env := by rfl) (hpl : (backTo pos (starEach [] X.env)).any (·.1) = false := by rfl) : DE X W (.Call (.Name "tuple" p) [e] [] pos) (mCallB dTupOf [f]) :=
  de_callTy call_tuple_of good_tupOf hg hm (by decide +kernel) ha (by decide) (by decide) he hpl
theorem de_sorted (hm : X.mg "sorted" = none) (ha : DA X W [e] [f]) (hg : Gl X "sorted" := by rfl) (he : starEach [e] X.env = (false, eval e X.env) :: starEach [] X.env := by rfl) (hpl : (backTo pos (starEach [] X.env)).any (·.1) = false := by rfl) : DE X W (.Call (.Name "sorted" p) [e] [] pos) (mCallB dSorted [f]) :=
  de_callB (CallR.or cr_sortedI cr_sortedW) good_sorted hg hm (by decide +kernel) ha (by decide) (by decide) he hpl
end

/-! ### methods of texts -/
def dSplit : D → List D → Option Rv
  | .str a, [.str b] => if (b.length == 0) = false ∧ a.length + 2 ≤ lineM ∧ (Txt.split a b).all strOk = true then some (.new (.list ((Txt.split a b).map .str))) else none
  | _, _ => none
theorem good_split {F H : Hp} {x : V} {vs : List V} {d : D} {ds : List D} {Q : VK} (s : Sub F H) (hx : Pk g F H x d) (h : Pks g F H vs ds) (p : Post0 g F H Q (dSplit d ds)) : ∃ a b, x = .str a ∧ vs = [.str b] ∧ (b.length == 0) = false ∧ a.length + 2 ≤ sizeLine ∧ rNewStrs (Txt.split a b) H Q := by
  unfold dSplit at p
  split at p
  · rename_i a b
    obtain ⟨v, rfl, hv⟩ := h.one
    split at p
    · rename_i c
      refine ⟨a, b, hx.str.1, by rw [hv.str.1], c.1, by rw [lineM_eq]; exact c.2.1, fun q hn => Post0.newL s p hn (denL_strs fun y hy => ?_)⟩
      exact List.all_eq_true.mp c.2.2 y hy
    · exact p.elim
  · exact p.elim
theorem nosl_split (d : D) (ds : List D) : NoSl (dSplit d ds) := by
  unfold dSplit
  split
  · split <;> first | exact NoSl.new | exact NoSl.none
  · exact NoSl.none
def dEnds : D → List D → Option Rv
  | .str a, [.str b] => some (.val (.bool (Txt.endswith a b)))
  | _, _ => none
theorem good_ends {F H : Hp} {x : V} {vs : List V} {d : D} {ds : List D} {Q : VK} (s : Sub F H) (hx : Pk g F H x d) (h : Pks g F H vs ds) (p : Post0 g F H Q (dEnds d ds)) : ∃ a b, x = .str a ∧ vs = [.str b] ∧ Q (.bl (Txt.endswith a b)) H := by
  unfold dEnds at p
  split at p
  · rename_i a b
    obtain ⟨v, rfl, hv⟩ := h.one
    exact ⟨a, b, hx.str.1, by rw [hv.str.1], p.val0 s (.bl _)⟩
  · exact p.elim
theorem nosl_ends (d : D) (ds : List D) : NoSl (dEnds d ds) := by
  unfold dEnds; split <;> first | exact NoSl.val | exact NoSl.none
section
variable {X : Cx} {o e : Expr} {apos cpos : Pos} {f h : ME}
theorem de_split (ho : DE X W o f) (ha : DE X W e h) (hs : starEach [e] X.env = (false, eval e X.env) :: starEach [] X.env := by rfl) (hbase : attributeBase o "split" X.env (eval o X.env) = eval o X.env := by rfl)
    (hfew : ((backTo cpos (starEach [e] X.env)).all (fun x => !x.1) && (backToKw cpos (keywordEach [] X.env)).all (fun x => x.1.isSome) && decide ([e].length + ([] : List Keyword).length + (if ([] : List Keyword).isEmpty then 0 else 1) < 30)) = true := by rfl)
    (hline : (apos.endLine == cpos.line) = true := by rfl) (hplain : (backTo cpos (starEach [] X.env)).any (·.1) = false := by rfl) : DE X W (.Call (.Attribute o "split" apos) [e] [] cpos) (mMeth dSplit isStrD f [h]) := by
  obtain ⟨t, pt, gt⟩ := ho
  obtain ⟨u, pu, gu⟩ := ha
  exact ⟨_, pe_bm PySem.F.plainAttrs_str PySem.F.slot_str_split PySem.F.type_str_split mt_split pt (pa_cons pu pa_nil hs) hbase hfew hline hs hplain, good_meth (T := "str") gt (.cons gu .nil) (fun F H x vs d ds Q s hx h p => good_split s hx h p) (fun F H x d s h e => ty_str s h e) nosl_split⟩
theorem de_ends (ho : DE X W o f) (ha : DE X W e h) (hs : starEach [e] X.env = (false, eval e X.env) :: starEach [] X.env := by rfl) (hbase : attributeBase o "endswith" X.env (eval o X.env) = eval o X.env := by rfl)
    (hfew : ((backTo cpos (starEach [e] X.env)).all (fun x => !x.1) && (backToKw cpos (keywordEach [] X.env)).all (fun x => x.1.isSome) && decide ([e].length + ([] : List Keyword).length + (if ([] : List Keyword).isEmpty then 0 else 1) < 30)) = true := by rfl)
    (hline : (apos.endLine == cpos.line) = true := by rfl) (hplain : (backTo cpos (starEach [] X.env)).any (·.1) = false := by rfl) : DE X W (.Call (.Attribute o "endswith" apos) [e] [] cpos) (mMeth dEnds isStrD f [h]) := by
  obtain ⟨t, pt, gt⟩ := ho
  obtain ⟨u, pu, gu⟩ := ha
  exact ⟨_, pe_bm PySem.F.plainAttrs_str PySem.F.slot_str_endswith PySem.F.type_str_endswith mt_endswith pt (pa_cons pu pa_nil hs) hbase hfew hline hs hplain, good_meth (T := "str") gt (.cons gu .nil) (fun F H x vs d ds Q s hx h p => good_ends s hx h p) (fun F H x d s h e => ty_str s h e) nosl_ends⟩
end
/-! ### [*a, b] -/
inductive AllS (g : G) (W : WX) : TA → List (Bool × ME) → Prop
  | nil : AllS g W tNil []
  | one {t : TE} {tr : TA} {f : ME} {fs : List (Bool × ME)} : GoodE g W t f → AllS g W tr fs → AllS g W (tCons t tr) ((false, f) :: fs)
  | star {t : TE} {tr : TA} {f : ME} {fs : List (Bool × ME)} : GoodE g W t f → AllS g W tr fs → AllS g W (StX.tStar g.K t tr) ((true, f) :: fs)
structure DAS (X : Cx) (W : WX) (es : List Expr) (fs : List (Bool × ME)) : Prop where
  ex : ∃ t, PA X es t ∧ AllS ⟨X.K, X.mg⟩ W t fs
theorem das_nil {X : Cx} : DAS X W [] [] := ⟨_, pa_nil, .nil⟩
theorem das_star {X : Cx} {e : Expr} {es : List Expr} {pos : Pos} {f : ME} {fs : List (Bool × ME)} (h : DE X W e f) (hr : DAS X W es fs) (hs : starEach (.Starred e pos :: es) X.env = (true, eval e X.env) :: starEach es X.env := by rfl) : DAS X W (.Starred e pos :: es) ((true, f) :: fs) := by
  obtain ⟨t, p, q⟩ := h
  obtain ⟨tr, pr, qr⟩ := hr
  exact ⟨_, StX.pa_star p pr hs, .star q qr⟩
theorem das_one {X : Cx} {e : Expr} {es : List Expr} {f : ME} {fs : List (Bool × ME)} (h : DE X W e f) (hr : DAS X W es fs) (hs : starEach (e :: es) X.env = (false, eval e X.env) :: starEach es X.env := by rfl) : DAS X W (e :: es) ((false, f) :: fs) := by
  obtain ⟨t, p, q⟩ := h
  obtain ⟨tr, pr, qr⟩ := hr
  exact ⟨_, pa_cons p pr hs, .one q qr⟩
def evSs : List (Bool × ME) → Env → Res (List D × Env)
  | [], env => .ok ([], env)
  | (b, f) :: fs, env => f env >>= fun z => z.1.frz z.2 >>= fun y => if b = true then (match seqD y.1 with
      | some ds => evSs fs y.2 >>= fun x => .ok (ds ++ x.1, x.2)
      | none => .stuck) else evSs fs y.2 >>= fun x => .ok (y.1 :: x.1, x.2)
theorem AllS.ds {t : TA} {fs : List (Bool × ME)} (h : AllS g W t fs) : Good (RDs g) g W t (evSs fs) := by
  induction h with
  | nil => exact fun F H σ env Q k p => p F H [] .refl k .refl .nil
  | @one t tr f fs hf hr ih =>
    intro F H σ env Q k p
    refine hf F H σ env _ k (Post.bindF RDs.early (k := fun y => evSs fs y.2 >>= fun x => .ok (y.1 :: x.1, x.2)) p fun d e2 F2 H1 v x2 k2 kp2 hd p2 => ?_)
    refine ih F2 H1 σ e2 _ k2 (Post.bind RDs.early p2 fun ds e3 F3 H3 vs x3 k3 kp3 hds p3 => ?_)
    exact p3 F3 H3 (v :: vs) .refl k3 .refl (.cons (hd.mono x3.sub) hds)
  | @star t tr f fs hf hr ih =>
    intro F H σ env Q k p
    refine hf F H σ env _ k (Post.bindF RDs.early (k := fun y => match seqD y.1 with
      | some ds => evSs fs y.2 >>= fun x => .ok (ds ++ x.1, x.2)
      | none => .stuck) p fun d e2 F2 H1 v x2 k2 kp2 hd p2 => ?_)
    cases q : seqD d with
    | none => simp only [q] at p2; exact p2.elim
    | some ds =>
      simp only [q] at p2
      obtain ⟨a, xs, e1, hq, hden⟩ := Pk.seq (g := g) (F := F2) (H := H1) k2.sub (.inl hd) q
      refine ⟨a, xs, e1, hq.symm, ?_⟩
      refine ih F2 H1 σ e2 _ k2 (Post.bind RDs.early p2 fun es e3 F3 H3 vs x3 k3 kp3 hds p3 => ?_)
      exact p3 F3 H3 (xs ++ vs) .refl k3 .refl ((hden.mono x3.sub).append hds)
def mListS (fs : List (Bool × ME)) : ME := fun env => evSs fs env >>= fun z => if z.1.length ≤ lineM then .ok (.new (.list z.1), z.2) else .stuck
theorem good_lstS {t : TA} {fs : List (Bool × ME)} (h : AllS g W t fs) : GoodE g W (tLst t) (mListS fs) := fun F H σ env Q k p => by
  refine h.ds F H σ env _ k (Post.bind RE.early p fun ds e1 F1 H1 vs x1 k1 kp1 hds p1 => ?_)
  have hds : DenL g F1 vs ds := hds
  by_cases z : ds.length ≤ lineM
  · simp only [z, if_true] at p1
    exact ⟨by rw [hds.length, lineM_eq]; exact z, fun a hn => Post0.newL k1.sub (post0_of (o := some (.new (.list ds))) k1 p1 NoSl.new) hn hds⟩
  · simp only [z, if_false] at p1; exact p1.elim
theorem de_listS {X : Cx} {es : List Expr} {pos : Pos} {fs : List (Bool × ME)} (h : DAS X W es fs) : DE X W (.List es pos) (mListS fs) := by
  obtain ⟨t, pt, gt⟩ := h
  exact ⟨_, pe_lst pt, good_lstS gt⟩
end DL
namespace DL
open PySem PySem.Spec L2
variable {g : G} {W : WX}

/-! ### pop -/
def mPop (j : Nat) : ME := fun env => match ownL env j with
  | some (k, ds) => match ds[ds.length - 1]? with
    | some d => .ok (.val d, env.set j (.ow k (.list ds.dropLast)))
    | none => .stuck
  | none => .stuck
theorem DenL.dropLast {F : Hp} {vs : List V} {ds : List D} (h : DenL g F vs ds) : DenL g F vs.dropLast ds.dropLast := by
  rw [List.dropLast_eq_take, List.dropLast_eq_take, h.length]; exact h.take _
theorem good_pop {j : Nat} : GoodE g W (tBM0 g.K "list" rPop (tVar j)) (mPop j) := fun F H σ env Q k p => by
  unfold mPop at p
  cases ho : ownL env j with
  | none => simp only [ho] at p; exact p.elim
  | some w =>
    obtain ⟨kd, ds⟩ := w
    simp only [ho] at p
    obtain ⟨a, xs, s1, ha, hd⟩ := k.ownL ho
    cases q : ds[ds.length - 1]? with
    | none => simp only [q] at p; exact p.elim
    | some d =>
      simp only [q] at p
      obtain ⟨y, y1, y2⟩ := hd.get q
      obtain ⟨he, hk⟩ := ownL_ok ho
      have dw : OwnAt g F (upd H a (.lst xs.dropLast)) a (.list ds.dropLast) := .lst upd_same hd.dropLast
      obtain ⟨z1, z2, z3⟩ := k.change he s1 hk dw
      exact ⟨_, s1, .inl ⟨rfl, xs, .inl (.inl ha)⟩, a, xs, y, rfl, rfl, ha, by rw [hd.length]; exact y1, p F _ y z1 z2 z3 y2⟩
theorem de_pop {X : Cx} {j : Nat} {x : Str} {np apos cpos : Pos} (hN : X.N[j]? = some x) (hv : Vis X.env.scope x) (hbase : attributeBase (.Name x np) "pop" X.env (eval (.Name x np) X.env) = eval (.Name x np) X.env := by rfl) (hline : (apos.endLine == cpos.line) = true := by rfl)
    (hd : (x == ("__debug__" : Str)) = false := by decide) (hcd : (x == ("__classdict__" : Str)) = false := by decide) : DE X W (.Call (.Attribute (.Name x np) "pop" apos) [] [] cpos) (mPop j) :=
  ⟨_, pe_bm0 PySem.F.plainAttrs_list PySem.F.slot_list_pop PySem.F.type_list_pop mt_pop (pe_var hN hv hd hcd) hbase hline, good_pop⟩
/-- at a place -/
def mPopAt (j : Nat) (f : ME) : ME := fun env => if (ownL env j).isSome = true then f env >>= fun z => z.1.data z.2 >>= fun di => match ownL z.2 j, di with
    | some (k, ds), .int i => if 0 ≤ i ∧ i < 2 ^ 62 then match ds[i.toNat]? with
      | some d => .ok (.val d, z.2.set j (.ow k (.list (ds.eraseIdx i.toNat))))
      | none => .stuck else .stuck
    | _, _ => .stuck else .stuck
theorem DenL.eraseIdx {F : Hp} : ∀ {vs : List V} {ds : List D} (n : Nat), DenL g F vs ds → DenL g F (vs.eraseIdx n) (ds.eraseIdx n)
  | _, _, _, .nil => by simpa using DenL.nil
  | _, _, 0, .cons _ r => by simpa using r
  | _, _, n + 1, .cons h r => by simpa using DenL.cons h (DenL.eraseIdx n r)
theorem good_popAt {t : TE} {j : Nat} {f : ME} (h : GoodE g W t f) : GoodE g W (tBM g.K "list" rPopAt (tVar j) (tCons t tNil)) (mPopAt j f) := fun F H σ env Q k p => by
  unfold mPopAt at p
  by_cases hs : (ownL env j).isSome = true
  · rw [if_pos hs] at p
    obtain ⟨⟨kd0, ds0⟩, ho⟩ := Option.isSome_iff_exists.mp hs
    obtain ⟨a, xs, s1, ha, _⟩ := k.ownL ho
    refine ⟨_, s1, .inl ⟨rfl, xs, .inl (.inl ha)⟩, ?_⟩
    refine h F H σ env _ k (Post.since (R' := RE g) .refl .refl p fun r e2 F2 H2 x x2 k2 kp2 rv p2 => ?_)
    rcases data_cases r e2 with ⟨di, q⟩ | q
    · simp only [q, Res.ok_bind] at p2
      have pk := RvOk.pk rv k2 q
      cases ho2 : ownL e2 j with
      | none => simp only [ho2] at p2; exact p2.elim
      | some w =>
        obtain ⟨kd, ds⟩ := w
        cases di with
        | int i =>
          simp only [ho2] at p2
          split at p2
          · rename_i c
            cases q2 : ds[i.toNat]? with
            | none => simp only [q2] at p2; exact p2.elim
            | some d =>
              simp only [q2] at p2
              obtain ⟨b, ys, s2, hb, hd⟩ := k2.ownL ho2
              rw [s1] at s2; cases s2
              obtain ⟨y, y1, y2⟩ := hd.get q2
              obtain ⟨he, hk⟩ := ownL_ok ho2
              have dw : OwnAt g F2 (upd H2 a (.lst (ys.eraseIdx i.toNat))) a (.list (ds.eraseIdx i.toNat)) := .lst upd_same (hd.eraseIdx _)
              obtain ⟨z1, z2, z3⟩ := k2.change he s1 hk dw
              have lt := lt_of_get y1
              have sq : seqIndex? i ys.length = some i.toNat := by
                have : ixN ys.length i = some i.toNat := by unfold ixN; rw [if_pos c.1, if_pos (by omega)]
                exact (ixN_seq this).1
              exact ⟨a, ys, i, i.toNat, y, rfl, by rw [pk.int], hb, by have := c.1; omega, by have := c.2; omega, sq, y1, p2 F2 _ y (x2.trans z1) z2 (kp2.trans z3) y2⟩
          · exact p2.elim
        | _ => simp only [ho2] at p2; exact p2.elim
    · simp only [q, Res.stuck_bind] at p2; exact p2.elim
  · rw [if_neg hs] at p; exact p.elim
section
variable {X : Cx} {j : Nat} {x : Str} {e : Expr} {np apos cpos pos : Pos} {f : ME}
theorem de_popAt (hN : X.N[j]? = some x) (hv : Vis X.env.scope x) (ha : DE X W e f) (hs : starEach [e] X.env = (false, eval e X.env) :: starEach [] X.env := by rfl) (hbase : attributeBase (.Name x np) "pop" X.env (eval (.Name x np) X.env) = eval (.Name x np) X.env := by rfl)
    (hfew : ((backTo cpos (starEach [e] X.env)).all (fun x => !x.1) && (backToKw cpos (keywordEach [] X.env)).all (fun x => x.1.isSome) && decide ([e].length + ([] : List Keyword).length + (if ([] : List Keyword).isEmpty then 0 else 1) < 30)) = true := by rfl)
    (hline : (apos.endLine == cpos.line) = true := by rfl) (hplain : (backTo cpos (starEach [] X.env)).any (·.1) = false := by rfl)
    (hd : (x == ("__debug__" : Str)) = false := by decide) (hcd : (x == ("__classdict__" : Str)) = false := by decide) : DE X W (.Call (.Attribute (.Name x np) "pop" apos) [e] [] cpos) (mPopAt j f) := by
  obtain ⟨t, pt, gt⟩ := ha
  exact ⟨_, pe_bm PySem.F.plainAttrs_list PySem.F.slot_list_pop PySem.F.type_list_pop mt_popAt (pe_var hN hv hd hcd) (pa_cons pt pa_nil hs) hbase hfew hline hs hplain, good_popAt gt⟩
end
/-! ### extend -/
def mExtend (j : Nat) (f : ME) : MS := fun env => if (ownL env j).isSome = true then f env >>= fun z => z.1.frz z.2 >>= fun y => match ownL y.2 j, y.1 with
    | some (k, ds), .list es => if ds.length + es.length ≤ lineM then .ok (.nx, y.2.set j (.ow k (.list (ds ++ es)))) else .stuck
    | _, _ => .stuck else .stuck
theorem good_extend {t : TE} {j : Nat} {f : ME} (h : GoodE g W t f) : GoodS g W (tDrop (tBM g.K "list" rExtend (tVar j) (tCons t tNil))) (mExtend j f) := fun F H σ env Dn k p => by
  unfold mExtend at p
  by_cases hs : (ownL env j).isSome = true
  · rw [if_pos hs] at p
    obtain ⟨⟨kd, ds⟩, ho⟩ := Option.isSome_iff_exists.mp hs
    obtain ⟨a, xs, s1, ha, _⟩ := k.ownL ho
    refine ⟨_, s1, .inl ⟨rfl, xs, .inl (.inl ha)⟩, ?_⟩
    refine h F H σ env _ k (PostS.bindF p fun d e2 F2 H2 v x2 k2 kp2 hd p2 => ?_)
    cases ho2 : ownL e2 j with
    | none => simp only [ho2] at p2; exact p2.elim
    | some w =>
      obtain ⟨kd2, ds2⟩ := w
      cases d with
      | list es =>
        simp only [ho2] at p2
        split at p2
        · rename_i hl
          obtain ⟨b, ys, s2, hb, db⟩ := k2.ownL ho2
          rw [s1] at s2; cases s2
          obtain ⟨he, hk⟩ := ownL_ok ho2
          obtain ⟨c, zs, e1, e3, e4⟩ := Pk.lst (g := g) (F := F2) (H := H2) k2.sub (.inl hd)
          have dw : OwnAt g F2 (upd H2 a (.lst (ys ++ zs))) a (.list (ds2 ++ es)) := .lst upd_same (db.append e4)
          obtain ⟨y1, y2, y3⟩ := k2.change he s1 hk dw
          exact ⟨a, c, ys, zs, rfl, by rw [e1], hb, e3, by rw [db.length, e4.length, lineM_eq]; exact hl, p2 F2 _ σ y1 y2 y3⟩
        · exact p2.elim
      | _ => simp only [ho2] at p2; exact p2.elim
  · rw [if_neg hs] at p; exact p.elim
section
variable {X : Cx} {j : Nat} {x : Str} {e : Expr} {np apos cpos pos : Pos} {f : ME}
theorem ds_extend (hN : X.N[j]? = some x) (hv : Vis X.env.scope x) (ha : DE X W e f) (hs : starEach [e] X.env = (false, eval e X.env) :: starEach [] X.env := by rfl) (hbase : attributeBase (.Name x np) "extend" X.env (eval (.Name x np) X.env) = eval (.Name x np) X.env := by rfl)
    (hfew : ((backTo cpos (starEach [e] X.env)).all (fun x => !x.1) && (backToKw cpos (keywordEach [] X.env)).all (fun x => x.1.isSome) && decide ([e].length + ([] : List Keyword).length + (if ([] : List Keyword).isEmpty then 0 else 1) < 30)) = true := by rfl)
    (hline : (apos.endLine == cpos.line) = true := by rfl) (hplain : (backTo cpos (starEach [] X.env)).any (·.1) = false := by rfl) (hsw : swapsWith (.Call (.Attribute (.Name x np) "extend" apos) [e] [] cpos) none pos.line X.env = pure false := by rfl)
    (hd : (x == ("__debug__" : Str)) = false := by decide) (hcd : (x == ("__classdict__" : Str)) = false := by decide) : DS X W (.Expr (.Call (.Attribute (.Name x np) "extend" apos) [e] [] cpos) pos) (mExtend j f) := by
  obtain ⟨t, pt, gt⟩ := ha
  exact ⟨_, ps_expr (pe_bm PySem.F.plainAttrs_list PySem.F.slot_list_extend PySem.F.type_list_extend mt_extend (pe_var hN hv hd hcd) (pa_cons pt pa_nil hs) hbase hfew hline hs hplain) hsw, good_extend gt⟩
end
end DL
namespace DL
open PySem PySem.Spec L2

/-- what a law's mirror is to give -/
def Holds (fm : FM) (n : Nat) : Prop := ∀ ns : List Int, ns.length ≤ n → ∃ e, fm [.fz (roD (ns.map .int))] = .ok (.val (.bool true), e)
theorem denL_ints {g : G} {F : Hp} : ∀ ns : List Int, DenL g F (ns.map V.int) (ns.map PyData.int)
  | [] => .nil
  | n :: r => .cons (.int n) (denL_ints r)
theorem law_sp {g : G} {fm : FM} {n : Nat} (h : Holds fm n) {H : Hp} {a : Addr} {ns : List Int} (hl : ns.length ≤ n) (hS : SqL g.K H a (ns.map V.int)) : fnSp g fm [.ref a] H (fun v _ => v = .bl true) fun _ _ _ => False := by
  obtain ⟨e, he⟩ := h ns hl
  obtain ⟨ke, no⟩ := fz_env (g := g) (F := H) (H := H) (vs := [.ref a]) (ds := [roD (ns.map .int)]) .refl (.cons (.ro hS (denL_ints ns) rfl) .nil)
  refine ⟨H, _, ke, ?_⟩
  have he' : fm (List.map Sl.fz [roD (ns.map .int)]) = .ok (.val (.bool true), e) := he
  rw [he']
  intro F' H' v x k' kp rv
  have rv : Den g F' v (.bool true) := rv
  exact Pk.bl (g := g) (F := F') (H := F') (.inl rv)

section
variable {P : Program} {w : World} {K : PySem.W.Frag} {mg mb : Str → Option Value} {k : Nat} {fa a : Addr} {fd : FuncData} {x : Str} {fm : FM} {s₁ : Shared} {vs : List Value} {ns : List Int} {n : Nat}
/-- the law's def is called with the script, known to H -/
theorem end_at {H : Hp} (F : FnG P w K mg (hidT s₁.heap H) k fa fd [x] fm) (hbd : ∀ (s : Shared) (u : Value), BindsTo s fd ⟨[u], []⟩ [(x, u)]) (hr : Room k callerA) (h : Holds fm n) (hl : ns.length ≤ n) (hO : Only H) (hS : SqL K H a (ns.map V.int))
    (hM : Mod K mg (hidT s₁.heap H)) (hok : HOk P w H s₁.heap) (hg : s₁.gens = #[]) :
    codeAny (model P w) callerA (.call (.ref fa) ⟨[.ref a], []⟩) (fun r s' => r = .ok (.ret (.bool true)) ∧ PySem.OldK s₁.heap s'.heap ∧ s'.os = s₁.os ∧ PyProof.Rows.AllBare s'.gens) s₁ := by
  have none_in : ∀ b : Addr, b ∉ frs ([] : List PySem.Env) := fun b z => by cases z
  have e0 : Env0 P w K mg (hidT s₁.heap H) callerA [] s₁ H :=
    { frames := rfl, mod := hM, bs := fun b o e => of_hidT e, bsz := Nat.le_of_eq (hidT_size _ _), funs := trivial, frf := fun b hb => absurd hb (none_in b), hok := hok, bare := .of_eq hg }
  have go := F.run callerA [] s₁ H ⟨[.ref a], []⟩ [.ref a] [.ref a] _ _ hr rfl e0 (hbd s₁ (.ref a)) (.cons rfl .nil) (law_sp (g := ⟨K, mg⟩) h hl hS)
  refine codeAny_mono go fun r s' q => ?_
  match r, q with
  | .error e, q =>
    obtain ⟨_, _, _, _, _, _, _, _, _, _, _, _, _, z⟩ := q
  | .ok .next, q => exact q.elim
  | .ok .brk, q => exact q.elim
  | .ok .cont, q => exact q.elim
  | .ok (.ret u), q =>
    obtain ⟨v, H', os, bare, un, ok', rv, ev⟩ := q
    have ev : v = .bl true := ev
    subst ev
    have eu : u = Value.bool true := rv
    subst eu
    refine ⟨rfl, PySem.OldK.of_keep fun b o e => ?_, os, bare⟩
    by_cases hb : H b = none
    · exact un.keep b o e hb (none_in b) (by simp)
    · rcases hO b with z | ⟨ob, xs, z⟩
      · exact absurd z hb
      · have e1 : s₁.heap.get? b = some ob := (hok b _ z).1
        have e2 : s'.heap.get? b = some ob := (ok' b _ (un.frzs b ob _ z)).1
        rw [e] at e1
        rw [e2, e1]
end
end DL
namespace DL
open PySem PySem.Spec L2

/-- one object is tracked, known -/
def oneH (a : Addr) (o : Obj) (u : HO) : Hp := fun b => bif b == a then some u else none
theorem oneH_at {a : Addr} {o : Obj} {u : HO} : oneH a o u a = some u := by show (bif a == a then _ else _) = _; rw [beq_self_eq_true]; rfl
theorem oneH_ne {a b : Addr} {o : Obj} {u : HO} (h : b ≠ a) : oneH a o u b = none := by show (bif b == a then _ else _) = _; rw [beq_false_of_ne h]; rfl

section
variable {P : Program} {w : World} {K : PySem.W.Frag} {mg mb : Str → Option Value} {k : Nat} {fa a : Addr} {fd : FuncData} {x : Str} {fm : FM} {s₁ : Shared} {vs : List Value} {ns : List Int} {n : Nat}

theorem mod_of {H : Hp} {h : Heap} (hid : ∀ b o, h.get? b = some o → (∀ its m, o.data ≠ .seq its m) → H b = none) (KX : ∀ b o, K.lookup b = some o → h.get? b = some o ∧ H b = none)
    (hns : h.Ns mainGlobals mg) (hb : h.Ns builtinsNs mb) (hbb : ∀ x : Str, x ≠ "__name__" → mb x = bootBuiltins x) (hlim : h.NoLimit) : Mod K mg (hidT h H) := by
  have cv : ∀ {b : Addr} {m : Str → Option Value}, h.Ns b m → (hidT h H).Ns b m := by
    intro b m q
    obtain ⟨o, es, ep, e, d, r⟩ := q
    exact ⟨o, es, ep, hidT_get e (hid b o e fun its j z => by rw [d] at z; cases z), d, r⟩
  refine { kin := fun b o e => ?_, glob := cv hns, blt := ⟨mb, cv hb, hbb⟩, nolimit := ?_ }
  · exact hidT_get (KX b o e).1 (KX b o e).2
  · obtain ⟨mc, p, q⟩ := hlim
    exact ⟨mc, cv p, q⟩

theorem end_call (KX : K.In s₁.heap) (hns : s₁.heap.Ns mainGlobals mg) (hb : s₁.heap.Ns builtinsNs mb) (hbb : ∀ x : Str, x ≠ "__name__" → mb x = bootBuiltins x) (hlim : s₁.heap.NoLimit) (hg : s₁.gens = #[])
    (ha : s₁.heap.get? a = some { cls := .type "list", data := .seq vs.toArray }) (hi : PyProof.Rows.IntsAre vs ns) (hl : ns.length ≤ n) (hn : n ≤ sizeLine) (hr : Room k callerA)
    (F : ∀ base : Heap, K.In base → base.Ns mainGlobals mg → FnG P w K mg base k fa fd [x] fm) (hbd : ∀ (s : Shared) (u : Value), BindsTo s fd ⟨[u], []⟩ [(x, u)]) (h : Holds fm n) :
    codeAny (model P w) callerA (.call (.ref fa) ⟨[.ref a], []⟩) (fun r s' => r = .ok (.ret (.bool true)) ∧ PySem.OldK s₁.heap s'.heap ∧ s'.os = s₁.os ∧ PyProof.Rows.AllBare s'.gens) s₁ := by
  have hv := vals_ints hi
  have hsz : (ns.map V.int).length ≤ sizeLine := by rw [List.length_map]; exact Nat.le_trans hl hn
  have hvz : vs.toArray.size ≤ sizeLine := by rw [List.size_toArray, hi.length]; exact Nat.le_trans hl hn
  by_cases hk : K.lookup a = none
  · have hM := mod_of (H := oneH a { cls := .type "list", data := .seq vs.toArray } (.frz { cls := .type "list", data := .seq vs.toArray } (.lst (ns.map V.int)))) (h := s₁.heap) (K := K) (mg := mg)
      (fun b o e hd => by
        by_cases z : b = a
        · rw [z, ha] at e; cases e; exact absurd rfl (hd _ _)
        · exact oneH_ne z)
      (fun b o e => ⟨KX b o e, oneH_ne fun z => by rw [z, hk] at e; cases e⟩) hns hb hbb hlim
    refine end_at (F _ hM.kin hM.glob) hbd hr h hl (fun b => ?_) (.inl (.inr ⟨_, oneH_at⟩)) hM (fun b u e => ?_) hg
    · by_cases z : b = a
      · rw [z]; exact .inr ⟨_, _, oneH_at⟩
      · exact .inl (oneH_ne z)
    · by_cases z : b = a
      · rw [z, oneH_at] at e
        cases e
        rw [z]
        exact ⟨ha, hsz, vs, _, hv, ha⟩
      · rw [oneH_ne z] at e; cases e
  · obtain ⟨o, e⟩ := Option.ne_none_iff_exists'.mp hk
    have e2 := KX a o e
    rw [ha] at e2
    cases e2
    have hM := mod_of (H := fun _ => none) (h := s₁.heap) (K := K) (mg := mg) (fun _ _ _ _ => rfl) (fun b o q => ⟨KX b o q, rfl⟩) hns hb hbb hlim
    exact end_at (F _ hM.kin hM.glob) hbd hr h hl (fun b => .inl rfl) (.inr ⟨_, _, _, e, rfl, rfl, rfl, hvz, hv⟩) hM (fun b u q => by cases q) hg
end

/-- the goal that k_head leaves -/
theorem walk_g {l : PySem.W.OpenLaw} {n k : Nat} {q : Program} {loose : List Str} {XP : (Str → Option Value) → Heap → Prop} {YP : World → Heap → Prop} {d : DefRec} {K : Params → PySem.W.Frag} {fm : FM} {x : Str}
    (hn : l.most = some n) (hn2 : n ≤ sizeLine) (hdf : d.params.defaults = []) (hr : Room k callerA) (hY : ∀ (w : World) (h : Heap), YP w h → (K w.params).In h)
    (F : ∀ (w : World) (mg : Str → Option Value) (fa : Addr) (h : Heap), (K w.params).In h → h.Ns mainGlobals mg → mg d.name = some (.ref fa) →
      ∃ fd : FuncData, (∀ (s : Shared) (u : Value), BindsTo s fd ⟨[u], []⟩ [(x, u)]) ∧ ∀ base : Heap, (K w.params).In base → base.Ns mainGlobals mg → FnG l.prog w (K w.params) mg base k fa fd [x] fm)
    (h : Holds fm n) : PySem.W.WalkO q loose XP YP l.row.toRowW d [] (fun f vs => PySem.call f vs) := by
  apply Att.attach_call hn hdf
  intro w s₀ s₁ mg mb fa o pm cd doc a vs ns G Y ho hd hcd hmg hobj hints hlen hg
  obtain ⟨fd, hb, go⟩ := F w mg fa _ (hY w _ Y) G.T.g hmg
  exact end_call (hY w _ Y) G.T.g G.T.b G.T.builtins G.T.nolimit hg hobj hints hlen hn2 hr go hb h
end DL
namespace DL
open PySem PySem.Spec L2
open PySem.Froz
open PyProof.Rows (sortedS StrsAre)

/-! ### sets of texts -/
/-- an empty set, as it is made -/
abbrev set0 (w : World) : Obj := { cls := .type "set", dict := none, data := .set #[] 0 (.fresh 0 0 (!w.params.followText "set-order")) }
def keyT (e : Int × Value) : Str := match e.2 with
  | .str k _ => k
  | _ => Str.empty
/-- the set at a holds the texts l -/
structure SetT (P : Program) (w : World) (h : Heap) (a : Addr) (l : List Str) : Prop where
  ex : ∃ D : SD, h.get? a = some (sObj "set" D) ∧ TxOk P w D l ∧ (D.1.toList.map keyT).Perm l ∧ (∀ e ∈ D.1.toList, ∃ k u, e.2 = Value.str k u) ∧ Ris D.2.2.place.toList ∧ (w.params.followText "set-order" = true ∨ D.2.2.led = true)
theorem tail_perm (ep : Nat) (es : Array (Int × Value)) (t : SetTable) (b : Bool) : (tailTx ep es t b).1.toList.Perm es.toList := by
  unfold tailTx
  split
  · exact relayAll_perm _ _ _
  · exact .refl _
theorem tail_ris (ep : Nat) (es : Array (Int × Value)) (t : SetTable) (b : Bool) (r : Ris t.place.toList) : Ris (tailTx ep es t b).2.2.place.toList := by
  unfold tailTx
  split
  · exact relayAll_ris _ _ _
  · exact r
theorem tail_led (ep : Nat) (es : Array (Int × Value)) (t : SetTable) (b : Bool) : (tailTx ep es t b).2.2.led = t.led := by
  unfold tailTx
  split
  · exact relayAll_led _ _ _
  · rfl
theorem addTx_perm (h : Int) (v : Value) (D : SD) : (addTx h v D).1.toList.Perm (D.1.toList ++ [(h, v)]) := by
  have p1 := layNew_perm D.2.2 D.1 h v
  rw [Array.toList_push] at p1
  exact (tail_perm _ _ _ _).trans p1
theorem addTx_ris (h : Int) (v : Value) (D : SD) (r : Ris D.2.2.place.toList) : Ris (addTx h v D).2.2.place.toList := by
  have p1 := layNew_ris D.2.2 D.1 h v r
  refine tail_ris _ _ _ _ ?_
  split
  · exact p1
  · exact p1
theorem addTx_led (h : Int) (v : Value) (D : SD) : (addTx h v D).2.2.led = D.2.2.led := by
  have p1 := layNew_led D.2.2 D.1 h v
  refine (tail_led _ _ _ _).trans ?_
  split
  · exact p1
  · exact p1
section
variable {P : Program} {w : World} {A : Around} {E : Value → Shared → Prop} {s : Shared} {a : Addr} {l : List Str}
theorem SetT.at {h h' : Heap} (R : SetT P w h a l) (k : ∀ o, h.get? a = some o → h'.get? a = some o) : SetT P w h' a l := by
  obtain ⟨D, d0, r⟩ := R
  exact ⟨D, k _ d0, r⟩
theorem setT_new {h : Heap} (g : h.get? a = some (set0 w)) : SetT P w h a [] := by
  refine ⟨(#[], 0, .fresh 0 0 (!w.params.followText "set-order")), g, TxOk.nil rfl, by simp, by simp, List.Pairwise.nil, ?_⟩
  cases hq : w.params.followText "set-order" with
  | true => exact .inl rfl
  | false => exact .inr rfl
theorem setT_old {D : SD} {k : Str} {u : Tok} {Q : Bool → Shared → Prop} (d0 : s.heap.get? a = some (sObj "set" D)) (F : TxOk P w D l) (hk : k ∈ l) (room : l.length < scanBound) (q : Q false s) : wpAny (model P w) A (setAddHashed a (.str k u) (hashStr w k)) Q E s := by
  obtain ⟨es, ep, t⟩ := D
  have d1 : (sObj "set" (es, ep, t)).data = .set es ep t := rfl
  have el : ElemsOf (strKind P w) es.toList := F.el
  have fit : t.fits es.size = true := F.fit
  have sz : es.size = l.length := F.sz
  have key : (strKind P w).is k (.str k u) = true := is_str k u
  obtain ⟨e, he, hq⟩ := (F.mem k).mp hk
  have found : ∃ j, List.findIdx? (fun x => (strKind P w).is k x.2) es.toList = some j := by
    cases hr : List.findIdx? (fun x => (strKind P w).is k x.2) es.toList with
    | some j => exact ⟨j, rfl⟩
    | none =>
      have := List.findIdx?_eq_none_iff.mp hr e he
      rw [hq] at this; cases this
  obtain ⟨j, hj⟩ := found
  unfold setAddHashed setAddHashedIn
  refine wpAny_holding (wpAny_bind (wpAny_setState_of d0 d1 fit ?_))
  dsimp only
  rw [byScan_of (knd := strKind P w) rfl (by omega) el]
  simp only [↓reduceIte]
  unfold setAddByScan
  refine wpAny_bind (wpAny_bind (wpAny_rule (wpAny_bind (wpAny_setScan_of (knd := strKind P w) (k := k) key d0 d1 fit el ?_))))
  rw [hj]
  dsimp only
  exact wpAny_pure (wpAny_pure q)
theorem setT_add {k : Str} {u : Tok} {Q : Bool → Shared → Prop} (R : SetT P w s.heap a l) (room : l.length + 1 < scanBound)
    (q : ∀ h' b, Heap.SameBut a s.heap h' → SetT P w h' a (if k ∈ l then l else k :: l) → Q b { s with heap := h' }) : wpAny (model P w) A (setAddHashed a (.str k u) (hashStr w k)) Q E s := by
  obtain ⟨D, d0, F, pm, vs, rs, ld⟩ := R
  by_cases hk : k ∈ l
  · refine setT_old d0 F hk (by omega) ?_
    have := q s.heap false (Heap.SameBut.refl a s.heap) (by rw [if_pos hk]; exact ⟨D, d0, F, pm, vs, rs, ld⟩)
    exact this
  · refine add_x d0 F hk room (q _ true (Heap.SameBut.update s.heap a _) ?_)
    rw [if_neg hk]
    have ap := addTx_perm (hashStr w k) (.str k u) D
    refine ⟨addTx (hashStr w k) (.str k u) D, get_upd _ d0 rfl, add_ok u F, ?_, fun e he => ?_, addTx_ris _ _ _ rs, ld.imp id fun z => by rw [addTx_led]; exact z⟩
    · have := ap.map keyT
      rw [List.map_append] at this
      exact this.trans ((List.perm_append_comm).trans (pm.cons k))
    · rcases List.mem_append.mp (ap.mem_iff.mp he) with z | z
      · exact vs e z
      · rw [List.mem_singleton] at z
        exact ⟨k, u, by rw [z]⟩
theorem set_loop {I : Addr} {fp wr : List Addr} {G : Array GenState → Array GenState → Prop} {n : Nat} {Pv : Nat → Value → Prop} {St : Nat → Shared → Prop} {R : Result → Shared → Prop}
    (W : WalksS P w A.in1 I fp wr G n Pv St) (S : Addr) (far : S ∉ fp) (xs : List Str) (hn : n = xs.length) (room : xs.length + 1 < scanBound) (val : ∀ i v, Pv i v → ∃ k t, xs[i]? = some k ∧ v = .str k t) :
    ∀ (m i : Nat) (s : Shared) (l : List Str), n - i = m → i ≤ n → St i s → SetT P w s.heap S l → l.Nodup → (∀ k, k ∈ l ↔ k ∈ xs.take i) → l.length ≤ i →
      (∀ s' l', Moved (S :: wr) G s s' → SetT P w s'.heap S l' → l'.Nodup → (∀ k, k ∈ l' ↔ k ∈ xs) → l'.length ≤ xs.length → R (.ok (.ret .none)) s') →
      codeAny (model P w) A (.builtin "set.update.loop" ⟨[.ref S, .ref I], []⟩) R s := by
  have farw : S ∉ wr := fun z => far (W.sub _ z)
  have more : ∀ b ∈ wr, b ∈ S :: wr := fun b z => List.mem_cons_of_mem _ z
  intro m
  induction m with
  | zero =>
    intro i s l em le st T nd mem ll fin
    have ei : i = n := by omega
    subst ei
    refine codeAny_builtin PyProof.Rows.F.entry_set_update_loop ?_
    rw [Around.under_plainId PyProof.Rows.F.plain_set_update_loop _]
    change wpAny _ A.in1 (pyNext (.ref I) >>= _) _ _ s
    refine wpAny_bind (W.done s _ _ st fun s' mv => ?_)
    change wpAny _ A.in1 (ret Value.none) _ _ s'
    rw [List.take_of_length_le (Nat.le_of_eq hn.symm)] at mem
    exact wpAny_pure (fin s' l (mv.mono more) (T.at fun o e => mv.heap S o farw e) nd mem (by omega))
  | succ m ih =>
    intro i s l em le st T nd mem ll fin
    have lt : i < n := by omega
    refine codeAny_builtin PyProof.Rows.F.entry_set_update_loop ?_
    rw [Around.under_plainId PyProof.Rows.F.plain_set_update_loop _]
    change wpAny _ A.in1 (pyNext (.ref I) >>= _) _ _ s
    refine wpAny_bind (W.item i s _ _ lt st fun v s' pv st' mv => ?_)
    obtain ⟨x, t, hx, rfl⟩ := val i v pv
    have T' : SetT P w s'.heap S l := T.at fun o e => mv.heap S o farw e
    change wpAny _ A.in1 (holding [Value.str x t] (setAdd S (.str x t)) >>= _) _ _ s'
    refine wpAny_bind (wpAny_holding ?_)
    unfold setAdd
    refine wpAny_holding (wpAny_bind ((strKind P w).pyHash (k := x) (is_str x t) ?_))
    refine setT_add (s := { s' with toks := s'.toks + 1 }) T' (by omega) fun h' b same T2 => ?_
    refine wpAny_pure ⟨plainId_quiet PyProof.Rows.F.plain_set_update_loop _, ih (i + 1) _ (if x ∈ l then l else x :: l) (by omega) lt (W.frame _ s' _ _ st' (Nat.le_succ _) fun b hb o e => ?_) T2 ?_ (fun k => ?_) ?_ fun s'' l' mv2 T3 n3 m3 z3 => ?_⟩
    · rw [same.2 b (fun z : b = S => far (by rw [← z]; exact hb))]; exact e
    · split
      · exact nd
      · rename_i hx'; exact List.nodup_cons.mpr ⟨hx', nd⟩
    · rw [List.take_add_one, hx, List.mem_append]
      split
      · rename_i hx'
        constructor
        · exact fun z => .inl ((mem k).mp z)
        · rintro (z | z)
          · exact (mem k).mpr z
          · have : k = x := by simpa using z
            rw [this]; exact hx'
      · rw [List.mem_cons]
        constructor
        · rintro (z | z)
          · exact .inr (by simp [z])
          · exact .inl ((mem k).mp z)
        · rintro (z | z)
          · exact .inr ((mem k).mpr z)
          · exact .inl (by simpa using z)
    · split
      · omega
      · simp only [List.length_cons]; omega
    · refine fin s'' l' (Moved.trans W.gtrans ((mv.mono more).then_heap (Nat.le_succ _) fun b o hb e => ?_) mv2) T3 n3 m3 z3
      rw [same.2 b (fun z : b = S => hb (by rw [z]; exact List.mem_cons_self))]; exact e
end
end DL
namespace DL
open PySem PySem.Spec L2
open PySem.Froz
open PyProof.Rows (sortedS StrsAre)
section
variable {P : Program} {w : World} {A : Around} {E : Value → Shared → Prop} {s : Shared}
theorem strs_at : ∀ {us : List Value} {xs : List Str}, StrsAre us xs → ∀ (i : Nat) (v : Value), us[i]? = some v → ∃ k t, xs[i]? = some k ∧ v = .str k t
  | _, _, .nil, i, v, h => by simp at h
  | _, _, .cons x t r, 0, v, h => ⟨x, t, by simp, by simpa using h.symm⟩
  | _, _, .cons x t r, i + 1, v, h => by
    obtain ⟨k, u, e1, e2⟩ := strs_at r i v (by simpa using h)
    exact ⟨k, u, by simpa using e1, e2⟩
/-- what the making leaves -/
def Made (P : Program) (w : World) (s : Shared) (xs : List Str) (s' : Shared) : Prop :=
  ∃ h' tk l, s' = { s with heap := h', toks := tk } ∧ SetT P w h' s.heap.objs.size l ∧ l.Nodup ∧ (∀ k, k ∈ l ↔ k ∈ xs) ∧ l.length ≤ xs.length ∧ ∀ b o, s.heap.get? b = some o → h'.get? b = some o
theorem set_list {l : Addr} {items : Array Value} (xs : List Str) {Q : Value → Shared → Prop} (calm : A.handled = none) (hl : s.heap.IsList l items) (hx : StrsAre items.toList xs) (room : xs.length + 1 < scanBound)
    (q : ∀ s', Made P w s xs s' → Q (.ref s.heap.objs.size) s') : wpAny (model P w) A (call (.type "set") [.ref l]) Q E s := by
  have len : items.size = xs.length := by
    have := (vals_strsD hx).length
    rw [List.length_map, Array.length_toList] at this
    exact this.symm
  obtain ⟨c0, t0, m0⟩ := PySem.F.called_set.mro
  have c1 := PySem.F.called_set.made
  have c2 := PySem.F.called_set.sub
  refine wpAny_call (codeAny_of_tree ?_)
  change wpAny _ _ (callAny (.type "set") _) _ _ _
  refine wpAny_pure ⟨Code.quiet_builtin _ (by decide +kernel), codeAny_builtin PySem.F.entry_type_call ?_⟩
  rw [Around.under_plain (weight_type_call_type "set" [.ref l] []) rfl]
  have c3 := PySem.F.called_set.notType
  have c4 := PySem.F.called_set.canCreate
  have c5 := PySem.F.typeCall_set_1 (.ref l)
  repeat (any_goals (first | assumption | wp_step))
  refine codeAny_mono (code_set_led1 (.ref l) (E := E) (Q₁ := fun ob z => ob = .ref s.heap.objs.size ∧ z = { s with heap := s.heap.push (set0 w) }) ⟨rfl, rfl⟩) fun r z hr => ?_
  match r, hr with
  | .error e, hr => exact hr
  | .ok .next, hr => exact hr.elim
  | .ok .brk, hr => exact hr.elim
  | .ok .cont, hr => exact hr.elim
  | .ok (.ret ob), hr =>
    obtain ⟨rfl, rfl⟩ := hr
    have mk : (s.heap.push (set0 w)).get? s.heap.objs.size = some (set0 w) := Heap.get?_push_size _ rfl
    have ty : Shared.TypeIs { s with heap := s.heap.push (set0 w) } (.ref s.heap.objs.size) "set" := ⟨_, mk, rfl⟩
    have c6 := PySem.F.called_set.init.lookup
    have c7 := PySem.F.called_set.init.bind (.ref s.heap.objs.size)
    repeat (any_goals (first | assumption | wp_step))
    refine codeAny_mono (codeAny_call_builtin (R := wants (fun r z => r = .none ∧ Made P w s xs z) E) PySem.F.called_set.init.plain PySem.F.entry_set_init (check_set_init_1 ty ?_)) fun r2 z2 hr2 => ?_
    · obtain ⟨⟨ocl, odi, oda, osl⟩, ol, oc, on, od⟩ := hl
      simp only at oc od
      subst oc
      subst od
      have ol2 := Heap.get?_push_of_some (set0 w) ol
      have b1 := PySem.F.sub_list_set
      have b2 := PySem.F.sub_list_frozenset
      have b3 : (Value.type "list" == Value.type "dict") = false := by decide
      have hl2 : (s.heap.push (set0 w)).IsList l items := ⟨_, ol2, rfl, on, rfl⟩
      unfold Builtin.«set.__init__» noKeywords Builtin.Frozenset.updateFrom
      generalize hpi : pyIter = PI
      wp_walk
      subst hpi
      refine wpAny_pyIter_list hl2 (wpAny_bind (wpAny_runValue ?_))
      have lS : l < s.heap.objs.size := Heap.lt_size ol
      have calm3 : A.in1.in1.in1.handled = none := by simp [calm]
      have apart : l ≠ (s.heap.push (set0 w)).objs.size := by rw [Heap.size_push]; exact Nat.ne_of_lt (Nat.lt_succ_of_lt lS)
      have far : s.heap.objs.size ∉ [(s.heap.push (set0 w)).objs.size, l] := by
        rw [Heap.size_push]
        intro z
        rcases List.mem_cons.mp z with z | z
        · exact absurd z (Nat.ne_of_lt (Nat.lt_succ_self _))
        · exact absurd (List.mem_singleton.mp z) (Nat.ne_of_gt lS)
      have val : ∀ (i : Nat) (v : Value), items[i]? = some v → ∃ k t, xs[i]? = some k ∧ v = .str k t := fun i v hv => strs_at hx i v (by rw [Array.getElem?_toList]; exact hv)
      have mk2 := Heap.get?_push_of_some { cls := .type "list_iterator", data := .fields #[.ref l, .int 0 0] } mk
      refine set_loop ((Walks.list calm3 _ l apart items).toS) s.heap.objs.size far xs len room val (items.size - 0) 0 _ [] (by omega) (Nat.zero_le _)
        ⟨⟨_, Heap.get?_push_size _ rfl, rfl, rfl⟩, (hl2.push _)⟩ (setT_new mk2) List.nodup_nil (fun k => by simp) (Nat.le_refl _) fun s' l' mv T nd mem zl => ?_
      obtain ⟨h', g', d', tk', os'⟩ := s'
      have e1 : g' = s.gens := mv.gens
      have e2 : d' = s.drawn := mv.drawn
      have e3 : os' = s.os := mv.os
      subst e1
      subst e2
      subst e3
      refine wpAny_pure ?_
      change wpAny _ _ (ret Value.none) _ _ _
      refine wpAny_pure ⟨rfl, h', tk', l', rfl, T, nd, mem, zl, fun b o e => ?_⟩
      have b0 := Heap.lt_size e
      refine mv.heap b o (fun z => ?_) (Heap.get?_push_of_some _ (Heap.get?_push_of_some _ e))
      rcases List.mem_cons.mp z with z | z
      · exact absurd z (Nat.ne_of_lt b0)
      · have y := List.mem_singleton.mp z
        rw [Heap.size_push] at y
        exact absurd y (Nat.ne_of_lt (Nat.lt_succ_of_lt b0))
    · match r2, hr2 with
      | .error e, hr2 => exact hr2
      | .ok .next, hr2 => exact hr2.elim
      | .ok .brk, hr2 => exact hr2.elim
      | .ok .cont, hr2 => exact hr2.elim
      | .ok (.ret v), hr2 =>
        obtain ⟨rfl, hm⟩ := hr2
        repeat (any_goals (first | assumption | wp_step))
        exact q _ hm
/-- sorted(s) of a set of texts -/
theorem sorted_setT {a : Addr} {l : List Str} {Q : Value → Shared → Prop} (R : SetT P w s.heap a l) (calm : A.handled = none) (fits : l.length ≤ sizeLine) (room : l.length < scanBound)
    (q : ∀ s' p (out : Array Value) (c : Nat) (zs : List Str), (∀ b o, s.heap.get? b = some o → s'.heap.get? b = some o) → s'.gens = s.gens → s'.os = s.os → s.heap.objs.size ≤ p → s'.heap.get? p = some (PyProof.Rows.seqObj "list" out c) → StrsAre out.toList zs → zs.Perm l → sortedS zs = true → Q (.ref p) s') :
    wpAny (model P w) A (call (.builtin "sorted") [.ref a]) Q E s := by
  obtain ⟨⟨es, ep, t⟩, d0, ok, pm, vs, rs, ld⟩ := R
  have sz : es.size = l.length := ok.sz
  refine Calls.call_function_entry PyProof.Rows.kind_sorted PyProof.Rows.plain_sorted PyProof.Rows.entry_sorted (PyProof.Rows.args_sorted1 _) ?_
  unfold Builtin.«sorted»
  refine wpAny_bind (m := checkCount "sorted" 1 1 _) (wpAny_pure (wpAny_bind (collect_set (A := A.in1) calm ⟨_, d0, rfl, rfl⟩ ok.fit (by show es.size < scanBound; omega) rs ld fun s1 us k1 z1 g1 o1 p1 => ?_)))
  have all : ∀ (us : List Value), (∀ v ∈ us, ∃ k u, v = Value.str k u) → ∃ ss, StrsAre us ss ∧ ss = us.map fun v => match v with
      | .str k _ => k
      | _ => Str.empty := fun us => by
    induction us with
    | nil => exact fun _ => ⟨[], .nil, rfl⟩
    | cons v us ih =>
      intro hv
      obtain ⟨k, u, e⟩ := hv v (by simp)
      obtain ⟨ss, h1, h2⟩ := ih fun x hx => hv x (List.mem_cons_of_mem _ hx)
      exact ⟨k :: ss, by rw [e]; exact .cons k u h1, by rw [h2, e]; rfl⟩
  obtain ⟨ss, h1, h2⟩ := all us fun v hv => by
    obtain ⟨e, he, hq⟩ := List.mem_map.mp (p1.mem_iff.mp hv)
    obtain ⟨k, u, z⟩ := vs e he
    exact ⟨k, u, by rw [← hq]; exact z⟩
  have pl : ss.Perm l := by
    rw [h2]
    refine (p1.map _).trans ?_
    rw [List.map_map]
    exact pm
  have ul : us.length = l.length := by rw [p1.length_eq, List.length_map, Array.length_toList]; exact sz
  refine wpAny_bind (wpAny_newList ?_ (by rw [ul]; exact fits))
  have at1 : (s1.heap.push (PyProof.Rows.seqObj "list" us.toArray 0)).get? s1.heap.objs.size = some (PyProof.Rows.seqObj "list" us.toArray 0) := Heap.get?_push_size _ rfl
  refine wpAny_bind (wpAny_holding (wpAny_call_entry PyProof.Rows.slot_list_sort ⟨_, at1, rfl⟩ PyProof.Rows.entry_list_sort (PyProof.Rows.list_sort_treeKAny PyProof.Rows.strKind_oneLt at1 h1.keysOf (fun v₁ v₂ rest e => PyProof.Rows.keyKind_strs (e ▸ h1)) (by rw [ul]; exact fits) fun st p3 p4 => ⟨_, rfl, ?_⟩) (PyProof.Rows.args_list_sort _)))
  obtain ⟨zs, y1, y2, y3⟩ := PyProof.Rows.sorted_out_str h1 p3 p4
  obtain ⟨c, hc⟩ := PyProof.Rows.sortedHeap_at (vs := us) (out := (PyProof.Rows.arrOf st).map (·.2)) at1
  refine wpAny_pure ⟨_, rfl, q _ s1.heap.objs.size _ c zs (fun b u e => ?_) g1 o1 z1 hc y1 (y2.trans pl) y3⟩
  have e1 := k1 b u e
  have lt := Heap.lt_size e1
  change (PyProof.Rows.sortedHeap _ s1.heap.objs.size us _).get? b = some u
  rw [PyProof.Rows.sortedHeap_old (Nat.ne_of_lt lt) (by rw [Heap.size_push]; exact Nat.lt_succ_of_lt lt)]
  exact Heap.get?_push_of_some _ e1
end
end DL
namespace DL
open PySem PySem.Spec L2
open PyProof.Rows (sortedS StrsAre)
variable {g : G} {W : WX}
/-! ### set(x), sorted(set(x)) -/
def SetTO (P : Program) (w : World) (a : Addr) (l : List Str) : HO := .ext fun h => SetT P w h a l
theorem setTO_ok {P : Program} {w : World} {H : Hp} {h : Heap} {a : Addr} {l : List Str} (T : SetT P w h a l) : ObjOk P w H h a (SetTO P w a l) :=
  ⟨T, let ⟨D, d0, _⟩ := T.ex; ⟨_, d0⟩, fun _ _ T1 k => T1.at k⟩
theorem setTO_at {X : Cx} {pins : List (Addr × Obj)} {σ : St} {H : Hp} {s : Shared} {a : Addr} {l : List Str} (I : Inv X pins σ H s) (h : H a = some (SetTO X.prog X.w a l)) : SetT X.prog X.w s.heap a l := (I.hok a _ h).1
def rSetT (X : Cx) : List V → Hp → VK → Prop := fun vs H Q => ∃ (p : Addr) (xs : List Str), vs = [.ref p] ∧ SqL X.K H p (xs.map V.str) ∧ xs.length < 4000 ∧ ∀ (a : Addr) (l : List Str), H a = none → l.Nodup → (∀ k, k ∈ l ↔ k ∈ xs) → l.length ≤ xs.length → Q (.ref a) (upd H a (SetTO X.prog X.w a l))
theorem call_setT {X : Cx} (hc : X.calm = true) : CallR X (.type "set") (rSetT X) := by
  intro pins s σ H vs us Q I r h
  obtain ⟨p, xs, rfl, hs, small, q⟩ := h
  rw [Vals.ref1 r]
  obtain ⟨its, rv, hl, hz⟩ := I.list hs
  refine set_list xs (I.ok.hd hc) hl.isList (strs_valsD rv) (by unfold scanBound; omega) fun s' hm => ?_
  obtain ⟨h', tk, l, rfl, T, nd, mem, ll, kp⟩ := hm
  exact ⟨.ref _, _, I.laid (t' := tk) kp (Nat.le_refl _) (setTO_ok T), rfl, q _ l (I.hok.fresh (Nat.le_refl _)) nd mem ll⟩
def rSortT (X : Cx) : List V → Hp → VK → Prop := fun vs H Q => ∃ (a : Addr) (l : List Str), vs = [.ref a] ∧ H a = some (SetTO X.prog X.w a l) ∧ l.length < 4000 ∧ ∀ (ys : List Str) (p : Addr), ys.Perm l → sortedS ys = true → H p = none → Q (.ref p) (upd H p (.lst (ys.map V.str)))
theorem call_sortT {X : Cx} (hc : X.calm = true) : CallR X (.builtin "sorted") (rSortT X) := by
  intro pins s σ H vs us Q I r h
  obtain ⟨a, l, rfl, ha, small, q⟩ := h
  have T := setTO_at I ha
  rw [Vals.ref1 r]
  refine sorted_setT T (I.ok.hd hc) (by rw [lineM_eq]; unfold lineM; omega) (by unfold scanBound; omega) fun s' p out c zs kp g1 o1 hp at1 st pm so => ?_
  have fresh : H p = none := I.hok.fresh hp
  have fits : (zs.map V.str).length ≤ sizeLine := by rw [List.length_map, pm.length_eq, lineM_eq]; unfold lineM; omega
  exact ⟨.ref p, upd H p (.lst (zs.map V.str)), I.call' (ch := []) o1 (Un.laid kp hp fresh) (I.hok.laid kp hp ⟨fits, out.toList, c, vals_strsD st, at1⟩) (by rw [g1]; exact I.bare) (fun _ z => nomatch z), rfl, q zs p pm so fresh⟩
def dedS : List Str → List Str
  | [] => []
  | x :: r => if x ∈ dedS r then dedS r else x :: dedS r
theorem dedS_mem {k : Str} : ∀ {l : List Str}, k ∈ dedS l ↔ k ∈ l
  | [] => Iff.rfl
  | x :: r => by
    have ih := dedS_mem (k := k) (l := r)
    unfold dedS
    split
    · rename_i h
      rw [ih, List.mem_cons]
      exact ⟨.inr, fun z => z.elim (fun e => by rw [e]; exact dedS_mem.mp h) id⟩
    · rw [List.mem_cons, List.mem_cons, ih]
theorem dedS_nodup : ∀ l : List Str, (dedS l).Nodup
  | [] => List.nodup_nil
  | x :: r => by
    unfold dedS
    split
    · exact dedS_nodup r
    · rename_i h
      exact List.nodup_cons.mpr ⟨h, dedS_nodup r⟩
def dSortSet : List D → Option Rv
  | [.list ds] => match asStrs ds with
    | some ss => if ss.length < 4000 then some (.new (.list ((sortS (dedS ss)).map .str))) else none
    | none => none
  | _ => none
def rSortSet (X : Cx) : List V → Hp → VK → Prop := fun vs H Q => rSetT X vs H fun y H2 => rSortT X [y] H2 Q
theorem good_sortSet {X : Cx} : GoodC ⟨X.K, X.mg⟩ (rSortSet X) dSortSet := by
  refine ⟨fun F H vs ds Q s h p => ?_, fun ds => ?_⟩
  · unfold dSortSet at p
    split at p
    · rename_i es
      obtain ⟨v, rfl, hv⟩ := h.one
      obtain ⟨a, xs, e1, e2, e3⟩ := hv.lst s
      cases q : asStrs es with
      | none => simp only [q] at p; exact p.elim
      | some ss =>
        simp only [q] at p
        by_cases small : ss.length < 4000
        · rw [if_pos small] at p
          obtain ⟨w, ok⟩ := e3.strs q
          subst w
          refine ⟨a, ss, by rw [e1], .inl (.inl e2), small, fun b l fresh nd mem ll => ⟨b, l, rfl, upd_same, by omega, fun ys c pm so fresh2 => ?_⟩⟩
          have nc : H c = none := by
            by_cases e : c = b
            · rw [e]; exact fresh
            · rw [upd_ne e] at fresh2; exact fresh2
          have cb : c ≠ b := fun e => by rw [e, upd_same] at fresh2; cases fresh2
          have pl : ys.Perm (dedS ss) := pm.trans ((List.perm_ext_iff_of_nodup nd (dedS_nodup ss)).mpr fun k => (mem k).trans dedS_mem.symm)
          rw [sortS_of pl so]
          refine p _ c nc ⟨.refl, (upd_sub fresh).trans (upd_sub fresh2), fun _ h h' => absurd h h', s.trans ((upd_sub fresh).trans (upd_sub fresh2))⟩ (.lst upd_same (denL_strs fun x hx => ok x (dedS_mem.mp ((sortS_perm _).mem_iff.mp hx))))
        · rw [if_neg small] at p; exact p.elim
    · exact p.elim
  · unfold dSortSet
    split
    · split
      · split <;> first | exact NoSl.new | exact NoSl.none
      · exact NoSl.none
    · exact NoSl.none
section
variable {X : Cx} {p pos p2 pos2 : Pos} {e : Expr} {f : ME}
theorem de_sortSet (hc : X.calm = true) (hs : X.mg "sorted" = none) (hm : X.mg "set" = none) (ha : DE X W e f) (hg : Gl X "sorted" := by rfl) (hg2 : Gl X "set" := by rfl) (he : starEach [e] X.env = (false, eval e X.env) :: starEach [] X.env := by rfl)
    (he2 : starEach [Expr.Call (.Name "set" p2) [e] [] pos2] X.env = (false, eval (.Call (.Name "set" p2) [e] [] pos2) X.env) :: starEach [] X.env := by rfl) (hpl : (backTo pos (starEach [] X.env)).any (·.1) = false := by rfl) (hpl2 : (backTo pos2 (starEach [] X.env)).any (·.1) = false := by rfl) :
    DE X W (.Call (.Name "sorted" p) [.Call (.Name "set" p2) [e] [] pos2] [] pos) (mCallB dSortSet [f]) := by
  obtain ⟨t, pt, gt⟩ := ha
  have inner : PE X (.Call (.Name "set" p2) [e] [] pos2) (tCB (rSetT X) (tCons t tNil)) := pe_callTy (call_setT hc) hg2 hm (by decide +kernel) (pa_cons pt pa_nil he) (by decide) (by decide) he hpl2
  have outer := pe_callB (p := p) (call_sortT hc) hg hs (by decide +kernel) (pa_cons inner pa_nil he2) (by decide) (by decide) he2 hpl
  exact ⟨_, outer, good_callB (r := rSortSet X) (.cons gt .nil) good_sortSet⟩
end
/-! ### list(range(..)) -/
def rgD (a b : Int) : List D := (List.range (b - a).toNat).map fun i => PyData.int (a + (i : Nat))
def dListRg : D → Option Rv
  | .int n => if n ≤ 16777216 ∧ -4611686018427387904 ≤ n then some (.new (.list (rgD 0 n))) else none
  | _ => none
theorem rg_den {F : Hp} (a b : Int) : DenL g F (rgV a b) (rgD a b) := by
  unfold rgV rgD
  generalize List.range (b - a).toNat = l
  induction l with
  | nil => exact .nil
  | cons i l ih => exact .cons (.int _) ih
def rListRg : V → Hp → VK → Prop := fun x H Q => ∃ n, x = .int n ∧ RgOk 0 n ∧ ∀ q, H q = none → Q (.ref q) (upd H q (.lst (rgV 0 n)))
theorem good_listRg : Good1 g rListRg dListRg := by
  refine ⟨fun F H x d Q s hx p => ?_, fun d => ?_⟩
  · unfold dListRg at p
    split at p
    · rename_i n
      by_cases h : n ≤ 16777216 ∧ -4611686018427387904 ≤ n
      · rw [if_pos h] at p
        exact ⟨n, hx.int, ⟨by omega, by omega, by omega, by omega, by omega⟩, fun q hn => Post0.newL s p hn (rg_den 0 n)⟩
      · rw [if_neg h] at p; exact p.elim
    · exact p.elim
  · unfold dListRg
    split
    · split <;> first | exact NoSl.new | exact NoSl.none
    · exact NoSl.none
section
variable {X : Cx} {p pos p2 pos2 : Pos} {e : Expr} {f : ME}
theorem de_listRg (hc : X.calm = true) (hs : X.mg "list" = none) (hm : X.mg "range" = none) (ha : DE X W e f) (hg : Gl X "list" := by rfl) (hg2 : Gl X "range" := by rfl) (he : starEach [e] X.env = (false, eval e X.env) :: starEach [] X.env := by rfl)
    (he2 : starEach [Expr.Call (.Name "range" p2) [e] [] pos2] X.env = (false, eval (.Call (.Name "range" p2) [e] [] pos2) X.env) :: starEach [] X.env := by rfl) :
    DE X W (.Call (.Name "list" p) [.Call (.Name "range" p2) [e] [] pos2] [] pos) (mUn dListRg f) := by
  obtain ⟨t, pt, gt⟩ := ha
  exact ⟨_, pe_listRg hc hg hs (prg_1 hg2 hm pt he) he2, good_un (r := rListRg) gt good_listRg⟩
end
/-! ### max(xs), min(xs) of whole numbers -/
def maxI (n : Int) : List Int → Int
  | [] => n
  | m :: r => if (maxI m r) > n then maxI m r else n
def minI (n : Int) : List Int → Int
  | [] => n
  | m :: r => if (minI m r) < n then minI m r else n
theorem maxI_mem : ∀ (n : Int) (r : List Int), maxI n r ∈ n :: r
  | n, [] => by simp [maxI]
  | n, m :: r => by
    have ih := maxI_mem m r
    unfold maxI
    split
    · exact List.mem_cons_of_mem _ ih
    · exact List.mem_cons_self
theorem maxI_le : ∀ (n : Int) (r : List Int), ∀ y ∈ n :: r, y ≤ maxI n r
  | n, [], y, h => by simp [maxI] at *; omega
  | n, m :: r, y, h => by
    have ih := maxI_le m r
    unfold maxI
    rcases List.mem_cons.mp h with e | h
    · split <;> omega
    · have := ih y h
      split <;> omega
theorem minI_mem : ∀ (n : Int) (r : List Int), minI n r ∈ n :: r
  | n, [] => by simp [minI]
  | n, m :: r => by
    have ih := minI_mem m r
    unfold minI
    split
    · exact List.mem_cons_of_mem _ ih
    · exact List.mem_cons_self
theorem minI_le : ∀ (n : Int) (r : List Int), ∀ y ∈ n :: r, minI n r ≤ y
  | n, [], y, h => by simp [minI] at *; omega
  | n, m :: r, y, h => by
    have ih := minI_le m r
    unfold minI
    rcases List.mem_cons.mp h with e | h
    · split <;> omega
    · have := ih y h
      split <;> omega
def dMaxL : List D → Option Rv
  | [.list ds] => match asInts ds with
    | some (n :: r) => some (.val (.int (maxI n r)))
    | _ => none
  | _ => none
def dMinL : List D → Option Rv
  | [.list ds] => match asInts ds with
    | some (n :: r) => some (.val (.int (minI n r)))
    | _ => none
  | _ => none
theorem good_maxL : GoodC g (rMax g.K) dMaxL := by
  refine ⟨fun F H vs ds Q s h p => ?_, fun ds => ?_⟩
  · unfold dMaxL at p
    split at p
    · obtain ⟨v, rfl, hv⟩ := h.one
      obtain ⟨a, xs, e1, e2, e3⟩ := hv.lst s
      split at p
      · rename_i n r q
        have := e3.ints q
        subst this
        refine ⟨a, n :: r, by rw [e1], .inl (.inl e2), by simp, fun m h1 h2 => ?_⟩
        have e : m = maxI n r := Int.le_antisymm (maxI_le n r m h1) (h2 _ (maxI_mem n r))
        rw [e]
        exact p.val0 s (.int _)
      · exact p.elim
    · exact p.elim
  · unfold dMaxL
    split
    · split <;> first | exact NoSl.val | exact NoSl.none
    · exact NoSl.none
theorem good_minL : GoodC g (rMin g.K) dMinL := by
  refine ⟨fun F H vs ds Q s h p => ?_, fun ds => ?_⟩
  · unfold dMinL at p
    split at p
    · obtain ⟨v, rfl, hv⟩ := h.one
      obtain ⟨a, xs, e1, e2, e3⟩ := hv.lst s
      split at p
      · rename_i n r q
        have := e3.ints q
        subst this
        refine ⟨a, n :: r, by rw [e1], .inl (.inl e2), by simp, fun m h1 h2 => ?_⟩
        have e : m = minI n r := Int.le_antisymm (h2 _ (minI_mem n r)) (minI_le n r m h1)
        rw [e]
        exact p.val0 s (.int _)
      · exact p.elim
    · exact p.elim
  · unfold dMinL
    split
    · split <;> first | exact NoSl.val | exact NoSl.none
    · exact NoSl.none
section
variable {X : Cx} {p pos : Pos} {e : Expr} {f : ME}
theorem de_maxL (hc : X.calm = true) (hm : X.mg "max" = none) (ha : DA X W [e] [f]) (hg : Gl X "max" := by rfl) (he : starEach [e] X.env = (false, eval e X.env) :: starEach [] X.env := by rfl) (hpl : (backTo pos (starEach [] X.env)).any (·.1) = false := by rfl) : DE X W (.Call (.Name "max" p) [e] [] pos) (mCallB dMaxL [f]) :=
  de_callB (cr_max hc) good_maxL hg hm (by decide +kernel) ha (by decide) (by decide) he hpl
theorem de_minL (hc : X.calm = true) (hm : X.mg "min" = none) (ha : DA X W [e] [f]) (hg : Gl X "min" := by rfl) (he : starEach [e] X.env = (false, eval e X.env) :: starEach [] X.env := by rfl) (hpl : (backTo pos (starEach [] X.env)).any (·.1) = false := by rfl) : DE X W (.Call (.Name "min" p) [e] [] pos) (mCallB dMinL [f]) :=
  de_callB (cr_min hc) good_minL hg hm (by decide +kernel) ha (by decide) (by decide) he hpl
end
end DL
namespace DL
open PySem PySem.Spec L2
variable {g : G} {W : WX}
/-! ### x[i] += e of an own list of whole numbers -/
def rGetN : V → V → Hp → VK → Prop := fun o i H Q => ∃ p xs k v, o = .ref p ∧ i = .int k ∧ H p = some (.lst xs) ∧ 0 ≤ k ∧ k < 2 ^ 62 ∧ xs[k.toNat]? = some v ∧ Q v H
theorem get_lstN {X : Cx} : PGet X rGetN := by
  intro pins s σ H o i ov iv Q I ro ri h
  obtain ⟨p, xs, k, v, rfl, rfl, hp, k0, k1, hv, q⟩ := h
  cases ro
  obtain ⟨t, rfl⟩ := ri
  obtain ⟨its, n, r, at1, fits⟩ := I.lst hp
  obtain ⟨w, ew, rw'⟩ := r.get hv
  exact wpAny_getItem_list (items := its.toArray) ⟨_, at1, rfl, n, rfl⟩ k0 (by omega) (by simpa using ew) ⟨v, H, I, rw', q⟩
def augN (op : Int → Int → Int) (j : Nat) (i : Nat) (old new : D) (env : Env) : Res (Fl × Env) := match old, new, ownL env j with
  | .int a, .int b, some (k, ds) => if i < ds.length then .ok (.nx, env.set j (.ow k (.list (ds.set i (.int (op a b)))))) else .stuck
  | _, _, _ => .stuck
def mAugIx (op : Int → Int → Int) (j : Nat) (fi f : ME) : MS := fun env => if (ownL env j).isSome = true then fi env >>= fun x => x.1.data x.2 >>= fun di => match di, ownL x.2 j with
    | .int i, some (_, ds) => if 0 ≤ i ∧ i < 2 ^ 62 then (match ds[i.toNat]? with
      | some old => f x.2 >>= fun y => y.1.data y.2 >>= fun dn => augN op j i.toNat old dn y.2
      | none => .stuck) else .stuck
    | _, _ => .stuck
  else .stuck
theorem good_augIx {op : Int → Int → Int} {ti te : TE} {j : Nat} {fi f : ME} (hi : GoodE g W ti fi) (h : GoodE g W te f) : GoodS g W (tAugS (tVar j) ti te rGetN (ipI op) rSetL) (mAugIx op j fi f) := fun F H σ env Dn k p => by
  unfold mAugIx at p
  by_cases hs : (ownL env j).isSome = true
  · rw [if_pos hs] at p
    obtain ⟨⟨kd, ds0⟩, ho⟩ := Option.isSome_iff_exists.mp hs
    obtain ⟨a, xs0, s1, _, _⟩ := k.ownL ho
    refine ⟨_, s1, ?_⟩
    refine hi F H σ env _ k (PostS.bindE p fun r e2 F2 H2 x x2 k2 kp2 rv p2 => ?_)
    have p2 := PostS.after x2 kp2 p2
    rcases data_cases r e2 with ⟨di, q⟩ | q
    · simp only [q, Res.ok_bind] at p2
      have pk := RvOk.pk rv k2 q
      cases ho2 : ownL e2 j with
      | none => cases di <;> simp only [ho2] at p2 <;> exact p2.elim
      | some w =>
        obtain ⟨kd2, ds⟩ := w
        cases di with
        | int i =>
          simp only [ho2] at p2
          by_cases hb : 0 ≤ i ∧ i < 2 ^ 62
          · rw [if_pos hb] at p2
            cases hg : ds[i.toNat]? with
            | none => simp only [hg] at p2; exact p2.elim
            | some old =>
              simp only [hg] at p2
              obtain ⟨b, xs, s2, hH, den⟩ := k2.ownL ho2
              rw [s1] at s2; cases s2
              obtain ⟨vo, v1, v2⟩ := den.get hg
              refine ⟨a, xs, i, vo, rfl, pk.int, hH, hb.1, hb.2, v1, ?_⟩
              refine h F2 H2 σ e2 _ k2 (PostS.bindE p2 fun r3 e3 F3 H3 y x3 k3 kp3 rv3 p3 => ?_)
              have p3 := PostS.after x3 kp3 p3
              rcases data_cases r3 e3 with ⟨dn, q3⟩ | q3
              · simp only [q3, Res.ok_bind] at p3
                have pk3 := RvOk.pk rv3 k3 q3
                unfold augN at p3
                cases old with
                | int oa =>
                  cases dn with
                  | int nb =>
                    cases ho3 : ownL e3 j with
                    | none => simp only [ho3] at p3; exact p3.elim
                    | some w3 =>
                      obtain ⟨kd3, ds3⟩ := w3
                      simp only [ho3] at p3
                      by_cases lt : i.toNat < ds3.length
                      · rw [if_pos lt] at p3
                        obtain ⟨c, ys, s3, hH3, den3⟩ := k3.ownL ho3
                        rw [s1] at s3; cases s3
                        obtain ⟨he, hk⟩ := ownL_ok ho3
                        have eo : vo = .int oa := (Pk.int (F := F2) (H := H2) (g := g) (.inl v2))
                        have dw : OwnAt g F3 (upd H3 a (.lst (ys.set i.toNat (.int (op oa nb))))) a (.list (ds3.set i.toNat (.int (op oa nb)))) := .lst upd_same (DenL.set (.int _) _ den3)
                        obtain ⟨y1, y2, y3⟩ := k3.change he s1 hk dw
                        refine ⟨oa, nb, eo, pk3.int, a, ys, i, i.toNat, rfl, pk.int, hH3, ?_, p3 F3 _ σ y1 y2 y3⟩
                        rw [den3.length]
                        unfold ixN
                        rw [if_pos hb.1, if_pos (by omega)]
                      · rw [if_neg lt] at p3; exact p3.elim
                  | _ => exact p3.elim
                | _ => exact p3.elim
              · simp only [q3, Res.stuck_bind] at p3; exact p3.elim
          · rw [if_neg hb] at p2; exact p2.elim
        | _ => simp only [ho2] at p2; exact p2.elim
    · simp only [q, Res.stuck_bind] at p2; exact p2.elim
  · rw [if_neg hs] at p; exact p.elim
theorem ds_augIx {X : Cx} {j : Nat} {x : Str} {e ix : Expr} {p spos pos : Pos} {f fi : ME} (hi : DE X W ix fi) (he : DE X W e f) (hN : X.N[j]? = some x) (hv : Vis X.env.scope x)
    (ha : ∀ ov iv new, augStore ix ov iv new = (do holding [new, ov, iv] (setItem ov iv new); release [new, ov, iv] []; pure .next) := by intros; rfl) (hd : (x == ("__debug__" : Str)) = false := by decide) (hcd : (x == ("__classdict__" : Str)) = false := by decide) :
    DS X W (.AugAssign (.Subscript (.Name x p) ix spos) .Add e pos) (mAugIx (fun i j => i + j) j fi f) := by
  obtain ⟨t, pt, gt⟩ := hi
  obtain ⟨u, pu, gu⟩ := he
  exact ⟨_, ps_augS (pe_var hN hv hd hcd) pt get_lstN pu ip_add L2.set_list ha, good_augIx gt gu⟩
end DL
namespace DL
open PySem PySem.Spec L2
open PySem.Froz
open PyProof.Rows (sortedS StrsAre)
def signsOf (x : Str) : List Str := x.cps.toList.map sing
section
variable {P : Program} {w : World} {A : Around} {E : Value → Shared → Prop} {s : Shared}
/-- set(x) of a text -/
theorem set_str {x : Str} {u : Tok} {Q : Value → Shared → Prop} (calm : A.handled = none) (room : x.cps.size + 1 < scanBound)
    (q : ∀ s', Made P w s (signsOf x) s' → Q (.ref s.heap.objs.size) s') : wpAny (model P w) A (call (.type "set") [.str x u]) Q E s := by
  have len : x.cps.size = (signsOf x).length := by unfold signsOf; rw [List.length_map, Array.length_toList]
  obtain ⟨c0, t0, m0⟩ := PySem.F.called_set.mro
  have c1 := PySem.F.called_set.made
  have c2 := PySem.F.called_set.sub
  refine wpAny_call (codeAny_of_tree ?_)
  change wpAny _ _ (callAny (.type "set") _) _ _ _
  refine wpAny_pure ⟨Code.quiet_builtin _ (by decide +kernel), codeAny_builtin PySem.F.entry_type_call ?_⟩
  rw [Around.under_plain (weight_type_call_type "set" [.str x u] []) rfl]
  have c3 := PySem.F.called_set.notType
  have c4 := PySem.F.called_set.canCreate
  have c5 := PySem.F.typeCall_set_1 (.str x u)
  repeat (any_goals (first | assumption | wp_step))
  refine codeAny_mono (code_set_led1 (.str x u) (E := E) (Q₁ := fun ob z => ob = .ref s.heap.objs.size ∧ z = { s with heap := s.heap.push (set0 w) }) ⟨rfl, rfl⟩) fun r z hr => ?_
  match r, hr with
  | .error e, hr => exact hr
  | .ok .next, hr => exact hr.elim
  | .ok .brk, hr => exact hr.elim
  | .ok .cont, hr => exact hr.elim
  | .ok (.ret ob), hr =>
    obtain ⟨rfl, rfl⟩ := hr
    have mk : (s.heap.push (set0 w)).get? s.heap.objs.size = some (set0 w) := Heap.get?_push_size _ rfl
    have ty : Shared.TypeIs { s with heap := s.heap.push (set0 w) } (.ref s.heap.objs.size) "set" := ⟨_, mk, rfl⟩
    have c6 := PySem.F.called_set.init.lookup
    have c7 := PySem.F.called_set.init.bind (.ref s.heap.objs.size)
    repeat (any_goals (first | assumption | wp_step))
    refine codeAny_mono (codeAny_call_builtin (R := wants (fun r z => r = .none ∧ Made P w s (signsOf x) z) E) PySem.F.called_set.init.plain PySem.F.entry_set_init (check_set_init_1 ty ?_)) fun r2 z2 hr2 => ?_
    · have b1 := PySem.F.sub_str_set
      have b2 := PySem.F.sub_str_frozenset
      have b3 : (Value.type "str" == Value.type "dict") = false := by decide
      have b4 : (Value.type "str" == Value.type "list") = false := by decide
      have b5 : ∀ z : Shared, z.TypeIs (.str x u) "str" := fun z => typeIs_str z x u
      unfold Builtin.«set.__init__» noKeywords Builtin.Frozenset.updateFrom
      generalize hpi : pyIter = PI
      wp_walk
      subst hpi
      refine wpAny_pyIter_str fun o St W st0 => wpAny_bind (wpAny_runValue ?_)
      have calm3 : A.in1.in1.in1.handled = none := by simp [calm]
      have far : s.heap.objs.size ∉ [(s.heap.push (set0 w)).objs.size] := by
        rw [Heap.size_push]
        exact fun z => absurd (List.mem_singleton.mp z) (Nat.ne_of_lt (Nat.lt_succ_self _))
      have val : ∀ (i : Nat) (v : Value), SignAt x i v → ∃ k t, (signsOf x)[i]? = some k ∧ v = .str k t := fun i v ⟨c, t, h1, h2⟩ => ⟨sing c, t, by unfold signsOf; rw [List.getElem?_map, Array.getElem?_toList, h1]; rfl, h2⟩
      have mk2 := Heap.get?_push_of_some o mk
      refine set_loop ((W _ calm3).toS) s.heap.objs.size far (signsOf x) len (by rw [← len]; exact room) val (x.cps.size - 0) 0 _ [] (by omega) (Nat.zero_le _)
        st0 (setT_new mk2) List.nodup_nil (fun k => by simp) (Nat.le_refl _) fun s' l' mv T nd mem zl => ?_
      obtain ⟨h', g', d', tk', os'⟩ := s'
      have e1 : g' = s.gens := mv.gens
      have e2 : d' = s.drawn := mv.drawn
      have e3 : os' = s.os := mv.os
      subst e1
      subst e2
      subst e3
      refine wpAny_pure ?_
      change wpAny _ _ (ret Value.none) _ _ _
      refine wpAny_pure ⟨rfl, h', tk', l', rfl, T, nd, mem, zl, fun b o e => ?_⟩
      have b0 := Heap.lt_size e
      refine mv.heap b o (fun z => ?_) (Heap.get?_push_of_some _ (Heap.get?_push_of_some _ e))
      rcases List.mem_cons.mp z with z | z
      · exact absurd z (Nat.ne_of_lt b0)
      · have y := List.mem_singleton.mp z
        rw [Heap.size_push] at y
        exact absurd y (Nat.ne_of_lt (Nat.lt_succ_of_lt b0))
    · match r2, hr2 with
      | .error e, hr2 => exact hr2
      | .ok .next, hr2 => exact hr2.elim
      | .ok .brk, hr2 => exact hr2.elim
      | .ok .cont, hr2 => exact hr2.elim
      | .ok (.ret v), hr2 =>
        obtain ⟨rfl, hm⟩ := hr2
        repeat (any_goals (first | assumption | wp_step))
        exact q _ hm
end
variable {g : G} {W : WX}
def rSetS (X : Cx) : List V → Hp → VK → Prop := fun vs H Q => ∃ x : Str, vs = [.str x] ∧ x.length < 4000 ∧ ∀ (a : Addr) (l : List Str), H a = none → l.Nodup → (∀ k, k ∈ l ↔ k ∈ signsOf x) → l.length ≤ x.length → Q (.ref a) (upd H a (SetTO X.prog X.w a l))
theorem signs_len (x : Str) : (signsOf x).length = x.length := by unfold signsOf; rw [List.length_map, Array.length_toList]; rfl
theorem call_setS {X : Cx} (hc : X.calm = true) : CallR X (.type "set") (rSetS X) := by
  intro pins s σ H vs us Q I r h
  obtain ⟨x, rfl, small, q⟩ := h
  obtain ⟨u, rfl, t, rfl⟩ := vals1 r
  have sz : x.cps.size = x.length := rfl
  refine set_str (I.ok.hd hc) (by rw [sz]; unfold scanBound; omega) fun s' hm => ?_
  obtain ⟨h', tk, l, rfl, T, nd, mem, ll, kp⟩ := hm
  rw [signs_len] at ll
  exact ⟨.ref _, _, I.laid (t' := tk) kp (Nat.le_refl _) (setTO_ok T), rfl, q _ l (I.hok.fresh (Nat.le_refl _)) nd mem ll⟩
def dSortSet2 : List D → Option Rv
  | [.list ds] => dSortSet [.list ds]
  | [.str x] => if x.length < 4000 then some (.new (.list ((sortS (dedS (signsOf x))).map .str))) else none
  | _ => none
def rSortSet2 (X : Cx) : List V → Hp → VK → Prop := fun vs H Q => rSetT X vs H (fun y H2 => rSortT X [y] H2 Q) ∨ rSetS X vs H (fun y H2 => rSortT X [y] H2 Q)
theorem strOk_sing {x : Str} (h : strOk x = true) : ∀ k ∈ signsOf x, strOk k = true := fun k hk => by
  obtain ⟨c, hc, rfl⟩ := List.mem_map.mp hk
  rw [strOk_iff] at h ⊢
  intro d hd
  have hd : d ∈ [c] := by simpa [sing] using hd
  rw [List.mem_singleton.mp hd]
  exact h c hc
theorem good_sortSet2 {X : Cx} : GoodC ⟨X.K, X.mg⟩ (rSortSet2 X) dSortSet2 := by
  refine ⟨fun F H vs ds Q s h p => ?_, fun ds => ?_⟩
  · unfold dSortSet2 at p
    split at p
    · exact .inl (good_sortSet.run F H vs _ Q s h p)
    · rename_i x
      obtain ⟨v, rfl, hv⟩ := h.one
      obtain ⟨e1, ok⟩ := hv.str
      by_cases small : x.length < 4000
      · rw [if_pos small] at p
        refine .inr ⟨x, by rw [e1], small, fun b l fresh nd mem ll => ⟨b, l, rfl, upd_same, by omega, fun ys c pm so fresh2 => ?_⟩⟩
        have nc : H c = none := by
          by_cases e : c = b
          · rw [e]; exact fresh
          · rw [upd_ne e] at fresh2; exact fresh2
        have pl : ys.Perm (dedS (signsOf x)) := pm.trans ((List.perm_ext_iff_of_nodup nd (dedS_nodup _)).mpr fun k => (mem k).trans dedS_mem.symm)
        rw [sortS_of pl so]
        exact p _ c nc ⟨.refl, (upd_sub fresh).trans (upd_sub fresh2), fun _ h h' => absurd h h', s.trans ((upd_sub fresh).trans (upd_sub fresh2))⟩ (.lst upd_same (denL_strs fun y hy => strOk_sing ok y (dedS_mem.mp ((sortS_perm _).mem_iff.mp hy))))
      · rw [if_neg small] at p; exact p.elim
    · exact p.elim
  · unfold dSortSet2
    split
    · exact (good_sortSet (X := X)).nosl _
    · split <;> first | exact NoSl.new | exact NoSl.none
    · exact NoSl.none
section
variable {X : Cx} {p pos p2 pos2 : Pos} {e : Expr} {f : ME}
theorem de_sortSet2 (hc : X.calm = true) (hs : X.mg "sorted" = none) (hm : X.mg "set" = none) (ha : DE X W e f) (hg : Gl X "sorted" := by rfl) (hg2 : Gl X "set" := by rfl) (he : starEach [e] X.env = (false, eval e X.env) :: starEach [] X.env := by rfl)
    (he2 : starEach [Expr.Call (.Name "set" p2) [e] [] pos2] X.env = (false, eval (.Call (.Name "set" p2) [e] [] pos2) X.env) :: starEach [] X.env := by rfl) (hpl : (backTo pos (starEach [] X.env)).any (·.1) = false := by rfl) (hpl2 : (backTo pos2 (starEach [] X.env)).any (·.1) = false := by rfl) :
    DE X W (.Call (.Name "sorted" p) [.Call (.Name "set" p2) [e] [] pos2] [] pos) (mCallB dSortSet2 [f]) := by
  obtain ⟨t, pt, gt⟩ := ha
  have inner : PE X (.Call (.Name "set" p2) [e] [] pos2) (tCB (fun xs H Q => rSetT X xs H Q ∨ rSetS X xs H Q) (tCons t tNil)) := pe_callTy (CallR.or (call_setT hc) (call_setS hc)) hg2 hm (by decide +kernel) (pa_cons pt pa_nil he) (by decide) (by decide) he hpl2
  have outer := pe_callB (p := p) (call_sortT hc) hg hs (by decide +kernel) (pa_cons inner pa_nil he2) (by decide) (by decide) he2 hpl
  exact ⟨_, outer, good_callB (r := rSortSet2 X) (.cons gt .nil) good_sortSet2⟩
end
end DL
namespace DL
open PySem PySem.Spec L2
/-! ### != of an object whose class has its own == -/
section
variable {prog : Program} {w : World} {A : Around} {E : Value → Shared → Prop} {s : Shared} {K : PySem.W.Frag} {x C f : Addr} {ox : Obj} {od : Option Obj} {b : Value}
theorem ne_entry {Q : Fin → Shared → Prop} (X : K.In s.heap) (I : PySem.W.InstAt s.heap x ox C od) (he : PySem.W.findIn K (.ref C) "__eq__" = some (some (.ref f))) (hf : PySem.W.isFn K (.ref f) = true) (hu : A.units < cLine)
    (h : wpAny (model prog w) A (call (.ref f) [.ref x, b]) (fun v s' => ∃ r, v = .bool r ∧ Q (.done (.ret (.bool (!r)))) s') E s) : wpAny (model prog w) A (Builtin.«object.__ne__» ⟨[.ref x, b], []⟩) Q E s := by
  unfold Builtin.«object.__ne__»
  repeat (first
    | with_reducible refine wpAny_cRoomFor hu ?_
    | (refine wpAny_bind (m := callSpecialIfBound? (.ref x) (Str.ofString "__eq__") [b]) (PySem.W.ifBound_K X I he hf (wpAny_mono h (fun v s' hv => by
          obtain ⟨r, rfl, hq⟩ := hv
          repeat (first | exact hq | exact wpAny_pure hq | exact wpAny_truthy_bool hq | (refine wpAny_bind (m := truthy (.bool _)) (wpAny_truthy_bool ?_)) | wp_step)) fun _ _ e => e)))
    | wp_step)
theorem ne_try {Q : Option Value → Shared → Prop} (X : K.In s.heap) (I : PySem.W.InstAt s.heap x ox C od) (hn : PySem.W.findIn K (.ref C) "__ne__" = some (some (.builtin "object.__ne__"))) (he : PySem.W.findIn K (.ref C) "__eq__" = some (some (.ref f))) (hf : PySem.W.isFn K (.ref f) = true) (ho : PySem.W.subIn K (.ref C) (.type "object") = some true) (hu : A.units + 1 < cLine)
    (h : wpAny (model prog w) A.in1 (call (.ref f) [.ref x, b]) (fun v s' => ∃ r, v = .bool r ∧ Q (some (.bool (!r))) s') E s) : wpAny (model prog w) A (tryCompare (.ref x) "__ne__" b) Q E s := by
  have bd : ∀ self, bindSpecial (.builtin "object.__ne__") self = pure (.builtin "object.__ne__", [self]) := fun self => PySem.F.cmp_object.ne.bind self
  have isO : PySem.W.Looks (model prog w) s.heap (isInstance (.ref x) (.type "object")) true := I.type.andThen (PySem.W.looks_subIn X ho)
  have go : wpAny (model prog w) A (call (.builtin "object.__ne__") [.ref x, b]) (fun v s' => ∃ r, v = .bool r ∧ Q (some (.bool r)) s') E s := by
    refine wpAny_call (codeAny_call_builtin PySem.F.cmp_object.ne.plain PySem.F.cmpEntry_ne (PySem.W.check_slot PySem.F.cmpKind_ne PySem.F.cmpSplit_ne isO (PySem.F.cmpArgs_ne _ _) (ne_entry (A := A.in1) X I he hf hu (wpAny_mono h (fun v s' hv => ?_) fun _ _ e => e))))
    obtain ⟨r, rfl, hq⟩ := hv
    exact ⟨r, rfl, ⟨!r, rfl, hq⟩⟩
  unfold tryCompare
  refine wpAny_bind ?_
  simp only [callSpecialIfBound?, bindSpecialIfBound?]
  refine wpAny_holding (wpAny_bind (wpAny_bind (wpAny_bind (I.type.here ((PySem.W.looks_findIn X hn).here ?_)))))
  refine wpAny_bind (wpAny_askSetting (wpAny_ite ?_))
  have fin : wpAny (model prog w) A (call (.builtin "object.__ne__") ([.ref x] ++ [b]) >>= fun v => pure (some v)) (fun r s' => wpAny (model prog w) A (match r with
      | some .notImplemented | none => pure none
      | some v => pure (some v)) Q E s') E s := wpAny_bind (wpAny_mono go (fun v s' hv => by obtain ⟨r, rfl, hq⟩ := hv; exact wpAny_pure (wpAny_pure hq)) fun _ _ e => e)
  rw [bd]
  split
  · exact wpAny_bind (wpAny_pure (wpAny_pure (by exact fin)))
  · exact wpAny_tryCatch (wpAny_bind (wpAny_pure (wpAny_pure (by exact fin))))
end
section
variable {prog : Program} {w : World} {A : Around} {E : Value → Shared → Prop} {s : Shared} {K : PySem.W.Frag} {x C f L : Addr} {h₀ : Heap} {m : Str → Option Value} {ox : Obj} {od : Option Obj} {b tb : Value}
theorem ne_rc {Q : Value → Shared → Prop} (hu : A.units + 1 < cLine) (X : K.In s.heap) (I : PySem.W.InstAt s.heap x ox C od) (hb : PySem.W.Looks (model prog w) s.heap (typeOf b) tb) (nf : PySem.W.notFirst K C tb = true) (hn : PySem.W.findIn K (.ref C) "__ne__" = some (some (.builtin "object.__ne__"))) (he : PySem.W.findIn K (.ref C) "__eq__" = some (some (.ref f))) (hf : PySem.W.isFn K (.ref f) = true) (ho : PySem.W.subIn K (.ref C) (.type "object") = some true)
    (h : wpAny (model prog w) A.in1 (call (.ref f) [.ref x, b]) (fun v s' => ∃ r, v = .bool r ∧ Q (.bool (!r)) s') E s) : wpAny (model prog w) A (richCompare .NotEq (.ref x) b) Q E s := by
  have one : wpAny (model prog w) A (tryCompare (.ref x) "__ne__" b) (fun r s' => ∃ v, r = some v ∧ Q v s') E s := ne_try X I hn he hf ho hu (wpAny_mono h (fun v s' hv => by obtain ⟨r, e, hq⟩ := hv; exact ⟨r, e, _, rfl, hq⟩) fun _ _ e => e)
  unfold richCompare
  simp only [oneThing_ref]
  refine wpAny_holding (wpAny_bind (wpAny_cRoomFor (by omega) ?_))
  refine wpAny_bind (I.type.here (wpAny_bind (hb.here ?_)))
  have last : ∀ {z : Bool}, z = false → wpAny (model prog w) A (tryCompare (.ref x) "__ne__" b) (fun r s' => ∃ v, r = some v ∧ Q v s') E s := fun _ => one
  split
  · rename_i q
    have e : PySem.W.subIn K tb (.ref C) = some false := by
      rcases Bool.or_eq_true_iff.mp nf with e | e
      · rw [beq_iff_eq.mp e] at q; simp at q
      · exact beq_iff_eq.mp e
    refine wpAny_bind ((PySem.W.looks_subIn X e).here ?_)
    simp only [Bool.false_eq_true, if_false]
    refine wpAny_bind (wpAny_mono one (fun r s' z => ?_) fun _ _ e => e)
    obtain ⟨v, rfl, hq⟩ := z
    exact wpAny_pure hq
  · refine wpAny_bind (wpAny_pure ?_)
    simp only [Bool.false_eq_true, if_false]
    refine wpAny_bind (wpAny_mono one (fun r s' z => ?_) fun _ _ e => e)
    obtain ⟨v, rfl, hq⟩ := z
    exact wpAny_pure hq
end
/-! ### == and != as expressions -/
variable {g : G} {W : WX}
abbrev othTy : List String := ["list", "tuple", "str", "int", "bool", "NoneType"]
/-- a class of the text with its own == -/
structure CalE (P : Program) (w : World) (K : PySem.W.Frag) (mg : Str → Option Value) (base : Heap) (c : Str) (k : Nat) (ps : List Str) (fm : FM) : Prop where
  ex : ∃ C f fd, mg c = some (.ref C) ∧ PySem.W.findIn K (.ref C) "__eq__" = some (some (.ref f)) ∧ PySem.W.isFn K (.ref f) = true ∧ PySem.W.findIn K (.ref C) "__ne__" = some (some (.builtin "object.__ne__")) ∧
    PySem.W.subIn K (.ref C) (.type "object") = some true ∧ (∀ T ∈ othTy, PySem.W.subIn K (.type T) (.ref C) = some false) ∧ FnG P w K mg base k f fd ps fm ∧ Binds K fd ps []
def rEqO (g : G) (C : Addr) (fm : FM) (neg : Bool) : R2 := fun x y H Q => ∃ a dx fs, x = .ref a ∧ H a = some (.ins C dx fs) ∧ ((∃ b dy gs, y = .ref b ∧ H b = some (.ins C dy gs)) ∨ ∃ T, T ∈ othTy ∧ TyX g.K H y (.type T)) ∧
  fnSp g fm [x, y] H (fun v H' => ∃ r, v = .bl r ∧ Q (.bl (if neg = true then !r else r)) H') (fun _ _ _ => False)
theorem op_eqO {X : Cx} {k : Nat} {C f : Addr} {fd : FuncData} {ps : List Str} {fm : FM} (F : FnG X.prog X.w X.K X.mg X.base k f fd ps fm) (hr : Room (k + 1) X.A) (gd : X.A.guards = some []) (bd : Binds X.K fd ps []) (he : PySem.W.findIn X.K (.ref C) "__eq__" = some (some (.ref f))) (hf : PySem.W.isFn X.K (.ref f) = true)
    (hn : PySem.W.findIn X.K (.ref C) "__ne__" = some (some (.builtin "object.__ne__"))) (ho : PySem.W.subIn X.K (.ref C) (.type "object") = some true) (ht : ∀ T ∈ othTy, PySem.W.subIn X.K (.type T) (.ref C) = some false) (neg : Bool) :
    OpR X (compareOp (if neg = true then .NotEq else .Eq)) (rEqO ⟨X.K, X.mg⟩ C fm neg) := by
  intro pins s σ H x y v u Q I rx ry hq
  obtain ⟨a, dx, fs, rfl, ha, hy, sp⟩ := hq
  cases rx
  obtain ⟨mA, J, _⟩ := ins_get I.hok ha
  obtain ⟨od, J, _⟩ := J.look
  have len : ([Value.ref a, u]).length = ps.length := fnSp_len F.len sp
  obtain ⟨tb, lk, nf⟩ : ∃ tb, PySem.W.Looks (model X.prog X.w) s.heap (typeOf u) tb ∧ PySem.W.notFirst X.K C tb = true := by
    rcases hy with ⟨b, dy, gs, rfl, hb⟩ | ⟨T, hT, ty⟩
    · cases ry
      obtain ⟨mB, J', _⟩ := ins_get I.hok hb
      obtain ⟨od', J', _⟩ := J'.look
      exact ⟨.ref C, J'.type, by simp [PySem.W.notFirst]⟩
    · obtain ⟨P, Z, p, _⟩ := kit_of I ry ty
      exact ⟨_, Z.ty _ _ I.kIn p, by unfold PySem.W.notFirst; rw [ht T hT]; simp⟩
  have r2 : Vals [V.ref a, y] [Value.ref a, u] := .cons rfl (.cons ry .nil)
  have fin : ∀ {E' : XK} {r : Result} {s' : Shared} (R : Value → Shared → Prop), (∀ u' s'', EP X pins σ (fun v H' => ∃ r, v = .bl r ∧ Q (.bl (if neg = true then !r else r)) H') u' s'' → R u' s'') →
      True := fun _ _ => trivial
  have go : ∀ (A : Around) (e0 : Env0 X.prog X.w X.K X.mg X.base A X.stack s H) (rm : Room k A) (gA : A.guards = some []), wpAny (model X.prog X.w) A (call (.ref f) [.ref a, u]) (fun v s' => ∃ r, v = .bool r ∧ EP X pins σ Q (.bool (if neg = true then !r else r)) s') X.xe s := fun A e0 rm gA => by
    refine wpAny_call (codeAny_mono (F.run A X.stack s H ⟨[.ref a, u], []⟩ [.ref a, u] [.ref a, y] _ _ rm gA e0 (by have := bd s [.ref a, u] I.kIn len; simpa using this) r2 sp) fun r s' q => ?_)
    match r, q with
    | .error e, q => obtain ⟨_, _, _, _, _, _, _, _, _, _, _, _, _, z⟩ := q
    | .ok .next, q => exact q.elim
    | .ok .brk, q => exact q.elim
    | .ok .cont, q => exact q.elim
    | .ok (.ret z), q =>
      obtain ⟨v2, H', I3, rv, b, e, q3⟩ := I.after q
      subst e
      cases rv
      exact ⟨b, rfl, .bl _, H', I3, rfl, q3⟩
  obtain ⟨m, hF⟩ := I.fr
  cases neg with
  | false =>
    show wpAny (model X.prog X.w) X.A (richCompare .Eq (.ref a) u) (EP X pins σ Q) X.xe s
    refine PySem.W.cmp_K (op := .Eq) (tb := tb) hr.units0 hF I.ok.mod.kin J lk nf he hf (wpAny_mono (go X.A I.env0 (hr.mono (by omega)) gd) (fun v s' hv => ?_) fun _ _ e => e)
    obtain ⟨r, rfl, q⟩ := hv
    exact q
  | true =>
    show wpAny (model X.prog X.w) X.A (richCompare .NotEq (.ref a) u) (EP X pins σ Q) X.xe s
    exact ne_rc (by have := hr.units; omega) I.kIn J lk nf hn he hf ho (go X.A.in1 I.env0.in1 hr.in1 gd)
def eqTy (c : Str) : D → Bool
  | .list _ => true
  | .tuple _ => true
  | .str _ => true
  | .int _ => true
  | .bool _ => true
  | .none => true
  | d => isIns c d
theorem Pk.ins1 {c : Str} {C : Addr} (hc : g.mg c = some (.ref C)) {F H : Hp} {v : V} {d : D} (s : Sub F H) (h : Pk g F H v d) (hi : isIns c d = true) : ∃ a dx fs, v = .ref a ∧ H a = some (.ins C dx fs) := by
  unfold isIns at hi
  split at hi
  · rename_i c' kvs
    have e : c' = c := by simpa using hi
    subst e
    obtain ⟨a, C2, dx, fs, ds, e1, e2, e3, _, _⟩ := h.ins s
    rw [hc] at e2; cases e2
    exact ⟨a, dx, fs, e1, e3⟩
  · cases hi
theorem Pk.ty2 {c : Str} {F H : Hp} {v : V} {d : D} (s : Sub F H) (h : Pk g F H v d) (hi : eqTy c d = true) (hn : ¬ isIns c d = true) : ∃ T, T ∈ othTy ∧ TyX g.K H v (.type T) := by
  cases d with
  | list ds =>
    obtain ⟨a, xs, rfl, e, _⟩ := h.lst s
    exact ⟨_, by simp, .base (.lst e)⟩
  | tuple ds =>
    obtain ⟨a, xs, rfl, e, _⟩ := h.tup s
    rcases e with (e | ⟨o, e⟩) | ⟨o, its, n, e1, e2, _⟩
    · exact ⟨_, by simp, .base (.tup e)⟩
    · exact ⟨_, by simp, .fTuple e⟩
    · exact ⟨_, by simp, .kTuple e1 e2⟩
  | str x => rw [h.str.1]; exact ⟨"str", by simp, .base (.str x)⟩
  | int x => rw [h.int]; exact ⟨"int", by simp, .base (.int x)⟩
  | bool x => rw [h.bl]; exact ⟨"bool", by simp, .base (.bl x)⟩
  | none => rw [h.non]; exact ⟨"NoneType", by simp, .base .non⟩
  | _ => exact absurd hi hn
theorem Pk.ty {c : Str} {C : Addr} (hc : g.mg c = some (.ref C)) {F H : Hp} {v : V} {d : D} (s : Sub F H) (h : Pk g F H v d) (hi : eqTy c d = true) :
    (∃ b dy gs, v = .ref b ∧ H b = some (.ins C dy gs)) ∨ ∃ T, T ∈ othTy ∧ TyX g.K H v (.type T) := by
  by_cases hn : isIns c d = true
  · exact .inl (h.ins1 hc s hn)
  · exact .inr (h.ty2 s hi hn)
def eqRes (neg : Bool) (env : Env) : Res (Rv × Env) → Res (Rv × Env)
  | .ok (.val (.bool b), _) => .ok (.val (.bool (if neg = true then !b else b)), env)
  | _ => .stuck
def mEqO (c : Str) (fm : FM) (neg : Bool) (f h : ME) : ME := fun env => f env >>= fun z => z.1.frz z.2 >>= fun y => h y.2 >>= fun x => x.1.frz x.2 >>= fun u => if isIns c y.1 = true ∧ eqTy c u.1 = true then eqRes neg u.2 (fm [.fz y.1, .fz u.1]) else .stuck
theorem good_eqO {c : Str} {C : Addr} (hc : g.mg c = some (.ref C)) (fm : FM) (neg : Bool) {ta tb : TE} {f h : ME} (ha : GoodE g W ta f) (hb : GoodE g W tb h) : GoodE g W (tOp (rEqO g C fm neg) ta tb) (mEqO c fm neg f h) := fun F H σ env Q k p => by
  refine ha F H σ env _ k (Post.bindF (R' := RE g) RE.early p fun d e2 F2 H2 v x2 k2 kp2 hd p2 => ?_)
  refine hb F2 H2 σ e2 _ k2 (Post.bindF (R' := RE g) RE.early p2 fun d' e3 F3 H3 v' x3 k3 kp3 hd' p3 => ?_)
  have hd3 := Den.mono x3.sub hd
  by_cases hi : isIns c d = true ∧ eqTy c d' = true
  · simp only [if_pos hi] at p3
    obtain ⟨a, dx, fs, e1, e4⟩ := Pk.ins1 hc k3.sub (.inl hd3) hi.1
    refine ⟨a, dx, fs, e1, e4, Pk.ty hc k3.sub (.inl hd') hi.2, ?_⟩
    obtain ⟨ke, no⟩ := fz_env (g := g) (vs := [v, v']) (ds := [d, d']) k3.sub (.cons hd3 (.cons hd' .nil))
    refine ⟨F3, [.fz d, .fz d'], ke, ?_⟩
    have grow : ∀ {F' H' : Hp} {O' : Addr → Prop}, Ext F3 H3 (Own ([v, v'].map some) [Sl.fz d, Sl.fz d']) F' H' O' → Sub F' H' → Grow F3 H3 F' H' := fun y s =>
      ⟨y.sub, fun b o e => y.keep b o e (no b), fun b q1 q2 => (y.new b q1 q2).elim id fun z => absurd z (no b), s⟩
    cases hf : fm [Sl.fz d, Sl.fz d'] with
    | stuck => rw [hf] at p3; exact p3.elim
    | ex => rw [hf] at p3; exact p3.elim
    | ok z =>
      obtain ⟨r, e⟩ := z
      rw [hf] at p3
      intro F' H' w y k' kp rv
      have gr := grow y k'.sub
      cases r with
      | val d0 =>
        cases d0 with
        | bool b =>
          have rv : Den g F' w (.bool b) := rv
          exact ⟨b, Pk.bl (g := g) (F := F') (H := H') (.inl rv), p3 F' H' _ gr.ext (k3.grow gr) .refl (.bl _)⟩
        | _ => exact p3.elim
      | new d' => exact p3.elim
      | sl i => exact p3.elim
  · simp only [if_neg hi] at p3; exact p3.elim
section
variable {X : Cx} {c : Str} {k j : Nat} {ps : List Str} {fm : FM} {a b : Expr} {pos : Pos} {f h : ME}
theorem de_eqO (ce : CalE X.prog X.w X.K X.mg X.base c j ps fm) (hr : Room k X.A) (hj : j + 1 ≤ k) (gd : X.A.guards = some []) (ha : DE X W a f) (hb : DE X W b h) : DE X W (.Compare a [.Eq] [b] pos) (mEqO c fm false f h) := by
  obtain ⟨C, f, fd, hm, he, hf, hn, ho, ht, F, bd⟩ := ce
  obtain ⟨ta, pa, ga⟩ := ha
  obtain ⟨tb, pb, gb⟩ := hb
  exact ⟨_, pe_cmpR (op_eqO F (hr.mono hj) gd bd he hf hn ho ht false) pa pb (nobehind _ (by decide) (by decide)), good_eqO (g := ⟨X.K, X.mg⟩) hm fm false ga gb⟩
theorem de_neO (ce : CalE X.prog X.w X.K X.mg X.base c j ps fm) (hr : Room k X.A) (hj : j + 1 ≤ k) (gd : X.A.guards = some []) (ha : DE X W a f) (hb : DE X W b h) : DE X W (.Compare a [.NotEq] [b] pos) (mEqO c fm true f h) := by
  obtain ⟨C, f, fd, hm, he, hf, hn, ho, ht, F, bd⟩ := ce
  obtain ⟨ta, pa, ga⟩ := ha
  obtain ⟨tb, pb, gb⟩ := hb
  exact ⟨_, pe_cmpR (op_eqO F (hr.mono hj) gd bd he hf hn ho ht true) pa pb (nobehind _ (by decide) (by decide)), good_eqO (g := ⟨X.K, X.mg⟩) hm fm true ga gb⟩
theorem dt_eqO (ce : CalE X.prog X.w X.K X.mg X.base c j ps fm) (hr : Room k X.A) (hj : j + 1 ≤ k) (gd : X.A.guards = some []) (ha : DE X W a f) (hb : DE X W b h) : DT X W (.Compare a [.Eq] [b] pos) (mTest (mEqO c fm false f h)) := by
  obtain ⟨C, f, fd, hm, he, hf, hn, ho, ht, F, bd⟩ := ce
  obtain ⟨ta, pa, ga⟩ := ha
  obtain ⟨tb, pb, gb⟩ := hb
  exact ⟨_, pt_cmpR (op_eqO F (hr.mono hj) gd bd he hf hn ho ht false) pa pb (nobehind _ (by decide) (by decide)), good_test (good_eqO (g := ⟨X.K, X.mg⟩) hm fm false ga gb)⟩
theorem dt_neO (ce : CalE X.prog X.w X.K X.mg X.base c j ps fm) (hr : Room k X.A) (hj : j + 1 ≤ k) (gd : X.A.guards = some []) (ha : DE X W a f) (hb : DE X W b h) : DT X W (.Compare a [.NotEq] [b] pos) (mTest (mEqO c fm true f h)) := by
  obtain ⟨C, f, fd, hm, he, hf, hn, ho, ht, F, bd⟩ := ce
  obtain ⟨ta, pa, ga⟩ := ha
  obtain ⟨tb, pb, gb⟩ := hb
  exact ⟨_, pt_cmpR (op_eqO F (hr.mono hj) gd bd he hf hn ho ht true) pa pb (nobehind _ (by decide) (by decide)), good_test (good_eqO (g := ⟨X.K, X.mg⟩) hm fm true ga gb)⟩
end
/-! ### isinstance(e, C) of a class of the text -/
structure ClsI (K : PySem.W.Frag) (mg : Str → Option Value) (c : Str) : Prop where
  ex : ∃ C, mg c = some (.ref C) ∧ Cls K C ∧ PySem.W.findIn K (.ref C) "__class__" = some (some (.builtin "object.__class__")) ∧ PySem.W.specialIn K (.builtin "object.__class__") "__get__" = some (some (.builtin "getset_descriptor.__get__")) ∧
    PySem.W.takesIn K (.builtin "object.__class__") = some true ∧ PySem.W.mroIn K C (.type "object") = some true ∧ ∀ T ∈ othTy, PySem.W.kitOne K (.type T) (.ref C) = some false
def dIsa (c : Str) (d : D) : Option Rv := if isIns c d = true then some (.val (.bool true)) else if eqTy c d = true then some (.val (.bool false)) else none
def rIsaC (K : PySem.W.Frag) (C : Addr) : V → Hp → VK → Prop := fun x H Q => rIsi K [x, .ref C] H Q
theorem good_isa {c : Str} {C : Addr} (hc : g.mg c = some (.ref C)) (cl : Cls g.K C) (h1 : PySem.W.findIn g.K (.ref C) "__class__" = some (some (.builtin "object.__class__"))) (h2 : PySem.W.specialIn g.K (.builtin "object.__class__") "__get__" = some (some (.builtin "getset_descriptor.__get__")))
    (h3 : PySem.W.takesIn g.K (.builtin "object.__class__") = some true) (h4 : PySem.W.mroIn g.K C (.type "object") = some true) (h5 : ∀ T ∈ othTy, PySem.W.kitOne g.K (.type T) (.ref C) = some false) : Good1 g (rIsaC g.K C) (dIsa c) := by
  refine ⟨fun F H x d Q s hx p => ?_, fun d => ?_⟩
  · unfold dIsa at p
    by_cases hi : isIns c d = true
    · rw [if_pos hi] at p
      obtain ⟨a, dx, fs, rfl, e⟩ := hx.ins1 hc s hi
      refine ⟨_, _, .ref C, .ref C, true, rfl, .own C, .base (.ins e cl h1 h2 h3 h4), ?_, p.val0 s (.bl _)⟩
      unfold PySem.W.kitOne
      rw [if_pos (by simp)]
    · rw [if_neg hi] at p
      by_cases he : eqTy c d = true
      · rw [if_pos he] at p
        obtain ⟨T, hT, ty⟩ := hx.ty2 s he hi
        exact ⟨_, _, .type T, .ref C, false, rfl, .own C, ty, h5 T hT, p.val0 s (.bl _)⟩
      · rw [if_neg he] at p; exact p.elim
  · unfold dIsa
    split
    · exact NoSl.val
    · split <;> first | exact NoSl.val | exact NoSl.none
section
variable {X : Cx} {c : Str} {e : Expr} {f : ME} {p p2 pos : Pos}
theorem de_isa (ci : ClsI X.K X.mg c) (hm : X.mg "isinstance" = none) (he : DE X W e f) (hg : Gl X "isinstance" := by rfl) (hg2 : Gl X c := by rfl) (hd : (c == ("__debug__" : Str)) = false := by decide) (h1 : starEach [e, .Name c p2] X.env = (false, eval e X.env) :: starEach [.Name c p2] X.env := by rfl)
    (h2 : starEach [.Name c p2] X.env = (false, eval (.Name c p2) X.env) :: starEach [] X.env := by rfl) (hpl : (backTo pos (starEach [.Name c p2] X.env)).any (·.1) = false := by rfl) : DE X W (.Call (.Name "isinstance" p) [e, .Name c p2] [] pos) (mUn (dIsa c) f) := by
  obtain ⟨C, hc, cl, a1, a2, a3, a4, a5⟩ := ci
  obtain ⟨ta, pa, ga⟩ := he
  exact ⟨_, pe_callB (t := tCons ta (tCons (tC (.ref C)) tNil)) call_isi hg hm (by decide +kernel) (pa_cons pa (pa_cons (pe_glob hg2 hc rfl hd) pa_nil h2) h1) (by decide) (by decide) h1 hpl, good_un (r := rIsaC X.K C) ga (good_isa (g := ⟨X.K, X.mg⟩) hc cl a1 a2 a3 a4 a5)⟩
end
/-! ### isinstance(e, T) of a type that is built in -/
def tyN : D → Option String
  | .list _ => some "list"
  | .tuple _ => some "tuple"
  | .str _ => some "str"
  | .int _ => some "int"
  | .bool _ => some "bool"
  | .none => some "NoneType"
  | _ => none
theorem Pk.tyN {F H : Hp} {v : V} {d : D} {T : String} (s : Sub F H) (h : Pk g F H v d) (hi : tyN d = some T) : TyX g.K H v (.type T) := by
  cases d with
  | list ds =>
    cases hi
    obtain ⟨a, xs, rfl, e, _⟩ := h.lst s
    exact .base (.lst e)
  | tuple ds =>
    cases hi
    obtain ⟨a, xs, rfl, e, _⟩ := h.tup s
    rcases e with (e | ⟨o, e⟩) | ⟨o, its, n, e1, e2, _⟩
    · exact .base (.tup e)
    · exact .fTuple e
    · exact .kTuple e1 e2
  | str x => cases hi; rw [h.str.1]; exact .base (.str x)
  | int x => cases hi; rw [h.int]; exact .base (.int x)
  | bool x => cases hi; rw [h.bl]; exact .base (.bl x)
  | none => cases hi; rw [h.non]; exact .base .non
  | _ => cases hi
def dIsaT (T : String) (d : D) : Option Rv := match tyN d with
  | some a => match kitB a T with
    | some b => some (.val (.bool b))
    | none => none
  | none => none
def rIsaT (K : PySem.W.Frag) (T : String) : V → Hp → VK → Prop := fun x H Q => rIsi K [x, .ty T] H Q
theorem good_isaT (T : String) : Good1 g (rIsaT g.K T) (dIsaT T) := by
  refine ⟨fun F H x d Q s hx p => ?_, fun d => ?_⟩
  · unfold dIsaT at p
    cases h1 : DL.tyN d with
    | none => rw [h1] at p; exact p.elim
    | some a =>
      rw [h1] at p
      dsimp only at p
      cases h2 : kitB a T with
      | none => rw [h2] at p; exact p.elim
      | some b =>
        rw [h2] at p
        exact ⟨_, _, .type a, .type T, b, rfl, .ty T, hx.tyN s h1, kit_ty h2, p.val0 s (.bl _)⟩
  · unfold dIsaT
    split
    · split <;> first | exact NoSl.val | exact NoSl.none
    · exact NoSl.none
section
variable {X : Cx} {e : Expr} {f : ME} {p p2 pos : Pos}
theorem de_isaT {c : Str} (T : String) (hv : bootBuiltins c = some (.type T)) (hm : X.mg "isinstance" = none) (hm2 : X.mg c = none) (he : DE X W e f) (hg : Gl X "isinstance" := by rfl) (hg2 : Gl X c := by rfl) (hn : c ≠ "__name__" := by decide) (hd : (c == ("__debug__" : Str)) = false := by decide) (h1 : starEach [e, .Name c p2] X.env = (false, eval e X.env) :: starEach [.Name c p2] X.env := by rfl)
    (h2 : starEach [.Name c p2] X.env = (false, eval (.Name c p2) X.env) :: starEach [] X.env := by rfl) (hpl : (backTo pos (starEach [.Name c p2] X.env)).any (·.1) = false := by rfl) : DE X W (.Call (.Name "isinstance" p) [e, .Name c p2] [] pos) (mUn (dIsaT T) f) := by
  obtain ⟨ta, pa, ga⟩ := he
  exact ⟨_, pe_callB (t := tCons ta (tCons (tC (.ty T)) tNil)) call_isi hg hm (by decide +kernel) (pa_cons pa (pa_cons (pe_bltn hg2 hm2 hv rfl hn hd) pa_nil h2) h1) (by decide) (by decide) h1 hpl, good_un (r := rIsaT X.K T) ga (good_isaT (g := ⟨X.K, X.mg⟩) T)⟩
end
theorem kitOne_of {K : PySem.W.Frag} {C : Addr} {T : String} (h1 : PySem.W.isClsIn K C = true) (h2 : PySem.W.typeIn K (.ref C) = some (.type "type")) (h3 : PySem.W.subIn K (.type T) (.ref C) = some false) : PySem.W.kitOne K (.type T) (.ref C) = some false := by
  unfold PySem.W.kitOne PySem.W.kitCls
  have h1' : (PySem.W.clsIn K C).isSome = true := h1
  rw [if_neg (by simp)]
  dsimp only
  rw [h1', h2, if_pos (by simp)]
  exact h3
end DL
namespace DL
open PySem PySem.Spec L2
variable {g : G} {W : WX}
/-! ### reverse, clear -/
def mReverse (j : Nat) : ME := fun env => match ownL env j with
  | some (k, ds) => .ok (.val .none, env.set j (.ow k (.list ds.reverse)))
  | none => .stuck
theorem good_reverse {j : Nat} : GoodE g W (tBM0 g.K "list" rReverse (tVar j)) (mReverse j) := fun F H σ env Q k p => by
  unfold mReverse at p
  cases ho : ownL env j with
  | none => simp only [ho] at p; exact p.elim
  | some w =>
    obtain ⟨kd, ds⟩ := w
    simp only [ho] at p
    obtain ⟨a, xs, s1, ha, hd⟩ := k.ownL ho
    obtain ⟨he, hk⟩ := ownL_ok ho
    have dw : OwnAt g F (upd H a (.lst xs.reverse)) a (.list ds.reverse) := .lst upd_same hd.reverse
    obtain ⟨z1, z2, z3⟩ := k.change he s1 hk dw
    exact ⟨_, s1, .inl ⟨rfl, xs, .inl (.inl ha)⟩, a, xs, rfl, rfl, ha, p F _ .non z1 z2 z3 .non⟩
theorem de_reverse {X : Cx} {j : Nat} {x : Str} {np apos cpos : Pos} (hN : X.N[j]? = some x) (hv : Vis X.env.scope x) (hbase : attributeBase (.Name x np) "reverse" X.env (eval (.Name x np) X.env) = eval (.Name x np) X.env := by rfl) (hline : (apos.endLine == cpos.line) = true := by rfl)
    (hd : (x == ("__debug__" : Str)) = false := by decide) (hcd : (x == ("__classdict__" : Str)) = false := by decide) : DE X W (.Call (.Attribute (.Name x np) "reverse" apos) [] [] cpos) (mReverse j) :=
  ⟨_, pe_bm0 PySem.F.plainAttrs_list PySem.F.slot_list_reverse PySem.F.type_list_reverse mt_reverse (pe_var hN hv hd hcd) hbase hline, good_reverse⟩
def rClear : V → List V → Hp → VK → Prop := fun x vs H Q => ∃ l xs, x = .ref l ∧ vs = [] ∧ H l = some (.lst xs) ∧ Q .non (upd H l (.lst []))
theorem mt_clear {X : Cx} : MtR X "list.clear" rClear := by
  intro pins s σ H x vs v us Q I rx rv h
  obtain ⟨l, xs, rfl, rfl, hH, q⟩ := h
  cases rx
  have hus := rv.zero
  subst hus
  obtain ⟨z, its, n, r, hl, e⟩ := I.lstM hH
  refine call_meets PySem.F.slot_list_clear ⟨_, e, rfl⟩ PySem.F.entry_list_clear (PySem.F.args_list_clear_1 _) (PySem.AutoSeq1.list_clear_list_0 l its.toArray n (by rw [List.size_toArray]; omega)) ⟨e, ?_⟩
  refine ⟨.non, _, I.lset (its' := []) hH e ?_ .nil ?_, rfl, q⟩
  · rfl
  · simp
def mClear (j : Nat) : ME := fun env => match ownL env j with
  | some (k, ds) => .ok (.val .none, env.set j (.ow k (.list [])))
  | none => .stuck
theorem good_clear {j : Nat} : GoodE g W (tBM0 g.K "list" rClear (tVar j)) (mClear j) := fun F H σ env Q k p => by
  unfold mClear at p
  cases ho : ownL env j with
  | none => simp only [ho] at p; exact p.elim
  | some w =>
    obtain ⟨kd, ds⟩ := w
    simp only [ho] at p
    obtain ⟨a, xs, s1, ha, hd⟩ := k.ownL ho
    obtain ⟨he, hk⟩ := ownL_ok ho
    have dw : OwnAt g F (upd H a (.lst [])) a (.list []) := .lst upd_same .nil
    obtain ⟨z1, z2, z3⟩ := k.change he s1 hk dw
    exact ⟨_, s1, .inl ⟨rfl, xs, .inl (.inl ha)⟩, a, xs, rfl, rfl, ha, p F _ .non z1 z2 z3 .non⟩
theorem de_clear {X : Cx} {j : Nat} {x : Str} {np apos cpos : Pos} (hN : X.N[j]? = some x) (hv : Vis X.env.scope x) (hbase : attributeBase (.Name x np) "clear" X.env (eval (.Name x np) X.env) = eval (.Name x np) X.env := by rfl) (hline : (apos.endLine == cpos.line) = true := by rfl)
    (hd : (x == ("__debug__" : Str)) = false := by decide) (hcd : (x == ("__classdict__" : Str)) = false := by decide) : DE X W (.Call (.Attribute (.Name x np) "clear" apos) [] [] cpos) (mClear j) :=
  ⟨_, pe_bm0 PySem.F.plainAttrs_list PySem.F.slot_list_clear PySem.F.type_list_clear mt_clear (pe_var hN hv hd hcd) hbase hline, good_clear⟩
/-! ### repr as a value -/
def mReprV (f : MR) : ME := fun env => f env >>= fun z => if strOk z.1 = true then .ok (.val (.str z.1), z.2) else .stuck
theorem good_reprV {t : TE} {f : MR} (h : Good RS g W t f) : GoodE g W t (mReprV f) := fun F H σ env Q k p => by
  refine (h F H σ env _ k (Post.bind RE.early p fun r1 e1 F1 H1 x x1 k1 kp1 rv1 p1 => ?_))
  have rv1 : x = .str r1 := rv1
  subst rv1
  by_cases ok : strOk r1 = true
  · rw [if_pos ok] at p1
    exact p1 F1 H1 _ .refl k1 .refl (.str _ ok)
  · rw [if_neg ok] at p1; exact p1.elim
theorem de_reprV {X : Cx} {e : Expr} {f : MR} (h : DR X W e f) : DE X W e (mReprV f) := by
  obtain ⟨t, pt, gt⟩ := h
  exact ⟨t, pt, good_reprV gt⟩
/-! ### C(k = e, ..) -/
structure CalMK (P : Program) (w : World) (K : PySem.W.Frag) (mg : Str → Option Value) (base : Heap) (c : Str) (k : Nat) (ps ks : List Str) (fm : FM) : Prop where
  ex : ∃ C f fd, mg c = some (.ref C) ∧ Mk K C f ∧ FnG P w K mg base k f fd ps fm ∧ ∀ (s : Shared) (self : Value) (ws : List Value), K.In s.heap → ws.length = ks.length → BindsTo s fd ⟨[self], ks.zip ws⟩ (ps.zip (self :: ws))
theorem Vals.len {vs : List V} {us : List Value} (r : Vals vs us) : vs.length = us.length := r.length
theorem pe_makeK {X : Cx} {k : Nat} {f C : Addr} {fd : FuncData} {ps ks : List Str} {fm : FM} {x : Str} {p pos : Pos} {kws : List Keyword} {t : TA} (M : Mk X.K C f) (F : FnG X.prog X.w X.K X.mg X.base k f fd ps fm) (hr : Room (k + 1) X.A) (gd : X.A.guards = some []) (tk : Takes X W) (hg : Gl X x) (hm : X.mg x = some (.ref C))
    (hb : ∀ (s : Shared) (self : Value) (ws : List Value), X.K.In s.heap → ws.length = ks.length → BindsTo s fd ⟨[self], ks.zip ws⟩ (ps.zip (self :: ws))) (hp : ps.length = ks.length + 1) (ha : PK X kws t) (hall : (backToKw pos (keywordEach kws X.env)).all (·.1.isSome) = true := by rfl) (hks : (backToKw pos (keywordEach kws X.env)).filterMap (·.1) = ks := by rfl)
    (hdb : (x == ("__debug__" : Str)) = false := by decide) (hpl : ((backTo pos (starEach [] X.env)).any (·.1) || (backToKw pos (keywordEach kws X.env)).any (·.1.isNone)) = false := by rfl) :
    PE X (.Call (.Name x p) [] kws pos) (tMakeG ⟨X.K, X.mg⟩ C fm W t) := by
  refine ⟨fun pins s σ H Q I h => wpAny_Call_Name_kw (ld_glob I hg hm ?_ hdb)⟩
  refine PySem.W.callWith_KW0 (h₀ := X.base) I.ok.mod.kin M.kp hall (thn (ha.run pos pins s σ H _ I h) fun ws s1 ⟨vs, H1, I1, r, q⟩ => ⟨I1.kIn, ?_⟩) hpl
  rw [hks]
  exact wpAny_call (run_mkG (us := []) (ws := ws) M F hr gd tk (fun s' self hk hl => hb s' self ws hk (by rw [List.length_cons, hp] at hl; omega)) I1 r q)
theorem de_makeK {X : Cx} {x : Str} {k j : Nat} {ps ks : List Str} {fm : FM} {p pos : Pos} {kws : List Keyword} {gs : List ME} (cm : CalMK X.prog X.w X.K X.mg X.base x j ps ks fm) (hr : Room k X.A) (hj : j + 1 ≤ k) (gd : X.A.guards = some []) (tk : Takes X W) (hp : ps.length = ks.length + 1) (ha : DK X W kws gs) (hg : Gl X x := by rfl)
    (hall : (backToKw pos (keywordEach kws X.env)).all (·.1.isSome) = true := by rfl) (hks : (backToKw pos (keywordEach kws X.env)).filterMap (·.1) = ks := by rfl) (hdb : (x == ("__debug__" : Str)) = false := by decide)
    (hpl : ((backTo pos (starEach [] X.env)).any (·.1) || (backToKw pos (keywordEach kws X.env)).any (·.1.isNone)) = false := by rfl) : DE X W (.Call (.Name x p) [] kws pos) (mMake x fm gs) := by
  obtain ⟨C, f, fd, hm, M, F, bd⟩ := cm
  obtain ⟨t, pt, gt⟩ := ha
  exact ⟨_, pe_makeK M F (hr.mono hj) gd tk hg hm bd hp pt hall hks hdb hpl, good_make (g := ⟨X.K, X.mg⟩) gt hm fm⟩
/-- for the keyword bindings of an __init__ -/
theorem Fun.bindsK {K : PySem.W.Frag} {x qual : Str} {st : Stmt} {f : Addr} {fd : FuncData} {ps ks : List Str} (F : L2.Fun K x qual st f fd)
    (kb : ∀ (kV doc pm : Value) (an : Option Addr) (cdv ct : Value) (self : Value) (ws : List Value), ws.length = ks.length → bindArgs (PySem.W.fnOf x qual (defArgs st) (defBody st) (defScope st) .none kV doc pm an cdv ct) ⟨[self], ks.zip ws⟩ = pure (ps.zip (self :: ws))) :
    ∀ (s : Shared) (self : Value) (ws : List Value), K.In s.heap → ws.length = ks.length → BindsTo s fd ⟨[self], ks.zip ws⟩ (ps.zip (self :: ws)) := by
  obtain ⟨oc, od, kV, doc, pm, an, cdv, ct, osl, rfl, lk, hcd⟩ := F.ex
  exact fun s self ws _ h => .of_eq (kb kV doc pm an cdv ct self ws h)
end DL
namespace DL
open PySem PySem.Spec L2
variable {g : G} {W : WX}
/-! ### an object is made; its arguments may be looked at -/
def mkEndL (env : Env) (as : List AV) : Res (Rv × Env) → Res (Rv × Env)
  | .ok (.val .none, .ow .pn d :: r) => .ok (.new d, putBack as r env)
  | .ex c d (_ :: r) => .ex c d (putBack as r env)
  | _ => .stuck
def mMakeL (c : Str) (fm : FM) (ms : List Md) (fs : List ME) : ME := fun env => evAs ms fs env >>= fun z =>
  if noDup (slotsOf z.1) = true then match mkArgs z.2 z.1 with
    | some ae => mkEndL z.2 z.1 (fm (.ow .pn (insD c [] []) :: ae))
    | none => .stuck
  else .stuck
theorem slots_lt {F : Hp} {σ : St} : ∀ {vs : List V} {as : List AV}, Paired (AvOk g F σ) vs as → ∀ i ∈ slotsOf as, i < σ.length
  | _, _, .nil, i, h => by simp [slotsOf] at h
  | _, a :: as, .cons h t, i, hi => by
    cases a with
    | d d => exact slots_lt t i hi
    | s n =>
      rcases List.mem_cons.mp hi with e | e
      · subst e; exact lt_of_get (show σ[i]? = _ from h)
      · exact slots_lt t i e
    | l n =>
      rcases List.mem_cons.mp hi with e | e
      · subst e; exact lt_of_get (show σ[i]? = _ from h)
      · exact slots_lt t i e
theorem argSl_app {env ex : Env} {a : AV} (h : ∀ i, a.at? = some i → i < env.length) : argSl (env ++ ex) a = argSl env a := by
  cases a with
  | d d => rfl
  | s n => unfold argSl; dsimp only; rw [List.getElem?_append_left (h n rfl)]
  | l n => unfold argSl; dsimp only; rw [List.getElem?_append_left (h n rfl)]
theorem mkArgs_app {env ex : Env} : ∀ {as : List AV}, (∀ i ∈ slotsOf as, i < env.length) → mkArgs (env ++ ex) as = mkArgs env as
  | [], _ => rfl
  | a :: as, h => by
    unfold mkArgs
    have h1 : ∀ i, a.at? = some i → i < env.length := fun i e => by cases a <;> cases e <;> exact h i (by simp [slotsOf])
    have h2 : ∀ i ∈ slotsOf as, i < env.length := fun i e => h i (by cases a <;> simp [slotsOf, e])
    rw [argSl_app h1, mkArgs_app h2]
theorem putBack_app {w : Sl} : ∀ {as : List AV} {ts env : Env}, (∀ i ∈ slotsOf as, i < env.length) → putBack as ts (env ++ [w]) = putBack as ts env ++ [w]
  | [], _, _, _ => by simp [putBack]
  | .d _ :: as, [], _, _ => by simp [putBack]
  | .s _ :: as, [], _, _ => by simp [putBack]
  | .l _ :: as, [], _, _ => by simp [putBack]
  | .d _ :: as, t :: ts, env, h => by
    rw [putBack, putBack]
    exact putBack_app fun i e => h i (by simp [slotsOf, e])
  | .s n :: as, t :: ts, env, h => by
    have hn : n < env.length := h n (by simp [slotsOf])
    have ih := putBack_app (w := w) (as := as) (ts := ts) (env := env) fun i e => h i (by simp [slotsOf, e])
    have hl : n < (putBack as ts env).length := by rw [putBack_len]; exact hn
    rw [putBack_one n rfl, putBack_one n rfl, List.getElem?_append_left hn, ih]
    cases hq : env[n]? with
    | none => rfl
    | some s0 =>
      cases s0 with
      | ow k d0 =>
        cases t with
        | ow k1 d => exact List.set_append_left _ _ hl
        | _ => rfl
      | _ => rfl
  | .l n :: as, t :: ts, env, h => by
    have hn : n < env.length := h n (by simp [slotsOf])
    have ih := putBack_app (w := w) (as := as) (ts := ts) (env := env) fun i e => h i (by simp [slotsOf, e])
    have hl : n < (putBack as ts env).length := by rw [putBack_len]; exact hn
    rw [putBack_one n rfl, putBack_one n rfl, List.getElem?_append_left hn, ih]
    cases hq : env[n]? with
    | none => rfl
    | some s0 =>
      cases s0 with
      | ow k d0 =>
        cases t with
        | ow k1 d => exact List.set_append_left _ _ hl
        | _ => rfl
      | _ => rfl
theorem AvOk.app {F : Hp} {σ ex : St} {v : V} {a : AV} (h : AvOk g F σ v a) : AvOk g F (σ ++ ex) v a := by
  cases a with
  | d d => exact h
  | s n => exact (List.getElem?_append_left (lt_of_get (show σ[n]? = _ from h))).trans h
  | l n => exact (List.getElem?_append_left (lt_of_get (show σ[n]? = _ from h))).trans h
theorem paired_app {F : Hp} {σ ex : St} : ∀ {vs : List V} {as : List AV}, Paired (AvOk g F σ) vs as → Paired (AvOk g F (σ ++ ex)) vs as
  | _, _, .nil => .nil
  | _, _, .cons h t => .cons h.app (paired_app t)
/-- with one own object more, behind -/
theorem EnvOk.more {F H H2 : Hp} {σ : St} {env : Env} {x : Addr} {d : D} (k : EnvOk g F H σ env) (sub : Sub H H2) (hx : H x = none) (w : OwnAt g F H2 x d) : EnvOk g F H2 (σ ++ [some (.ref x)]) (env ++ [.ow .fr d]) := by
  have fx : F x = none := (k.fresh hx).1
  have at_ : ∀ i s, (env ++ [Sl.ow .fr d])[i]? = some s → (env[i]? = some s ∧ i < env.length) ∨ (i = env.length ∧ s = .ow .fr d) := fun i s e => by
    by_cases h : i < env.length
    · rw [List.getElem?_append_left h] at e; exact .inl ⟨e, h⟩
    · rw [List.getElem?_append_right (by omega)] at e
      have l := lt_of_get e
      have : i = env.length := by simp at l; omega
      subst this
      simp at e
      exact .inr ⟨rfl, e.symm⟩
  have nown : ∀ i, ¬ Adr σ env i x := fun i ⟨⟨kd, d2, w1⟩, w2⟩ => by
    obtain ⟨o, u1, b, u2, u3, u4⟩ := k.sl i _ w1
    rw [w2] at u1; cases u1; cases u2
    obtain ⟨_, u5⟩ := u4.there
    rw [hx] at u5; cases u5
  have adr : ∀ i a, Adr (σ ++ [some (.ref x)]) (env ++ [Sl.ow .fr d]) i a → (Adr σ env i a) ∨ (i = env.length ∧ a = x) := fun i a ⟨⟨kd, d2, w1⟩, w2⟩ => by
    rcases at_ i _ w1 with ⟨q, l⟩ | ⟨q, _⟩
    · rw [List.getElem?_append_left (by rw [k.len]; exact l)] at w2; exact .inl ⟨⟨_, _, q⟩, w2⟩
    · subst q
      rw [List.getElem?_append_right (by rw [k.len]; omega)] at w2
      simp [k.len] at w2
      exact .inr ⟨rfl, w2.symm⟩
  refine ⟨by simp [k.len], k.sub.trans sub, fun i s e => ?_, fun i j a h1 h2 => ?_⟩
  · rcases at_ i s e with ⟨q, l⟩ | ⟨q1, q2⟩
    · obtain ⟨o, h1, h2⟩ := k.sl i s q
      refine ⟨o, by rw [List.getElem?_append_left (by rw [k.len]; exact l)]; exact h1, ?_⟩
      cases s with
      | no => trivial
      | fz d => exact h2
      | ow kd d =>
        obtain ⟨a, h3, h4, h5⟩ := h2
        exact ⟨a, h3, h4, h5.mono .refl fun o e => sub a o e⟩
    · subst q1; subst q2
      exact ⟨some (.ref x), by rw [List.getElem?_append_right (by rw [k.len]; omega)]; simp [k.len], x, rfl, fx, w⟩
  · rcases adr i a h1 with q1 | ⟨q1, q2⟩ <;> rcases adr j a h2 with q3 | ⟨q3, q4⟩
    · exact k.dis i j a q1 q3
    · subst q4; exact absurd q1 (nown i)
    · subst q2; exact absurd q3 (nown j)
    · rw [q1, q3]
/-- and without it again -/
theorem drop_last {F H H2 F' H' : Hp} {σ : St} {env pb : Env} {x : Addr} {d : D} {w : Sl} (k : EnvOk g F H σ env) (sub : Sub H H2) (hx : H x = none) (hl : pb.length = env.length)
    (y1 : Ext F H2 (Own (σ ++ [some (.ref x)]) (env ++ [.ow .fr d])) F' H' (Own (σ ++ [some (.ref x)]) (pb ++ [w]))) (y2 : EnvOk g F' H' (σ ++ [some (.ref x)]) (pb ++ [w])) (y3 : Keep (σ ++ [some (.ref x)]) (env ++ [.ow .fr d]) (σ ++ [some (.ref x)]) (pb ++ [w])) :
    Ext F H (Own σ env) F' H' (Own σ pb) ∧ EnvOk g F' H' σ pb ∧ Keep σ env σ pb := by
  have pre : ∀ (e : Env) (w : Sl) (i : Nat) (a : Addr), e.length = env.length → Adr σ e i a → Adr (σ ++ [some (.ref x)]) (e ++ [w]) i a := fun e w i a he ⟨⟨kd, d2, w1⟩, w2⟩ =>
    ⟨⟨kd, d2, by rw [List.getElem?_append_left (lt_of_get w1)]; exact w1⟩, by rw [List.getElem?_append_left (lt_of_get w2)]; exact w2⟩
  have own : ∀ b, Own (σ ++ [some (.ref x)]) (env ++ [.ow .fr d]) b → H b = none ∨ Own σ env b := fun b ⟨i, ⟨kd, d2, w1⟩, w2⟩ => by
    by_cases h : i < env.length
    · rw [List.getElem?_append_left h] at w1
      rw [List.getElem?_append_left (by rw [k.len]; exact h)] at w2
      exact .inr ⟨i, ⟨_, _, w1⟩, w2⟩
    · have l := lt_of_get w1
      have : i = env.length := by simp at l; omega
      subst this
      rw [List.getElem?_append_right (by rw [k.len]; omega)] at w2
      simp [k.len] at w2
      subst w2
      exact .inl hx
  have none2 : ∀ b, H2 b = none → H b = none := fun b h => by
    cases q : H b with
    | none => rfl
    | some o => rw [sub b o q] at h; cases h
  refine ⟨⟨y1.sub, fun b o h n => y1.keep b o (sub b o h) fun z => (own b z).elim (fun q => by rw [q] at h; cases h) n, fun b h => y1.dom b fun q => h (none2 b q), fun b h h' => (y1.new b h h').elim (fun q => .inl (none2 b q)) (own b), fun b ⟨i, q⟩ => (y1.own b ⟨i, pre pb w i b hl q⟩).elim (fun q => .inl (none2 b q)) (own b)⟩,
    ⟨by rw [k.len, hl], y2.sub, fun i s e => ?_, fun i j a h1 h2 => y2.dis i j a (pre pb w i a hl h1) (pre pb w j a hl h2)⟩, fun i kd d2 e n => ?_⟩
  · have l := lt_of_get e
    obtain ⟨o, h1, h2⟩ := y2.sl i s (by rw [List.getElem?_append_left l]; exact e)
    rw [List.getElem?_append_left (by rw [k.len, ← hl]; exact l)] at h1
    exact ⟨o, h1, h2⟩
  · have l := lt_of_get e
    obtain ⟨_, d', h2, h3⟩ := y3 i kd d2 (by rw [List.getElem?_append_left l]; exact e) n
    rw [List.getElem?_append_left (by rw [hl]; exact l)] at h2
    exact ⟨rfl, d', h2, h3⟩
theorem good_makeL {t : TA} {fs : List ME} {C : Addr} {c : Str} (h : AllE g W t fs) (hc : g.mg c = some (.ref C)) (fm : FM) (ms : List Md) : GoodE g W (tMakeG g C fm W t) (mMakeL c fm ms fs) := fun F H σ env Q k p => by
  refine h.as ms F H σ env _ k (Post.bind RE.early p fun as e1 F1 H1 vs x1 k1 kp1 ha p1 => ?_)
  have ha : Paired (AvOk g F1 σ) vs as := ha
  by_cases nd : noDup (slotsOf as) = true
  · simp only [nd, if_true] at p1
    cases hm : mkArgs e1 as with
    | none => rw [hm] at p1; exact p1.elim
    | some ae =>
      rw [hm] at p1
      simp only at p1
      intro x dx nx ndx ne
      have sub1 : Sub H1 (upd (upd H1 dx (.own x)) x (.ins C dx [])) := fun b o e => by
        have n1 : b ≠ x := fun z => by subst z; rw [nx] at e; cases e
        have n2 : b ≠ dx := fun z => by subst z; rw [ndx] at e; cases e
        rw [upd_ne n1, upd_ne n2]; exact e
      have kx : EnvOk g F1 (upd (upd H1 dx (.own x)) x (.ins C dx [])) (σ ++ [some (.ref x)]) (e1 ++ [.ow .fr (insD c [] [])]) := k1.more sub1 nx (.ins hc upd_same rfl .nil rfl)
      have slt : ∀ i ∈ slotsOf as, i < e1.length := fun i hi => by rw [← k1.len]; exact slots_lt ha i hi
      have hax : Paired (AvOk g F1 (σ ++ [some (.ref x)])) (.ref x :: vs) (.s e1.length :: as) := .cons (show (σ ++ [some (V.ref x)])[e1.length]? = some (some (.ref x)) by rw [List.getElem?_append_right (by rw [k1.len]; omega)]; simp [k1.len]) (paired_app ha)
      have ndx' : noDup (slotsOf (.s e1.length :: as)) = true := by
        show (!(slotsOf as).contains e1.length && noDup (slotsOf as)) = true
        rw [nd, Bool.and_true, Bool.not_eq_true', List.contains_eq_mem, decide_eq_false_iff_not]
        exact fun z => Nat.lt_irrefl _ (slt _ z)
      have hn : (e1 ++ [Sl.ow .fr (insD c [] [])])[e1.length]? = some (.ow .fr (insD c [] [])) := by rw [List.getElem?_append_right (Nat.le_refl _)]; simp
      have hmx : mkArgs (e1 ++ [.ow .fr (insD c [] [])]) (.s e1.length :: as) = some (.ow .pn (insD c [] []) :: ae) := by
        unfold mkArgs
        rw [mkArgs_app slt, hm]
        unfold argSl
        dsimp only
        rw [hn]
      refine ⟨F1, _, (args_ok kx hax ndx' hmx).1, ?_⟩
      have pbl : ∀ r, (putBack as r e1).length = e1.length := fun r => putBack_len _ _ _
      have pb : ∀ (t : Sl) (r : Env), ∃ w, putBack (.s e1.length :: as) (t :: r) (e1 ++ [.ow .fr (insD c [] [])]) = putBack as r e1 ++ [w] ∧ ∀ kd d, t = .ow kd d → w = .ow .fr d := fun t r => by
        rw [putBack_one _ rfl, hn, putBack_app slt]
        cases t with
        | ow kd d =>
          refine ⟨.ow .fr d, ?_, fun kd' d' e => by cases e; rfl⟩
          dsimp only
          rw [List.set_append_right _ _ (by rw [pbl]; exact Nat.le_refl _), pbl]
          simp
        | fz d => exact ⟨_, rfl, fun _ _ e => by cases e⟩
        | no => exact ⟨_, rfl, fun _ _ e => by cases e⟩
      cases hf : fm (Sl.ow .pn (insD c [] []) :: ae) with
      | stuck => rw [hf] at p1; exact p1.elim
      | ex c' d e =>
        rw [hf] at p1
        cases e with
        | nil => exact p1.elim
        | cons s r =>
          intro F' H' dd C' v y k' kp a1 a2 a3
          obtain ⟨y1, y2, y3⟩ := call_back kx hax ndx' hmx y k' kp
          obtain ⟨w, e, _⟩ := pb s r
          rw [e] at y1 y2 y3
          obtain ⟨z1, z2, z3⟩ := drop_last k1 sub1 nx (pbl r) y1 y2 y3
          exact p1 F' H' dd C' v z1 z2 z3 a1 a2 a3
      | ok z =>
        obtain ⟨r, e⟩ := z
        rw [hf] at p1
        cases r with
        | new d => exact p1.elim
        | sl i => exact p1.elim
        | val d0 =>
          cases d0 with
          | none =>
            cases e with
            | nil => exact p1.elim
            | cons s r =>
              cases s with
              | ow kd d =>
                cases kd with
                | pn =>
                  intro F' H' v y k' kp rv
                  have rv : Den g F' v .none := rv
                  obtain ⟨y1, y2, y3⟩ := call_back kx hax ndx' hmx y k' kp
                  obtain ⟨w, e, hw⟩ := pb (.ow .pn d) r
                  have hw := hw _ _ rfl
                  subst hw
                  rw [e] at y1 y2 y3
                  obtain ⟨z1, z2, z3⟩ := drop_last k1 sub1 nx (pbl r) y1 y2 y3
                  have en : (putBack as r e1 ++ [Sl.ow .fr d])[e1.length]? = some (.ow .fr d) := by rw [List.getElem?_append_right (by rw [pbl]; exact Nat.le_refl _), pbl]; simp
                  have sn : (σ ++ [some (V.ref x)])[e1.length]? = some (some (.ref x)) := by rw [List.getElem?_append_right (by rw [k1.len]; omega)]; simp [k1.len]
                  obtain ⟨o, q1, a, q2, q3, q4⟩ := y2.sl _ _ en
                  rw [sn] at q1; cases q1; cases q2
                  refine ⟨Pk.non (g := g) (F := F') (H := F') (.inl rv), p1 F' H' (.ref x) z1 z2 z3 ⟨x, rfl, nx, q3, fun ⟨i, ⟨kd, d2, w1⟩, w2⟩ => ?_, q4⟩⟩
                  have l := lt_of_get w1
                  have := y2.dis i e1.length x ⟨⟨kd, d2, by rw [List.getElem?_append_left l]; exact w1⟩, by rw [List.getElem?_append_left (lt_of_get w2)]; exact w2⟩ ⟨⟨_, _, en⟩, sn⟩
                  rw [pbl] at l
                  omega
                | _ => exact p1.elim
              | _ => exact p1.elim
          | _ => exact p1.elim
  · simp only [nd, if_false] at p1; exact p1.elim
theorem de_makeL {X : Cx} {x : Str} {k j : Nat} {ps : List Str} {fm : FM} {p pos : Pos} {e : Expr} {es : List Expr} {fs : List ME} (cm : CalM X.prog X.w X.K X.mg X.base x j ps fm) (hr : Room k X.A) (hj : j + 1 ≤ k) (gd : X.A.guards = some []) (tk : Takes X W) (ms : List Md) (ha : DA X W (e :: es) fs) (hg : Gl X x := by rfl)
    (hdb : (x == ("__debug__" : Str)) = false := by decide) (he : starEach (e :: es) X.env = (false, eval e X.env) :: starEach es X.env := by rfl) (hpl : (backTo pos (starEach es X.env)).any (·.1) = false := by rfl) : DE X W (.Call (.Name x p) (e :: es) [] pos) (mMakeL x fm ms fs) := by
  obtain ⟨C, f, fd, hm, M, F, bd⟩ := cm
  obtain ⟨t, pt, gt⟩ := ha
  exact ⟨_, pe_makeG M F (hr.mono hj) gd tk hg hm bd pt hdb he hpl, good_makeL (g := ⟨X.K, X.mg⟩) gt hm fm ms⟩
end DL
namespace DL
open PySem PySem.Spec L2
variable {g : G} {W : WX}
/-! ### x, y = a, b where the tuple is laid (names that inner blocks read) -/
theorem HOkL.grow {F H F' H' : Hp} {σ : St} {env : Env} (x : Grow F H F' H') : ∀ {H0 : Hp} {vs : List V} {rs : List Rv}, HOkL g F H σ env H0 vs rs → HOkL g F' H' σ env H0 vs rs
  | _, _, _, .nil => .nil
  | _, _, _, .cons h1 h2 h3 h4 h5 => .cons (h1.ext x.ext) h2 h3 h4 (HOkL.grow x h5)
theorem par_runT {t : TA} {fs : List ME} {is : List Nat} (h : AllE g W t fs) {F H : Hp} {σ : St} {env : Env} {Dn : Ends} {Q : List V → Hp → Prop} (k : EnvOk g F H σ env) (p : PostS g W F H σ env Dn (mPar is fs env)) (q : ∀ vs H1, vs.length = is.length → (∀ a, H1 a = none → Dn.nx (setAll σ is vs) (upd H1 a (.tup vs))) → Q vs H1) : t σ H Q := by
  refine h.hs F H σ env _ k ?_
  unfold mPar at p
  cases hm : evHs fs env with
  | stuck => rw [hm] at p; exact p.elim
  | ex c d e => rw [hm] at p; exact fun F' H' dd C v => p F' H' σ dd C v
  | ok z =>
    obtain ⟨rs, e⟩ := z
    rw [hm, Res.ok_bind] at p
    intro F1 H1 vs x1 k1 kp1 hrs
    have hrs : HOkL g F1 H1 σ e H vs rs := hrs
    refine q vs H1 (by rw [hrs.len, storeHs_len p.stuck_ne]) fun a ha => ?_
    have sub : Sub H1 (upd H1 a (.tup vs)) := fun b o e => by
      have : b ≠ a := fun z => by subst z; rw [ha] at e; cases e
      rw [upd_ne this]; exact e
    have gr : Grow F1 H1 F1 (upd H1 a (.tup vs)) := ⟨.refl, sub, fun b h h' => absurd h h', k1.sub.trans sub⟩
    exact storeHs_ok (fun _ z => z) (hrs.grow gr) (x1.trans gr.ext) (k1.grow gr) kp1 p
def gNames : List Nat → TGs
  | [] => gNil
  | i :: is => gCons (gName i) (gNames is)
theorem gNames_all : ∀ {is : List Nat} {vs : List V} {σ : St} {H : Hp} {Q : St → Hp → Prop}, vs.length = is.length → Q (setAll σ is vs) H → gNames is vs σ H Q
  | [], [], _, _, _, _, q => ⟨rfl, q⟩
  | [], _ :: _, _, _, _, h, _ => by simp at h
  | _ :: _, [], _, _, _, h, _ => by simp at h
  | i :: is, v :: vs, σ, H, Q, h, q => ⟨v, vs, rfl, gNames_all (is := is) (by simpa using h) q⟩
theorem good_parT {t : TA} {fs : List ME} {is : List Nat} (h : AllE g W t fs) (hl : is.length ≤ 1000) : GoodS g W (tAsg (tTup t) (gTup g.K is.length (gNames is))) (mPar is fs) := fun F H σ env Dn k p =>
  par_runT h k p fun vs H1 hlen q => ⟨by rw [hlen]; exact Nat.le_trans hl (by decide), fun a ha => ⟨a, vs, rfl, .inl (.inl upd_same), hlen, gNames_all hlen (q a ha)⟩⟩
section
variable {X : Cx} {fs : List ME} {a b c : Expr} {px py pz pt pos : Pos}
theorem ds_parT2 {i j : Nat} {x y : Str} {kt k2 pt2} (hc : X.calm = true) (hN : X.N.Nodup) (hi : X.N[i]? = some x) (hj : X.N[j]? = some y) (hx : Loc X.env.scope x) (hy : Loc X.env.scope y) (ha : DA X W [a, b] fs)
    (fx : X.fn x = true ∨ X.env.scope.names.lookup x = some .local := by first | exact .inl rfl | exact .inr rfl) (fy : X.fn y = true ∨ X.env.scope.names.lookup y = some .local := by first | exact .inl rfl | exact .inr rfl)
    (e1 : (assignEach [.Name x px, .Name y py] X.env).map (·.2) = assign (.Name x px) X.env :: (assignEach [.Name y py] X.env).map (·.2) := by rfl) (e2 : (assignEach [.Name y py] X.env).map (·.2) = assign (.Name y py) X.env :: (assignEach [] X.env).map (·.2) := by rfl)
    (hn : (assignEach [.Name x px, .Name y py] X.env).length = 2 := by rfl) (hst : (assignEach [.Name x px, .Name y py] X.env).findIdx? (·.1) = none := by rfl)
    (hs : swapsWithSole [.Tuple [.Name x px, .Name y py] kt pt] (.Tuple [a, b] k2 pt2) pos.line X.env = pure false := by rfl) (hw : swappedStores [.Tuple [.Name x px, .Name y py] kt pt] (.Tuple [a, b] k2 pt2) X.env = pure none := by rfl)
    (h1 : (assignEach [.Tuple [.Name x px, .Name y py] kt pt] X.env).map (·.2) = [assign (.Tuple [.Name x px, .Name y py] kt pt) X.env] := by rfl) :
    DS X W (.Assign [.Tuple [.Name x px, .Name y py] kt pt] (.Tuple [a, b] k2 pt2) pos) (mPar [i, j] fs) := by
  obtain ⟨t, pt, gt⟩ := ha
  exact ⟨_, ps_asg (pe_tup pt) (pg_tup (n := 2) hc (pgs_cons (pg_name hN hi hx fx) (pgs_cons (pg_name hN hj hy fy) pgs_nil e2) e1) hn hst) hs hw h1, good_parT (is := [i, j]) gt (by simp)⟩
theorem ds_parT3 {i j l : Nat} {x y z : Str} {kt k2 pt2} (hc : X.calm = true) (hN : X.N.Nodup) (hi : X.N[i]? = some x) (hj : X.N[j]? = some y) (hl : X.N[l]? = some z) (hx : Loc X.env.scope x) (hy : Loc X.env.scope y) (hz : Loc X.env.scope z) (ha : DA X W [a, b, c] fs)
    (fx : X.fn x = true ∨ X.env.scope.names.lookup x = some .local := by first | exact .inl rfl | exact .inr rfl) (fy : X.fn y = true ∨ X.env.scope.names.lookup y = some .local := by first | exact .inl rfl | exact .inr rfl) (fz : X.fn z = true ∨ X.env.scope.names.lookup z = some .local := by first | exact .inl rfl | exact .inr rfl)
    (e1 : (assignEach [.Name x px, .Name y py, .Name z pz] X.env).map (·.2) = assign (.Name x px) X.env :: (assignEach [.Name y py, .Name z pz] X.env).map (·.2) := by rfl) (e2 : (assignEach [.Name y py, .Name z pz] X.env).map (·.2) = assign (.Name y py) X.env :: (assignEach [.Name z pz] X.env).map (·.2) := by rfl)
    (e3 : (assignEach [.Name z pz] X.env).map (·.2) = assign (.Name z pz) X.env :: (assignEach [] X.env).map (·.2) := by rfl)
    (hn : (assignEach [.Name x px, .Name y py, .Name z pz] X.env).length = 3 := by rfl) (hst : (assignEach [.Name x px, .Name y py, .Name z pz] X.env).findIdx? (·.1) = none := by rfl)
    (hs : swapsWithSole [.Tuple [.Name x px, .Name y py, .Name z pz] kt pt] (.Tuple [a, b, c] k2 pt2) pos.line X.env = pure false := by rfl) (hw : swappedStores [.Tuple [.Name x px, .Name y py, .Name z pz] kt pt] (.Tuple [a, b, c] k2 pt2) X.env = pure none := by rfl)
    (h1 : (assignEach [.Tuple [.Name x px, .Name y py, .Name z pz] kt pt] X.env).map (·.2) = [assign (.Tuple [.Name x px, .Name y py, .Name z pz] kt pt) X.env] := by rfl) :
    DS X W (.Assign [.Tuple [.Name x px, .Name y py, .Name z pz] kt pt] (.Tuple [a, b, c] k2 pt2) pos) (mPar [i, j, l] fs) := by
  obtain ⟨t, pt, gt⟩ := ha
  exact ⟨_, ps_asg (pe_tup pt) (pg_tup (n := 3) hc (pgs_cons (pg_name hN hi hx fx) (pgs_cons (pg_name hN hj hy fy) (pgs_cons (pg_name hN hl hz fz) pgs_nil e3) e2) e1) hn hst) hs hw h1, good_parT (is := [i, j, l]) gt (by simp)⟩
end
end DL
namespace DL
open PySem PySem.Spec L2
noncomputable def B_law_pool : MS := (mSeq (mAsg (mC (.int 0)) (mName 2))
  (mSeq (mIfS (mTest (mBin dLt (mVar 1) (mCallB dLen [(mVar 0)]))) (mAsg (mBin dIx (mVar 0) (mVar 1)) (mName 2)) mPass)
  (mRet (mList [(mCallB dMax2 [(mC (.int 0)), (mBin dSub (mCallB dAbs [(mVar 2)]) (mBin dPow (mC (.int 10)) (mC (.int 18))))]), (mBin dAdd (mBin dMod (mCallB dInt [(mVar 2)]) (mC (.int 2305843009213693951))) (mBin dMul (mC (.int 7368787)) (mBin dAdd (mVar 1) (mC (.int 1))))), (mC (.int 0))]))))
noncomputable def M_law_pool : FM := mDef 2 3 B_law_pool

noncomputable def B_law_draw : MS := (mSeq (mIfS (mTest (mBin dGt (mBin dIx (mVar 0) (mC (.int 0))) (mC (.int 0)))) (mSeq (mAsg (mBin dMod (mCallB dInt [(mBin dIx (mVar 0) (mC (.int 0)))]) (mVar 1)) (mName 2))
  (mSeq (mSetIx 0 (mBin dDiv (mBin dIx (mVar 0) (mC (.int 0))) (mVar 1)) (mC (.int 0)))
  (mRet (mVar 2)))) mPass)
  (mSeq (mSetIx 0 (mBin dAdd (mBin dIx (mVar 0) (mC (.int 2))) (mC (.int 1))) (mC (.int 2)))
  (mSeq (mAsg (mBin dMod (mCallB dInt [(mBin dPow (mBin dAdd (mBin dIx (mVar 0) (mC (.int 1))) (mBin dMul (mC (.int 15485863)) (mBin dIx (mVar 0) (mC (.int 2))))) (mC (.int 3)))]) (mC (.int 162259276829213363391578010288127))) (mName 3))
  (mSeq (mAsg (mBin dMod (mCallB dInt [(mBin dPow (mBin dAdd (mVar 3) (mBin dMul (mC (.int 32452843)) (mBin dIx (mVar 0) (mC (.int 2))))) (mC (.int 3)))]) (mC (.int 170141183460469231731687303715884105727))) (mName 3))
  (mRet (mBin dMod (mCallB dInt [(mBin dDiv (mVar 3) (mC (.int 1048576)))]) (mVar 1)))))))
noncomputable def M_law_draw : FM := mDef 2 4 B_law_draw

noncomputable def B_law_line_k36 : MS := (mSeq (mAsg (mBin dIx (mList [(mC (.str "a")), (mC (.str "ab")), (mC (.str "ab")), (mC (.str "abcdefghijklmnopqrstuvwxyz"))]) (mCallF M_law_draw [.p, .c] [(mVar 0), (mC (.int 4))])) (mName 2))
  (mSeq (mAsg (mBin dIx (mList [(mBin dAdd (mC (.int 1)) (mCallF M_law_draw [.p, .c] [(mVar 0), (mC (.int 4))])), (mBin dAdd (mC (.int 1)) (mCallF M_law_draw [.p, .c] [(mVar 0), (mC (.int 20))])), (mBin dAdd (mC (.int 1)) (mCallF M_law_draw [.p, .l] [(mVar 0), (mVar 1)]))]) (mCallF M_law_draw [.p, .c] [(mVar 0), (mC (.int 3))])) (mName 3))
  (mSeq (mAsg (mMeth dJoin isStrD (mC (.str "")) [(mLc (mRange rngOf1 [(mVar 3)]) (Tg.m (.nm 5)) mYes (mBin dIx (mVar 2) (mCallF M_law_draw [.p, .c] [(mVar 0), (mCallB dLen [(mVar 2)])])) [5])]) (mName 4))
  (mSeq (mAsg (mBin dMul (mVar 4) (mBin dAdd (mC (.int 1)) (mCallF M_law_draw [.p, .c] [(mVar 0), (mBin dDiv (mVar 1) (mCallB dLen [(mVar 4)]))]))) (mName 4))
  (mSeq (mIfS (mTest (mBin dEq (mCallF M_law_draw [.p, .c] [(mVar 0), (mC (.int 5))]) (mC (.int 0)))) (mSeq (mAsg (mCallF M_law_draw [.p, .c] [(mVar 0), (mCallB dLen [(mVar 4)])]) (mName 6))
  (mAsg (mBin dAdd (mBin dAdd (mSl dSl (mVar 4) mNoPart (mPart (mVar 6))) (mC (.str "b"))) (mSl dSl (mVar 4) (mPart (mBin dAdd (mVar 6) (mC (.int 1)))) mNoPart)) (mName 4))) mPass)
  (mRet (mVar 4)))))))
noncomputable def M_law_line_k36 : FM := mDef 2 7 B_law_line_k36

noncomputable def B_law_root : MS := (mSeq (mFor (mRange rngOf2 [(mC (.int 1)), (mBin dAdd (mCallB dLen [(mVar 0)]) (mC (.int 1)))]) (mName 1) (mIfS (mAnd (mTest (mBin dEq (mBin dMod (mCallB dLen [(mVar 0)]) (mVar 1)) (mC (.int 0)))) (mTest (mBin dEq (mBin dMul (mSl dSl (mVar 0) mNoPart (mPart (mVar 1))) (mBin dDiv (mCallB dLen [(mVar 0)]) (mVar 1))) (mVar 0)))) (mRet (mSl dSl (mVar 0) mNoPart (mPart (mVar 1)))) mPass))
  (mRet (mC (.str ""))))
noncomputable def M_law_root : FM := mDef 1 2 B_law_root

noncomputable def B_is_row : MS := (mRet (mCallB dAll [(mLc (mIter (mVar 0)) (Tg.m (.nm 1)) mYes (mBin dIn (mVar 1) (mC (.str "abcdefghijklmnopqrstuvwxyz"))) [1])]))
noncomputable def M_is_row : FM := mDef 1 2 B_is_row

noncomputable def B_check_text : MS := (mIfS (mNot (mTest (mCallF M_is_row [.l] [(mVar 0)]))) mNever mPass)
noncomputable def M_check_text : FM := mDef 1 1 B_check_text

noncomputable def B_root_of : MS := (mSeq (mAsg (mC (.int 1)) (mName 1))
  (mSeq (mWhile (mOr (mTest (mBin dGt (mBin dMod (mCallB dLen [(mVar 0)]) (mVar 1)) (mC (.int 0)))) (mTest (mBin dNe (mBin dMul (mSl dSl (mVar 0) mNoPart (mPart (mVar 1))) (mBin dDiv (mCallB dLen [(mVar 0)]) (mVar 1))) (mVar 0)))) (mAug 1 dIAdd (mC (.int 1))))
  (mRet (mSl dSl (mVar 0) mNoPart (mPart (mVar 1))))))
noncomputable def M_root_of : FM := mDef 1 2 B_root_of

noncomputable def B_root : MS := (mSeq (mIfS (mTest (mBin dEq (mVar 0) (mC (.str "")))) mNever mPass)
  (mSeq (mDrop (mCallF M_check_text [.c] [(mVar 0)]))
  (mRet (mTup [(mCallF M_root_of [.l] [(mVar 0)]), (mBin dDiv (mCallB dLen [(mVar 0)]) (mCallB dLen [(mCallF M_root_of [.l] [(mVar 0)])]))]))))
noncomputable def M_root : FM := mDef 1 1 B_root

noncomputable def B_law_right_k36 : MS := (mSeq (mAsg (mCallF M_law_line_k36 [.p, .c] [(mVar 0), (mBin dIx (mList [(mC (.int 20)), (mC (.int 400))]) (mCallF M_law_draw [.p, .c] [(mVar 0), (mC (.int 2))]))]) (mName 1))
  (mSeq (mAsg (mCallF M_law_root [.c] [(mVar 1)]) (mName 2))
  (mSeq (mAsg (mTup [(mVar 2), (mBin dDiv (mCallB dLen [(mVar 1)]) (mCallB dLen [(mVar 2)]))]) (mName 3))
  (mSeq (mIfS (mTest (mRNe (mRepr (mList [(mCallF M_root [.c] [(mVar 1)]), (mCallK M_root [0] 0 1 [] [(mVar 1)])])) (mRepr (mList [(mVar 3), (mVar 3)])))) (mRet (mC (.bool false))) mPass)
  (mSeq (mAsg (mBin dAdd (mC (.int 1)) (mCallF M_law_draw [.p, .c] [(mVar 0), (mCallB dMax2 [(mC (.int 1)), (mBin dDiv (mC (.int 400)) (mCallB dLen [(mVar 2)]))])])) (mName 4))
  (mSeq (mIfS (mOr (mTest (mBin dNe (mCallF M_root [.c] [(mBin dMul (mVar 2) (mVar 4))]) (mTup [(mVar 2), (mVar 4)]))) (mTest (mBin dNe (mCallF M_root [.c] [(mVar 2)]) (mTup [(mVar 2), (mC (.int 1))])))) (mRet (mC (.bool false))) mPass)
  (mSeq (mAsg (mCallF M_law_draw [.p, .c] [(mVar 0), (mCallB dLen [(mVar 1)])]) (mName 5))
  (mSeq (mAsg (mCallF M_root [.c] [(mBin dAdd (mSl dSl (mVar 1) (mPart (mVar 5)) mNoPart) (mSl dSl (mVar 1) mNoPart (mPart (mVar 5))))]) (mName 6))
  (mSeq (mAsg (mBin dMod (mVar 5) (mCallB dLen [(mVar 2)])) (mName 7))
  (mRet (mVal (mAnd (mTest (mBin dEq (mVar 6) (mTup [(mBin dAdd (mSl dSl (mVar 2) (mPart (mVar 7)) mNoPart) (mSl dSl (mVar 2) mNoPart (mPart (mVar 7)))), (mBin dIx (mVar 3) (mC (.int 1)))]))) (mTest (mBin dEq (mCallF M_root [.c] [(mUn dRev (mVar 1))]) (mTup [(mUn dRev (mVar 2)), (mBin dIx (mVar 3) (mC (.int 1)))])))))))))))))))
noncomputable def M_law_right_k36 : FM := mDef 1 8 B_law_right_k36

noncomputable def B_law_k36 : MS := (mSeq (mFor (mRange rngOf1 [(mCallB dMax2 [(mC (.int 1)), (mCallB dMin2 [(mC (.int 5)), (mCallB dLen [(mVar 0)])])])]) (mName 1) (mSeq (mAsg (mCallF M_law_pool [.l, .c] [(mVar 0), (mVar 1)]) (mName 2))
  (mFor (mRange rngOf1 [(mC (.int 10))]) (mName 3) (mIfS (mNot (mTest (mCallF M_law_right_k36 [.p] [(mVar 2)]))) (mRet (mC (.bool false))) mPass))))
  (mRet (mC (.bool true))))
noncomputable def M_law_k36 : FM := mDef 1 4 B_law_k36
end DL
namespace DL
open PySem PySem.Spec L2
noncomputable def B_law_word : MS := (mRet (mMeth dJoin isStrD (mC (.str "")) [(mLc (mRange rngOf1 [(mBin dAdd (mC (.int 1)) (mCallF M_law_draw [.p, .l] [(mVar 0), (mVar 1)]))]) (Tg.m (.nm 3)) mYes (mBin dIx (mVar 2) (mCallF M_law_draw [.p, .c] [(mVar 0), (mCallB dLen [(mVar 2)])])) [3])]))
noncomputable def M_law_word : FM := mDef 3 4 B_law_word

noncomputable def B_law_lot : MS := (mSeq (mAsg (mBin dIx (mList [(mC (.str "ab")), (mC (.str "ab")), (mC (.str "abc")), (mC (.str "zq")), (mC (.str "abcdefghijklmnopqrstuvwxyz"))]) (mCallF M_law_draw [.p, .c] [(mVar 0), (mC (.int 5))])) (mName 3))
  (mSeq (mAsg (mList []) (mName 4))
  (mSeq (mFor (mRange rngOf1 [(mBin dAdd (mC (.int 1)) (mCallF M_law_draw [.p, .l] [(mVar 0), (mVar 1)]))]) (mName 5) (mSeq (mPar [6, 7] [(mCallF M_law_word [.p, .l, .c] [(mVar 0), (mVar 2), (mVar 3)]), (mCallF M_law_draw [.p, .c] [(mVar 0), (mC (.int 6))])])
  (mSeq (mIfS (mAnd (mTest (mBin dNe (mVar 4) (mList []))) (mTest (mBin dLt (mVar 7) (mC (.int 3))))) (mSeq (mPar [8, 9] [(mBin dIx (mVar 4) (mCallF M_law_draw [.p, .c] [(mVar 0), (mCallB dLen [(mVar 4)])])), (mBin dIx (mVar 4) (mCallF M_law_draw [.p, .c] [(mVar 0), (mCallB dLen [(mVar 4)])]))])
  (mSeq (mAsg (mBin dAdd (mC (.int 1)) (mCallF M_law_draw [.p, .c] [(mVar 0), (mCallB dLen [(mVar 8)])])) (mName 10))
  (mAsg (mBin dIx (mList [(mBin dAdd (mVar 8) (mVar 9)), (mSl dSl (mVar 8) mNoPart (mPart (mVar 10))), (mBin dAdd (mSl dSl (mVar 8) (mPart (mBin dSub (mVar 10) (mC (.int 1)))) mNoPart) (mSl dSl (mVar 9) mNoPart (mPart (mC (.int 1)))))]) (mVar 7)) (mName 6)))) mPass)
  (mIfS (mAnd (mTest (mBin dLe (mCallB dLen [(mVar 6)]) (mVar 2))) (mTest (mBin dNotIn (mVar 6) (mVar 4)))) (mAppend 4 (mVar 6)) mPass))))
  (mRet (mVar 4)))))
noncomputable def M_law_lot : FM := mDef 3 11 B_law_lot

noncomputable def B_law_known : MS := (mSeq (mAsg (mList [(mC (.str "a ab ba")), (mC (.str "aab ab aba")), (mC (.str "a ab bb")), (mC (.str "aa aaa")), (mC (.str "ab abab")), (mC (.str "a ba")), (mC (.str "abab")), (mC (.str "a b")), (mC (.str "ab abb baab"))]) (mName 1))
  (mSeq (mAsg (mBin dAdd (mVar 1) (mList [(mC (.str "aa ab ba bb")), (mC (.str "a ab")), (mC (.str "abc bcd cda dab")), (mC (.str "aba bab")), (mC (.str "ab ba")), (mC (.str "a abb bbab"))])) (mName 1))
  (mSeq (mAsg (mBin dAdd (mVar 1) (mList [(mC (.str "aaaaaaaa aaaaaaa")), (mC (.str "b ab aab aaab"))])) (mName 1))
  (mRet (mMeth dSplit isStrD (mBin dIx (mVar 1) (mCallF M_law_draw [.p, .c] [(mVar 0), (mC (.int 17))])) [(mC (.str " "))])))))
noncomputable def M_law_known : FM := mDef 1 2 B_law_known

noncomputable def B_law_some : MS := (mSeq (mIfS (mTest (mBin dEq (mCallF M_law_draw [.p, .c] [(mVar 0), (mC (.int 4))]) (mC (.int 0)))) (mRet (mCallF M_law_known [.p] [(mVar 0)])) mPass)
  (mRet (mCallF M_law_lot [.p, .c, .c] [(mVar 0), (mBin dIx (mList [(mC (.int 3)), (mC (.int 5)), (mC (.int 8))]) (mCallF M_law_draw [.p, .c] [(mVar 0), (mC (.int 3))])), (mBin dIx (mList [(mC (.int 3)), (mC (.int 5)), (mC (.int 8))]) (mCallF M_law_draw [.p, .c] [(mVar 0), (mC (.int 3))]))])))
noncomputable def M_law_some : FM := mDef 1 1 B_law_some

noncomputable def B_check_words : MS := (mSeq (mFor (mEnum (mVar 0)) (mTupG [(mName 1), (mName 2)]) (mIfS (mOr (mNot (mTest (mChain dLe dLe (mC (.int 1)) (mCallB dLen [(mVar 2)]) (mC (.int 8))))) (mOr (mNot (mTest (mCallF M_is_row [.c] [(mVar 2)]))) (mTest (mBin dIn (mVar 2) (mSl dSl (mVar 0) mNoPart (mPart (mVar 1))))))) mNever mPass))
  (mIfS (mNot (mTest (mChain dLe dLe (mC (.int 1)) (mCallB dLen [(mVar 0)]) (mC (.int 8))))) mNever mPass))
noncomputable def M_check_words : FM := mDef 1 3 B_check_words

noncomputable def B_Stock_init : MS := (mSeq (mDrop (mCallF M_check_words [.l] [(mVar 1)]))
  (mFldS "Stock" "kept_words" 0 (mCallB dTupOf [(mVar 1)])))
noncomputable def M_Stock_init : FM := mDef 2 2 B_Stock_init

noncomputable def B_begun_pair : MS := (mSeq (mFor (mIter (mVar 0)) (mName 1) (mFor (mIter (mVar 0)) (mName 2) (mIfS (mAnd (mTest (mBin dNe (mVar 1) (mVar 2))) (mTest (mBin dEq (mSl dSl (mVar 2) mNoPart (mPart (mCallB dLen [(mVar 1)]))) (mVar 1)))) (mRet (mTup [(mVar 1), (mVar 2)])) mPass)))
  (mRet (mC .none)))
noncomputable def M_begun_pair : FM := mDef 1 3 B_begun_pair

noncomputable def B_apart_from_left : MS := (mSeq (mAsg (mCallB dSorted [(mVar 0)]) (mName 1))
  (mSeq (mAsg (mCallF M_begun_pair [.l] [(mVar 1)]) (mName 2))
  (mSeq (mWhile (mTest (mBin dIsNot (mVar 2) (mC .none))) (mSeq (mAsg (mSl dSl (mBin dIx (mVar 2) (mC (.int 1))) (mPart (mCallB dLen [(mBin dIx (mVar 2) (mC (.int 0)))])) mNoPart) (mName 3))
  (mSeq (mAsg (mLc (mIter (mVar 1)) (Tg.m (.nm 4)) (mTest (mBin dNe (mVar 4) (mBin dIx (mVar 2) (mC (.int 1))))) (mVar 4) [4]) (mName 1))
  (mSeq (mAsg (mCallB dSorted [(mIf (mTest (mBin dIn (mVar 3) (mVar 1))) (mVar 1) (mListS [(true, (mVar 1)), (false, (mVar 3))]))]) (mName 1))
  (mAsg (mCallF M_begun_pair [.l] [(mVar 1)]) (mName 2))))))
  (mRet (mVar 1)))))
noncomputable def M_apart_from_left : FM := mDef 1 5 B_apart_from_left

noncomputable def B_left_hull : MS := (mRet (mCallF M_apart_from_left [.c] [(mUn (dFld "Stock" "kept_words") (mVar 0))]))
noncomputable def M_left_hull : FM := mDef 1 1 B_left_hull

noncomputable def B_law_begun : MS := (mSeq (mAsg (mList []) (mName 1))
  (mSeq (mFor (mIter (mVar 0)) (mName 2) (mExtend 1 (mLc (mIter (mVar 0)) (Tg.m (.nm 3)) (mAnd (mTest (mBin dNe (mVar 2) (mVar 3))) (mTest (mBin dEq (mSl dSl (mVar 3) mNoPart (mPart (mCallB dLen [(mVar 2)]))) (mVar 2)))) (mTup [(mVar 2), (mVar 3)]) [3])))
  (mRet (mVar 1))))
noncomputable def M_law_begun : FM := mDef 1 4 B_law_begun

noncomputable def B_law_less : MS := (mSeq (mPar [3, 4] [(mLc (mIter (mVar 0)) (Tg.m (.nm 5)) (mTest (mBin dNe (mVar 5) (mVar 2))) (mVar 5) [5]), (mSl dSl (mVar 2) (mPart (mCallB dLen [(mVar 1)])) mNoPart)])
  (mRet (mCallB dSorted [(mIf (mTest (mBin dIn (mVar 4) (mVar 3))) (mVar 3) (mBin dAdd (mVar 3) (mList [(mVar 4)])))])))
noncomputable def M_law_less : FM := mDef 3 6 B_law_less

noncomputable def B_law_alike_k21 : MS := (mSeq (mPar [3, 4] [(mList [(mTup [(mSl dSl (mVar 2) (mPart (mCallB dLen [(mVar 1)])) mNoPart), (mVar 2)])]), (mList [])])
  (mSeq (mWhile (mTest (mBin dNe (mVar 3) (mList []))) (mSeq (mAsg (mPopAt 3 (mC (.int 0))) (mTupG [(mName 5), (mName 6)]))
  (mSeq (mIfS (mTest (mBin dEq (mVar 5) (mC (.str "")))) (mRet (mVar 6)) mPass)
  (mIfS (mTest (mBin dNotIn (mVar 5) (mVar 4))) (mSeq (mAppend 4 (mVar 5))
  (mFor (mIter (mVar 0)) (mName 7) (mIfS (mTest (mBin dEq (mSl dSl (mVar 5) mNoPart (mPart (mCallB dLen [(mVar 7)]))) (mVar 7))) (mAppend 3 (mTup [(mSl dSl (mVar 5) (mPart (mCallB dLen [(mVar 7)])) mNoPart), (mVar 6)])) (mIfS (mTest (mBin dEq (mSl dSl (mVar 7) mNoPart (mPart (mCallB dLen [(mVar 5)]))) (mVar 5))) (mAppend 3 (mTup [(mSl dSl (mVar 7) (mPart (mCallB dLen [(mVar 5)])) mNoPart), (mBin dAdd (mVar 6) (mSl dSl (mVar 7) (mPart (mCallB dLen [(mVar 5)])) mNoPart))])) mPass)))) mPass))))
  (mRet (mC .none))))
noncomputable def M_law_alike_k21 : FM := mDef 3 8 B_law_alike_k21

noncomputable def B_law_all_cut : MS := (mSeq (mAsg (mTup [(mCallB dSorted [(mVar 1)]), (mList [(mTup [(mC (.str "")), (mC (.str ""))])])]) (mTupG [(mName 3), (mName 4)]))
  (mSeq (mWhile (mTest (mBin dNe (mVar 4) (mList []))) (mSeq (mAsg (mList []) (mName 4))
  (mSeq (mIfS (mTest (mBin dNe (mVar 2) (mC (.int 2)))) (mAsg (mLc (mIter (mCallF M_law_begun [.l] [(mVar 3)])) (Tg.m (.tp [(.nm 5), (.nm 6)])) mYes (mTup [(mVar 5), (mVar 6), (mC (.int 0))]) [5, 6]) (mName 4)) mPass)
  (mSeq (mIfS (mTest (mBin dEq (mVar 2) (mC (.int 0)))) (mAsg (mLc (mIter (mVar 4)) (Tg.m (.nm 7)) (mTest (mBin dIsNot (mCallF M_law_alike_k21 [.l, .c, .c] [(mVar 3), (mBin dIx (mVar 7) (mC (.int 0))), (mBin dIx (mVar 7) (mC (.int 1)))]) (mC .none))) (mVar 7) [7]) (mName 4)) mPass)
  (mSeq (mIfS (mTest (mBin dGt (mVar 2) (mC (.int 1)))) (mSeq (mAsg (mCallF M_law_begun [.c] [(mLc (mIter (mVar 3)) (Tg.m (.nm 9)) mYes (mUn dRev (mVar 9)) [9])]) (mName 8))
  (mAsg (mBin dAdd (mVar 4) (mLc (mIter (mVar 8)) (Tg.m (.tp [(.nm 5), (.nm 6)])) mYes (mTup [(mVar 5), (mVar 6), (mC (.int 1))]) [5, 6])) (mName 4))) mPass)
  (mIfS (mTest (mBin dNe (mVar 4) (mList []))) (mSeq (mAsg (mBin dIx (mVar 4) (mCallF M_law_draw [.p, .c] [(mVar 0), (mCallB dLen [(mVar 4)])])) (mTupG [(mName 5), (mName 6), (mName 10)]))
  (mSeq (mAsg (mIf (mTest (mBin dEq (mVar 10) (mC (.int 1)))) (mLc (mIter (mVar 3)) (Tg.m (.nm 9)) mYes (mUn dRev (mVar 9)) [9]) (mVar 3)) (mName 11))
  (mSeq (mAsg (mCallF M_law_less [.c, .c, .c] [(mVar 11), (mVar 5), (mVar 6)]) (mName 11))
  (mAsg (mIf (mTest (mBin dEq (mVar 10) (mC (.int 1)))) (mCallB dSorted [(mLc (mIter (mVar 11)) (Tg.m (.nm 9)) mYes (mUn dRev (mVar 9)) [9])]) (mVar 11)) (mName 3))))) mPass))))))
  (mRet (mVar 3))))
noncomputable def M_law_all_cut : FM := mDef 3 12 B_law_all_cut

noncomputable def B_law_shaken : MS := (mSeq (mPar [2, 3] [(mCallB dListOf [(mVar 1)]), (mList [])])
  (mSeq (mWhile (mTest (mBin dNe (mVar 2) (mList []))) (mAppend 3 (mPopAt 2 (mCallF M_law_draw [.p, .c] [(mVar 0), (mCallB dLen [(mVar 2)])]))))
  (mRet (mVar 3))))
noncomputable def M_law_shaken : FM := mDef 2 4 B_law_shaken

noncomputable def B_Stock_words : MS := (mRet (mCallB dListOf [(mUn (dFld "Stock" "kept_words") (mVar 0))]))
noncomputable def M_Stock_words : FM := mDef 1 1 B_Stock_words

noncomputable def B_law_right_k24 : MS := (mSeq (mAsg (mCallF M_law_some [.p] [(mVar 0)]) (mName 1))
  (mSeq (mPar [2, 3] [(mMake "Stock" M_Stock_init [(mCallB dListOf [(mVar 1)])]), (mCallF M_law_all_cut [.p, .c, .c] [(mVar 0), (mVar 1), (mC (.int 1))])])
  (mSeq (mAsg (mMake "Stock" M_Stock_init [(mCallF M_law_shaken [.p, .c] [(mVar 0), (mVar 1)])]) (mName 4))
  (mSeq (mIfS (mTest (mBin dNe (mList [(mCallF M_left_hull [.c] [(mVar 2)]), (mCallK M_left_hull [0] 0 1 [] [(mVar 2)]), (mCallF M_left_hull [.c] [(mVar 4)])]) (mList [(mVar 3), (mVar 3), (mVar 3)]))) (mRet (mC (.bool false))) mPass)
  (mSeq (mAsg (mCallF M_left_hull [.c] [(mVar 2)]) (mName 5))
  (mSeq (mIfS (mTest (mBin dNe (mCallF M_law_begun [.l] [(mVar 5)]) (mList []))) (mRet (mC (.bool false))) mPass)
  (mSeq (mAppend 5 (mC (.str "")))
  (mRet (mVal (mAnd (mTest (mBin dEq (mCallF M_left_hull [.c] [(mVar 2)]) (mVar 3))) (mTest (mBin dEq (mProp "Stock" M_Stock_words (mVar 2)) (mVar 1)))))))))))))
noncomputable def M_law_right_k24 : FM := mDef 1 6 B_law_right_k24

noncomputable def B_law_k24 : MS := (mSeq (mFor (mRange rngOf1 [(mCallB dMax2 [(mC (.int 1)), (mCallB dMin2 [(mC (.int 5)), (mCallB dLen [(mVar 0)])])])]) (mName 1) (mSeq (mAsg (mCallF M_law_pool [.l, .c] [(mVar 0), (mVar 1)]) (mName 2))
  (mFor (mRange rngOf1 [(mC (.int 8))]) (mName 3) (mIfS (mNot (mTest (mCallF M_law_right_k24 [.p] [(mVar 2)]))) (mRet (mC (.bool false))) mPass))))
  (mRet (mC (.bool true))))
noncomputable def M_law_k24 : FM := mDef 1 4 B_law_k24
end DL
namespace DL
open PySem PySem.Spec L2
noncomputable def B_law_near : MS := (mSeq (mAsg (mCallF M_law_draw [.p, .c] [(mVar 0), (mC (.int 5))]) (mName 2))
  (mSeq (mIfS (mTest (mBin dEq (mVar 2) (mC (.int 0)))) (mRet (mCallF M_law_some [.p] [(mVar 0)])) mPass)
  (mSeq (mIfS (mTest (mBin dEq (mVar 2) (mC (.int 1)))) (mRet (mSl dSl (mCallB dSortSet2 [(mMeth dJoin isStrD (mC (.str "")) [(mVar 1)])]) mNoPart (mPart (mC (.int 8))))) mPass)
  (mSeq (mIfS (mTest (mBin dEq (mVar 2) (mC (.int 2)))) (mRet (mCallF M_left_hull [.c] [(mMake "Stock" M_Stock_init [(mCallB dListOf [(mVar 1)])])])) mPass)
  (mSeq (mIfS (mTest (mBin dEq (mVar 2) (mC (.int 3)))) (mRet (mSl dSl (mVar 1) mNoPart (mPart (mBin dAdd (mC (.int 1)) (mCallF M_law_draw [.p, .c] [(mVar 0), (mCallB dLen [(mVar 1)])]))))) mPass)
  (mSeq (mAsg (mLc (mRange rngOf1 [(mC (.int 4))]) (Tg.m (.nm 4)) mYes (mBin dAdd (mBin dIx (mVar 1) (mCallF M_law_draw [.p, .c] [(mVar 0), (mCallB dLen [(mVar 1)])])) (mBin dIx (mVar 1) (mCallF M_law_draw [.p, .c] [(mVar 0), (mCallB dLen [(mVar 1)])]))) [4]) (mName 3))
  (mSeq (mAsg (mCallB dSortSet2 [(mLc (mIter (mVar 3)) (Tg.m (.nm 6)) (mTest (mBin dLt (mCallB dLen [(mVar 6)]) (mC (.int 9)))) (mVar 6) [6])]) (mName 5))
  (mRet (mIf (mTest (mBin dNe (mVar 5) (mList []))) (mVar 5) (mUn dRev (mVar 1)))))))))))
noncomputable def M_law_near : FM := mDef 2 7 B_law_near

noncomputable def B_ways_behind : MS := (mSeq (mAsg (mBin dAdd (mBin dMul (mList [(mC (.int 0))]) (mCallB dLen [(mVar 1)])) (mList [(mC (.int 1))])) (mName 2))
  (mSeq (mFor (mIter (mUn dRev (mUn dListRg (mCallB dLen [(mVar 1)])))) (mName 3) (mFor (mIter (mVar 0)) (mName 4) (mIfS (mTest (mBin dEq (mSl dSl (mVar 1) (mPart (mVar 3)) (mPart (mBin dAdd (mVar 3) (mCallB dLen [(mVar 4)])))) (mVar 4))) (mAugIx (fun i j => i + j) 2 (mVar 3) (mBin dIx (mVar 2) (mBin dAdd (mVar 3) (mCallB dLen [(mVar 4)])))) mPass)))
  (mRet (mVar 2))))
noncomputable def M_ways_behind : FM := mDef 2 5 B_ways_behind

noncomputable def B_count_readings : MS := (mSeq (mDrop (mCallF M_check_text [.c] [(mVar 1)]))
  (mRet (mBin dIx (mCallF M_ways_behind [.c, .l] [(mUn (dFld "Stock" "kept_words") (mVar 0)), (mVar 1)]) (mC (.int 0)))))
noncomputable def M_count_readings : FM := mDef 2 2 B_count_readings

noncomputable def B_is_text : MS := (mRet (mBin dGt (mCallF M_count_readings [.c, .c] [(mVar 0), (mVar 1)]) (mC (.int 0))))
noncomputable def M_is_text : FM := mDef 2 2 B_is_text

noncomputable def B_lies_within : MS := (mRet (mCallB dAll [(mLc (mIter (mUn (dFld "Stock" "kept_words") (mVar 0))) (Tg.m (.nm 2)) mYes (mCallF M_is_text [.c, .c] [(mVar 1), (mVar 2)]) [2])]))
noncomputable def M_lies_within : FM := mDef 2 3 B_lies_within

noncomputable def B_law_is_made_k22 : MS := (mSeq (mAsg (mList [(mC (.bool true))]) (mName 2))
  (mSeq (mFor (mRange rngOf2 [(mC (.int 1)), (mBin dAdd (mCallB dLen [(mVar 1)]) (mC (.int 1)))]) (mName 3) (mAppend 2 (mBin dNe (mLc (mIter (mVar 0)) (Tg.m (.nm 4)) (mAnd (mTest (mMeth dEnds isStrD (mSl dSl (mVar 1) mNoPart (mPart (mVar 3))) [(mVar 4)])) (mTest (mBin dIx (mVar 2) (mBin dSub (mVar 3) (mCallB dLen [(mVar 4)]))))) (mC (.int 1)) [4]) (mList []))))
  (mRet (mBin dIx (mVar 2) (mUn dNeg (mC (.int 1)))))))
noncomputable def M_law_is_made_k22 : FM := mDef 2 5 B_law_is_made_k22

noncomputable def B_law_due_k29 : MS := (mRet (mBin dEq (mLc (mIter (mVar 0)) (Tg.m (.nm 2)) (mNot (mTest (mCallF M_law_is_made_k22 [.l, .c] [(mVar 1), (mVar 2)]))) (mC (.int 1)) [2]) (mList [])))
noncomputable def M_law_due_k29 : FM := mDef 2 3 B_law_due_k29

noncomputable def B_base_k27 : MS := (mSeq (mAsg (mProp "Stock" M_Stock_words (mVar 0)) (mName 1))
  (mRet (mLc (mIter (mVar 1)) (Tg.m (.nm 2)) (mTest (mBin dEq (mBin dIx (mCallF M_ways_behind [.c, .c] [(mLc (mIter (mVar 1)) (Tg.m (.nm 3)) (mTest (mBin dNe (mVar 3) (mVar 2))) (mVar 3) [3]), (mVar 2)]) (mC (.int 0))) (mC (.int 0)))) (mVar 2) [2])))
noncomputable def M_base_k27 : FM := mDef 1 4 B_base_k27

noncomputable def B_law_right_k29 : MS := (mSeq (mAsg (mCallF M_law_some [.p] [(mVar 0)]) (mName 1))
  (mSeq (mAsg (mList [(mVar 1), (mCallF M_law_near [.p, .c] [(mVar 0), (mVar 1)])]) (mName 2))
  (mSeq (mAppend 2 (mCallF M_law_near [.p, .c] [(mVar 0), (mBin dIx (mVar 2) (mC (.int 1)))]))
  (mSeq (mAsg (mLc (mIter (mVar 2)) (Tg.m (.nm 4)) mYes (mMake "Stock" M_Stock_init [(mCallB dListOf [(mVar 4)])]) [4]) (mName 3))
  (mSeq (mFor (mRange rngOf1 [(mC (.int 3))]) (mName 5) (mFor (mRange rngOf1 [(mC (.int 3))]) (mName 6) (mSeq (mAsg (mCallF M_law_due_k29 [.c, .c] [(mBin dIx (mVar 2) (mVar 5)), (mBin dIx (mVar 2) (mVar 6))]) (mName 7))
  (mSeq (mAsg (mList [(mCallF M_lies_within [.c, .c] [(mBin dIx (mVar 3) (mVar 5)), (mBin dIx (mVar 3) (mVar 6))]), (mCallK M_lies_within [1, 0] 0 2 [] [(mBin dIx (mVar 3) (mVar 6)), (mBin dIx (mVar 3) (mVar 5))])]) (mName 8))
  (mSeq (mIfS (mTest (mRNe (mRepr (mVar 8)) (mRepr (mList [(mVar 7), (mVar 7)])))) (mRet (mC (.bool false))) mPass)
  (mSeq (mAsg (mVal (mAnd (mTest (mCallF M_lies_within [.c, .c] [(mBin dIx (mVar 3) (mVar 5)), (mBin dIx (mVar 3) (mVar 6))])) (mTest (mCallF M_lies_within [.c, .c] [(mBin dIx (mVar 3) (mVar 6)), (mBin dIx (mVar 3) (mVar 5))])))) (mName 9))
  (mIfS (mTest (mBin dNe (mVar 9) (mBin dEq (mCallB dSorted [(mCallF M_base_k27 [.c] [(mBin dIx (mVar 3) (mVar 5))])]) (mCallB dSorted [(mCallF M_base_k27 [.c] [(mBin dIx (mVar 3) (mVar 6))])])))) (mRet (mC (.bool false))) mPass)))))))
  (mSeq (mAsg (mList [(mCallF M_lies_within [.c, .c] [(mBin dIx (mVar 3) (mC (.int 0))), (mBin dIx (mVar 3) (mC (.int 1)))]), (mCallF M_lies_within [.c, .c] [(mBin dIx (mVar 3) (mC (.int 1))), (mBin dIx (mVar 3) (mC (.int 2)))])]) (mName 10))
  (mRet (mVal (mOr (mTest (mBin dNe (mVar 10) (mList [(mC (.bool true)), (mC (.bool true))]))) (mTest (mCallF M_lies_within [.c, .c] [(mBin dIx (mVar 3) (mC (.int 0))), (mBin dIx (mVar 3) (mC (.int 2)))])))))))))))
noncomputable def M_law_right_k29 : FM := mDef 1 11 B_law_right_k29

noncomputable def B_law_k29 : MS := (mSeq (mFor (mRange rngOf1 [(mCallB dMax2 [(mC (.int 1)), (mCallB dMin2 [(mC (.int 5)), (mCallB dLen [(mVar 0)])])])]) (mName 1) (mSeq (mAsg (mCallF M_law_pool [.l, .c] [(mVar 0), (mVar 1)]) (mName 2))
  (mFor (mRange rngOf1 [(mC (.int 8))]) (mName 3) (mIfS (mNot (mTest (mCallF M_law_right_k29 [.p] [(mVar 2)]))) (mRet (mC (.bool false))) mPass))))
  (mRet (mC (.bool true))))
noncomputable def M_law_k29 : FM := mDef 1 4 B_law_k29
end DL
namespace DL
open PySem PySem.Spec L2

/-- m ends well, and Q of what it gives -/
class Cn (α : Type) where
  f : α → Prop
/-- (what follows stands where simp does not look) -/
def EvI {α : Type} (m : Res α) [q : Cn α] : Prop := match m with
  | .ok a => q.f a
  | _ => False
def Ev {α : Type} (m : Res α) (Q : α → Prop) : Prop := @EvI α m ⟨Q⟩
theorem Ev_eq {α : Type} (m : Res α) (Q : α → Prop) : Ev m Q = @EvI α m ⟨Q⟩ := rfl
theorem Ev_ok {α : Type} (a : α) (Q : α → Prop) : Ev (.ok a) Q = Q a := rfl
theorem Ev_bind {α β : Type} (m : Res α) (k : α → Res β) (Q : β → Prop) : Ev (m >>= k) Q = Ev m fun a => Ev (k a) Q := by cases m <;> rfl
theorem Ev_stuck {α : Type} (Q : α → Prop) : Ev (.stuck : Res α) Q = False := rfl
theorem Ev.mono {α : Type} {m : Res α} {Q Q' : α → Prop} (h : Ev m Q) (k : ∀ a, Q a → Q' a) : Ev m Q' := by
  cases m with
  | ok a => exact k a h
  | ex => exact h
  | stuck => exact h
theorem Ev.ok {α : Type} {m : Res α} {Q : α → Prop} (h : Ev m Q) : ∃ a, m = .ok a ∧ Q a := by
  cases m with
  | ok a => exact ⟨a, rfl, h⟩
  | ex => exact h.elim
  | stuck => exact h.elim
theorem Ev_of {α : Type} {m : Res α} {a : α} {Q : α → Prop} (h : m = .ok a) (q : Q a) : Ev m Q := by rw [h]; exact q
theorem Ev_ite {α : Type} {c : Prop} [Decidable c] (m n : Res α) (Q : α → Prop) : Ev (if c then m else n) Q = if c then Ev m Q else Ev n Q := by split <;> rfl
theorem Ev_bindN {α β : Type} (m : Res α) (k : α → Res β) (Q : β → Prop) : Ev (bindN m k) Q = Ev m fun a => Ev (k a) Q := by cases m <;> rfl

variable {α : Type} {Q : α → Prop}
/-! ### parts -/
theorem Ev_some (r : α) (env : Env) (Q : α × Env → Prop) : Ev (orStuck (some r) env) Q = Q (r, env) := rfl
theorem Ev_none (env : Env) (Q : α × Env → Prop) : Ev (orStuck (none : Option α) env) Q = False := rfl
theorem Ev_oif {c : Prop} [Decidable c] (r : α) (env : Env) (Q : α × Env → Prop) : Ev (orStuck (if c then some r else none) env) Q = (c ∧ Q (r, env)) := by
  by_cases h : c
  · rw [if_pos h]; simp only [h, true_and]; rfl
  · rw [if_neg h]; simp only [h, false_and]; rfl
theorem Ev_oifG {c : Prop} [Decidable c] (o : Option α) (env : Env) (Q : α × Env → Prop) : Ev (orStuck (if c then o else none) env) Q = (c ∧ Ev (orStuck o env) Q) := by
  by_cases h : c
  · rw [if_pos h]; simp only [h, true_and]
  · rw [if_neg h]; simp only [h, false_and]; rfl
theorem Ev_gif {c : Prop} [Decidable c] (m : Res α) (Q : α → Prop) : Ev (if c then m else .stuck) Q = (c ∧ Ev m Q) := by
  by_cases h : c
  · rw [if_pos h]; simp only [h, true_and]
  · rw [if_neg h]; simp only [h, false_and]; rfl

theorem ev_c (d : D) (env : Env) (Q : Rv × Env → Prop) : Ev (mC d env) Q = Q (.val d, env) := rfl
theorem ev_bin (o : D → D → Option Rv) (f h : ME) (env : Env) (Q : Rv × Env → Prop) : Ev (mBin o f h env) Q = Ev (f env) fun z => Ev (h z.2) fun y => Ev (z.1.data y.2) fun d => Ev (y.1.data y.2) fun e => Ev (orStuck (o d e) y.2) Q := by
  unfold mBin; simp only [Ev_bind]
theorem ev_un (o : D → Option Rv) (f : ME) (env : Env) (Q : Rv × Env → Prop) : Ev (mUn o f env) Q = Ev (f env) fun z => Ev (z.1.data z.2) fun d => Ev (orStuck (o d) z.2) Q := by
  unfold mUn; simp only [Ev_bind]
theorem ev_test (f : ME) (env : Env) (Q : Bool × Env → Prop) : Ev (mTest f env) Q = Ev (f env) fun z => Ev (z.1.data z.2) fun d => Ev (orStuck (asB d) z.2) Q := by
  unfold mTest; simp only [Ev_bind]
theorem ev_and (f h : MT) (env : Env) (Q : Bool × Env → Prop) : Ev (mAnd f h env) Q = Ev (f env) fun z => if z.1 = true then Ev (h z.2) Q else Q (false, z.2) := by
  unfold mAnd; simp only [Ev_bind, Ev_ite, Ev_ok]
theorem ev_or (f h : MT) (env : Env) (Q : Bool × Env → Prop) : Ev (mOr f h env) Q = Ev (f env) fun z => if z.1 = true then Q (true, z.2) else Ev (h z.2) Q := by
  unfold mOr; simp only [Ev_bind, Ev_ite, Ev_ok]
theorem ev_not (f : MT) (env : Env) (Q : Bool × Env → Prop) : Ev (mNot f env) Q = Ev (f env) fun z => Q (!z.1, z.2) := by
  unfold mNot; simp only [Ev_bind, Ev_ok]
theorem ev_val (f : MT) (env : Env) (Q : Rv × Env → Prop) : Ev (mVal f env) Q = Ev (f env) fun z => Q (.val (.bool z.1), z.2) := by
  unfold mVal; simp only [Ev_bind, Ev_ok]
theorem ev_if (c : MT) (f h : ME) (env : Env) (Q : Rv × Env → Prop) : Ev (mIf c f h env) Q = Ev (c env) fun z => if z.1 = true then Ev (f z.2) Q else Ev (h z.2) Q := by
  unfold mIf; simp only [Ev_bind, Ev_ite]
theorem ev_yes (env : Env) (Q : Bool × Env → Prop) : Ev (mYes env) Q = Q (true, env) := rfl
theorem ev_ds_nil (env : Env) (Q : List D × Env → Prop) : Ev (evDs [] env) Q = Q ([], env) := rfl
theorem ev_ds_cons (f : ME) (fs : List ME) (env : Env) (Q : List D × Env → Prop) : Ev (evDs (f :: fs) env) Q = Ev (f env) fun z => Ev (z.1.frz z.2) fun y => Ev (evDs fs y.2) fun x => Q (y.1 :: x.1, x.2) := by
  show Ev (f env >>= fun z => z.1.frz z.2 >>= fun y => evDs fs y.2 >>= fun x => .ok (y.1 :: x.1, x.2)) Q = _
  simp only [Ev_bind, Ev_ok]
theorem ev_rs_nil (env : Env) (Q : List Rv × Env → Prop) : Ev (evRs [] env) Q = Q ([], env) := rfl
theorem ev_rs_cons (f : ME) (fs : List ME) (env : Env) (Q : List Rv × Env → Prop) : Ev (evRs (f :: fs) env) Q = Ev (f env) fun z => Ev (evRs fs z.2) fun x => Q (z.1 :: x.1, x.2) := by
  show Ev (f env >>= fun z => evRs fs z.2 >>= fun x => .ok (z.1 :: x.1, x.2)) Q = _
  simp only [Ev_bind, Ev_ok]
theorem ev_list (fs : List ME) (env : Env) (Q : Rv × Env → Prop) : Ev (mList fs env) Q = Ev (evDs fs env) fun z => z.1.length ≤ lineM ∧ Q (.new (.list z.1), z.2) := by
  unfold mList; simp only [Ev_bind, Ev_gif, Ev_ok, Res.pure_eq]
theorem ev_tup (fs : List ME) (env : Env) (Q : Rv × Env → Prop) : Ev (mTup fs env) Q = Ev (evDs fs env) fun z => z.1.length ≤ lineM ∧ Q (.val (.tuple z.1), z.2) := by
  unfold mTup; simp only [Ev_bind, Ev_gif, Ev_ok, Res.pure_eq]
theorem ev_callB (o : List D → Option Rv) (fs : List ME) (env : Env) (Q : Rv × Env → Prop) : Ev (mCallB o fs env) Q = Ev (evRs fs env) fun z => Ev (orStuck (datas z.2 z.1) z.2) fun y => Ev (orStuck (o y.1) y.2) Q := by
  unfold mCallB; simp only [Ev_bind]
theorem datas_cons (env : Env) (r : Rv) (rs : List Rv) : datas env (r :: rs) = match r.data env with
    | .ok d => (datas env rs).map (d :: ·)
    | _ => none := by
  show (match r.data env with | .ok d => (match datas env rs with | some ds => some (d :: ds) | none => none) | _ => none) = _
  cases r.data env with
  | ok d => cases datas env rs <;> rfl
  | _ => rfl
theorem ev_part (f : ME) (env : Env) (Q : Option Int × Env → Prop) : Ev (mPart f env) Q = Ev (f env) fun z => Ev (z.1.data z.2) fun d => Ev (orStuck (asI d) z.2) Q := by
  unfold mPart; simp only [Ev_bind]
theorem ev_nopart (env : Env) (Q : Option Int × Env → Prop) : Ev (mNoPart env) Q = Q (none, env) := rfl
theorem ev_sl (o : D → Option Int → Option Int → Option Rv) (f : ME) (l h : MO) (env : Env) (Q : Rv × Env → Prop) : Ev (mSl o f l h env) Q = Ev (f env) fun z => Ev (l z.2) fun y => Ev (h y.2) fun x => Ev (z.1.data x.2) fun d => Ev (orStuck (o d y.1 x.1) x.2) Q := by
  unfold mSl; simp only [Ev_bind]
theorem ev_meth (o : D → List D → Option Rv) (isT : D → Bool) (f : ME) (fs : List ME) (env : Env) (Q : Rv × Env → Prop) :
    Ev (mMeth o isT f fs env) Q = Ev (f env) fun z => Ev (z.1.data z.2) fun d0 => isT d0 = true ∧ Ev (evRs fs z.2) fun y => Ev (z.1.data y.2) fun d => Ev (orStuck (datas y.2 y.1) y.2) fun x => Ev (orStuck (o d x.1) x.2) Q := by
  unfold mMeth; simp only [Ev_bind, Ev_gif]
theorem ev_repr (f : ME) (env : Env) (Q : Str × Env → Prop) : Ev (mRepr f env) Q = Ev (f env) fun z => Ev (z.1.data z.2) fun d => okR d = true ∧ Q (d.shown, z.2) := by
  unfold mRepr; simp only [Ev_bind, Ev_gif, Ev_ok]
theorem ev_rne (f h : MR) (env : Env) (Q : Rv × Env → Prop) : Ev (mRNe f h env) Q = Ev (f env) fun z => Ev (h z.2) fun y => Q (.val (.bool (!decide (z.1 = y.1))), y.2) := by
  unfold mRNe; simp only [Ev_bind, Ev_ok]
theorem ev_req (f h : MR) (env : Env) (Q : Rv × Env → Prop) : Ev (mREq f h env) Q = Ev (f env) fun z => Ev (h z.2) fun y => Q (.val (.bool (decide (z.1 = y.1))), y.2) := by
  unfold mREq; simp only [Ev_bind, Ev_ok]
def chK (o' : D → D → Option Rv) (k : ME) (r2 : Rv) (env : Env) : Rv → Res (Rv × Env)
  | .val (.bool true) => k env >>= fun x => r2.data x.2 >>= fun d2 => x.1.data x.2 >>= fun d3 => orStuck (o' d2 d3) x.2
  | .val (.bool false) => .ok (.val (.bool false), env)
  | _ => .stuck
theorem chK_b (o' : D → D → Option Rv) (k : ME) (r2 : Rv) (env : Env) (b : Bool) : chK o' k r2 env (.val (.bool b)) = if b = true then (k env >>= fun x => r2.data x.2 >>= fun d2 => x.1.data x.2 >>= fun d3 => orStuck (o' d2 d3) x.2) else .ok (.val (.bool false), env) := by cases b <;> rfl
theorem ev_chain (o o' : D → D → Option Rv) (f h k : ME) (env : Env) (Q : Rv × Env → Prop) : Ev (mChain o o' f h k env) Q = Ev (f env) fun z => Ev (h z.2) fun y => Ev (z.1.data y.2) fun d1 => Ev (y.1.data y.2) fun d2 => Ev (orStuck (o d1 d2) y.2) fun x => Ev (chK o' k y.1 y.2 x.1) Q := by
  unfold mChain
  simp only [Ev_bind]
  rfl
/-! ### statements -/
theorem ev_pass (env : Env) (Q : Fl × Env → Prop) : Ev (mPass env) Q = Q (.nx, env) := rfl
theorem ev_break (env : Env) (Q : Fl × Env → Prop) : Ev (mBreak env) Q = Q (.bk, env) := rfl
theorem ev_cont (env : Env) (Q : Fl × Env → Prop) : Ev (mCont env) Q = Q (.ct, env) := rfl
theorem ev_never (env : Env) (Q : Fl × Env → Prop) : Ev (mNever env) Q = False := rfl
def seqK (n : MS) : Fl × Env → Res (Fl × Env)
  | (.nx, e) => n e
  | (.bk, e) => .ok (.bk, e)
  | (.ct, e) => .ok (.ct, e)
  | (.rt r, e) => .ok (.rt r, e)
theorem seqK_nx (n : MS) (e : Env) : seqK n (.nx, e) = n e := rfl
theorem seqK_bk (n : MS) (e : Env) : seqK n (.bk, e) = .ok (.bk, e) := rfl
theorem seqK_ct (n : MS) (e : Env) : seqK n (.ct, e) = .ok (.ct, e) := rfl
theorem seqK_rt (n : MS) (r : Rv) (e : Env) : seqK n (.rt r, e) = .ok (.rt r, e) := rfl
theorem ev_seq (m n : MS) (env : Env) (Q : Fl × Env → Prop) : Ev (mSeq m n env) Q = Ev (m env) fun z => Ev (seqK n z) Q := by
  unfold mSeq; rw [Ev_bind]
  congr 1; funext z
  obtain ⟨f, e⟩ := z
  cases f <;> rfl
theorem ev_ret (f : ME) (env : Env) (Q : Fl × Env → Prop) : Ev (mRet f env) Q = Ev (f env) fun z => Q (.rt z.1, z.2) := by
  unfold mRet; simp only [Ev_bind, Ev_ok]
theorem ev_retN (env : Env) (Q : Fl × Env → Prop) : Ev (mRetN env) Q = Q (.rt (.val .none), env) := rfl
theorem ev_ifS (c : MT) (m n : MS) (env : Env) (Q : Fl × Env → Prop) : Ev (mIfS c m n env) Q = Ev (c env) fun z => if z.1 = true then Ev (m z.2) Q else Ev (n z.2) Q := by
  unfold mIfS; simp only [Ev_bind, Ev_ite]
theorem ev_drop (f : ME) (env : Env) (Q : Fl × Env → Prop) : Ev (mDrop f env) Q = Ev (f env) fun z => Q (.nx, z.2) := by
  unfold mDrop; simp only [Ev_bind, Ev_ok]
theorem ev_asg (f : ME) (m : MG) (env : Env) (Q : Fl × Env → Prop) : Ev (mAsg f m env) Q = Ev (f env) fun z => Ev (m z.1 z.2) Q := by
  unfold mAsg; simp only [Ev_bind]
theorem ev_name_val (i : Nat) (d : D) (env : Env) (Q : Fl × Env → Prop) : Ev (mName i (.val d) env) Q = (free env i = true ∧ Q (.nx, env.set i (.fz d))) := by
  unfold mName storeR; rw [Ev_gif]; rfl
theorem ev_name_new (i : Nat) (d : D) (env : Env) (Q : Fl × Env → Prop) : Ev (mName i (.new d) env) Q = (free env i = true ∧ Q (.nx, env.set i (.ow .fr d))) := by
  unfold mName storeR; rw [Ev_gif]; rfl
theorem ev_name_sl (i j : Nat) (env : Env) (Q : Fl × Env → Prop) : Ev (mName i (.sl j) env) Q = (free env i = true ∧ if j = i then Q (.nx, env) else Ev ((Rv.sl j).frz env) fun z => Q (.nx, z.2.set i (.fz z.1))) := by
  unfold mName storeR; rw [Ev_gif]
  simp only [Ev_ite, Ev_bind, Ev_ok]
def tupK (ms : List MG) : D → Env → Res (Fl × Env)
  | .tuple ds, env => if ds.length = ms.length then asgAll ms ds env else .stuck
  | _, _ => .stuck
theorem tupK_tup (ms : List MG) (ds : List D) (env : Env) : tupK ms (.tuple ds) env = if ds.length = ms.length then asgAll ms ds env else .stuck := rfl
theorem ev_tupG (ms : List MG) (r : Rv) (env : Env) (Q : Fl × Env → Prop) : Ev (mTupG ms r env) Q = Ev (r.data env) fun d => Ev (tupK ms d env) Q := by
  unfold mTupG; rw [Ev_bind]
  congr 1; funext d
  cases d <;> rfl
theorem ev_asg_nil (env : Env) (Q : Fl × Env → Prop) : Ev (asgAll [] [] env) Q = Q (.nx, env) := rfl
def asgK (ms : List MG) (ds : List D) : Fl × Env → Res (Fl × Env)
  | (.nx, e) => asgAll ms ds e
  | _ => .stuck
theorem asgK_nx (ms : List MG) (ds : List D) (e : Env) : asgK ms ds (.nx, e) = asgAll ms ds e := rfl
theorem ev_asg_cons (m : MG) (ms : List MG) (d : D) (ds : List D) (env : Env) (Q : Fl × Env → Prop) : Ev (asgAll (m :: ms) (d :: ds) env) Q = Ev (m (.val d) env) fun z => Ev (asgK ms ds z) Q := by
  show Ev (m (.val d) env >>= _) Q = _
  rw [Ev_bind]
  congr 1; funext z
  obtain ⟨f, e⟩ := z
  cases f <;> rfl
def setN (j : Nat) (env : Env) (k : Kd) (ds : List D) (d : D) : Option Nat → Res (Fl × Env)
  | some n => .ok (.nx, env.set j (.ow k (.list (ds.set n d))))
  | none => .stuck
def setK (j : Nat) (env : Env) (d : D) : Option (Kd × List D) → D → Res (Fl × Env)
  | some (k, ds), .int i => setN j env k ds d (ixN ds.length i)
  | _, _ => .stuck
theorem setN_some (j : Nat) (env : Env) (k : Kd) (ds : List D) (d : D) (n : Nat) : setN j env k ds d (some n) = .ok (.nx, env.set j (.ow k (.list (ds.set n d)))) := rfl
theorem setK_some (j : Nat) (env : Env) (k : Kd) (ds : List D) (d : D) (i : Int) : setK j env d (some (k, ds)) (.int i) = setN j env k ds d (ixN ds.length i) := rfl
theorem ev_setIx (j : Nat) (f fi : ME) (env : Env) (Q : Fl × Env → Prop) : Ev (mSetIx j f fi env) Q = Ev (f env) fun z => Ev (z.1.frz z.2) fun y => (ownL y.2 j).isSome = true ∧ Ev (fi y.2) fun x => Ev (x.1.data x.2) fun di => Ev (setK j x.2 y.1 (ownL x.2 j) di) Q := by
  unfold mSetIx; simp only [Ev_bind, Ev_gif]
  rfl
def appK (j : Nat) (env : Env) (d : D) : Option (Kd × List D) → Res (Fl × Env)
  | some (k, ds) => if ds.length < lineM then .ok (.nx, env.set j (.ow k (.list (ds ++ [d])))) else .stuck
  | none => .stuck
theorem appK_some (j : Nat) (env : Env) (d : D) (k : Kd) (ds : List D) : appK j env d (some (k, ds)) = if ds.length < lineM then .ok (.nx, env.set j (.ow k (.list (ds ++ [d])))) else .stuck := rfl
theorem ev_append (j : Nat) (f : ME) (env : Env) (Q : Fl × Env → Prop) : Ev (mAppend j f env) Q = ((ownL env j).isSome = true ∧ Ev (f env) fun z => Ev (z.1.frz z.2) fun y => Ev (appK j y.2 y.1 (ownL y.2 j)) Q) := by
  unfold mAppend; simp only [Ev_bind, Ev_gif]
  rfl
def augS (i : Nat) (env : Env) : Option Rv → Res (Fl × Env)
  | some (.val d') => if free env i = true then .ok (.nx, env.set i (.fz d')) else .stuck
  | _ => .stuck
theorem augS_some (i : Nat) (env : Env) (d : D) : augS i env (some (.val d)) = if free env i = true then .ok (.nx, env.set i (.fz d)) else .stuck := rfl
def augK (i : Nat) (o : D → D → Option Rv) (f : ME) (env : Env) : Option Sl → Res (Fl × Env)
  | some (.fz d0) => f env >>= fun z => z.1.data z.2 >>= fun d => augS i z.2 (o d0 d)
  | _ => .stuck
theorem augK_fz (i : Nat) (o : D → D → Option Rv) (f : ME) (env : Env) (d0 : D) : augK i o f env (some (.fz d0)) = f env >>= fun z => z.1.data z.2 >>= fun d => augS i z.2 (o d0 d) := rfl
theorem ev_aug (i : Nat) (o : D → D → Option Rv) (f : ME) (env : Env) (Q : Fl × Env → Prop) : Ev (mAug i o f env) Q = Ev (augK i o f env env[i]?) Q := by
  unfold mAug
  generalize env[i]? = s
  cases s with
  | none => rfl
  | some s => cases s <;> rfl
theorem ev_par (is : List Nat) (fs : List ME) (env : Env) (Q : Fl × Env → Prop) : Ev (mPar is fs env) Q = Ev (evHs fs env) fun z => Ev (storeHs is z.1 z.2) Q := by
  unfold mPar; rw [Ev_bind]
theorem ev_hs_nil (env : Env) (Q : List Rv × Env → Prop) : Ev (evHs [] env) Q = Q ([], env) := rfl
theorem ev_hs_cons (f : ME) (fs : List ME) (env : Env) (Q : List Rv × Env → Prop) : Ev (evHs (f :: fs) env) Q = Ev (f env) fun z => Ev (hold z.1 z.2) fun y => Ev (evHs fs y.2) fun x => Q (y.1 :: x.1, x.2) := by
  show Ev (f env >>= fun z => hold z.1 z.2 >>= fun y => evHs fs y.2 >>= fun x => .ok (y.1 :: x.1, x.2)) Q = _
  simp only [Ev_bind, Ev_ok]
theorem hold_val (d : D) (env : Env) : hold (.val d) env = .ok (.val d, env) := rfl
theorem hold_new (d : D) (env : Env) : hold (.new d) env = .ok (.new d, env) := rfl
theorem hold_sl (i : Nat) (env : Env) : hold (.sl i) env = (Rv.sl i).frz env >>= fun z => .ok (.val z.1, z.2) := rfl
theorem slOf_val (d : D) : slOf (.val d) = .fz d := rfl
theorem slOf_new (d : D) : slOf (.new d) = .ow .fr d := rfl
/-! ### stars, pops, objects -/
theorem ev_listS (fs : List (Bool × ME)) (env : Env) (Q : Rv × Env → Prop) : Ev (mListS fs env) Q = Ev (evSs fs env) fun z => z.1.length ≤ lineM ∧ Q (.new (.list z.1), z.2) := by
  unfold mListS; simp only [Ev_bind, Ev_gif, Ev_ok]
theorem ev_ss_nil (env : Env) (Q : List D × Env → Prop) : Ev (evSs [] env) Q = Q ([], env) := rfl
theorem ev_ss_one (f : ME) (fs : List (Bool × ME)) (env : Env) (Q : List D × Env → Prop) : Ev (evSs ((false, f) :: fs) env) Q = Ev (f env) fun z => Ev (z.1.frz z.2) fun y => Ev (evSs fs y.2) fun x => Q (y.1 :: x.1, x.2) := by
  show Ev (f env >>= fun z => z.1.frz z.2 >>= fun y => evSs fs y.2 >>= fun x => .ok (y.1 :: x.1, x.2)) Q = _
  simp only [Ev_bind, Ev_ok]
def seqR : Option (List D) → Res (List D)
  | some ds => .ok ds
  | none => .stuck
theorem seqR_some (ds : List D) : seqR (some ds) = .ok ds := rfl
theorem ev_ss_star (f : ME) (fs : List (Bool × ME)) (env : Env) (Q : List D × Env → Prop) : Ev (evSs ((true, f) :: fs) env) Q = Ev (f env) fun z => Ev (z.1.frz z.2) fun y => Ev (seqR (seqD y.1)) fun ds => Ev (evSs fs y.2) fun x => Q (ds ++ x.1, x.2) := by
  show Ev (f env >>= fun z => z.1.frz z.2 >>= fun y => (match seqD y.1 with
      | some ds => evSs fs y.2 >>= fun x => .ok (ds ++ x.1, x.2)
      | none => .stuck)) Q = _
  simp only [Ev_bind]
  congr 1; funext z
  congr 1; funext y
  cases seqD y.1 with
  | none => rfl
  | some ds => show Ev (evSs fs y.2 >>= fun x => .ok (ds ++ x.1, x.2)) Q = _; rw [Ev_bind]; rfl
def enumR (o : Option Nat) (env : Env) : Option (List D) → Res ((List D × Option Nat) × Env)
  | some ds => .ok ((enumD ds, o), env)
  | none => .stuck
theorem enumR_some (o : Option Nat) (env : Env) (ds : List D) : enumR o env (some ds) = .ok ((enumD ds, o), env) := rfl
theorem ev_enum (f : ME) (env : Env) (Q : (List D × Option Nat) × Env → Prop) : Ev (mEnum f env) Q = Ev (f env) fun z => Ev (lockR z.1 z.2) fun y => Ev (enumR y.1.2 y.2 (itemsD y.1.1)) Q := by
  unfold mEnum
  simp only [Ev_bind]
  rfl
def mkK (e1 : Env) : Rv × Env → Res (Rv × Env)
  | (.val .none, .ow .pn d :: _) => .ok (.new d, e1)
  | _ => .stuck
theorem mkK_ok (e1 : Env) (d : D) (r : Env) : mkK e1 (.val .none, .ow .pn d :: r) = .ok (.new d, e1) := rfl
theorem ev_make (c : Str) (fm : FM) (fs : List ME) (env : Env) (Q : Rv × Env → Prop) : Ev (mMake c fm fs env) Q = Ev (evDs fs env) fun z => Ev (fm (.ow .pn (insD c [] []) :: z.1.map .fz)) fun y => Ev (mkK z.2 y) Q := by
  unfold mMake
  rw [Ev_bind]
  congr 1; funext z
  cases h : fm (.ow .pn (insD c [] []) :: z.1.map .fz) with
  | ok y =>
    obtain ⟨r, e⟩ := y
    show Ev (mkEnd z.2 (.ok (r, e))) Q = Ev (mkK z.2 (r, e)) Q
    congr 1
    unfold mkEnd mkK
    split <;> first | rfl | (split <;> first | rfl | simp_all)
  | ex => rfl
  | stuck => rfl
def prK (env : Env) : Rv × Env → Res (Rv × Env)
  | (.val d, _) => .ok (.val d, env)
  | (.new d, _) => .ok (.new d, env)
  | _ => .stuck
theorem prK_val (env e : Env) (d : D) : prK env (.val d, e) = .ok (.val d, env) := rfl
theorem prK_new (env e : Env) (d : D) : prK env (.new d, e) = .ok (.new d, env) := rfl
theorem ev_prop (c : Str) (fm : FM) (h : ME) (env : Env) (Q : Rv × Env → Prop) : Ev (mProp c fm h env) Q = Ev (h env) fun z => Ev (z.1.frz z.2) fun y => isIns c y.1 = true ∧ Ev (fm [.fz y.1]) fun x => Ev (prK y.2 x) Q := by
  unfold mProp
  simp only [Ev_bind, Ev_gif]
  congr 1; funext z
  congr 1; funext y
  congr 1
  cases hf : fm [.fz y.1] with
  | ok x => obtain ⟨r, e⟩ := x; cases r <;> rfl
  | ex => rfl
  | stuck => rfl
theorem ev_fldS (c f : Str) (j : Nat) (h : ME) (env : Env) (Q : Fl × Env → Prop) : Ev (mFldS c f j h env) Q = Ev (h env) fun z => Ev (z.1.frz z.2) fun y => Ev (fldS c f j y.1 y.2 y.2[j]?) Q := by
  unfold mFldS
  simp only [Ev_bind]
def fldR (j : Nat) (k : Kd) (env : Env) : Option D → Res (Fl × Env)
  | some d => .ok (.nx, env.set j (.ow k d))
  | none => .stuck
theorem fldR_some (j : Nat) (k : Kd) (env : Env) (d : D) : fldR j k env (some d) = .ok (.nx, env.set j (.ow k d)) := rfl
theorem fldS_fr (c f : Str) (j : Nat) (d d0 : D) (env : Env) : fldS c f j d env (some (.ow .fr d0)) = fldR j .fr env (insPut c f d d0) := by
  show (match insPut c f d d0 with | some d1 => _ | none => _) = _
  cases insPut c f d d0 <;> rfl
theorem fldS_pn (c f : Str) (j : Nat) (d d0 : D) (env : Env) : fldS c f j d env (some (.ow .pn d0)) = fldR j .pn env (insPut c f d d0) := by
  show (match insPut c f d d0 with | some d1 => _ | none => _) = _
  cases insPut c f d d0 <;> rfl
def popR (j : Nat) (env : Env) (k : Kd) (ds : List D) : Option D → Res (Rv × Env)
  | some d => .ok (.val d, env.set j (.ow k (.list ds.dropLast)))
  | none => .stuck
theorem popR_some (j : Nat) (env : Env) (k : Kd) (ds : List D) (d : D) : popR j env k ds (some d) = .ok (.val d, env.set j (.ow k (.list ds.dropLast))) := rfl
def popK (j : Nat) (env : Env) : Option (Kd × List D) → Res (Rv × Env)
  | some (k, ds) => popR j env k ds ds[ds.length - 1]?
  | none => .stuck
theorem popK_some (j : Nat) (env : Env) (k : Kd) (ds : List D) : popK j env (some (k, ds)) = popR j env k ds ds[ds.length - 1]? := rfl
theorem ev_pop (j : Nat) (env : Env) (Q : Rv × Env → Prop) : Ev (mPop j env) Q = Ev (popK j env (ownL env j)) Q := by
  unfold mPop
  cases ownL env j with
  | none => rfl
  | some w =>
    obtain ⟨k, ds⟩ := w
    rw [popK_some]
    dsimp only
    cases ds[ds.length - 1]? <;> rfl
def popAR (j : Nat) (env : Env) (k : Kd) (ds : List D) (i : Nat) : Option D → Res (Rv × Env)
  | some d => .ok (.val d, env.set j (.ow k (.list (ds.eraseIdx i))))
  | none => .stuck
theorem popAR_some (j : Nat) (env : Env) (k : Kd) (ds : List D) (i : Nat) (d : D) : popAR j env k ds i (some d) = .ok (.val d, env.set j (.ow k (.list (ds.eraseIdx i)))) := rfl
def popAK (j : Nat) (env : Env) : Option (Kd × List D) → D → Res (Rv × Env)
  | some (k, ds), .int i => if 0 ≤ i ∧ i < 2 ^ 62 then popAR j env k ds i.toNat ds[i.toNat]? else .stuck
  | _, _ => .stuck
theorem popAK_some (j : Nat) (env : Env) (k : Kd) (ds : List D) (i : Int) : popAK j env (some (k, ds)) (.int i) = if 0 ≤ i ∧ i < 2 ^ 62 then popAR j env k ds i.toNat ds[i.toNat]? else .stuck := rfl
theorem ev_popAt (j : Nat) (f : ME) (env : Env) (Q : Rv × Env → Prop) : Ev (mPopAt j f env) Q = ((ownL env j).isSome = true ∧ Ev (f env) fun z => Ev (z.1.data z.2) fun di => Ev (popAK j z.2 (ownL z.2 j) di) Q) := by
  unfold mPopAt
  simp only [Ev_bind, Ev_gif]
  rfl
def extK (j : Nat) (env : Env) : Option (Kd × List D) → D → Res (Fl × Env)
  | some (k, ds), .list es => if ds.length + es.length ≤ lineM then .ok (.nx, env.set j (.ow k (.list (ds ++ es)))) else .stuck
  | _, _ => .stuck
theorem extK_some (j : Nat) (env : Env) (k : Kd) (ds es : List D) : extK j env (some (k, ds)) (.list es) = if ds.length + es.length ≤ lineM then .ok (.nx, env.set j (.ow k (.list (ds ++ es)))) else .stuck := rfl
theorem ev_extend (j : Nat) (f : ME) (env : Env) (Q : Fl × Env → Prop) : Ev (mExtend j f env) Q = ((ownL env j).isSome = true ∧ Ev (f env) fun z => Ev (z.1.frz z.2) fun y => Ev (extK j y.2 (ownL y.2 j) y.1) Q) := by
  unfold mExtend
  simp only [Ev_bind, Ev_gif]
  rfl
def augM (op : Int → Int → Int) (j i : Nat) (a b : Int) (env : Env) : Option (Kd × List D) → Res (Fl × Env)
  | some (k, ds) => if i < ds.length then .ok (.nx, env.set j (.ow k (.list (ds.set i (.int (op a b)))))) else .stuck
  | none => .stuck
theorem augM_some (op : Int → Int → Int) (j i : Nat) (a b : Int) (env : Env) (k : Kd) (ds : List D) : augM op j i a b env (some (k, ds)) = if i < ds.length then .ok (.nx, env.set j (.ow k (.list (ds.set i (.int (op a b)))))) else .stuck := rfl
theorem augN_int (op : Int → Int → Int) (j i : Nat) (a b : Int) (env : Env) : augN op j i (.int a) (.int b) env = augM op j i a b env (ownL env j) := by
  unfold augN
  cases ownL env j <;> rfl
def augJ (op : Int → Int → Int) (j i : Nat) (f : ME) (env : Env) : Option D → Res (Fl × Env)
  | some old => f env >>= fun y => y.1.data y.2 >>= fun dn => augN op j i old dn y.2
  | none => .stuck
theorem augJ_some (op : Int → Int → Int) (j i : Nat) (f : ME) (env : Env) (old : D) : augJ op j i f env (some old) = (f env >>= fun y => y.1.data y.2 >>= fun dn => augN op j i old dn y.2) := rfl
def augI (op : Int → Int → Int) (j : Nat) (f : ME) (env : Env) : D → Option (Kd × List D) → Res (Fl × Env)
  | .int i, some (_, ds) => if 0 ≤ i ∧ i < 2 ^ 62 then augJ op j i.toNat f env ds[i.toNat]? else .stuck
  | _, _ => .stuck
theorem augI_int (op : Int → Int → Int) (j : Nat) (f : ME) (env : Env) (i : Int) (k : Kd) (ds : List D) : augI op j f env (.int i) (some (k, ds)) = if 0 ≤ i ∧ i < 2 ^ 62 then augJ op j i.toNat f env ds[i.toNat]? else .stuck := rfl
theorem ev_augIx (op : Int → Int → Int) (j : Nat) (fi f : ME) (env : Env) (Q : Fl × Env → Prop) : Ev (mAugIx op j fi f env) Q = ((ownL env j).isSome = true ∧ Ev (fi env) fun x => Ev (x.1.data x.2) fun di => Ev (augI op j f x.2 di (ownL x.2 j)) Q) := by
  unfold mAugIx
  simp only [Ev_bind, Ev_gif]
  congr 1
/-! ### calls -/
theorem ev_as_nil (env : Env) (Q : List AV × Env → Prop) : Ev (evAs [] [] env) Q = Q ([], env) := rfl
def asK (ms : List Md) (fs : List ME) : Rv → Env → Res (List AV × Env)
  | .sl i, env => evAs ms fs env >>= fun x => .ok (AV.s i :: x.1, x.2)
  | _, _ => .stuck
theorem asK_sl (ms : List Md) (fs : List ME) (i : Nat) (env : Env) : asK ms fs (.sl i) env = evAs ms fs env >>= fun x => .ok (AV.s i :: x.1, x.2) := rfl
theorem ev_as_t (ms : List Md) (f : ME) (fs : List ME) (env : Env) (Q : List AV × Env → Prop) : Ev (evAs (.p :: ms) (f :: fs) env) Q = Ev (f env) fun z => Ev (asK ms fs z.1 z.2) Q := by
  show Ev (f env >>= _) Q = _
  rw [Ev_bind]
  congr 1; funext z
  obtain ⟨r, e⟩ := z
  cases r <;> rfl
def asL (ms : List Md) (fs : List ME) : Rv → Env → Res (List AV × Env)
  | .sl i, env => evAs ms fs env >>= fun x => .ok (AV.l i :: x.1, x.2)
  | .val d, env => evAs ms fs env >>= fun x => .ok (AV.d d :: x.1, x.2)
  | _, _ => .stuck
theorem asL_val (ms : List Md) (fs : List ME) (d : D) (env : Env) : asL ms fs (.val d) env = evAs ms fs env >>= fun x => .ok (AV.d d :: x.1, x.2) := rfl
theorem asL_sl (ms : List Md) (fs : List ME) (i : Nat) (env : Env) : asL ms fs (.sl i) env = evAs ms fs env >>= fun x => .ok (AV.l i :: x.1, x.2) := rfl
theorem ev_as_l (ms : List Md) (f : ME) (fs : List ME) (env : Env) (Q : List AV × Env → Prop) : Ev (evAs (.l :: ms) (f :: fs) env) Q = Ev (f env) fun z => Ev (asL ms fs z.1 z.2) Q := by
  show Ev (f env >>= _) Q = _
  rw [Ev_bind]
  congr 1; funext z
  obtain ⟨r, e⟩ := z
  cases r <;> rfl
theorem ev_as_f (ms : List Md) (f : ME) (fs : List ME) (env : Env) (Q : List AV × Env → Prop) : Ev (evAs (.c :: ms) (f :: fs) env) Q = Ev (f env) fun z => Ev (z.1.frz z.2) fun y => Ev (evAs ms fs y.2) fun x => Q (.d y.1 :: x.1, x.2) := by
  show Ev (f env >>= fun z => z.1.frz z.2 >>= fun y => evAs ms fs y.2 >>= fun x => .ok (AV.d y.1 :: x.1, x.2)) Q = _
  simp only [Ev_bind, Ev_ok]
def backK (as : List AV) (env : Env) : Rv × Env → Res (Rv × Env)
  | (.val d, e) => .ok (.val d, putBack as e env)
  | (.new d, e) => .ok (.new d, putBack as e env)
  | _ => .stuck
theorem backK_val (as : List AV) (env : Env) (d : D) (e : Env) : backK as env (.val d, e) = .ok (.val d, putBack as e env) := rfl
theorem backK_new (as : List AV) (env : Env) (d : D) (e : Env) : backK as env (.new d, e) = .ok (.new d, putBack as e env) := rfl
def callA (fm : FM) (as : List AV) (env : Env) : Option Env → Res (Rv × Env)
  | some ae => fm ae >>= backK as env
  | none => .stuck
theorem callA_some (fm : FM) (as : List AV) (env ae : Env) : callA fm as env (some ae) = fm ae >>= backK as env := rfl
theorem ev_callF (fm : FM) (ms : List Md) (fs : List ME) (env : Env) (Q : Rv × Env → Prop) : Ev (mCallF fm ms fs env) Q = Ev (evAs ms fs env) fun z => noDup (slotsOf z.1) = true ∧ Ev (callA fm z.1 z.2 (mkArgs z.2 z.1)) Q := by
  unfold mCallF
  simp only [Ev_bind, Ev_gif]
  congr 1; funext z
  congr 1
  generalize mkArgs z.2 z.1 = o
  cases o with
  | some ae =>
    rw [callA_some, Ev_bind]
    cases h : fm ae with
    | ok y => obtain ⟨r, e⟩ := y; cases r <;> (simp only [h]; rfl)
    | _ => simp only [h]; rfl
  | none => rfl
def backN (env : Env) : Rv × Env → Res (Rv × Env)
  | (.val d, _) => .ok (.val d, env)
  | (.new d, _) => .ok (.new d, env)
  | _ => .stuck
theorem backN_val (env : Env) (d : D) (e : Env) : backN env (.val d, e) = .ok (.val d, env) := rfl
theorem backN_new (env : Env) (d : D) (e : Env) : backN env (.new d, e) = .ok (.new d, env) := rfl
theorem ev_callK (fm : FM) (perm : List Nat) (np nk : Nat) (fs ks : List ME) (env : Env) (Q : Rv × Env → Prop) : Ev (mCallK fm perm np nk fs ks env) Q = Ev (evDs fs env) fun z => Ev (evDs ks z.2) fun y => (z.1.length = np ∧ y.1.length = nk) ∧ Ev (fm ((pick PyData.none perm (z.1 ++ y.1)).map .fz)) fun x => Ev (backN y.2 x) Q := by
  unfold mCallK
  simp only [Ev_bind, Ev_gif]
  congr 1; funext z
  congr 1; funext y
  congr 1
  cases h : fm ((pick PyData.none perm (z.1 ++ y.1)).map .fz) with
  | ok y => obtain ⟨r, e⟩ := y; cases r <;> rfl
  | _ => rfl
/-- a def's body: what its end makes of it -/
def finQ (env : Env) (Q : Rv × Env → Prop) : Fl × Env → Prop
  | (.nx, e) => env.length ≤ e.length ∧ Q (.val .none, outEnv env e)
  | (.rt r, e) => env.length ≤ e.length ∧ Ev (finR env e r) Q
  | _ => False
theorem ev_def (np nl : Nat) (m : MS) (env : Env) (Q : Rv × Env → Prop) : Ev (mDef np nl m env) Q = ((env.length = np ∧ env.all argOk = true) ∧ Ev (m (env ++ List.replicate (nl - np) .no)) (finQ env Q)) := by
  unfold mDef
  rw [Ev_gif]
  congr 1
  cases m (env ++ List.replicate (nl - np) .no) with
  | ok z =>
    obtain ⟨f, e⟩ := z
    cases f <;> first | rfl | (show Ev (chk _ _ _) Q = _; unfold chk; rw [Ev_gif]; rfl)
  | ex c d e =>
    show Ev (chk _ _ _) Q = False
    unfold chk; rw [Ev_gif]
    exact propext ⟨fun z => z.2, False.elim⟩
  | stuck => rfl
/-! ### loops -/
def rngK (o : List D → Option (Int × Nat)) (env : Env) : Option (List D) → Option ((List D × Option Nat) × Env)
  | some ds => (o ds).map fun r => ((rangeD r.1 r.2, none), env)
  | none => none
theorem rngK_some (o : List D → Option (Int × Nat)) (env : Env) (ds : List D) : rngK o env (some ds) = (o ds).map fun r => ((rangeD r.1 r.2, none), env) := rfl
def optR {α : Type} : Option α → Res α
  | some a => .ok a
  | none => .stuck
theorem optR_some {α : Type} (a : α) : optR (some a) = .ok a := rfl
theorem optR_if {α : Type} {c : Prop} [Decidable c] (a : α) : optR (if c then some a else none) = if c then .ok a else .stuck := by split <;> rfl
theorem ev_range (o : List D → Option (Int × Nat)) (fs : List ME) (env : Env) (Q : (List D × Option Nat) × Env → Prop) : Ev (mRange o fs env) Q = Ev (evRs fs env) fun z => Ev (optR (rngK o z.2 (datas z.2 z.1))) Q := by
  unfold mRange
  rw [Ev_bind]
  congr 1; funext z
  cases datas z.2 z.1 with
  | none => rfl
  | some ds =>
    rw [rngK_some]
    dsimp only
    cases o ds <;> rfl
def itK (o : Option Nat) (env : Env) : Option (List D) → Res ((List D × Option Nat) × Env)
  | some ds => .ok ((ds, o), env)
  | none => .stuck
theorem itK_some (o : Option Nat) (env : Env) (ds : List D) : itK o env (some ds) = .ok ((ds, o), env) := rfl
theorem ev_iter (f : ME) (env : Env) (Q : (List D × Option Nat) × Env → Prop) : Ev (mIter f env) Q = Ev (f env) fun z => Ev (lockR z.1 z.2) fun y => Ev (itK y.1.2 y.2 (itemsD y.1.1)) Q := by
  unfold mIter
  simp only [Ev_bind]
  rfl
theorem ev_for (mi : MI) (gm : MG) (b : MS) (env : Env) (Q : Fl × Env → Prop) : Ev (mFor mi gm b env) Q = Ev (mi env) fun z => lockB z.1.2 env = true ∧ Ev (mForL gm b z.1.1 z.2) fun y => Q (y.1, unlock z.1.2 y.2) := by
  unfold mFor
  rw [Ev_bind]
  congr 1; funext z
  rw [Ev_gif]
  congr 1
  cases mForL gm b z.1.1 z.2 with
  | ok y => rfl
  | _ => rfl
/-- behind a turn: J again, or the loop's end -/
def turnQ (J : Env → Prop) (Q : Fl × Env → Prop) : Fl × Env → Prop
  | (.nx, e) => J e
  | (.ct, e) => J e
  | (.bk, e) => Q (.nx, e)
  | (.rt r, e) => Q (.rt r, e)
theorem turnQ_nx (J : Env → Prop) (Q : Fl × Env → Prop) (e : Env) : turnQ J Q (.nx, e) = J e := rfl
theorem turnQ_ct (J : Env → Prop) (Q : Fl × Env → Prop) (e : Env) : turnQ J Q (.ct, e) = J e := rfl
theorem turnQ_bk (J : Env → Prop) (Q : Fl × Env → Prop) (e : Env) : turnQ J Q (.bk, e) = Q (.nx, e) := rfl
theorem turnQ_rt (J : Env → Prop) (Q : Fl × Env → Prop) (r : Rv) (e : Env) : turnQ J Q (.rt r, e) = Q (.rt r, e) := rfl
/-- the loop: J holds ahead of each item -/
theorem ev_forL {gm : MG} {b : MS} {Q : Fl × Env → Prop} (hg : ∀ d env, Ev (gm (.val d) env) (fun z => z.1 = .nx) ∨ gm (.val d) env = .stuck) (J : List D → Env → Prop) (hs : ∀ d ds env, J (d :: ds) env → Ev (gm (.val d) env) fun z => Ev (seqK b z) (turnQ (J ds) Q)) (he : ∀ env, J [] env → Q (.nx, env)) : ∀ ds env, J ds env → Ev (mForL gm b ds env) Q
  | [], env, h => he env h
  | d :: ds, env, h => by
    show Ev (gm (.val d) env >>= _) Q
    rw [Ev_bind]
    have h1 := hs d ds env h
    rcases hg d env with h2 | h2
    · obtain ⟨⟨f, e⟩, q1, q2⟩ := h2.ok
      have q2 : f = .nx := q2
      subst q2
      rw [q1] at h1 ⊢
      have h1 : Ev (b e) (turnQ (J ds) Q) := h1
      show Ev (b e >>= turnEnd (mForL gm b ds)) Q
      rw [Ev_bind]
      refine h1.mono fun y hy => ?_
      obtain ⟨f2, e2⟩ := y
      cases f2 with
      | nx => exact ev_forL hg J hs he ds e2 hy
      | ct => exact ev_forL hg J hs he ds e2 hy
      | bk => exact hy
      | rt r => exact hy
    · rw [h2] at h1; exact h1.elim
theorem asgAll_nx : ∀ (ms : List MG) (ds : List D) (env : Env), (∀ m ∈ ms, ∀ d env, Ev (m (.val d) env) (fun z => z.1 = .nx) ∨ m (.val d) env = .stuck) → Ev (asgAll ms ds env) (fun z => z.1 = .nx) ∨ asgAll ms ds env = .stuck
  | [], [], env, _ => .inl rfl
  | [], _ :: _, env, _ => .inr rfl
  | _ :: _, [], env, _ => .inr rfl
  | m :: ms, d :: ds, env, h => by
    rcases h m (by simp) d env with h1 | h1
    · obtain ⟨⟨f, e⟩, q1, q2⟩ := h1.ok
      have q2 : f = .nx := q2
      subst q2
      have e1 : asgAll (m :: ms) (d :: ds) env = asgAll ms ds e := by show (m (.val d) env >>= _) = _; rw [q1]; rfl
      rw [e1]
      exact asgAll_nx ms ds e fun m' hm' => h m' (List.mem_cons_of_mem _ hm')
    · exact .inr (by show (m (.val d) env >>= _) = _; rw [h1]; rfl)
theorem name_nx (i : Nat) (d : D) (env : Env) : Ev (mName i (.val d) env) (fun z => z.1 = .nx) ∨ mName i (.val d) env = .stuck := by
  unfold mName storeR
  by_cases h : free env i = true
  · rw [if_pos h]; exact .inl rfl
  · rw [if_neg h]; exact .inr rfl
theorem tupG_nx (ms : List MG) (h : ∀ m ∈ ms, ∀ d env, Ev (m (.val d) env) (fun z => z.1 = .nx) ∨ m (.val d) env = .stuck) (d : D) (env : Env) : Ev (mTupG ms (.val d) env) (fun z => z.1 = .nx) ∨ mTupG ms (.val d) env = .stuck := by
  cases d with
  | tuple ds =>
    show Ev (if ds.length = ms.length then asgAll ms ds env else .stuck) _ ∨ (if ds.length = ms.length then asgAll ms ds env else .stuck) = .stuck
    by_cases hl : ds.length = ms.length
    · rw [if_pos hl]; exact asgAll_nx ms ds env h
    · exact .inr (if_neg hl)
  | _ => exact .inr rfl
theorem ev_while {c : MT} {b : MS} {Q : Fl × Env → Prop} (J : Nat → Env → Prop) (hs : ∀ n env, J n env → Ev (c env) fun z => if z.1 = true then 0 < n ∧ Ev (b z.2) (turnQ (J (n - 1)) Q)
      else Q (.nx, z.2)) : ∀ n env, J n env → Ev (mWhile c b env) Q := by
  have key : ∀ n env, J n env → Ev (whileN c b (n + 1) env) Q := by
    intro n
    induction n with
    | zero =>
      intro env h
      show Ev (c env >>= fun z => _) Q
      rw [Ev_bind]
      refine (hs 0 env h).mono fun z hz => ?_
      by_cases hb : z.1 = true
      · rw [if_pos hb] at hz; exact absurd hz.1 (by omega)
      · rw [if_neg hb] at hz ⊢; exact hz
    | succ n ih =>
      intro env h
      show Ev (c env >>= fun z => _) Q
      rw [Ev_bind]
      refine (hs _ env h).mono fun z hz => ?_
      by_cases hb : z.1 = true
      · rw [if_pos hb] at hz ⊢
        rw [Ev_bind]
        refine hz.2.mono fun y hy => ?_
        obtain ⟨f2, e2⟩ := y
        cases f2 with
        | nx => exact ih e2 hy
        | ct => exact ih e2 hy
        | bk => exact hy
        | rt r => exact hy
      · rw [if_neg hb] at hz ⊢; exact hz
  intro n env h
  obtain ⟨a, e, q⟩ := (key n env h).ok
  rw [mWhile_of e (by intro z; cases z)]
  exact q
theorem ev_lc (mi : MI) (gm : MG) (tt : MT) (f : ME) (vs : List Nat) (env : Env) (Q : Rv × Env → Prop) : Ev (mLc mi gm tt f vs env) Q = Ev (mi env) fun z => (vs.all (plainAt z.2) = true ∧ lockB z.1.2 env = true) ∧ Ev (mLcL gm tt f vs z.1.1 [] (wipeE z.2 vs)) fun y => Q (.new (.list y.1), unlock z.1.2 (backE z.2 y.2 vs)) := by
  unfold mLc
  simp only [Ev_bind, Ev_gif, Ev_bindN, Ev_ok]
theorem ev_lcL {gm : MG} {tt : MT} {f : ME} {vs : List Nat} {Q : List D × Env → Prop} (J : List D → List D → Env → Prop) (hg : ∀ d env, Ev (gm (.val d) env) (fun z => z.1 = .nx) ∨ gm (.val d) env = .stuck)
    (hs : ∀ d ds acc env, J (d :: ds) acc env → Ev (gm (.val d) env) fun z => Ev (tt z.2) fun y => if y.1 = true then Ev (f y.2) fun x => Ev (x.1.frz x.2) fun u => acc.length < lineM ∧ J ds (acc ++ [u.1]) (wipeE u.2 vs) else J ds acc (wipeE y.2 vs))
    (he : ∀ acc env, J [] acc env → Q (acc, env)) : ∀ ds acc env, J ds acc env → Ev (mLcL gm tt f vs ds acc env) Q
  | [], acc, env, h => he acc env h
  | d :: ds, acc, env, h => by
    show Ev (bindN (gm (.val d) env) _) Q
    rw [Ev_bindN]
    have h1 := hs d ds acc env h
    rcases hg d env with h2 | h2
    · obtain ⟨⟨fl, e⟩, q1, q2⟩ := h2.ok
      have q2 : fl = .nx := q2
      subst q2
      rw [q1] at h1 ⊢
      have hz : Ev (tt e) _ := h1
      show Ev (bindN (tt e) _) Q
      rw [Ev_bindN]
      refine hz.mono fun y hy => ?_
      by_cases hb : y.1 = true
      · rw [if_pos hb] at hy ⊢
        simp only [Ev_bindN, Ev_gif]
        refine hy.mono fun x hx => hx.mono fun u hu => ⟨hu.1, ev_lcL J hg hs he ds _ _ hu.2⟩
      · rw [if_neg hb] at hy ⊢
        exact ev_lcL J hg hs he ds _ _ hy
    · rw [h2] at h1; exact h1.elim
end DL
namespace DL
open PySem PySem.Spec L2
variable {α : Type}

theorem iV_ok {α : Type} (a : α) (Q : α → Prop) : @EvI _ (.ok a) ⟨Q⟩ = Q a := by exact Ev_ok ..
theorem iV_bind {α β : Type} (m : Res α) (k : α → Res β) (Q : β → Prop) : @EvI _ (m >>= k) ⟨Q⟩ = Ev m fun a => Ev (k a) Q := by exact Ev_bind ..
theorem iV_stuck {α : Type} (Q : α → Prop) : @EvI _ (.stuck : Res α) ⟨Q⟩ = False := by exact Ev_stuck ..
theorem iV_ite {α : Type} {c : Prop} [Decidable c] (m n : Res α) (Q : α → Prop) : @EvI _ (if c then m else n) ⟨Q⟩ = if c then Ev m Q else Ev n Q := by exact Ev_ite ..
theorem iV_bindN {α β : Type} (m : Res α) (k : α → Res β) (Q : β → Prop) : @EvI _ (bindN m k) ⟨Q⟩ = Ev m fun a => Ev (k a) Q := by exact Ev_bindN ..
theorem iV_some (r : α) (env : Env) (Q : α × Env → Prop) : @EvI _ (orStuck (some r) env) ⟨Q⟩ = Q (r, env) := by exact Ev_some ..
theorem iV_none (env : Env) (Q : α × Env → Prop) : @EvI _ (orStuck (none : Option α) env) ⟨Q⟩ = False := by exact Ev_none ..
theorem iV_oif {c : Prop} [Decidable c] (r : α) (env : Env) (Q : α × Env → Prop) : @EvI _ (orStuck (if c then some r else none) env) ⟨Q⟩ = (c ∧ Q (r, env)) := by exact Ev_oif ..
theorem iV_oifG {c : Prop} [Decidable c] (o : Option α) (env : Env) (Q : α × Env → Prop) : @EvI _ (orStuck (if c then o else none) env) ⟨Q⟩ = (c ∧ Ev (orStuck o env) Q) := by exact Ev_oifG ..
theorem iV_gif {c : Prop} [Decidable c] (m : Res α) (Q : α → Prop) : @EvI _ (if c then m else .stuck) ⟨Q⟩ = (c ∧ Ev m Q) := by exact Ev_gif ..
theorem iv_c (d : D) (env : Env) (Q : Rv × Env → Prop) : @EvI _ (mC d env) ⟨Q⟩ = Q (.val d, env) := by exact ev_c ..
theorem iv_bin (o : D → D → Option Rv) (f h : ME) (env : Env) (Q : Rv × Env → Prop) : @EvI _ (mBin o f h env) ⟨Q⟩ = Ev (f env) fun z => Ev (h z.2) fun y => Ev (z.1.data y.2) fun d => Ev (y.1.data y.2) fun e => Ev (orStuck (o d e) y.2) Q := by exact ev_bin ..
theorem iv_un (o : D → Option Rv) (f : ME) (env : Env) (Q : Rv × Env → Prop) : @EvI _ (mUn o f env) ⟨Q⟩ = Ev (f env) fun z => Ev (z.1.data z.2) fun d => Ev (orStuck (o d) z.2) Q := by exact ev_un ..
theorem iv_test (f : ME) (env : Env) (Q : Bool × Env → Prop) : @EvI _ (mTest f env) ⟨Q⟩ = Ev (f env) fun z => Ev (z.1.data z.2) fun d => Ev (orStuck (asB d) z.2) Q := by exact ev_test ..
theorem iv_and (f h : MT) (env : Env) (Q : Bool × Env → Prop) : @EvI _ (mAnd f h env) ⟨Q⟩ = Ev (f env) fun z => if z.1 = true then Ev (h z.2) Q else Q (false, z.2) := by exact ev_and ..
theorem iv_or (f h : MT) (env : Env) (Q : Bool × Env → Prop) : @EvI _ (mOr f h env) ⟨Q⟩ = Ev (f env) fun z => if z.1 = true then Q (true, z.2) else Ev (h z.2) Q := by exact ev_or ..
theorem iv_not (f : MT) (env : Env) (Q : Bool × Env → Prop) : @EvI _ (mNot f env) ⟨Q⟩ = Ev (f env) fun z => Q (!z.1, z.2) := by exact ev_not ..
theorem iv_val (f : MT) (env : Env) (Q : Rv × Env → Prop) : @EvI _ (mVal f env) ⟨Q⟩ = Ev (f env) fun z => Q (.val (.bool z.1), z.2) := by exact ev_val ..
theorem iv_if (c : MT) (f h : ME) (env : Env) (Q : Rv × Env → Prop) : @EvI _ (mIf c f h env) ⟨Q⟩ = Ev (c env) fun z => if z.1 = true then Ev (f z.2) Q else Ev (h z.2) Q := by exact ev_if ..
theorem iv_yes (env : Env) (Q : Bool × Env → Prop) : @EvI _ (mYes env) ⟨Q⟩ = Q (true, env) := by exact ev_yes ..
theorem iv_ds_nil (env : Env) (Q : List D × Env → Prop) : @EvI _ (evDs [] env) ⟨Q⟩ = Q ([], env) := by exact ev_ds_nil ..
theorem iv_ds_cons (f : ME) (fs : List ME) (env : Env) (Q : List D × Env → Prop) : @EvI _ (evDs (f :: fs) env) ⟨Q⟩ = Ev (f env) fun z => Ev (z.1.frz z.2) fun y => Ev (evDs fs y.2) fun x => Q (y.1 :: x.1, x.2) := by exact ev_ds_cons ..
theorem iv_rs_nil (env : Env) (Q : List Rv × Env → Prop) : @EvI _ (evRs [] env) ⟨Q⟩ = Q ([], env) := by exact ev_rs_nil ..
theorem iv_rs_cons (f : ME) (fs : List ME) (env : Env) (Q : List Rv × Env → Prop) : @EvI _ (evRs (f :: fs) env) ⟨Q⟩ = Ev (f env) fun z => Ev (evRs fs z.2) fun x => Q (z.1 :: x.1, x.2) := by exact ev_rs_cons ..
theorem iv_list (fs : List ME) (env : Env) (Q : Rv × Env → Prop) : @EvI _ (mList fs env) ⟨Q⟩ = Ev (evDs fs env) fun z => z.1.length ≤ lineM ∧ Q (.new (.list z.1), z.2) := by exact ev_list ..
theorem iv_tup (fs : List ME) (env : Env) (Q : Rv × Env → Prop) : @EvI _ (mTup fs env) ⟨Q⟩ = Ev (evDs fs env) fun z => z.1.length ≤ lineM ∧ Q (.val (.tuple z.1), z.2) := by exact ev_tup ..
theorem iv_callB (o : List D → Option Rv) (fs : List ME) (env : Env) (Q : Rv × Env → Prop) : @EvI _ (mCallB o fs env) ⟨Q⟩ = Ev (evRs fs env) fun z => Ev (orStuck (datas z.2 z.1) z.2) fun y => Ev (orStuck (o y.1) y.2) Q := by exact ev_callB ..
theorem iv_part (f : ME) (env : Env) (Q : Option Int × Env → Prop) : @EvI _ (mPart f env) ⟨Q⟩ = Ev (f env) fun z => Ev (z.1.data z.2) fun d => Ev (orStuck (asI d) z.2) Q := by exact ev_part ..
theorem iv_nopart (env : Env) (Q : Option Int × Env → Prop) : @EvI _ (mNoPart env) ⟨Q⟩ = Q (none, env) := by exact ev_nopart ..
theorem iv_sl (o : D → Option Int → Option Int → Option Rv) (f : ME) (l h : MO) (env : Env) (Q : Rv × Env → Prop) : @EvI _ (mSl o f l h env) ⟨Q⟩ = Ev (f env) fun z => Ev (l z.2) fun y => Ev (h y.2) fun x => Ev (z.1.data x.2) fun d => Ev (orStuck (o d y.1 x.1) x.2) Q := by exact ev_sl ..
theorem iv_meth (o : D → List D → Option Rv) (isT : D → Bool) (f : ME) (fs : List ME) (env : Env) (Q : Rv × Env → Prop) : @EvI _ (mMeth o isT f fs env) ⟨Q⟩ = Ev (f env) fun z => Ev (z.1.data z.2) fun d0 => isT d0 = true ∧ Ev (evRs fs z.2) fun y => Ev (z.1.data y.2) fun d => Ev (orStuck (datas y.2 y.1) y.2) fun x => Ev (orStuck (o d x.1) x.2) Q := by exact ev_meth ..
theorem iv_repr (f : ME) (env : Env) (Q : Str × Env → Prop) : @EvI _ (mRepr f env) ⟨Q⟩ = Ev (f env) fun z => Ev (z.1.data z.2) fun d => okR d = true ∧ Q (d.shown, z.2) := by exact ev_repr ..
theorem iv_rne (f h : MR) (env : Env) (Q : Rv × Env → Prop) : @EvI _ (mRNe f h env) ⟨Q⟩ = Ev (f env) fun z => Ev (h z.2) fun y => Q (.val (.bool (!decide (z.1 = y.1))), y.2) := by exact ev_rne ..
theorem iv_req (f h : MR) (env : Env) (Q : Rv × Env → Prop) : @EvI _ (mREq f h env) ⟨Q⟩ = Ev (f env) fun z => Ev (h z.2) fun y => Q (.val (.bool (decide (z.1 = y.1))), y.2) := by exact ev_req ..
theorem iv_chain (o o' : D → D → Option Rv) (f h k : ME) (env : Env) (Q : Rv × Env → Prop) : @EvI _ (mChain o o' f h k env) ⟨Q⟩ = Ev (f env) fun z => Ev (h z.2) fun y => Ev (z.1.data y.2) fun d1 => Ev (y.1.data y.2) fun d2 => Ev (orStuck (o d1 d2) y.2) fun x => Ev (chK o' k y.1 y.2 x.1) Q := by exact ev_chain ..
theorem iv_pass (env : Env) (Q : Fl × Env → Prop) : @EvI _ (mPass env) ⟨Q⟩ = Q (.nx, env) := by exact ev_pass ..
theorem iv_break (env : Env) (Q : Fl × Env → Prop) : @EvI _ (mBreak env) ⟨Q⟩ = Q (.bk, env) := by exact ev_break ..
theorem iv_cont (env : Env) (Q : Fl × Env → Prop) : @EvI _ (mCont env) ⟨Q⟩ = Q (.ct, env) := by exact ev_cont ..
theorem iv_never (env : Env) (Q : Fl × Env → Prop) : @EvI _ (mNever env) ⟨Q⟩ = False := by exact ev_never ..
theorem iv_seq (m n : MS) (env : Env) (Q : Fl × Env → Prop) : @EvI _ (mSeq m n env) ⟨Q⟩ = Ev (m env) fun z => Ev (seqK n z) Q := by exact ev_seq ..
theorem iv_ret (f : ME) (env : Env) (Q : Fl × Env → Prop) : @EvI _ (mRet f env) ⟨Q⟩ = Ev (f env) fun z => Q (.rt z.1, z.2) := by exact ev_ret ..
theorem iv_retN (env : Env) (Q : Fl × Env → Prop) : @EvI _ (mRetN env) ⟨Q⟩ = Q (.rt (.val .none), env) := by exact ev_retN ..
theorem iv_ifS (c : MT) (m n : MS) (env : Env) (Q : Fl × Env → Prop) : @EvI _ (mIfS c m n env) ⟨Q⟩ = Ev (c env) fun z => if z.1 = true then Ev (m z.2) Q else Ev (n z.2) Q := by exact ev_ifS ..
theorem iv_drop (f : ME) (env : Env) (Q : Fl × Env → Prop) : @EvI _ (mDrop f env) ⟨Q⟩ = Ev (f env) fun z => Q (.nx, z.2) := by exact ev_drop ..
theorem iv_asg (f : ME) (m : MG) (env : Env) (Q : Fl × Env → Prop) : @EvI _ (mAsg f m env) ⟨Q⟩ = Ev (f env) fun z => Ev (m z.1 z.2) Q := by exact ev_asg ..
theorem iv_name_val (i : Nat) (d : D) (env : Env) (Q : Fl × Env → Prop) : @EvI _ (mName i (.val d) env) ⟨Q⟩ = (free env i = true ∧ Q (.nx, env.set i (.fz d))) := by exact ev_name_val ..
theorem iv_name_new (i : Nat) (d : D) (env : Env) (Q : Fl × Env → Prop) : @EvI _ (mName i (.new d) env) ⟨Q⟩ = (free env i = true ∧ Q (.nx, env.set i (.ow .fr d))) := by exact ev_name_new ..
theorem iv_name_sl (i j : Nat) (env : Env) (Q : Fl × Env → Prop) : @EvI _ (mName i (.sl j) env) ⟨Q⟩ = (free env i = true ∧ if j = i then Q (.nx, env) else Ev ((Rv.sl j).frz env) fun z => Q (.nx, z.2.set i (.fz z.1))) := by exact ev_name_sl ..
theorem iv_tupG (ms : List MG) (r : Rv) (env : Env) (Q : Fl × Env → Prop) : @EvI _ (mTupG ms r env) ⟨Q⟩ = Ev (r.data env) fun d => Ev (tupK ms d env) Q := by exact ev_tupG ..
theorem iv_asg_nil (env : Env) (Q : Fl × Env → Prop) : @EvI _ (asgAll [] [] env) ⟨Q⟩ = Q (.nx, env) := by exact ev_asg_nil ..
theorem iv_asg_cons (m : MG) (ms : List MG) (d : D) (ds : List D) (env : Env) (Q : Fl × Env → Prop) : @EvI _ (asgAll (m :: ms) (d :: ds) env) ⟨Q⟩ = Ev (m (.val d) env) fun z => Ev (asgK ms ds z) Q := by exact ev_asg_cons ..
theorem iv_setIx (j : Nat) (f fi : ME) (env : Env) (Q : Fl × Env → Prop) : @EvI _ (mSetIx j f fi env) ⟨Q⟩ = Ev (f env) fun z => Ev (z.1.frz z.2) fun y => (ownL y.2 j).isSome = true ∧ Ev (fi y.2) fun x => Ev (x.1.data x.2) fun di => Ev (setK j x.2 y.1 (ownL x.2 j) di) Q := by exact ev_setIx ..
theorem iv_append (j : Nat) (f : ME) (env : Env) (Q : Fl × Env → Prop) : @EvI _ (mAppend j f env) ⟨Q⟩ = ((ownL env j).isSome = true ∧ Ev (f env) fun z => Ev (z.1.frz z.2) fun y => Ev (appK j y.2 y.1 (ownL y.2 j)) Q) := by exact ev_append ..
theorem iv_aug (i : Nat) (o : D → D → Option Rv) (f : ME) (env : Env) (Q : Fl × Env → Prop) : @EvI _ (mAug i o f env) ⟨Q⟩ = Ev (augK i o f env env[i]?) Q := by exact ev_aug ..
theorem iv_par (is : List Nat) (fs : List ME) (env : Env) (Q : Fl × Env → Prop) : @EvI _ (mPar is fs env) ⟨Q⟩ = Ev (evHs fs env) fun z => Ev (storeHs is z.1 z.2) Q := by exact ev_par ..
theorem iv_hs_nil (env : Env) (Q : List Rv × Env → Prop) : @EvI _ (evHs [] env) ⟨Q⟩ = Q ([], env) := by exact ev_hs_nil ..
theorem iv_hs_cons (f : ME) (fs : List ME) (env : Env) (Q : List Rv × Env → Prop) : @EvI _ (evHs (f :: fs) env) ⟨Q⟩ = Ev (f env) fun z => Ev (hold z.1 z.2) fun y => Ev (evHs fs y.2) fun x => Q (y.1 :: x.1, x.2) := by exact ev_hs_cons ..
theorem iv_listS (fs : List (Bool × ME)) (env : Env) (Q : Rv × Env → Prop) : @EvI _ (mListS fs env) ⟨Q⟩ = Ev (evSs fs env) fun z => z.1.length ≤ lineM ∧ Q (.new (.list z.1), z.2) := by exact ev_listS ..
theorem iv_ss_nil (env : Env) (Q : List D × Env → Prop) : @EvI _ (evSs [] env) ⟨Q⟩ = Q ([], env) := by exact ev_ss_nil ..
theorem iv_ss_one (f : ME) (fs : List (Bool × ME)) (env : Env) (Q : List D × Env → Prop) : @EvI _ (evSs ((false, f) :: fs) env) ⟨Q⟩ = Ev (f env) fun z => Ev (z.1.frz z.2) fun y => Ev (evSs fs y.2) fun x => Q (y.1 :: x.1, x.2) := by exact ev_ss_one ..
theorem iv_ss_star (f : ME) (fs : List (Bool × ME)) (env : Env) (Q : List D × Env → Prop) : @EvI _ (evSs ((true, f) :: fs) env) ⟨Q⟩ = Ev (f env) fun z => Ev (z.1.frz z.2) fun y => Ev (seqR (seqD y.1)) fun ds => Ev (evSs fs y.2) fun x => Q (ds ++ x.1, x.2) := by exact ev_ss_star ..
theorem iv_enum (f : ME) (env : Env) (Q : (List D × Option Nat) × Env → Prop) : @EvI _ (mEnum f env) ⟨Q⟩ = Ev (f env) fun z => Ev (lockR z.1 z.2) fun y => Ev (enumR y.1.2 y.2 (itemsD y.1.1)) Q := by exact ev_enum ..
theorem iv_make (c : Str) (fm : FM) (fs : List ME) (env : Env) (Q : Rv × Env → Prop) : @EvI _ (mMake c fm fs env) ⟨Q⟩ = Ev (evDs fs env) fun z => Ev (fm (.ow .pn (insD c [] []) :: z.1.map .fz)) fun y => Ev (mkK z.2 y) Q := by exact ev_make ..
theorem iv_prop (c : Str) (fm : FM) (h : ME) (env : Env) (Q : Rv × Env → Prop) : @EvI _ (mProp c fm h env) ⟨Q⟩ = Ev (h env) fun z => Ev (z.1.frz z.2) fun y => isIns c y.1 = true ∧ Ev (fm [.fz y.1]) fun x => Ev (prK y.2 x) Q := by exact ev_prop ..
theorem iv_fldS (c f : Str) (j : Nat) (h : ME) (env : Env) (Q : Fl × Env → Prop) : @EvI _ (mFldS c f j h env) ⟨Q⟩ = Ev (h env) fun z => Ev (z.1.frz z.2) fun y => Ev (fldS c f j y.1 y.2 y.2[j]?) Q := by exact ev_fldS ..
theorem iv_pop (j : Nat) (env : Env) (Q : Rv × Env → Prop) : @EvI _ (mPop j env) ⟨Q⟩ = Ev (popK j env (ownL env j)) Q := by exact ev_pop ..
theorem iv_popAt (j : Nat) (f : ME) (env : Env) (Q : Rv × Env → Prop) : @EvI _ (mPopAt j f env) ⟨Q⟩ = ((ownL env j).isSome = true ∧ Ev (f env) fun z => Ev (z.1.data z.2) fun di => Ev (popAK j z.2 (ownL z.2 j) di) Q) := by exact ev_popAt ..
theorem iv_extend (j : Nat) (f : ME) (env : Env) (Q : Fl × Env → Prop) : @EvI _ (mExtend j f env) ⟨Q⟩ = ((ownL env j).isSome = true ∧ Ev (f env) fun z => Ev (z.1.frz z.2) fun y => Ev (extK j y.2 (ownL y.2 j) y.1) Q) := by exact ev_extend ..
theorem iv_augIx (op : Int → Int → Int) (j : Nat) (fi f : ME) (env : Env) (Q : Fl × Env → Prop) : @EvI _ (mAugIx op j fi f env) ⟨Q⟩ = ((ownL env j).isSome = true ∧ Ev (fi env) fun x => Ev (x.1.data x.2) fun di => Ev (augI op j f x.2 di (ownL x.2 j)) Q) := by exact ev_augIx ..
theorem iv_as_nil (env : Env) (Q : List AV × Env → Prop) : @EvI _ (evAs [] [] env) ⟨Q⟩ = Q ([], env) := by exact ev_as_nil ..
theorem iv_as_t (ms : List Md) (f : ME) (fs : List ME) (env : Env) (Q : List AV × Env → Prop) : @EvI _ (evAs (.p :: ms) (f :: fs) env) ⟨Q⟩ = Ev (f env) fun z => Ev (asK ms fs z.1 z.2) Q := by exact ev_as_t ..
theorem iv_as_l (ms : List Md) (f : ME) (fs : List ME) (env : Env) (Q : List AV × Env → Prop) : @EvI _ (evAs (.l :: ms) (f :: fs) env) ⟨Q⟩ = Ev (f env) fun z => Ev (asL ms fs z.1 z.2) Q := by exact ev_as_l ..
theorem iv_as_f (ms : List Md) (f : ME) (fs : List ME) (env : Env) (Q : List AV × Env → Prop) : @EvI _ (evAs (.c :: ms) (f :: fs) env) ⟨Q⟩ = Ev (f env) fun z => Ev (z.1.frz z.2) fun y => Ev (evAs ms fs y.2) fun x => Q (.d y.1 :: x.1, x.2) := by exact ev_as_f ..
theorem iv_callF (fm : FM) (ms : List Md) (fs : List ME) (env : Env) (Q : Rv × Env → Prop) : @EvI _ (mCallF fm ms fs env) ⟨Q⟩ = Ev (evAs ms fs env) fun z => noDup (slotsOf z.1) = true ∧ Ev (callA fm z.1 z.2 (mkArgs z.2 z.1)) Q := by exact ev_callF ..
theorem iv_callK (fm : FM) (perm : List Nat) (np nk : Nat) (fs ks : List ME) (env : Env) (Q : Rv × Env → Prop) : @EvI _ (mCallK fm perm np nk fs ks env) ⟨Q⟩ = Ev (evDs fs env) fun z => Ev (evDs ks z.2) fun y => (z.1.length = np ∧ y.1.length = nk) ∧ Ev (fm ((pick PyData.none perm (z.1 ++ y.1)).map .fz)) fun x => Ev (backN y.2 x) Q := by exact ev_callK ..
theorem iv_def (np nl : Nat) (m : MS) (env : Env) (Q : Rv × Env → Prop) : @EvI _ (mDef np nl m env) ⟨Q⟩ = ((env.length = np ∧ env.all argOk = true) ∧ Ev (m (env ++ List.replicate (nl - np) .no)) (finQ env Q)) := by exact ev_def ..
theorem iv_range (o : List D → Option (Int × Nat)) (fs : List ME) (env : Env) (Q : (List D × Option Nat) × Env → Prop) : @EvI _ (mRange o fs env) ⟨Q⟩ = Ev (evRs fs env) fun z => Ev (optR (rngK o z.2 (datas z.2 z.1))) Q := by exact ev_range ..
theorem iv_iter (f : ME) (env : Env) (Q : (List D × Option Nat) × Env → Prop) : @EvI _ (mIter f env) ⟨Q⟩ = Ev (f env) fun z => Ev (lockR z.1 z.2) fun y => Ev (itK y.1.2 y.2 (itemsD y.1.1)) Q := by exact ev_iter ..
theorem iv_for (mi : MI) (gm : MG) (b : MS) (env : Env) (Q : Fl × Env → Prop) : @EvI _ (mFor mi gm b env) ⟨Q⟩ = Ev (mi env) fun z => lockB z.1.2 env = true ∧ Ev (mForL gm b z.1.1 z.2) fun y => Q (y.1, unlock z.1.2 y.2) := by exact ev_for ..
theorem iv_lc (mi : MI) (gm : MG) (tt : MT) (f : ME) (vs : List Nat) (env : Env) (Q : Rv × Env → Prop) : @EvI _ (mLc mi gm tt f vs env) ⟨Q⟩ = Ev (mi env) fun z => (vs.all (plainAt z.2) = true ∧ lockB z.1.2 env = true) ∧ Ev (mLcL gm tt f vs z.1.1 [] (wipeE z.2 vs)) fun y => Q (.new (.list y.1), unlock z.1.2 (backE z.2 y.2 vs)) := by exact ev_lc ..

theorem iV_ok' (a : α) (Q : α → Prop) : @EvI _ (.ok a) ⟨Q⟩ = Q a := rfl
theorem iV_stuck' (Q : α → Prop) : @EvI α .stuck ⟨Q⟩ = False := rfl
/-! ### slots -/
def varK (i : Nat) (env : Env) : Option Sl → Res (Rv × Env)
  | some (.fz d) => .ok (.val d, env)
  | some (.ow _ _) => .ok (.sl i, env)
  | _ => .stuck
theorem varK_fz (i : Nat) (env : Env) (d : D) : varK i env (some (.fz d)) = .ok (.val d, env) := rfl
theorem varK_ow (i : Nat) (env : Env) (k : Kd) (d : D) : varK i env (some (.ow k d)) = .ok (.sl i, env) := rfl
theorem mVar_eq (i : Nat) (env : Env) : mVar i env = varK i env env[i]? := by
  unfold mVar
  generalize env[i]? = s
  cases s with
  | none => rfl
  | some s => cases s <;> rfl
theorem mC_eq (d : D) (env : Env) : mC d env = .ok (.val d, env) := rfl
theorem data_val (d : D) (env : Env) : (Rv.val d).data env = .ok d := rfl
theorem data_new (d : D) (env : Env) : (Rv.new d).data env = .ok d := rfl
def datK : Option Sl → Res D
  | some (.fz d) => .ok d
  | some (.ow _ d) => .ok d
  | _ => .stuck
theorem datK_fz (d : D) : datK (some (.fz d)) = .ok d := rfl
theorem datK_ow (k : Kd) (d : D) : datK (some (.ow k d)) = .ok d := rfl
theorem data_sl (i : Nat) (env : Env) : (Rv.sl i).data env = datK env[i]? := by
  show (match env[i]? with | some (.fz d) => _ | some (.ow _ d) => _ | _ => _) = _
  generalize env[i]? = s
  cases s with
  | none => rfl
  | some s => cases s <;> rfl
theorem frz_val (d : D) (env : Env) : (Rv.val d).frz env = .ok (d, env) := rfl
theorem frz_new (d : D) (env : Env) : (Rv.new d).frz env = .ok (d, env) := rfl
def frzK (i : Nat) (env : Env) : Option Sl → Res (D × Env)
  | some (.fz d) => .ok (d, env)
  | some (.ow .fr d) => .ok (d, env.set i (.fz d))
  | _ => .stuck
theorem frzK_fz (i : Nat) (env : Env) (d : D) : frzK i env (some (.fz d)) = .ok (d, env) := rfl
theorem frzK_ow (i : Nat) (env : Env) (d : D) : frzK i env (some (.ow .fr d)) = .ok (d, env.set i (.fz d)) := rfl
theorem frz_sl (i : Nat) (env : Env) : (Rv.sl i).frz env = frzK i env env[i]? := by
  show (match env[i]? with | some (.fz d) => _ | some (.ow .fr d) => _ | _ => _) = _
  generalize env[i]? = s
  cases s with
  | none => rfl
  | some s =>
    cases s with
    | ow k d => cases k <;> rfl
    | _ => rfl
def freeK : Option Sl → Bool
  | some .no => true
  | some (.fz _) => true
  | some (.ow .fr _) => true
  | _ => false
theorem free_eq (env : Env) (i : Nat) : free env i = freeK env[i]? := by
  unfold free
  generalize env[i]? = s
  cases s with
  | none => rfl
  | some s =>
    cases s with
    | ow k d => cases k <;> rfl
    | _ => rfl
theorem freeK_no : freeK (some .no) = true := rfl
theorem freeK_fz (d : D) : freeK (some (.fz d)) = true := rfl
theorem freeK_ow (d : D) : freeK (some (.ow .fr d)) = true := rfl
def ownK : Option Sl → Option (Kd × List D)
  | some (.ow .fr (.list ds)) => some (.fr, ds)
  | some (.ow .pn (.list ds)) => some (.pn, ds)
  | _ => none
theorem ownL_eq (env : Env) (i : Nat) : ownL env i = ownK env[i]? := by
  unfold ownL
  generalize env[i]? = s
  cases s with
  | none => rfl
  | some s =>
    cases s with
    | ow k d => cases k <;> cases d <;> rfl
    | _ => rfl
theorem ownK_fr (ds : List D) : ownK (some (.ow .fr (.list ds))) = some (.fr, ds) := rfl
theorem ownK_pn (ds : List D) : ownK (some (.ow .pn (.list ds))) = some (.pn, ds) := rfl
theorem datas_nil (env : Env) : datas env [] = some [] := rfl
def consD : Res D → Option (List D) → Option (List D)
  | .ok d, some ds => some (d :: ds)
  | _, _ => none
theorem consD_ok (d : D) (ds : List D) : consD (.ok d) (some ds) = some (d :: ds) := rfl
theorem datas_cons' (env : Env) (r : Rv) (rs : List Rv) : datas env (r :: rs) = consD (r.data env) (datas env rs) := by
  rw [datas_cons]
  cases r.data env with
  | ok d => cases datas env rs <;> rfl
  | _ => rfl
theorem asB_b (b : Bool) : asB (.bool b) = some b := rfl
theorem asI_i (i : Int) : asI (.int i) = some (some i) := rfl
/-! ### calls -/
def argK : Option Sl → Option Sl
  | some (.fz d) => some (.fz d)
  | some (.ow .fr d) => some (.ow .pn d)
  | some (.ow .pn d) => some (.ow .pn d)
  | _ => none
theorem argSl_d (env : Env) (d : D) : argSl env (.d d) = some (.fz d) := rfl
theorem argSl_s (env : Env) (i : Nat) : argSl env (.s i) = argK env[i]? := by
  show (match env[i]? with | some (.fz d) => _ | some (.ow .fr d) => _ | some (.ow .pn d) => _ | _ => _) = _
  generalize env[i]? = s
  cases s with
  | none => rfl
  | some s =>
    cases s with
    | ow k d => cases k <;> rfl
    | _ => rfl
def argL : Option Sl → Option Sl
  | some (.fz d) => some (.fz d)
  | some (.ow _ d) => some (.ow .lk d)
  | _ => none
theorem argSl_l (env : Env) (i : Nat) : argSl env (.l i) = argL env[i]? := by
  show (match env[i]? with | some (.fz d) => _ | some (.ow _ d) => _ | _ => _) = _
  generalize env[i]? = s
  cases s with
  | none => rfl
  | some s => cases s <;> rfl
theorem argL_fz (d : D) : argL (some (.fz d)) = some (.fz d) := rfl
theorem argL_ow (k : Kd) (d : D) : argL (some (.ow k d)) = some (.ow .lk d) := rfl
theorem argK_fz (d : D) : argK (some (.fz d)) = some (.fz d) := rfl
theorem argK_fr (d : D) : argK (some (.ow .fr d)) = some (.ow .pn d) := rfl
theorem argK_pn (d : D) : argK (some (.ow .pn d)) = some (.ow .pn d) := rfl
def consO : Option Sl → Option Env → Option Env
  | some s, some r => some (s :: r)
  | _, _ => none
theorem consO_some (s : Sl) (r : Env) : consO (some s) (some r) = some (s :: r) := rfl
theorem mkArgs_nil (env : Env) : mkArgs env [] = some [] := rfl
theorem mkArgs_cons (env : Env) (a : AV) (as : List AV) : mkArgs env (a :: as) = consO (argSl env a) (mkArgs env as) := by
  show (match argSl env a, mkArgs env as with | some s, some r => some (s :: r) | _, _ => none) = _
  cases argSl env a <;> cases mkArgs env as <;> rfl
theorem slotsOf_nil : slotsOf [] = [] := rfl
theorem slotsOf_d (d : D) (as : List AV) : slotsOf (.d d :: as) = slotsOf as := rfl
theorem slotsOf_l (i : Nat) (as : List AV) : slotsOf (.l i :: as) = i :: slotsOf as := rfl
theorem slotsOf_s (i : Nat) (as : List AV) : slotsOf (.s i :: as) = i :: slotsOf as := rfl
theorem noDup_nil : noDup [] = true := rfl
theorem noDup_one (i : Nat) : noDup [i] = true := rfl
theorem noDup_two (i j : Nat) : noDup [i, j] = !(i == j) := by
  by_cases h : i = j
  · subst h; simp [noDup]
  · simp [noDup, h]
def putK (i : Nat) : Option Sl → Sl → Env → Env
  | some (.ow k _), .ow _ d, env => env.set i (.ow k d)
  | _, _, env => env
theorem putK_ow (i : Nat) (k k1 : Kd) (d0 d : D) (env : Env) : putK i (some (.ow k d0)) (.ow k1 d) env = env.set i (.ow k d) := rfl
theorem putK_fz (i : Nat) (d : D) (t : Sl) (env : Env) : putK i (some (.fz d)) t env = env := rfl
theorem putBack_nil (ts env : Env) : putBack [] ts env = env := by unfold putBack; rfl
theorem putBack_d (d : D) (as : List AV) (t : Sl) (ts env : Env) : putBack (.d d :: as) (t :: ts) env = putBack as ts env := by
  show (putBack (.d d :: as) (t :: ts) env) = _
  rw [putBack]
theorem putBack_s (i : Nat) (as : List AV) (t : Sl) (ts env : Env) : putBack (.s i :: as) (t :: ts) env = putK i env[i]? t (putBack as ts env) := by
  cases h : env[i]? with
  | none => simp [putBack, h, putK]
  | some s => cases s <;> cases t <;> simp [putBack, h, putK]
theorem putBack_l (i : Nat) (as : List AV) (t : Sl) (ts env : Env) : putBack (.l i :: as) (t :: ts) env = putK i env[i]? t (putBack as ts env) := by
  cases h : env[i]? with
  | none => simp [putBack, h, putK]
  | some s => cases s <;> cases t <;> simp [putBack, h, putK]
theorem outEnv_nil (e : Env) : outEnv [] e = [] := rfl
theorem outEnv_fz (d : D) (r : Env) (t : Sl) (u : Env) : outEnv (.fz d :: r) (t :: u) = .fz d :: outEnv r u := rfl
theorem outEnv_ow (k : Kd) (d : D) (r : Env) (t : Sl) (u : Env) : outEnv (.ow k d :: r) (t :: u) = t :: outEnv r u := rfl
theorem finR_val (env e : Env) (d : D) : finR env e (.val d) = .ok (.val d, outEnv env e) := rfl
theorem finR_new (env e : Env) (d : D) : finR env e (.new d) = .ok (.new d, outEnv env e) := rfl
def finK (env e : Env) : Option Sl → Res (Rv × Env)
  | some (.fz d) => .ok (.val d, outEnv env e)
  | some (.ow .fr d) => .ok (.new d, outEnv env e)
  | _ => .stuck
theorem finR_sl (env e : Env) (i : Nat) : finR env e (.sl i) = finK env e e[i]? := by
  show (match e[i]? with | some (.fz d) => _ | some (.ow .fr d) => _ | _ => _) = _
  generalize e[i]? = s
  cases s with
  | none => rfl
  | some s =>
    cases s with
    | ow k d => cases k <;> rfl
    | _ => rfl
theorem finK_fz (env e : Env) (d : D) : finK env e (some (.fz d)) = .ok (.val d, outEnv env e) := rfl
theorem finK_ow (env e : Env) (d : D) : finK env e (some (.ow .fr d)) = .ok (.new d, outEnv env e) := rfl
theorem finQ_nx (env e : Env) (Q : Rv × Env → Prop) : finQ env Q (.nx, e) = (env.length ≤ e.length ∧ Q (.val .none, outEnv env e)) := rfl
theorem finQ_rt (env e : Env) (r : Rv) (Q : Rv × Env → Prop) : finQ env Q (.rt r, e) = (env.length ≤ e.length ∧ Ev (finR env e r) Q) := rfl
theorem Ev_defI {np nl : Nat} {m : MS} {env : Env} {Q : Rv × Env → Prop} (h1 : env.length = np ∧ env.all argOk = true) (h2 : Ev (m (env ++ List.replicate (nl - np) .no)) (finQ env Q)) : Ev (mDef np nl m env) Q := by
  rw [ev_def]; exact ⟨h1, h2⟩
/-! ### walks -/
theorem lockR_val (d : D) (env : Env) : lockR (.val d) env = .ok ((d, none), env) := rfl
theorem lockR_new (d : D) (env : Env) : lockR (.new d) env = .ok ((d, none), env) := rfl
def lokK (j : Nat) (env : Env) : Option Sl → Res ((D × Option Nat) × Env)
  | some (.fz d) => .ok ((d, none), env)
  | some (.ow .fr d) => .ok ((d, some j), env.set j (.ow .lk d))
  | some (.ow .lk d) => .ok ((d, none), env)
  | _ => .stuck
theorem lockR_sl (j : Nat) (env : Env) : lockR (.sl j) env = lokK j env env[j]? := by
  show (match env[j]? with | some (.fz d) => _ | some (.ow .fr d) => _ | some (.ow .lk d) => _ | _ => _) = _
  generalize env[j]? = s
  cases s with
  | none => rfl
  | some s =>
    cases s with
    | ow k d => cases k <;> rfl
    | _ => rfl
theorem lokK_fz (j : Nat) (env : Env) (d : D) : lokK j env (some (.fz d)) = .ok ((d, none), env) := rfl
theorem lokK_fr (j : Nat) (env : Env) (d : D) : lokK j env (some (.ow .fr d)) = .ok ((d, some j), env.set j (.ow .lk d)) := rfl
theorem lokK_lk (j : Nat) (env : Env) (d : D) : lokK j env (some (.ow .lk d)) = .ok ((d, none), env) := rfl
theorem lockB_none (env : Env) : lockB none env = true := rfl
def lokB : Option Sl → Bool
  | some (.ow k _) => k == .fr
  | _ => true
theorem lockB_some (j : Nat) (env : Env) : lockB (some j) env = lokB env[j]? := by
  unfold lockB
  simp only
  generalize env[j]? = s
  cases s with
  | none => rfl
  | some s =>
    cases s with
    | ow k d => cases k <;> rfl
    | _ => rfl
theorem lokB_no : lokB (some .no) = true := rfl
theorem lokB_fz (d : D) : lokB (some (.fz d)) = true := rfl
theorem lokB_fr (d : D) : lokB (some (.ow .fr d)) = true := rfl
def lobK : Option Sl → Bool
  | some (.ow .fr _) => true
  | some (.ow _ _) => false
  | _ => true
theorem unlock_none (env : Env) : unlock none env = env := rfl
def unlK (j : Nat) (env : Env) : Option Sl → Env
  | some (.ow .lk d) => env.set j (.ow .fr d)
  | _ => env
theorem unlock_some (j : Nat) (env : Env) : unlock (some j) env = unlK j env env[j]? := by
  show (match env[j]? with | some (.ow .lk d) => _ | _ => _) = _
  generalize env[j]? = s
  cases s with
  | none => rfl
  | some s =>
    cases s with
    | ow k d => cases k <;> rfl
    | _ => rfl
theorem unlK_lk (j : Nat) (env : Env) (d : D) : unlK j env (some (.ow .lk d)) = env.set j (.ow .fr d) := rfl
theorem optR_map_some {β : Type} (f : α → β) (a : α) : optR ((some a).map f) = .ok (f a) := rfl
theorem optR_map_if {β : Type} {c : Prop} [Decidable c] (f : α → β) (a : α) : optR ((if c then some a else none).map f) = if c then .ok (f a) else .stuck := by split <;> rfl
theorem wipeE_nil (env : Env) : wipeE env [] = env := rfl
theorem wipeE_cons (env : Env) (v : Nat) (vs : List Nat) : wipeE env (v :: vs) = (wipeE env vs).set v .no := rfl
theorem backE_nil (o env : Env) : backE o env [] = env := rfl
theorem backE_cons (o env : Env) (v : Nat) (vs : List Nat) : backE o env (v :: vs) = (backE o env vs).set v (o.getD v .no) := rfl
def plaK : Option Sl → Bool
  | some .no => true
  | some (.fz _) => true
  | _ => false
theorem plainAt_eq (env : Env) (v : Nat) : plainAt env v = plaK env[v]? := by
  unfold plainAt
  generalize env[v]? = s
  cases s with
  | none => rfl
  | some s => cases s <;> rfl
theorem plaK_no : plaK (some .no) = true := rfl
theorem plaK_fz (d : D) : plaK (some (.fz d)) = true := rfl
theorem tgm_nm (i : Nat) : Tg.m (.nm i) = mName i := by simp only [Tg.m]
theorem tgm_tp (l : List Tg) : Tg.m (.tp l) = mTupG (Tg.ms l) := by simp only [Tg.m]
theorem tgms_nil : Tg.ms [] = [] := by simp only [Tg.ms]
theorem tgms_cons (t : Tg) (l : List Tg) : Tg.ms (t :: l) = Tg.m t :: Tg.ms l := by simp only [Tg.ms]
/-! ### operators on ints and texts -/
theorem dLt_i (i j : Int) : dLt (.int i) (.int j) = some (.val (.bool (decide (i < j)))) := rfl
theorem dLe_i (i j : Int) : dLe (.int i) (.int j) = some (.val (.bool (decide (i ≤ j)))) := rfl
theorem dGt_i (i j : Int) : dGt (.int i) (.int j) = some (.val (.bool (decide (j < i)))) := rfl
theorem dGe_i (i j : Int) : dGe (.int i) (.int j) = some (.val (.bool (decide (j ≤ i)))) := rfl
theorem dLt_s (i j : Str) : dLt (.str i) (.str j) = some (.val (.bool (ltS i j))) := rfl
theorem dLe_s (i j : Str) : dLe (.str i) (.str j) = some (.val (.bool (!ltS j i))) := rfl
theorem dGt_s (i j : Str) : dGt (.str i) (.str j) = some (.val (.bool (ltS j i))) := rfl
theorem dGe_s (i j : Str) : dGe (.str i) (.str j) = some (.val (.bool (!ltS i j))) := rfl
theorem okD_int (i : Int) : okD (.int i) = true := by unfold okD; simp only [PyData.hasDict, PyData.depth]; rfl
theorem okD_str (x : Str) : okD (.str x) = true := by unfold okD; simp only [PyData.hasDict, PyData.depth]; rfl
theorem okD_bool (b : Bool) : okD (.bool b) = true := by unfold okD; simp only [PyData.hasDict, PyData.depth]; rfl
theorem okD_none : okD .none = true := by unfold okD; simp only [PyData.hasDict, PyData.depth]; rfl
theorem dMax2_i (i j : Int) : dMax2 [.int i, .int j] = some (.val (.int (if j > i then j else i))) := rfl
theorem dMin2_i (i j : Int) : dMin2 [.int i, .int j] = some (.val (.int (if j < i then j else i))) := rfl
theorem atD3_0 (a b c : D) : atD [a, b, c] 0 = some a := rfl
theorem atD3_1 (a b c : D) : atD [a, b, c] 1 = some b := rfl
theorem atD3_2 (a b c : D) : atD [a, b, c] 2 = some c := rfl
theorem ixN3_0 : ixN 3 0 = some 0 := rfl
theorem ixN3_1 : ixN 3 1 = some 1 := rfl
theorem ixN3_2 : ixN 3 2 = some 2 := rfl
theorem isStrD_s (x : Str) : isStrD (.str x) = true := rfl
theorem ite_and {c p : Prop} [Decidable c] : (if c then p else False) = (c ∧ p) := by
  by_cases h : c <;> simp [h]
theorem rangeD_len (lo : Int) (n : Nat) : (rangeD lo n).length = n := by simp [rangeD]
theorem atD2_0 (a b : D) : atD [a, b] 0 = some a := rfl
theorem atD2_1 (a b : D) : atD [a, b] 1 = some b := rfl
theorem atD1_0 (a : D) : atD [a] 0 = some a := rfl
end DL
namespace DL
open PySem PySem.Spec L2
local macro_rules
  | `(tactic| simp_arith [$xs,*]) => `(tactic| simp only [$xs,*, ↓Ev_eq, ↓iV_ok, ↓iV_bind, ↓iV_stuck, ↓iV_ite, ↓iV_bindN, ↓iV_some, ↓iV_none, ↓iV_oifG, ↓iV_gif, ↓iv_c, ↓iv_bin, ↓iv_un, ↓iv_test, ↓iv_and, ↓iv_or, ↓iv_not, ↓iv_val, ↓iv_if, ↓iv_yes, ↓iv_ds_nil, ↓iv_ds_cons, ↓iv_rs_nil, ↓iv_rs_cons, ↓iv_list, ↓iv_tup, ↓iv_callB, ↓iv_part, ↓iv_nopart, ↓iv_sl, ↓iv_meth, ↓iv_repr, ↓iv_rne, ↓iv_req, ↓iv_chain, ↓iv_pass, ↓iv_break, ↓iv_cont, ↓iv_never, ↓iv_seq, ↓iv_ret, ↓iv_retN, ↓iv_ifS, ↓iv_drop, ↓iv_asg, ↓iv_name_val, ↓iv_name_new, ↓iv_name_sl, ↓iv_tupG, ↓iv_asg_nil, ↓iv_asg_cons, ↓iv_setIx, ↓iv_append, ↓iv_aug, ↓iv_as_nil, ↓iv_as_t, ↓iv_as_f, ↓iv_as_l, ↓iv_callF, ↓iv_callK, ↓iv_range, ↓iv_iter, ↓iv_for, ↓iv_lc, ↓iv_par, ↓iv_hs_nil, ↓iv_hs_cons, ↓iv_listS, ↓iv_ss_nil, ↓iv_ss_one, ↓iv_ss_star, ↓iv_enum, ↓iv_make, ↓iv_prop, ↓iv_fldS, ↓iv_pop, ↓iv_popAt, ↓iv_extend, ↓iv_augIx, iV_ok, iV_bind, iV_stuck, iV_ite, iV_bindN, iV_some, iV_none, iV_oifG, iV_gif, iv_c, iv_bin, iv_un, iv_test, iv_and, iv_or, iv_not, iv_val, iv_if, iv_yes, iv_ds_nil, iv_ds_cons, iv_rs_nil, iv_rs_cons, iv_list, iv_tup, iv_callB, iv_part, iv_nopart, iv_sl, iv_meth, iv_repr, iv_rne, iv_req, iv_chain, iv_pass, iv_break, iv_cont, iv_never, iv_seq, iv_ret, iv_retN, iv_ifS, iv_drop, iv_asg, iv_name_val, iv_name_new, iv_name_sl, iv_tupG, iv_asg_nil, iv_asg_cons, iv_setIx, iv_append, iv_aug, iv_as_nil, iv_as_t, iv_as_f, iv_as_l, iv_callF, iv_callK, iv_range, iv_iter, iv_for, iv_lc, iv_par, iv_hs_nil, iv_hs_cons, iv_listS, iv_ss_nil, iv_ss_one, iv_ss_star, iv_enum, iv_make, iv_prop, iv_fldS, iv_pop, iv_popAt, iv_extend, iv_augIx, seqK_nx, seqK_bk, seqK_ct, seqK_rt, tupK_tup, asgK_nx, setN_some, setK_some, appK_some, augS_some, augK_fz, asK_sl, asL_sl, asL_val, backK_val, backK_new, callA_some, backN_val, backN_new, rngK_some, optR_some, optR_if, itK_some, chK_b, turnQ_nx, turnQ_ct, turnQ_bk, turnQ_rt, varK_fz, varK_ow, mVar_eq, mC_eq, data_val, data_new, datK_fz, datK_ow, data_sl, frz_val, frz_new, frzK_fz, frzK_ow, frz_sl, freeK_no, freeK_fz, freeK_ow, free_eq, ownL_eq, ownK_fr, ownK_pn, datas_nil, consD_ok, datas_cons', asB_b, asI_i, argSl_d, argSl_s, argSl_l, argL_fz, argL_ow, argK_fz, argK_fr, argK_pn, consO_some, mkArgs_nil, mkArgs_cons, slotsOf_nil, slotsOf_d, slotsOf_s, slotsOf_l, noDup_nil, noDup_one, noDup_two, putK_ow, putK_fz, putBack_nil, putBack_d, putBack_s, putBack_l, outEnv_nil, outEnv_fz, outEnv_ow, finR_val, finR_new, finR_sl, finK_fz, finK_ow, finQ_nx, finQ_rt, lockR_val, lockR_new, lockR_sl, lokK_fz, lokK_fr, lokK_lk, lockB_none, lockB_some, lokB_no, lokB_fz, lokB_fr, unlock_none, unlock_some, unlK_lk, optR_map_some, optR_map_if, wipeE_nil, wipeE_cons, backE_nil, backE_cons, plainAt_eq, plaK_no, plaK_fz, tgm_nm, tgm_tp, tgms_nil, tgms_cons, dLt_i, dLe_i, dGt_i, dGe_i, dLt_s, dLe_s, dGt_s, dGe_s, okD_int, okD_str, okD_bool, okD_none, dMax2_i, dMin2_i, atD3_0, atD3_1, atD3_2, ixN3_0, ixN3_1, ixN3_2, dAdd, dSub, dDiv, dMod, dPow, dMul, dNeg, dAbs, dInt, dLen, dIs, dIsNot, dIAdd, isNon, dIx, dSl, dRev, itemsD, List.getElem?_cons_zero, List.getElem?_cons_succ, List.getElem?_nil, List.set_cons_zero, List.set_cons_succ, List.set_nil, List.map_cons, List.map_nil, List.length_cons, List.length_nil, List.getD_cons_zero, List.getD_cons_succ, List.all_cons, List.all_nil, List.cons_append, List.nil_append, Option.isSome_some, Option.map_some, Option.map_none, true_and, and_true, Bool.and_true, Bool.true_and, Bool.not_true, Bool.not_false, if_true, if_false, ite_true, ite_false, decide_eq_true_eq, Bool.not_eq_true, Bool.not_eq_true', decide_eq_false_iff_not, not_true, not_false_iff, rngOf1, rngOf2, seqR_some, enumR_some, mkK_ok, prK_val, prK_new, fldR_some, fldS_fr, fldS_pn, popK_some, popR_some, popAK_some, popAR_some, extK_some, augM_some, augN_int, augJ_some, augI_int, seqD, hold_val, hold_new, hold_sl, slOf_val, slOf_new, storeHs_nil, storeHs_cons, isStrD_s, atD2_0, atD2_1, atD1_0, ite_and, and_false, false_and, or_false, false_or, or_true, true_or, reduceIte, reduceCtorEq, List.reduceReplicate, Nat.reduceSub, Nat.reduceAdd, Nat.reduceLeDiff, Int.reduceLT, Int.reduceLE, Int.reduceEq, Int.reduceMod, Int.reduceDiv, Int.reduceMul, Int.reduceAdd, Int.reduceSub, Int.reduceNeg, Int.reduceToNat, Bool.false_eq_true, lineM])

/-- a pool that has been drawn from at most n times -/
def Pl (n : Nat) (p : D) : Prop := ∃ a b c : Int, p = .list [.int a, .int b, .int c] ∧ 0 ≤ b ∧ b < 2 ^ 64 ∧ 0 ≤ c ∧ c ≤ n
theorem Pl.mono {n m : Nat} {p : D} (h : Pl n p) (k : n ≤ m) : Pl m p := by
  obtain ⟨a, b, c, h1, h2, h3, h4, h5⟩ := h
  exact ⟨a, b, c, h1, h2, h3, h4, by omega⟩
theorem log_lt {x : Int} {k : Nat} (h0 : 0 ≤ x) (h : x < 2 ^ k) : x.natAbs.log2 < k + 1 := by
  by_cases hz : x.natAbs = 0
  · rw [hz]; exact Nat.lt_of_le_of_lt (Nat.le_of_eq (by decide)) (Nat.succ_pos k)
  · have : x.natAbs < 2 ^ k := by
      have h2 : (x.natAbs : Int) = x := by omega
      have : (x.natAbs : Int) < (2 ^ k : Nat) := by rw [h2]; simpa using h
      exact_mod_cast this
    have := (Nat.log2_lt hz).mpr this
    omega
theorem log_nat {n : Nat} (h : n < 1000000) : (n : Int).natAbs.log2 < 9000 := by
  have := log_lt (x := (n : Int)) (k := 20) (by omega) (by omega)
  omega
theorem log_int {n : Int} (h0 : 0 ≤ n) (h : n < 1000000) : n.natAbs.log2 < 9000 := by
  have := log_lt (x := n) (k := 20) (by omega) (by omega)
  omega
theorem mod_rng {x s : Int} (hs : 0 < s) : 0 ≤ x % s ∧ x % s < s := ⟨Int.emod_nonneg _ (by omega), Int.emod_lt_of_pos _ hs⟩
theorem pow3_ok {x : Int} {k : Nat} (h0 : 0 ≤ x) (h : x < 2 ^ k) (hk : k ≤ 1000) : CPowD x 3 := by
  have := log_lt h0 h
  refine ⟨by decide, ?_⟩
  omega
theorem ev_draw {p : D} {n : Nat} {s : Int} {Q : Rv × Env → Prop} (hp : Pl n p) (hn : n < 2 ^ 60) (hs : 0 < s) (hl : s < 2 ^ 250)
    (k : ∀ r p', 0 ≤ r → r < s → Pl (n + 1) p' → Q (.val (.int r), [.ow .pn p', .fz (.int s)])) : Ev (M_law_draw [.ow .pn p, .fz (.int s)]) Q := by
  obtain ⟨a, b, c, rfl, hb0, hb1, hc0, hc1⟩ := hp
  refine Ev_defI ⟨rfl, rfl⟩ ?_
  unfold B_law_draw
  simp_arith [Ev_eq]
  have e1 : s.natAbs.log2 < 9000 := Nat.lt_of_lt_of_le (log_lt (by omega) hl) (by decide)
  by_cases ha : 0 < a
  · rw [if_pos ha]
    obtain ⟨h1, h2⟩ := mod_rng (x := a) hs
    exact ⟨hs, ⟨hs, e1⟩, k _ _ h1 h2 ⟨_, _, _, rfl, hb0, hb1, hc0, by omega⟩⟩
  · rw [if_neg ha]
    have hc : c + 1 < 2 ^ 61 := by omega
    have l1 : (c + 1).natAbs.log2 < 62 := log_lt (by omega) hc
    obtain ⟨m1, m2⟩ := mod_rng (x := (b + 15485863 * (c + 1)) ^ 3) (s := 162259276829213363391578010288127) (by decide)
    have c1 : CPowD (b + 15485863 * (c + 1)) 3 := pow3_ok (k := 200) (by omega) (by omega) (by decide)
    have c2 : CPowD ((b + 15485863 * (c + 1)) ^ 3 % 162259276829213363391578010288127 + 32452843 * (c + 1)) 3 := pow3_ok (k := 200) (by omega) (by omega) (by decide)
    obtain ⟨h1, h2⟩ := mod_rng (x := ((b + 15485863 * (c + 1)) ^ 3 % 162259276829213363391578010288127 + 32452843 * (c + 1)) ^ 3 % 170141183460469231731687303715884105727 / 1048576) hs
    have q1 : (Int.natAbs 15485863).log2 = 23 := by decide +kernel
    have q2 : (Int.natAbs 32452843).log2 = 24 := by decide +kernel
    have q3 : (Int.natAbs 1048576).log2 = 20 := by decide +kernel
    rw [q1, q2, q3]
    exact ⟨by omega, c1, by omega, c2, by omega, hs, k _ _ h1 h2 ⟨_, _, _, rfl, hb0, hb1, by omega, by omega⟩⟩
theorem ixN_ok {n : Nat} {i : Int} (h0 : 0 ≤ i) (h : i < n) : ixN n i = some i.toNat := by
  unfold ixN
  rw [if_pos h0, if_pos h]
theorem atD_get {ds : List D} {i : Int} (h0 : 0 ≤ i) (h : i < ds.length) : atD ds i = ds[i.toNat]? := by
  unfold atD
  rw [ixN_ok h0 h]
  rfl
theorem atD_int {ns : List Int} {i : Int} (h0 : 0 ≤ i) (h : i < ns.length) : ∃ x, atD (ns.map .int) i = some (.int x) := by
  rw [atD_get h0 (by simpa using h)]
  have : i.toNat < ns.length := by omega
  exact ⟨ns[i.toNat], by simp [List.getElem?_map, this]⟩
theorem ev_pool {ns : List Int} {i : Int} {Q : Rv × Env → Prop} (h0 : 0 ≤ i) (hi : i < 1000) (k : ∀ p, Pl 0 p → Q (.new p, [.fz (roD (ns.map .int)), .fz (.int i)])) : Ev (M_law_pool [.fz (roD (ns.map .int)), .fz (.int i)]) Q := by
  refine Ev_defI ⟨rfl, rfl⟩ ?_
  unfold B_law_pool roD
  simp_arith [Ev_eq]
  have q1 : (Int.natAbs 7368787).log2 = 22 := by decide +kernel
  have l1 : (i + 1).natAbs.log2 < 11 := log_lt (k := 10) (by omega) (by omega)
  have c1 : CPowD 10 18 := by decide +kernel
  by_cases hl : i < ↑(List.map PyData.int ns).length
  · rw [if_pos hl]
    obtain ⟨x, hx⟩ := atD_int (ns := ns) h0 (by simpa using hl)
    rw [hx]
    simp_arith [Ev_eq]
    rw [q1]
    obtain ⟨m1, m2⟩ := mod_rng (x := x) (s := 2305843009213693951) (by decide)
    exact ⟨c1, by omega, k _ ⟨_, _, _, rfl, by omega, by omega, by omega, by omega⟩⟩
  · rw [if_neg hl, q1]
    exact ⟨c1, by omega, k _ ⟨_, _, _, rfl, by omega, by omega, by omega, by omega⟩⟩
theorem atD_mem {ds : List D} {i : Int} (h0 : 0 ≤ i) (h : i < ds.length) : ∃ d, d ∈ ds ∧ atD ds i = some d := by
  have : i.toNat < ds.length := by omega
  exact ⟨ds[i.toNat], List.getElem_mem this, by rw [atD_get h0 h]; simp [this]⟩
theorem atI_get {α : Type} {l : List α} {i : Int} (h0 : 0 ≤ i) (h : i < l.length) : atI l i = l[i.toNat]? := by
  unfold atI
  rw [ixN_ok h0 h]
  rfl
theorem atI_mem {α : Type} {l : List α} {i : Int} (h0 : 0 ≤ i) (h : i < l.length) : ∃ c, c ∈ l ∧ atI l i = some c := by
  have : i.toNat < l.length := by omega
  exact ⟨l[i.toNat], List.getElem_mem this, by rw [atI_get h0 h]; simp [this]⟩
theorem ev_at {ds : List D} {i : Int} {env : Env} {Q : Rv × Env → Prop} (h0 : 0 ≤ i) (h : i < ds.length) (k : ∀ d ∈ ds, Q (.val d, env)) : Ev (orStuck (Option.map Rv.val (atD ds i)) env) Q := by
  obtain ⟨d, h1, h2⟩ := atD_mem h0 h
  rw [h2]
  exact k d h1
theorem ev_atS {l : List Nat} {i : Int} {env : Env} {Q : Rv × Env → Prop} (h0 : 0 ≤ i) (h : i < l.length) (k : ∀ c ∈ l, Q (.val (.str (signS c)), env)) : Ev (orStuck (Option.map (fun c => Rv.val (PyData.str (signS c))) (atI l i)) env) Q := by
  obtain ⟨d, h1, h2⟩ := atI_mem h0 h
  rw [h2]
  exact k d h1
theorem rangeD_zero (lo : Int) : rangeD lo 0 = [] := rfl
theorem rangeD_succ (lo : Int) (n : Nat) : rangeD lo (n + 1) = .int lo :: rangeD (lo + 1) n := by
  unfold rangeD
  rw [List.range_succ_eq_map, List.map_cons, List.map_map]
  congr 1
  · simp
  · apply List.map_congr_left
    intro a _
    show PyData.int (lo + ((a + 1 : Nat) : Int)) = .int (lo + 1 + (a : Int))
    congr 1; omega
/-- a loop over a range -/
theorem ev_forR {i : Nat} {b : MS} {Q : Fl × Env → Prop} (J : Int → Env → Prop) (hi : Int) (hs : ∀ x env, x < hi → J x env → Ev (mName i (.val (.int x)) env) fun z => Ev (seqK b z) (turnQ (J (x + 1)) Q)) (he : ∀ env, J hi env → Q (.nx, env)) :
    ∀ (n : Nat) (lo : Int) (env : Env), lo + n = hi → J lo env → Ev (mForL (mName i) b (rangeD lo n) env) Q := by
  intro n lo env hn hj
  refine ev_forL (name_nx i) (fun rest env => ∃ (lo : Int) (n : Nat), rest = rangeD lo n ∧ lo + n = hi ∧ J lo env) ?_ ?_ _ _ ⟨lo, n, rfl, hn, hj⟩
  · rintro d ds env ⟨lo, n, e, h1, h2⟩
    cases n with
    | zero => rw [rangeD_zero] at e; cases e
    | succ n =>
      rw [rangeD_succ] at e
      cases e
      refine (hs lo env (by omega) h2).mono fun z hz => hz.mono fun y hy => ?_
      obtain ⟨f, e⟩ := y
      cases f with
      | nx => exact ⟨lo + 1, n, rfl, by omega, hy⟩
      | ct => exact ⟨lo + 1, n, rfl, by omega, hy⟩
      | bk => exact hy
      | rt r => exact hy
  · rintro env ⟨lo, n, e, h1, h2⟩
    cases n with
    | zero => exact he env (by rw [← h1]; simpa using h2)
    | succ n => rw [rangeD_succ] at e; cases e
/-- a comprehension that makes g d of each item and leaves all else -/
theorem ev_lc_pure {gm : MG} {tt : MT} {f : ME} {vs : List Nat} {Q : List D × Env → Prop} {ds : List D} {env0 : Env} (g : D → D) (hg : ∀ d env, Ev (gm (.val d) env) (fun z => z.1 = .nx) ∨ gm (.val d) env = .stuck) (hl : ds.length ≤ 16777216)
    (hs : ∀ d ∈ ds, Ev (gm (.val d) env0) fun z => Ev (tt z.2) fun y => y.1 = true ∧ Ev (f y.2) fun x => Ev (x.1.frz x.2) fun u => u.1 = g d ∧ wipeE u.2 vs = env0) (k : Q (ds.map g, env0)) : Ev (mLcL gm tt f vs ds [] env0) Q := by
  refine ev_lcL (fun rest acc env => env = env0 ∧ acc ++ rest.map g = ds.map g ∧ ∀ d ∈ rest, d ∈ ds) hg ?_ ?_ _ _ _ ⟨rfl, rfl, fun _ h => h⟩
  · rintro d rest acc env ⟨rfl, h1, h2⟩
    refine (hs d (h2 d (by simp))).mono fun z hz => hz.mono fun y hy => ?_
    rw [if_pos hy.1]
    refine hy.2.mono fun x hx => hx.mono fun u hu => ?_
    have hlen : acc.length + (rest.length + 1) = ds.length := by
      have := congrArg List.length h1
      simpa using this
    refine ⟨by unfold lineM; omega, hu.2, ?_, fun d' hd' => h2 d' (List.mem_cons_of_mem _ hd')⟩
    rw [← h1, hu.1]; simp
  · rintro acc env ⟨rfl, h1, _⟩
    have h1 : acc = ds.map g := by simpa using h1
    rw [h1]; exact k
end DL
namespace DL
open PySem PySem.Spec L2

/-- a text by its code points -/
def S (l : List Nat) : Str := ⟨l.toArray⟩
theorem S_inj {l m : List Nat} : S l = S m ↔ l = m := by
  constructor
  · intro h
    have := congrArg (fun x : Str => x.cps.toList) h
    simpa [S] using this
  · intro h; rw [h]
theorem S_cps (l : List Nat) : (S l).cps.toList = l := by simp [S]
theorem S_of (x : Str) : x = S x.cps.toList := by cases x; simp [S]
theorem S_len (l : List Nat) : (S l).length = l.length := by show l.toArray.size = _; simp
theorem S_app (l m : List Nat) : S l ++ S m = S (l ++ m) := by
  show (⟨l.toArray ++ m.toArray⟩ : Str) = _
  unfold S; congr 1; simp
theorem S_rep (l : List Nat) (n : Nat) : repS (S l) n = S (List.replicate n l).flatten := by unfold repS; rw [S_cps]; rfl
theorem S_rev (l : List Nat) : revS (S l) = S l.reverse := by unfold revS; rw [S_cps]; rfl
theorem S_sign (c : Nat) : signS c = S [c] := rfl
theorem S_cut (l : List Nat) (lo hi : Option Int) : cutS (S l) lo hi = S ((l.drop (HT.sIx l.length 0 lo)).take (HT.sIx l.length l.length hi - HT.sIx l.length 0 lo)) := by
  unfold cutS; rw [S_cps, S_len]; rfl
theorem sIx_nn {n d : Nat} {i : Int} (h : 0 ≤ i) : HT.sIx n d (some i) = min i.toNat n := by
  show (if i < 0 then _ else _) = _
  rw [if_neg (by omega)]
theorem cut_take (l : List Nat) {i : Int} (h : 0 ≤ i) : cutS (S l) none (some i) = S (l.take i.toNat) := by
  rw [S_cut, HT.sIx_none, sIx_nn h, List.drop_zero, Nat.sub_zero]
  congr 1
  rcases Nat.le_total i.toNat l.length with q | q
  · rw [Nat.min_eq_left q]
  · rw [Nat.min_eq_right q, List.take_of_length_le (Nat.le_refl _), List.take_of_length_le q]
theorem cut_drop (l : List Nat) {i : Int} (h : 0 ≤ i) : cutS (S l) (some i) none = S (l.drop i.toNat) := by
  rw [S_cut, HT.sIx_none, sIx_nn h]
  congr 1
  rcases Nat.le_total i.toNat l.length with q | q
  · rw [Nat.min_eq_left q, List.take_of_length_le (by simp)]
  · rw [Nat.min_eq_right q, Nat.sub_self, List.take_zero, List.drop_of_length_le q]
theorem cut_both (l : List Nat) {i j : Int} (h : 0 ≤ i) (k : 0 ≤ j) : cutS (S l) (some i) (some j) = S ((l.drop i.toNat).take (j.toNat - i.toNat)) := by
  rw [S_cut, sIx_nn h, sIx_nn k]
  congr 1
  rcases Nat.le_total i.toNat l.length with q | q
  · rw [Nat.min_eq_left q]
    rcases Nat.le_total j.toNat l.length with r | r
    · rw [Nat.min_eq_left r]
    · rw [Nat.min_eq_right r, List.take_of_length_le (by simp), List.take_of_length_le (by rw [List.length_drop]; omega)]
  · rw [Nat.min_eq_right q, List.drop_of_length_le (Nat.le_refl _), List.drop_of_length_le q]
    simp
theorem S_eqv (x y : Str) : PyData.eqv (.str x) (.str y) = decide (x = y) := by
  simp only [PyData.eqv]
  by_cases h : x = y
  · subst h; simp
  · simp [h]
theorem S_eqv' (l m : List Nat) : PyData.eqv (.str (S l)) (.str (S m)) = decide (l = m) := by
  rw [S_eqv]; by_cases h : l = m <;> simp [h, S_inj]
theorem I_eqv (i j : Int) : PyData.eqv (.int i) (.int j) = decide (i = j) := by
  simp only [PyData.eqv]
  by_cases h : i = j
  · subst h; simp
  · simp [h]
theorem dEq_s (l m : List Nat) : dEq (.str (S l)) (.str (S m)) = some (.val (.bool (decide (l = m)))) := by unfold dEq; rw [okD_str, okD_str, S_eqv']; rfl
theorem dNe_s (l m : List Nat) : dNe (.str (S l)) (.str (S m)) = some (.val (.bool (!decide (l = m)))) := by unfold dNe; rw [okD_str, okD_str, S_eqv']; rfl
theorem dEq_i (i j : Int) : dEq (.int i) (.int j) = some (.val (.bool (decide (i = j)))) := by unfold dEq; rw [okD_int, okD_int, I_eqv]; rfl
theorem dNe_i (i j : Int) : dNe (.int i) (.int j) = some (.val (.bool (!decide (i = j)))) := by unfold dNe; rw [okD_int, okD_int, I_eqv]; rfl
theorem dEq_b (i j : Bool) : dEq (.bool i) (.bool j) = some (.val (.bool (decide (i = j)))) := by
  unfold dEq; rw [okD_bool, okD_bool]
  cases i <;> cases j <;> simp [PyData.eqv]
theorem dNe_b (i j : Bool) : dNe (.bool i) (.bool j) = some (.val (.bool (!decide (i = j)))) := by
  unfold dNe; rw [okD_bool, okD_bool]
  cases i <;> cases j <;> simp [PyData.eqv]
/-- small letters alone -/
def Ltr (l : List Nat) : Prop := ∀ c ∈ l, 97 ≤ c ∧ c ≤ 122
theorem Ltr.app {x y : List Nat} (h : Ltr x) (k : Ltr y) : Ltr (x ++ y) := fun c hc => (List.mem_append.mp hc).elim (h c) (k c)
theorem Ltr.take {x : List Nat} (h : Ltr x) (n : Nat) : Ltr (x.take n) := fun c hc => h c (List.mem_of_mem_take hc)
theorem Ltr.drop {x : List Nat} (h : Ltr x) (n : Nat) : Ltr (x.drop n) := fun c hc => h c (List.mem_of_mem_drop hc)
theorem Ltr.rev {x : List Nat} (h : Ltr x) : Ltr x.reverse := fun c hc => h c (List.mem_reverse.mp hc)
theorem Ltr.rep {x : List Nat} (h : Ltr x) (n : Nat) : Ltr (List.replicate n x).flatten := fun c hc => by
  rw [List.mem_flatten] at hc
  obtain ⟨l, h1, h2⟩ := hc
  rw [List.mem_replicate] at h1
  rw [h1.2] at h2
  exact h c h2
theorem flat_len {α : Type} (l : List α) : ∀ n : Nat, ((List.replicate n l).flatten).length = n * l.length
  | 0 => by simp
  | n + 1 => by rw [List.replicate_succ, List.flatten_cons, List.length_append, flat_len l n, Nat.succ_mul, Nat.add_comm]
/-- texts run together -/
theorem join_S : ∀ ls : List (List Nat), Str.join (S []) (ls.map S) = S ls.flatten
  | [] => rfl
  | [x] => by show S x = _; simp
  | x :: y :: r => by
    show (S x ++ S []) ++ Str.join (S []) ((y :: r).map S) = _
    rw [join_S (y :: r), S_app, S_app]
    simp
theorem sumLen_S (ls : List (List Nat)) : sumLen (ls.map S) = ls.flatten.length := by
  unfold sumLen
  rw [List.map_map, List.length_flatten]
  congr 1
def strsD (ls : List (List Nat)) : List D := ls.map fun l => .str (S l)
theorem asStrs_S (ls : List (List Nat)) : asStrs (strsD ls) = some (ls.map S) := by
  have : strsD ls = (ls.map S).map .str := by unfold strsD; rw [List.map_map]; rfl
  rw [this, asStrs_map]
theorem dJoin_S (ls : List (List Nat)) (h : ls.flatten.length ≤ 16777216) : dJoin (.str (S [])) [.list (strsD ls)] = some (.val (.str (S ls.flatten))) := by
  show dJoin1 (S []) (strsD ls) = _
  unfold dJoin1
  rw [asStrs_S]
  dsimp only
  rw [sumLen_S, join_S, S_len, if_pos (by simpa using h)]
theorem flat_one : ∀ cs : List Nat, (cs.map fun c => [c]).flatten = cs
  | [] => rfl
  | c :: r => by rw [List.map_cons, List.flatten_cons, flat_one r]; rfl
theorem join_cs (cs : List Nat) (h : cs.length ≤ 16777216) : dJoin (.str (S [])) [.list (strsD (cs.map fun c => [c]))] = some (.val (.str (S cs))) := by
  rw [dJoin_S _ (by rw [flat_one]; exact h), flat_one]
theorem lit_nil : ("" : Str) = S [] := rfl
theorem itemsD_S (l : List Nat) : itemsD (.str (S l)) = some (l.map fun c => .str (S [c])) := by
  show some ((S l).cps.toList.map fun c => PyData.str (signS c)) = _
  rw [S_cps]; rfl
theorem mem1_S (c : Nat) (y : Str) : mem1 (S [c]) y = some (decide (c ∈ y.cps.toList)) := by
  unfold mem1; rw [S_cps]
theorem dIn_S (c : Nat) (l : List Nat) : dIn (.str (S [c])) (.str (S l)) = some (.val (.bool (decide (c ∈ l)))) := by
  show (mem1 (S [c]) (S l)).map (fun b => Rv.val (.bool b)) = _
  rw [mem1_S, S_cps]; rfl
end DL
namespace DL
open PySem PySem.Spec L2

/-- data that repr takes and that == takes -/
structure Sh (d : D) (k w : Nat) : Prop where
  sh : d.showable = true
  nd : d.hasDict = false
  dp : d.depth ≤ k
  wt : d.weight ≤ w
  cl : d.canLay0 = true
  is : d.intsShort 13 = true
structure ShL (ds : List D) (k w : Nat) : Prop where
  sh : PyData.showableAll ds = true
  nd : PyData.hasDictAll ds = false
  dp : PyData.depthAll ds ≤ k
  wt : PyData.weightAll ds ≤ w
  cl : PyData.canLayAll0 ds = true
  is : PyData.intsShortAll 13 ds = true
theorem Sh.mono {d : D} {k w j v : Nat} (h : Sh d k w) (h1 : k ≤ j) (h2 : w ≤ v) : Sh d j v := ⟨h.sh, h.nd, Nat.le_trans h.dp h1, Nat.le_trans h.wt h2, h.cl, h.is⟩
theorem ShL.mono {d : List D} {k w j v : Nat} (h : ShL d k w) (h1 : k ≤ j) (h2 : w ≤ v) : ShL d j v := ⟨h.sh, h.nd, Nat.le_trans h.dp h1, Nat.le_trans h.wt h2, h.cl, h.is⟩
theorem ShL.nil {k : Nat} : ShL [] k 0 := ⟨by simp only [PyData.showableAll], by simp only [PyData.hasDictAll], by simp only [PyData.depthAll]; omega, by simp only [PyData.weightAll]; omega, by simp only [PyData.canLayAll0], by simp only [PyData.intsShortAll]⟩
theorem ShL.cons {d : D} {ds : List D} {k w v : Nat} (h : Sh d k w) (r : ShL ds k v) : ShL (d :: ds) k (w + 1 + v) :=
  ⟨by simp only [PyData.showableAll, h.sh, r.sh]; rfl, by simp only [PyData.hasDictAll, h.nd, r.nd]; rfl, by simp only [PyData.depthAll]; have := h.dp; have := r.dp; omega, by simp only [PyData.weightAll]; have := h.wt; have := r.wt; omega, by simp only [PyData.canLayAll0, h.cl, r.cl]; rfl, by simp only [PyData.intsShortAll, h.is, r.is]; rfl⟩
theorem Sh.tuple {ds : List D} {k w : Nat} (h : ShL ds k w) : Sh (.tuple ds) (k + 1) w :=
  ⟨by simp only [PyData.showable, h.sh], by simp only [PyData.hasDict, h.nd], by simp only [PyData.depth]; have := h.dp; omega, by simp only [PyData.weight]; exact h.wt, by simp only [PyData.canLay0, h.cl], by simp only [PyData.intsShort, h.is]⟩
theorem Sh.list {ds : List D} {k w : Nat} (h : ShL ds k w) : Sh (.list ds) (k + 1) w :=
  ⟨by simp only [PyData.showable, h.sh], by simp only [PyData.hasDict, h.nd], by simp only [PyData.depth]; have := h.dp; omega, by simp only [PyData.weight]; exact h.wt, by simp only [PyData.canLay0, h.cl], by simp only [PyData.intsShort, h.is]⟩
theorem strOk_S {l : List Nat} (h : ∀ c ∈ l, c < 0x110000) : strOk (S l) = true := by rw [strOk_iff, S_cps]; exact h
theorem Ltr.ok {l : List Nat} (h : Ltr l) : ∀ c ∈ l, c < 0x110000 := fun c hc => by have := (h c hc).2; omega
theorem Sh.str {l : List Nat} {k : Nat} (h : ∀ c ∈ l, c < 0x110000) : Sh (.str (S l)) k l.length :=
  ⟨by simp only [PyData.showable], by simp only [PyData.hasDict], by simp only [PyData.depth]; omega, by simp only [PyData.weight]; exact Nat.le_of_eq (S_len l), by simp only [PyData.canLay0]; exact strOk_S h, by simp only [PyData.intsShort]⟩
theorem Sh.bool {b : Bool} {k w : Nat} : Sh (.bool b) k w :=
  ⟨by simp only [PyData.showable], by simp only [PyData.hasDict], by simp only [PyData.depth]; omega, by simp only [PyData.weight]; omega, by simp only [PyData.canLay0], by simp only [PyData.intsShort]⟩
theorem Sh.none {k w : Nat} : Sh .none k w :=
  ⟨by simp only [PyData.showable], by simp only [PyData.hasDict], by simp only [PyData.depth]; omega, by simp only [PyData.weight]; omega, by simp only [PyData.canLay0], by simp only [PyData.intsShort]⟩
theorem Sh.int {i : Int} {k : Nat} (h : i.natAbs < 10 ^ 12) : Sh (.int i) k 41 := by
  have hl : i.natAbs.log2 < 41 := by
    by_cases z : i.natAbs = 0
    · rw [z]; exact Nat.lt_of_le_of_lt (Nat.le_of_eq (by decide)) (by decide : 0 < 41)
    · exact (Nat.log2_lt z).mpr (Nat.lt_of_lt_of_le h (by decide))
  refine ⟨?_, by simp only [PyData.hasDict], by simp only [PyData.depth]; omega, ?_, by simp only [PyData.canLay0], ?_⟩
  · simp only [PyData.showable, decide_eq_true_eq]; omega
  · simp only [PyData.weight]; split <;> omega
  · simp only [PyData.intsShort, decide_eq_true_eq]; exact PyData.shown_int_le h
theorem Sh.okR {d : D} {k w : Nat} (h : Sh d k w) (hk : k ≤ 64) (hw : w ≤ 1048576) : okR d = true := by
  have l0 : PyData.layable0 d = true := by
    unfold PyData.layable0
    simp only [h.cl, Bool.true_and, Bool.and_eq_true, decide_eq_true_eq]
    exact ⟨Nat.le_trans h.dp hk, Nat.le_trans h.wt hw⟩
  have := PyData.shown_le_of_layable0 l0 h.is
  unfold DL.okR
  rw [h.sh, h.nd, decide_eq_true (Nat.le_trans h.dp hk), decide_eq_true (show d.shown.length ≤ lineM by unfold lineM; omega)]
  rfl
theorem Sh.okD {d : D} {k w : Nat} (h : Sh d k w) (hk : k ≤ 64) : okD d = true := by
  unfold DL.okD
  rw [h.nd, decide_eq_true (Nat.le_trans h.dp hk)]
  rfl
mutual
theorem eqv_refl : ∀ d : D, d.hasDict = false → PyData.eqv d d = true
  | .none, _ => by simp only [PyData.eqv]
  | .bool b, _ => by simp [PyData.eqv]
  | .int i, _ => by simp [PyData.eqv]
  | .str x, _ => by simp [PyData.eqv]
  | .list xs, h => by simp only [PyData.hasDict] at h; simp only [PyData.eqv]; exact eqv_reflAll xs h
  | .tuple xs, h => by simp only [PyData.hasDict] at h; simp only [PyData.eqv]; exact eqv_reflAll xs h
  | .dict _, h => by simp only [PyData.hasDict] at h; cases h
theorem eqv_reflAll : ∀ ds : List D, PyData.hasDictAll ds = false → PyData.eqvAll ds ds = true
  | [], _ => by simp only [PyData.eqvAll]
  | d :: r, h => by
    simp only [PyData.hasDictAll, Bool.or_eq_false_iff] at h
    simp only [PyData.eqvAll, eqv_refl d h.1, eqv_reflAll r h.2, Bool.and_self]
end
theorem dEq_same {d : D} {k w : Nat} (h : Sh d k w) (hk : k ≤ 64) : dEq d d = some (.val (.bool true)) := by
  unfold dEq; rw [h.okD hk, eqv_refl d h.nd]; rfl
theorem dNe_same {d : D} {k w : Nat} (h : Sh d k w) (hk : k ≤ 64) : dNe d d = some (.val (.bool false)) := by
  unfold dNe; rw [h.okD hk, eqv_refl d h.nd]; rfl
end DL
namespace DL
open PySem PySem.Spec L2

/-! ### lists of texts -/
theorem strsD_len (ls : List (List Nat)) : (strsD ls).length = ls.length := by simp [strsD]
theorem strsD_app (ls ms : List (List Nat)) : strsD ls ++ strsD ms = strsD (ls ++ ms) := by simp [strsD]
theorem strsD_nil : strsD [] = [] := rfl
theorem strsD_cons (l : List Nat) (ls : List (List Nat)) : strsD (l :: ls) = .str (S l) :: strsD ls := rfl
theorem strsD_one (l : List Nat) : [PyData.str (S l)] = strsD [l] := rfl
theorem strsD_snoc (ls : List (List Nat)) (l : List Nat) : strsD ls ++ [.str (S l)] = strsD (ls ++ [l]) := by simp [strsD]
theorem strsD_erase : ∀ (ls : List (List Nat)) (i : Nat), (strsD ls).eraseIdx i = strsD (ls.eraseIdx i)
  | [], _ => rfl
  | _ :: _, 0 => rfl
  | l :: ls, i + 1 => by
    rw [strsD_cons, List.eraseIdx_cons_succ, List.eraseIdx_cons_succ, strsD_cons, strsD_erase ls i]
theorem erase_perm {α : Type} : ∀ {ls : List α} {i : Nat} {w : α}, ls[i]? = some w → (w :: ls.eraseIdx i).Perm ls
  | [], _, _, h => by simp at h
  | l :: ls, 0, w, h => by simp at h; subst h; exact .refl _
  | l :: ls, i + 1, w, h => by
    have := erase_perm (ls := ls) (i := i) (w := w) (by simpa using h)
    rw [List.eraseIdx_cons_succ]
    exact (List.Perm.swap l w _).trans (this.cons l)
theorem strsD_inj {ls ms : List (List Nat)} : strsD ls = strsD ms ↔ ls = ms := by
  constructor
  · intro h
    induction ls generalizing ms with
    | nil => cases ms with
      | nil => rfl
      | cons => cases h
    | cons l ls ih => cases ms with
      | nil => cases h
      | cons m ms =>
        rw [strsD_cons, strsD_cons] at h
        injection h with h1 h2
        injection h1 with h1
        rw [S_inj.mp h1, ih h2]
  · intro h; rw [h]
theorem mem_strsD {d : D} {ls : List (List Nat)} : d ∈ strsD ls ↔ ∃ l ∈ ls, d = .str (S l) := by
  unfold strsD
  rw [List.mem_map]
  exact ⟨fun ⟨l, h1, h2⟩ => ⟨l, h1, h2.symm⟩, fun ⟨l, h1, h2⟩ => ⟨l, h1, h2.symm⟩⟩
theorem strsD_get (ls : List (List Nat)) (i : Nat) : (strsD ls)[i]? = ls[i]?.map fun l => .str (S l) := by simp [strsD, List.getElem?_map]
theorem strsD_take (ls : List (List Nat)) (n : Nat) : (strsD ls).take n = strsD (ls.take n) := by simp [strsD, List.map_take]
theorem strsD_drop (ls : List (List Nat)) (n : Nat) : (strsD ls).drop n = strsD (ls.drop n) := by simp [strsD, List.map_drop]
theorem hasDictAll_strs : ∀ ls : List (List Nat), PyData.hasDictAll (strsD ls) = false
  | [] => by simp only [strsD_nil, PyData.hasDictAll]
  | l :: ls => by rw [strsD_cons]; simp only [PyData.hasDictAll, PyData.hasDict, hasDictAll_strs ls]; rfl
theorem depthAll_strs : ∀ ls : List (List Nat), PyData.depthAll (strsD ls) = 0
  | [] => by simp only [strsD_nil, PyData.depthAll]
  | l :: ls => by rw [strsD_cons]; simp only [PyData.depthAll, PyData.depth, depthAll_strs ls]; rfl
theorem okD_list (ls : List (List Nat)) : okD (.list (strsD ls)) = true := by
  unfold okD; simp only [PyData.hasDict, PyData.depth, hasDictAll_strs, depthAll_strs]; rfl
theorem okD_tuple (ls : List (List Nat)) : okD (.tuple (strsD ls)) = true := by
  unfold okD; simp only [PyData.hasDict, PyData.depth, hasDictAll_strs, depthAll_strs]; rfl
theorem eqvAll_strs : ∀ ls ms : List (List Nat), PyData.eqvAll (strsD ls) (strsD ms) = decide (ls = ms)
  | [], [] => by simp only [strsD_nil, PyData.eqvAll]; rfl
  | [], m :: ms => by simp only [strsD_nil, strsD_cons, PyData.eqvAll]; simp
  | l :: ls, [] => by simp only [strsD_nil, strsD_cons, PyData.eqvAll]; simp
  | l :: ls, m :: ms => by
    rw [strsD_cons, strsD_cons]
    simp only [PyData.eqvAll, S_eqv', eqvAll_strs ls ms]
    by_cases h1 : l = m <;> by_cases h2 : ls = ms <;> simp [h1, h2]
theorem any_strs (w : List Nat) : ∀ ls : List (List Nat), ((strsD ls).any fun z => PyData.eqv z (.str (S w))) = decide (w ∈ ls)
  | [] => by simp [strsD]
  | l :: ls => by
    rw [strsD_cons, List.any_cons, any_strs w ls, S_eqv']
    by_cases h : w = l
    · subst h; simp
    · have h' : ¬ l = w := fun z => h z.symm
      simp [h, h']
theorem dIn_W (w : List Nat) (ls : List (List Nat)) : dIn (.str (S w)) (.list (strsD ls)) = some (.val (.bool (decide (w ∈ ls)))) := by
  show (if okD (.str (S w)) && okD (.list (strsD ls)) then some (Rv.val (.bool ((strsD ls).any fun z => PyData.eqv z (.str (S w))))) else none) = _
  rw [okD_str, okD_list, any_strs]; rfl
theorem dIn_T (w : List Nat) (ls : List (List Nat)) : dIn (.str (S w)) (.tuple (strsD ls)) = some (.val (.bool (decide (w ∈ ls)))) := by
  show (if okD (.str (S w)) && okD (.tuple (strsD ls)) then some (Rv.val (.bool ((strsD ls).any fun z => PyData.eqv z (.str (S w))))) else none) = _
  rw [okD_str, okD_tuple, any_strs]; rfl
theorem dNotIn_W (w : List Nat) (ls : List (List Nat)) : dNotIn (.str (S w)) (.list (strsD ls)) = some (.val (.bool (!decide (w ∈ ls)))) := by
  show (if okD (.str (S w)) && okD (.list (strsD ls)) then some (Rv.val (.bool (!(strsD ls).any fun z => PyData.eqv z (.str (S w))))) else none) = _
  rw [okD_str, okD_list, any_strs]; rfl
theorem dEq_W (ls ms : List (List Nat)) : dEq (.list (strsD ls)) (.list (strsD ms)) = some (.val (.bool (decide (ls = ms)))) := by
  unfold dEq; rw [okD_list, okD_list]; simp only [PyData.eqv, eqvAll_strs]; rfl
theorem dNe_W (ls ms : List (List Nat)) : dNe (.list (strsD ls)) (.list (strsD ms)) = some (.val (.bool (!decide (ls = ms)))) := by
  unfold dNe; rw [okD_list, okD_list]; simp only [PyData.eqv, eqvAll_strs]; rfl
theorem dNe_W0 (ls : List (List Nat)) : dNe (.list (strsD ls)) (.list []) = some (.val (.bool (!decide (ls = [])))) := dNe_W ls []
theorem dEq_W0 (ls : List (List Nat)) : dEq (.list (strsD ls)) (.list []) = some (.val (.bool (decide (ls = [])))) := dEq_W ls []
/-! ### sorted -/
def sortW (ls : List (List Nat)) : List (List Nat) := (sortS (ls.map S)).map fun x => x.cps.toList
theorem sortW_strs (ls : List (List Nat)) : (sortS (ls.map S)).map PyData.str = strsD (sortW ls) := by
  unfold sortW strsD
  rw [List.map_map]
  apply List.map_congr_left
  intro x _
  show PyData.str x = .str (S x.cps.toList)
  rw [← S_of]
theorem sortW_perm (ls : List (List Nat)) : (sortW ls).Perm ls := by
  unfold sortW
  have h := (sortS_perm (ls.map S)).map fun x => x.cps.toList
  rw [List.map_map] at h
  have e : ((fun x : Str => x.cps.toList) ∘ S) = id := by funext l; exact S_cps l
  rwa [e, List.map_id] at h
theorem sortW_mem {l : List Nat} {ls : List (List Nat)} : l ∈ sortW ls ↔ l ∈ ls := (sortW_perm ls).mem_iff
theorem sortW_len (ls : List (List Nat)) : (sortW ls).length = ls.length := (sortW_perm ls).length_eq
/-- the order of texts on lists -/
def LeW (l m : List Nat) : Prop := ltCps m l = false
theorem sortW_pw (ls : List (List Nat)) : (sortW ls).Pairwise LeW := by
  unfold sortW
  rw [List.pairwise_map]
  exact sortS_pw _
theorem sortedW_uniq : ∀ {l m : List (List Nat)}, l.Pairwise LeW → m.Pairwise LeW → l.Perm m → l = m
  | [], m, _, _, p => (List.Perm.nil_eq p)
  | x :: r, [], _, _, p => by simpa using p.length_eq
  | x :: r, y :: t, h1, h2, p => by
    have hx : x ∈ y :: t := p.mem_iff.mp (by simp)
    have hy : y ∈ x :: r := p.mem_iff.mpr (by simp)
    have e : x = y := by
      rcases List.mem_cons.mp hx with e | hx
      · exact e
      · rcases List.mem_cons.mp hy with e | hy
        · exact e.symm
        · exact ltc_anti _ _ ((List.pairwise_cons.mp h1).1 y hy) ((List.pairwise_cons.mp h2).1 x hx)
    subst e
    rw [sortedW_uniq (List.pairwise_cons.mp h1).2 (List.pairwise_cons.mp h2).2 (List.Perm.cons_inv p)]
theorem sortW_of {l m : List (List Nat)} (p : l.Perm m) : sortW l = sortW m := sortedW_uniq (sortW_pw l) (sortW_pw m) (((sortW_perm l).trans p).trans (sortW_perm m).symm)
theorem asInts_strs (l : List Nat) (ls : List (List Nat)) : asInts (strsD (l :: ls)) = none := rfl
theorem dSorted1_W (ls : List (List Nat)) : dSorted1 (strsD ls) = some (.new (.list (strsD (sortW ls)))) := by
  unfold dSorted1
  rw [asStrs_S, Option.map_some, sortW_strs]
theorem dSorted_W (ls : List (List Nat)) : dSorted [.list (strsD ls)] = some (.new (.list (strsD (sortW ls)))) := by
  cases ls with
  | nil => rfl
  | cons l ls =>
    show (match asInts (strsD (l :: ls)) with
      | some ns => some (Rv.new (.list ((sortI ns).map .int)))
      | none => dSorted1 (strsD (l :: ls))) = _
    rw [asInts_strs]
    exact dSorted1_W _
theorem dSorted_T (ls : List (List Nat)) : dSorted [.tuple (strsD ls)] = some (.new (.list (strsD (sortW ls)))) := dSorted1_W ls
/-! ### loops over any items -/
theorem ev_forD {gm : MG} {b : MS} {Q : Fl × Env → Prop} (ds : List D) (J : List D → List D → Env → Prop) (hg : ∀ d env, Ev (gm (.val d) env) (fun z => z.1 = .nx) ∨ gm (.val d) env = .stuck)
    (hs : ∀ pre d post env, ds = pre ++ d :: post → J pre (d :: post) env → Ev (gm (.val d) env) fun z => Ev (seqK b z) (turnQ (J (pre ++ [d]) post) Q)) (he : ∀ env, J ds [] env → Q (.nx, env)) (env : Env) (h0 : J [] ds env) : Ev (mForL gm b ds env) Q := by
  refine ev_forL hg (fun rest env => ∃ pre, ds = pre ++ rest ∧ J pre rest env) ?_ ?_ _ _ ⟨[], rfl, h0⟩
  · rintro d rest env ⟨pre, e, hj⟩
    refine (hs pre d rest env e hj).mono fun z hz => hz.mono fun y hy => ?_
    obtain ⟨f, e2⟩ := y
    cases f with
    | nx => exact ⟨pre ++ [d], by rw [e]; simp, hy⟩
    | ct => exact ⟨pre ++ [d], by rw [e]; simp, hy⟩
    | bk => exact hy
    | rt r => exact hy
  · rintro env ⟨pre, e, hj⟩
    rw [List.append_nil] at e
    subst e
    exact he env hj
/-- a comprehension that keeps some items and leaves all else -/
theorem ev_lc_fm {gm : MG} {tt : MT} {f : ME} {vs : List Nat} {Q : List D × Env → Prop} {ds : List D} {env0 : Env} (g : D → Option D) (hg : ∀ d env, Ev (gm (.val d) env) (fun z => z.1 = .nx) ∨ gm (.val d) env = .stuck) (hl : ds.length ≤ 16777216)
    (hs : ∀ d ∈ ds, Ev (gm (.val d) env0) fun z => Ev (tt z.2) fun y => if y.1 = true then Ev (f y.2) fun x => Ev (x.1.frz x.2) fun u => g d = some u.1 ∧ wipeE u.2 vs = env0 else g d = none ∧ wipeE y.2 vs = env0) (k : Q (ds.filterMap g, env0)) : Ev (mLcL gm tt f vs ds [] env0) Q := by
  refine ev_lcL (fun rest acc env => env = env0 ∧ acc ++ rest.filterMap g = ds.filterMap g ∧ acc.length + rest.length ≤ ds.length ∧ ∀ d ∈ rest, d ∈ ds) hg ?_ ?_ _ _ _ ⟨rfl, rfl, by simp, fun _ h => h⟩
  · rintro d rest acc env ⟨rfl, h1, h3, h2⟩
    refine (hs d (h2 d (by simp))).mono fun z hz => hz.mono fun y hy => ?_
    by_cases hb : y.1 = true
    · rw [if_pos hb] at hy ⊢
      refine hy.mono fun x hx => hx.mono fun u hu => ?_
      refine ⟨by unfold lineM; simp at h3; omega, hu.2, ?_, by simp at h3 ⊢; omega, fun d' hd' => h2 d' (List.mem_cons_of_mem _ hd')⟩
      rw [← h1, List.filterMap_cons, hu.1]; simp
    · rw [if_neg hb] at hy ⊢
      refine ⟨hy.2, ?_, by simp at h3 ⊢; omega, fun d' hd' => h2 d' (List.mem_cons_of_mem _ hd')⟩
      rw [← h1, List.filterMap_cons, hy.1]
  · rintro acc env ⟨rfl, h1, _, _⟩
    have h1 : acc = ds.filterMap g := by simpa using h1
    rw [h1]; exact k
theorem strsD_split {ls : List (List Nat)} {pre post : List D} {d : D} (h : strsD ls = pre ++ d :: post) : ∃ p w q, ls = p ++ w :: q ∧ pre = strsD p ∧ d = .str (S w) ∧ post = strsD q := by
  refine ⟨ls.take pre.length, ls.getD pre.length [], ls.drop (pre.length + 1), ?_, ?_, ?_, ?_⟩
  · have hl : pre.length < ls.length := by
      have := congrArg List.length h
      rw [strsD_len] at this
      simp at this
      omega
    rw [List.getD_eq_getElem?_getD, List.getElem?_eq_getElem hl, Option.getD_some, List.getElem_cons_drop, List.take_append_drop]
  · rw [← strsD_take, h]; simp
  · have e := congrArg (fun l => l[pre.length]?) h
    simp only [strsD_get, List.getElem?_append_right (Nat.le_refl _), Nat.sub_self, List.getElem?_cons_zero] at e
    cases q : ls[pre.length]? with
    | none => rw [q] at e; cases e
    | some w => rw [q] at e; rw [List.getD_eq_getElem?_getD, q]; exact (Option.some.inj e).symm
  · rw [← strsD_drop, h]; simp
/-- a loop over texts -/
theorem ev_forW {i : Nat} {b : MS} {Q : Fl × Env → Prop} (ls : List (List Nat)) (J : List (List Nat) → Env → Prop)
    (hs : ∀ pre w post env, ls = pre ++ w :: post → J pre env → Ev (mName i (.val (.str (S w))) env) fun z => Ev (seqK b z) (turnQ (J (pre ++ [w])) Q)) (he : ∀ env, J ls env → Q (.nx, env)) (env : Env) (h0 : J [] env) : Ev (mForL (mName i) b (strsD ls) env) Q := by
  refine ev_forD (strsD ls) (fun pre _ env => ∃ p, pre = strsD p ∧ J p env) (name_nx i) ?_ ?_ env ⟨[], rfl, h0⟩
  · rintro pre d post env e ⟨p, e1, hj⟩
    obtain ⟨p', w, q, h1, h2, h3, h4⟩ := strsD_split e
    subst h2 h3 h4
    have : p = p' := (strsD_inj.mp e1).symm
    subst this
    refine (hs p w q env h1 hj).mono fun z hz => hz.mono fun y hy => ?_
    obtain ⟨f, e2⟩ := y
    cases f with
    | nx => exact ⟨p ++ [w], by rw [← strsD_app]; rfl, hy⟩
    | ct => exact ⟨p ++ [w], by rw [← strsD_app]; rfl, hy⟩
    | bk => exact hy
    | rt r => exact hy
  · rintro env ⟨p, e1, hj⟩
    rw [strsD_inj.mp e1] at he
    exact he env hj
theorem filterMap_strs (p : List Nat → Bool) (ls : List (List Nat)) : (strsD ls).filterMap (fun d => match d with
      | .str x => if p x.cps.toList = true then some d else none
      | _ => none) = strsD (ls.filter p) := by
  induction ls with
  | nil => rfl
  | cons l ls ih =>
    rw [strsD_cons, List.filterMap_cons, List.filter_cons]
    dsimp only
    rw [S_cps]
    by_cases h : p l = true
    · rw [if_pos h, if_pos h, ih, strsD_cons]
    · rw [if_neg h, if_neg h, ih]
/-- [w for w in ls if p w] -/
theorem ev_lc_words {i : Nat} {tt : MT} {f : ME} {vs : List Nat} {Q : List D × Env → Prop} {ls : List (List Nat)} {env0 : Env} (p : List Nat → Bool) (hl : ls.length ≤ 16777216)
    (hs : ∀ w ∈ ls, Ev (mName i (.val (.str (S w))) env0) fun z => Ev (tt z.2) fun y => if y.1 = true then p w = true ∧ Ev (f y.2) fun x => Ev (x.1.frz x.2) fun u => u.1 = .str (S w) ∧ wipeE u.2 vs = env0 else p w = false ∧ wipeE y.2 vs = env0) (k : Q (strsD (ls.filter p), env0)) : Ev (mLcL (mName i) tt f vs (strsD ls) [] env0) Q := by
  refine ev_lc_fm _ (name_nx i) (by rw [strsD_len]; exact hl) (fun d hd => ?_) (by rw [filterMap_strs p]; exact k)
  obtain ⟨w, hw, rfl⟩ := mem_strsD.mp hd
  refine (hs w hw).mono fun z hz => hz.mono fun y hy => ?_
  by_cases hb : y.1 = true
  · rw [if_pos hb] at hy ⊢
    refine hy.2.mono fun x hx => hx.mono fun u hu => ⟨?_, hu.2⟩
    dsimp only
    rw [S_cps, if_pos hy.1, hu.1]
  · rw [if_neg hb] at hy ⊢
    refine ⟨?_, hy.2⟩
    dsimp only
    rw [S_cps, if_neg (by rw [hy.1]; simp)]
theorem cutD_take (ds : List D) {i : Int} (h : 0 ≤ i) : cutD ds none (some i) = ds.take i.toNat := by
  unfold cutD
  rw [HT.sIx_none, sIx_nn h, List.drop_zero, Nat.sub_zero]
  rcases Nat.le_total i.toNat ds.length with q | q
  · rw [Nat.min_eq_left q]
  · rw [Nat.min_eq_right q, List.take_of_length_le (Nat.le_refl _), List.take_of_length_le q]
theorem enum_at {ls : List (List Nat)} {pre post : List D} {d : D} (h : enumD (strsD ls) = pre ++ d :: post) : ∃ w, ls[pre.length]? = some w ∧ d = .tuple [.int (pre.length : Nat), .str (S w)] := by
  have e := congrArg (fun l => l[pre.length]?) h
  simp only [List.getElem?_append_right (Nat.le_refl _), Nat.sub_self, List.getElem?_cons_zero] at e
  obtain ⟨x, h1, h2⟩ := enumD_get e
  rw [strsD_get] at h1
  cases q : ls[pre.length]? with
  | none => rw [q] at h1; cases h1
  | some w => rw [q] at h1; cases h1; exact ⟨w, rfl, h2⟩
theorem flatD : ∀ {ds : List D}, (∀ d ∈ ds, d.hasDict = false ∧ d.depth ≤ 60) → PyData.hasDictAll ds = false ∧ PyData.depthAll ds ≤ 60
  | [], _ => by simp only [PyData.hasDictAll, PyData.depthAll]; exact ⟨trivial, Nat.zero_le _⟩
  | d :: ds, h => by
    obtain ⟨h1, h2⟩ := flatD (ds := ds) fun e he => h e (List.mem_cons_of_mem _ he)
    obtain ⟨k1, k2⟩ := h d (by simp)
    simp only [PyData.hasDictAll, PyData.depthAll, h1, k1]
    exact ⟨rfl, by omega⟩
theorem okD_of {ds : List D} (h : ∀ d ∈ ds, d.hasDict = false ∧ d.depth ≤ 60) : okD (.list ds) = true := by
  obtain ⟨h1, h2⟩ := flatD h
  have d : (PyData.list ds).depth ≤ 64 := by simp only [PyData.depth]; omega
  have n : (PyData.list ds).hasDict = false := by simp only [PyData.hasDict, h1]
  unfold okD
  rw [n, decide_eq_true d]; rfl
theorem dNe_nil {ds : List D} (h : ∀ d ∈ ds, d.hasDict = false ∧ d.depth ≤ 60) : dNe (.list ds) (.list []) = some (.val (.bool (!decide (ds = [])))) := by
  unfold dNe
  rw [okD_of h, okD_of (ds := []) (by simp)]
  simp only [PyData.eqv]
  cases ds with
  | nil => simp only [PyData.eqvAll]; rfl
  | cons d ds => simp only [PyData.eqvAll]; simp
end DL
namespace DL
/-! ### sets of words, closed under products and under taking off a beginning -/
abbrev Wd := List Nat
structure Lu (M : Wd → Prop) : Prop where
  one : M []
  mul : ∀ u v, M u → M v → M (u ++ v)
  div : ∀ u v, M u → M (u ++ v) → M v
def Cl (X : Wd → Prop) (w : Wd) : Prop := ∀ M, Lu M → (∀ x, X x → M x) → M w
theorem Cl.base {X : Wd → Prop} {w : Wd} (h : X w) : Cl X w := fun M _ k => k w h
theorem Cl.lu (X : Wd → Prop) : Lu (Cl X) :=
  ⟨fun M h _ => h.one, fun u v hu hv M h k => h.mul u v (hu M h k) (hv M h k), fun u v hu hv M h k => h.div u v (hu M h k) (hv M h k)⟩
theorem Cl.sub {X Y : Wd → Prop} (h : ∀ x, X x → Cl Y x) {w : Wd} (k : Cl X w) : Cl Y w := k _ (Cl.lu Y) h
/-- one cut: v = u r is taken out, r is put in -/
theorem Cl.cut {X Y : Wd → Prop} {u r : Wd} (hu : X u) (hv : X (u ++ r)) (hr : r ≠ []) (hY : ∀ y, Y y ↔ (X y ∧ y ≠ u ++ r) ∨ y = r) (w : Wd) : Cl X w ↔ Cl Y w := by
  have ne : u ≠ u ++ r := fun e => hr (by
    have := congrArg List.length e
    simp at this
    exact this)
  constructor
  · refine Cl.sub fun x hx => ?_
    by_cases e : x = u ++ r
    · rw [e]
      exact (Cl.lu Y).mul u r (.base ((hY u).mpr (.inl ⟨hu, ne⟩))) (.base ((hY r).mpr (.inr rfl)))
    · exact .base ((hY x).mpr (.inl ⟨hx, e⟩))
  · refine Cl.sub fun y hy => ?_
    rcases (hY y).mp hy with h | h
    · exact .base h.1
    · rw [h]; exact (Cl.lu X).div u r (.base hu) (.base hv)
/-- products of members -/
inductive Star (X : Wd → Prop) : Wd → Prop
  | nil : Star X []
  | cons {x w : Wd} : X x → Star X w → Star X (x ++ w)
theorem Star.mul {X : Wd → Prop} {u v : Wd} (hu : Star X u) (hv : Star X v) : Star X (u ++ v) := by
  induction hu with
  | nil => exact hv
  | cons hx _ ih => rw [List.append_assoc]; exact .cons hx ih
def Pf (X : Wd → Prop) : Prop := ∀ u r, X u → X (u ++ r) → r = []
theorem pref_cmp {x y a b : Wd} (h : x ++ a = y ++ b) : (∃ r, y = x ++ r) ∨ ∃ r, x = y ++ r := by
  rcases Nat.le_total x.length y.length with l | l
  · left
    refine ⟨y.drop x.length, ?_⟩
    have h1 : (x ++ a).take x.length = x := by simp
    have h2 : (y ++ b).take x.length = y.take x.length := List.take_append_of_le_length l
    have : x = y.take x.length := by rw [← h2, ← h, h1]
    conv => lhs; rw [← List.take_append_drop x.length y]
    rw [← this]
  · right
    refine ⟨x.drop y.length, ?_⟩
    have h1 : (y ++ b).take y.length = y := by simp
    have h2 : (x ++ a).take y.length = x.take y.length := List.take_append_of_le_length l
    have : y = x.take y.length := by rw [← h2, h, h1]
    conv => lhs; rw [← List.take_append_drop y.length x]
    rw [← this]
theorem Star.inv {X : Wd → Prop} {w : Wd} (h : Star X w) : w = [] ∨ ∃ x v, X x ∧ Star X v ∧ w = x ++ v := by
  cases h with
  | nil => exact .inl rfl
  | cons hx hv => exact .inr ⟨_, _, hx, hv, rfl⟩
theorem Star.div {X : Wd → Prop} (pf : Pf X) (ne : ¬ X []) {u v : Wd} (hu : Star X u) (hv : Star X (u ++ v)) : Star X v := by
  induction hu generalizing v with
  | nil => exact hv
  | @cons x w hx hw ih =>
    rw [List.append_assoc] at hv
    rcases hv.inv with e | ⟨y, t, hy, ht, e⟩
    · have : x = [] := (List.append_eq_nil_iff.mp e).1
      rw [this] at hx; exact absurd hx ne
    · have exy : x = y := by
        rcases pref_cmp e with ⟨r, q⟩ | ⟨r, q⟩
        · rw [q] at hy; have := pf x r hx hy; rw [this] at q; simpa using q.symm
        · rw [q] at hx; have := pf y r hy hx; rw [this] at q; simpa using q
      subst exy
      have e2 := List.append_cancel_left e
      exact ih (by rw [e2]; exact ht)
theorem Star.lu {X : Wd → Prop} (pf : Pf X) (ne : ¬ X []) : Lu (Star X) := ⟨.nil, fun u v h k => h.mul k, fun u v h k => h.div pf ne k⟩
theorem star_cl {X : Wd → Prop} (pf : Pf X) (ne : ¬ X []) (w : Wd) : Cl X w ↔ Star X w := by
  constructor
  · intro h
    refine h _ (Star.lu pf ne) fun x hx => ?_
    have := Star.cons hx (.nil (X := X))
    rwa [List.append_nil] at this
  · intro h
    induction h with
    | nil => exact (Cl.lu X).one
    | cons hx _ ih => exact (Cl.lu X).mul _ _ (.base hx) ih
/-- where nothing begins another, the words are told by what they make -/
theorem base_sub {X Y : Wd → Prop} (px : Pf X) (nx : ¬ X []) (ny : ¬ Y []) (h : ∀ w, Star X w ↔ Star Y w) {x : Wd} (hx : X x) : Y x := by
  have s : Star Y x := (h x).mp (by have := Star.cons hx (.nil (X := X)); rwa [List.append_nil] at this)
  rcases s.inv with e | ⟨y, t, hy, ht, e⟩
  · rw [e] at hx; exact absurd hx nx
  · have sy : Star X y := (h y).mpr (by have := Star.cons hy (.nil (X := Y)); rwa [List.append_nil] at this)
    rcases sy.inv with e2 | ⟨z, v, hz, hv, e2⟩
    · rw [e2] at hy; exact absurd hy ny
    · have e3 : x = z ++ (v ++ t) := by rw [e, e2, List.append_assoc]
      rw [e3] at hx
      have q := px z _ hz hx
      have qv : v = [] := (List.append_eq_nil_iff.mp q).1
      have qt : t = [] := (List.append_eq_nil_iff.mp q).2
      rw [e, qt, List.append_nil]; exact hy
theorem base_eq {X Y : Wd → Prop} (px : Pf X) (nx : ¬ X []) (py : Pf Y) (ny : ¬ Y []) (h : ∀ w, Cl X w ↔ Cl Y w) (x : Wd) : X x ↔ Y x := by
  have s : ∀ w, Star X w ↔ Star Y w := fun w => (star_cl px nx w).symm.trans ((h w).trans (star_cl py ny w))
  exact ⟨base_sub px nx ny s, base_sub py ny nx fun w => (s w).symm⟩
/-! ### lists of words -/
structure Lot (ls : List Wd) : Prop where
  nd : ls.Nodup
  ne : ∀ w ∈ ls, w ≠ []
  lt : ∀ w ∈ ls, Ltr w
  len : ∀ w ∈ ls, w.length ≤ 8
  few : ls.length ≤ 8
abbrev memP (ls : List Wd) : Wd → Prop := fun w => w ∈ ls
/-- the end of the cuts from the left -/
structure HullL (ls fs : List Wd) : Prop where
  lot : Lot fs
  srt : fs.Pairwise LeW
  pf : Pf (memP fs)
  cl : ∀ w, Cl (memP ls) w ↔ Cl (memP fs) w
theorem nodup_perm {l m : List Wd} (h1 : l.Nodup) (h2 : m.Nodup) (h : ∀ x, x ∈ l ↔ x ∈ m) : l.Perm m := (List.perm_ext_iff_of_nodup h1 h2).mpr h
theorem HullL.uniq {ls ms fs gs : List Wd} (h : HullL ls fs) (k : HullL ms gs) (e : ∀ w, Cl (memP ls) w ↔ Cl (memP ms) w) : fs = gs := by
  have nf : ¬ memP fs [] := fun z => h.lot.ne _ z rfl
  have ng : ¬ memP gs [] := fun z => k.lot.ne _ z rfl
  have := base_eq h.pf nf k.pf ng fun w => (h.cl w).symm.trans ((e w).trans (k.cl w))
  exact sortedW_uniq h.srt k.srt (nodup_perm h.lot.nd k.lot.nd this)
/-- one cut as the program does it -/
def cutL (ls : List Wd) (u v : Wd) : List Wd :=
  let left := ls.filter fun w => decide (w ≠ v)
  if v.drop u.length ∈ left then left else left ++ [v.drop u.length]
def szL (ls : List Wd) : Nat := (ls.map List.length).sum
theorem cutL_mem {ls : List Wd} {u v w : Wd} : w ∈ cutL ls u v ↔ (w ∈ ls ∧ w ≠ v) ∨ w = v.drop u.length := by
  unfold cutL
  dsimp only
  split
  · rename_i h
    rw [List.mem_filter]
    constructor
    · intro k; exact .inl ⟨k.1, by simpa using k.2⟩
    · rintro (k | k)
      · exact ⟨k.1, by simpa using k.2⟩
      · rw [k]; exact List.mem_filter.mp h
  · rw [List.mem_append, List.mem_filter, List.mem_singleton]
    constructor
    · rintro (k | k)
      · exact .inl ⟨k.1, by simpa using k.2⟩
      · exact .inr k
    · rintro (k | k)
      · exact .inl ⟨k.1, by simpa using k.2⟩
      · exact .inr k
theorem sz_filter {v : Wd} : ∀ {ls : List Wd}, v ∈ ls → szL (ls.filter fun w => decide (w ≠ v)) + v.length ≤ szL ls
  | [], h => by simp at h
  | w :: ls, h => by
    by_cases e : w = v
    · subst e
      have : (szL (ls.filter fun x => decide (x ≠ w))) ≤ szL ls := by
        clear h
        induction ls with
        | nil => simp [szL]
        | cons y ys ih =>
          rw [List.filter_cons]
          split <;> simp only [szL, List.map_cons, List.sum_cons] at ih ⊢ <;> omega
      rw [List.filter_cons, if_neg (by simp)]
      simp only [szL, List.map_cons, List.sum_cons] at this ⊢
      omega
    · have hm : v ∈ ls := by
        rcases List.mem_cons.mp h with z | z
        · exact absurd z.symm e
        · exact z
      have ih := sz_filter hm
      rw [List.filter_cons, if_pos (by simpa using e)]
      simp only [szL, List.map_cons, List.sum_cons] at ih ⊢
      omega
theorem len_filter {v : Wd} : ∀ {ls : List Wd}, v ∈ ls → (ls.filter fun w => decide (w ≠ v)).length + 1 ≤ ls.length
  | [], h => by simp at h
  | w :: ls, h => by
    by_cases e : w = v
    · subst e
      rw [List.filter_cons, if_neg (by simp)]
      have := List.length_filter_le (fun x => decide (x ≠ w)) ls
      simp only [List.length_cons]; omega
    · have hm : v ∈ ls := by
        rcases List.mem_cons.mp h with z | z
        · exact absurd z.symm e
        · exact z
      have ih := len_filter hm
      rw [List.filter_cons, if_pos (by simpa using e)]
      simp only [List.length_cons]; omega
theorem begins_eq {u v : Wd} (h : v.take u.length = u) : v = u ++ v.drop u.length := by
  conv => lhs; rw [← List.take_append_drop u.length v]
  rw [h]
structure Begun (ls : List Wd) (u v : Wd) : Prop where
  hu : u ∈ ls
  hv : v ∈ ls
  ne : u ≠ v
  bg : v.take u.length = u
theorem Begun.rest {ls : List Wd} {u v : Wd} (h : Begun ls u v) : v.drop u.length ≠ [] := fun e => h.ne (by
  have := begins_eq h.bg
  rw [e, List.append_nil] at this
  exact this.symm)
theorem cut_lot {ls : List Wd} {u v : Wd} (L : Lot ls) (h : Begun ls u v) : Lot (cutL ls u v) := by
  have lf := len_filter h.hv
  refine ⟨?_, fun w hw => ?_, fun w hw => ?_, fun w hw => ?_, ?_⟩
  · unfold cutL
    dsimp only
    split
    · exact L.nd.filter _
    · rename_i q
      exact List.nodup_append.mpr ⟨L.nd.filter _, by simp, fun a ha b hb => by
        rw [List.mem_singleton.mp hb]; exact fun e => q (e ▸ ha)⟩
  · rcases cutL_mem.mp hw with k | k
    · exact L.ne w k.1
    · rw [k]; exact h.rest
  · rcases cutL_mem.mp hw with k | k
    · exact L.lt w k.1
    · rw [k]; exact (L.lt v h.hv).drop _
  · rcases cutL_mem.mp hw with k | k
    · exact L.len w k.1
    · rw [k, List.length_drop]; have := L.len v h.hv; omega
  · unfold cutL
    dsimp only
    have := L.few
    split
    · omega
    · rw [List.length_append]; simp only [List.length_cons, List.length_nil]; omega
theorem cut_sz {ls : List Wd} {u v : Wd} (L : Lot ls) (h : Begun ls u v) : szL (cutL ls u v) < szL ls := by
  have s := sz_filter h.hv
  have u0 : 0 < u.length := List.length_pos_iff.mpr (L.ne u h.hu)
  have hl := congrArg List.length (begins_eq h.bg)
  rw [List.length_append] at hl
  unfold cutL
  dsimp only
  split
  · omega
  · unfold szL at s ⊢
    rw [List.map_append, List.sum_append]
    simp only [List.map_cons, List.map_nil, List.sum_cons, List.sum_nil]
    omega
theorem cut_cl {ls : List Wd} {u v : Wd} (h : Begun ls u v) (w : Wd) : Cl (memP ls) w ↔ Cl (memP (cutL ls u v)) w := by
  have e := begins_eq h.bg
  refine Cl.cut (u := u) (r := v.drop u.length) h.hu (by rw [← e]; exact h.hv) h.rest (fun y => ?_) w
  rw [← e]; exact cutL_mem
theorem Lot.perm {ls ms : List Wd} (L : Lot ls) (p : ms.Perm ls) : Lot ms :=
  ⟨p.nodup_iff.mpr L.nd, fun w h => L.ne w (p.mem_iff.mp h), fun w h => L.lt w (p.mem_iff.mp h), fun w h => L.len w (p.mem_iff.mp h), by rw [p.length_eq]; exact L.few⟩
theorem Lot.sort {ls : List Wd} (L : Lot ls) : Lot (sortW ls) := L.perm (sortW_perm ls)
theorem cl_perm {ls ms : List Wd} (p : ∀ x, x ∈ ls ↔ x ∈ ms) (w : Wd) : Cl (memP ls) w ↔ Cl (memP ms) w :=
  ⟨Cl.sub fun x hx => .base ((p x).mp hx), Cl.sub fun x hx => .base ((p x).mpr hx)⟩
theorem szL_perm {ls ms : List Wd} (p : ls.Perm ms) : szL ls = szL ms := (p.map _).sum_nat
theorem pf_of {ls : List Wd} (h : ∀ u v, ¬ Begun ls u v) : Pf (memP ls) := fun u r hu hv => by
  by_cases e : r = []
  · exact e
  · exfalso
    refine h u (u ++ r) ⟨hu, hv, fun z => e ?_, by simp⟩
    have := congrArg List.length z
    simp at this
    exact this
end DL
namespace DL
/-! ### closed under taking off at the one end, at the other one, or at both -/
structure LuG (p s : Bool) (M : Wd → Prop) : Prop where
  one : M []
  mul : ∀ u v, M u → M v → M (u ++ v)
  div : p = true → ∀ u v, M u → M (u ++ v) → M v
  divr : s = true → ∀ u v, M v → M (u ++ v) → M u
def ClG (p s : Bool) (X : Wd → Prop) (w : Wd) : Prop := ∀ M, LuG p s M → (∀ x, X x → M x) → M w
theorem ClG.base {p s : Bool} {X : Wd → Prop} {w : Wd} (h : X w) : ClG p s X w := fun M _ k => k w h
theorem ClG.lu (p s : Bool) (X : Wd → Prop) : LuG p s (ClG p s X) :=
  ⟨fun M h _ => h.one, fun u v hu hv M h k => h.mul u v (hu M h k) (hv M h k), fun e u v hu hv M h k => h.div e u v (hu M h k) (hv M h k), fun e u v hu hv M h k => h.divr e u v (hu M h k) (hv M h k)⟩
theorem ClG.sub {p s : Bool} {X Y : Wd → Prop} (h : ∀ x, X x → ClG p s Y x) {w : Wd} (k : ClG p s X w) : ClG p s Y w := k _ (ClG.lu p s Y) h
theorem Cl.clG {s : Bool} {X : Wd → Prop} {w : Wd} (h : Cl X w) : ClG true s X w := fun M l k => h M ⟨l.one, l.mul, l.div rfl⟩ k
theorem clG_of_cl {s : Bool} {X Y : Wd → Prop} (h : ∀ w, Cl X w ↔ Cl Y w) (w : Wd) : ClG true s X w ↔ ClG true s Y w :=
  ⟨ClG.sub fun x hx => ((h x).mp (.base hx)).clG, ClG.sub fun x hx => ((h x).mpr (.base hx)).clG⟩
abbrev revP (X : Wd → Prop) : Wd → Prop := fun w => X w.reverse
theorem clG_of_clR {p : Bool} {X Y : Wd → Prop} (h : ∀ w, Cl (revP X) w ↔ Cl (revP Y) w) (w : Wd) : ClG p true X w ↔ ClG p true Y w := by
  have key : ∀ X Y : Wd → Prop, (∀ w, Cl (revP X) w ↔ Cl (revP Y) w) → ∀ x, X x → ClG p true Y x := fun X Y h x hx M l k => by
    have c : Cl (revP X) x.reverse := .base (by show X x.reverse.reverse; rw [List.reverse_reverse]; exact hx)
    have := (h _).mp c (fun w => M w.reverse) ⟨by simpa using l.one, fun u v hu hv => by
      show M (u ++ v).reverse
      rw [List.reverse_append]; exact l.mul _ _ hv hu, fun u v hu hv => by
      have hv : M (u ++ v).reverse := hv
      rw [List.reverse_append] at hv
      exact l.divr rfl _ _ hu hv⟩ fun y hy => k _ hy
    rw [List.reverse_reverse] at this
    exact this
  exact ⟨ClG.sub (key X Y h), ClG.sub (key Y X fun w => (h w).symm)⟩
def Sf (X : Wd → Prop) : Prop := ∀ l u, X u → X (l ++ u) → l = []
theorem sf_pf {X : Wd → Prop} (h : Sf X) : Pf (revP X) := fun u r hu hr => by
  have hr : X (u ++ r).reverse := hr
  rw [List.reverse_append] at hr
  have := h _ _ hu hr
  simpa using this
theorem pf_sf {X : Wd → Prop} (h : Pf (revP X)) : Sf X := fun l u hu hl => by
  have := h u.reverse l.reverse (by show X u.reverse.reverse; rw [List.reverse_reverse]; exact hu) (by show X (u.reverse ++ l.reverse).reverse; rw [List.reverse_append, List.reverse_reverse, List.reverse_reverse]; exact hl)
  simpa using this
theorem Star.one {X : Wd → Prop} {x : Wd} (h : X x) : Star X x := by have := Star.cons h (.nil (X := X)); rwa [List.append_nil] at this
theorem Star.rev {X : Wd → Prop} {w : Wd} (h : Star X w) : Star (revP X) w.reverse := by
  induction h with
  | nil => exact .nil
  | @cons x w hx hw ih =>
    rw [List.reverse_append]
    exact ih.mul (Star.one (by show X x.reverse.reverse; rw [List.reverse_reverse]; exact hx))
theorem Star.rev' {X : Wd → Prop} {w : Wd} (h : Star (revP X) w.reverse) : Star X w := by
  have := h.rev
  rw [List.reverse_reverse] at this
  have e : revP (revP X) = X := by funext w; show X w.reverse.reverse = X w; rw [List.reverse_reverse]
  rw [e] at this
  exact this
theorem Star.divr {X : Wd → Prop} (sf : Sf X) (ne : ¬ X []) {u v : Wd} (hv : Star X v) (h : Star X (u ++ v)) : Star X u := by
  have h1 := h.rev
  rw [List.reverse_append] at h1
  exact (Star.div (X := revP X) (sf_pf sf) (fun z => ne z) hv.rev h1).rev'
theorem Star.luG {p s : Bool} {X : Wd → Prop} (pf : p = true → Pf X) (sf : s = true → Sf X) (ne : ¬ X []) : LuG p s (Star X) :=
  ⟨.nil, fun u v h k => h.mul k, fun e u v h k => h.div (pf e) ne k, fun e u v h k => Star.divr (sf e) ne h k⟩
theorem star_clG {p s : Bool} {X : Wd → Prop} (pf : p = true → Pf X) (sf : s = true → Sf X) (ne : ¬ X []) (w : Wd) : ClG p s X w ↔ Star X w := by
  constructor
  · intro h
    exact h _ (Star.luG pf sf ne) fun x hx => Star.one hx
  · intro h
    induction h with
    | nil => exact (ClG.lu p s X).one
    | cons hx _ ih => exact (ClG.lu p s X).mul _ _ (.base hx) ih
/-- no word is two products run together -/
def Irr (X : Wd → Prop) : Prop := ∀ a b, X (a ++ b) → Star X a → Star X b → a = [] ∨ b = []
theorem irr_pf {X : Wd → Prop} (pf : Pf X) : Irr X := fun a b h ha _ => by
  rcases ha.inv with e | ⟨z, v, hz, _, e⟩
  · exact .inl e
  · rw [e, List.append_assoc] at h
    exact .inr (List.append_eq_nil_iff.mp (pf z _ hz h)).2
theorem irr_sf {X : Wd → Prop} (sf : Sf X) : Irr X := fun a b h ha hb => by
  have := irr_pf (sf_pf sf) b.reverse a.reverse (by show X (b.reverse ++ a.reverse).reverse; rw [List.reverse_append, List.reverse_reverse, List.reverse_reverse]; exact h) hb.rev ha.rev
  simpa [or_comm] using this
theorem base_subI {X Y : Wd → Prop} (ix : Irr X) (nx : ¬ X []) (ny : ¬ Y []) (h : ∀ w, Star X w ↔ Star Y w) {x : Wd} (hx : X x) : Y x := by
  rcases ((h x).mp (Star.one hx)).inv with e | ⟨y, t, hy, ht, e⟩
  · rw [e] at hx; exact absurd hx nx
  · rw [e] at hx
    rcases ix y t hx ((h y).mpr (Star.one hy)) ((h t).mpr ht) with q | q
    · rw [q] at hy; exact absurd hy ny
    · rw [e, q, List.append_nil]; exact hy
/-- the end of the cuts -/
structure HullG (p s : Bool) (ls fs : List Wd) : Prop where
  lot : Lot fs
  srt : fs.Pairwise LeW
  pf : p = true → Pf (memP fs)
  sf : s = true → Sf (memP fs)
  cl : ∀ w, ClG p s (memP ls) w ↔ ClG p s (memP fs) w
theorem HullG.irr {p s : Bool} {ls fs : List Wd} (h : HullG p s ls fs) (e : p = true ∨ s = true) : Irr (memP fs) := e.elim (fun z => irr_pf (h.pf z)) fun z => irr_sf (h.sf z)
theorem HullG.uniq {p s : Bool} {ls ms fs gs : List Wd} (h : HullG p s ls fs) (k : HullG p s ms gs) (e : p = true ∨ s = true) (el : ∀ w, ClG p s (memP ls) w ↔ ClG p s (memP ms) w) : fs = gs := by
  have nf : ¬ memP fs [] := fun z => h.lot.ne _ z rfl
  have ng : ¬ memP gs [] := fun z => k.lot.ne _ z rfl
  have st : ∀ w, Star (memP fs) w ↔ Star (memP gs) w := fun w => (star_clG h.pf h.sf nf w).symm.trans ((h.cl w).symm.trans ((el w).trans ((k.cl w).trans (star_clG k.pf k.sf ng w))))
  exact sortedW_uniq h.srt k.srt (nodup_perm h.lot.nd k.lot.nd fun x => ⟨base_subI (h.irr e) nf ng st, base_subI (k.irr e) ng nf fun w => (st w).symm⟩)
theorem HullL.g {ls fs : List Wd} (h : HullL ls fs) : HullG true false ls fs := ⟨h.lot, h.srt, fun _ => h.pf, fun z => by (cases z), clG_of_cl h.cl⟩
theorem clG_perm {p s : Bool} {ls ms : List Wd} (e : ∀ x, x ∈ ls ↔ x ∈ ms) (w : Wd) : ClG p s (memP ls) w ↔ ClG p s (memP ms) w :=
  ⟨ClG.sub fun x hx => .base ((e x).mp hx), ClG.sub fun x hx => .base ((e x).mpr hx)⟩
/-! ### lists turned about -/
def revW (ls : List Wd) : List Wd := ls.map List.reverse
theorem revW_revW (ls : List Wd) : revW (revW ls) = ls := by
  induction ls with
  | nil => rfl
  | cons w ls ih =>
    show w.reverse.reverse :: revW (revW ls) = w :: ls
    rw [List.reverse_reverse, ih]
theorem revW_mem {ls : List Wd} {w : Wd} : w ∈ revW ls ↔ w.reverse ∈ ls := by
  unfold revW
  rw [List.mem_map]
  exact ⟨fun ⟨x, hx, e⟩ => by rw [← e, List.reverse_reverse]; exact hx, fun h => ⟨_, h, List.reverse_reverse _⟩⟩
theorem revW_len (ls : List Wd) : (revW ls).length = ls.length := by unfold revW; simp
theorem revW_memP (ls : List Wd) : memP (revW ls) = revP (memP ls) := by funext w; exact propext revW_mem
theorem szL_rev (ls : List Wd) : szL (revW ls) = szL ls := by
  unfold szL revW
  rw [List.map_map]
  congr 1
  exact List.map_congr_left fun x _ => by simp
theorem ltr_rev {w : Wd} (h : Ltr w) : Ltr w.reverse := fun c hc => h c (by simpa using hc)
theorem revW_nodup {ls : List Wd} (h : ls.Nodup) : (revW ls).Nodup := by
  induction ls with
  | nil => simp [revW]
  | cons w ls ih =>
    have nd := List.nodup_cons.mp h
    show (w.reverse :: revW ls).Nodup
    rw [List.nodup_cons]
    exact ⟨fun z => nd.1 (by have := revW_mem.mp z; rwa [List.reverse_reverse] at this), ih nd.2⟩
theorem Lot.rev {ls : List Wd} (L : Lot ls) : Lot (revW ls) :=
  ⟨revW_nodup L.nd, fun w h e => L.ne _ (revW_mem.mp h) (by rw [e]; rfl), fun w h => by have := ltr_rev (L.lt _ (revW_mem.mp h)); rwa [List.reverse_reverse] at this, fun w h => by have := L.len _ (revW_mem.mp h); rwa [List.length_reverse] at this, by rw [revW_len]; exact L.few⟩
theorem revW_perm {ls ms : List Wd} (p : ls.Perm ms) : (revW ls).Perm (revW ms) := p.map _
/-- a cut at an end -/
def cutR (ls : List Wd) (u v : Wd) : List Wd := revW (sortW (cutL (revW ls) u v))
theorem clG_revW {p : Bool} {ls ms : List Wd} (h : ∀ w, Cl (memP (revW ls)) w ↔ Cl (memP (revW ms)) w) (w : Wd) : ClG p true (memP ls) w ↔ ClG p true (memP ms) w := by
  rw [revW_memP, revW_memP] at h
  exact clG_of_clR h w
theorem cutR_cl {p : Bool} {ls : List Wd} {u v : Wd} (h : Begun (revW ls) u v) (w : Wd) : ClG p true (memP ls) w ↔ ClG p true (memP (cutR ls u v)) w := by
  refine clG_revW (fun w => ?_) w
  unfold cutR
  rw [revW_revW]
  exact (cut_cl h w).trans (cl_perm (fun x => sortW_mem.symm) w)
theorem cutR_lot {ls : List Wd} {u v : Wd} (L : Lot ls) (h : Begun (revW ls) u v) : Lot (cutR ls u v) := (cut_lot L.rev h).sort.rev
theorem cutR_sz {ls : List Wd} {u v : Wd} (L : Lot ls) (h : Begun (revW ls) u v) : szL (cutR ls u v) < szL ls := by
  have := cut_sz L.rev h
  unfold cutR
  rw [szL_rev, szL_perm (sortW_perm _)]
  rw [szL_rev] at this
  exact this
theorem sf_of {ls : List Wd} (h : ∀ u v, ¬ Begun (revW ls) u v) : Sf (memP ls) := pf_sf (by rw [← revW_memP]; exact pf_of h)
theorem hullR {ls fs : List Wd} (h : HullL (revW ls) fs) : HullG false true ls (sortW (revW fs)) := by
  have L := h.lot.rev.sort
  refine ⟨L, sortW_pw _, fun z => by (cases z), fun _ => ?_, fun w => (clG_revW (ls := ls) (ms := revW fs) (fun w => ?_) w).trans (clG_perm (fun x => sortW_mem.symm) w)⟩
  · refine pf_sf fun u r hu hr => h.pf u r ?_ ?_
    · have := sortW_mem.mp hu; rw [revW_mem, List.reverse_reverse] at this; exact this
    · have := sortW_mem.mp hr; rw [revW_mem, List.reverse_reverse] at this; exact this
  · rw [revW_revW]; exact h.cl w
end DL
namespace DL
/-! ### how many readings a text has -/
def cntN (ws : List Wd) : Nat → Wd → Nat
  | _, [] => 1
  | 0, _ :: _ => 0
  | n + 1, c :: t => (ws.map fun w => if (c :: t).take w.length = w then cntN ws n ((c :: t).drop w.length) else 0).sum
def cntT (ws : List Wd) (t : Wd) : Nat := cntN ws t.length t
theorem cntN_len {ws : List Wd} (ne : ∀ w ∈ ws, w ≠ []) : ∀ (n : Nat) (t : Wd), t.length ≤ n → cntN ws n t = cntT ws t := by
  have key : ∀ (n m : Nat) (t : Wd), t.length ≤ n → t.length ≤ m → cntN ws n t = cntN ws m t := by
    intro n
    induction n with
    | zero =>
      intro m t h1 h2
      cases t with
      | nil => cases m <;> rfl
      | cons c t => simp at h1
    | succ n ih =>
      intro m t h1 h2
      cases t with
      | nil => cases m <;> rfl
      | cons c t =>
        cases m with
        | zero => simp at h2
        | succ m =>
          show (ws.map _).sum = (ws.map _).sum
          congr 1
          refine List.map_congr_left fun w hw => ?_
          by_cases e : (c :: t).take w.length = w
          · rw [if_pos e, if_pos e]
            have l0 : 0 < w.length := List.length_pos_iff.mpr (ne w hw)
            have : ((c :: t).drop w.length).length < (c :: t).length := by rw [List.length_drop]; simp only [List.length_cons]; omega
            exact ih m _ (by omega) (by omega)
          · rw [if_neg e, if_neg e]
  exact fun n t h => key n t.length t h (Nat.le_refl _)
theorem cntT_nil (ws : List Wd) : cntT ws [] = 1 := rfl
theorem cntT_step {ws : List Wd} (ne : ∀ w ∈ ws, w ≠ []) {t : Wd} (ht : t ≠ []) : cntT ws t = (ws.map fun w => if t.take w.length = w then cntT ws (t.drop w.length) else 0).sum := by
  cases t with
  | nil => exact absurd rfl ht
  | cons c t =>
    show (ws.map _).sum = _
    congr 1
    refine List.map_congr_left fun w hw => ?_
    by_cases e : (c :: t).take w.length = w
    · rw [if_pos e, if_pos e]
      have l0 : 0 < w.length := List.length_pos_iff.mpr (ne w hw)
      refine cntN_len ne t.length _ ?_
      rw [List.length_drop]; simp only [List.length_cons]; omega
    · rw [if_neg e, if_neg e]
theorem sum_pos {α : Type} (f : α → Nat) : ∀ l : List α, 0 < (l.map f).sum ↔ ∃ x ∈ l, 0 < f x
  | [] => by simp
  | x :: l => by
    have ih := sum_pos f l
    simp only [List.map_cons, List.sum_cons, List.mem_cons, exists_eq_or_imp]
    constructor
    · intro h
      by_cases e : 0 < f x
      · exact .inl e
      · exact .inr (ih.mp (by omega))
    · rintro (h | h)
      · omega
      · have := ih.mpr h; omega
theorem cntT_star {ws : List Wd} (ne : ∀ w ∈ ws, w ≠ []) : ∀ (n : Nat) (t : Wd), t.length ≤ n → (0 < cntT ws t ↔ Star (memP ws) t) := by
  intro n
  induction n with
  | zero =>
    intro t h
    have : t = [] := List.eq_nil_of_length_eq_zero (by omega)
    subst this
    exact ⟨fun _ => .nil, fun _ => by rw [cntT_nil]; omega⟩
  | succ n ih =>
    intro t h
    by_cases e : t = []
    · subst e; exact ⟨fun _ => .nil, fun _ => by rw [cntT_nil]; omega⟩
    · rw [cntT_step ne e, sum_pos]
      constructor
      · rintro ⟨w, hw, h2⟩
        by_cases b : t.take w.length = w
        · rw [if_pos b] at h2
          have l0 : 0 < w.length := List.length_pos_iff.mpr (ne w hw)
          have s := (ih (t.drop w.length) (by rw [List.length_drop]; omega)).mp h2
          have := Star.cons (X := memP ws) hw s
          rwa [← begins_eq b] at this
        · rw [if_neg b] at h2; omega
      · intro s
        rcases s.inv with z | ⟨w, v, hw, hv, rfl⟩
        · exact absurd z e
        · have l0 : 0 < w.length := List.length_pos_iff.mpr (ne w hw)
          rw [List.length_append] at h
          refine ⟨w, hw, ?_⟩
          rw [if_pos (by simp)]
          have : (w ++ v).drop w.length = v := by simp
          rw [this]
          exact (ih v (by omega)).mpr hv
theorem star_iff {ws : List Wd} (ne : ∀ w ∈ ws, w ≠ []) (t : Wd) : Star (memP ws) t ↔ 0 < cntT ws t := (cntT_star ne t.length t (Nat.le_refl _)).symm
def starB (ws : List Wd) (t : Wd) : Bool := decide (0 < cntT ws t)
theorem starB_iff {ws : List Wd} (ne : ∀ w ∈ ws, w ≠ []) (t : Wd) : starB ws t = true ↔ Star (memP ws) t := by unfold starB; rw [decide_eq_true_eq]; exact (star_iff ne t).symm
theorem Star.mono {X Y : Wd → Prop} (h : ∀ x, X x → Y x) {t : Wd} (s : Star X t) : Star Y t := by
  induction s with
  | nil => exact .nil
  | cons hx _ ih => exact .cons (h _ hx) ih
theorem Star.bind {X Y : Wd → Prop} (h : ∀ x, X x → Star Y x) {t : Wd} (s : Star X t) : Star Y t := by
  induction s with
  | nil => exact .nil
  | cons hx _ ih => exact (h _ hx).mul ih
/-- from the end -/
theorem Star.invr {X : Wd → Prop} {w : Wd} (h : Star X w) : w = [] ∨ ∃ v x, Star X v ∧ X x ∧ w = v ++ x := by
  rcases h.rev.inv with e | ⟨x, v, hx, hv, e⟩
  · exact .inl (by simpa using e)
  · refine .inr ⟨v.reverse, x.reverse, ?_, hx, ?_⟩
    · have := hv.rev
      have e2 : revP (revP X) = X := by funext z; show X z.reverse.reverse = X z; rw [List.reverse_reverse]
      rwa [e2] at this
    · have := congrArg List.reverse e
      rw [List.reverse_reverse, List.reverse_append] at this
      exact this
/-! ### the base -/
def baseW (ls : List Wd) : List Wd := ls.filter fun w => decide (cntT (ls.filter fun x => decide (x ≠ w)) w = 0)
theorem out_ne {ls : List Wd} (ne : ∀ w ∈ ls, w ≠ []) (w : Wd) : ∀ x ∈ ls.filter (fun x => decide (x ≠ w)), x ≠ [] := fun x hx => ne x ((List.mem_filter.mp hx).1)
theorem baseW_mem {ls : List Wd} (ne : ∀ w ∈ ls, w ≠ []) {w : Wd} : w ∈ baseW ls ↔ w ∈ ls ∧ ¬ Star (memP (ls.filter fun x => decide (x ≠ w))) w := by
  unfold baseW
  rw [List.mem_filter, decide_eq_true_eq, star_iff (out_ne ne w)]
  exact and_congr_right fun _ => by omega
theorem short_out {ls : List Wd} {w : Wd} {t : Wd} (s : Star (memP ls) t) (h : t.length < w.length) : Star (memP (ls.filter fun x => decide (x ≠ w))) t := by
  induction s with
  | nil => exact .nil
  | @cons x v hx hv ih =>
    rw [List.length_append] at h
    refine .cons (List.mem_filter.mpr ⟨hx, ?_⟩) (ih (by omega))
    rw [decide_eq_true_eq]
    intro e; subst e; omega
theorem base_irr {ls : List Wd} (ne : ∀ w ∈ ls, w ≠ []) {w : Wd} : w ∈ baseW ls ↔ w ≠ [] ∧ Star (memP ls) w ∧ ∀ a b, w = a ++ b → Star (memP ls) a → Star (memP ls) b → a = [] ∨ b = [] := by
  rw [baseW_mem ne]
  constructor
  · rintro ⟨hw, hn⟩
    refine ⟨ne w hw, Star.one hw, fun a b e ha hb => ?_⟩
    by_cases ea : a = []
    · exact .inl ea
    · by_cases eb : b = []
      · exact .inr eb
      · exfalso
        have la := List.length_pos_iff.mpr ea
        have lb := List.length_pos_iff.mpr eb
        have l := congrArg List.length e
        rw [List.length_append] at l
        apply hn
        have := (short_out (w := w) ha (by omega)).mul (short_out (w := w) hb (by omega))
        rwa [← e] at this
  · rintro ⟨hw, hs, hi⟩
    rcases hs.inv with e | ⟨x, v, hx, hv, e⟩
    · exact absurd e hw
    · rcases hi x v e (Star.one hx) hv with z | z
      · exact absurd z (ne x hx)
      · subst z
        rw [List.append_nil] at e
        subst e
        refine ⟨hx, fun s => ?_⟩
        rcases s.inv with e | ⟨y, u, hy, hu, e⟩
        · exact hw e
        · have hy2 : y ∈ ls := (List.mem_filter.mp hy).1
          have hu2 : Star (memP ls) u := hu.mono fun z hz => (List.mem_filter.mp hz).1
          rcases hi y u e (Star.one hy2) hu2 with z | z
          · exact ne y hy2 z
          · subst z
            rw [List.append_nil] at e
            have := (List.mem_filter.mp hy).2
            rw [decide_eq_true_eq] at this
            exact this e.symm
theorem base_star {ls : List Wd} (ne : ∀ w ∈ ls, w ≠ []) : ∀ (n : Nat) (t : Wd), t.length ≤ n → Star (memP ls) t → Star (memP (baseW ls)) t := by
  intro n
  induction n with
  | zero =>
    intro t h _
    have : t = [] := List.eq_nil_of_length_eq_zero (by omega)
    subst this; exact .nil
  | succ n ih =>
    intro t h s
    rcases s.inv with e | ⟨x, v, hx, hv, rfl⟩
    · subst e; exact .nil
    · have lx := List.length_pos_iff.mpr (ne x hx)
      rw [List.length_append] at h
      by_cases ev : v = []
      · subst ev
        rw [List.append_nil]
        by_cases hb : x ∈ baseW ls
        · exact Star.one hb
        · have : Star (memP (ls.filter fun y => decide (y ≠ x))) x := Classical.byContradiction fun z => hb ((baseW_mem ne).mpr ⟨hx, z⟩)
          rcases this.inv with e | ⟨y, u, hy, hu, e⟩
          · exact absurd e (ne x hx)
          · have hy2 : y ∈ ls := (List.mem_filter.mp hy).1
            have hu2 : Star (memP ls) u := hu.mono fun z hz => (List.mem_filter.mp hz).1
            have ly := List.length_pos_iff.mpr (ne y hy2)
            have hne := (List.mem_filter.mp hy).2
            rw [decide_eq_true_eq] at hne
            have lu : 0 < u.length := List.length_pos_iff.mpr fun z => by subst z; rw [List.append_nil] at e; exact hne e.symm
            have l := congrArg List.length e
            rw [List.length_append] at l
            simp only [List.length_nil] at h
            rw [e]
            exact (ih y (by omega) (Star.one hy2)).mul (ih u (by omega) hu2)
      · have lv := List.length_pos_iff.mpr ev
        exact (ih x (by omega) (Star.one hx)).mul (ih v (by omega) hv)
theorem base_sub_star {ls : List Wd} {t : Wd} (s : Star (memP (baseW ls)) t) : Star (memP ls) t := s.mono fun z hz => (List.mem_filter.mp hz).1
theorem base_same {ls ms : List Wd} (nl : ∀ w ∈ ls, w ≠ []) (nm : ∀ w ∈ ms, w ≠ []) (h : ∀ t, Star (memP ls) t ↔ Star (memP ms) t) (w : Wd) : w ∈ baseW ls ↔ w ∈ baseW ms := by
  rw [base_irr nl, base_irr nm, h w]
  constructor
  · rintro ⟨h1, h2, h3⟩
    exact ⟨h1, h2, fun a b e ha hb => h3 a b e ((h a).mpr ha) ((h b).mpr hb)⟩
  · rintro ⟨h1, h2, h3⟩
    exact ⟨h1, h2, fun a b e ha hb => h3 a b e ((h a).mp ha) ((h b).mp hb)⟩
def inB (ls ms : List Wd) : Bool := ls.all fun w => starB ms w
theorem inB_iff {ls ms : List Wd} (nm : ∀ w ∈ ms, w ≠ []) : inB ls ms = true ↔ ∀ t, Star (memP ls) t → Star (memP ms) t := by
  unfold inB
  rw [List.all_eq_true]
  constructor
  · exact fun h t s => s.bind fun x hx => (starB_iff nm x).mp (h x hx)
  · exact fun h w hw => (starB_iff nm w).mpr (h w (Star.one hw))
/-- within one another: just if the bases are the same -/
theorem base_eq_iff {ls ms : List Wd} (L : Lot ls) (M : Lot ms) : (inB ls ms && inB ms ls) = decide (sortW (baseW ls) = sortW (baseW ms)) := by
  rw [Bool.eq_iff_iff, Bool.and_eq_true, decide_eq_true_eq, inB_iff M.ne, inB_iff L.ne]
  constructor
  · rintro ⟨h1, h2⟩
    refine sortW_of (nodup_perm (L.nd.filter _) (M.nd.filter _) (base_same L.ne M.ne fun t => ⟨h1 t, h2 t⟩))
  · intro e
    have mem : ∀ x, x ∈ baseW ls ↔ x ∈ baseW ms := fun x => by rw [← sortW_mem, e, sortW_mem]
    have one : ∀ (ls ms : List Wd), (∀ w ∈ ls, w ≠ []) → (∀ x, x ∈ baseW ls → x ∈ baseW ms) → ∀ t, Star (memP ls) t → Star (memP ms) t := fun ls ms nl h t s =>
      base_sub_star ((base_star nl t.length t (Nat.le_refl _) s).mono h)
    exact ⟨one ls ms L.ne fun x => (mem x).mp, one ms ls M.ne fun x => (mem x).mpr⟩
end DL
namespace DL
open PySem PySem.Spec L2

/-! ### the least part whose power a text is -/
def Rt (l : List Nat) (d : Nat) : Prop := 0 < d ∧ l.length % d = 0 ∧ (List.replicate (l.length / d) (l.take d)).flatten = l
def Mn (l : List Nat) (d : Nat) : Prop := Rt l d ∧ ∀ e, Rt l e → d ≤ e
theorem least_of {P : Nat → Prop} : ∀ n, P n → ∃ d, P d ∧ ∀ e, P e → d ≤ e := by
  intro n
  induction n using Nat.strongRecOn with
  | ind n ih =>
    intro h
    by_cases q : ∃ m, m < n ∧ P m
    · obtain ⟨m, h1, h2⟩ := q; exact ih m h1 h2
    · exact ⟨n, h, fun e he => Nat.le_of_not_lt fun z => q ⟨e, z, he⟩⟩
theorem rt_self {l : List Nat} (h : 0 < l.length) : Rt l l.length := ⟨h, by simp, by simp [Nat.div_self h]⟩
theorem mn_ex {l : List Nat} (h : 0 < l.length) : ∃ d, Mn l d := least_of _ (rt_self h)
/-- the text run on for ever -/
def cy (l : List Nat) (i : Nat) : Nat := l.getD (i % l.length) 0
theorem cy_lt {l : List Nat} {i : Nat} (h : i < l.length) : cy l i = l.getD i 0 := by unfold cy; rw [Nat.mod_eq_of_lt h]
theorem ext_getD {l m : List Nat} (h : l.length = m.length) (k : ∀ i, i < l.length → l.getD i 0 = m.getD i 0) : l = m := by
  apply List.ext_getElem h
  intro i h1 h2
  have := k i h1
  simpa [List.getD_eq_getElem?_getD, h1, h2] using this
theorem flat_getD (m : List Nat) : ∀ (k i : Nat), i < k * m.length → ((List.replicate k m).flatten).getD i 0 = m.getD (i % m.length) 0
  | 0, i, h => by simp at h
  | k + 1, i, h => by
    rw [List.replicate_succ, List.flatten_cons]
    by_cases q : i < m.length
    · rw [Nat.mod_eq_of_lt q]
      simp [List.getD_eq_getElem?_getD, List.getElem?_append_left q]
    · have q : m.length ≤ i := by omega
      have e : i % m.length = (i - m.length) % m.length := by rw [← Nat.mod_eq_sub_mod q]
      rw [e, ← flat_getD m k (i - m.length) (by rw [Nat.succ_mul] at h; omega)]
      simp [List.getD_eq_getElem?_getD, List.getElem?_append_right q]
theorem take_getD {l : List Nat} {d i : Nat} (h : i < d) : (l.take d).getD i 0 = l.getD i 0 := by
  simp [List.getD_eq_getElem?_getD, List.getElem?_take, h]
theorem drop_getD {l : List Nat} {d i : Nat} : (l.drop d).getD i 0 = l.getD (d + i) 0 := by
  simp [List.getD_eq_getElem?_getD, List.getElem?_drop]
def Per (f : Nat → Nat) (d : Nat) : Prop := ∀ i, f (i + d) = f i
theorem Per.mul {f : Nat → Nat} {d : Nat} (h : Per f d) : ∀ k, Per f (d * k)
  | 0 => fun i => rfl
  | k + 1 => fun i => by
    have e : i + d * (k + 1) = (i + d * k) + d := by rw [Nat.mul_succ]; omega
    rw [e, h, Per.mul h k]
theorem Per.dvd {f : Nat → Nat} {d e : Nat} (h : Per f d) (k : d ∣ e) : Per f e := by
  obtain ⟨q, rfl⟩ := k; exact h.mul q
theorem Per.sub {f : Nat → Nat} {d e : Nat} (h : Per f d) (k : Per f e) (l : d ≤ e) : Per f (e - d) := fun i => by
  have := h (i + (e - d))
  rw [← this, show i + (e - d) + d = i + e by omega, k]
theorem Per.mod {f : Nat → Nat} {d e : Nat} (h : Per f d) (k : Per f e) : Per f (e % d) := by
  have e1 : e % d = e - d * (e / d) := by have := Nat.div_add_mod e d; omega
  rw [e1]
  exact (h.mul (e / d)).sub k (by have := Nat.div_add_mod e d; omega)
theorem Per.gcd {f : Nat → Nat} {d e : Nat} (h : Per f d) (k : Per f e) : Per f (Nat.gcd d e) := by
  induction d, e using Nat.gcd.induction with
  | H0 n => simpa using k
  | H1 m n hm ih => rw [Nat.gcd_rec]; exact ih (h.mod k) h
theorem per_len (l : List Nat) : Per (cy l) l.length := fun i => by unfold cy; rw [Nat.add_mod_right]
theorem Per.at_mod {f : Nat → Nat} {d : Nat} (h : Per f d) (i : Nat) : f (i % d) = f i := by
  have := h.mul (i / d) (i % d)
  rw [← this]; congr 1; exact Nat.mod_add_div i d
theorem cy_rep {m : List Nat} {k : Nat} (hk : 0 < k) (i : Nat) : cy (List.replicate k m).flatten i = cy m i := by
  by_cases hm : m.length = 0
  · have : m = [] := List.length_eq_zero_iff.mp hm
    subst this
    have : (List.replicate k ([] : List Nat)).flatten = [] := List.length_eq_zero_iff.mp (by rw [flat_len]; simp)
    rw [this]
  · have hm : 0 < m.length := by omega
    unfold cy
    rw [flat_len]
    rw [flat_getD m k _ (Nat.mod_lt _ (Nat.mul_pos hk hm)), Nat.mod_mul_left_mod]
theorem rt_iff {l : List Nat} {d : Nat} (hl : 0 < l.length) : Rt l d ↔ 0 < d ∧ d ∣ l.length ∧ Per (cy l) d := by
  constructor
  · rintro ⟨h1, h2, h3⟩
    have hd := Nat.dvd_of_mod_eq_zero h2
    refine ⟨h1, hd, ?_⟩
    have hk : 0 < l.length / d := Nat.div_pos (Nat.le_of_dvd hl hd) h1
    have e : ∀ i, cy l i = cy (l.take d) i := fun i => by
      conv => lhs; rw [← h3]
      exact cy_rep hk i
    have hlen : (l.take d).length = d := by rw [List.length_take]; exact Nat.min_eq_left (Nat.le_of_dvd hl hd)
    intro i
    rw [e, e]
    have := per_len (l.take d) i
    rwa [hlen] at this
  · rintro ⟨h1, h2, h3⟩
    have hdl := Nat.le_of_dvd hl h2
    have hlen : (l.take d).length = d := by rw [List.length_take]; exact Nat.min_eq_left hdl
    refine ⟨h1, Nat.mod_eq_zero_of_dvd h2, ?_⟩
    have hl2 : ((List.replicate (l.length / d) (l.take d)).flatten).length = l.length := by rw [flat_len, hlen, Nat.div_mul_cancel h2]
    apply ext_getD hl2
    intro i hi
    rw [flat_getD _ _ _ (by rw [flat_len] at hi; exact hi), hlen, take_getD (Nat.mod_lt _ h1)]
    rw [hl2] at hi
    rw [← cy_lt (Nat.lt_of_lt_of_le (Nat.mod_lt i h1) hdl), h3.at_mod, cy_lt hi]
theorem Mn.pos {l : List Nat} {d : Nat} (h : Mn l d) : 0 < d := h.1.1
theorem Mn.dvd {l : List Nat} {d : Nat} (h : Mn l d) : d ∣ l.length := Nat.dvd_of_mod_eq_zero h.1.2.1
theorem Mn.le {l : List Nat} {d : Nat} (h : Mn l d) (hl : 0 < l.length) : d ≤ l.length := Nat.le_of_dvd hl h.dvd
theorem Mn.per {l : List Nat} {d : Nat} (h : Mn l d) (hl : 0 < l.length) : Per (cy l) d := ((rt_iff hl).mp h.1).2.2
theorem Mn.strong {l : List Nat} {d e : Nat} (h : Mn l d) (hl : 0 < l.length) (he : 0 < e) (p : Per (cy l) e) : d ∣ e := by
  have g := (h.per hl).gcd p
  have g0 : 0 < Nat.gcd d e := Nat.gcd_pos_of_pos_left _ h.pos
  have := h.2 _ ((rt_iff hl).mpr ⟨g0, Nat.dvd_trans (Nat.gcd_dvd_left d e) h.dvd, g⟩)
  have e1 : Nat.gcd d e = d := Nat.le_antisymm (Nat.le_of_dvd h.pos (Nat.gcd_dvd_left d e)) this
  rw [← e1]; exact Nat.gcd_dvd_right d e
/-- a text with the same periods -/
theorem Mn.same {l m : List Nat} {d : Nat} (h : Mn l d) (hl : 0 < l.length) (hm : 0 < m.length) (hd : d ∣ m.length) (hp : ∀ e, Per (cy m) e ↔ Per (cy l) e) : Mn m d := by
  refine ⟨(rt_iff hm).mpr ⟨h.pos, hd, (hp d).mpr (h.per hl)⟩, fun e he => ?_⟩
  obtain ⟨h1, h2, h3⟩ := (rt_iff hm).mp he
  exact Nat.le_of_dvd h1 (h.strong hl h1 ((hp e).mp h3))
theorem Mn.rep {l : List Nat} {d n : Nat} (h : Mn l d) (hl : 0 < l.length) (hn : 0 < n) : Mn (List.replicate n (l.take d)).flatten d := by
  have hlen : (l.take d).length = d := by rw [List.length_take]; exact Nat.min_eq_left (h.le hl)
  have hd := h.pos
  have e : ∀ i, cy (List.replicate n (l.take d)).flatten i = cy l i := fun i => by
    rw [cy_rep hn]
    have hk : 0 < l.length / d := Nat.div_pos (h.le hl) hd
    conv => rhs; rw [← h.1.2.2]
    exact (cy_rep hk i).symm
  refine h.same hl ?_ ?_ fun e' => ?_
  · rw [flat_len, hlen]; exact Nat.mul_pos hn hd
  · rw [flat_len, hlen]; exact Nat.dvd_mul_left _ _
  · unfold Per; simp only [e]
theorem cy_rot {l : List Nat} {c : Nat} (hc : c ≤ l.length) (hl : 0 < l.length) (i : Nat) : cy (l.drop c ++ l.take c) i = cy l (i + c) := by
  have len : (l.drop c ++ l.take c).length = l.length := by simp; omega
  unfold cy
  rw [len]
  have hi := Nat.mod_lt i hl
  by_cases q : i % l.length < l.length - c
  · have e1 : (l.drop c ++ l.take c).getD (i % l.length) 0 = l.getD (c + i % l.length) 0 := by
      rw [← drop_getD]
      simp [List.getD_eq_getElem?_getD, List.getElem?_append_left (show i % l.length < (l.drop c).length by simpa using q)]
    rw [e1]
    congr 1
    rw [Nat.add_mod, Nat.mod_eq_of_lt (a := i % l.length + c % l.length)]
    · have : c < l.length := by omega
      rw [Nat.mod_eq_of_lt this]; omega
    · have : c < l.length := by omega
      rw [Nat.mod_eq_of_lt this]; omega
  · have e1 : (l.drop c ++ l.take c).getD (i % l.length) 0 = l.getD (i % l.length - (l.length - c)) 0 := by
      rw [← take_getD (l := l) (d := c) (show i % l.length - (l.length - c) < c by omega)]
      simp [List.getD_eq_getElem?_getD, List.getElem?_append_right (show (l.drop c).length ≤ i % l.length by simp; omega)]
    rw [e1]
    congr 1
    rw [← Nat.mod_add_mod]
    have : (i % l.length + c) % l.length = i % l.length + c - l.length := by
      rw [Nat.mod_eq_sub_mod (by omega), Nat.mod_eq_of_lt (by omega)]
    rw [this]; omega
theorem Mn.rot {l : List Nat} {d c : Nat} (h : Mn l d) (hl : 0 < l.length) (hc : c ≤ l.length) : Mn (l.drop c ++ l.take c) d := by
  have len : (l.drop c ++ l.take c).length = l.length := by simp; omega
  refine h.same hl (by rw [len]; exact hl) (by rw [len]; exact h.dvd) fun e => ?_
  unfold Per
  simp only [cy_rot hc hl]
  constructor
  · intro p i
    have b := (per_len l).mul c
    have hcl : c ≤ l.length * c := Nat.le_mul_of_pos_left c hl
    have := p (i + l.length * c - c)
    rw [show i + l.length * c - c + e + c = (i + e) + l.length * c by omega, show i + l.length * c - c + c = i + l.length * c by omega, b, b] at this
    exact this
  · intro p i
    rw [show i + e + c = (i + c) + e by omega]; exact p _
theorem Mn.rot_take {l : List Nat} {d c : Nat} (h : Mn l d) (hl : 0 < l.length) (hc : c ≤ l.length) : (l.drop c ++ l.take c).take d = (l.take d).drop (c % d) ++ (l.take d).take (c % d) := by
  have hd := h.pos
  have hdl := h.le hl
  have hlen : (l.take d).length = d := by rw [List.length_take]; exact Nat.min_eq_left hdl
  have len : (l.drop c ++ l.take c).length = l.length := by simp; omega
  have hm := Nat.mod_lt c hd
  apply ext_getD
  · simp; omega
  · intro i hi
    rw [List.length_take, len, Nat.min_eq_left hdl] at hi
    rw [take_getD hi, ← cy_lt (by rw [len]; omega), cy_rot hc hl]
    have len2 : ((l.take d).drop (c % d) ++ (l.take d).take (c % d)).length = d := by rw [List.length_append, List.length_drop, hlen, List.length_take, hlen]; omega
    rw [← cy_lt (l := (l.take d).drop (c % d) ++ (l.take d).take (c % d)) (by rw [len2]; exact hi), cy_rot (by omega) (by omega)]
    have e : ∀ j, cy (l.take d) j = cy l j := fun j => by
      have hk : 0 < l.length / d := Nat.div_pos hdl hd
      conv => rhs; rw [← h.1.2.2]
      exact (cy_rep hk j).symm
    rw [e]
    have p := h.per hl
    rw [← p.at_mod (i + c), ← p.at_mod (i + c % d), Nat.add_mod_mod]
theorem cy_rev {l : List Nat} (hl : 0 < l.length) {i k : Nat} (hi : i < l.length * k) : cy l.reverse i = cy l (l.length * k - 1 - i) := by
  unfold cy
  rw [List.length_reverse]
  have hm := Nat.mod_lt i hl
  have e1 : l.reverse.getD (i % l.length) 0 = l.getD (l.length - 1 - i % l.length) 0 := by
    simp [List.getD_eq_getElem?_getD, List.getElem?_reverse hm]
  rw [e1]
  congr 1
  have h1 := Nat.div_add_mod i l.length
  have hq : i / l.length < k := (Nat.div_lt_iff_lt_mul hl).mpr (by rw [Nat.mul_comm]; exact hi)
  have h2 : l.length * k = l.length * (i / l.length) + l.length * (k - 1 - i / l.length) + l.length := by
    rw [← Nat.mul_add, ← Nat.mul_succ]; congr 1; omega
  have h3 : l.length * k - 1 - i = (l.length - 1 - i % l.length) + l.length * (k - 1 - i / l.length) := by omega
  rw [h3, Nat.add_mul_mod_self_left, Nat.mod_eq_of_lt (a := l.length - 1 - i % l.length) (by omega)]
theorem per_rev {l : List Nat} (hl : 0 < l.length) {e : Nat} (p : Per (cy l) e) : Per (cy l.reverse) e := fun i => by
  have h1 : i + e < l.length * (i + e + 1) := Nat.lt_of_lt_of_le (Nat.lt_succ_self _) (Nat.le_mul_of_pos_left _ hl)
  rw [cy_rev hl h1, cy_rev hl (i := i) (k := i + e + 1) (by omega)]
  have := p (l.length * (i + e + 1) - 1 - (i + e))
  rw [← this]
  congr 1; omega
theorem Mn.rev {l : List Nat} {d : Nat} (h : Mn l d) (hl : 0 < l.length) : Mn l.reverse d := by
  refine h.same hl (by simpa using hl) (by simpa using h.dvd) fun e => ⟨fun p => ?_, per_rev hl⟩
  have := per_rev (l := l.reverse) (by simpa using hl) p
  rwa [List.reverse_reverse] at this
theorem Mn.rev_take {l : List Nat} {d : Nat} (h : Mn l d) (hl : 0 < l.length) : l.reverse.take d = (l.take d).reverse := by
  have hdl := h.le hl
  have e : l.drop (l.length - d) = l.take d := by
    apply ext_getD
    · simp; omega
    · intro i hi
      have hi : i < d := by simp at hi; omega
      rw [drop_getD, take_getD hi, ← cy_lt (show l.length - d + i < l.length by omega), ← cy_lt (show i < l.length by omega)]
      have p := (h.per hl).dvd (show d ∣ l.length - d from Nat.dvd_sub h.dvd (Nat.dvd_refl d))
      rw [Nat.add_comm]; exact p i
  rw [List.take_reverse, e]
end DL
namespace DL
open PySem PySem.Spec L2
local macro_rules
  | `(tactic| simp_arith [$xs,*]) => `(tactic| simp only [$xs,*, ↓Ev_eq, ↓iV_ok, ↓iV_bind, ↓iV_stuck, ↓iV_ite, ↓iV_bindN, ↓iV_some, ↓iV_none, ↓iV_oifG, ↓iV_gif, ↓iv_c, ↓iv_bin, ↓iv_un, ↓iv_test, ↓iv_and, ↓iv_or, ↓iv_not, ↓iv_val, ↓iv_if, ↓iv_yes, ↓iv_ds_nil, ↓iv_ds_cons, ↓iv_rs_nil, ↓iv_rs_cons, ↓iv_list, ↓iv_tup, ↓iv_callB, ↓iv_part, ↓iv_nopart, ↓iv_sl, ↓iv_meth, ↓iv_repr, ↓iv_rne, ↓iv_req, ↓iv_chain, ↓iv_pass, ↓iv_break, ↓iv_cont, ↓iv_never, ↓iv_seq, ↓iv_ret, ↓iv_retN, ↓iv_ifS, ↓iv_drop, ↓iv_asg, ↓iv_name_val, ↓iv_name_new, ↓iv_name_sl, ↓iv_tupG, ↓iv_asg_nil, ↓iv_asg_cons, ↓iv_setIx, ↓iv_append, ↓iv_aug, ↓iv_as_nil, ↓iv_as_t, ↓iv_as_f, ↓iv_as_l, ↓iv_callF, ↓iv_callK, ↓iv_range, ↓iv_iter, ↓iv_for, ↓iv_lc, ↓iv_par, ↓iv_hs_nil, ↓iv_hs_cons, ↓iv_listS, ↓iv_ss_nil, ↓iv_ss_one, ↓iv_ss_star, ↓iv_enum, ↓iv_make, ↓iv_prop, ↓iv_fldS, ↓iv_pop, ↓iv_popAt, ↓iv_extend, ↓iv_augIx, iV_ok, iV_bind, iV_stuck, iV_ite, iV_bindN, iV_some, iV_none, iV_oifG, iV_gif, iv_c, iv_bin, iv_un, iv_test, iv_and, iv_or, iv_not, iv_val, iv_if, iv_yes, iv_ds_nil, iv_ds_cons, iv_rs_nil, iv_rs_cons, iv_list, iv_tup, iv_callB, iv_part, iv_nopart, iv_sl, iv_meth, iv_repr, iv_rne, iv_req, iv_chain, iv_pass, iv_break, iv_cont, iv_never, iv_seq, iv_ret, iv_retN, iv_ifS, iv_drop, iv_asg, iv_name_val, iv_name_new, iv_name_sl, iv_tupG, iv_asg_nil, iv_asg_cons, iv_setIx, iv_append, iv_aug, iv_as_nil, iv_as_t, iv_as_f, iv_as_l, iv_callF, iv_callK, iv_range, iv_iter, iv_for, iv_lc, iv_par, iv_hs_nil, iv_hs_cons, iv_listS, iv_ss_nil, iv_ss_one, iv_ss_star, iv_enum, iv_make, iv_prop, iv_fldS, iv_pop, iv_popAt, iv_extend, iv_augIx, seqK_nx, seqK_bk, seqK_ct, seqK_rt, tupK_tup, asgK_nx, setN_some, setK_some, appK_some, augS_some, augK_fz, asK_sl, asL_sl, asL_val, backK_val, backK_new, callA_some, backN_val, backN_new, rngK_some, optR_some, optR_if, itK_some, chK_b, turnQ_nx, turnQ_ct, turnQ_bk, turnQ_rt, varK_fz, varK_ow, mVar_eq, mC_eq, data_val, data_new, datK_fz, datK_ow, data_sl, frz_val, frz_new, frzK_fz, frzK_ow, frz_sl, freeK_no, freeK_fz, freeK_ow, free_eq, ownL_eq, ownK_fr, ownK_pn, datas_nil, consD_ok, datas_cons', asB_b, asI_i, argSl_d, argSl_s, argSl_l, argL_fz, argL_ow, argK_fz, argK_fr, argK_pn, consO_some, mkArgs_nil, mkArgs_cons, slotsOf_nil, slotsOf_d, slotsOf_s, slotsOf_l, noDup_nil, noDup_one, noDup_two, putK_ow, putK_fz, putBack_nil, putBack_d, putBack_s, putBack_l, outEnv_nil, outEnv_fz, outEnv_ow, finR_val, finR_new, finR_sl, finK_fz, finK_ow, finQ_nx, finQ_rt, lockR_val, lockR_new, lockR_sl, lokK_fz, lokK_fr, lokK_lk, lockB_none, lockB_some, lokB_no, lokB_fz, lokB_fr, unlock_none, unlock_some, unlK_lk, optR_map_some, optR_map_if, wipeE_nil, wipeE_cons, backE_nil, backE_cons, plainAt_eq, plaK_no, plaK_fz, tgm_nm, tgm_tp, tgms_nil, tgms_cons, dLt_i, dLe_i, dGt_i, dGe_i, dLt_s, dLe_s, dGt_s, dGe_s, okD_int, okD_str, okD_bool, okD_none, dMax2_i, dMin2_i, atD3_0, atD3_1, atD3_2, ixN3_0, ixN3_1, ixN3_2, dAdd, dSub, dDiv, dMod, dPow, dMul, dNeg, dAbs, dInt, dLen, dIs, dIsNot, dIAdd, isNon, dIx, dSl, dRev, itemsD, List.getElem?_cons_zero, List.getElem?_cons_succ, List.getElem?_nil, List.set_cons_zero, List.set_cons_succ, List.set_nil, List.map_cons, List.map_nil, List.length_cons, List.length_nil, List.getD_cons_zero, List.getD_cons_succ, List.all_cons, List.all_nil, List.cons_append, List.nil_append, Option.isSome_some, Option.map_some, Option.map_none, true_and, and_true, Bool.and_true, Bool.true_and, Bool.not_true, Bool.not_false, if_true, if_false, ite_true, ite_false, decide_eq_true_eq, Bool.not_eq_true, Bool.not_eq_true', decide_eq_false_iff_not, not_true, not_false_iff, rngOf1, rngOf2, seqR_some, enumR_some, mkK_ok, prK_val, prK_new, fldR_some, fldS_fr, fldS_pn, popK_some, popR_some, popAK_some, popAR_some, extK_some, augM_some, augN_int, augJ_some, augI_int, seqD, hold_val, hold_new, hold_sl, slOf_val, slOf_new, storeHs_nil, storeHs_cons, isStrD_s, atD2_0, atD2_1, atD1_0, ite_and, and_false, false_and, or_false, false_or, or_true, true_or, reduceIte, reduceCtorEq, List.reduceReplicate, Nat.reduceSub, Nat.reduceAdd, Nat.reduceLeDiff, Int.reduceLT, Int.reduceLE, Int.reduceEq, Int.reduceMod, Int.reduceDiv, Int.reduceMul, Int.reduceAdd, Int.reduceSub, Int.reduceNeg, Int.reduceToNat, Bool.false_eq_true, lineM])
theorem lit_a : ("a" : Str) = S [97] := by decide +kernel
theorem lit_ab : ("ab" : Str) = S [97, 98] := by decide +kernel
theorem lit_b : ("b" : Str) = S [98] := by decide +kernel
def abc : List Nat := [97, 98, 99, 100, 101, 102, 103, 104, 105, 106, 107, 108, 109, 110, 111, 112, 113, 114, 115, 116, 117, 118, 119, 120, 121, 122]
theorem lit_abc : ("abcdefghijklmnopqrstuvwxyz" : Str) = S abc := by decide +kernel
theorem ltr_abc : Ltr abc := by unfold Ltr; decide +kernel
theorem mem_abc {c : Nat} (h1 : 97 ≤ c) (h2 : c ≤ 122) : c ∈ abc := by
  have : ∀ k, k < 26 → (97 + k) ∈ abc := by decide +kernel
  have := this (c - 97) (by omega)
  rwa [show 97 + (c - 97) = c by omega] at this

theorem ev_line_k36 {p : D} {n : Nat} {m : Int} {Q : Rv × Env → Prop} (hp : Pl n p) (hn : n < 2 ^ 59) (h0 : 20 ≤ m) (hm : m ≤ 400)
    (k : ∀ l p', Ltr l → 0 < l.length → l.length ≤ 400 → Pl (n + 500) p' → Q (.val (.str (S l)), [.ow .pn p', .fz (.int m)])) : Ev (M_law_line_k36 [.ow .pn p, .fz (.int m)]) Q := by
  refine Ev_defI ⟨rfl, rfl⟩ ?_
  unfold B_law_line_k36
  simp_arith [Ev_eq]
  refine ev_draw hp (by omega) (by decide) (by decide) fun r p1 r0 r1 hp1 => ?_
  simp_arith [Ev_eq]
  refine ev_at r0 (by simpa using r1) fun d hd => ?_
  have hs : ∃ sg, d = .str (S sg) ∧ Ltr sg ∧ 0 < sg.length ∧ sg.length ≤ 26 := by
    simp only [List.mem_cons, List.not_mem_nil, or_false] at hd
    rcases hd with e | e | e | e
    · exact ⟨_, by rw [e, lit_a], by unfold Ltr; decide, by decide, by decide⟩
    · exact ⟨_, by rw [e, lit_ab], by unfold Ltr; decide, by decide, by decide⟩
    · exact ⟨_, by rw [e, lit_ab], by unfold Ltr; decide, by decide, by decide⟩
    · exact ⟨_, by rw [e, lit_abc], ltr_abc, by decide, by decide⟩
  obtain ⟨sg, rfl, hsg, hsg0, hsg1⟩ := hs
  simp_arith [Ev_eq]
  refine ev_draw hp1 (by omega) (by decide) (by decide) fun r2 p2 r20 r21 hp2 => ?_
  simp_arith [Ev_eq]
  refine ev_draw hp2 (by omega) (by decide) (by decide) fun r3 p3 r30 r31 hp3 => ?_
  simp_arith [Ev_eq]
  refine ev_draw hp3 (by omega) (by omega) (by omega) fun r4 p4 r40 r41 hp4 => ?_
  simp_arith [Ev_eq]
  refine ev_draw hp4 (by omega) (by decide) (by decide) fun r5 p5 r50 r51 hp5 => ?_
  simp_arith [Ev_eq]
  refine ev_at r50 (by simpa using r51) fun d hd => ?_
  have hs : ∃ z : Int, d = .int z ∧ 1 ≤ z ∧ z ≤ m := by
    simp only [List.mem_cons, List.not_mem_nil, or_false] at hd
    rcases hd with e | e | e
    · exact ⟨_, e, by omega, by omega⟩
    · exact ⟨_, e, by omega, by omega⟩
    · exact ⟨_, e, by omega, by omega⟩
  obtain ⟨z, rfl, hz0, hz1⟩ := hs
  simp_arith [lit_nil, rngOf1]
  have hz : rng62 z = true := by unfold rng62; simp; omega
  refine ⟨hz, ?_⟩
  refine ev_lcL (fun rest acc env => ∃ (pk : D) (cs : List Nat), env = [Sl.ow Kd.pn pk, Sl.fz (PyData.int m), Sl.fz (PyData.str (S sg)), Sl.fz (PyData.int z), Sl.no, Sl.no, Sl.no] ∧ Pl (n + 5 + cs.length) pk ∧ acc = strsD (cs.map fun c => [c]) ∧ Ltr cs ∧ cs.length + rest.length = z.toNat) (name_nx 5) ?_ ?_ _ _ _ ⟨p5, [], rfl, hp5, rfl, by unfold Ltr; simp, by simp [rangeD_len]⟩
  · rintro d ds acc env ⟨pk, cs, rfl, hpk, rfl, hcs, hlen⟩
    simp_arith [S_len]
    refine ⟨by omega, ev_draw hpk (by simp at hlen; omega) (by omega) (by omega) fun r6 p6 r60 r61 hp6 => ?_⟩
    simp_arith [S_cps, S_len]
    refine ⟨by omega, ev_atS r60 (by simpa using r61) fun c hc => ?_⟩
    simp_arith [S_sign]
    refine ⟨by simp [strsD] at hlen ⊢; omega, p6, cs ++ [c], rfl, ?_, ?_, ?_, ?_⟩
    · simpa [Nat.add_assoc] using hp6
    · simp [strsD]
    · exact hcs.app fun x hx => by rw [List.mem_singleton.mp hx]; exact hsg c hc
    · simp at hlen ⊢; omega
  · rintro acc env ⟨pk, cs, rfl, hpk, rfl, hcs, hlen⟩
    have hc0 : cs.length = z.toNat := by simpa using hlen
    simp_arith [Ev_eq]
    rw [join_cs cs (by omega)]
    simp_arith [S_len, S_rep]
    have hq1 : 1 ≤ m / (cs.length : Int) := Int.le_ediv_of_mul_le (by omega) (by omega)
    have hq2 : m / (cs.length : Int) ≤ m := Int.ediv_le_self _ (by omega)
    refine ⟨by omega, ⟨by omega, log_nat (by omega)⟩, ev_draw (n := n + 405) (hpk.mono (by omega)) (by omega) (by omega) (by omega) fun r7 p7 r70 r71 hp7 => ?_⟩
    simp_arith [S_len, S_rep]
    have hm2 : (cs.length : Int) * (1 + r7) ≤ m := by
      have h1 : (cs.length : Int) * (1 + r7) ≤ cs.length * (m / cs.length) := Int.mul_le_mul_of_nonneg_left (by omega) (by omega)
      have h2 : (cs.length : Int) * (m / cs.length) ≤ m := Int.mul_ediv_self_le (by omega)
      omega
    have hm3 : cs.length * (1 + r7).toNat ≤ 400 := by
      have h1 : ((cs.length * (1 + r7).toNat : Nat) : Int) = cs.length * (1 + r7) := by rw [Int.natCast_mul, Int.toNat_of_nonneg (by omega)]
      omega
    have hl3 : 0 < cs.length * (1 + r7).toNat := Nat.mul_pos (by omega) (by omega)
    refine ⟨⟨by omega, by omega, by omega⟩, ev_draw hp7 (by omega) (by decide) (by decide) fun r8 p8 r80 r81 hp8 => ?_⟩
    have fl : ((List.replicate (1 + r7).toNat cs).flatten).length = cs.length * (1 + r7).toNat := by rw [flat_len, Nat.mul_comm]
    have lt := hcs.rep (1 + r7).toNat
    generalize (List.replicate (1 + r7).toNat cs).flatten = w at fl lt
    simp_arith [dEq_i, S_len]
    by_cases h8 : r8 = 0
    · rw [if_pos h8]
      refine ⟨by omega, ev_draw hp8 (by omega) (by omega) (by omega) fun r9 p9 r90 r91 hp9 => ?_⟩
      simp_arith [S_len, S_app, lit_b, cut_take _ r90, cut_drop _ (show 0 ≤ r9 + 1 by omega)]
      have t1 : (w.take r9.toNat).length = r9.toNat := by rw [List.length_take]; omega
      have t2 : (w.drop (r9 + 1).toNat).length = w.length - (r9 + 1).toNat := by simp
      refine ⟨by omega, by omega, by omega, by rw [List.length_append, t1, t2]; simp; omega, ?_⟩
      refine k _ _ (((lt.take _).app (by unfold Ltr; decide)).app (lt.drop _)) ?_ ?_ (hp9.mono (by omega))
      · rw [List.length_append, List.length_append, t1, t2]; simp; omega
      · rw [List.length_append, List.length_append, t1, t2]; simp; omega
    · rw [if_neg h8]
      exact k _ _ lt (by omega) (by omega) (hp8.mono (by omega))
theorem rt_test {l : List Nat} (s : Nat) : Rt l s ↔ 0 < s ∧ l.length % s = 0 ∧ (List.replicate (l.length / s) (l.take s)).flatten = l := Iff.rfl
theorem int_mod (a b : Nat) : ((a : Int) % (b : Int) = 0) ↔ a % b = 0 := by
  rw [← Int.natCast_emod]; omega
theorem int_div (a b : Nat) : ((a : Int) / (b : Int)).toNat = a / b := by
  rw [← Int.natCast_ediv]; rfl
theorem int_pos (a b : Nat) : (0 < (a : Int) % (b : Int)) ↔ 0 < a % b := by
  rw [← Int.natCast_emod]; omega
theorem int_add1 (a : Nat) : (a : Int) + 1 = ((a + 1 : Nat) : Int) := by omega
theorem rep_fit (l : List Nat) (y : Nat) (h : l.length ≤ 10000) : ((l.length : Int) / (y : Int) < 10000000 ∧ -10000000 < (l.length : Int) / (y : Int)) ∧ (l.take y).length * (l.length / y) ≤ 10000000 := by
  have h1 : l.length / y ≤ l.length := Nat.div_le_self _ _
  have h2 : (l.take y).length * (l.length / y) ≤ y * (l.length / y) := Nat.mul_le_mul_right _ (by rw [List.length_take]; exact Nat.min_le_left _ _)
  have h3 : y * (l.length / y) ≤ l.length := Nat.mul_div_le _ _
  rw [← Int.natCast_ediv]
  generalize l.length / y = q at h1 h2 h3 ⊢
  refine ⟨⟨?_, ?_⟩, by omega⟩ <;> omega
theorem ev_law_root {l : List Nat} {d : Nat} {Q : Rv × Env → Prop} (hd : Mn l d) (hl : 0 < l.length) (hm : l.length ≤ 10000) (k : Q (.val (.str (S (l.take d))), [.fz (.str (S l))])) : Ev (M_law_root [.fz (.str (S l))]) Q := by
  refine Ev_defI ⟨rfl, rfl⟩ ?_
  unfold B_law_root
  simp_arith [S_len, rngOf2]
  have h1 : rng62 1 = true := by decide
  have h2 : rng62 ((l.length : Int) + 1) = true := by unfold rng62; simp; omega
  rw [show ((l.length : Int) + 1 - 1).toNat = l.length by omega]
  refine ⟨by omega, ⟨h1, h2⟩, ?_⟩
  refine ev_forR (fun x env => 1 ≤ x ∧ x ≤ d ∧ ∃ s, freeK (some s) = true ∧ env = [.fz (.str (S l)), s]) ((l.length : Int) + 1) ?_ ?_ _ _ _ (by omega) ⟨by omega, by have := hd.pos; omega, .no, rfl, rfl⟩
  · rintro x env hx ⟨hx1, hx2, s, hs, rfl⟩
    obtain ⟨y, rfl⟩ : ∃ y : Nat, x = y := ⟨x.toNat, by omega⟩
    simp_arith [S_len, hs, dEq_i, dEq_s, cut_take _ (show (0 : Int) ≤ y by omega), S_rep, Int.toNat_natCast, int_mod, int_div]
    have hd0 := hd.le hl
    have hy : 0 < y := by omega
    obtain ⟨⟨c1, c3⟩, c2⟩ := rep_fit l y hm
    refine ⟨by omega, by omega, ?_⟩
    have next : ¬ Rt l y → 1 ≤ (y : Int) + 1 ∧ (y : Int) + 1 ≤ d ∧ ∃ s, freeK (some s) = true ∧ [Sl.fz (PyData.str (S l)), Sl.fz (PyData.int y)] = [Sl.fz (PyData.str (S l)), s] := fun hn => by
      refine ⟨by omega, ?_, _, rfl, rfl⟩
      rcases Nat.lt_or_ge y d with q | q
      · omega
      · exfalso; exact hn (by rw [show y = d by omega]; exact hd.1)
    by_cases e1 : l.length % y = 0
    · rw [if_pos e1]
      refine ⟨by omega, by omega, ⟨by omega, log_nat (by omega)⟩, ⟨c1, c3, c2⟩, ?_⟩
      by_cases e2 : (List.replicate (l.length / y) (l.take y)).flatten = l
      · rw [if_pos e2]
        have := hd.2 y ⟨hy, e1, e2⟩
        have : y = d := by omega
        subst this
        exact ⟨by omega, k⟩
      · rw [if_neg e2]
        exact next fun h => e2 h.2.2
    · rw [if_neg e1]
      exact next fun h => e1 h.2.1
  · rintro env ⟨hx1, hx2, _⟩
    have := hd.le hl
    omega
theorem ev_root_of {l : List Nat} {d : Nat} {Q : Rv × Env → Prop} (hd : Mn l d) (hl : 0 < l.length) (hm : l.length ≤ 10000) (k : Q (.val (.str (S (l.take d))), [.fz (.str (S l))])) : Ev (M_root_of [.fz (.str (S l))]) Q := by
  refine Ev_defI ⟨rfl, rfl⟩ ?_
  unfold B_root_of
  simp_arith [S_len]
  have hd0 := hd.le hl
  refine ev_while (fun n env => ∃ y : Nat, 0 < y ∧ y + n = d ∧ env = [.fz (.str (S l)), .fz (.int y)]) ?_ (d - 1) _ ⟨1, by omega, by have := hd.pos; omega, rfl⟩
  rintro n env ⟨y, hy, hn, rfl⟩
  simp_arith [S_len, dEq_i, dNe_s, cut_take _ (show (0 : Int) ≤ y by omega), S_rep, Int.toNat_natCast, int_mod, int_div, int_pos, int_add1]
  obtain ⟨⟨c1, c3⟩, c2⟩ := rep_fit l y hm
  refine ⟨by omega, by omega, ?_⟩
  have next : ¬ Rt l y → 0 < n ∧ ∃ z : Nat, 0 < z ∧ z + (n - 1) = d ∧ [Sl.fz (PyData.str (S l)), Sl.fz (PyData.int ((y + 1 : Nat) : Int))] = [Sl.fz (PyData.str (S l)), Sl.fz (PyData.int z)] := fun h => by
    have : 0 < n := by
      rcases Nat.eq_zero_or_pos n with q | q
      · exfalso; exact h (by rw [show y = d by omega]; exact hd.1)
      · exact q
    exact ⟨this, y + 1, by omega, by omega, rfl⟩
  by_cases e1 : 0 < l.length % y
  · rw [if_pos e1]
    exact next fun h => by have := h.2.1; omega
  · rw [if_neg e1]
    refine ⟨by omega, by omega, ⟨by omega, log_nat (by omega)⟩, ⟨c1, c3, c2⟩, ?_⟩
    by_cases e2 : (List.replicate (l.length / y) (l.take y)).flatten = l
    · rw [if_neg (not_not_intro e2)]
      have := hd.2 y ⟨hy, by omega, e2⟩
      have : y = d := by omega
      subst this
      exact ⟨by omega, k⟩
    · rw [if_pos e2]
      exact next fun h => e2 h.2.2
theorem dAll_true (n : Nat) : dAll [.list (List.replicate n (.bool true))] = some (.val (.bool true)) := by
  have : List.replicate n (PyData.bool true) = (List.replicate n true).map .bool := by simp
  show (asBools _).map _ = _
  rw [this, asBools_map]
  simp
theorem ev_is_row {l : List Nat} {Q : Rv × Env → Prop} (hl : Ltr l) (hm : l.length ≤ 10000) (k : Q (.val (.bool true), [.fz (.str (S l))])) : Ev (M_is_row [.fz (.str (S l))]) Q := by
  refine Ev_defI ⟨rfl, rfl⟩ ?_
  unfold B_is_row
  simp_arith [S_cps, S_sign]
  refine ev_lc_pure (fun _ => .bool true) (name_nx 1) (by simp; omega) ?_ ?_
  · intro d hd
    obtain ⟨c, hc, rfl⟩ := List.mem_map.mp hd
    obtain ⟨h1, h2⟩ := hl c hc
    simp_arith [lit_abc, dIn_S]
    simp [mem_abc h1 h2]
  · simp_arith [Ev_eq]
    have e : List.map (fun _ => PyData.bool true) (List.map (fun c => PyData.str (S [c])) l) = List.replicate l.length (.bool true) := by rw [List.map_map]; exact List.ext_getElem (by simp) (by intros; simp)
    rw [e, dAll_true]
    simp_arith [Ev_eq]
    exact k
theorem ev_check_text {l : List Nat} {Q : Rv × Env → Prop} (hl : Ltr l) (hm : l.length ≤ 10000) (k : Q (.val .none, [.fz (.str (S l))])) : Ev (M_check_text [.fz (.str (S l))]) Q := by
  refine Ev_defI ⟨rfl, rfl⟩ ?_
  unfold B_check_text
  simp_arith [Ev_eq]
  refine ev_is_row hl hm ?_
  simp_arith [Ev_eq]
  exact k
theorem ev_root {l : List Nat} {d : Nat} {Q : Rv × Env → Prop} (hl : Ltr l) (hd : Mn l d) (h0 : 0 < l.length) (hm : l.length ≤ 10000) (k : Q (.val (.tuple [.str (S (l.take d)), .int ((l.length : Int) / (d : Int))]), [.fz (.str (S l))])) : Ev (M_root [.fz (.str (S l))]) Q := by
  refine Ev_defI ⟨rfl, rfl⟩ ?_
  unfold B_root
  have hne : ¬ l = [] := by intro z; rw [z] at h0; simp at h0
  simp_arith [lit_nil, dEq_s, hne]
  refine ev_check_text hl hm ?_
  simp_arith [S_len]
  refine ev_root_of hd h0 hm ?_
  simp_arith [S_len]
  refine ⟨by omega, ev_root_of hd h0 hm ?_⟩
  have hlen : (l.take d).length = d := by rw [List.length_take]; exact Nat.min_eq_left (hd.le h0)
  simp_arith [S_len, hlen]
  have := hd.le h0
  exact ⟨by omega, ⟨by have := hd.pos; omega, log_nat (by omega)⟩, k⟩
def pairD (l : List Nat) (n : Nat) : D := .tuple [.str (S l), .int n]
theorem ev_right_k36 {p : D} {n : Nat} {Q : Rv × Env → Prop} (hp : Pl n p) (hn : n < 2 ^ 58) (k : ∀ p', Pl (n + 510) p' → Q (.val (.bool true), [.ow .pn p'])) : Ev (M_law_right_k36 [.ow .pn p]) Q := by
  refine Ev_defI ⟨rfl, rfl⟩ ?_
  unfold B_law_right_k36
  simp_arith [Ev_eq]
  refine ev_draw hp (by omega) (by decide) (by decide) fun r1 p1 r10 r11 hp1 => ?_
  simp_arith [Ev_eq]
  refine ev_at r10 (by simpa using r11) fun d hd => ?_
  have hs : ∃ z : Int, d = .int z ∧ 20 ≤ z ∧ z ≤ 400 := by
    simp only [List.mem_cons, List.not_mem_nil, or_false] at hd
    rcases hd with e | e
    · exact ⟨_, e, by omega, by omega⟩
    · exact ⟨_, e, by omega, by omega⟩
  obtain ⟨z, rfl, hz0, hz1⟩ := hs
  simp_arith [Ev_eq]
  refine ev_line_k36 hp1 (by omega) hz0 hz1 fun l p2 hl hl0 hl1 hp2 => ?_
  obtain ⟨s, hs⟩ := mn_ex hl0
  have hsl := hs.le hl0
  have hs0 := hs.pos
  have hlen : (l.take s).length = s := by rw [List.length_take]; exact Nat.min_eq_left hsl
  simp_arith [Ev_eq]
  refine ev_law_root hs hl0 (by omega) ?_
  simp_arith [S_len, hlen]
  refine ⟨by omega, by omega, ⟨by omega, log_nat (by omega)⟩, ev_root hl hs hl0 (by omega) ?_⟩
  simp_arith [pick]
  refine ev_root hl hs hl0 (by omega) ?_
  simp_arith [S_len, hlen]
  have q0 : 1 ≤ (l.length : Int) / (s : Int) := Int.le_ediv_of_mul_le (by omega) (by omega)
  have q1 : (l.length : Int) / (s : Int) ≤ l.length := Int.ediv_le_self _ (by omega)
  have shs : ∀ (x : List Nat) (i : Int), Ltr x → x.length ≤ 400 → 0 ≤ i → i ≤ 400 → Sh (.tuple [.str (S x), .int i]) 1 443 := fun x i hx hl h0 h1 =>
    (Sh.tuple (k := 0) (.cons (Sh.str hx.ok) (.cons (Sh.int (by omega)) .nil))).mono (by omega) (by omega)
  have sh1 := shs _ _ (hl.take s) (by rw [hlen]; omega) (by omega) (Int.le_trans q1 (by omega))
  have okp := (Sh.list (.cons sh1 (.cons sh1 .nil))).okR (by omega) (by omega)
  have h400 : 1 ≤ (400 : Int) / (s : Int) := Int.le_ediv_of_mul_le (by omega) (by omega)
  have h401 : (400 : Int) / (s : Int) ≤ 400 := Int.ediv_le_self _ (by omega)
  have hmx : (if (400 : Int) / (s : Int) > 1 then (400 : Int) / (s : Int) else 1) = (400 : Int) / (s : Int) := by split <;> omega
  simp_arith [okp, S_len, hlen, hmx]
  refine ⟨by omega, ⟨by omega, log_nat (by omega)⟩, ev_draw hp2 (by omega) (by omega) (by omega) fun r2 p3 r20 r21 hp3 => ?_⟩
  have hm2 : (s : Int) * (1 + r2) ≤ 400 := by
    have h1 : (s : Int) * (1 + r2) ≤ s * (400 / s) := Int.mul_le_mul_of_nonneg_left (by omega) (by omega)
    have h2 : (s : Int) * (400 / s) ≤ 400 := Int.mul_ediv_self_le (by omega)
    omega
  have hm3 : s * (1 + r2).toNat ≤ 400 := by
    have h1 : ((s * (1 + r2).toNat : Nat) : Int) = s * (1 + r2) := by rw [Int.natCast_mul, Int.toNat_of_nonneg (by omega)]
    omega
  have hm4 : 0 < (1 + r2).toNat := by omega
  have hr := hs.rep hl0 hm4
  have hrl : ((List.replicate (1 + r2).toNat (l.take s)).flatten).length = (1 + r2).toNat * s := by rw [flat_len, hlen]
  have hr0 : 0 < (1 + r2).toNat * s := Nat.mul_pos hm4 hs0
  have hr1 : (1 + r2).toNat * s ≤ 400 := by rw [Nat.mul_comm]; exact hm3
  have hrt : ((List.replicate (1 + r2).toNat (l.take s)).flatten).take s = l.take s := by
    obtain ⟨z, hz⟩ : ∃ z, (1 + r2).toNat = z + 1 := ⟨(1 + r2).toNat - 1, by omega⟩
    rw [hz, List.replicate_succ, List.flatten_cons, List.take_append_of_le_length (by omega), List.take_of_length_le (by omega)]
  have hrd : (((1 + r2).toNat * s : Nat) : Int) / (s : Int) = 1 + r2 := by rw [Int.natCast_mul, Int.mul_ediv_cancel _ (by omega)]; omega
  simp_arith [S_len, S_rep, hlen]
  refine ⟨⟨by omega, by omega, by omega⟩, ev_root ((hl.take s).rep _) hr (by omega) (by omega) ?_⟩
  have sh2 := shs _ (1 + r2) (hl.take s) (by rw [hlen]; omega) (by omega) (by omega)
  simp_arith [hrt, hrl, hrd, dNe_same sh2 (by decide)]
  have hself : Mn (l.take s) s := by
    have := hs.rep hl0 (show 0 < 1 by omega)
    simpa using this
  refine ev_root (hl.take s) hself (by omega) (by omega) ?_
  have sh3 := shs _ 1 (hl.take s) (by rw [hlen]; omega) (by omega) (by omega)
  have hss : (s : Int) / (s : Int) = 1 := Int.ediv_self (by omega)
  simp_arith [hlen, List.take_take, Nat.min_self, hss, dNe_same sh3 (by decide), S_len]
  refine ⟨by omega, ev_draw hp3 (by omega) (by omega) (by omega) fun r3 p4 r30 r31 hp4 => ?_⟩
  have hrot := hs.rot hl0 (c := r3.toNat) (by omega)
  have hrotl : (l.drop r3.toNat ++ l.take r3.toNat).length = l.length := by simp; omega
  have hrott := hs.rot_take hl0 (c := r3.toNat) (by omega)
  simp_arith [S_len, S_app, cut_take _ r30, cut_drop _ r30]
  refine ⟨by omega, by omega, by rw [List.length_drop, List.length_take]; omega, ev_root ((hl.drop _).app (hl.take _)) hrot (by omega) (by omega) ?_⟩
  have rm0 : 0 ≤ r3 % (s : Int) := Int.emod_nonneg _ (by omega)
  have rm1 : r3 % (s : Int) < s := Int.emod_lt_of_pos _ (by omega)
  have rm2 : (r3 % (s : Int)).toNat = r3.toNat % s := by
    have e : r3 = (r3.toNat : Int) := by omega
    have : (r3.toNat : Int) % (s : Int) = ((r3.toNat % s : Nat) : Int) := by rw [Int.natCast_emod]
    rw [← e] at this
    omega
  simp_arith [S_len, S_app, hlen, hrotl, hrott, cut_take _ rm0, cut_drop _ rm0, rm2]
  have hrl2 : (l.drop r3.toNat ++ l.take r3.toNat).take s = (l.take s).drop (r3.toNat % s) ++ (l.take s).take (r3.toNat % s) := hrott
  have rl3 : ((l.take s).drop (r3.toNat % s)).length + ((l.take s).take (r3.toNat % s)).length ≤ 400 := by
    rw [← List.length_append, ← hrl2, List.length_take, hrotl]; omega
  have lt3 : Ltr ((l.take s).drop (r3.toNat % s) ++ (l.take s).take (r3.toNat % s)) := ((hl.take _).drop _).app ((hl.take _).take _)
  have sh4 := shs _ ((l.length : Int) / s) lt3 (by rw [List.length_append]; exact rl3) (by omega) (by omega)
  refine ⟨by omega, by omega, by omega, by omega, by omega, ?_⟩
  simp_arith [dEq_same sh4 (by decide), S_len, S_rev]
  refine ⟨by omega, ev_root hl.rev (hs.rev hl0) (by simpa using hl0) (by simp; omega) ?_⟩
  have hrev := hs.rev_take hl0
  have sh5 := shs _ ((l.length : Int) / s) (hl.take s).rev (by simp; omega) (by omega) (by omega)
  simp_arith [hrev, List.length_reverse, S_len, S_rev, hlen, dEq_same sh5 (by decide)]
  exact ⟨by omega, k _ (hp4.mono (by omega))⟩
theorem plain_k36 : Holds M_law_k36 63 := by
  intro ns hn
  have go : Ev (M_law_k36 [.fz (roD (ns.map .int))]) (fun y => y.1 = .val (.bool true)) := by
    refine Ev_defI ⟨rfl, rfl⟩ ?_
    unfold B_law_k36
    simp_arith [roD, rngOf1, List.length_map]
    have hv : ∃ v : Int, (if (if (ns.length : Int) < 5 then (ns.length : Int) else 5) > 1 then if (ns.length : Int) < 5 then (ns.length : Int) else 5 else 1) = v ∧ 1 ≤ v ∧ v ≤ 5 := ⟨_, rfl, by split <;> omega, by split <;> (try split) <;> omega⟩
    obtain ⟨v, ev, hv1, hv2⟩ := hv
    rw [ev]
    refine ⟨by unfold rng62; simp; omega, ?_⟩
    refine ev_forR (fun x env => 0 ≤ x ∧ ∃ s1 s2 s3, freeK (some s1) = true ∧ freeK (some s2) = true ∧ freeK (some s3) = true ∧ env = [Sl.fz (roD (ns.map .int)), s1, s2, s3]) v ?_ ?_ _ _ _ (by omega) ⟨by omega, _, _, _, rfl, rfl, rfl, rfl⟩
    · rintro x env hx ⟨hx0, s1, s2, s3, f1, f2, f3, rfl⟩
      simp_arith [f1, f2, f3]
      refine ev_pool hx0 (by omega) fun p hp => ?_
      simp_arith [f1, f2, f3]
      refine ⟨rfl, ?_⟩
      refine ev_forR (fun y env => 0 ≤ y ∧ ∃ p s3, freeK (some s3) = true ∧ Pl (510 * y.toNat) p ∧ env = [Sl.fz (roD (ns.map .int)), Sl.fz (.int x), Sl.ow .fr p, s3]) 10 ?_ ?_ _ _ _ (by decide) ⟨by omega, p, s3, f3, hp, rfl⟩
      · rintro y env hy ⟨hy0, p, s3, f3, hp, rfl⟩
        simp_arith [f3]
        refine ev_right_k36 hp (by omega) fun p' hp' => ?_
        simp_arith [f3]
        exact ⟨by omega, p', _, rfl, hp'.mono (by omega), rfl⟩
      · rintro env ⟨hy0, p, s3, f3, hp, rfl⟩
        simp_arith [f3]
        exact ⟨by omega, _, _, _, rfl, rfl, f3, rfl⟩
    · rintro env ⟨hx0, s1, s2, s3, f1, f2, f3, rfl⟩
      simp_arith [Ev_eq]
  obtain ⟨⟨r, e⟩, h1, h2⟩ := go.ok
  exact ⟨e, by rw [h1]; exact congrArg (fun z => Res.ok (z, e)) h2⟩
end DL
namespace DL
open PySem PySem.Spec L2
local macro_rules
  | `(tactic| simp_arith [$xs,*]) => `(tactic| simp only [$xs,*, ↓Ev_eq, ↓iV_ok, ↓iV_bind, ↓iV_stuck, ↓iV_ite, ↓iV_bindN, ↓iV_some, ↓iV_none, ↓iV_oifG, ↓iV_gif, ↓iv_c, ↓iv_bin, ↓iv_un, ↓iv_test, ↓iv_and, ↓iv_or, ↓iv_not, ↓iv_val, ↓iv_if, ↓iv_yes, ↓iv_ds_nil, ↓iv_ds_cons, ↓iv_rs_nil, ↓iv_rs_cons, ↓iv_list, ↓iv_tup, ↓iv_callB, ↓iv_part, ↓iv_nopart, ↓iv_sl, ↓iv_meth, ↓iv_repr, ↓iv_rne, ↓iv_req, ↓iv_chain, ↓iv_pass, ↓iv_break, ↓iv_cont, ↓iv_never, ↓iv_seq, ↓iv_ret, ↓iv_retN, ↓iv_ifS, ↓iv_drop, ↓iv_asg, ↓iv_name_val, ↓iv_name_new, ↓iv_name_sl, ↓iv_tupG, ↓iv_asg_nil, ↓iv_asg_cons, ↓iv_setIx, ↓iv_append, ↓iv_aug, ↓iv_as_nil, ↓iv_as_t, ↓iv_as_f, ↓iv_as_l, ↓iv_callF, ↓iv_callK, ↓iv_range, ↓iv_iter, ↓iv_for, ↓iv_lc, ↓iv_par, ↓iv_hs_nil, ↓iv_hs_cons, ↓iv_listS, ↓iv_ss_nil, ↓iv_ss_one, ↓iv_ss_star, ↓iv_enum, ↓iv_make, ↓iv_prop, ↓iv_fldS, ↓iv_pop, ↓iv_popAt, ↓iv_extend, ↓iv_augIx, iV_ok, iV_bind, iV_stuck, iV_ite, iV_bindN, iV_some, iV_none, iV_oifG, iV_gif, iv_c, iv_bin, iv_un, iv_test, iv_and, iv_or, iv_not, iv_val, iv_if, iv_yes, iv_ds_nil, iv_ds_cons, iv_rs_nil, iv_rs_cons, iv_list, iv_tup, iv_callB, iv_part, iv_nopart, iv_sl, iv_meth, iv_repr, iv_rne, iv_req, iv_chain, iv_pass, iv_break, iv_cont, iv_never, iv_seq, iv_ret, iv_retN, iv_ifS, iv_drop, iv_asg, iv_name_val, iv_name_new, iv_name_sl, iv_tupG, iv_asg_nil, iv_asg_cons, iv_setIx, iv_append, iv_aug, iv_as_nil, iv_as_t, iv_as_f, iv_as_l, iv_callF, iv_callK, iv_range, iv_iter, iv_for, iv_lc, iv_par, iv_hs_nil, iv_hs_cons, iv_listS, iv_ss_nil, iv_ss_one, iv_ss_star, iv_enum, iv_make, iv_prop, iv_fldS, iv_pop, iv_popAt, iv_extend, iv_augIx, seqK_nx, seqK_bk, seqK_ct, seqK_rt, tupK_tup, asgK_nx, setN_some, setK_some, appK_some, augS_some, augK_fz, asK_sl, asL_sl, asL_val, backK_val, backK_new, callA_some, backN_val, backN_new, rngK_some, optR_some, optR_if, itK_some, chK_b, turnQ_nx, turnQ_ct, turnQ_bk, turnQ_rt, varK_fz, varK_ow, mVar_eq, mC_eq, data_val, data_new, datK_fz, datK_ow, data_sl, frz_val, frz_new, frzK_fz, frzK_ow, frz_sl, freeK_no, freeK_fz, freeK_ow, free_eq, ownL_eq, ownK_fr, ownK_pn, datas_nil, consD_ok, datas_cons', asB_b, asI_i, argSl_d, argSl_s, argSl_l, argL_fz, argL_ow, argK_fz, argK_fr, argK_pn, consO_some, mkArgs_nil, mkArgs_cons, slotsOf_nil, slotsOf_d, slotsOf_s, slotsOf_l, noDup_nil, noDup_one, noDup_two, putK_ow, putK_fz, putBack_nil, putBack_d, putBack_s, putBack_l, outEnv_nil, outEnv_fz, outEnv_ow, finR_val, finR_new, finR_sl, finK_fz, finK_ow, finQ_nx, finQ_rt, lockR_val, lockR_new, lockR_sl, lokK_fz, lokK_fr, lokK_lk, lockB_none, lockB_some, lokB_no, lokB_fz, lokB_fr, unlock_none, unlock_some, unlK_lk, optR_map_some, optR_map_if, wipeE_nil, wipeE_cons, backE_nil, backE_cons, plainAt_eq, plaK_no, plaK_fz, tgm_nm, tgm_tp, tgms_nil, tgms_cons, dLt_i, dLe_i, dGt_i, dGe_i, dLt_s, dLe_s, dGt_s, dGe_s, okD_int, okD_str, okD_bool, okD_none, dMax2_i, dMin2_i, atD3_0, atD3_1, atD3_2, ixN3_0, ixN3_1, ixN3_2, dAdd, dSub, dDiv, dMod, dPow, dMul, dNeg, dAbs, dInt, dLen, dIs, dIsNot, dIAdd, isNon, dIx, dSl, dRev, itemsD, List.getElem?_cons_zero, List.getElem?_cons_succ, List.getElem?_nil, List.set_cons_zero, List.set_cons_succ, List.set_nil, List.map_cons, List.map_nil, List.length_cons, List.length_nil, List.getD_cons_zero, List.getD_cons_succ, List.all_cons, List.all_nil, List.cons_append, List.nil_append, Option.isSome_some, Option.map_some, Option.map_none, true_and, and_true, Bool.and_true, Bool.true_and, Bool.not_true, Bool.not_false, if_true, if_false, ite_true, ite_false, decide_eq_true_eq, Bool.not_eq_true, Bool.not_eq_true', decide_eq_false_iff_not, not_true, not_false_iff, rngOf1, rngOf2, seqR_some, enumR_some, mkK_ok, prK_val, prK_new, fldR_some, fldS_fr, fldS_pn, popK_some, popR_some, popAK_some, popAR_some, extK_some, augM_some, augN_int, augJ_some, augI_int, seqD, hold_val, hold_new, hold_sl, slOf_val, slOf_new, storeHs_nil, storeHs_cons, isStrD_s, atD2_0, atD2_1, atD1_0, ite_and, and_false, false_and, or_false, false_or, or_true, true_or, reduceIte, reduceCtorEq, List.reduceReplicate, Nat.reduceSub, Nat.reduceAdd, Nat.reduceLeDiff, Int.reduceLT, Int.reduceLE, Int.reduceEq, Int.reduceMod, Int.reduceDiv, Int.reduceMul, Int.reduceAdd, Int.reduceSub, Int.reduceNeg, Int.reduceToNat, Bool.false_eq_true, lineM])
/-- what a round of a law is to do: True, from any pool, with at most c draws -/
def Round (c : Nat) (M : FM) : Prop := ∀ (p : D) (n : Nat) (Q : Rv × Env → Prop), Pl n p → n < 2 ^ 40 → (∀ p', Pl (n + c) p' → Q (.val (.bool true), [.ow .pn p'])) → Ev (M [.ow .pn p]) Q
theorem holds_of {M : FM} (go : ∀ ns : List Int, Ev (M [.fz (roD (ns.map .int))]) (fun y => y.1 = .val (.bool true))) : Holds M 63 := by
  intro ns hn
  obtain ⟨⟨r, e⟩, h1, h2⟩ := (go ns).ok
  exact ⟨e, by rw [h1]; exact congrArg (fun z => Res.ok (z, e)) h2⟩
theorem max_rng (ns : List Int) (K : Int) (hK : 1 ≤ K) : ∃ v : Int, (if (if (ns.length : Int) < K then (ns.length : Int) else K) > 1 then if (ns.length : Int) < K then (ns.length : Int) else K else 1) = v ∧ 1 ≤ v ∧ v ≤ K :=
  ⟨_, rfl, by split <;> omega, by split <;> (try split) <;> omega⟩
theorem frameN {M : FM} {c : Nat} {K N : Int} (hM : Round c M) (hc : c ≤ 1000000) (hK : 1 ≤ K) (hK2 : K ≤ 900) (hN : 0 ≤ N) (hN2 : N ≤ 10000) :
    Holds (mDef 1 4 (mSeq (mFor (mRange rngOf1 [mCallB dMax2 [mC (.int 1), mCallB dMin2 [mC (.int K), mCallB dLen [mVar 0]]]]) (mName 1) (mSeq (mAsg (mCallF M_law_pool [.l, .c] [mVar 0, mVar 1]) (mName 2))
      (mFor (mRange rngOf1 [mC (.int N)]) (mName 3) (mIfS (mNot (mTest (mCallF M [.p] [mVar 2]))) (mRet (mC (.bool false))) mPass)))) (mRet (mC (.bool true))))) 63 := by
  refine holds_of fun ns => Ev_defI ⟨rfl, rfl⟩ ?_
  simp_arith [roD, rngOf1, List.length_map]
  obtain ⟨v, ev, hv1, hv2⟩ := max_rng ns K hK
  rw [ev]
  refine ⟨by unfold rng62; simp; omega, ?_⟩
  refine ev_forR (fun x env => 0 ≤ x ∧ ∃ s1 s2 s3, freeK (some s1) = true ∧ freeK (some s2) = true ∧ freeK (some s3) = true ∧ env = [Sl.fz (roD (ns.map .int)), s1, s2, s3]) v ?_ ?_ _ _ _ (by omega) ⟨by omega, _, _, _, rfl, rfl, rfl, rfl⟩
  · rintro x env hx ⟨hx0, s1, s2, s3, f1, f2, f3, rfl⟩
    simp_arith [f1, f2, f3]
    refine ev_pool hx0 (by omega) fun p hp => ?_
    simp_arith [f1, f2, f3]
    refine ⟨by unfold rng62; simp; omega, ?_⟩
    refine ev_forR (fun y env => 0 ≤ y ∧ ∃ p s3, freeK (some s3) = true ∧ Pl (c * y.toNat) p ∧ env = [Sl.fz (roD (ns.map .int)), Sl.fz (.int x), Sl.ow .fr p, s3]) N ?_ ?_ _ _ _ (by omega) ⟨by omega, p, s3, f3, hp.mono (by omega), rfl⟩
    · rintro y env hy ⟨hy0, p, s3, f3, hp, rfl⟩
      simp_arith [f3]
      have hb : c * y.toNat ≤ 1000000 * 10000 := Nat.mul_le_mul hc (by omega)
      refine hM _ _ _ hp (by omega) fun p' hp' => ?_
      simp_arith [f3]
      exact ⟨by omega, p', _, rfl, hp'.mono (by rw [show (y + 1).toNat = y.toNat + 1 by omega, Nat.mul_succ]; omega), rfl⟩
    · rintro env ⟨hy0, p, s3, f3, hp, rfl⟩
      simp_arith [f3]
      exact ⟨by omega, _, _, _, rfl, rfl, f3, rfl⟩
  · rintro env ⟨hx0, s1, s2, s3, f1, f2, f3, rfl⟩
    simp_arith [Ev_eq]
theorem frame1 {M : FM} {c : Nat} {K : Int} (hM : Round c M) (hK : 1 ≤ K) (hK2 : K ≤ 900) :
    Holds (mDef 1 3 (mSeq (mFor (mRange rngOf1 [mCallB dMax2 [mC (.int 1), mCallB dMin2 [mC (.int K), mCallB dLen [mVar 0]]]]) (mName 1) (mSeq (mAsg (mCallF M_law_pool [.l, .c] [mVar 0, mVar 1]) (mName 2))
      (mIfS (mNot (mTest (mCallF M [.p] [mVar 2]))) (mRet (mC (.bool false))) mPass))) (mRet (mC (.bool true))))) 63 := by
  refine holds_of fun ns => Ev_defI ⟨rfl, rfl⟩ ?_
  simp_arith [roD, rngOf1, List.length_map]
  obtain ⟨v, ev, hv1, hv2⟩ := max_rng ns K hK
  rw [ev]
  refine ⟨by unfold rng62; simp; omega, ?_⟩
  refine ev_forR (fun x env => 0 ≤ x ∧ ∃ s1 s2, freeK (some s1) = true ∧ freeK (some s2) = true ∧ env = [Sl.fz (roD (ns.map .int)), s1, s2]) v ?_ ?_ _ _ _ (by omega) ⟨by omega, _, _, rfl, rfl, rfl⟩
  · rintro x env hx ⟨hx0, s1, s2, f1, f2, rfl⟩
    simp_arith [f1, f2]
    refine ev_pool hx0 (by omega) fun p hp => ?_
    simp_arith [f1, f2]
    refine hM _ _ _ hp (by omega) fun p' hp' => ?_
    simp_arith [Ev_eq]
    exact ⟨by omega, _, _, rfl, rfl, rfl⟩
  · rintro env ⟨hx0, s1, s2, f1, f2, rfl⟩
    simp_arith [Ev_eq]
end DL
namespace DL
open PySem PySem.Spec L2
local macro_rules
  | `(tactic| simp_arith [$xs,*]) => `(tactic| simp only [$xs,*, ↓Ev_eq, ↓iV_ok, ↓iV_bind, ↓iV_stuck, ↓iV_ite, ↓iV_bindN, ↓iV_some, ↓iV_none, ↓iV_oifG, ↓iV_gif, ↓iv_c, ↓iv_bin, ↓iv_un, ↓iv_test, ↓iv_and, ↓iv_or, ↓iv_not, ↓iv_val, ↓iv_if, ↓iv_yes, ↓iv_ds_nil, ↓iv_ds_cons, ↓iv_rs_nil, ↓iv_rs_cons, ↓iv_list, ↓iv_tup, ↓iv_callB, ↓iv_part, ↓iv_nopart, ↓iv_sl, ↓iv_meth, ↓iv_repr, ↓iv_rne, ↓iv_req, ↓iv_chain, ↓iv_pass, ↓iv_break, ↓iv_cont, ↓iv_never, ↓iv_seq, ↓iv_ret, ↓iv_retN, ↓iv_ifS, ↓iv_drop, ↓iv_asg, ↓iv_name_val, ↓iv_name_new, ↓iv_name_sl, ↓iv_tupG, ↓iv_asg_nil, ↓iv_asg_cons, ↓iv_setIx, ↓iv_append, ↓iv_aug, ↓iv_as_nil, ↓iv_as_t, ↓iv_as_f, ↓iv_as_l, ↓iv_callF, ↓iv_callK, ↓iv_range, ↓iv_iter, ↓iv_for, ↓iv_lc, ↓iv_par, ↓iv_hs_nil, ↓iv_hs_cons, ↓iv_listS, ↓iv_ss_nil, ↓iv_ss_one, ↓iv_ss_star, ↓iv_enum, ↓iv_make, ↓iv_prop, ↓iv_fldS, ↓iv_pop, ↓iv_popAt, ↓iv_extend, ↓iv_augIx, iV_ok, iV_bind, iV_stuck, iV_ite, iV_bindN, iV_some, iV_none, iV_oifG, iV_gif, iv_c, iv_bin, iv_un, iv_test, iv_and, iv_or, iv_not, iv_val, iv_if, iv_yes, iv_ds_nil, iv_ds_cons, iv_rs_nil, iv_rs_cons, iv_list, iv_tup, iv_callB, iv_part, iv_nopart, iv_sl, iv_meth, iv_repr, iv_rne, iv_req, iv_chain, iv_pass, iv_break, iv_cont, iv_never, iv_seq, iv_ret, iv_retN, iv_ifS, iv_drop, iv_asg, iv_name_val, iv_name_new, iv_name_sl, iv_tupG, iv_asg_nil, iv_asg_cons, iv_setIx, iv_append, iv_aug, iv_as_nil, iv_as_t, iv_as_f, iv_as_l, iv_callF, iv_callK, iv_range, iv_iter, iv_for, iv_lc, iv_par, iv_hs_nil, iv_hs_cons, iv_listS, iv_ss_nil, iv_ss_one, iv_ss_star, iv_enum, iv_make, iv_prop, iv_fldS, iv_pop, iv_popAt, iv_extend, iv_augIx, seqK_nx, seqK_bk, seqK_ct, seqK_rt, tupK_tup, asgK_nx, setN_some, setK_some, appK_some, augS_some, augK_fz, asK_sl, asL_sl, asL_val, backK_val, backK_new, callA_some, backN_val, backN_new, rngK_some, optR_some, optR_if, itK_some, chK_b, turnQ_nx, turnQ_ct, turnQ_bk, turnQ_rt, varK_fz, varK_ow, mVar_eq, mC_eq, data_val, data_new, datK_fz, datK_ow, data_sl, frz_val, frz_new, frzK_fz, frzK_ow, frz_sl, freeK_no, freeK_fz, freeK_ow, free_eq, ownL_eq, ownK_fr, ownK_pn, datas_nil, consD_ok, datas_cons', asB_b, asI_i, argSl_d, argSl_s, argSl_l, argL_fz, argL_ow, argK_fz, argK_fr, argK_pn, consO_some, mkArgs_nil, mkArgs_cons, slotsOf_nil, slotsOf_d, slotsOf_s, slotsOf_l, noDup_nil, noDup_one, noDup_two, putK_ow, putK_fz, putBack_nil, putBack_d, putBack_s, putBack_l, outEnv_nil, outEnv_fz, outEnv_ow, finR_val, finR_new, finR_sl, finK_fz, finK_ow, finQ_nx, finQ_rt, lockR_val, lockR_new, lockR_sl, lokK_fz, lokK_fr, lokK_lk, lockB_none, lockB_some, lokB_no, lokB_fz, lokB_fr, unlock_none, unlock_some, unlK_lk, optR_map_some, optR_map_if, wipeE_nil, wipeE_cons, backE_nil, backE_cons, plainAt_eq, plaK_no, plaK_fz, tgm_nm, tgm_tp, tgms_nil, tgms_cons, dLt_i, dLe_i, dGt_i, dGe_i, dLt_s, dLe_s, dGt_s, dGe_s, okD_int, okD_str, okD_bool, okD_none, dMax2_i, dMin2_i, atD3_0, atD3_1, atD3_2, ixN3_0, ixN3_1, ixN3_2, dAdd, dSub, dDiv, dMod, dPow, dMul, dNeg, dAbs, dInt, dLen, dIs, dIsNot, dIAdd, isNon, dIx, dSl, dRev, itemsD, List.getElem?_cons_zero, List.getElem?_cons_succ, List.getElem?_nil, List.set_cons_zero, List.set_cons_succ, List.set_nil, List.map_cons, List.map_nil, List.length_cons, List.length_nil, List.getD_cons_zero, List.getD_cons_succ, List.all_cons, List.all_nil, List.cons_append, List.nil_append, Option.isSome_some, Option.map_some, Option.map_none, true_and, and_true, Bool.and_true, Bool.true_and, Bool.not_true, Bool.not_false, if_true, if_false, ite_true, ite_false, decide_eq_true_eq, Bool.not_eq_true, Bool.not_eq_true', decide_eq_false_iff_not, not_true, not_false_iff, rngOf1, rngOf2, seqR_some, enumR_some, mkK_ok, prK_val, prK_new, fldR_some, fldS_fr, fldS_pn, popK_some, popR_some, popAK_some, popAR_some, extK_some, augM_some, augN_int, augJ_some, augI_int, seqD, hold_val, hold_new, hold_sl, slOf_val, slOf_new, storeHs_nil, storeHs_cons, isStrD_s, atD2_0, atD2_1, atD1_0, ite_and, and_false, false_and, or_false, false_or, or_true, true_or, reduceIte, reduceCtorEq, List.reduceReplicate, Nat.reduceSub, Nat.reduceAdd, Nat.reduceLeDiff, Int.reduceLT, Int.reduceLE, Int.reduceEq, Int.reduceMod, Int.reduceDiv, Int.reduceMul, Int.reduceAdd, Int.reduceSub, Int.reduceNeg, Int.reduceToNat, Bool.false_eq_true, lineM])
theorem int_natToNat (n : Nat) : ((n : Int)).toNat = n := rfl
theorem ev_begun_pair {ls : List Wd} {Q : Rv × Env → Prop} (hl : ∀ w ∈ ls, w.length ≤ 1000) {s : Sl} (hs : s = .fz (.list (strsD ls)) ∨ s = .ow .lk (.list (strsD ls))) (kn : (∀ u v, ¬ Begun ls u v) → Q (.val .none, [s])) (ks : ∀ u v, Begun ls u v → Q (.val (.tuple [.str (S u), .str (S v)]), [s])) :
    Ev (M_begun_pair [s]) Q := by
  rcases hs with rfl | rfl
  all_goals
    refine Ev_defI ⟨rfl, rfl⟩ ?_
    unfold B_begun_pair
    simp_arith [Ev_eq]
    refine ev_forW ls (fun pre env => ∃ s1 s2, freeK (some s1) = true ∧ freeK (some s2) = true ∧ env = [_, s1, s2] ∧ ∀ u ∈ pre, ∀ v, ¬ Begun ls u v) ?_ ?_ _ ⟨_, _, rfl, rfl, rfl, by simp⟩
    · rintro pre u post env e ⟨s1, s2, f1, f2, rfl, hn⟩
      have hu : u ∈ ls := by rw [e]; simp
      have ul := hl u hu
      simp_arith [f1, f2]
      refine ev_forW ls (fun pre2 env => ∃ s2, freeK (some s2) = true ∧ env = [_, .fz (.str (S u)), s2] ∧ ∀ v ∈ pre2, ¬ Begun ls u v) ?_ ?_ _ ⟨_, f2, rfl, by simp⟩
      · rintro pre2 v post2 env e2 ⟨s2, f2, rfl, hn2⟩
        have hv : v ∈ ls := by rw [e2]; simp
        have vl := hl v hv
        simp_arith [f2, dNe_s, dEq_s, S_len, cut_take _ (Int.natCast_nonneg u.length), int_natToNat]
        have next : ¬ Begun ls u v → ∃ s2, freeK (some s2) = true ∧ [Sl.fz (PyData.str (S u)), Sl.fz (PyData.str (S v))] = [Sl.fz (PyData.str (S u)), s2] ∧ ∀ w, w ∈ pre2 ++ [v] → ¬ Begun ls u w := fun h => by
          refine ⟨_, rfl, rfl, fun w hw => ?_⟩
          rcases List.mem_append.mp hw with q | q
          · exact hn2 w q
          · rw [List.mem_singleton.mp q]; exact h
        by_cases e1 : u = v
        · rw [if_neg (not_not_intro e1)]
          obtain ⟨s2, a, b, c⟩ := next (fun h => h.ne e1)
          exact ⟨s2, a, congrArg (List.cons _) b, c⟩
        · rw [if_pos e1]
          refine ⟨by omega, by omega, ?_⟩
          by_cases e3 : v.take u.length = u
          · rw [if_pos e3]
            exact ks u v ⟨hu, hv, e1, e3⟩
          · rw [if_neg e3]
            obtain ⟨s2, a, b, c⟩ := next (fun h => e3 h.bg)
            exact ⟨s2, a, congrArg (List.cons _) b, c⟩
      · rintro env ⟨s2, f2, rfl, hn2⟩
        simp_arith [Ev_eq]
        refine ⟨_, _, rfl, f2, rfl, fun w hw => ?_⟩
        rcases List.mem_append.mp hw with h | h
        · exact hn w h
        · rw [List.mem_singleton.mp h]
          intro v hb
          exact hn2 v hb.hv hb
    · rintro env ⟨s1, s2, f1, f2, rfl, hn⟩
      simp_arith [Ev_eq]
      exact kn fun u v hb => hn u hb.hu v hb
/-- the words of a list, as it is sorted -/
theorem ev_apart {d0 : D} {ls : List Wd} {Q : Rv × Env → Prop} (L : Lot ls) (hd : dSorted [d0] = some (.new (.list (strsD (sortW ls))))) (k : ∀ fs, HullL ls fs → (szL fs < szL ls ∨ fs = sortW ls) → Q (.new (.list (strsD fs)), [.fz d0])) : Ev (M_apart_from_left [.fz d0]) Q := by
  refine Ev_defI ⟨rfl, rfl⟩ ?_
  unfold B_apart_from_left
  simp_arith [hd]
  have L0 := L.sort
  have main : ∀ (n : Nat) (env : Env), (∃ (cs : List Wd) (p : D) (s3 s4 : Sl), freeK (some s3) = true ∧ plaK (some s4) = true ∧ env = [.fz d0, .ow .fr (.list (strsD cs)), .fz p, s3, s4] ∧ Lot cs ∧ cs.Pairwise LeW ∧ (∀ w, Cl (memP ls) w ↔ Cl (memP cs) w) ∧ (szL cs < szL ls ∨ cs = sortW ls) ∧ szL cs ≤ n ∧ ((p = .none ∧ ∀ u v, ¬ Begun cs u v) ∨ ∃ u v, p = .tuple [.str (S u), .str (S v)] ∧ Begun cs u v)) →
      Ev (mWhile (mTest (mBin dIsNot (mVar 2) (mC PyData.none))) (mSeq (mAsg (mSl dSl (mBin dIx (mVar 2) (mC (PyData.int 1))) (mPart (mCallB dLen [mBin dIx (mVar 2) (mC (PyData.int 0))])) mNoPart) (mName 3))
        (mSeq (mAsg (mLc (mIter (mVar 1)) (mName 4) (mTest (mBin dNe (mVar 4) (mBin dIx (mVar 2) (mC (PyData.int 1))))) (mVar 4) [4]) (mName 1))
          (mSeq (mAsg (mCallB dSorted [mIf (mTest (mBin dIn (mVar 3) (mVar 1))) (mVar 1) (mListS [(true, mVar 1), (false, mVar 3)])]) (mName 1)) (mAsg (mCallF M_begun_pair [.l] [mVar 1]) (mName 2))))) env)
        (fun y => ∃ cs s2 s3 s4, y = (.nx, [.fz d0, .ow .fr (.list (strsD cs)), s2, s3, s4]) ∧ HullL ls cs ∧ (szL cs < szL ls ∨ cs = sortW ls)) := by
    refine ev_while _ ?_
    rintro n env ⟨cs, p, s3, s4, f3, f4, rfl, Lc, sc, cc, szs, sz, hp⟩
    rcases hp with ⟨rfl, hn⟩ | ⟨u, v, rfl, hb⟩
    · simp_arith [Ev_eq]
      exact ⟨cs, _, _, _, rfl, ⟨Lc, sc, pf_of hn, cc⟩, szs⟩
    · have ul := Lc.len u hb.hu
      have vl := Lc.len v hb.hv
      simp_arith [f3, f4, S_len, cut_drop _ (Int.natCast_nonneg u.length), int_natToNat]
      have sz0 := cut_sz Lc hb
      have Lk := cut_lot Lc hb
      have fl := List.length_filter_le (fun w => decide (w ≠ v)) cs
      have few := Lc.few
      refine ⟨by omega, by omega, by omega, ev_lc_words (fun w => decide (w ≠ v)) (by omega) (fun w hw => ?_) ?_⟩
      · simp_arith [dNe_s]
        by_cases e : w = v
        · simp [e]
        · simp [e]
      simp_arith [dIn_W]
      have fin : ∀ (gs : List Wd), gs = cutL cs u v → Ev (M_begun_pair [.ow .lk (.list (strsD (sortW gs)))]) fun z => (∃ p, z = (.val p, [.ow .lk (.list (strsD (sortW gs)))]) ∧ ((p = .none ∧ ∀ a b, ¬ Begun (sortW gs) a b) ∨ ∃ a b, p = .tuple [.str (S a), .str (S b)] ∧ Begun (sortW gs) a b)) := fun gs hg =>
        ev_begun_pair (fun w hw => by have := Lk.len w (hg ▸ sortW_mem.mp hw); omega) (.inr rfl) (fun hn => ⟨_, rfl, .inl ⟨rfl, hn⟩⟩) (fun a b h => ⟨_, rfl, .inr ⟨a, b, rfl, h⟩⟩)
      have back : ∀ (gs : List Wd), gs = cutL cs u v → ∀ (p : D) (s3 s4 : Sl), freeK (some s3) = true → plaK (some s4) = true → ((p = .none ∧ ∀ a b, ¬ Begun (sortW gs) a b) ∨ ∃ a b, p = .tuple [.str (S a), .str (S b)] ∧ Begun (sortW gs) a b) →
          ∃ (cs : List Wd) (p' : D) (s3' s4' : Sl), freeK (some s3') = true ∧ plaK (some s4') = true ∧ [Sl.fz d0, .ow .fr (.list (strsD (sortW gs))), .fz p, s3, s4] = [Sl.fz d0, .ow .fr (.list (strsD cs)), .fz p', s3', s4'] ∧ Lot cs ∧ cs.Pairwise LeW ∧ (∀ w, Cl (memP ls) w ↔ Cl (memP cs) w) ∧ (szL cs < szL ls ∨ cs = sortW ls) ∧ szL cs ≤ n - 1 ∧ ((p' = .none ∧ ∀ u v, ¬ Begun cs u v) ∨ ∃ u v, p' = .tuple [.str (S u), .str (S v)] ∧ Begun cs u v) := fun gs hg p s3 s4 g3 g4 hp => by
        subst hg
        refine ⟨sortW (cutL cs u v), p, s3, s4, g3, g4, rfl, Lk.sort, sortW_pw _, fun w => (cc w).trans ((cut_cl hb w).trans (cl_perm (fun x => sortW_mem.symm) w)), .inl ?_, ?_, hp⟩
        · rw [szL_perm (sortW_perm _)]
          have := szs.elim (fun z => Nat.le_of_lt z) (fun z => Nat.le_of_eq (by rw [z, szL_perm (sortW_perm _)]))
          omega
        · rw [szL_perm (sortW_perm _)]; omega
      by_cases hin : v.drop u.length ∈ cs.filter fun w => decide (w ≠ v)
      · rw [if_pos hin]
        have eg : cs.filter (fun w => decide (w ≠ v)) = cutL cs u v := by unfold cutL; dsimp only; rw [if_pos hin]
        simp_arith [dSorted_W]
        refine (fin _ eg).mono ?_
        rintro z ⟨p, rfl, hp⟩
        simp_arith [Ev_eq]
        exact back _ eg p _ _ rfl f4 hp
      · rw [if_neg hin]
        have eg : cs.filter (fun w => decide (w ≠ v)) ++ [v.drop u.length] = cutL cs u v := by unfold cutL; dsimp only; rw [if_neg hin]
        generalize cs.filter (fun w => decide (w ≠ v)) = lf at hin eg fl
        have l64 : (lf ++ [v.drop u.length]).length < 64 := by rw [List.length_append]; simp; omega
        simp_arith [strsD_snoc, strsD_len, dSorted_W]
        refine ⟨by omega, (fin _ eg).mono ?_⟩
        rintro z ⟨p, rfl, hp⟩
        simp_arith [Ev_eq]
        exact back _ eg p _ _ rfl f4 hp
  refine ev_begun_pair (fun w hw => by have := L0.len w hw; omega) (.inr rfl) (fun hn => ?_) (fun u v hb => ?_)
  all_goals
    simp_arith [Ev_eq]
    refine (main (szL (sortW ls)) _ ⟨sortW ls, _, _, _, rfl, rfl, rfl, L0, sortW_pw ls, cl_perm (fun x => sortW_mem.symm), .inr rfl, Nat.le_refl _, ?_⟩).mono ?_
    · first | exact .inl ⟨rfl, hn⟩ | exact .inr ⟨u, v, rfl, hb⟩
    · rintro y ⟨cs, s2, s3, s4, rfl, h, hs⟩
      simp_arith [Ev_eq]
      exact k cs h hs
/-- a Stock as data -/
def stockD (ls : List Wd) : D := insD "Stock" ["kept_words"] [.tuple (strsD ls)]
theorem fld_stock (ls : List Wd) : dFld "Stock" "kept_words" (stockD ls) = some (.val (.tuple (strsD ls))) := by
  unfold dFld stockD insD insGet
  simp [kvsGet]
theorem ev_left_hull {ls : List Wd} {Q : Rv × Env → Prop} (L : Lot ls) (k : ∀ fs, HullL ls fs → Q (.new (.list (strsD fs)), [.fz (stockD ls)])) : Ev (M_left_hull [.fz (stockD ls)]) Q := by
  refine Ev_defI ⟨rfl, rfl⟩ ?_
  unfold B_left_hull
  simp_arith [fld_stock]
  refine ev_apart L (dSorted_T ls) fun fs hf _ => ?_
  simp_arith [Ev_eq]
  exact k fs hf
/-! ### the law's own cuts -/
def pairsD (ps : List (Wd × Wd)) : List D := ps.map fun p => .tuple [.str (S p.1), .str (S p.2)]
def begOf (ls : List Wd) (u : Wd) : List (Wd × Wd) := (ls.filter fun v => decide (u ≠ v) && decide (v.take u.length = u)).map fun v => (u, v)
def begunL (ls : List Wd) : List (Wd × Wd) := ls.flatMap (begOf ls)
theorem begunL_mem {ls : List Wd} {u v : Wd} : (u, v) ∈ begunL ls ↔ Begun ls u v := by
  unfold begunL begOf
  simp only [List.mem_flatMap, List.mem_map, List.mem_filter, Bool.and_eq_true, decide_eq_true_eq, Prod.mk.injEq]
  constructor
  · rintro ⟨a, ha, b, ⟨hb, h1, h2⟩, rfl, rfl⟩
    exact ⟨ha, hb, h1, h2⟩
  · rintro ⟨h1, h2, h3, h4⟩
    exact ⟨u, h1, v, ⟨h2, h3, h4⟩, rfl, rfl⟩
theorem begOf_len (ls : List Wd) (u : Wd) : (begOf ls u).length ≤ ls.length := by
  unfold begOf
  rw [List.length_map]
  exact List.length_filter_le _ _
theorem flat_len_le {α β : Type} (f : α → List β) (k : Nat) (h : ∀ a, (f a).length ≤ k) : ∀ l : List α, (l.flatMap f).length ≤ l.length * k
  | [] => by simp
  | a :: l => by
    rw [List.flatMap_cons, List.length_append, List.length_cons, Nat.succ_mul]
    have := flat_len_le f k h l
    have := h a
    omega
theorem begunL_len (ls : List Wd) : (begunL ls).length ≤ ls.length * ls.length := flat_len_le _ _ (begOf_len ls) ls
theorem filterMap_beg (ls : List Wd) (u : Wd) : ∀ ms : List Wd, (strsD ms).filterMap (fun d => match d with
      | .str x => if (decide (u ≠ x.cps.toList) && decide (x.cps.toList.take u.length = u)) = true then some (PyData.tuple [.str (S u), d]) else none
      | _ => none) = pairsD ((ms.filter fun v => decide (u ≠ v) && decide (v.take u.length = u)).map fun v => (u, v))
  | [] => rfl
  | m :: ms => by
    rw [strsD_cons, List.filterMap_cons, List.filter_cons]
    dsimp only
    rw [S_cps]
    by_cases h : (decide (u ≠ m) && decide (m.take u.length = u)) = true
    · rw [if_pos h, if_pos h, filterMap_beg ls u ms]; rfl
    · rw [if_neg h, if_neg h, filterMap_beg ls u ms]
theorem ev_law_begun {ls : List Wd} {Q : Rv × Env → Prop} (hl : ∀ w ∈ ls, w.length ≤ 1000) (few : ls.length ≤ 1000) {s : Sl} (hs : s = .fz (.list (strsD ls)) ∨ s = .ow .lk (.list (strsD ls))) (k : Q (.new (.list (pairsD (begunL ls))), [s])) : Ev (M_law_begun [s]) Q := by
  rcases hs with rfl | rfl
  all_goals
    refine Ev_defI ⟨rfl, rfl⟩ ?_
    unfold B_law_begun
    simp_arith [Ev_eq]
    refine ev_forW ls (fun pre env => ∃ s2 s3, freeK (some s2) = true ∧ plaK (some s3) = true ∧ env = [_, .ow .fr (.list (pairsD (pre.flatMap (begOf ls)))), s2, s3]) ?_ ?_ _ ⟨_, _, rfl, rfl, rfl⟩
    · rintro pre u post env e ⟨s2, s3, f2, f3, rfl⟩
      have hu : u ∈ ls := by rw [e]; simp
      have ul := hl u hu
      simp_arith [f2, f3]
      refine ev_lc_fm (fun d => match d with
        | .str x => if (decide (u ≠ x.cps.toList) && decide (x.cps.toList.take u.length = u)) = true then some (PyData.tuple [.str (S u), d]) else none
        | _ => none) (name_nx 3) (by rw [strsD_len]; omega) (fun d hd => ?_) ?_
      · obtain ⟨v, hv, rfl⟩ := mem_strsD.mp hd
        have vl := hl v hv
        simp_arith [dNe_s, dEq_s, S_len, cut_take _ (Int.natCast_nonneg u.length), int_natToNat, S_cps]
        by_cases h1 : u = v
        · simp [h1]
        · by_cases h2 : v.take u.length = u
          · simp [h1, h2]; omega
          · simp [h1, h2]; omega
      · rw [filterMap_beg ls u ls]
        have fl : pairsD (pre.flatMap (begOf ls)) ++ pairsD (begOf ls u) = pairsD ((pre ++ [u]).flatMap (begOf ls)) := by
          unfold pairsD
          rw [← List.map_append, List.flatMap_append]
          simp
        have l1 := flat_len_le (begOf ls) ls.length (begOf_len ls) pre
        have l2 := begOf_len ls u
        have l3 : pre.length ≤ ls.length := by rw [e]; simp
        have l4 : pre.length * ls.length ≤ 1000 * 1000 := Nat.mul_le_mul (by omega) few
        have e2 : pairsD ((ls.filter fun v => decide (u ≠ v) && decide (v.take u.length = u)).map fun v => (u, v)) = pairsD (begOf ls u) := rfl
        rw [e2]
        simp_arith [fl]
        have l5 : (pairsD (pre.flatMap (begOf ls))).length = (pre.flatMap (begOf ls)).length := by simp [pairsD]
        have l6 : (pairsD (begOf ls u)).length = (begOf ls u).length := by simp [pairsD]
        exact ⟨by rw [l5, l6]; omega, _, _, rfl, f3, rfl⟩
    · rintro env ⟨s2, s3, f2, f3, rfl⟩
      simp_arith [Ev_eq]
      exact k
theorem ev_law_less {ls : List Wd} {u v : Wd} {Q : Rv × Env → Prop} (hl : ∀ w ∈ ls, w.length ≤ 1000) (few : ls.length ≤ 1000) (ul : u.length ≤ 1000) (vl : v.length ≤ 1000)
    (k : Q (.new (.list (strsD (sortW (cutL ls u v)))), [.fz (.list (strsD ls)), .fz (.str (S u)), .fz (.str (S v))])) : Ev (M_law_less [.fz (.list (strsD ls)), .fz (.str (S u)), .fz (.str (S v))]) Q := by
  refine Ev_defI ⟨rfl, rfl⟩ ?_
  unfold B_law_less
  simp_arith [Ev_eq]
  have fl := List.length_filter_le (fun w => decide (w ≠ v)) ls
  refine ev_lc_words (fun w => decide (w ≠ v)) (by omega) (fun w hw => ?_) ?_
  · simp_arith [dNe_s]
    by_cases e : w = v
    · simp [e]
    · simp [e]
  simp_arith [S_len, cut_drop _ (Int.natCast_nonneg u.length), int_natToNat, dIn_W]
  by_cases hin : v.drop u.length ∈ ls.filter fun w => decide (w ≠ v)
  · rw [if_pos hin]
    have eg : ls.filter (fun w => decide (w ≠ v)) = cutL ls u v := by unfold cutL; dsimp only; rw [if_pos hin]
    simp_arith [dSorted_W]
    rw [eg]
    exact ⟨by omega, by omega, k⟩
  · rw [if_neg hin]
    have eg : ls.filter (fun w => decide (w ≠ v)) ++ [v.drop u.length] = cutL ls u v := by unfold cutL; dsimp only; rw [if_neg hin]
    generalize ls.filter (fun w => decide (w ≠ v)) = lf at hin eg fl
    simp_arith [strsD_snoc, strsD_len, dSorted_W]
    rw [eg]
    exact ⟨by omega, by omega, by omega, k⟩
/-- a list shaken -/
theorem ev_law_shaken {ls : List Wd} {p : D} {n : Nat} {Q : Rv × Env → Prop} (hp : Pl n p) (hn : n < 2 ^ 50) (few : ls.length ≤ 1000) (k : ∀ ms p', ms.Perm ls → Pl (n + ls.length) p' → Q (.new (.list (strsD ms)), [.ow .pn p', .fz (.list (strsD ls))])) : Ev (M_law_shaken [.ow .pn p, .fz (.list (strsD ls))]) Q := by
  refine Ev_defI ⟨rfl, rfl⟩ ?_
  unfold B_law_shaken
  simp_arith [dListOf]
  refine ev_while (fun m env => ∃ p' ms rs, env = [.ow .pn p', .fz (.list (strsD ls)), .ow .fr (.list (strsD rs)), .ow .fr (.list (strsD ms))] ∧ Pl (n + ms.length) p' ∧ (ms ++ rs).Perm ls ∧ rs.length = m) ?_ ls.length _ ⟨p, [], ls, rfl, hp, .refl _, rfl⟩
  rintro m env ⟨p', ms, rs, rfl, hp', pm, rfl⟩
  have tl := pm.length_eq
  rw [List.length_append] at tl
  simp_arith [dNe_W0]
  by_cases e : rs = []
  · rw [if_neg (not_not_intro e)]
    subst e
    rw [List.append_nil] at pm
    exact k ms p' pm (by rw [← tl]; simpa using hp')
  · rw [if_pos e]
    have r0 : 0 < rs.length := List.length_pos_iff.mpr e
    simp_arith [strsD_len]
    refine ⟨r0, ev_draw hp' (by omega) (by omega) (by omega) fun r p2 r0' r1 hp2 => ?_⟩
    have lt : r.toNat < rs.length := by omega
    obtain ⟨w, hw⟩ : ∃ w, rs[r.toNat]? = some w := ⟨rs[r.toNat], by simp [lt]⟩
    have hg : (strsD rs)[r.toNat]? = some (.str (S w)) := by rw [strsD_get, hw]; rfl
    have he : (strsD rs).eraseIdx r.toNat = strsD (rs.eraseIdx r.toNat) := strsD_erase rs _
    simp_arith [strsD_len, hg, he, strsD_snoc]
    refine ⟨⟨r0', by omega⟩, by omega, p2, ms ++ [w], rs.eraseIdx r.toNat, rfl, ?_, ?_, ?_⟩
    · rw [List.length_append]; exact hp2.mono (by simp; omega)
    · rw [List.append_assoc]
      exact ((erase_perm hw).append_left ms).trans pm
    · rw [List.length_eraseIdx_of_lt lt]
theorem not_in_take {α : Type} : ∀ {ls : List α} {i : Nat} {w : α}, ls.Nodup → ls[i]? = some w → w ∉ ls.take i
  | [], _, _, _, h => by simp at h
  | l :: ls, 0, w, _, _ => by simp
  | l :: ls, i + 1, w, nd, h => by
    have h : ls[i]? = some w := by simpa using h
    have hw : w ∈ ls := List.mem_of_getElem? h
    have nd := List.nodup_cons.mp nd
    rw [List.take_succ_cons, List.mem_cons]
    rintro (e | e)
    · exact nd.1 (e ▸ hw)
    · exact not_in_take nd.2 h e
theorem tup2_nx (i j : Nat) (d : D) (env : Env) : Ev (mTupG [mName i, mName j] (.val d) env) (fun z => z.1 = .nx) ∨ mTupG [mName i, mName j] (.val d) env = .stuck :=
  tupG_nx _ (fun m hm => by
    rcases List.mem_cons.mp hm with e | e
    · rw [e]; exact name_nx i
    · rw [List.mem_singleton.mp e]; exact name_nx j) d env
theorem ev_check_words {ls : List Wd} {Q : Rv × Env → Prop} (L : Lot ls) (h0 : 0 < ls.length) (k : Q (.val .none, [.fz (.list (strsD ls))])) : Ev (M_check_words [.fz (.list (strsD ls))]) Q := by
  refine Ev_defI ⟨rfl, rfl⟩ ?_
  unfold B_check_words
  have few := L.few
  simp_arith [Ev_eq]
  refine ev_forD _ (fun pre _ env => ∃ s1 s2, freeK (some s1) = true ∧ freeK (some s2) = true ∧ env = [.fz (.list (strsD ls)), s1, s2]) (tup2_nx 1 2) ?_ ?_ _ ⟨_, _, rfl, rfl, rfl⟩
  · rintro pre d post env e ⟨s1, s2, f1, f2, rfl⟩
    obtain ⟨w, hw, rfl⟩ := enum_at e
    have hm : w ∈ ls := List.mem_of_getElem? hw
    have w0 : 0 < w.length := List.length_pos_iff.mpr (L.ne w hm)
    have w8 := L.len w hm
    have c1 : (1 : Int) ≤ (w.length : Int) := by omega
    have c2 : (w.length : Int) ≤ 8 := by omega
    simp_arith [f1, f2, S_len, c1, c2]
    refine ⟨by omega, ev_is_row (L.lt w hm) (by omega) ?_⟩
    simp_arith [cutD_take _ (Int.natCast_nonneg pre.length), int_natToNat, strsD_take, dIn_W]
    rw [if_neg (not_in_take L.nd hw)]
    exact ⟨_, _, rfl, rfl, rfl⟩
  · rintro env ⟨s1, s2, f1, f2, rfl⟩
    have c1 : (1 : Int) ≤ (ls.length : Int) := by omega
    have c2 : (ls.length : Int) ≤ 8 := by omega
    simp_arith [strsD_len, c1, c2]
    exact k
theorem ev_stock_init {ls : List Wd} {Q : Rv × Env → Prop} (L : Lot ls) (h0 : 0 < ls.length) (k : Q (.val .none, [.ow .pn (stockD ls), .fz (.list (strsD ls))])) : Ev (M_Stock_init [.ow .pn (insD "Stock" [] []), .fz (.list (strsD ls))]) Q := by
  refine Ev_defI ⟨rfl, rfl⟩ ?_
  unfold B_Stock_init
  simp_arith [Ev_eq]
  refine ev_check_words L h0 ?_
  have put : insPut "Stock" "kept_words" (.tuple (strsD ls)) (insD "Stock" [] []) = some (stockD ls) := by
    unfold insPut insD stockD insD
    simp [kvsPut]
  simp_arith [dTupOf, put]
  exact k
theorem ev_stock_words {ls : List Wd} {Q : Rv × Env → Prop} (k : Q (.new (.list (strsD ls)), [.fz (stockD ls)])) : Ev (M_Stock_words [.fz (stockD ls)]) Q := by
  refine Ev_defI ⟨rfl, rfl⟩ ?_
  unfold B_Stock_words
  simp_arith [fld_stock, dListOf]
  exact k
theorem isIns_stock (ls : List Wd) : isIns "Stock" (stockD ls) = true := by unfold isIns stockD insD; simp
end DL
namespace DL
open PySem PySem.Spec L2
local macro_rules
  | `(tactic| simp_arith [$xs,*]) => `(tactic| simp only [$xs,*, ↓Ev_eq, ↓iV_ok, ↓iV_bind, ↓iV_stuck, ↓iV_ite, ↓iV_bindN, ↓iV_some, ↓iV_none, ↓iV_oifG, ↓iV_gif, ↓iv_c, ↓iv_bin, ↓iv_un, ↓iv_test, ↓iv_and, ↓iv_or, ↓iv_not, ↓iv_val, ↓iv_if, ↓iv_yes, ↓iv_ds_nil, ↓iv_ds_cons, ↓iv_rs_nil, ↓iv_rs_cons, ↓iv_list, ↓iv_tup, ↓iv_callB, ↓iv_part, ↓iv_nopart, ↓iv_sl, ↓iv_meth, ↓iv_repr, ↓iv_rne, ↓iv_req, ↓iv_chain, ↓iv_pass, ↓iv_break, ↓iv_cont, ↓iv_never, ↓iv_seq, ↓iv_ret, ↓iv_retN, ↓iv_ifS, ↓iv_drop, ↓iv_asg, ↓iv_name_val, ↓iv_name_new, ↓iv_name_sl, ↓iv_tupG, ↓iv_asg_nil, ↓iv_asg_cons, ↓iv_setIx, ↓iv_append, ↓iv_aug, ↓iv_as_nil, ↓iv_as_t, ↓iv_as_f, ↓iv_as_l, ↓iv_callF, ↓iv_callK, ↓iv_range, ↓iv_iter, ↓iv_for, ↓iv_lc, ↓iv_par, ↓iv_hs_nil, ↓iv_hs_cons, ↓iv_listS, ↓iv_ss_nil, ↓iv_ss_one, ↓iv_ss_star, ↓iv_enum, ↓iv_make, ↓iv_prop, ↓iv_fldS, ↓iv_pop, ↓iv_popAt, ↓iv_extend, ↓iv_augIx, iV_ok, iV_bind, iV_stuck, iV_ite, iV_bindN, iV_some, iV_none, iV_oifG, iV_gif, iv_c, iv_bin, iv_un, iv_test, iv_and, iv_or, iv_not, iv_val, iv_if, iv_yes, iv_ds_nil, iv_ds_cons, iv_rs_nil, iv_rs_cons, iv_list, iv_tup, iv_callB, iv_part, iv_nopart, iv_sl, iv_meth, iv_repr, iv_rne, iv_req, iv_chain, iv_pass, iv_break, iv_cont, iv_never, iv_seq, iv_ret, iv_retN, iv_ifS, iv_drop, iv_asg, iv_name_val, iv_name_new, iv_name_sl, iv_tupG, iv_asg_nil, iv_asg_cons, iv_setIx, iv_append, iv_aug, iv_as_nil, iv_as_t, iv_as_f, iv_as_l, iv_callF, iv_callK, iv_range, iv_iter, iv_for, iv_lc, iv_par, iv_hs_nil, iv_hs_cons, iv_listS, iv_ss_nil, iv_ss_one, iv_ss_star, iv_enum, iv_make, iv_prop, iv_fldS, iv_pop, iv_popAt, iv_extend, iv_augIx, seqK_nx, seqK_bk, seqK_ct, seqK_rt, tupK_tup, asgK_nx, setN_some, setK_some, appK_some, augS_some, augK_fz, asK_sl, asL_sl, asL_val, backK_val, backK_new, callA_some, backN_val, backN_new, rngK_some, optR_some, optR_if, itK_some, chK_b, turnQ_nx, turnQ_ct, turnQ_bk, turnQ_rt, varK_fz, varK_ow, mVar_eq, mC_eq, data_val, data_new, datK_fz, datK_ow, data_sl, frz_val, frz_new, frzK_fz, frzK_ow, frz_sl, freeK_no, freeK_fz, freeK_ow, free_eq, ownL_eq, ownK_fr, ownK_pn, datas_nil, consD_ok, datas_cons', asB_b, asI_i, argSl_d, argSl_s, argSl_l, argL_fz, argL_ow, argK_fz, argK_fr, argK_pn, consO_some, mkArgs_nil, mkArgs_cons, slotsOf_nil, slotsOf_d, slotsOf_s, slotsOf_l, noDup_nil, noDup_one, noDup_two, putK_ow, putK_fz, putBack_nil, putBack_d, putBack_s, putBack_l, outEnv_nil, outEnv_fz, outEnv_ow, finR_val, finR_new, finR_sl, finK_fz, finK_ow, finQ_nx, finQ_rt, lockR_val, lockR_new, lockR_sl, lokK_fz, lokK_fr, lokK_lk, lockB_none, lockB_some, lokB_no, lokB_fz, lokB_fr, unlock_none, unlock_some, unlK_lk, optR_map_some, optR_map_if, wipeE_nil, wipeE_cons, backE_nil, backE_cons, plainAt_eq, plaK_no, plaK_fz, tgm_nm, tgm_tp, tgms_nil, tgms_cons, dLt_i, dLe_i, dGt_i, dGe_i, dLt_s, dLe_s, dGt_s, dGe_s, okD_int, okD_str, okD_bool, okD_none, dMax2_i, dMin2_i, atD3_0, atD3_1, atD3_2, ixN3_0, ixN3_1, ixN3_2, dAdd, dSub, dDiv, dMod, dPow, dMul, dNeg, dAbs, dInt, dLen, dIs, dIsNot, dIAdd, isNon, dIx, dSl, dRev, itemsD, List.getElem?_cons_zero, List.getElem?_cons_succ, List.getElem?_nil, List.set_cons_zero, List.set_cons_succ, List.set_nil, List.map_cons, List.map_nil, List.length_cons, List.length_nil, List.getD_cons_zero, List.getD_cons_succ, List.all_cons, List.all_nil, List.cons_append, List.nil_append, Option.isSome_some, Option.map_some, Option.map_none, true_and, and_true, Bool.and_true, Bool.true_and, Bool.not_true, Bool.not_false, if_true, if_false, ite_true, ite_false, decide_eq_true_eq, Bool.not_eq_true, Bool.not_eq_true', decide_eq_false_iff_not, not_true, not_false_iff, rngOf1, rngOf2, seqR_some, enumR_some, mkK_ok, prK_val, prK_new, fldR_some, fldS_fr, fldS_pn, popK_some, popR_some, popAK_some, popAR_some, extK_some, augM_some, augN_int, augJ_some, augI_int, seqD, hold_val, hold_new, hold_sl, slOf_val, slOf_new, storeHs_nil, storeHs_cons, isStrD_s, atD2_0, atD2_1, atD1_0, ite_and, and_false, false_and, or_false, false_or, or_true, true_or, reduceIte, reduceCtorEq, List.reduceReplicate, Nat.reduceSub, Nat.reduceAdd, Nat.reduceLeDiff, Int.reduceLT, Int.reduceLE, Int.reduceEq, Int.reduceMod, Int.reduceDiv, Int.reduceMul, Int.reduceAdd, Int.reduceSub, Int.reduceNeg, Int.reduceToNat, Bool.false_eq_true, lineM])
theorem ev_law_word {p : D} {n : Nat} {z : Int} {sg : List Nat} {Q : Rv × Env → Prop} (hp : Pl n p) (hn : n < 2 ^ 50) (z0 : 1 ≤ z) (z1 : z ≤ 100) (hs : Ltr sg) (s0 : 0 < sg.length) (s1 : sg.length ≤ 1000)
    (k : ∀ w p', Ltr w → 0 < w.length → (w.length : Int) ≤ z → Pl (n + 101) p' → Q (.val (.str (S w)), [.ow .pn p', .fz (.int z), .fz (.str (S sg))])) : Ev (M_law_word [.ow .pn p, .fz (.int z), .fz (.str (S sg))]) Q := by
  refine Ev_defI ⟨rfl, rfl⟩ ?_
  unfold B_law_word
  simp_arith [lit_nil]
  refine ev_draw hp (by omega) (by omega) (by omega) fun r p1 r0 r1 hp1 => ?_
  simp_arith [lit_nil]
  refine ⟨by unfold rng62; simp; omega, ?_⟩
  refine ev_lcL (fun rest acc env => ∃ (pk : D) (cs : List Nat), env = [Sl.ow Kd.pn pk, .fz (.int z), .fz (.str (S sg)), .no] ∧ Pl (n + 1 + cs.length) pk ∧ acc = strsD (cs.map fun c => [c]) ∧ Ltr cs ∧ cs.length + rest.length = (1 + r).toNat) (name_nx 3) ?_ ?_ _ _ _ ⟨p1, [], rfl, hp1, rfl, by unfold Ltr; simp, by simp [rangeD_len]⟩
  · rintro d ds acc env ⟨pk, cs, rfl, hpk, rfl, hcs, hlen⟩
    simp only [List.length_cons] at hlen
    simp_arith [S_len]
    refine ⟨by omega, ev_draw hpk (by omega) (by omega) (by omega) fun r6 p6 r60 r61 hp6 => ?_⟩
    simp_arith [S_cps, S_len]
    refine ⟨by omega, ev_atS r60 r61 fun c hc => ?_⟩
    simp_arith [S_sign]
    refine ⟨by simp [strsD]; omega, p6, cs ++ [c], rfl, ?_, ?_, ?_, ?_⟩
    · simpa [Nat.add_assoc] using hp6
    · simp [strsD]
    · exact hcs.app fun x hx => by rw [List.mem_singleton.mp hx]; exact hs c hc
    · simp; omega
  · rintro acc env ⟨pk, cs, rfl, hpk, rfl, hcs, hlen⟩
    have hc0 : cs.length = (1 + r).toNat := by simpa using hlen
    simp_arith [Ev_eq]
    rw [lit_nil, join_cs cs (by omega)]
    simp_arith [Ev_eq]
    exact k cs pk hcs (by omega) (by omega) (hpk.mono (by omega))
/-- ahead of the turn x of a lot's making -/
def LotJ (n : Nat) (m z : Int) (sg : List Nat) (x : Int) (env : Env) : Prop := 0 ≤ x ∧ ∃ pk ls s5 s6 s7 s8 s9 s10, freeK (some s5) = true ∧ freeK (some s6) = true ∧ freeK (some s7) = true ∧ freeK (some s8) = true ∧ freeK (some s9) = true ∧ freeK (some s10) = true ∧
    env = [.ow .pn pk, .fz (.int m), .fz (.int z), .fz (.str (S sg)), .ow .fr (.list (strsD ls)), s5, s6, s7, s8, s9, s10] ∧ Pl (n + 2 + 110 * x.toNat) pk ∧ ls.Nodup ∧ (∀ w ∈ ls, w ≠ [] ∧ Ltr w ∧ (w.length : Int) ≤ z) ∧ (ls.length : Int) ≤ x ∧ (0 < x → 0 < ls.length)
theorem ev_law_lotB {p : D} {n : Nat} {m z : Int} {Q : Rv × Env → Prop} (hp : Pl n p) (hn : n < 2 ^ 49) (m0 : 1 ≤ m) (m1 : m ≤ 8) (z0 : 1 ≤ z) (z1 : z ≤ 8)
    (k : ∀ ls p', Lot ls → 0 < ls.length → (ls.length : Int) ≤ m → Pl (n + 2000) p' → Q (.new (.list (strsD ls)), [.ow .pn p', .fz (.int m), .fz (.int z)])) : Ev (M_law_lot [.ow .pn p, .fz (.int m), .fz (.int z)]) Q := by
  refine Ev_defI ⟨rfl, rfl⟩ ?_
  unfold B_law_lot
  simp_arith [Ev_eq]
  refine ev_draw hp (by omega) (by decide) (by decide) fun r p1 r0 r1 hp1 => ?_
  simp_arith [Ev_eq]
  refine ev_at r0 (by simpa using r1) fun d hd => ?_
  have hs : ∃ sg, d = .str (S sg) ∧ Ltr sg ∧ 0 < sg.length ∧ sg.length ≤ 26 := by
    simp only [List.mem_cons, List.not_mem_nil, or_false] at hd
    rcases hd with e | e | e | e | e
    · exact ⟨_, by rw [e, lit_ab], by unfold Ltr; decide, by decide, by decide⟩
    · exact ⟨_, by rw [e, lit_ab], by unfold Ltr; decide, by decide, by decide⟩
    · exact ⟨[97, 98, 99], by rw [e]; congr 1, by unfold Ltr; decide, by decide, by decide⟩
    · exact ⟨[122, 113], by rw [e]; congr 1, by unfold Ltr; decide, by decide, by decide⟩
    · exact ⟨_, by rw [e, lit_abc], ltr_abc, by decide, by decide⟩
  obtain ⟨sg, rfl, hsg, hsg0, hsg1⟩ := hs
  simp_arith [Ev_eq]
  refine ev_draw hp1 (by omega) (by omega) (by omega) fun r2 p2 r20 r21 hp2 => ?_
  simp_arith [Ev_eq]
  refine ⟨by unfold rng62; simp; omega, ?_⟩
  refine ev_forR (LotJ n m z sg) (1 + r2) ?_ ?_ _ _ _ (by omega) ⟨by omega, p2, [], _, _, _, _, _, _, rfl, rfl, rfl, rfl, rfl, rfl, rfl, hp2, by simp, by simp, by simp, by simp⟩
  · rintro x env hx ⟨hx0, pk, ls, s5, s6, s7, s8, s9, s10, f5, f6, f7, f8, f9, f10, rfl, hpk, nd, hw, hl, hpos⟩
    simp_arith [f5, f6, f7, f8, f9, f10]
    refine ev_law_word hpk (by omega) z0 (by omega) hsg hsg0 (by omega) fun w p3 lw w0 wz hp3 => ?_
    simp_arith [f5, f6, f7, f8, f9, f10]
    refine ev_draw hp3 (by omega) (by decide) (by decide) fun way p4 way0 way1 hp4 => ?_
    simp_arith [f5, f6, f7, f8, f9, f10, dNe_W0]
    -- the end of a turn
    have fin : ∀ (fw : Wd) (q : D) (t5 t6 t7 t8 t9 t10 : Sl), Ltr fw → 0 < fw.length → Pl (n + 2 + 110 * x.toNat + 101 + 1 + 3) q → freeK (some t5) = true → freeK (some t6) = true → freeK (some t7) = true → freeK (some t8) = true → freeK (some t9) = true → freeK (some t10) = true →
        ((fw.length : Int) ≤ z → fw ∉ ls → LotJ n m z sg (x + 1) [.ow .pn q, .fz (.int m), .fz (.int z), .fz (.str (S sg)), .ow .fr (.list (strsD (ls ++ [fw]))), t5, t6, t7, t8, t9, t10]) ∧
        (ls ≠ [] → LotJ n m z sg (x + 1) [.ow .pn q, .fz (.int m), .fz (.int z), .fz (.str (S sg)), .ow .fr (.list (strsD ls)), t5, t6, t7, t8, t9, t10]) := fun fw q t5 t6 t7 t8 t9 t10 lf f0 hq g5 g6 g7 g8 g9 g10 =>
      ⟨fun hz hn => ⟨by omega, q, _, _, _, _, _, _, _, g5, g6, g7, g8, g9, g10, rfl, hq.mono (by omega), List.nodup_append.mpr ⟨nd, by simp, fun a ha b hb => by rw [List.mem_singleton.mp hb]; exact fun e => hn (e ▸ ha)⟩,
          fun w hm => (List.mem_append.mp hm).elim (hw w) fun y => by rw [List.mem_singleton.mp y]; exact ⟨List.length_pos_iff.mp f0, lf, hz⟩, by simp; omega, by simp⟩,
       fun hn => ⟨by omega, q, ls, _, _, _, _, _, _, g5, g6, g7, g8, g9, g10, rfl, hq.mono (by omega), nd, hw, by omega, fun _ => List.length_pos_iff.mpr hn⟩⟩
    by_cases hnil : ls = []
    · subst hnil
      rw [if_neg (by simp)]
      simp_arith [S_len, dNotIn_W, strsD_len, strsD_snoc, f8, f9, f10, wz, List.not_mem_nil]
      exact ⟨by omega, by simp, (fin w p4 _ _ _ _ _ _ lw w0 (hp4.mono (by omega)) rfl rfl rfl f8 f9 f10).1 wz (by simp)⟩
    · rw [if_pos hnil]
      have l0 : 0 < ls.length := List.length_pos_iff.mpr hnil
      by_cases hway : way < 3
      · rw [if_pos hway]
        refine ev_draw hp4 (by omega) (by rw [strsD_len]; omega) (by rw [strsD_len]; omega) fun i p5 i0 i1 hp5 => ?_
        rw [strsD_len] at i1
        simp_arith [f8, f9, f10]
        refine ev_at i0 (by rw [strsD_len]; omega) fun d hd => ?_
        obtain ⟨a, ha, rfl⟩ := mem_strsD.mp hd
        simp_arith [f8, f9, f10]
        refine ev_draw hp5 (by omega) (by rw [strsD_len]; omega) (by rw [strsD_len]; omega) fun j p6 j0 j1 hp6 => ?_
        rw [strsD_len] at j1
        simp_arith [f8, f9, f10]
        refine ev_at j0 (by rw [strsD_len]; omega) fun d hd => ?_
        obtain ⟨b, hb, rfl⟩ := mem_strsD.mp hd
        obtain ⟨a1, a2, a3⟩ := hw a ha
        obtain ⟨b1, b2, b3⟩ := hw b hb
        have a0 : 0 < a.length := List.length_pos_iff.mpr a1
        have b0 : 0 < b.length := List.length_pos_iff.mpr b1
        simp_arith [f8, f9, f10, S_len]
        refine ⟨by omega, ev_draw hp6 (by omega) (by omega) (by omega) fun c p7 c0 c1 hp7 => ?_⟩
        simp_arith [f10, S_len, S_app, cut_take _ (show 0 ≤ 1 + c by omega), cut_drop _ (show 0 ≤ 1 + c - 1 by omega), cut_take _ (show (0 : Int) ≤ 1 by decide)]
        refine ⟨by omega, by omega, by omega, by omega, by rw [List.length_drop, List.length_take]; omega, ?_⟩
        refine ev_at way0 (by simpa using hway) fun d hd => ?_
        have hf : ∃ fw : Wd, d = .str (S fw) ∧ Ltr fw ∧ 0 < fw.length ∧ fw.length ≤ 100 := by
          simp only [List.mem_cons, List.not_mem_nil, or_false] at hd
          rcases hd with e | e | e
          · exact ⟨_, e, a2.app b2, by rw [List.length_append]; omega, by rw [List.length_append]; omega⟩
          · exact ⟨_, e, a2.take _, by rw [List.length_take]; omega, by rw [List.length_take]; omega⟩
          · exact ⟨_, e, (a2.drop _).app (b2.take _), by rw [List.length_append, List.length_drop, List.length_take]; simp; omega, by rw [List.length_append, List.length_drop, List.length_take]; omega⟩
        obtain ⟨fw, rfl, lf, fw0, fw1⟩ := hf
        have fn := fin fw p7 (.fz (.int x)) (.fz (.str (S fw))) (.fz (.int way)) (.fz (.str (S a))) (.fz (.str (S b))) (.fz (.int (1 + c))) lf fw0 (hp7.mono (by omega)) rfl rfl rfl rfl rfl rfl
        simp_arith [S_len, dNotIn_W, strsD_len, strsD_snoc]
        refine ⟨by omega, ?_⟩
        by_cases hz : (fw.length : Int) ≤ z
        · rw [if_pos hz]
          by_cases hi : fw ∈ ls
          · rw [if_neg (not_not_intro hi)]
            exact fn.2 hnil
          · rw [if_pos hi]
            exact ⟨by omega, fn.1 hz hi⟩
        · rw [if_neg hz]
          exact fn.2 hnil
      · rw [if_neg hway]
        have fn := fin w p4 (.fz (.int x)) (.fz (.str (S w))) (.fz (.int way)) s8 s9 s10 lw w0 (hp4.mono (by omega)) rfl rfl rfl f8 f9 f10
        simp_arith [S_len, dNotIn_W, strsD_len, strsD_snoc, wz]
        refine ⟨by omega, ?_⟩
        by_cases hi : w ∈ ls
        · rw [if_neg (not_not_intro hi)]
          exact fn.2 hnil
        · rw [if_pos hi]
          exact ⟨by omega, fn.1 wz hi⟩
  · rintro env ⟨hx0, pk, ls, s5, s6, s7, s8, s9, s10, f5, f6, f7, f8, f9, f10, rfl, hpk, nd, hw, hl, hpos⟩
    simp_arith [Ev_eq]
    exact k ls pk ⟨nd, fun w h => (hw w h).1, fun w h => (hw w h).2.1, fun w h => by have := (hw w h).2.2; omega, by omega⟩ (hpos (by omega)) (by omega) (hpk.mono (by omega))
theorem ev_law_lot {p : D} {n : Nat} {m z : Int} {Q : Rv × Env → Prop} (hp : Pl n p) (hn : n < 2 ^ 49) (m0 : 1 ≤ m) (m1 : m ≤ 8) (z0 : 1 ≤ z) (z1 : z ≤ 8)
    (k : ∀ ls p', Lot ls → 0 < ls.length → Pl (n + 2000) p' → Q (.new (.list (strsD ls)), [.ow .pn p', .fz (.int m), .fz (.int z)])) : Ev (M_law_lot [.ow .pn p, .fz (.int m), .fz (.int z)]) Q :=
  ev_law_lotB hp hn m0 m1 z0 z1 fun ls p' L l0 _ hp' => k ls p' L l0 hp'
end DL
namespace DL
open PySem PySem.Spec L2
local macro_rules
  | `(tactic| simp_arith [$xs,*]) => `(tactic| simp only [$xs,*, ↓Ev_eq, ↓iV_ok, ↓iV_bind, ↓iV_stuck, ↓iV_ite, ↓iV_bindN, ↓iV_some, ↓iV_none, ↓iV_oifG, ↓iV_gif, ↓iv_c, ↓iv_bin, ↓iv_un, ↓iv_test, ↓iv_and, ↓iv_or, ↓iv_not, ↓iv_val, ↓iv_if, ↓iv_yes, ↓iv_ds_nil, ↓iv_ds_cons, ↓iv_rs_nil, ↓iv_rs_cons, ↓iv_list, ↓iv_tup, ↓iv_callB, ↓iv_part, ↓iv_nopart, ↓iv_sl, ↓iv_meth, ↓iv_repr, ↓iv_rne, ↓iv_req, ↓iv_chain, ↓iv_pass, ↓iv_break, ↓iv_cont, ↓iv_never, ↓iv_seq, ↓iv_ret, ↓iv_retN, ↓iv_ifS, ↓iv_drop, ↓iv_asg, ↓iv_name_val, ↓iv_name_new, ↓iv_name_sl, ↓iv_tupG, ↓iv_asg_nil, ↓iv_asg_cons, ↓iv_setIx, ↓iv_append, ↓iv_aug, ↓iv_as_nil, ↓iv_as_t, ↓iv_as_f, ↓iv_as_l, ↓iv_callF, ↓iv_callK, ↓iv_range, ↓iv_iter, ↓iv_for, ↓iv_lc, ↓iv_par, ↓iv_hs_nil, ↓iv_hs_cons, ↓iv_listS, ↓iv_ss_nil, ↓iv_ss_one, ↓iv_ss_star, ↓iv_enum, ↓iv_make, ↓iv_prop, ↓iv_fldS, ↓iv_pop, ↓iv_popAt, ↓iv_extend, ↓iv_augIx, iV_ok, iV_bind, iV_stuck, iV_ite, iV_bindN, iV_some, iV_none, iV_oifG, iV_gif, iv_c, iv_bin, iv_un, iv_test, iv_and, iv_or, iv_not, iv_val, iv_if, iv_yes, iv_ds_nil, iv_ds_cons, iv_rs_nil, iv_rs_cons, iv_list, iv_tup, iv_callB, iv_part, iv_nopart, iv_sl, iv_meth, iv_repr, iv_rne, iv_req, iv_chain, iv_pass, iv_break, iv_cont, iv_never, iv_seq, iv_ret, iv_retN, iv_ifS, iv_drop, iv_asg, iv_name_val, iv_name_new, iv_name_sl, iv_tupG, iv_asg_nil, iv_asg_cons, iv_setIx, iv_append, iv_aug, iv_as_nil, iv_as_t, iv_as_f, iv_as_l, iv_callF, iv_callK, iv_range, iv_iter, iv_for, iv_lc, iv_par, iv_hs_nil, iv_hs_cons, iv_listS, iv_ss_nil, iv_ss_one, iv_ss_star, iv_enum, iv_make, iv_prop, iv_fldS, iv_pop, iv_popAt, iv_extend, iv_augIx, seqK_nx, seqK_bk, seqK_ct, seqK_rt, tupK_tup, asgK_nx, setN_some, setK_some, appK_some, augS_some, augK_fz, asK_sl, asL_sl, asL_val, backK_val, backK_new, callA_some, backN_val, backN_new, rngK_some, optR_some, optR_if, itK_some, chK_b, turnQ_nx, turnQ_ct, turnQ_bk, turnQ_rt, varK_fz, varK_ow, mVar_eq, mC_eq, data_val, data_new, datK_fz, datK_ow, data_sl, frz_val, frz_new, frzK_fz, frzK_ow, frz_sl, freeK_no, freeK_fz, freeK_ow, free_eq, ownL_eq, ownK_fr, ownK_pn, datas_nil, consD_ok, datas_cons', asB_b, asI_i, argSl_d, argSl_s, argSl_l, argL_fz, argL_ow, argK_fz, argK_fr, argK_pn, consO_some, mkArgs_nil, mkArgs_cons, slotsOf_nil, slotsOf_d, slotsOf_s, slotsOf_l, noDup_nil, noDup_one, noDup_two, putK_ow, putK_fz, putBack_nil, putBack_d, putBack_s, putBack_l, outEnv_nil, outEnv_fz, outEnv_ow, finR_val, finR_new, finR_sl, finK_fz, finK_ow, finQ_nx, finQ_rt, lockR_val, lockR_new, lockR_sl, lokK_fz, lokK_fr, lokK_lk, lockB_none, lockB_some, lokB_no, lokB_fz, lokB_fr, unlock_none, unlock_some, unlK_lk, optR_map_some, optR_map_if, wipeE_nil, wipeE_cons, backE_nil, backE_cons, plainAt_eq, plaK_no, plaK_fz, tgm_nm, tgm_tp, tgms_nil, tgms_cons, dLt_i, dLe_i, dGt_i, dGe_i, dLt_s, dLe_s, dGt_s, dGe_s, okD_int, okD_str, okD_bool, okD_none, dMax2_i, dMin2_i, atD3_0, atD3_1, atD3_2, ixN3_0, ixN3_1, ixN3_2, dAdd, dSub, dDiv, dMod, dPow, dMul, dNeg, dAbs, dInt, dLen, dIs, dIsNot, dIAdd, isNon, dIx, dSl, dRev, itemsD, List.getElem?_cons_zero, List.getElem?_cons_succ, List.getElem?_nil, List.set_cons_zero, List.set_cons_succ, List.set_nil, List.map_cons, List.map_nil, List.length_cons, List.length_nil, List.getD_cons_zero, List.getD_cons_succ, List.all_cons, List.all_nil, List.cons_append, List.nil_append, Option.isSome_some, Option.map_some, Option.map_none, true_and, and_true, Bool.and_true, Bool.true_and, Bool.not_true, Bool.not_false, if_true, if_false, ite_true, ite_false, decide_eq_true_eq, Bool.not_eq_true, Bool.not_eq_true', decide_eq_false_iff_not, not_true, not_false_iff, rngOf1, rngOf2, seqR_some, enumR_some, mkK_ok, prK_val, prK_new, fldR_some, fldS_fr, fldS_pn, popK_some, popR_some, popAK_some, popAR_some, extK_some, augM_some, augN_int, augJ_some, augI_int, seqD, hold_val, hold_new, hold_sl, slOf_val, slOf_new, storeHs_nil, storeHs_cons, isStrD_s, atD2_0, atD2_1, atD1_0, ite_and, and_false, false_and, or_false, false_or, or_true, true_or, reduceIte, reduceCtorEq, List.reduceReplicate, Nat.reduceSub, Nat.reduceAdd, Nat.reduceLeDiff, Int.reduceLT, Int.reduceLE, Int.reduceEq, Int.reduceMod, Int.reduceDiv, Int.reduceMul, Int.reduceAdd, Int.reduceSub, Int.reduceNeg, Int.reduceToNat, Bool.false_eq_true, lineM])
def partsOf (a : Str) : List Wd := (Txt.split a " ").map fun x => x.cps.toList
def knownOk (a : Str) : Bool := decide ((partsOf a).Nodup) && ((partsOf a).all fun w => decide (w ≠ []) && w.all (fun c => decide (97 ≤ c) && decide (c ≤ 122)) && decide (w.length ≤ 8)) && decide ((partsOf a).length ≤ 8) && decide (0 < (partsOf a).length) && (Txt.split a " ").all strOk && decide (a.length + 2 ≤ 16777216)
theorem known_ok {a : Str} (h : knownOk a = true) : dSplit (.str a) [.str " "] = some (.new (.list (strsD (partsOf a)))) ∧ Lot (partsOf a) ∧ 0 < (partsOf a).length := by
  unfold knownOk at h
  simp only [Bool.and_eq_true, decide_eq_true_eq, List.all_eq_true] at h
  obtain ⟨⟨⟨⟨⟨h1, h2⟩, h3⟩, h4⟩, h5⟩, h6⟩ := h
  refine ⟨?_, ⟨h1, fun w hw => (h2 w hw).1.1, fun w hw c hc => (h2 w hw).1.2 c hc, fun w hw => (h2 w hw).2, h3⟩, h4⟩
  show (if ((" " : Str).length == 0) = false ∧ a.length + 2 ≤ lineM ∧ (Txt.split a " ").all strOk = true then some (Rv.new (.list ((Txt.split a " ").map .str))) else none) = _
  rw [if_pos ⟨by decide, h6, List.all_eq_true.mpr h5⟩]
  congr 3
  unfold partsOf strsD
  rw [List.map_map]
  apply List.map_congr_left
  intro x _
  show PyData.str x = .str (S x.cps.toList)
  rw [← S_of]
def knownL : List Str := ["a ab ba", "aab ab aba", "a ab bb", "aa aaa", "ab abab", "a ba", "abab", "a b", "ab abb baab", "aa ab ba bb", "a ab", "abc bcd cda dab", "aba bab", "ab ba", "a abb bbab", "aaaaaaaa aaaaaaa", "b ab aab aaab"]
theorem knownL_ok : knownL.all knownOk = true := by decide +kernel
theorem knownL_few : knownL.all (fun a => decide ((partsOf a).length ≤ 6)) = true := by decide +kernel
theorem ev_law_knownB {p : D} {n : Nat} {Q : Rv × Env → Prop} (hp : Pl n p) (hn : n < 2 ^ 49) (k : ∀ ls p', Lot ls → 0 < ls.length → ls.length ≤ 6 → Pl (n + 1) p' → Q (.new (.list (strsD ls)), [.ow .pn p'])) : Ev (M_law_known [.ow .pn p]) Q := by
  refine Ev_defI ⟨rfl, rfl⟩ ?_
  unfold B_law_known
  simp_arith [Ev_eq]
  refine ev_draw hp (by omega) (by decide) (by decide) fun r p1 r0 r1 hp1 => ?_
  simp_arith [Ev_eq]
  refine ev_at r0 (by simpa using r1) fun d hd => ?_
  have hs : ∃ a, d = .str a ∧ knownOk a = true ∧ (partsOf a).length ≤ 6 := by
    have e : d ∈ knownL.map PyData.str := hd
    obtain ⟨a, ha, rfl⟩ := List.mem_map.mp e
    exact ⟨a, rfl, List.all_eq_true.mp knownL_ok a ha, by simpa using List.all_eq_true.mp knownL_few a ha⟩
  obtain ⟨a, rfl, ha, h6⟩ := hs
  obtain ⟨s1, s2, s3⟩ := known_ok ha
  simp_arith [s1]
  exact k _ _ s2 s3 h6 hp1
theorem ev_law_known {p : D} {n : Nat} {Q : Rv × Env → Prop} (hp : Pl n p) (hn : n < 2 ^ 49) (k : ∀ ls p', Lot ls → 0 < ls.length → Pl (n + 1) p' → Q (.new (.list (strsD ls)), [.ow .pn p'])) : Ev (M_law_known [.ow .pn p]) Q := by
  refine Ev_defI ⟨rfl, rfl⟩ ?_
  unfold B_law_known
  simp_arith [Ev_eq]
  refine ev_draw hp (by omega) (by decide) (by decide) fun r p1 r0 r1 hp1 => ?_
  simp_arith [Ev_eq]
  refine ev_at r0 (by simpa using r1) fun d hd => ?_
  have hs : ∃ a, d = .str a ∧ knownOk a = true := by
    have e : d ∈ knownL.map PyData.str := hd
    obtain ⟨a, ha, rfl⟩ := List.mem_map.mp e
    exact ⟨a, rfl, List.all_eq_true.mp knownL_ok a ha⟩
  obtain ⟨a, rfl, ha⟩ := hs
  obtain ⟨s1, s2, s3⟩ := known_ok ha
  simp_arith [s1]
  exact k _ _ s2 s3 hp1
theorem ev_law_some {p : D} {n : Nat} {Q : Rv × Env → Prop} (hp : Pl n p) (hn : n < 2 ^ 48) (k : ∀ ls p', Lot ls → 0 < ls.length → Pl (n + 2010) p' → Q (.new (.list (strsD ls)), [.ow .pn p'])) : Ev (M_law_some [.ow .pn p]) Q := by
  refine Ev_defI ⟨rfl, rfl⟩ ?_
  unfold B_law_some
  simp_arith [Ev_eq]
  refine ev_draw hp (by omega) (by decide) (by decide) fun r p1 r0 r1 hp1 => ?_
  simp_arith [dEq_i]
  by_cases h : r = 0
  · rw [if_pos h]
    refine ev_law_known hp1 (by omega) fun ls p2 L l0 hp2 => ?_
    simp_arith [Ev_eq]
    exact k ls p2 L l0 (hp2.mono (by omega))
  · rw [if_neg h]
    have pick : ∀ d : D, d ∈ [PyData.int 3, .int 5, .int 8] → ∃ z : Int, d = .int z ∧ 1 ≤ z ∧ z ≤ 8 := fun d hd => by
      simp only [List.mem_cons, List.not_mem_nil, or_false] at hd
      rcases hd with e | e | e
      · exact ⟨_, e, by omega, by omega⟩
      · exact ⟨_, e, by omega, by omega⟩
      · exact ⟨_, e, by omega, by omega⟩
    refine ev_draw hp1 (by omega) (by decide) (by decide) fun r2 p2 r20 r21 hp2 => ?_
    simp_arith [Ev_eq]
    refine ev_at r20 (by simpa using r21) fun d hd => ?_
    obtain ⟨m, rfl, m0, m1⟩ := pick d hd
    simp_arith [Ev_eq]
    refine ev_draw hp2 (by omega) (by decide) (by decide) fun r3 p3 r30 r31 hp3 => ?_
    simp_arith [Ev_eq]
    refine ev_at r30 (by simpa using r31) fun d hd => ?_
    obtain ⟨z, rfl, z0, z1⟩ := pick d hd
    simp_arith [Ev_eq]
    refine ev_law_lot hp3 (by omega) m0 m1 z0 z1 fun ls p4 L l0 hp4 => ?_
    simp_arith [Ev_eq]
    exact k ls p4 L l0 (hp4.mono (by omega))
end DL
namespace DL
open PySem PySem.Spec L2
local macro_rules
  | `(tactic| simp_arith [$xs,*]) => `(tactic| simp only [$xs,*, ↓Ev_eq, ↓iV_ok, ↓iV_bind, ↓iV_stuck, ↓iV_ite, ↓iV_bindN, ↓iV_some, ↓iV_none, ↓iV_oifG, ↓iV_gif, ↓iv_c, ↓iv_bin, ↓iv_un, ↓iv_test, ↓iv_and, ↓iv_or, ↓iv_not, ↓iv_val, ↓iv_if, ↓iv_yes, ↓iv_ds_nil, ↓iv_ds_cons, ↓iv_rs_nil, ↓iv_rs_cons, ↓iv_list, ↓iv_tup, ↓iv_callB, ↓iv_part, ↓iv_nopart, ↓iv_sl, ↓iv_meth, ↓iv_repr, ↓iv_rne, ↓iv_req, ↓iv_chain, ↓iv_pass, ↓iv_break, ↓iv_cont, ↓iv_never, ↓iv_seq, ↓iv_ret, ↓iv_retN, ↓iv_ifS, ↓iv_drop, ↓iv_asg, ↓iv_name_val, ↓iv_name_new, ↓iv_name_sl, ↓iv_tupG, ↓iv_asg_nil, ↓iv_asg_cons, ↓iv_setIx, ↓iv_append, ↓iv_aug, ↓iv_as_nil, ↓iv_as_t, ↓iv_as_f, ↓iv_as_l, ↓iv_callF, ↓iv_callK, ↓iv_range, ↓iv_iter, ↓iv_for, ↓iv_lc, ↓iv_par, ↓iv_hs_nil, ↓iv_hs_cons, ↓iv_listS, ↓iv_ss_nil, ↓iv_ss_one, ↓iv_ss_star, ↓iv_enum, ↓iv_make, ↓iv_prop, ↓iv_fldS, ↓iv_pop, ↓iv_popAt, ↓iv_extend, ↓iv_augIx, iV_ok, iV_bind, iV_stuck, iV_ite, iV_bindN, iV_some, iV_none, iV_oifG, iV_gif, iv_c, iv_bin, iv_un, iv_test, iv_and, iv_or, iv_not, iv_val, iv_if, iv_yes, iv_ds_nil, iv_ds_cons, iv_rs_nil, iv_rs_cons, iv_list, iv_tup, iv_callB, iv_part, iv_nopart, iv_sl, iv_meth, iv_repr, iv_rne, iv_req, iv_chain, iv_pass, iv_break, iv_cont, iv_never, iv_seq, iv_ret, iv_retN, iv_ifS, iv_drop, iv_asg, iv_name_val, iv_name_new, iv_name_sl, iv_tupG, iv_asg_nil, iv_asg_cons, iv_setIx, iv_append, iv_aug, iv_as_nil, iv_as_t, iv_as_f, iv_as_l, iv_callF, iv_callK, iv_range, iv_iter, iv_for, iv_lc, iv_par, iv_hs_nil, iv_hs_cons, iv_listS, iv_ss_nil, iv_ss_one, iv_ss_star, iv_enum, iv_make, iv_prop, iv_fldS, iv_pop, iv_popAt, iv_extend, iv_augIx, seqK_nx, seqK_bk, seqK_ct, seqK_rt, tupK_tup, asgK_nx, setN_some, setK_some, appK_some, augS_some, augK_fz, asK_sl, asL_sl, asL_val, backK_val, backK_new, callA_some, backN_val, backN_new, rngK_some, optR_some, optR_if, itK_some, chK_b, turnQ_nx, turnQ_ct, turnQ_bk, turnQ_rt, varK_fz, varK_ow, mVar_eq, mC_eq, data_val, data_new, datK_fz, datK_ow, data_sl, frz_val, frz_new, frzK_fz, frzK_ow, frz_sl, freeK_no, freeK_fz, freeK_ow, free_eq, ownL_eq, ownK_fr, ownK_pn, datas_nil, consD_ok, datas_cons', asB_b, asI_i, argSl_d, argSl_s, argSl_l, argL_fz, argL_ow, argK_fz, argK_fr, argK_pn, consO_some, mkArgs_nil, mkArgs_cons, slotsOf_nil, slotsOf_d, slotsOf_s, slotsOf_l, noDup_nil, noDup_one, noDup_two, putK_ow, putK_fz, putBack_nil, putBack_d, putBack_s, putBack_l, outEnv_nil, outEnv_fz, outEnv_ow, finR_val, finR_new, finR_sl, finK_fz, finK_ow, finQ_nx, finQ_rt, lockR_val, lockR_new, lockR_sl, lokK_fz, lokK_fr, lokK_lk, lockB_none, lockB_some, lokB_no, lokB_fz, lokB_fr, unlock_none, unlock_some, unlK_lk, optR_map_some, optR_map_if, wipeE_nil, wipeE_cons, backE_nil, backE_cons, plainAt_eq, plaK_no, plaK_fz, tgm_nm, tgm_tp, tgms_nil, tgms_cons, dLt_i, dLe_i, dGt_i, dGe_i, dLt_s, dLe_s, dGt_s, dGe_s, okD_int, okD_str, okD_bool, okD_none, dMax2_i, dMin2_i, atD3_0, atD3_1, atD3_2, ixN3_0, ixN3_1, ixN3_2, dAdd, dSub, dDiv, dMod, dPow, dMul, dNeg, dAbs, dInt, dLen, dIs, dIsNot, dIAdd, isNon, dIx, dSl, dRev, itemsD, List.getElem?_cons_zero, List.getElem?_cons_succ, List.getElem?_nil, List.set_cons_zero, List.set_cons_succ, List.set_nil, List.map_cons, List.map_nil, List.length_cons, List.length_nil, List.getD_cons_zero, List.getD_cons_succ, List.all_cons, List.all_nil, List.cons_append, List.nil_append, Option.isSome_some, Option.map_some, Option.map_none, true_and, and_true, Bool.and_true, Bool.true_and, Bool.not_true, Bool.not_false, if_true, if_false, ite_true, ite_false, decide_eq_true_eq, Bool.not_eq_true, Bool.not_eq_true', decide_eq_false_iff_not, not_true, not_false_iff, rngOf1, rngOf2, seqR_some, enumR_some, mkK_ok, prK_val, prK_new, fldR_some, fldS_fr, fldS_pn, popK_some, popR_some, popAK_some, popAR_some, extK_some, augM_some, augN_int, augJ_some, augI_int, seqD, hold_val, hold_new, hold_sl, slOf_val, slOf_new, storeHs_nil, storeHs_cons, isStrD_s, atD2_0, atD2_1, atD1_0, ite_and, and_false, false_and, or_false, false_or, or_true, true_or, reduceIte, reduceCtorEq, List.reduceReplicate, Nat.reduceSub, Nat.reduceAdd, Nat.reduceLeDiff, Int.reduceLT, Int.reduceLE, Int.reduceEq, Int.reduceMod, Int.reduceDiv, Int.reduceMul, Int.reduceAdd, Int.reduceSub, Int.reduceNeg, Int.reduceToNat, Bool.false_eq_true, lineM])
theorem ev_lc_rev {i : Nat} {Q : List D × Env → Prop} {ls : List Wd} {env0 : Env} (h0 : env0[i]? = some .no) (hl : ls.length ≤ 1000) (h8 : ∀ w ∈ ls, w.length ≤ 1000) (k : Q (strsD (revW ls), env0)) : Ev (mLcL (mName i) mYes (mUn dRev (mVar i)) [i] (strsD ls) [] env0) Q := by
  refine ev_lc_pure (fun d => match d with
    | .str x => .str (revS x)
    | d => d) (name_nx i) (by rw [strsD_len]; omega) (fun d hd => ?_) ?_
  · obtain ⟨w, hw, rfl⟩ := mem_strsD.mp hd
    have w8 := h8 w hw
    have hi : i < env0.length := lt_of_get h0
    simp_arith [h0, List.getElem?_set_self hi, S_len]
    refine ⟨by omega, ?_⟩
    rw [List.set_set]
    refine List.ext_getElem? fun j => ?_
    by_cases e : i = j
    · subst e; rw [List.getElem?_set_self hi, h0]
    · rw [List.getElem?_set_ne e]
  · have : (strsD ls).map (fun d => match d with
      | .str x => PyData.str (revS x)
      | d => d) = strsD (revW ls) := by
      unfold strsD revW
      rw [List.map_map, List.map_map]
      exact List.map_congr_left fun w _ => by show PyData.str (revS (S w)) = .str (S w.reverse); rw [S_rev]
    rw [this]; exact k
/-- a pair, and the end at which it is -/
def pairsI (i : Int) (ps : List (Wd × Wd)) : List D := ps.map fun p => .tuple [.str (S p.1), .str (S p.2), .int i]
theorem pairsI_len (i : Int) (ps : List (Wd × Wd)) : (pairsI i ps).length = ps.length := by simp [pairsI]
theorem dt3' (u v : Wd) (i : Int) : (PyData.tuple [.str (S u), .str (S v), .int i]).hasDict = false ∧ (PyData.tuple [.str (S u), .str (S v), .int i]).depth ≤ 60 := by
  simp only [PyData.hasDict, PyData.hasDictAll, PyData.depth, PyData.depthAll]; exact ⟨rfl, by omega⟩
theorem pairsI_ok (i : Int) (ps : List (Wd × Wd)) : ∀ d ∈ pairsI i ps, d.hasDict = false ∧ d.depth ≤ 60 := fun d hd => by
  obtain ⟨p, _, rfl⟩ := List.mem_map.mp hd
  exact dt3' _ _ _
noncomputable def cutB : MS := mSeq (mAsg (mBin dIx (mVar 4) (mCallF M_law_draw [.p, .c] [(mVar 0), (mCallB dLen [(mVar 4)])])) (mTupG [(mName 5), (mName 6), (mName 10)]))
  (mSeq (mAsg (mIf (mTest (mBin dEq (mVar 10) (mC (.int 1)))) (mLc (mIter (mVar 3)) (Tg.m (.nm 9)) mYes (mUn dRev (mVar 9)) [9]) (mVar 3)) (mName 11))
  (mSeq (mAsg (mCallF M_law_less [.c, .c, .c] [(mVar 11), (mVar 5), (mVar 6)]) (mName 11))
  (mAsg (mIf (mTest (mBin dEq (mVar 10) (mC (.int 1)))) (mCallB dSorted [(mLc (mIter (mVar 11)) (Tg.m (.nm 9)) mYes (mUn dRev (mVar 9)) [9])]) (mVar 11)) (mName 3))))
/-- one cut, drawn -/
theorem ev_cutB {cs : List Wd} {q L : D} {k : Int} {n : Nat} {prs : List D} {s3 s4 s5 s6 s7 s8 s9 s10 s11 : Sl} {Q : Fl × Env → Prop} (hq : Pl n q) (hn : n < 2 ^ 49) (Lc : Lot cs) (h3 : s3 = .fz (.list (strsD cs)) ∨ s3 = .ow .fr (.list (strsD cs)))
    (h4 : s4 = .ow .fr (.list prs)) (p0 : prs ≠ []) (pl : prs.length ≤ 200) (hp : ∀ d ∈ prs, ∃ u v, (d = .tuple [.str (S u), .str (S v), .int 0] ∧ k ≠ 2 ∧ Begun cs u v) ∨ (d = .tuple [.str (S u), .str (S v), .int 1] ∧ k > 1 ∧ Begun (revW cs) u v))
    (f5 : freeK (some s5) = true) (f6 : freeK (some s6) = true) (f9 : plaK (some s9) = true) (f10 : freeK (some s10) = true) (f11 : freeK (some s11) = true)
    (K : ∀ q' u v cs' t3 t5 t6 t10 t11, Pl (n + 1) q' → freeK (some t5) = true → plaK (some t5) = true → freeK (some t6) = true → plaK (some t6) = true → freeK (some t10) = true → freeK (some t11) = true → (t3 = .fz (.list (strsD cs')) ∨ t3 = .ow .fr (.list (strsD cs'))) →
      ((k ≠ 2 ∧ Begun cs u v ∧ cs' = sortW (cutL cs u v)) ∨ (k > 1 ∧ Begun (revW cs) u v ∧ cs' = sortW (cutR cs u v))) → Q (.nx, [.ow .pn q', .fz L, .fz (.int k), t3, s4, t5, t6, s7, s8, s9, t10, t11])) :
    Ev (cutB [.ow .pn q, .fz L, .fz (.int k), s3, s4, s5, s6, s7, s8, s9, s10, s11]) Q := by
  subst h4
  have few := Lc.few
  have p1 : 0 < prs.length := List.length_pos_iff.mpr p0
  have z1 : ((0 : Int) = 1) = False := by simp
  unfold cutB
  rcases h3 with rfl | rfl
  all_goals
    simp_arith [Ev_eq]
    refine ev_draw hq (by omega) (by omega) (by omega) fun r q2 r0 r1 hq2 => ?_
    simp_arith [Ev_eq]
    refine ev_at r0 r1 fun d hd => ?_
    obtain ⟨u, v, ⟨rfl, hk, hb⟩ | ⟨rfl, hk, hb⟩⟩ := hp d hd
    · have ul := Lc.len u hb.hu
      have vl := Lc.len v hb.hv
      simp_arith [f5, f6, f10, f11, dEq_i, z1]
      refine ev_law_less (fun w hw => by have := Lc.len w hw; omega) (by omega) (by omega) (by omega) ?_
      simp_arith [f5, f6, f10, f11, dEq_i, z1]
      exact K q2 u v _ _ _ _ _ _ (hq2.mono (by omega)) rfl rfl rfl rfl rfl rfl (.inl rfl) (.inl ⟨hk, hb, rfl⟩)
    · have Lr := Lc.rev
      have ul := Lr.len u hb.hu
      have vl := Lr.len v hb.hv
      have fr := Lr.few
      have Lk := (cut_lot Lr hb).sort
      have fk := Lk.few
      simp_arith [f5, f6, f9, f10, f11, dEq_i]
      refine ev_lc_rev (ls := cs) (by rfl) (by omega) (fun w hw => by have := Lc.len w hw; omega) ?_
      simp_arith [f5, f6, f9, f10, f11, dEq_i]
      refine ev_law_less (fun w hw => by have := Lr.len w hw; omega) (by omega) (by omega) (by omega) ?_
      simp_arith [f5, f6, f9, f10, f11, dEq_i]
      refine ev_lc_rev (ls := sortW (cutL (revW cs) u v)) (by rfl) (by omega) (fun w hw => by have := Lk.len w hw; omega) ?_
      simp_arith [f5, f6, f9, f10, f11, dSorted_W]
      exact K q2 u v _ _ _ _ _ _ (hq2.mono (by omega)) rfl rfl rfl rfl rfl rfl (.inr rfl) (.inr ⟨hk, hb, rfl⟩)
theorem ev_lc_tag {ps : List (Wd × Wd)} {Q : List D × Env → Prop} {env0 : Env} (i : Int) (a b : Nat) (ab : a ≠ b) (ha : env0[a]? = some .no) (hb : env0[b]? = some .no) (hl : (pairsD ps).length ≤ 1000) (k : Q (pairsI i ps, env0)) :
    Ev (mLcL (mTupG [mName a, mName b]) mYes (mTup [mVar a, mVar b, mC (.int i)]) [a, b] (pairsD ps) [] env0) Q := by
  refine ev_lc_pure (fun d => match d with
          | .tuple [a, b] => .tuple [a, b, .int i]
          | d => d) (tup2_nx a b) (by omega) (fun d hd => ?_) ?_
  · obtain ⟨⟨u, v⟩, _, rfl⟩ := List.mem_map.mp hd
    have la := lt_of_get ha
    have lb := lt_of_get hb
    have x1 : ∀ x, (env0.set a x)[b]? = some .no := fun x => by rw [List.getElem?_set_ne ab, hb]
    have x2 : ∀ x y, ((env0.set a x).set b y)[a]? = some x := fun x y => by rw [List.getElem?_set_ne (Ne.symm ab), List.getElem?_set_self la]
    have x3 : ∀ x y, ((env0.set a x).set b y)[b]? = some y := fun x y => by rw [List.getElem?_set_self (by rw [List.length_set]; exact lb)]
    have x4 : ∀ x y, (((env0.set a x).set b y).set b .no).set a .no = env0 := fun x y => by
      refine List.ext_getElem? fun j => ?_
      by_cases e1 : a = j
      · subst e1; rw [List.getElem?_set_self (by simpa using la), ha]
      · rw [List.getElem?_set_ne e1]
        by_cases e2 : b = j
        · subst e2; rw [List.getElem?_set_self (by simpa using lb), hb]
        · rw [List.getElem?_set_ne e2, List.getElem?_set_ne e2, List.getElem?_set_ne e1]
    simp_arith [ha, x1, x2, x3, x4]
  · have e : (pairsD ps).map (fun d => match d with
          | .tuple [a, b] => .tuple [a, b, .int i]
          | d => d) = pairsI i ps := by unfold pairsD pairsI; rw [List.map_map]; rfl
    rw [e]; exact k
/-- all pairs, and those at the other end -/
def prsG (k : Int) (cs : List Wd) : List D := (if k ≠ 2 then pairsI 0 (begunL cs) else []) ++ if k > 1 then pairsI 1 (begunL (revW cs)) else []
theorem prsG_ok (k : Int) (cs : List Wd) : ∀ d ∈ prsG k cs, ∃ u v, (d = .tuple [.str (S u), .str (S v), .int 0] ∧ k ≠ 2 ∧ Begun cs u v) ∨ (d = .tuple [.str (S u), .str (S v), .int 1] ∧ k > 1 ∧ Begun (revW cs) u v) := fun d hd => by
  unfold prsG at hd
  rcases List.mem_append.mp hd with h | h
  · by_cases e : k ≠ 2
    · rw [if_pos e] at h
      obtain ⟨⟨u, v⟩, hp, rfl⟩ := List.mem_map.mp h
      exact ⟨u, v, .inl ⟨rfl, e, begunL_mem.mp hp⟩⟩
    · rw [if_neg e] at h; simp at h
  · by_cases e : k > 1
    · rw [if_pos e] at h
      obtain ⟨⟨u, v⟩, hp, rfl⟩ := List.mem_map.mp h
      exact ⟨u, v, .inr ⟨rfl, e, begunL_mem.mp hp⟩⟩
    · rw [if_neg e] at h; simp at h
theorem prsG_nil {k : Int} {cs : List Wd} (h : prsG k cs = []) : (k ≠ 2 → ∀ u v, ¬ Begun cs u v) ∧ (k > 1 → ∀ u v, ¬ Begun (revW cs) u v) := by
  unfold prsG at h
  obtain ⟨h1, h2⟩ := List.append_eq_nil_iff.mp h
  refine ⟨fun e u v hb => ?_, fun e u v hb => ?_⟩
  · rw [if_pos e] at h1
    have := begunL_mem.mpr hb
    have h1 : begunL cs = [] := by simpa [pairsI] using h1
    rw [h1] at this; simp at this
  · rw [if_pos e] at h2
    have := begunL_mem.mpr hb
    have h2 : begunL (revW cs) = [] := by simpa [pairsI] using h2
    rw [h2] at this; simp at this
theorem prsG_len {k : Int} {cs : List Wd} (L : Lot cs) : (prsG k cs).length ≤ 128 := by
  have a := begunL_len cs
  have b := begunL_len (revW cs)
  rw [revW_len] at b
  have few := L.few
  have c : cs.length * cs.length ≤ 8 * 8 := Nat.mul_le_mul few few
  unfold prsG
  rw [List.length_append]
  have x : (if k ≠ 2 then pairsI 0 (begunL cs) else []).length ≤ 64 := by
    split
    · rw [pairsI_len]; omega
    · simp
  have y : (if k > 1 then pairsI 1 (begunL (revW cs)) else []).length ≤ 64 := by
    split
    · rw [pairsI_len]; omega
    · simp
  omega
theorem prsG_hd (k : Int) (cs : List Wd) : ∀ d ∈ prsG k cs, d.hasDict = false ∧ d.depth ≤ 60 := fun d hd => by
  obtain ⟨u, v, ⟨rfl, _⟩ | ⟨rfl, _⟩⟩ := prsG_ok k cs d hd
  · exact dt3' _ _ _
  · exact dt3' _ _ _
theorem tup_map (i : Int) (ps : List (Wd × Wd)) : (pairsD ps).map (fun d => match d with
          | .tuple [a, b] => .tuple [a, b, .int i]
          | d => d) = pairsI i ps := by unfold pairsD pairsI; rw [List.map_map]; rfl
theorem szL_bound {ls : List Wd} (L : Lot ls) : szL ls ≤ 64 := by
  have b : ∀ l : List Wd, (∀ w ∈ l, w.length ≤ 8) → szL l ≤ 8 * l.length := fun l => by
    induction l with
    | nil => intro _; simp [szL]
    | cons w l ih =>
      intro h
      have := ih fun x hx => h x (List.mem_cons_of_mem _ hx)
      have := h w (by simp)
      simp only [szL, List.map_cons, List.sum_cons, List.length_cons] at *
      omega
  have := b _ L.len
  have := L.few
  omega
theorem dt2' (u v : Str) : (PyData.tuple [.str u, .str v]).hasDict = false ∧ (PyData.tuple [.str u, .str v]).depth ≤ 60 := by
  simp only [PyData.hasDict, PyData.hasDictAll, PyData.depth, PyData.depthAll]; exact ⟨rfl, by omega⟩
abbrev pG (k : Int) : Bool := decide (k ≠ 2)
abbrev sG (k : Int) : Bool := decide (k > 1)
noncomputable def endB : MS := mIfS (mTest (mBin dNe (mVar 4) (mList []))) cutB mPass
noncomputable def bodyB : MS := mSeq (mAsg (mList []) (mName 4))
  (mSeq (mIfS (mTest (mBin dNe (mVar 2) (mC (.int 2)))) (mAsg (mLc (mIter (mCallF M_law_begun [.l] [(mVar 3)])) (Tg.m (.tp [(.nm 5), (.nm 6)])) mYes (mTup [(mVar 5), (mVar 6), (mC (.int 0))]) [5, 6]) (mName 4)) mPass)
  (mSeq (mIfS (mTest (mBin dEq (mVar 2) (mC (.int 0)))) (mAsg (mLc (mIter (mVar 4)) (Tg.m (.nm 7)) (mTest (mBin dIsNot (mCallF M_law_alike_k21 [.l, .c, .c] [(mVar 3), (mBin dIx (mVar 7) (mC (.int 0))), (mBin dIx (mVar 7) (mC (.int 1)))]) (mC .none))) (mVar 7) [7]) (mName 4)) mPass)
  (mSeq (mIfS (mTest (mBin dGt (mVar 2) (mC (.int 1)))) (mSeq (mAsg (mCallF M_law_begun [.c] [(mLc (mIter (mVar 3)) (Tg.m (.nm 9)) mYes (mUn dRev (mVar 9)) [9])]) (mName 8))
  (mAsg (mBin dAdd (mVar 4) (mLc (mIter (mVar 8)) (Tg.m (.tp [(.nm 5), (.nm 6)])) mYes (mTup [(mVar 5), (mVar 6), (mC (.int 1))]) [5, 6])) (mName 4))) mPass)
  endB)))
theorem ev_bodyB {cs : List Wd} {q L : D} {k : Int} {n : Nat} {s3 s4 s5 s6 s7 s8 s9 s10 s11 : Sl} {Q : Fl × Env → Prop} (hq : Pl n q) (hn : n < 2 ^ 49) (Lc : Lot cs) (k1 : 1 ≤ k) (k3 : k ≤ 3) (h3 : s3 = .fz (.list (strsD cs)) ∨ s3 = .ow .fr (.list (strsD cs)))
    (f4 : freeK (some s4) = true) (f5 : freeK (some s5) = true) (g5 : plaK (some s5) = true) (f6 : freeK (some s6) = true) (g6 : plaK (some s6) = true) (f8 : freeK (some s8) = true) (f9 : plaK (some s9) = true) (f10 : freeK (some s10) = true) (f11 : freeK (some s11) = true)
    (K0 : ∀ t3 t8, prsG k cs = [] → (t3 = .fz (.list (strsD cs)) ∨ t3 = .ow .fr (.list (strsD cs))) → freeK (some t8) = true → Q (.nx, [.ow .pn q, .fz L, .fz (.int k), t3, .ow .fr (.list []), s5, s6, s7, t8, s9, s10, s11]))
    (K1 : ∀ q' u v cs' t3 t5 t6 t8 t10 t11, prsG k cs ≠ [] → Pl (n + 1) q' → freeK (some t5) = true → plaK (some t5) = true → freeK (some t6) = true → plaK (some t6) = true → freeK (some t8) = true → freeK (some t10) = true → freeK (some t11) = true → (t3 = .fz (.list (strsD cs')) ∨ t3 = .ow .fr (.list (strsD cs'))) →
      ((k ≠ 2 ∧ Begun cs u v ∧ cs' = sortW (cutL cs u v)) ∨ (k > 1 ∧ Begun (revW cs) u v ∧ cs' = sortW (cutR cs u v))) → Q (.nx, [.ow .pn q', .fz L, .fz (.int k), t3, .ow .fr (.list (prsG k cs)), t5, t6, s7, t8, s9, t10, t11])) :
    Ev (bodyB [.ow .pn q, .fz L, .fz (.int k), s3, s4, s5, s6, s7, s8, s9, s10, s11]) Q := by
  have few := Lc.few
  have fin : ∀ t3 t8, (t3 = .fz (.list (strsD cs)) ∨ t3 = .ow .fr (.list (strsD cs))) → freeK (some t8) = true → Ev (endB [.ow .pn q, .fz L, .fz (.int k), t3, .ow .fr (.list (prsG k cs)), s5, s6, s7, t8, s9, s10, s11]) Q := fun t3 t8 ht h8 => by
    unfold endB
    simp_arith [dNe_nil (prsG_hd k cs)]
    by_cases e : prsG k cs = []
    · rw [if_neg (not_not_intro e)]
      rw [e]
      exact K0 t3 t8 e ht h8
    · rw [if_pos e]
      refine ev_cutB hq hn Lc ht rfl e (by have := prsG_len (k := k) Lc; omega) (prsG_ok k cs) f5 f6 f9 f10 f11 fun q' u v cs' t3 t5 t6 t10 t11 a1 a2 a3 a4 a5 a6 a7 a8 a9 => K1 q' u v cs' t3 t5 t6 t8 t10 t11 e a1 a2 a3 a4 a5 h8 a6 a7 a8 a9
  have k0 : (k = 0) = False := by simp; omega
  have fr := Lc.rev.few
  unfold bodyB
  have bl := begunL_len cs
  have br := begunL_len (revW cs)
  rw [revW_len] at br
  have c8 : cs.length * cs.length ≤ 8 * 8 := Nat.mul_le_mul few few
  rcases h3 with rfl | rfl
  all_goals
    simp_arith [f4, dNe_i, dEq_i, k0]
    by_cases k2 : k = 2
    · rw [if_neg (not_not_intro k2)]
      have k1' : (k > 1) = True := by simp; omega
      have eP : prsG k cs = pairsI 1 (begunL (revW cs)) := by unfold prsG; rw [if_neg (not_not_intro k2), if_pos (by omega)]; rfl
      simp_arith [f8, f9, k0, dEq_i, k1']
      refine ev_lc_rev (ls := cs) (by rfl) (by omega) (fun w hw => by have := Lc.len w hw; omega) ?_
      simp_arith [f8, f9]
      refine ev_law_begun (fun w hw => by have := Lc.rev.len w hw; omega) (by omega) (.inl rfl) ?_
      simp_arith [f5, f6, g5, g6, f8]
      refine ev_lc_tag 1 5 6 (by decide) (by rfl) (by rfl) (by simp [pairsD]; omega) ?_
      simp_arith [f5, f6, g5, g6, f8, pairsI_len]
      rw [← eP]
      exact ⟨by omega, by first | exact fin _ _ (.inl rfl) rfl | exact fin _ _ (.inr rfl) rfl⟩
    · rw [if_pos k2]
      refine ev_law_begun (fun w hw => by have := Lc.len w hw; omega) (by omega) (by first | exact .inl rfl | exact .inr rfl) ?_
      simp_arith [f5, f6, g5, g6]
      refine ev_lc_tag 0 5 6 (by decide) (by rfl) (by rfl) (by simp [pairsD]; omega) ?_
      simp_arith [f5, f6, g5, g6, f8, k0, dEq_i]
      by_cases k3' : k > 1
      · rw [if_pos k3']
        have eP : prsG k cs = pairsI 0 (begunL cs) ++ pairsI 1 (begunL (revW cs)) := by unfold prsG; rw [if_pos k2, if_pos k3']
        simp_arith [f8, f9, k0, dEq_i]
        refine ev_lc_rev (ls := cs) (by rfl) (by omega) (fun w hw => by have := Lc.len w hw; omega) ?_
        simp_arith [f8, f9]
        refine ev_law_begun (fun w hw => by have := Lc.rev.len w hw; omega) (by omega) (.inl rfl) ?_
        simp_arith [f5, f6, g5, g6, f8]
        refine ev_lc_tag 1 5 6 (by decide) (by rfl) (by rfl) (by simp [pairsD]; omega) ?_
        simp_arith [f5, f6, g5, g6, f8, pairsI_len]
        rw [← eP]
        exact ⟨by omega, by first | exact fin _ _ (.inl rfl) rfl | exact fin _ _ (.inr rfl) rfl⟩
      · rw [if_neg k3']
        have eP : prsG k cs = pairsI 0 (begunL cs) := by unfold prsG; rw [if_pos k2, if_neg k3', List.append_nil]
        rw [← eP]
        first | exact fin _ _ (.inl rfl) f8 | exact fin _ _ (.inr rfl) f8
def JC (ls : List Wd) (k : Int) (n m : Nat) (env : Env) : Prop := ∃ q cs pr s3 s4 s5 s6 s7 s8 s9 s10 s11, freeK (some s5) = true ∧ plaK (some s5) = true ∧ freeK (some s6) = true ∧ plaK (some s6) = true ∧ freeK (some s8) = true ∧ plaK (some s9) = true ∧ freeK (some s10) = true ∧ freeK (some s11) = true ∧
    env = [.ow .pn q, .fz (.list (strsD ls)), .fz (.int k), s3, s4, s5, s6, s7, s8, s9, s10, s11] ∧ (s3 = .fz (.list (strsD cs)) ∨ s3 = .ow .fr (.list (strsD cs))) ∧ (s4 = .fz (.list pr) ∨ s4 = .ow .fr (.list pr)) ∧ (∀ d ∈ pr, d.hasDict = false ∧ d.depth ≤ 60) ∧
    Lot cs ∧ cs.Pairwise LeW ∧ (∀ w, ClG (pG k) (sG k) (memP ls) w ↔ ClG (pG k) (sG k) (memP cs) w) ∧ (pr = [] → (k ≠ 2 → ∀ u v, ¬ Begun cs u v) ∧ (k > 1 → ∀ u v, ¬ Begun (revW cs) u v)) ∧ szL cs + (if pr = [] then 0 else 1) ≤ m ∧ Pl (n + 100 - m) q ∧ m ≤ 100
/-- the law's cuts, at the ends that k says -/
theorem ev_all_cut {ls : List Wd} {p : D} {n : Nat} {k : Int} {Q : Rv × Env → Prop} (hp : Pl n p) (hn : n < 2 ^ 48) (L : Lot ls) (k1 : 1 ≤ k) (k3 : k ≤ 3)
    (K : ∀ fs p' r, (r = .val (.list (strsD fs)) ∨ r = .new (.list (strsD fs))) → HullG (pG k) (sG k) ls fs → Pl (n + 200) p' → Q (r, [.ow .pn p', .fz (.list (strsD ls)), .fz (.int k)])) :
    Ev (M_law_all_cut [.ow .pn p, .fz (.list (strsD ls)), .fz (.int k)]) Q := by
  refine Ev_defI ⟨rfl, rfl⟩ ?_
  have eb : B_law_all_cut = mSeq (mAsg (mTup [(mCallB dSorted [(mVar 1)]), (mList [(mTup [(mC (.str "")), (mC (.str ""))])])]) (mTupG [(mName 3), (mName 4)]))
    (mSeq (mWhile (mTest (mBin dNe (mVar 4) (mList []))) bodyB) (mRet (mVar 3))) := rfl
  rw [eb]
  have L0 := L.sort
  simp_arith [dSorted_W]
  refine ev_while (JC ls k n) ?_ (szL (sortW ls) + 1) _ ?_
  · rintro m env ⟨q, cs, pr, s3, s4, s5, s6, s7, s8, s9, s10, s11, f5, g5, f6, g6, f8, g9, f10, f11, rfl, h3, h4, hd, Lc, sc, cc, hn0, sz, hq, hm⟩
    have done : pr = [] → HullG (pG k) (sG k) ls cs := fun e => ⟨Lc, sc, fun h => pf_of ((hn0 e).1 (by simpa using h)), fun h => sf_of ((hn0 e).2 (by simpa using h)), cc⟩
    have f4 : freeK (some s4) = true := by rcases h4 with rfl | rfl <;> rfl
    have body : ∀ Q', pr ≠ [] → 0 < m ∧ Ev (bodyB [.ow .pn q, .fz (.list (strsD ls)), .fz (.int k), s3, s4, s5, s6, s7, s8, s9, s10, s11]) (turnQ (JC ls k n (m - 1)) Q') := fun Q' e => by
      rw [if_neg e] at sz
      refine ⟨by omega, ev_bodyB hq (by omega) Lc k1 k3 h3 f4 f5 g5 f6 g6 f8 g9 f10 f11 (fun t3 t8 hz ht h8 => ?_) fun q' u v cs' t3 t5 t6 t8 t10 t11 hnz hq' a5 b5 a6 b6 a8 a10 a11 ht hc => ?_⟩
      · show JC _ _ _ _ _
        exact ⟨q, cs, [], _, _, _, _, _, _, _, _, _, f5, g5, f6, g6, h8, g9, f10, f11, rfl, ht, .inr rfl, fun d hd => by simp at hd, Lc, sc, cc, fun _ => prsG_nil hz, by rw [if_pos rfl]; omega, hq.mono (by omega), by omega⟩
      · show JC _ _ _ _ _
        rcases hc with ⟨hk, hb, rfl⟩ | ⟨hk, hb, rfl⟩
        · have z1 := cut_sz Lc hb
          have z2 := szL_perm (sortW_perm (cutL cs u v))
          refine ⟨q', _, _, _, _, _, _, _, _, _, _, _, a5, b5, a6, b6, a8, g9, a10, a11, rfl, ht, .inr rfl, prsG_hd k cs, (cut_lot Lc hb).sort, sortW_pw _, fun w => (cc w).trans ?_, fun z => absurd z hnz, by rw [if_neg hnz]; omega, hq'.mono (by omega), by omega⟩
          have ep : pG k = true := by simpa using hk
          rw [ep]
          exact (clG_of_cl (cut_cl hb) w).trans (clG_perm (fun x => sortW_mem.symm) w)
        · have z1 := cutR_sz Lc hb
          have z2 := szL_perm (sortW_perm (cutR cs u v))
          refine ⟨q', _, _, _, _, _, _, _, _, _, _, _, a5, b5, a6, b6, a8, g9, a10, a11, rfl, ht, .inr rfl, prsG_hd k cs, (cutR_lot Lc hb).sort, sortW_pw _, fun w => (cc w).trans ?_, fun z => absurd z hnz, by rw [if_neg hnz]; omega, hq'.mono (by omega), by omega⟩
          have ep : sG k = true := by simpa using hk
          rw [ep]
          exact (cutR_cl hb w).trans (clG_perm (fun x => sortW_mem.symm) w)
    rcases h4 with rfl | rfl
    all_goals
      simp_arith [dNe_nil hd]
      by_cases e : pr = []
      · rw [if_neg (not_not_intro e)]
        rcases h3 with rfl | rfl
        all_goals
          simp_arith [Ev_eq]
          first
            | exact K cs q _ (.inl rfl) (done e) (hq.mono (by omega))
            | exact K cs q _ (.inr rfl) (done e) (hq.mono (by omega))
      · rw [if_pos e]
        exact body _ e
  · have d2 : ∀ d ∈ [PyData.tuple [.str ("" : Str), .str ("" : Str)]], d.hasDict = false ∧ d.depth ≤ 60 := fun d hd => by
      rw [List.mem_singleton.mp hd]; exact dt2' _ _
    have szb := szL_bound L0
    exact ⟨p, sortW ls, _, _, _, _, _, _, _, _, _, _, rfl, rfl, rfl, rfl, rfl, rfl, rfl, rfl, rfl, .inl rfl, .inl rfl, d2, L0, sortW_pw ls, clG_perm (fun x => sortW_mem.symm), fun h => by simp at h, by simp, hp.mono (by omega), by omega⟩
end DL
namespace DL
open PySem PySem.Spec L2
noncomputable def B_apart_from_right : MS := (mRet (mCallB dSorted [(mLc (mIter (mCallF M_apart_from_left [.c] [(mLc (mIter (mVar 0)) (Tg.m (.nm 1)) mYes (mUn dRev (mVar 1)) [1])])) (Tg.m (.nm 1)) mYes (mUn dRev (mVar 1)) [1])]))
noncomputable def M_apart_from_right : FM := mDef 1 2 B_apart_from_right

noncomputable def B_right_hull : MS := (mRet (mCallF M_apart_from_right [.c] [(mUn (dFld "Stock" "kept_words") (mVar 0))]))
noncomputable def M_right_hull : FM := mDef 1 1 B_right_hull

noncomputable def B_law_right_k25 : MS := (mSeq (mAsg (mCallF M_law_some [.p] [(mVar 0)]) (mName 1))
  (mSeq (mPar [2, 3] [(mMake "Stock" M_Stock_init [(mCallB dListOf [(mVar 1)])]), (mCallF M_law_all_cut [.p, .c, .c] [(mVar 0), (mVar 1), (mC (.int 2))])])
  (mSeq (mAsg (mMake "Stock" M_Stock_init [(mCallF M_law_shaken [.p, .c] [(mVar 0), (mVar 1)])]) (mName 4))
  (mSeq (mIfS (mTest (mBin dNe (mList [(mCallF M_right_hull [.c] [(mVar 2)]), (mCallK M_right_hull [0] 0 1 [] [(mVar 2)]), (mCallF M_right_hull [.c] [(mVar 4)])]) (mList [(mVar 3), (mVar 3), (mVar 3)]))) (mRet (mC (.bool false))) mPass)
  (mSeq (mAsg (mCallF M_right_hull [.c] [(mVar 2)]) (mName 5))
  (mSeq (mIfS (mTest (mBin dNe (mCallF M_law_begun [.c] [(mLc (mIter (mVar 5)) (Tg.m (.nm 6)) mYes (mUn dRev (mVar 6)) [6])]) (mList []))) (mRet (mC (.bool false))) mPass)
  (mSeq (mAppend 5 (mC (.str "")))
  (mRet (mVal (mAnd (mTest (mBin dEq (mCallF M_right_hull [.c] [(mVar 2)]) (mVar 3))) (mTest (mBin dEq (mProp "Stock" M_Stock_words (mVar 2)) (mVar 1)))))))))))))
noncomputable def M_law_right_k25 : FM := mDef 1 7 B_law_right_k25

noncomputable def B_law_k25 : MS := (mSeq (mFor (mRange rngOf1 [(mCallB dMax2 [(mC (.int 1)), (mCallB dMin2 [(mC (.int 5)), (mCallB dLen [(mVar 0)])])])]) (mName 1) (mSeq (mAsg (mCallF M_law_pool [.l, .c] [(mVar 0), (mVar 1)]) (mName 2))
  (mFor (mRange rngOf1 [(mC (.int 8))]) (mName 3) (mIfS (mNot (mTest (mCallF M_law_right_k25 [.p] [(mVar 2)]))) (mRet (mC (.bool false))) mPass))))
  (mRet (mC (.bool true))))
noncomputable def M_law_k25 : FM := mDef 1 4 B_law_k25
end DL
namespace DL
open PySem PySem.Spec L2
local macro_rules
  | `(tactic| simp_arith [$xs,*]) => `(tactic| simp only [$xs,*, ↓Ev_eq, ↓iV_ok, ↓iV_bind, ↓iV_stuck, ↓iV_ite, ↓iV_bindN, ↓iV_some, ↓iV_none, ↓iV_oifG, ↓iV_gif, ↓iv_c, ↓iv_bin, ↓iv_un, ↓iv_test, ↓iv_and, ↓iv_or, ↓iv_not, ↓iv_val, ↓iv_if, ↓iv_yes, ↓iv_ds_nil, ↓iv_ds_cons, ↓iv_rs_nil, ↓iv_rs_cons, ↓iv_list, ↓iv_tup, ↓iv_callB, ↓iv_part, ↓iv_nopart, ↓iv_sl, ↓iv_meth, ↓iv_repr, ↓iv_rne, ↓iv_req, ↓iv_chain, ↓iv_pass, ↓iv_break, ↓iv_cont, ↓iv_never, ↓iv_seq, ↓iv_ret, ↓iv_retN, ↓iv_ifS, ↓iv_drop, ↓iv_asg, ↓iv_name_val, ↓iv_name_new, ↓iv_name_sl, ↓iv_tupG, ↓iv_asg_nil, ↓iv_asg_cons, ↓iv_setIx, ↓iv_append, ↓iv_aug, ↓iv_as_nil, ↓iv_as_t, ↓iv_as_f, ↓iv_as_l, ↓iv_callF, ↓iv_callK, ↓iv_range, ↓iv_iter, ↓iv_for, ↓iv_lc, ↓iv_par, ↓iv_hs_nil, ↓iv_hs_cons, ↓iv_listS, ↓iv_ss_nil, ↓iv_ss_one, ↓iv_ss_star, ↓iv_enum, ↓iv_make, ↓iv_prop, ↓iv_fldS, ↓iv_pop, ↓iv_popAt, ↓iv_extend, ↓iv_augIx, iV_ok, iV_bind, iV_stuck, iV_ite, iV_bindN, iV_some, iV_none, iV_oifG, iV_gif, iv_c, iv_bin, iv_un, iv_test, iv_and, iv_or, iv_not, iv_val, iv_if, iv_yes, iv_ds_nil, iv_ds_cons, iv_rs_nil, iv_rs_cons, iv_list, iv_tup, iv_callB, iv_part, iv_nopart, iv_sl, iv_meth, iv_repr, iv_rne, iv_req, iv_chain, iv_pass, iv_break, iv_cont, iv_never, iv_seq, iv_ret, iv_retN, iv_ifS, iv_drop, iv_asg, iv_name_val, iv_name_new, iv_name_sl, iv_tupG, iv_asg_nil, iv_asg_cons, iv_setIx, iv_append, iv_aug, iv_as_nil, iv_as_t, iv_as_f, iv_as_l, iv_callF, iv_callK, iv_range, iv_iter, iv_for, iv_lc, iv_par, iv_hs_nil, iv_hs_cons, iv_listS, iv_ss_nil, iv_ss_one, iv_ss_star, iv_enum, iv_make, iv_prop, iv_fldS, iv_pop, iv_popAt, iv_extend, iv_augIx, seqK_nx, seqK_bk, seqK_ct, seqK_rt, tupK_tup, asgK_nx, setN_some, setK_some, appK_some, augS_some, augK_fz, asK_sl, asL_sl, asL_val, backK_val, backK_new, callA_some, backN_val, backN_new, rngK_some, optR_some, optR_if, itK_some, chK_b, turnQ_nx, turnQ_ct, turnQ_bk, turnQ_rt, varK_fz, varK_ow, mVar_eq, mC_eq, data_val, data_new, datK_fz, datK_ow, data_sl, frz_val, frz_new, frzK_fz, frzK_ow, frz_sl, freeK_no, freeK_fz, freeK_ow, free_eq, ownL_eq, ownK_fr, ownK_pn, datas_nil, consD_ok, datas_cons', asB_b, asI_i, argSl_d, argSl_s, argSl_l, argL_fz, argL_ow, argK_fz, argK_fr, argK_pn, consO_some, mkArgs_nil, mkArgs_cons, slotsOf_nil, slotsOf_d, slotsOf_s, slotsOf_l, noDup_nil, noDup_one, noDup_two, putK_ow, putK_fz, putBack_nil, putBack_d, putBack_s, putBack_l, outEnv_nil, outEnv_fz, outEnv_ow, finR_val, finR_new, finR_sl, finK_fz, finK_ow, finQ_nx, finQ_rt, lockR_val, lockR_new, lockR_sl, lokK_fz, lokK_fr, lokK_lk, lockB_none, lockB_some, lokB_no, lokB_fz, lokB_fr, unlock_none, unlock_some, unlK_lk, optR_map_some, optR_map_if, wipeE_nil, wipeE_cons, backE_nil, backE_cons, plainAt_eq, plaK_no, plaK_fz, tgm_nm, tgm_tp, tgms_nil, tgms_cons, dLt_i, dLe_i, dGt_i, dGe_i, dLt_s, dLe_s, dGt_s, dGe_s, okD_int, okD_str, okD_bool, okD_none, dMax2_i, dMin2_i, atD3_0, atD3_1, atD3_2, ixN3_0, ixN3_1, ixN3_2, dAdd, dSub, dDiv, dMod, dPow, dMul, dNeg, dAbs, dInt, dLen, dIs, dIsNot, dIAdd, isNon, dIx, dSl, dRev, itemsD, List.getElem?_cons_zero, List.getElem?_cons_succ, List.getElem?_nil, List.set_cons_zero, List.set_cons_succ, List.set_nil, List.map_cons, List.map_nil, List.length_cons, List.length_nil, List.getD_cons_zero, List.getD_cons_succ, List.all_cons, List.all_nil, List.cons_append, List.nil_append, Option.isSome_some, Option.map_some, Option.map_none, true_and, and_true, Bool.and_true, Bool.true_and, Bool.not_true, Bool.not_false, if_true, if_false, ite_true, ite_false, decide_eq_true_eq, Bool.not_eq_true, Bool.not_eq_true', decide_eq_false_iff_not, not_true, not_false_iff, rngOf1, rngOf2, seqR_some, enumR_some, mkK_ok, prK_val, prK_new, fldR_some, fldS_fr, fldS_pn, popK_some, popR_some, popAK_some, popAR_some, extK_some, augM_some, augN_int, augJ_some, augI_int, seqD, hold_val, hold_new, hold_sl, slOf_val, slOf_new, storeHs_nil, storeHs_cons, isStrD_s, atD2_0, atD2_1, atD1_0, ite_and, and_false, false_and, or_false, false_or, or_true, true_or, reduceIte, reduceCtorEq, List.reduceReplicate, Nat.reduceSub, Nat.reduceAdd, Nat.reduceLeDiff, Int.reduceLT, Int.reduceLE, Int.reduceEq, Int.reduceMod, Int.reduceDiv, Int.reduceMul, Int.reduceAdd, Int.reduceSub, Int.reduceNeg, Int.reduceToNat, Bool.false_eq_true, lineM])
theorem sortW_sorted {ls : List Wd} (h : ls.Pairwise LeW) : sortW ls = ls := sortedW_uniq (sortW_pw ls) h (sortW_perm ls)
theorem ev_apart_right {d0 : D} {ls : List Wd} {Q : Rv × Env → Prop} (L : Lot ls) (hd : d0 = .list (strsD ls) ∨ d0 = .tuple (strsD ls)) (k : ∀ fs, HullG false true ls fs → (szL fs < szL ls ∨ fs = sortW ls) → Q (.new (.list (strsD fs)), [.fz d0])) : Ev (M_apart_from_right [.fz d0]) Q := by
  refine Ev_defI ⟨rfl, rfl⟩ ?_
  unfold B_apart_from_right
  have few := L.few
  rcases hd with rfl | rfl
  all_goals
    simp_arith [Ev_eq]
    refine ev_lc_rev (ls := ls) (by rfl) (by omega) (fun w hw => by have := L.len w hw; omega) ?_
    simp_arith [Ev_eq]
    refine ev_apart L.rev (dSorted_W _) fun fs hf hs => ?_
    have ff := hf.lot.few
    simp_arith [Ev_eq]
    refine ev_lc_rev (ls := fs) (by rfl) (by omega) (fun w hw => by have := hf.lot.len w hw; omega) ?_
    simp_arith [dSorted_W]
    refine k _ (hullR hf) ?_
    rw [szL_perm (sortW_perm _), szL_rev]
    rw [szL_rev] at hs
    rcases hs with h | h
    · exact .inl h
    · refine .inr (sortW_of ?_)
      rw [h]
      have := revW_perm (sortW_perm (revW ls))
      rwa [revW_revW] at this
theorem sh_words : ∀ {ls : List Wd}, (∀ w ∈ ls, Ltr w ∧ w.length ≤ 8) → ShL (strsD ls) 0 (ls.length * 9)
  | [], _ => by simpa [strsD] using ShL.nil (k := 0)
  | w :: ls, h => by
    rw [strsD_cons]
    have ih := sh_words (ls := ls) fun x hx => h x (List.mem_cons_of_mem _ hx)
    obtain ⟨h1, h2⟩ := h w (by simp)
    exact (ShL.cons (Sh.str h1.ok) ih).mono (Nat.le_refl _) (by simp only [List.length_cons]; omega)
theorem begunL_none {ls : List Wd} (h : Pf (memP ls)) : begunL ls = [] := List.eq_nil_iff_forall_not_mem.mpr fun ⟨u, v⟩ h1 => by
  have hb := begunL_mem.mp h1
  exact hb.rest (h u _ hb.hu (by rw [← begins_eq hb.bg]; exact hb.hv))
theorem begunR_none {ls : List Wd} (h : Sf (memP ls)) : begunL (revW ls) = [] := begunL_none (by rw [revW_memP]; exact sf_pf h)
end DL
namespace DL
open PySem PySem.Spec L2
local macro_rules
  | `(tactic| simp_arith [$xs,*]) => `(tactic| simp only [$xs,*, ↓Ev_eq, ↓iV_ok, ↓iV_bind, ↓iV_stuck, ↓iV_ite, ↓iV_bindN, ↓iV_some, ↓iV_none, ↓iV_oifG, ↓iV_gif, ↓iv_c, ↓iv_bin, ↓iv_un, ↓iv_test, ↓iv_and, ↓iv_or, ↓iv_not, ↓iv_val, ↓iv_if, ↓iv_yes, ↓iv_ds_nil, ↓iv_ds_cons, ↓iv_rs_nil, ↓iv_rs_cons, ↓iv_list, ↓iv_tup, ↓iv_callB, ↓iv_part, ↓iv_nopart, ↓iv_sl, ↓iv_meth, ↓iv_repr, ↓iv_rne, ↓iv_req, ↓iv_chain, ↓iv_pass, ↓iv_break, ↓iv_cont, ↓iv_never, ↓iv_seq, ↓iv_ret, ↓iv_retN, ↓iv_ifS, ↓iv_drop, ↓iv_asg, ↓iv_name_val, ↓iv_name_new, ↓iv_name_sl, ↓iv_tupG, ↓iv_asg_nil, ↓iv_asg_cons, ↓iv_setIx, ↓iv_append, ↓iv_aug, ↓iv_as_nil, ↓iv_as_t, ↓iv_as_f, ↓iv_as_l, ↓iv_callF, ↓iv_callK, ↓iv_range, ↓iv_iter, ↓iv_for, ↓iv_lc, ↓iv_par, ↓iv_hs_nil, ↓iv_hs_cons, ↓iv_listS, ↓iv_ss_nil, ↓iv_ss_one, ↓iv_ss_star, ↓iv_enum, ↓iv_make, ↓iv_prop, ↓iv_fldS, ↓iv_pop, ↓iv_popAt, ↓iv_extend, ↓iv_augIx, iV_ok, iV_bind, iV_stuck, iV_ite, iV_bindN, iV_some, iV_none, iV_oifG, iV_gif, iv_c, iv_bin, iv_un, iv_test, iv_and, iv_or, iv_not, iv_val, iv_if, iv_yes, iv_ds_nil, iv_ds_cons, iv_rs_nil, iv_rs_cons, iv_list, iv_tup, iv_callB, iv_part, iv_nopart, iv_sl, iv_meth, iv_repr, iv_rne, iv_req, iv_chain, iv_pass, iv_break, iv_cont, iv_never, iv_seq, iv_ret, iv_retN, iv_ifS, iv_drop, iv_asg, iv_name_val, iv_name_new, iv_name_sl, iv_tupG, iv_asg_nil, iv_asg_cons, iv_setIx, iv_append, iv_aug, iv_as_nil, iv_as_t, iv_as_f, iv_as_l, iv_callF, iv_callK, iv_range, iv_iter, iv_for, iv_lc, iv_par, iv_hs_nil, iv_hs_cons, iv_listS, iv_ss_nil, iv_ss_one, iv_ss_star, iv_enum, iv_make, iv_prop, iv_fldS, iv_pop, iv_popAt, iv_extend, iv_augIx, seqK_nx, seqK_bk, seqK_ct, seqK_rt, tupK_tup, asgK_nx, setN_some, setK_some, appK_some, augS_some, augK_fz, asK_sl, asL_sl, asL_val, backK_val, backK_new, callA_some, backN_val, backN_new, rngK_some, optR_some, optR_if, itK_some, chK_b, turnQ_nx, turnQ_ct, turnQ_bk, turnQ_rt, varK_fz, varK_ow, mVar_eq, mC_eq, data_val, data_new, datK_fz, datK_ow, data_sl, frz_val, frz_new, frzK_fz, frzK_ow, frz_sl, freeK_no, freeK_fz, freeK_ow, free_eq, ownL_eq, ownK_fr, ownK_pn, datas_nil, consD_ok, datas_cons', asB_b, asI_i, argSl_d, argSl_s, argSl_l, argL_fz, argL_ow, argK_fz, argK_fr, argK_pn, consO_some, mkArgs_nil, mkArgs_cons, slotsOf_nil, slotsOf_d, slotsOf_s, slotsOf_l, noDup_nil, noDup_one, noDup_two, putK_ow, putK_fz, putBack_nil, putBack_d, putBack_s, putBack_l, outEnv_nil, outEnv_fz, outEnv_ow, finR_val, finR_new, finR_sl, finK_fz, finK_ow, finQ_nx, finQ_rt, lockR_val, lockR_new, lockR_sl, lokK_fz, lokK_fr, lokK_lk, lockB_none, lockB_some, lokB_no, lokB_fz, lokB_fr, unlock_none, unlock_some, unlK_lk, optR_map_some, optR_map_if, wipeE_nil, wipeE_cons, backE_nil, backE_cons, plainAt_eq, plaK_no, plaK_fz, tgm_nm, tgm_tp, tgms_nil, tgms_cons, dLt_i, dLe_i, dGt_i, dGe_i, dLt_s, dLe_s, dGt_s, dGe_s, okD_int, okD_str, okD_bool, okD_none, dMax2_i, dMin2_i, atD3_0, atD3_1, atD3_2, ixN3_0, ixN3_1, ixN3_2, dAdd, dSub, dDiv, dMod, dPow, dMul, dNeg, dAbs, dInt, dLen, dIs, dIsNot, dIAdd, isNon, dIx, dSl, dRev, itemsD, List.getElem?_cons_zero, List.getElem?_cons_succ, List.getElem?_nil, List.set_cons_zero, List.set_cons_succ, List.set_nil, List.map_cons, List.map_nil, List.length_cons, List.length_nil, List.getD_cons_zero, List.getD_cons_succ, List.all_cons, List.all_nil, List.cons_append, List.nil_append, Option.isSome_some, Option.map_some, Option.map_none, true_and, and_true, Bool.and_true, Bool.true_and, Bool.not_true, Bool.not_false, if_true, if_false, ite_true, ite_false, decide_eq_true_eq, Bool.not_eq_true, Bool.not_eq_true', decide_eq_false_iff_not, not_true, not_false_iff, rngOf1, rngOf2, seqR_some, enumR_some, mkK_ok, prK_val, prK_new, fldR_some, fldS_fr, fldS_pn, popK_some, popR_some, popAK_some, popAR_some, extK_some, augM_some, augN_int, augJ_some, augI_int, seqD, hold_val, hold_new, hold_sl, slOf_val, slOf_new, storeHs_nil, storeHs_cons, isStrD_s, atD2_0, atD2_1, atD1_0, ite_and, and_false, false_and, or_false, false_or, or_true, true_or, reduceIte, reduceCtorEq, List.reduceReplicate, Nat.reduceSub, Nat.reduceAdd, Nat.reduceLeDiff, Int.reduceLT, Int.reduceLE, Int.reduceEq, Int.reduceMod, Int.reduceDiv, Int.reduceMul, Int.reduceAdd, Int.reduceSub, Int.reduceNeg, Int.reduceToNat, Bool.false_eq_true, lineM])
/-- numbers by their places -/
def fD (n : Nat) (F : Nat → Int) : List D := (List.range n).map fun q => PyData.int (F q)
theorem fD_len (n : Nat) (F : Nat → Int) : (fD n F).length = n := by simp [fD]
theorem fD_get {n : Nat} (F : Nat → Int) {q : Nat} (h : q < n) : (fD n F)[q]? = some (.int (F q)) := by unfold fD; rw [List.getElem?_map, List.getElem?_range h]; rfl
theorem fD_set {n : Nat} (F : Nat → Int) (p : Nat) (v : Int) : (fD n F).set p (.int v) = fD n (fun q => if q = p then v else F q) := by
  refine List.ext_getElem? fun i => ?_
  by_cases hi : i < n
  · rw [fD_get _ hi]
    by_cases e : p = i
    · subst e; rw [List.getElem?_set_self (by rw [fD_len]; exact hi), if_pos rfl]
    · rw [List.getElem?_set_ne e, fD_get _ hi, if_neg (Ne.symm e)]
  · rw [List.getElem?_eq_none (by rw [List.length_set, fD_len]; omega), List.getElem?_eq_none (by rw [fD_len]; omega)]
theorem fD_congr {n : Nat} {F G : Nat → Int} (h : ∀ q, q < n → F q = G q) : fD n F = fD n G := by
  unfold fD
  exact List.map_congr_left fun q hq => by rw [h q (List.mem_range.mp hq)]
theorem rep_fD (n : Nat) : ∀ m, (List.replicate n [PyData.int m]).flatten = fD n (fun _ => m) := fun m => by
  induction n with
  | zero => rfl
  | succ n ih =>
    rw [List.replicate_succ', List.flatten_append, ih]
    unfold fD
    rw [List.range_succ, List.map_append]; rfl
theorem fD_snoc (n : Nat) (F : Nat → Int) (v : Int) : fD n F ++ [.int v] = fD (n + 1) (fun q => if q = n then v else F q) := by
  unfold fD
  rw [List.range_succ, List.map_append]
  congr 1
  · exact List.map_congr_left fun q hq => by show _ = PyData.int (if q = n then v else F q); rw [if_neg (Nat.ne_of_lt (List.mem_range.mp hq))]
  · simp
theorem rg_fD (n : Nat) : rgD 0 (n : Int) = fD n (fun q => (q : Int)) := by
  unfold rgD fD
  have : ((n : Int) - 0).toNat = n := by omega
  rw [this]
  exact List.map_congr_left fun q _ => by rw [Int.zero_add]
theorem fD_rev (n : Nat) (F : Nat → Int) : (fD n F).reverse = fD n (fun q => F (n - 1 - q)) := by
  refine List.ext_getElem? fun i => ?_
  by_cases hi : i < n
  · rw [fD_get _ hi, List.getElem?_reverse (by rw [fD_len]; exact hi), fD_len, fD_get _ (by omega)]
  · rw [List.getElem?_eq_none (by rw [List.length_reverse, fD_len]; omega), List.getElem?_eq_none (by rw [fD_len]; omega)]
theorem fD_at {n : Nat} {F : Nat → Int} {pre post : List D} {d : D} (h : fD n F = pre ++ d :: post) : pre.length < n ∧ d = .int (F pre.length) := by
  have l := congrArg List.length h
  rw [fD_len, List.length_append, List.length_cons] at l
  have e := congrArg (fun l => l[pre.length]?) h
  simp only [List.getElem?_append_right (Nat.le_refl _), Nat.sub_self, List.getElem?_cons_zero] at e
  rw [fD_get _ (by omega)] at e
  exact ⟨by omega, (Option.some.inj e).symm⟩
/-- what a word gives at a place -/
def termW (ls : List Wd) (t : Wd) (p : Nat) (w : Wd) : Nat := if (t.drop p).take w.length = w then cntT ls (t.drop (p + w.length)) else 0
theorem term_sum {ls : List Wd} (ne : ∀ w ∈ ls, w ≠ []) {t : Wd} {p : Nat} (h : p < t.length) : (ls.map (termW ls t p)).sum = cntT ls (t.drop p) := by
  rw [cntT_step ne (t := t.drop p) (fun z => by have := congrArg List.length z; rw [List.length_drop] at this; simp at this; omega)]
  congr 1
  refine List.map_congr_left fun w _ => ?_
  unfold termW
  rw [List.drop_drop]
/-- whole numbers from 0 on, by their places -/
def nD (n : Nat) (F : Nat → Nat) : List D := fD n fun q => ((F q : Nat) : Int)
theorem nD_len (n : Nat) (F : Nat → Nat) : (nD n F).length = n := fD_len _ _
theorem nD_get {n : Nat} (F : Nat → Nat) {q : Nat} (h : q < n) : (nD n F)[q]? = some (.int ((F q : Nat) : Int)) := fD_get _ h
theorem nD_set {n : Nat} (F : Nat → Nat) (p a b : Nat) : (nD n F).set p (.int ((a : Int) + (b : Int))) = nD n (fun q => if q = p then a + b else F q) := by
  unfold nD
  rw [fD_set]
  refine fD_congr fun q _ => ?_
  dsimp only
  split
  · rw [Int.natCast_add]
  · rfl
theorem nD_congr {n : Nat} {F G : Nat → Nat} (h : ∀ q, q < n → F q = G q) : nD n F = nD n G := fD_congr fun q hq => by rw [h q hq]
theorem atD_nD {n : Nat} {F : Nat → Nat} {q : Nat} (h : q < n) : atD (nD n F) (q : Int) = some (.int ((F q : Nat) : Int)) := by
  unfold atD ixN
  rw [nD_len, if_pos (by omega), if_pos (by omega), Option.bind_some]
  exact nD_get F h
def stg (ls : List Wd) (t : Wd) (m q : Nat) : Nat := if t.length ≤ q + m then cntT ls (t.drop q) else 0
def stg2 (ls : List Wd) (t : Wd) (m p : Nat) (pre : List Wd) (q : Nat) : Nat := if q = p then (pre.map (termW ls t p)).sum else stg ls t m q
theorem ev_ways_behind {d0 : D} {ls : List Wd} {t : Wd} {Q : Rv × Env → Prop} (hd : itemsD d0 = some (strsD ls)) (ne : ∀ w ∈ ls, w ≠ []) (hl : ∀ w ∈ ls, w.length ≤ 100000) (few : ls.length ≤ 100000) (tl : t.length ≤ 100000)
    (k : Q (.new (.list (nD (t.length + 1) fun q => cntT ls (t.drop q))), [.fz d0, .fz (.str (S t))])) : Ev (M_ways_behind [.fz d0, .fz (.str (S t))]) Q := by
  refine Ev_defI ⟨rfl, rfl⟩ ?_
  unfold B_ways_behind
  have t1 : (t.length : Int) ≤ 16777216 ∧ -4611686018427387904 ≤ (t.length : Int) := by omega
  have t2 : (t.length : Int) < 10000000 ∧ -10000000 < (t.length : Int) ∧ 1 * ((t.length : Int)).toNat ≤ 16777216 := by omega
  simp_arith [S_len, dListRg, t1, if_pos t2, int_natToNat, rep_fD, fD_snoc, fD_len]
  refine ⟨by omega, by omega, by omega, by omega, ?_⟩
  have e0 : (fD (t.length + 1) fun q => if q = t.length then (1 : Int) else 0) = nD (t.length + 1) (stg ls t 0) := fD_congr fun q hq => by
    unfold stg
    by_cases z : q = t.length
    · rw [if_pos z, if_pos (by omega), z, List.drop_length, cntT_nil]; rfl
    · rw [if_neg z, if_neg (by omega)]; rfl
  rw [rg_fD, fD_rev, e0]
  refine ev_forD _ (fun pre _ env => ∃ s3 s4, freeK (some s3) = true ∧ freeK (some s4) = true ∧ env = [.fz d0, .fz (.str (S t)), .ow .fr (.list (nD (t.length + 1) (stg ls t pre.length))), s3, s4]) (name_nx 3) ?_ ?_ _ ⟨.no, .no, rfl, rfl, rfl⟩
  · rintro pre d post env e ⟨s3, s4, f3, f4, rfl⟩
    obtain ⟨hp, rfl⟩ := fD_at e
    obtain ⟨p, ep⟩ : ∃ p, p = t.length - 1 - pre.length := ⟨_, rfl⟩
    have pe : ((t.length - 1 - pre.length : Nat) : Int) = (p : Int) := by rw [ep]
    have pt : p < t.length := by omega
    have p62 : (0 : Int) ≤ (p : Int) ∧ (p : Int) < 2 ^ 62 := by omega
    have pn : p < t.length + 1 := by omega
    have e1 : nD (t.length + 1) (stg ls t pre.length) = nD (t.length + 1) (stg2 ls t pre.length p []) := nD_congr fun q _ => by
      unfold stg2
      by_cases z : q = p
      · rw [if_pos z]; unfold stg; rw [if_neg (by omega)]; rfl
      · rw [if_neg z]
    rw [pe, e1]
    simp_arith [f3, f4, ↓hd]
    refine ev_forW ls (fun pre2 env => ∃ s4, freeK (some s4) = true ∧ env = [.fz d0, .fz (.str (S t)), .ow .fr (.list (nD (t.length + 1) (stg2 ls t pre.length p pre2))), .fz (.int p), s4]) ?_ ?_ _ ⟨s4, f4, rfl⟩
    · rintro pre2 u post2 env e2 ⟨s4, f4, rfl⟩
      have hu : u ∈ ls := by rw [e2]; simp
      have ul := hl u hu
      have u0 : 0 < u.length := List.length_pos_iff.mpr (ne u hu)
      have c0 : (0 : Int) ≤ (p : Int) + (u.length : Int) := by omega
      have tn : ((p : Int) + (u.length : Int)).toNat - p = u.length := by omega
      simp_arith [f4, S_len, cut_both _ p62.1 c0, int_natToNat, tn, dEq_s, p62, nD_get _ pn]
      refine ⟨by omega, by omega, ?_⟩
      have nx : ∀ b : Nat, b = termW ls t p u → nD (t.length + 1) (fun q => if q = p then stg2 ls t pre.length p pre2 p + b else stg2 ls t pre.length p pre2 q) = nD (t.length + 1) (stg2 ls t pre.length p (pre2 ++ [u])) := fun b hb => nD_congr fun q _ => by
        unfold stg2
        by_cases z : q = p
        · rw [if_pos z, if_pos rfl, if_pos z, hb, List.map_append, List.sum_append]; simp
        · rw [if_neg z, if_neg z, if_neg z]
      by_cases b : (t.drop p).take u.length = u
      · rw [if_pos b]
        have le : p + u.length ≤ t.length := by
          have := congrArg List.length b
          rw [List.length_take, List.length_drop] at this
          omega
        have pi : (p : Int) + (u.length : Int) = ((p + u.length : Nat) : Int) := by omega
        have gv : stg2 ls t pre.length p pre2 (p + u.length) = termW ls t p u := by
          unfold stg2 stg termW
          rw [if_neg (by omega), if_pos (by omega), if_pos b]
        refine ⟨by omega, ?_⟩
        rw [pi, atD_nD (by omega)]
        simp_arith [nD_len, nD_set, pn]
        rw [nx _ gv]
        exact ⟨_, rfl, rfl⟩
      · rw [if_neg b]
        have tz : 0 = termW ls t p u := by unfold termW; rw [if_neg b]
        have := nx 0 tz
        have e3 : nD (t.length + 1) (stg2 ls t pre.length p pre2) = nD (t.length + 1) (stg2 ls t pre.length p (pre2 ++ [u])) := by
          rw [← this]
          refine nD_congr fun q _ => ?_
          by_cases z : q = p
          · rw [if_pos z, z]; rfl
          · rw [if_neg z]
        rw [e3]
        exact ⟨_, rfl, rfl⟩
    · rintro env ⟨s4, f4, rfl⟩
      simp_arith [Ev_eq]
      refine ⟨.fz (.int p), s4, rfl, f4, ?_⟩
      rw [nD_congr (n := t.length + 1) (F := stg2 ls t pre.length p ls) (G := stg ls t (pre ++ [PyData.int (p : Int)]).length) fun q hq => by
        unfold stg2 stg
        rw [List.length_append, List.length_singleton]
        by_cases z : q = p
        · rw [if_pos z, if_pos (by omega), term_sum ne pt, z]
        · rw [if_neg z]
          by_cases y : t.length ≤ q + pre.length
          · rw [if_pos y, if_pos (by omega)]
          · rw [if_neg y, if_neg (by omega)]]
  · rintro env ⟨s3, s4, f3, f4, rfl⟩
    simp_arith [Ev_eq]
    rw [nD_congr (G := fun q => cntT ls (t.drop q)) fun q hq => by unfold stg; rw [fD_len, if_pos (by omega)]]
    exact k
end DL
namespace DL
open PySem PySem.Spec L2
local macro_rules
  | `(tactic| simp_arith [$xs,*]) => `(tactic| simp only [$xs,*, ↓Ev_eq, ↓iV_ok, ↓iV_bind, ↓iV_stuck, ↓iV_ite, ↓iV_bindN, ↓iV_some, ↓iV_none, ↓iV_oifG, ↓iV_gif, ↓iv_c, ↓iv_bin, ↓iv_un, ↓iv_test, ↓iv_and, ↓iv_or, ↓iv_not, ↓iv_val, ↓iv_if, ↓iv_yes, ↓iv_ds_nil, ↓iv_ds_cons, ↓iv_rs_nil, ↓iv_rs_cons, ↓iv_list, ↓iv_tup, ↓iv_callB, ↓iv_part, ↓iv_nopart, ↓iv_sl, ↓iv_meth, ↓iv_repr, ↓iv_rne, ↓iv_req, ↓iv_chain, ↓iv_pass, ↓iv_break, ↓iv_cont, ↓iv_never, ↓iv_seq, ↓iv_ret, ↓iv_retN, ↓iv_ifS, ↓iv_drop, ↓iv_asg, ↓iv_name_val, ↓iv_name_new, ↓iv_name_sl, ↓iv_tupG, ↓iv_asg_nil, ↓iv_asg_cons, ↓iv_setIx, ↓iv_append, ↓iv_aug, ↓iv_as_nil, ↓iv_as_t, ↓iv_as_f, ↓iv_as_l, ↓iv_callF, ↓iv_callK, ↓iv_range, ↓iv_iter, ↓iv_for, ↓iv_lc, ↓iv_par, ↓iv_hs_nil, ↓iv_hs_cons, ↓iv_listS, ↓iv_ss_nil, ↓iv_ss_one, ↓iv_ss_star, ↓iv_enum, ↓iv_make, ↓iv_prop, ↓iv_fldS, ↓iv_pop, ↓iv_popAt, ↓iv_extend, ↓iv_augIx, iV_ok, iV_bind, iV_stuck, iV_ite, iV_bindN, iV_some, iV_none, iV_oifG, iV_gif, iv_c, iv_bin, iv_un, iv_test, iv_and, iv_or, iv_not, iv_val, iv_if, iv_yes, iv_ds_nil, iv_ds_cons, iv_rs_nil, iv_rs_cons, iv_list, iv_tup, iv_callB, iv_part, iv_nopart, iv_sl, iv_meth, iv_repr, iv_rne, iv_req, iv_chain, iv_pass, iv_break, iv_cont, iv_never, iv_seq, iv_ret, iv_retN, iv_ifS, iv_drop, iv_asg, iv_name_val, iv_name_new, iv_name_sl, iv_tupG, iv_asg_nil, iv_asg_cons, iv_setIx, iv_append, iv_aug, iv_as_nil, iv_as_t, iv_as_f, iv_as_l, iv_callF, iv_callK, iv_range, iv_iter, iv_for, iv_lc, iv_par, iv_hs_nil, iv_hs_cons, iv_listS, iv_ss_nil, iv_ss_one, iv_ss_star, iv_enum, iv_make, iv_prop, iv_fldS, iv_pop, iv_popAt, iv_extend, iv_augIx, seqK_nx, seqK_bk, seqK_ct, seqK_rt, tupK_tup, asgK_nx, setN_some, setK_some, appK_some, augS_some, augK_fz, asK_sl, asL_sl, asL_val, backK_val, backK_new, callA_some, backN_val, backN_new, rngK_some, optR_some, optR_if, itK_some, chK_b, turnQ_nx, turnQ_ct, turnQ_bk, turnQ_rt, varK_fz, varK_ow, mVar_eq, mC_eq, data_val, data_new, datK_fz, datK_ow, data_sl, frz_val, frz_new, frzK_fz, frzK_ow, frz_sl, freeK_no, freeK_fz, freeK_ow, free_eq, ownL_eq, ownK_fr, ownK_pn, datas_nil, consD_ok, datas_cons', asB_b, asI_i, argSl_d, argSl_s, argSl_l, argL_fz, argL_ow, argK_fz, argK_fr, argK_pn, consO_some, mkArgs_nil, mkArgs_cons, slotsOf_nil, slotsOf_d, slotsOf_s, slotsOf_l, noDup_nil, noDup_one, noDup_two, putK_ow, putK_fz, putBack_nil, putBack_d, putBack_s, putBack_l, outEnv_nil, outEnv_fz, outEnv_ow, finR_val, finR_new, finR_sl, finK_fz, finK_ow, finQ_nx, finQ_rt, lockR_val, lockR_new, lockR_sl, lokK_fz, lokK_fr, lokK_lk, lockB_none, lockB_some, lokB_no, lokB_fz, lokB_fr, unlock_none, unlock_some, unlK_lk, optR_map_some, optR_map_if, wipeE_nil, wipeE_cons, backE_nil, backE_cons, plainAt_eq, plaK_no, plaK_fz, tgm_nm, tgm_tp, tgms_nil, tgms_cons, dLt_i, dLe_i, dGt_i, dGe_i, dLt_s, dLe_s, dGt_s, dGe_s, okD_int, okD_str, okD_bool, okD_none, dMax2_i, dMin2_i, atD3_0, atD3_1, atD3_2, ixN3_0, ixN3_1, ixN3_2, dAdd, dSub, dDiv, dMod, dPow, dMul, dNeg, dAbs, dInt, dLen, dIs, dIsNot, dIAdd, isNon, dIx, dSl, dRev, itemsD, List.getElem?_cons_zero, List.getElem?_cons_succ, List.getElem?_nil, List.set_cons_zero, List.set_cons_succ, List.set_nil, List.map_cons, List.map_nil, List.length_cons, List.length_nil, List.getD_cons_zero, List.getD_cons_succ, List.all_cons, List.all_nil, List.cons_append, List.nil_append, Option.isSome_some, Option.map_some, Option.map_none, true_and, and_true, Bool.and_true, Bool.true_and, Bool.not_true, Bool.not_false, if_true, if_false, ite_true, ite_false, decide_eq_true_eq, Bool.not_eq_true, Bool.not_eq_true', decide_eq_false_iff_not, not_true, not_false_iff, rngOf1, rngOf2, seqR_some, enumR_some, mkK_ok, prK_val, prK_new, fldR_some, fldS_fr, fldS_pn, popK_some, popR_some, popAK_some, popAR_some, extK_some, augM_some, augN_int, augJ_some, augI_int, seqD, hold_val, hold_new, hold_sl, slOf_val, slOf_new, storeHs_nil, storeHs_cons, isStrD_s, atD2_0, atD2_1, atD1_0, ite_and, and_false, false_and, or_false, false_or, or_true, true_or, reduceIte, reduceCtorEq, List.reduceReplicate, Nat.reduceSub, Nat.reduceAdd, Nat.reduceLeDiff, Int.reduceLT, Int.reduceLE, Int.reduceEq, Int.reduceMod, Int.reduceDiv, Int.reduceMul, Int.reduceAdd, Int.reduceSub, Int.reduceNeg, Int.reduceToNat, Bool.false_eq_true, lineM])
theorem pos_star (ls : List Wd) (t : Wd) : decide (0 < ((cntT ls t : Nat) : Int)) = starB ls t := by unfold starB; exact decide_eq_decide.mpr (by omega)
theorem ev_is_text {ls : List Wd} {t : Wd} {Q : Rv × Env → Prop} (L : Lot ls) (ht : Ltr t) (tl : t.length ≤ 10000) (k : Q (.val (.bool (starB ls t)), [.fz (stockD ls), .fz (.str (S t))])) : Ev (M_is_text [.fz (stockD ls), .fz (.str (S t))]) Q := by
  refine Ev_defI ⟨rfl, rfl⟩ ?_
  unfold B_is_text
  simp_arith [Ev_eq]
  refine Ev_defI ⟨rfl, rfl⟩ ?_
  unfold B_count_readings
  simp_arith [Ev_eq]
  refine ev_check_text ht (by omega) ?_
  simp_arith [fld_stock]
  refine ev_ways_behind rfl L.ne (fun w hw => by have := L.len w hw; omega) (by have := L.few; omega) (by omega) ?_
  have g0 : atD (nD (t.length + 1) fun q => cntT ls (t.drop q)) 0 = some (.int ((cntT ls t : Nat) : Int)) := atD_nD (q := 0) (F := fun q => cntT ls (t.drop q)) (by omega)
  simp_arith [g0, pos_star]
  exact k
theorem ev_lies_within {ls ms : List Wd} {Q : Rv × Env → Prop} (L : Lot ls) (M : Lot ms) (k : Q (.val (.bool (inB ls ms)), [.fz (stockD ls), .fz (stockD ms)])) : Ev (M_lies_within [.fz (stockD ls), .fz (stockD ms)]) Q := by
  refine Ev_defI ⟨rfl, rfl⟩ ?_
  unfold B_lies_within
  have few := L.few
  simp_arith [fld_stock]
  refine ev_lc_pure (fun d => match d with
    | .str x => .bool (starB ms x.cps.toList)
    | d => d) (name_nx 2) (by rw [strsD_len]; omega) (fun d hd => ?_) ?_
  · obtain ⟨w, hw, rfl⟩ := mem_strsD.mp hd
    simp_arith [Ev_eq]
    refine ev_is_text M (L.lt w hw) (by have := L.len w hw; omega) ?_
    simp_arith [S_cps]
  · have e : (strsD ls).map (fun d => match d with
      | .str x => PyData.bool (starB ms x.cps.toList)
      | d => d) = (ls.map (starB ms)).map PyData.bool := by
      unfold strsD
      rw [List.map_map, List.map_map]
      exact List.map_congr_left fun w _ => by show PyData.bool (starB ms (S w).cps.toList) = _; rw [S_cps]; rfl
    rw [e]
    simp_arith [dAll, asBools_map]
    have e2 : (ls.map (starB ms)).all id = inB ls ms := by unfold inB; rw [List.all_map]; rfl
    rw [e2]
    exact k
/-! ### the base -/
theorem ev_base {ls : List Wd} {Q : Rv × Env → Prop} (L : Lot ls) (k : Q (.new (.list (strsD (baseW ls))), [.fz (stockD ls)])) : Ev (M_base_k27 [.fz (stockD ls)]) Q := by
  refine Ev_defI ⟨rfl, rfl⟩ ?_
  unfold B_base_k27
  have few := L.few
  simp_arith [Ev_eq]
  refine ⟨isIns_stock ls, ev_stock_words ?_⟩
  simp_arith [Ev_eq]
  refine ev_lc_words (fun w => decide (cntT (ls.filter fun x => decide (x ≠ w)) w = 0)) (by omega) (fun w hw => ?_) ?_
  · have w8 := L.len w hw
    simp_arith [Ev_eq]
    refine ev_lc_words (fun x => decide (x ≠ w)) (by omega) (fun x hx => ?_) ?_
    · simp_arith [dNe_s]
      by_cases e : x = w
      · simp [e]
      · simp [e]
    have fl := List.length_filter_le (fun x => decide (x ≠ w)) ls
    simp_arith [Ev_eq]
    refine ev_ways_behind rfl (out_ne L.ne w) (fun x hx => by have := L.len x (List.mem_filter.mp hx).1; omega) (by omega) (by omega) ?_
    have g0 : atD (nD (w.length + 1) fun q => cntT (ls.filter fun x => decide (x ≠ w)) (w.drop q)) 0 = some (.int ((cntT (ls.filter fun x => decide (x ≠ w)) w : Nat) : Int)) := atD_nD (q := 0) (F := fun q => cntT (ls.filter fun x => decide (x ≠ w)) (w.drop q)) (by omega)
    simp_arith [g0, dEq_i]
    split <;> omega
  · simp_arith [Ev_eq]
    exact k
theorem S_ends (a b : List Nat) : Txt.endswith (S a) (S b) = decide (b.length ≤ a.length ∧ a.drop (a.length - b.length) = b) := by
  unfold Txt.endswith
  rw [PySem.StrLaws.subAt_eq]
  rw [S_len, S_len, S_cps, S_cps, Bool.eq_iff_iff]
  simp only [Nat.zero_add, Bool.and_eq_true, decide_eq_true_eq, beq_iff_eq]
  constructor
  · rintro ⟨h1, h2⟩
    rw [List.take_of_length_le (by rw [List.length_drop]; omega)] at h2
    exact ⟨h1, h2⟩
  · rintro ⟨h1, h2⟩
    exact ⟨h1, by rw [h2, List.take_of_length_le (Nat.le_refl _)]⟩
end DL
namespace DL
open PySem PySem.Spec L2
noncomputable def B_Stock_eq : MS := (mRet (mVal (mAnd (mTest (mUn (dIsa "Stock") (mVar 1))) (mTest (mBin dEq (mUn (dFld "Stock" "kept_words") (mVar 0)) (mUn (dFld "Stock" "kept_words") (mVar 1)))))))
noncomputable def M_Stock_eq : FM := mDef 2 2 B_Stock_eq

noncomputable def B_with_word : MS := (mRet (mMake "Stock" M_Stock_init [(mListS [(true, (mUn (dFld "Stock" "kept_words") (mVar 0))), (false, (mVar 1))])]))
noncomputable def M_with_word : FM := mDef 2 2 B_with_word

noncomputable def B_without_word : MS := (mSeq (mIfS (mTest (mBin dNotIn (mVar 1) (mUn (dFld "Stock" "kept_words") (mVar 0)))) mNever mPass)
  (mRet (mMake "Stock" M_Stock_init [(mLc (mIter (mUn (dFld "Stock" "kept_words") (mVar 0))) (Tg.m (.nm 2)) (mTest (mBin dNe (mVar 2) (mVar 1))) (mVar 2) [2])])))
noncomputable def M_without_word : FM := mDef 2 3 B_without_word

noncomputable def B_law_fits_k04 : MS := (mSeq (mAsg (mCallF M_law_lot [.p, .c, .c] [(mVar 0), (mC (.int 8)), (mC (.int 8))]) (mName 1))
  (mSeq (mPar [2, 3] [(mMake "Stock" M_Stock_init [(mVar 1)]), (mCallF M_law_draw [.p, .c] [(mVar 0), (mCallB dLen [(mVar 1)])])])
  (mSeq (mAsg (mCallF M_law_word [.p, .c, .c] [(mVar 0), (mC (.int 8)), (mC (.str "abqz"))]) (mName 4))
  (mSeq (mIfS (mAnd (mTest (mBin dNotIn (mVar 4) (mVar 1))) (mTest (mBin dLt (mCallB dLen [(mVar 1)]) (mC (.int 8))))) (mSeq (mAsg (mList [(mCallF M_with_word [.c, .c] [(mVar 2), (mVar 4)]), (mCallK M_with_word [1, 0] 0 2 [] [(mVar 4), (mVar 2)])]) (mName 5))
  (mSeq (mIfS (mOr (mTest (mBin dNe (mLc (mIter (mVar 5)) (Tg.m (.nm 6)) mYes (mProp "Stock" M_Stock_words (mVar 6)) [6]) (mBin dMul (mList [(mBin dAdd (mVar 1) (mList [(mVar 4)]))]) (mC (.int 2))))) (mTest (mEqO "Stock" M_Stock_eq true (mBin dIx (mVar 5) (mC (.int 0))) (mMake "Stock" M_Stock_init [(mBin dAdd (mVar 1) (mList [(mVar 4)]))])))) (mRet (mC (.bool false))) mPass)
  (mIfS (mTest (mEqO "Stock" M_Stock_eq true (mCallF M_without_word [.c, .c] [(mBin dIx (mVar 5) (mC (.int 0))), (mVar 4)]) (mVar 2))) (mRet (mC (.bool false))) mPass))) mPass)
  (mSeq (mIfS (mTest (mBin dGt (mCallB dLen [(mVar 1)]) (mC (.int 1)))) (mSeq (mAsg (mList [(mCallF M_without_word [.c, .c] [(mVar 2), (mBin dIx (mVar 1) (mVar 3))]), (mCallK M_without_word [1, 0] 0 2 [] [(mBin dIx (mVar 1) (mVar 3)), (mVar 2)])]) (mName 7))
  (mSeq (mAsg (mBin dAdd (mSl dSl (mVar 1) mNoPart (mPart (mVar 3))) (mSl dSl (mVar 1) (mPart (mBin dAdd (mVar 3) (mC (.int 1)))) mNoPart)) (mName 8))
  (mIfS (mOr (mTest (mBin dNe (mLc (mIter (mVar 7)) (Tg.m (.nm 6)) mYes (mProp "Stock" M_Stock_words (mVar 6)) [6]) (mBin dMul (mList [(mVar 8)]) (mC (.int 2))))) (mTest (mBin dNe (mProp "Stock" M_Stock_words (mCallF M_with_word [.c, .c] [(mBin dIx (mVar 7) (mC (.int 0))), (mBin dIx (mVar 1) (mVar 3))])) (mBin dAdd (mVar 8) (mList [(mBin dIx (mVar 1) (mVar 3))]))))) (mRet (mC (.bool false))) mPass))) mPass)
  (mRet (mVal (mAnd (mTest (mBin dEq (mProp "Stock" M_Stock_words (mVar 2)) (mVar 1))) (mTest (mUn (dIsa "Stock") (mVar 2)))))))))))
noncomputable def M_law_fits_k04 : FM := mDef 1 9 B_law_fits_k04

noncomputable def B_law_k04 : MS := (mSeq (mFor (mRange rngOf1 [(mCallB dMax2 [(mC (.int 1)), (mCallB dMin2 [(mC (.int 6)), (mCallB dLen [(mVar 0)])])])]) (mName 1) (mSeq (mAsg (mCallF M_law_pool [.l, .c] [(mVar 0), (mVar 1)]) (mName 2))
  (mFor (mRange rngOf1 [(mC (.int 6))]) (mName 3) (mIfS (mNot (mTest (mCallF M_law_fits_k04 [.p] [(mVar 2)]))) (mRet (mC (.bool false))) mPass))))
  (mRet (mC (.bool true))))
noncomputable def M_law_k04 : FM := mDef 1 4 B_law_k04
end DL
namespace DL
open PySem PySem.Spec L2
local macro_rules
  | `(tactic| simp_arith [$xs,*]) => `(tactic| simp only [$xs,*, ↓Ev_eq, ↓iV_ok, ↓iV_bind, ↓iV_stuck, ↓iV_ite, ↓iV_bindN, ↓iV_some, ↓iV_none, ↓iV_oifG, ↓iV_gif, ↓iv_c, ↓iv_bin, ↓iv_un, ↓iv_test, ↓iv_and, ↓iv_or, ↓iv_not, ↓iv_val, ↓iv_if, ↓iv_yes, ↓iv_ds_nil, ↓iv_ds_cons, ↓iv_rs_nil, ↓iv_rs_cons, ↓iv_list, ↓iv_tup, ↓iv_callB, ↓iv_part, ↓iv_nopart, ↓iv_sl, ↓iv_meth, ↓iv_repr, ↓iv_rne, ↓iv_req, ↓iv_chain, ↓iv_pass, ↓iv_break, ↓iv_cont, ↓iv_never, ↓iv_seq, ↓iv_ret, ↓iv_retN, ↓iv_ifS, ↓iv_drop, ↓iv_asg, ↓iv_name_val, ↓iv_name_new, ↓iv_name_sl, ↓iv_tupG, ↓iv_asg_nil, ↓iv_asg_cons, ↓iv_setIx, ↓iv_append, ↓iv_aug, ↓iv_as_nil, ↓iv_as_t, ↓iv_as_f, ↓iv_as_l, ↓iv_callF, ↓iv_callK, ↓iv_range, ↓iv_iter, ↓iv_for, ↓iv_lc, ↓iv_par, ↓iv_hs_nil, ↓iv_hs_cons, ↓iv_listS, ↓iv_ss_nil, ↓iv_ss_one, ↓iv_ss_star, ↓iv_enum, ↓iv_make, ↓iv_prop, ↓iv_fldS, ↓iv_pop, ↓iv_popAt, ↓iv_extend, ↓iv_augIx, iV_ok, iV_bind, iV_stuck, iV_ite, iV_bindN, iV_some, iV_none, iV_oifG, iV_gif, iv_c, iv_bin, iv_un, iv_test, iv_and, iv_or, iv_not, iv_val, iv_if, iv_yes, iv_ds_nil, iv_ds_cons, iv_rs_nil, iv_rs_cons, iv_list, iv_tup, iv_callB, iv_part, iv_nopart, iv_sl, iv_meth, iv_repr, iv_rne, iv_req, iv_chain, iv_pass, iv_break, iv_cont, iv_never, iv_seq, iv_ret, iv_retN, iv_ifS, iv_drop, iv_asg, iv_name_val, iv_name_new, iv_name_sl, iv_tupG, iv_asg_nil, iv_asg_cons, iv_setIx, iv_append, iv_aug, iv_as_nil, iv_as_t, iv_as_f, iv_as_l, iv_callF, iv_callK, iv_range, iv_iter, iv_for, iv_lc, iv_par, iv_hs_nil, iv_hs_cons, iv_listS, iv_ss_nil, iv_ss_one, iv_ss_star, iv_enum, iv_make, iv_prop, iv_fldS, iv_pop, iv_popAt, iv_extend, iv_augIx, seqK_nx, seqK_bk, seqK_ct, seqK_rt, tupK_tup, asgK_nx, setN_some, setK_some, appK_some, augS_some, augK_fz, asK_sl, asL_sl, asL_val, backK_val, backK_new, callA_some, backN_val, backN_new, rngK_some, optR_some, optR_if, itK_some, chK_b, turnQ_nx, turnQ_ct, turnQ_bk, turnQ_rt, varK_fz, varK_ow, mVar_eq, mC_eq, data_val, data_new, datK_fz, datK_ow, data_sl, frz_val, frz_new, frzK_fz, frzK_ow, frz_sl, freeK_no, freeK_fz, freeK_ow, free_eq, ownL_eq, ownK_fr, ownK_pn, datas_nil, consD_ok, datas_cons', asB_b, asI_i, argSl_d, argSl_s, argSl_l, argL_fz, argL_ow, argK_fz, argK_fr, argK_pn, consO_some, mkArgs_nil, mkArgs_cons, slotsOf_nil, slotsOf_d, slotsOf_s, slotsOf_l, noDup_nil, noDup_one, noDup_two, putK_ow, putK_fz, putBack_nil, putBack_d, putBack_s, putBack_l, outEnv_nil, outEnv_fz, outEnv_ow, finR_val, finR_new, finR_sl, finK_fz, finK_ow, finQ_nx, finQ_rt, lockR_val, lockR_new, lockR_sl, lokK_fz, lokK_fr, lokK_lk, lockB_none, lockB_some, lokB_no, lokB_fz, lokB_fr, unlock_none, unlock_some, unlK_lk, optR_map_some, optR_map_if, wipeE_nil, wipeE_cons, backE_nil, backE_cons, plainAt_eq, plaK_no, plaK_fz, tgm_nm, tgm_tp, tgms_nil, tgms_cons, dLt_i, dLe_i, dGt_i, dGe_i, dLt_s, dLe_s, dGt_s, dGe_s, okD_int, okD_str, okD_bool, okD_none, dMax2_i, dMin2_i, atD3_0, atD3_1, atD3_2, ixN3_0, ixN3_1, ixN3_2, dAdd, dSub, dDiv, dMod, dPow, dMul, dNeg, dAbs, dInt, dLen, dIs, dIsNot, dIAdd, isNon, dIx, dSl, dRev, itemsD, List.getElem?_cons_zero, List.getElem?_cons_succ, List.getElem?_nil, List.set_cons_zero, List.set_cons_succ, List.set_nil, List.map_cons, List.map_nil, List.length_cons, List.length_nil, List.getD_cons_zero, List.getD_cons_succ, List.all_cons, List.all_nil, List.cons_append, List.nil_append, Option.isSome_some, Option.map_some, Option.map_none, true_and, and_true, Bool.and_true, Bool.true_and, Bool.not_true, Bool.not_false, if_true, if_false, ite_true, ite_false, decide_eq_true_eq, Bool.not_eq_true, Bool.not_eq_true', decide_eq_false_iff_not, not_true, not_false_iff, rngOf1, rngOf2, seqR_some, enumR_some, mkK_ok, prK_val, prK_new, fldR_some, fldS_fr, fldS_pn, popK_some, popR_some, popAK_some, popAR_some, extK_some, augM_some, augN_int, augJ_some, augI_int, seqD, hold_val, hold_new, hold_sl, slOf_val, slOf_new, storeHs_nil, storeHs_cons, isStrD_s, atD2_0, atD2_1, atD1_0, ite_and, and_false, false_and, or_false, false_or, or_true, true_or, reduceIte, reduceCtorEq, List.reduceReplicate, Nat.reduceSub, Nat.reduceAdd, Nat.reduceLeDiff, Int.reduceLT, Int.reduceLE, Int.reduceEq, Int.reduceMod, Int.reduceDiv, Int.reduceMul, Int.reduceAdd, Int.reduceSub, Int.reduceNeg, Int.reduceToNat, Bool.false_eq_true, lineM])
theorem ev_eqRes (neg : Bool) (env : Env) (m : Res (Rv × Env)) (Q : Rv × Env → Prop) (h : Ev m fun r => ∃ b, r.1 = .val (.bool b) ∧ Q (.val (.bool (if neg = true then !b else b)), env)) : Ev (eqRes neg env m) Q := by
  cases m with
  | ok a =>
    obtain ⟨b, h1, h2⟩ := h
    obtain ⟨r, e⟩ := a
    cases h1
    exact h2
  | ex => exact h.elim
  | stuck => exact h.elim
theorem ev_eqO' (c : Str) (fm : FM) (neg : Bool) (f h : ME) (env : Env) (Q : Rv × Env → Prop) : Ev (mEqO c fm neg f h env) Q = Ev (f env) fun z => Ev (z.1.frz z.2) fun y => Ev (h y.2) fun x => Ev (x.1.frz x.2) fun u => (isIns c y.1 = true ∧ eqTy c u.1 = true) ∧ Ev (eqRes neg u.2 (fm [.fz y.1, .fz u.1])) Q := by
  unfold mEqO; simp only [Ev_bind, Ev_gif]
theorem iv_eqO (c : Str) (fm : FM) (neg : Bool) (f h : ME) (env : Env) (Q : Rv × Env → Prop) : @EvI _ (mEqO c fm neg f h env) ⟨Q⟩ = Ev (f env) fun z => Ev (z.1.frz z.2) fun y => Ev (h y.2) fun x => Ev (x.1.frz x.2) fun u => (isIns c y.1 = true ∧ eqTy c u.1 = true) ∧ Ev (eqRes neg u.2 (fm [.fz y.1, .fz u.1])) Q := by exact ev_eqO' ..
theorem eqTy_stock (ls : List Wd) : eqTy "Stock" (stockD ls) = true := isIns_stock ls
theorem dIsa_stock (ls : List Wd) : dIsa "Stock" (stockD ls) = some (.val (.bool true)) := by unfold dIsa; rw [if_pos (isIns_stock ls)]
theorem dEq_T (ls ms : List (List Nat)) : dEq (.tuple (strsD ls)) (.tuple (strsD ms)) = some (.val (.bool (decide (ls = ms)))) := by
  unfold dEq; rw [okD_tuple, okD_tuple]; simp only [PyData.eqv, eqvAll_strs]; rfl
theorem dNotIn_T (w : List Nat) (ls : List (List Nat)) : dNotIn (.str (S w)) (.tuple (strsD ls)) = some (.val (.bool (!decide (w ∈ ls)))) := by
  show (if okD (.str (S w)) && okD (.tuple (strsD ls)) then some (Rv.val (.bool (!(strsD ls).any fun z => PyData.eqv z (.str (S w))))) else none) = _
  rw [okD_str, okD_tuple, any_strs]; rfl
theorem cutD_drop (ds : List D) {i : Int} (h : 0 ≤ i) : cutD ds (some i) none = ds.drop i.toNat := by
  unfold cutD
  rw [HT.sIx_none, sIx_nn h]
  rcases Nat.le_total i.toNat ds.length with q | q
  · rw [Nat.min_eq_left q, List.take_of_length_le (by simp)]
  · rw [Nat.min_eq_right q, Nat.sub_self, List.take_zero, List.drop_of_length_le q]
theorem shWs : ∀ {ls : List Wd}, (∀ w ∈ ls, Ltr w ∧ w.length ≤ 8) → ShL (strsD ls) 0 (ls.length * 9)
  | [], _ => by simpa [strsD] using ShL.nil (k := 0)
  | w :: ls, h => by
    rw [strsD_cons]
    have ih := shWs (ls := ls) fun x hx => h x (List.mem_cons_of_mem _ hx)
    obtain ⟨h1, h2⟩ := h w (by simp)
    exact (ShL.cons (Sh.str h1.ok) ih).mono (Nat.le_refl _) (by simp only [List.length_cons]; omega)
theorem dNe_two {ls : List Wd} (L : Lot ls) : dNe (.list [.list (strsD ls), .list (strsD ls)]) (.list [[.list (strsD ls)], [.list (strsD ls)]].flatten) = some (.val (.bool false)) := by
  have s := Sh.list (shWs (ls := ls) fun w h => ⟨L.lt w h, L.len w h⟩)
  exact dNe_same (Sh.list (.cons s (.cons s .nil))) (by decide)
theorem ev_stock_eq {a b : List Wd} {Q : Rv × Env → Prop} (k : Q (.val (.bool (decide (a = b))), [.fz (stockD a), .fz (stockD b)])) : Ev (M_Stock_eq [.fz (stockD a), .fz (stockD b)]) Q := by
  refine Ev_defI ⟨rfl, rfl⟩ ?_
  unfold B_Stock_eq
  simp_arith [dIsa_stock, fld_stock, dEq_T]
  exact k
theorem ev_stock_eq' {a b : List Wd} {neg : Bool} {env : Env} {Q : Rv × Env → Prop} (k : Q (.val (.bool (if neg = true then !decide (a = b) else decide (a = b))), env)) : Ev (eqRes neg env (M_Stock_eq [.fz (stockD a), .fz (stockD b)])) Q :=
  ev_eqRes _ _ _ _ (ev_stock_eq ⟨_, rfl, k⟩)
theorem Lot.snoc {ls : List Wd} {w : Wd} (L : Lot ls) (hn : w ∉ ls) (w0 : w ≠ []) (lw : Ltr w) (w8 : w.length ≤ 8) (h : ls.length < 8) : Lot (ls ++ [w]) :=
  ⟨List.nodup_append.mpr ⟨L.nd, by simp, fun a ha b hb => by rw [List.mem_singleton.mp hb]; exact fun e => hn (e ▸ ha)⟩, fun x hx => (List.mem_append.mp hx).elim (L.ne x) fun y => by rw [List.mem_singleton.mp y]; exact w0,
   fun x hx => (List.mem_append.mp hx).elim (L.lt x) fun y => by rw [List.mem_singleton.mp y]; exact lw, fun x hx => (List.mem_append.mp hx).elim (L.len x) fun y => by rw [List.mem_singleton.mp y]; exact w8, by simp; omega⟩
theorem ev_with_word {ls : List Wd} {w : Wd} {Q : Rv × Env → Prop} (L : Lot (ls ++ [w])) (k : Q (.new (stockD (ls ++ [w])), [.fz (stockD ls), .fz (.str (S w))])) : Ev (M_with_word [.fz (stockD ls), .fz (.str (S w))]) Q := by
  refine Ev_defI ⟨rfl, rfl⟩ ?_
  unfold B_with_word
  simp_arith [fld_stock, strsD_snoc]
  refine ⟨by have := L.few; rw [strsD_len]; omega, ev_stock_init L (by simp) ?_⟩
  simp_arith [Ev_eq]
  exact k
theorem Lot.filter {ls : List Wd} (L : Lot ls) (p : Wd → Bool) : Lot (ls.filter p) :=
  ⟨L.nd.filter p, fun w h => L.ne w (List.mem_filter.mp h).1, fun w h => L.lt w (List.mem_filter.mp h).1, fun w h => L.len w (List.mem_filter.mp h).1, Nat.le_trans (List.length_filter_le _ _) L.few⟩
theorem ev_without_word {ls : List Wd} {w : Wd} {Q : Rv × Env → Prop} (L : Lot ls) (hw : w ∈ ls) (l0 : 0 < (ls.filter fun x => decide (x ≠ w)).length) (k : Q (.new (stockD (ls.filter (fun x => decide (x ≠ w)))), [.fz (stockD ls), .fz (.str (S w))])) : Ev (M_without_word [.fz (stockD ls), .fz (.str (S w))]) Q := by
  refine Ev_defI ⟨rfl, rfl⟩ ?_
  unfold B_without_word
  simp_arith [fld_stock, dNotIn_T, hw]
  refine ev_lc_words (fun x => decide (x ≠ w)) (by have := L.few; omega) (fun x hx => ?_) ?_
  · simp_arith [dNe_s]
    by_cases e : x = w
    · simp [e]
    · simp [e]
  · simp_arith [Ev_eq]
    refine ev_stock_init (L.filter _) l0 ?_
    simp_arith [Ev_eq]
    exact k
end DL
namespace DL
/-! ### rows of words, stocks read in one way -/
def Row (ls : List Wd) (r : List Wd) : Prop := ∀ w ∈ r, w ∈ ls
theorem Row.cons {ls : List Wd} {w : Wd} {r : List Wd} (h : w ∈ ls) (k : Row ls r) : Row ls (w :: r) := fun x hx => (List.mem_cons.mp hx).elim (fun e => e ▸ h) (k x)
theorem Row.app {ls : List Wd} {r s : List Wd} (h : Row ls r) (k : Row ls s) : Row ls (r ++ s) := fun x hx => (List.mem_append.mp hx).elim (h x) (k x)
theorem Row.nil {ls : List Wd} : Row ls [] := fun x h => by simp at h
theorem Row.tl {ls : List Wd} {w : Wd} {r : List Wd} (h : Row ls (w :: r)) : Row ls r := fun x hx => h x (List.mem_cons_of_mem _ hx)
theorem Row.hd {ls : List Wd} {w : Wd} {r : List Wd} (h : Row ls (w :: r)) : w ∈ ls := h w (by simp)
theorem Row.empty {ls : List Wd} (ne : ∀ w ∈ ls, w ≠ []) {r : List Wd} (h : Row ls r) (e : r.flatten = []) : r = [] := by
  cases r with
  | nil => rfl
  | cons w r =>
    rw [List.flatten_cons, List.append_eq_nil_iff] at e
    exact absurd e.1 (ne w h.hd)
def OneWay (ls : List Wd) : Prop := ∀ r s, Row ls r → Row ls s → r.flatten = s.flatten → r = s
/-- the rests that can be come to -/
inductive Rst (ls : List Wd) : Wd → Prop
  | start {u r : Wd} : u ∈ ls → u ++ r ∈ ls → r ≠ [] → Rst ls r
  | lead {w r : Wd} : Rst ls (w ++ r) → w ∈ ls → Rst ls r
  | swap {c r : Wd} : Rst ls c → c ≠ [] → c ++ r ∈ ls → Rst ls r
theorem rst_rows {ls : List Wd} {r : Wd} (h : Rst ls r) : ∃ u v a b, u ∈ ls ∧ v ∈ ls ∧ u ≠ v ∧ Row ls a ∧ Row ls b ∧ u ++ a.flatten ++ r = v ++ b.flatten := by
  induction h with
  | @start u r hu hv hr => exact ⟨u, u ++ r, [], [], hu, hv, fun e => hr (by simpa using (List.append_right_eq_self.mp e.symm)), .nil, .nil, by simp⟩
  | @lead w r _ hw ih =>
    obtain ⟨u, v, a, b, h1, h2, h3, h4, h5, h6⟩ := ih
    refine ⟨u, v, a ++ [w], b, h1, h2, h3, h4.app (Row.cons hw .nil), h5, ?_⟩
    rw [← h6]; simp
  | @swap c r _ hc hw ih =>
    obtain ⟨u, v, a, b, h1, h2, h3, h4, h5, h6⟩ := ih
    refine ⟨v, u, b, a ++ [c ++ r], h2, h1, fun e => h3 e.symm, h5, h4.app (Row.cons hw .nil), ?_⟩
    rw [← h6]; simp
theorem rst_chase {ls : List Wd} (ne : ∀ w ∈ ls, w ≠ []) : ∀ (n : Nat) (r : Wd) (x y : List Wd), Row ls x → Row ls y → x.flatten.length + y.flatten.length ≤ n → Rst ls r → r ++ y.flatten = x.flatten → Rst ls [] := by
  intro n
  induction n with
  | zero =>
    intro r x y hx hy hl hr e
    have := congrArg List.length e
    rw [List.length_append] at this
    have : r = [] := List.length_eq_zero_iff.mp (by omega)
    exact this ▸ hr
  | succ n ih =>
    intro r x y hx hy hl hr e
    by_cases r0 : r = []
    · exact r0 ▸ hr
    cases x with
    | nil =>
      rw [List.flatten_nil, List.append_eq_nil_iff] at e
      exact absurd e.1 r0
    | cons w x =>
      rw [List.flatten_cons] at e hl
      have w0 : 0 < w.length := List.length_pos_iff.mpr (ne w hx.hd)
      rw [List.length_append] at hl
      rcases pref_cmp e with ⟨z, hz⟩ | ⟨z, hz⟩
      · -- the word is longer
        subst hz
        rw [List.append_assoc] at e
        have e2 := List.append_cancel_left e
        refine ih z y x hy hx.tl ?_ (hr.swap r0 hx.hd) e2.symm
        omega
      · subst hz
        rw [List.append_assoc] at e
        have e2 := List.append_cancel_left e
        exact ih z x y hx.tl hy (by omega) (hr.lead hx.hd) e2
theorem oneWay_iff {ls : List Wd} (ne : ∀ w ∈ ls, w ≠ []) : OneWay ls ↔ ¬ Rst ls [] := by
  constructor
  · intro h hr
    obtain ⟨u, v, a, b, h1, h2, h3, h4, h5, h6⟩ := rst_rows hr
    rw [List.append_nil] at h6
    have := h (u :: a) (v :: b) (Row.cons h1 h4) (Row.cons h2 h5) (by rw [List.flatten_cons, List.flatten_cons]; exact h6)
    exact h3 (List.cons.inj this).1
  · intro hn r
    induction r with
    | nil =>
      intro s _ hs e
      exact (hs.empty ne e.symm).symm
    | cons u a ih =>
      intro s hr hs e
      cases s with
      | nil => exact hr.empty ne e
      | cons v b =>
        rw [List.flatten_cons, List.flatten_cons] at e
        by_cases q : u = v
        · subst q
          rw [ih b hr.tl hs.tl (List.append_cancel_left e)]
        · exfalso
          rcases pref_cmp e with ⟨z, hz⟩ | ⟨z, hz⟩
          · subst hz
            rw [List.append_assoc] at e
            have e2 := List.append_cancel_left e
            have z0 : z ≠ [] := fun y => q (by rw [y, List.append_nil])
            exact hn (rst_chase ne _ z a b hr.tl hs.tl (Nat.le_refl _) (.start hr.hd hs.hd z0) e2.symm)
          · subst hz
            rw [List.append_assoc] at e
            have e2 := List.append_cancel_left e
            have z0 : z ≠ [] := fun y => q (by rw [y, List.append_nil])
            exact hn (rst_chase ne _ z b a hs.tl hr.tl (Nat.le_refl _) (.start hs.hd hr.hd z0) e2)
theorem OneWay.of_mem {ls ms : List Wd} (h : OneWay ls) (k : ∀ w ∈ ms, w ∈ ls) : OneWay ms := fun r s hr hs e => h r s (fun w hw => k w (hr w hw)) (fun w hw => k w (hs w hw)) e
theorem oneWay_mem {ls ms : List Wd} (k : ∀ w, w ∈ ms ↔ w ∈ ls) : OneWay ls ↔ OneWay ms := ⟨fun h => h.of_mem fun w hw => (k w).mp hw, fun h => h.of_mem fun w hw => (k w).mpr hw⟩
def revR (r : List Wd) : List Wd := (r.map List.reverse).reverse
theorem revR_flat (r : List Wd) : (revR r).flatten = r.flatten.reverse := by
  unfold revR
  induction r with
  | nil => rfl
  | cons w r ih => simp [ih]
theorem revR_revR (r : List Wd) : revR (revR r) = r := by
  unfold revR
  rw [List.map_reverse, List.reverse_reverse, List.map_map]
  have : List.reverse ∘ List.reverse = (id : Wd → Wd) := by funext x; simp
  rw [this, List.map_id]
theorem Row.rev {ls r : List Wd} (h : Row ls r) : Row (revW ls) (revR r) := fun w hw => by
  unfold revR at hw
  rw [List.mem_reverse, List.mem_map] at hw
  obtain ⟨x, hx, rfl⟩ := hw
  rw [revW_mem, List.reverse_reverse]
  exact h x hx
theorem Row.rev' {ls r : List Wd} (h : Row (revW ls) r) : Row ls (revR r) := by
  have := h.rev
  rwa [revW_revW] at this
theorem OneWay.rev {ls : List Wd} (h : OneWay ls) : OneWay (revW ls) := fun r s hr hs e => by
  have := h (revR r) (revR s) hr.rev' hs.rev' (by rw [revR_flat, revR_flat, e])
  rw [← revR_revR r, this, revR_revR]
theorem oneWay_rev {ls : List Wd} : OneWay (revW ls) ↔ OneWay ls := ⟨fun h => by have := h.rev; rwa [revW_revW] at this, .rev⟩
/-! ### all readings -/
def rdN (ls : List Wd) : Nat → Wd → List (List Wd)
  | _, [] => [[]]
  | 0, _ :: _ => []
  | n + 1, c :: t => ls.flatMap fun w => if (c :: t).take w.length = w then (rdN ls n ((c :: t).drop w.length)).map (w :: ·) else []
theorem rdN_len (ls : List Wd) : ∀ (n : Nat) (t : Wd), (rdN ls n t).length = cntN ls n t
  | n, [] => by cases n <;> rfl
  | 0, _ :: _ => rfl
  | n + 1, c :: t => by
    show (ls.flatMap _).length = (ls.map _).sum
    rw [List.length_flatMap]
    congr 1
    refine List.map_congr_left fun w hw => ?_
    by_cases e : (c :: t).take w.length = w
    · rw [if_pos e, if_pos e, List.length_map, rdN_len ls n]
    · rw [if_neg e, if_neg e]; rfl
theorem rdN_mem {ls : List Wd} (ne : ∀ w ∈ ls, w ≠ []) : ∀ (n : Nat) (t : Wd) (r : List Wd), t.length ≤ n → (r ∈ rdN ls n t ↔ Row ls r ∧ r.flatten = t)
  | n, [], r, _ => by
    have : rdN ls n [] = [[]] := by cases n <;> rfl
    rw [this, List.mem_singleton]
    exact ⟨fun e => by rw [e]; exact ⟨.nil, rfl⟩, fun ⟨h, e⟩ => h.empty ne e⟩
  | 0, c :: t, r, h => by simp at h
  | n + 1, c :: t, r, h => by
    show r ∈ ls.flatMap _ ↔ _
    rw [List.mem_flatMap]
    constructor
    · rintro ⟨w, hw, hr⟩
      by_cases e : (c :: t).take w.length = w
      · rw [if_pos e, List.mem_map] at hr
        obtain ⟨s, hs, rfl⟩ := hr
        have l0 : 0 < w.length := List.length_pos_iff.mpr (ne w hw)
        have hl : ((c :: t).drop w.length).length ≤ n := by rw [List.length_drop]; simp only [List.length_cons] at h ⊢; omega
        obtain ⟨h1, h2⟩ := (rdN_mem ne n _ s hl).mp hs
        refine ⟨Row.cons hw h1, ?_⟩
        rw [List.flatten_cons, h2]
        exact (begins_eq e).symm
      · rw [if_neg e] at hr; simp at hr
    · rintro ⟨hr, e⟩
      cases r with
      | nil => simp at e
      | cons w s =>
        rw [List.flatten_cons] at e
        refine ⟨w, hr.hd, ?_⟩
        have tk : (c :: t).take w.length = w := by rw [← e, List.take_left]
        rw [if_pos tk, List.mem_map]
        have l0 : 0 < w.length := List.length_pos_iff.mpr (ne w hr.hd)
        have hl : ((c :: t).drop w.length).length ≤ n := by rw [List.length_drop]; simp only [List.length_cons] at h ⊢; omega
        exact ⟨s, (rdN_mem ne n _ s hl).mpr ⟨hr.tl, by rw [← e, List.drop_left]⟩, rfl⟩
theorem nodup_flatMap {α β : Type} {f : α → List β} : ∀ {l : List α}, l.Nodup → (∀ x ∈ l, (f x).Nodup) → (∀ x ∈ l, ∀ y ∈ l, x ≠ y → ∀ z, z ∈ f x → z ∉ f y) → (l.flatMap f).Nodup
  | [], _, _, _ => by simp
  | x :: l, h, h1, h2 => by
    rw [List.flatMap_cons, List.nodup_append]
    obtain ⟨n1, n2⟩ := List.nodup_cons.mp h
    refine ⟨h1 x (by simp), nodup_flatMap n2 (fun y hy => h1 y (List.mem_cons_of_mem _ hy)) fun a ha b hb => h2 a (List.mem_cons_of_mem _ ha) b (List.mem_cons_of_mem _ hb), fun z hz w hw e => ?_⟩
    subst e
    obtain ⟨y, hy, hzy⟩ := List.mem_flatMap.mp hw
    exact h2 x (by simp) y (List.mem_cons_of_mem _ hy) (fun e => n1 (e ▸ hy)) z hz hzy
theorem nodup_map {α β : Type} {f : α → β} (hf : ∀ x y, f x = f y → x = y) : ∀ {l : List α}, l.Nodup → (l.map f).Nodup
  | [], _ => by simp
  | x :: l, h => by
    obtain ⟨n1, n2⟩ := List.nodup_cons.mp h
    rw [List.map_cons, List.nodup_cons]
    refine ⟨fun z => ?_, nodup_map hf n2⟩
    obtain ⟨y, hy, e⟩ := List.mem_map.mp z
    exact n1 (hf _ _ e ▸ hy)
theorem rdN_nodup {ls : List Wd} (nd : ls.Nodup) : ∀ (n : Nat) (t : Wd), (rdN ls n t).Nodup
  | n, [] => by
    have : rdN ls n [] = [[]] := by cases n <;> rfl
    rw [this]; simp
  | 0, _ :: _ => by show ([] : List (List Wd)).Nodup; simp
  | n + 1, c :: t => by
    refine nodup_flatMap nd (fun w hw => ?_) fun w hw v hv e z hz hz2 => ?_
    · by_cases e : (c :: t).take w.length = w
      · rw [if_pos e]; exact nodup_map (fun x y h => (List.cons.inj h).2) (rdN_nodup nd n _)
      · rw [if_neg e]; simp
    · by_cases e1 : (c :: t).take w.length = w
      · by_cases e2 : (c :: t).take v.length = v
        · rw [if_pos e1] at hz
          rw [if_pos e2] at hz2
          obtain ⟨a, _, rfl⟩ := List.mem_map.mp hz
          obtain ⟨b, _, h⟩ := List.mem_map.mp hz2
          exact e (List.cons.inj h).1.symm
        · rw [if_neg e2] at hz2; simp at hz2
      · rw [if_neg e1] at hz; simp at hz
def rdT (ls : List Wd) (t : Wd) : List (List Wd) := rdN ls t.length t
theorem rdT_len (ls : List Wd) (t : Wd) : (rdT ls t).length = cntT ls t := rdN_len ls _ t
theorem rdT_mem {ls : List Wd} (ne : ∀ w ∈ ls, w ≠ []) {t : Wd} {r : List Wd} : r ∈ rdT ls t ↔ Row ls r ∧ r.flatten = t := rdN_mem ne _ t r (Nat.le_refl _)
theorem rdT_nodup {ls : List Wd} (nd : ls.Nodup) (t : Wd) : (rdT ls t).Nodup := rdN_nodup nd _ t
theorem nodup_le {α : Type} [DecidableEq α] : ∀ {l m : List α}, l.Nodup → (∀ x ∈ l, x ∈ m) → l.length ≤ m.length
  | [], m, _, _ => by simp
  | x :: l, m, h, k => by
    obtain ⟨n1, n2⟩ := List.nodup_cons.mp h
    have hx : x ∈ m := k x (by simp)
    have ih := nodup_le (l := l) (m := m.erase x) n2 fun y hy => (List.mem_erase_of_ne (fun e => n1 (by rw [← e]; exact hy))).mpr (k y (List.mem_cons_of_mem _ hy))
    rw [List.length_erase_of_mem hx] at ih
    have := List.length_pos_of_mem hx
    simp only [List.length_cons]
    omega
theorem cnt_mono {ls ms : List Wd} (nd : ls.Nodup) (nl : ∀ w ∈ ls, w ≠ []) (nm : ∀ w ∈ ms, w ≠ []) (k : ∀ w ∈ ls, w ∈ ms) (t : Wd) : cntT ls t ≤ cntT ms t := by
  rw [← rdT_len, ← rdT_len]
  refine nodup_le (rdT_nodup nd t) fun r hr => ?_
  obtain ⟨h1, h2⟩ := (rdT_mem nl).mp hr
  exact (rdT_mem nm).mpr ⟨fun w hw => k w (h1 w hw), h2⟩
theorem cnt_perm {ls ms : List Wd} (L : Lot ls) (M : Lot ms) (k : ∀ w, w ∈ ls ↔ w ∈ ms) (t : Wd) : cntT ls t = cntT ms t :=
  Nat.le_antisymm (cnt_mono L.nd L.ne M.ne (fun w h => (k w).mp h) t) (cnt_mono M.nd M.ne L.ne (fun w h => (k w).mpr h) t)
theorem cnt_rev_le {ls : List Wd} (L : Lot ls) (t : Wd) : cntT ls t ≤ cntT (revW ls) t.reverse := by
  rw [← rdT_len, ← rdT_len]
  have := nodup_le (l := (rdT ls t).map revR) (m := rdT (revW ls) t.reverse) (nodup_map (fun x y e => by rw [← revR_revR x, e, revR_revR]) (rdT_nodup L.nd t)) fun r hr => by
    obtain ⟨s, hs, rfl⟩ := List.mem_map.mp hr
    obtain ⟨h1, h2⟩ := (rdT_mem L.ne).mp hs
    exact (rdT_mem L.rev.ne).mpr ⟨h1.rev, by rw [revR_flat, h2]⟩
  rwa [List.length_map] at this
theorem cnt_rev {ls : List Wd} (L : Lot ls) (t : Wd) : cntT (revW ls) t.reverse = cntT ls t := by
  refine Nat.le_antisymm ?_ (cnt_rev_le L t)
  have := cnt_rev_le L.rev t.reverse
  rwa [revW_revW, List.reverse_reverse] at this
theorem cnt_one {ls : List Wd} (L : Lot ls) (h : OneWay ls) (t : Wd) : cntT ls t ≤ 1 := by
  rw [← rdT_len]
  have nd := rdT_nodup L.nd t
  have mem := fun r => (rdT_mem L.ne (t := t) (r := r)).mp
  cases q : rdT ls t with
  | nil => simp
  | cons a l =>
    cases l with
    | nil => simp
    | cons b l =>
      rw [q] at nd mem
      obtain ⟨a1, a2⟩ := mem a (by simp)
      obtain ⟨b1, b2⟩ := mem b (by simp)
      have := h a b a1 b1 (by rw [a2, b2])
      subst this
      simp at nd
theorem cnt_two {ls : List Wd} (L : Lot ls) {t : Wd} (h : 2 ≤ cntT ls t) : ¬ OneWay ls := fun z => by have := cnt_one L z t; omega
theorem cnt_row {ls : List Wd} (ne : ∀ w ∈ ls, w ≠ []) {r : List Wd} (h : Row ls r) : 0 < cntT ls r.flatten := by
  rw [← rdT_len]
  exact List.length_pos_of_mem ((rdT_mem ne).mpr ⟨h, rfl⟩)
theorem cnt_mul {ls : List Wd} (L : Lot ls) (u v : Wd) : cntT ls u * cntT ls v ≤ cntT ls (u ++ v) := by
  rw [← rdT_len, ← rdT_len, ← rdT_len]
  have e : ((rdT ls u).flatMap fun a => (rdT ls v).map (a ++ ·)).length = (rdT ls u).length * (rdT ls v).length := by
    rw [List.length_flatMap]
    simp only [List.length_map]
    generalize (rdT ls v).length = m
    induction rdT ls u with
    | nil => simp
    | cons a l ih => rw [List.map_cons, List.sum_cons, ih, List.length_cons, Nat.succ_mul, Nat.add_comm]
  rw [← e]
  refine nodup_le (nodup_flatMap (rdT_nodup L.nd u) (fun a _ => nodup_map (fun x y h => List.append_cancel_left h) (rdT_nodup L.nd v)) fun a ha b hb ab z hz hz2 => ?_) fun r hr => ?_
  · obtain ⟨x, hx, rfl⟩ := List.mem_map.mp hz
    obtain ⟨y, hy, h⟩ := List.mem_map.mp hz2
    obtain ⟨a1, a2⟩ := (rdT_mem L.ne).mp ha
    obtain ⟨b1, b2⟩ := (rdT_mem L.ne).mp hb
    obtain ⟨x1, x2⟩ := (rdT_mem L.ne).mp hx
    obtain ⟨y1, y2⟩ := (rdT_mem L.ne).mp hy
    -- two readings of u, both beginnings of one row
    have key : ∀ {p q x y : List Wd}, Row ls p → Row ls q → p.flatten = q.flatten → p ++ x = q ++ y → p = q := by
      intro p
      induction p with
      | nil => intro q x y _ hq e _; exact (hq.empty L.ne e.symm).symm
      | cons w p ih =>
        intro q x y hp hq e e2
        cases q with
        | nil => exact hp.empty L.ne e
        | cons w2 q =>
          simp only [List.cons_append, List.cons.injEq] at e2
          obtain ⟨e3, e4⟩ := e2
          subst e3
          rw [List.flatten_cons, List.flatten_cons] at e
          rw [ih hp.tl hq.tl (List.append_cancel_left e) e4]
    exact ab (key a1 b1 (by rw [a2, b2]) h.symm)
  · obtain ⟨a, ha, h⟩ := List.mem_flatMap.mp hr
    obtain ⟨b, hb, rfl⟩ := List.mem_map.mp h
    obtain ⟨a1, a2⟩ := (rdT_mem L.ne).mp ha
    obtain ⟨b1, b2⟩ := (rdT_mem L.ne).mp hb
    exact (rdT_mem L.ne).mpr ⟨a1.app b1, by rw [List.flatten_append, a2, b2]⟩
end DL
namespace DL
open PySem PySem.Spec L2
noncomputable def B_run_of : MS := (mRet (mMeth dJoin isStrD (mC (.str "")) [(mLc (mIter (mVar 1)) (Tg.m (.nm 2)) mYes (mBin dIx (mUn (dFld "Stock" "kept_words") (mVar 0)) (mVar 2)) [2])]))
noncomputable def M_run_of : FM := mDef 2 3 B_run_of

noncomputable def B_joined : MS := (mSeq (mFor (mIter (mVar 1)) (mName 2) (mIfS (mNot (mTest (mChain dLe dLt (mC (.int 0)) (mVar 2) (mCallB dLen [(mUn (dFld "Stock" "kept_words") (mVar 0))])))) mNever mPass))
  (mRet (mCallF M_run_of [.c, .l] [(mVar 0), (mVar 1)])))
noncomputable def M_joined : FM := mDef 2 3 B_joined

noncomputable def B_steps_from : MS := (mSeq (mAsg (mList []) (mName 4))
  (mSeq (mFor (mEnum (mVar 0)) (mTupG [(mName 5), (mName 6)]) (mIfS (mAnd (mTest (mBin dEq (mSl dSl (mVar 1) (mPart (mVar 2)) (mPart (mBin dAdd (mVar 2) (mCallB dLen [(mVar 6)])))) (mVar 6))) (mTest (mBin dGt (mBin dIx (mVar 3) (mBin dAdd (mVar 2) (mCallB dLen [(mVar 6)]))) (mC (.int 0))))) (mAppend 4 (mTup [(mVar 5), (mBin dIx (mVar 3) (mBin dAdd (mVar 2) (mCallB dLen [(mVar 6)])))])) mPass))
  (mRet (mVar 4))))
noncomputable def M_steps_from : FM := mDef 4 7 B_steps_from

noncomputable def B_reading_index : MS := (mSeq (mAsg (mCallF M_joined [.c, .l] [(mVar 0), (mVar 1)]) (mName 2))
  (mSeq (mAsg (mCallF M_ways_behind [.c, .c] [(mUn (dFld "Stock" "kept_words") (mVar 0)), (mVar 2)]) (mName 3))
  (mSeq (mAsg (mTup [(mC (.int 0)), (mC (.int 0))]) (mTupG [(mName 4), (mName 5)]))
  (mSeq (mFor (mIter (mVar 1)) (mName 6) (mSeq (mAsg (mCallF M_steps_from [.c, .c, .c, .c] [(mUn (dFld "Stock" "kept_words") (mVar 0)), (mVar 2), (mVar 5), (mVar 3)]) (mName 7))
  (mSeq (mAug 4 dIAdd (mCallB dSum [(mLc (mIter (mVar 7)) (Tg.m (.tp [(.nm 8), (.nm 9)])) (mTest (mBin dLt (mVar 8) (mVar 6))) (mVar 9) [8, 9])]))
  (mAug 5 dIAdd (mCallB dLen [(mBin dIx (mUn (dFld "Stock" "kept_words") (mVar 0)) (mVar 6))])))))
  (mRet (mVar 4))))))
noncomputable def M_reading_index : FM := mDef 2 10 B_reading_index

noncomputable def B_starts_of : MS := (mSeq (mAsg (mList []) (mName 1))
  (mSeq (mFor (mEnum (mVar 0)) (mTupG [(mName 2), (mName 3)]) (mFor (mEnum (mVar 0)) (mTupG [(mName 4), (mName 5)]) (mIfS (mAnd (mTest (mBin dNe (mVar 2) (mVar 4))) (mTest (mBin dEq (mSl dSl (mVar 5) mNoPart (mPart (mCallB dLen [(mVar 3)]))) (mVar 3)))) (mAppend 1 (mTup [(mVar 2), (mVar 4), (mSl dSl (mVar 5) (mPart (mCallB dLen [(mVar 3)])) mNoPart)])) mPass)))
  (mRet (mVar 1))))
noncomputable def M_starts_of : FM := mDef 1 6 B_starts_of

noncomputable def B_steps_of : MS := (mSeq (mAsg (mList []) (mName 2))
  (mSeq (mFor (mEnum (mVar 0)) (mTupG [(mName 3), (mName 4)]) (mIfS (mTest (mBin dEq (mSl dSl (mVar 1) mNoPart (mPart (mCallB dLen [(mVar 4)]))) (mVar 4))) (mAppend 2 (mTup [(mVar 3), (mSl dSl (mVar 1) (mPart (mCallB dLen [(mVar 4)])) mNoPart), (mC (.bool true))])) (mIfS (mTest (mBin dEq (mSl dSl (mVar 4) mNoPart (mPart (mCallB dLen [(mVar 1)]))) (mVar 1))) (mAppend 2 (mTup [(mVar 3), (mSl dSl (mVar 4) (mPart (mCallB dLen [(mVar 1)])) mNoPart), (mC (.bool false))])) mPass)))
  (mRet (mVar 2))))
noncomputable def M_steps_of : FM := mDef 2 5 B_steps_of

noncomputable def B_rests_from : MS := (mSeq (mAsg (mLc (mIter (mCallF M_starts_of [.l] [(mVar 0)])) (Tg.m (.tp [(.nm 2), (.nm 3), (.nm 4)])) mYes (mVar 4) [2, 3, 4]) (mName 1))
  (mSeq (mAsg (mList []) (mName 5))
  (mSeq (mWhile (mTest (mBin dNe (mVar 1) (mList []))) (mSeq (mAsg (mPop 1) (mName 4))
  (mIfS (mTest (mBin dNotIn (mVar 4) (mVar 5))) (mSeq (mAppend 5 (mVar 4))
  (mIfS (mTest (mBin dNe (mVar 4) (mC (.str "")))) (mAsg (mBin dAdd (mVar 1) (mLc (mIter (mCallF M_steps_of [.l, .c] [(mVar 0), (mVar 4)])) (Tg.m (.tp [(.nm 6), (.nm 7), (.nm 8)])) mYes (mVar 7) [6, 7, 8])) (mName 1)) mPass)) mPass)))
  (mRet (mCallB dSorted [(mVar 5)])))))
noncomputable def M_rests_from : FM := mDef 1 9 B_rests_from

noncomputable def B_is_one_way : MS := (mRet (mBin dNotIn (mC (.str "")) (mCallF M_rests_from [.c] [(mUn (dFld "Stock" "kept_words") (mVar 0))])))
noncomputable def M_is_one_way : FM := mDef 1 1 B_is_one_way

noncomputable def B_nth_reading : MS := (mSeq (mDrop (mCallF M_check_text [.c] [(mVar 1)]))
  (mSeq (mAsg (mCallF M_ways_behind [.c, .l] [(mUn (dFld "Stock" "kept_words") (mVar 0)), (mVar 1)]) (mName 3))
  (mSeq (mIfS (mNot (mTest (mChain dLe dLt (mC (.int 0)) (mVar 2) (mBin dIx (mVar 3) (mC (.int 0)))))) mNever mPass)
  (mSeq (mPar [4, 5, 6] [(mList []), (mC (.int 0)), (mVar 2)])
  (mSeq (mWhile (mTest (mBin dLt (mVar 5) (mCallB dLen [(mVar 1)]))) (mSeq (mFor (mIter (mCallF M_steps_from [.c, .l, .c, .c] [(mUn (dFld "Stock" "kept_words") (mVar 0)), (mVar 1), (mVar 5), (mVar 3)])) (mTupG [(mName 7), (mName 8)]) (mSeq (mIfS (mTest (mBin dLt (mVar 6) (mVar 8))) (mSeq (mAppend 4 (mVar 7))
  mBreak) mPass)
  (mAug 6 dSub (mVar 8))))
  (mAug 5 dIAdd (mCallB dLen [(mBin dIx (mUn (dFld "Stock" "kept_words") (mVar 0)) (mBin dIx (mVar 4) (mUn dNeg (mC (.int 1)))))]))))
  (mRet (mVar 4)))))))
noncomputable def M_nth_reading : FM := mDef 3 9 B_nth_reading

noncomputable def B_law_fits_k09 : MS := (mSeq (mAsg (mIf (mTest (mBin dEq (mCallF M_law_draw [.p, .c] [(mVar 0), (mC (.int 3))]) (mC (.int 0)))) (mCallF M_law_known [.p] [(mVar 0)]) (mCallF M_law_lot [.p, .c, .c] [(mVar 0), (mC (.int 6)), (mC (.int 5))])) (mName 1))
  (mSeq (mPar [2, 3] [(mMake "Stock" M_Stock_init [(mVar 1)]), (mList [])])
  (mSeq (mFor (mRange rngOf1 [(mC (.int 2))]) (mName 4) (mAppend 3 (mLc (mRange rngOf1 [(mCallF M_law_draw [.p, .c] [(mVar 0), (mC (.int 9))])]) (Tg.m (.nm 5)) mYes (mCallF M_law_draw [.p, .c] [(mVar 0), (mCallB dLen [(mVar 1)])]) [5])))
  (mSeq (mAsg (mLc (mIter (mVar 3)) (Tg.m (.nm 7)) mYes (mCallF M_joined [.c, .c] [(mVar 2), (mVar 7)]) [7]) (mName 6))
  (mSeq (mAsg (mLc (mIter (mVar 6)) (Tg.m (.nm 9)) mYes (mCallF M_count_readings [.c, .c] [(mVar 2), (mVar 9)]) [9]) (mName 8))
  (mSeq (mAsg (mCallF M_joined [.c, .c] [(mVar 2), (mBin dAdd (mBin dIx (mVar 3) (mC (.int 0))) (mBin dIx (mVar 3) (mC (.int 1))))]) (mName 10))
  (mSeq (mPar [11, 12] [(mBin dMul (mBin dIx (mVar 8) (mC (.int 0))) (mBin dIx (mVar 8) (mC (.int 1)))), (mCallF M_count_readings [.c, .c] [(mVar 2), (mVar 10)])])
  (mSeq (mIfS (mOr (mTest (mBin dNe (mVar 10) (mBin dAdd (mBin dIx (mVar 6) (mC (.int 0))) (mBin dIx (mVar 6) (mC (.int 1)))))) (mOr (mTest (mBin dLt (mVar 12) (mVar 11))) (mNot (mTest (mCallF M_is_text [.c, .c] [(mVar 2), (mVar 10)]))))) (mRet (mC (.bool false))) mPass)
  (mSeq (mIfS (mAnd (mTest (mCallF M_is_one_way [.c] [(mVar 2)])) (mTest (mBin dNe (mList [(mVar 12), (mVar 11)]) (mList [(mC (.int 1)), (mC (.int 1))])))) (mRet (mC (.bool false))) mPass)
  (mSeq (mAsg (mCallF M_reading_index [.c, .c] [(mVar 2), (mBin dAdd (mBin dIx (mVar 3) (mC (.int 0))) (mBin dIx (mVar 3) (mC (.int 1))))]) (mName 13))
  (mSeq (mIfS (mOr (mNot (mTest (mChain dLe dLt (mC (.int 0)) (mVar 13) (mVar 12)))) (mTest (mBin dNe (mCallF M_nth_reading [.c, .c, .c] [(mVar 2), (mVar 10), (mVar 13)]) (mBin dAdd (mBin dIx (mVar 3) (mC (.int 0))) (mBin dIx (mVar 3) (mC (.int 1))))))) (mRet (mC (.bool false))) mPass)
  (mSeq (mAsg (mCallF M_law_word [.p, .c, .c] [(mVar 0), (mC (.int 3)), (mC (.str "ab"))]) (mName 14))
  (mSeq (mIfS (mAnd (mTest (mBin dNotIn (mVar 14) (mVar 1))) (mTest (mBin dLt (mCallF M_count_readings [.c, .c] [(mCallF M_with_word [.c, .c] [(mVar 2), (mVar 14)]), (mVar 10)]) (mVar 12)))) (mRet (mC (.bool false))) mPass)
  (mSeq (mAsg (mMake "Stock" M_Stock_init [(mLc (mIter (mVar 1)) (Tg.m (.nm 5)) mYes (mUn dRev (mVar 5)) [5])]) (mName 15))
  (mSeq (mIfS (mOr (mTest (mBin dNe (mCallF M_count_readings [.c, .c] [(mVar 15), (mUn dRev (mVar 10))]) (mVar 12))) (mTest (mBin dNe (mCallF M_is_one_way [.c] [(mVar 15)]) (mCallF M_is_one_way [.c] [(mVar 2)])))) (mRet (mC (.bool false))) mPass)
  (mRet (mBin dEq (mCallF M_count_readings [.c, .c] [(mMake "Stock" M_Stock_init [(mUn dRev (mVar 1))]), (mVar 10)]) (mVar 12))))))))))))))))))
noncomputable def M_law_fits_k09 : FM := mDef 1 16 B_law_fits_k09

noncomputable def B_law_k09 : MS := (mSeq (mFor (mRange rngOf1 [(mCallB dMax2 [(mC (.int 1)), (mCallB dMin2 [(mC (.int 6)), (mCallB dLen [(mVar 0)])])])]) (mName 1) (mSeq (mAsg (mCallF M_law_pool [.l, .c] [(mVar 0), (mVar 1)]) (mName 2))
  (mFor (mRange rngOf1 [(mC (.int 5))]) (mName 3) (mIfS (mNot (mTest (mCallF M_law_fits_k09 [.p] [(mVar 2)]))) (mRet (mC (.bool false))) mPass))))
  (mRet (mC (.bool true))))
noncomputable def M_law_k09 : FM := mDef 1 4 B_law_k09
end DL
namespace DL
open PySem PySem.Spec L2
local macro_rules
  | `(tactic| simp_arith [$xs,*]) => `(tactic| simp only [$xs,*, ↓Ev_eq, ↓iV_ok, ↓iV_bind, ↓iV_stuck, ↓iV_ite, ↓iV_bindN, ↓iV_some, ↓iV_none, ↓iV_oifG, ↓iV_gif, ↓iv_c, ↓iv_bin, ↓iv_un, ↓iv_test, ↓iv_and, ↓iv_or, ↓iv_not, ↓iv_val, ↓iv_if, ↓iv_yes, ↓iv_ds_nil, ↓iv_ds_cons, ↓iv_rs_nil, ↓iv_rs_cons, ↓iv_list, ↓iv_tup, ↓iv_callB, ↓iv_part, ↓iv_nopart, ↓iv_sl, ↓iv_meth, ↓iv_repr, ↓iv_rne, ↓iv_req, ↓iv_chain, ↓iv_pass, ↓iv_break, ↓iv_cont, ↓iv_never, ↓iv_seq, ↓iv_ret, ↓iv_retN, ↓iv_ifS, ↓iv_drop, ↓iv_asg, ↓iv_name_val, ↓iv_name_new, ↓iv_name_sl, ↓iv_tupG, ↓iv_asg_nil, ↓iv_asg_cons, ↓iv_setIx, ↓iv_append, ↓iv_aug, ↓iv_as_nil, ↓iv_as_t, ↓iv_as_f, ↓iv_as_l, ↓iv_callF, ↓iv_callK, ↓iv_range, ↓iv_iter, ↓iv_for, ↓iv_lc, ↓iv_par, ↓iv_hs_nil, ↓iv_hs_cons, ↓iv_listS, ↓iv_ss_nil, ↓iv_ss_one, ↓iv_ss_star, ↓iv_enum, ↓iv_make, ↓iv_prop, ↓iv_fldS, ↓iv_pop, ↓iv_popAt, ↓iv_extend, ↓iv_augIx, iV_ok, iV_bind, iV_stuck, iV_ite, iV_bindN, iV_some, iV_none, iV_oifG, iV_gif, iv_c, iv_bin, iv_un, iv_test, iv_and, iv_or, iv_not, iv_val, iv_if, iv_yes, iv_ds_nil, iv_ds_cons, iv_rs_nil, iv_rs_cons, iv_list, iv_tup, iv_callB, iv_part, iv_nopart, iv_sl, iv_meth, iv_repr, iv_rne, iv_req, iv_chain, iv_pass, iv_break, iv_cont, iv_never, iv_seq, iv_ret, iv_retN, iv_ifS, iv_drop, iv_asg, iv_name_val, iv_name_new, iv_name_sl, iv_tupG, iv_asg_nil, iv_asg_cons, iv_setIx, iv_append, iv_aug, iv_as_nil, iv_as_t, iv_as_f, iv_as_l, iv_callF, iv_callK, iv_range, iv_iter, iv_for, iv_lc, iv_par, iv_hs_nil, iv_hs_cons, iv_listS, iv_ss_nil, iv_ss_one, iv_ss_star, iv_enum, iv_make, iv_prop, iv_fldS, iv_pop, iv_popAt, iv_extend, iv_augIx, seqK_nx, seqK_bk, seqK_ct, seqK_rt, tupK_tup, asgK_nx, setN_some, setK_some, appK_some, augS_some, augK_fz, asK_sl, asL_sl, asL_val, backK_val, backK_new, callA_some, backN_val, backN_new, rngK_some, optR_some, optR_if, itK_some, chK_b, turnQ_nx, turnQ_ct, turnQ_bk, turnQ_rt, varK_fz, varK_ow, mVar_eq, mC_eq, data_val, data_new, datK_fz, datK_ow, data_sl, frz_val, frz_new, frzK_fz, frzK_ow, frz_sl, freeK_no, freeK_fz, freeK_ow, free_eq, ownL_eq, ownK_fr, ownK_pn, datas_nil, consD_ok, datas_cons', asB_b, asI_i, argSl_d, argSl_s, argSl_l, argL_fz, argL_ow, argK_fz, argK_fr, argK_pn, consO_some, mkArgs_nil, mkArgs_cons, slotsOf_nil, slotsOf_d, slotsOf_s, slotsOf_l, noDup_nil, noDup_one, noDup_two, putK_ow, putK_fz, putBack_nil, putBack_d, putBack_s, putBack_l, outEnv_nil, outEnv_fz, outEnv_ow, finR_val, finR_new, finR_sl, finK_fz, finK_ow, finQ_nx, finQ_rt, lockR_val, lockR_new, lockR_sl, lokK_fz, lokK_fr, lokK_lk, lockB_none, lockB_some, lokB_no, lokB_fz, lokB_fr, unlock_none, unlock_some, unlK_lk, optR_map_some, optR_map_if, wipeE_nil, wipeE_cons, backE_nil, backE_cons, plainAt_eq, plaK_no, plaK_fz, tgm_nm, tgm_tp, tgms_nil, tgms_cons, dLt_i, dLe_i, dGt_i, dGe_i, dLt_s, dLe_s, dGt_s, dGe_s, okD_int, okD_str, okD_bool, okD_none, dMax2_i, dMin2_i, atD3_0, atD3_1, atD3_2, ixN3_0, ixN3_1, ixN3_2, dAdd, dSub, dDiv, dMod, dPow, dMul, dNeg, dAbs, dInt, dLen, dIs, dIsNot, dIAdd, isNon, dIx, dSl, dRev, itemsD, List.getElem?_cons_zero, List.getElem?_cons_succ, List.getElem?_nil, List.set_cons_zero, List.set_cons_succ, List.set_nil, List.map_cons, List.map_nil, List.length_cons, List.length_nil, List.getD_cons_zero, List.getD_cons_succ, List.all_cons, List.all_nil, List.cons_append, List.nil_append, Option.isSome_some, Option.map_some, Option.map_none, true_and, and_true, Bool.and_true, Bool.true_and, Bool.not_true, Bool.not_false, if_true, if_false, ite_true, ite_false, decide_eq_true_eq, Bool.not_eq_true, Bool.not_eq_true', decide_eq_false_iff_not, not_true, not_false_iff, rngOf1, rngOf2, seqR_some, enumR_some, mkK_ok, prK_val, prK_new, fldR_some, fldS_fr, fldS_pn, popK_some, popR_some, popAK_some, popAR_some, extK_some, augM_some, augN_int, augJ_some, augI_int, seqD, hold_val, hold_new, hold_sl, slOf_val, slOf_new, storeHs_nil, storeHs_cons, isStrD_s, atD2_0, atD2_1, atD1_0, ite_and, and_false, false_and, or_false, false_or, or_true, true_or, reduceIte, reduceCtorEq, List.reduceReplicate, Nat.reduceSub, Nat.reduceAdd, Nat.reduceLeDiff, Int.reduceLT, Int.reduceLE, Int.reduceEq, Int.reduceMod, Int.reduceDiv, Int.reduceMul, Int.reduceAdd, Int.reduceSub, Int.reduceNeg, Int.reduceToNat, Bool.false_eq_true, lineM])
/-! ### starts_of -/
def trD (t : Nat × Nat × Wd) : D := .tuple [.int (t.1 : Int), .int (t.2.1 : Int), .str (S t.2.2)]
def StOk (ls : List Wd) (t : Nat × Nat × Wd) : Prop := ∃ u, ls[t.1]? = some u ∧ ls[t.2.1]? = some (u ++ t.2.2) ∧ t.2.2 ≠ []
def StJ (ls : List Wd) (i j : Nat) (rs : List (Nat × Nat × Wd)) : Prop := (∀ t ∈ rs, StOk ls t) ∧ (∀ t, StOk ls t → (t.1 < i ∨ (t.1 = i ∧ t.2.1 < j)) → t ∈ rs) ∧ rs.length ≤ i * ls.length + j
theorem nodup_at {ls : List Wd} (nd : ls.Nodup) {i j : Nat} {w : Wd} (h1 : ls[i]? = some w) (h2 : ls[j]? = some w) : i = j := by
  obtain ⟨l1, e1⟩ := List.getElem?_eq_some_iff.mp h1
  obtain ⟨l2, e2⟩ := List.getElem?_eq_some_iff.mp h2
  exact (List.getElem_inj nd).mp (e1.trans e2.symm)
theorem trD_snoc (rs : List (Nat × Nat × Wd)) (i j : Nat) (r : Wd) : rs.map trD ++ [.tuple [.int (i : Int), .int (j : Int), .str (S r)]] = (rs ++ [(i, j, r)]).map trD := by simp [trD]
theorem ev_starts_of {d0 : D} {ls : List Wd} {Q : Rv × Env → Prop} (hd : itemsD d0 = some (strsD ls)) (L : Lot ls) (k : ∀ rs : List (Nat × Nat × Wd), (∀ t, t ∈ rs ↔ StOk ls t) → rs.length ≤ 64 → Q (.new (.list (rs.map trD)), [.fz d0])) : Ev (M_starts_of [.fz d0]) Q := by
  refine Ev_defI ⟨rfl, rfl⟩ ?_
  unfold B_starts_of
  have few := L.few
  simp_arith [↓hd]
  refine ev_forD _ (fun pre _ env => ∃ rs s2 s3 s4 s5, freeK (some s2) = true ∧ freeK (some s3) = true ∧ freeK (some s4) = true ∧ freeK (some s5) = true ∧ env = [.fz d0, .ow .fr (.list (rs.map trD)), s2, s3, s4, s5] ∧ StJ ls pre.length 0 rs) (tup2_nx 2 3) ?_ ?_ _ ⟨[], _, _, _, _, rfl, rfl, rfl, rfl, rfl, by simp, fun t _ h => by simp at h, by simp⟩
  · rintro pre d post env e ⟨rs, s2, s3, s4, s5, f2, f3, f4, f5, rfl, hJ⟩
    obtain ⟨u, hu, rfl⟩ := enum_at e
    have pl : pre.length < ls.length := (List.getElem?_eq_some_iff.mp hu).1
    simp_arith [f2, f3, ↓hd]
    refine ev_forD _ (fun pre2 _ env => ∃ rs s4 s5, freeK (some s4) = true ∧ freeK (some s5) = true ∧ env = [.fz d0, .ow .fr (.list (rs.map trD)), .fz (.int (pre.length : Nat)), .fz (.str (S u)), s4, s5] ∧ StJ ls pre.length pre2.length rs) (tup2_nx 4 5) ?_ ?_ _ ⟨rs, _, _, f4, f5, rfl, hJ⟩
    · rintro pre2 d2 post2 env e2 ⟨rs, s4, s5, f4, f5, rfl, h1, h2, h3⟩
      obtain ⟨v, hv, rfl⟩ := enum_at e2
      have pl2 : pre2.length < ls.length := (List.getElem?_eq_some_iff.mp hv).1
      have hl : pre.length * ls.length ≤ 7 * 8 := Nat.mul_le_mul (by omega) few
      have ul := L.len u (List.mem_of_getElem? hu)
      have vl := L.len v (List.mem_of_getElem? hv)
      have skip : (∀ r, v ≠ u ++ r ∨ r = []) → StJ ls pre.length (pre2.length + 1) rs := fun hn => ⟨h1, fun t ht hlt => by
        rcases hlt with z | ⟨z1, z2⟩
        · exact h2 t ht (.inl z)
        · by_cases y : t.2.1 < pre2.length
          · exact h2 t ht (.inr ⟨z1, y⟩)
          · exfalso
            have y : t.2.1 = pre2.length := by omega
            obtain ⟨w, w1, w2, w3⟩ := ht
            rw [z1, hu] at w1
            rw [y, hv] at w2
            cases w1
            exact (hn t.2.2).elim (fun q => q (Option.some.inj w2)) w3, by omega⟩
      simp_arith [f4, f5, dNe_i, S_len, cut_take _ (Int.natCast_nonneg u.length), cut_drop _ (Int.natCast_nonneg u.length), int_natToNat, dEq_s]
      by_cases ij : (pre.length : Int) = (pre2.length : Int)
      · rw [if_neg (not_not_intro ij)]
        refine ⟨rs, _, _, rfl, rfl, rfl, ?_⟩
        rw [List.length_append, List.length_singleton]
        refine skip fun r => ?_
        by_cases r0 : r = []
        · exact .inr r0
        · refine .inl fun z => r0 ?_
          have : pre.length = pre2.length := by omega
          rw [this, hv] at hu
          have := Option.some.inj hu
          rw [z] at this
          simpa using this
      · rw [if_pos ij]
        by_cases tk : v.take u.length = u
        · rw [if_pos tk]
          have ev := begins_eq tk
          have r0 : v.drop u.length ≠ [] := fun z => ij (by
            rw [z, List.append_nil] at ev
            rw [ev] at hv
            have := nodup_at L.nd hu hv
            omega)
          have ok : StOk ls (pre.length, pre2.length, v.drop u.length) := ⟨u, hu, by rw [hv]; exact congrArg some ev, r0⟩
          simp_arith [trD_snoc]
          refine ⟨by omega, by omega, by omega, by omega, by rw [List.length_map]; omega, rs ++ [(pre.length, pre2.length, v.drop u.length)], _, _, rfl, rfl, rfl, ?_⟩
          rw [List.length_append, List.length_singleton]
          refine ⟨fun t ht => (List.mem_append.mp ht).elim (h1 t) fun z => by rw [List.mem_singleton.mp z]; exact ok, fun t ht hlt => ?_, by rw [List.length_append, List.length_singleton]; omega⟩
          rw [List.mem_append, List.mem_singleton]
          rcases hlt with z | ⟨z1, z2⟩
          · exact .inl (h2 t ht (.inl z))
          · by_cases y : t.2.1 < pre2.length
            · exact .inl (h2 t ht (.inr ⟨z1, y⟩))
            · right
              have y : t.2.1 = pre2.length := by omega
              obtain ⟨w, w1, w2, w3⟩ := ht
              rw [z1, hu] at w1
              rw [y, hv] at w2
              cases w1
              have e3 : v = u ++ t.2.2 := Option.some.inj w2
              obtain ⟨t1, t2, t3⟩ := t
              simp only at z1 y e3 ⊢
              rw [z1, y, e3, List.drop_left]
        · rw [if_neg tk]
          refine ⟨by omega, by omega, rs, _, _, rfl, rfl, rfl, ?_⟩
          rw [List.length_append, List.length_singleton]
          exact skip fun r => .inl fun z => tk (by rw [z, List.take_left])
    · rintro env ⟨rs, s4, s5, f4, f5, rfl, h1, h2, h3⟩
      simp_arith [Ev_eq]
      refine ⟨rs, _, _, _, _, rfl, rfl, f4, f5, rfl, ?_⟩
      have el : (enumD (strsD ls)).length = ls.length := by rw [enumD_len, strsD_len]
      rw [el] at h2 h3
      rw [List.length_append, List.length_singleton]
      refine ⟨h1, fun t ht hlt => ?_, by rw [Nat.succ_mul]; omega⟩
      obtain ⟨w, w1, w2, w3⟩ := ht
      have := (List.getElem?_eq_some_iff.mp w2).1
      exact h2 t ⟨w, w1, w2, w3⟩ (by omega)
  · rintro env ⟨rs, s2, s3, s4, s5, f2, f3, f4, f5, rfl, h1, h2, h3⟩
    simp_arith [Ev_eq]
    have el : (enumD (strsD ls)).length = ls.length := by rw [enumD_len, strsD_len]
    rw [el] at h2 h3
    have hl : ls.length * ls.length ≤ 8 * 8 := Nat.mul_le_mul few few
    refine k rs (fun t => ⟨h1 t, fun ht => h2 t ht (.inl ?_)⟩) (by omega)
    obtain ⟨w, w1, _, _⟩ := ht
    exact (List.getElem?_eq_some_iff.mp w1).1
/-! ### steps_of -/
def spD (t : Nat × Wd × Bool) : D := .tuple [.int (t.1 : Int), .str (S t.2.1), .bool t.2.2]
def SpOk (ls : List Wd) (c : Wd) (t : Nat × Wd × Bool) : Prop := ∃ w, ls[t.1]? = some w ∧ ((t.2.2 = true ∧ c = w ++ t.2.1) ∨ (t.2.2 = false ∧ c.take w.length ≠ w ∧ w = c ++ t.2.1))
theorem spD_snoc (rs : List (Nat × Wd × Bool)) (i : Nat) (r : Wd) (b : Bool) : rs.map spD ++ [.tuple [.int (i : Int), .str (S r), .bool b]] = (rs ++ [(i, r, b)]).map spD := by simp [spD]
theorem ev_steps_of {d0 : D} {ls : List Wd} {c : Wd} {Q : Rv × Env → Prop} (hd : itemsD d0 = some (strsD ls)) (L : Lot ls) (c8 : c.length ≤ 1000) (k : ∀ rs : List (Nat × Wd × Bool), (∀ t, t ∈ rs ↔ SpOk ls c t) → rs.length ≤ 8 → Q (.new (.list (rs.map spD)), [.fz d0, .fz (.str (S c))])) : Ev (M_steps_of [.fz d0, .fz (.str (S c))]) Q := by
  refine Ev_defI ⟨rfl, rfl⟩ ?_
  unfold B_steps_of
  have few := L.few
  simp_arith [↓hd]
  refine ev_forD _ (fun pre _ env => ∃ rs s3 s4, freeK (some s3) = true ∧ freeK (some s4) = true ∧ env = [.fz d0, .fz (.str (S c)), .ow .fr (.list (rs.map spD)), s3, s4] ∧ (∀ t ∈ rs, SpOk ls c t) ∧ (∀ t, SpOk ls c t → t.1 < pre.length → t ∈ rs) ∧ rs.length ≤ pre.length) (tup2_nx 3 4) ?_ ?_ _ ⟨[], _, _, rfl, rfl, rfl, by simp, fun t _ h => by simp at h, by simp⟩
  · rintro pre d post env e ⟨rs, s3, s4, f3, f4, rfl, h1, h2, h3⟩
    obtain ⟨u, hu, rfl⟩ := enum_at e
    have pl : pre.length < ls.length := (List.getElem?_eq_some_iff.mp hu).1
    have ul := L.len u (List.mem_of_getElem? hu)
    -- one more
    have add : ∀ (r : Wd) (b : Bool), SpOk ls c (pre.length, r, b) → (∀ t, SpOk ls c t → t.1 = pre.length → t = (pre.length, r, b)) → (∀ t ∈ rs ++ [(pre.length, r, b)], SpOk ls c t) ∧ (∀ t, SpOk ls c t → t.1 < pre.length + 1 → t ∈ rs ++ [(pre.length, r, b)]) ∧ (rs ++ [(pre.length, r, b)]).length ≤ pre.length + 1 := fun r b ok only =>
      ⟨fun t ht => (List.mem_append.mp ht).elim (h1 t) fun z => by rw [List.mem_singleton.mp z]; exact ok, fun t ht hl => by
        rw [List.mem_append, List.mem_singleton]
        by_cases y : t.1 < pre.length
        · exact .inl (h2 t ht y)
        · exact .inr (only t ht (by omega)), by rw [List.length_append, List.length_singleton]; omega⟩
    simp_arith [f3, f4, S_len, cut_take _ (Int.natCast_nonneg u.length), cut_take _ (Int.natCast_nonneg c.length), cut_drop _ (Int.natCast_nonneg u.length), cut_drop _ (Int.natCast_nonneg c.length), int_natToNat, dEq_s]
    by_cases tk : c.take u.length = u
    · rw [if_pos tk]
      have ec := begins_eq tk
      simp_arith [spD_snoc]
      have z := add (c.drop u.length) true ⟨u, hu, .inl ⟨rfl, ec⟩⟩ fun t ⟨w, w1, w2⟩ te => by
        rw [te, hu] at w1
        cases w1
        obtain ⟨t1, t2, t3⟩ := t
        rcases w2 with ⟨b1, b2⟩ | ⟨b1, b2, b3⟩
        · simp only at te b1 b2 ⊢
          rw [te, b1, b2, List.drop_left]
        · exact absurd tk b2
      refine ⟨by omega, by omega, by omega, by omega, by rw [List.length_map]; omega, rs ++ [(pre.length, c.drop u.length, true)], _, _, rfl, rfl, rfl, ?_⟩
      rw [List.length_append, List.length_singleton]
      exact z
    · rw [if_neg tk]
      by_cases tk2 : u.take c.length = c
      · rw [if_pos tk2]
        have eu := begins_eq tk2
        simp_arith [spD_snoc]
        have z := add (u.drop c.length) false ⟨u, hu, .inr ⟨rfl, tk, eu⟩⟩ fun t ⟨w, w1, w2⟩ te => by
          rw [te, hu] at w1
          cases w1
          obtain ⟨t1, t2, t3⟩ := t
          rcases w2 with ⟨b1, b2⟩ | ⟨b1, b2, b3⟩
          · exact absurd (by rw [b2, List.take_left]) tk
          · simp only at te b1 b3 ⊢
            rw [te, b1, b3, List.drop_left]
        refine ⟨by omega, by omega, by omega, by omega, by omega, by omega, by rw [List.length_map]; omega, rs ++ [(pre.length, u.drop c.length, false)], _, _, rfl, rfl, rfl, ?_⟩
        rw [List.length_append, List.length_singleton]
        exact z
      · rw [if_neg tk2]
        refine ⟨by omega, by omega, by omega, by omega, rs, _, _, rfl, rfl, rfl, ?_⟩
        rw [List.length_append, List.length_singleton]
        refine ⟨h1, fun t ht hl => ?_, by omega⟩
        by_cases y : t.1 < pre.length
        · exact h2 t ht y
        · exfalso
          obtain ⟨w, w1, w2⟩ := ht
          rw [show t.1 = pre.length by omega, hu] at w1
          cases w1
          rcases w2 with ⟨b1, b2⟩ | ⟨b1, b2, b3⟩
          · exact tk (by rw [b2, List.take_left])
          · exact tk2 (by rw [b3, List.take_left])
  · rintro env ⟨rs, s3, s4, f3, f4, rfl, h1, h2, h3⟩
    simp_arith [Ev_eq]
    have el : (enumD (strsD ls)).length = ls.length := by rw [enumD_len, strsD_len]
    rw [el] at h2 h3
    refine k rs (fun t => ⟨h1 t, fun ht => h2 t ht ?_⟩) (by omega)
    obtain ⟨w, w1, _⟩ := ht
    exact (List.getElem?_eq_some_iff.mp w1).1
/-! ### rests_from -/
def sufs (ls : List Wd) : List Wd := ls.flatMap fun w => (List.range 9).map fun i => w.drop i
theorem sufs_len (ls : List Wd) : (sufs ls).length = 9 * ls.length := by
  unfold sufs
  rw [List.length_flatMap]
  simp only [List.length_map, List.length_range]
  induction ls with
  | nil => rfl
  | cons a r ih => rw [List.map_cons, List.sum_cons, ih, List.length_cons]; omega
theorem sufs_mem {ls : List Wd} {w r : Wd} {a : Wd} (h : w ∈ ls) (e : w = a ++ r) (l : w.length ≤ 8) : r ∈ sufs ls := by
  unfold sufs
  rw [List.mem_flatMap]
  refine ⟨w, h, List.mem_map.mpr ⟨a.length, List.mem_range.mpr ?_, by rw [e, List.drop_left]⟩⟩
  rw [e, List.length_append] at l
  omega
theorem sufs_drop {ls : List Wd} {a r : Wd} (h : a ++ r ∈ sufs ls) : ∃ w b, w ∈ ls ∧ w = b ++ r := by
  unfold sufs at h
  rw [List.mem_flatMap] at h
  obtain ⟨w, hw, hm⟩ := h
  obtain ⟨i, _, e⟩ := List.mem_map.mp hm
  exact ⟨w, w.take i ++ a, hw, by rw [List.append_assoc, ← e, List.take_append_drop]⟩
theorem rst_suf {ls : List Wd} (L : Lot ls) {r : Wd} (h : Rst ls r) : r ∈ sufs ls := by
  induction h with
  | @start u r hu hv _ => exact sufs_mem hv rfl (L.len _ hv)
  | @lead w r _ _ ih =>
    obtain ⟨v, b, h1, h2⟩ := sufs_drop ih
    exact sufs_mem h1 h2 (L.len _ h1)
  | @swap c r _ _ hw _ => exact sufs_mem hw rfl (L.len _ hw)
theorem suf_len {ls : List Wd} (L : Lot ls) {r : Wd} (h : r ∈ sufs ls) : r.length ≤ 8 := by
  obtain ⟨w, b, h1, h2⟩ := sufs_drop (a := []) h
  have := L.len w h1
  rw [h2, List.length_append] at this
  omega
/-- a step behind a rest -/
def Stp (ls : List Wd) (c r : Wd) : Prop := (∃ w, w ∈ ls ∧ c = w ++ r) ∨ (c ++ r ∈ ls)
theorem sp_stp {ls : List Wd} {c r : Wd} : (∃ t, SpOk ls c t ∧ t.2.1 = r) ↔ Stp ls c r := by
  constructor
  · rintro ⟨⟨i, r', b⟩, ⟨w, w1, w2⟩, rfl⟩
    rcases w2 with ⟨_, e⟩ | ⟨_, _, e⟩
    · exact .inl ⟨w, List.mem_of_getElem? w1, e⟩
    · exact .inr (by rw [← e]; exact List.mem_of_getElem? w1)
  · rintro (⟨w, hw, e⟩ | hw)
    · obtain ⟨i, hi⟩ := List.getElem?_of_mem hw
      exact ⟨(i, r, true), ⟨w, hi, .inl ⟨rfl, e⟩⟩, rfl⟩
    · obtain ⟨i, hi⟩ := List.getElem?_of_mem hw
      by_cases tk : c.take (c ++ r).length = c ++ r
      · have : r = [] := by
          have := congrArg List.length tk
          rw [List.length_take, List.length_append] at this
          exact List.length_eq_zero_iff.mp (by omega)
        subst this
        exact ⟨(i, [], true), ⟨c ++ [], hi, .inl ⟨rfl, by simp⟩⟩, rfl⟩
      · exact ⟨(i, r, false), ⟨c ++ r, hi, .inr ⟨rfl, tk, rfl⟩⟩, rfl⟩
theorem Rst.step {ls : List Wd} {c r : Wd} (h : Rst ls c) (c0 : c ≠ []) (s : Stp ls c r) : Rst ls r := by
  rcases s with ⟨w, hw, e⟩ | hw
  · exact (e ▸ h : Rst ls (w ++ r)).lead hw
  · exact h.swap c0 hw
theorem rst_closed {ls : List Wd} (ne : ∀ w ∈ ls, w ≠ []) {X : Wd → Prop} (h1 : ∀ u r, u ∈ ls → u ++ r ∈ ls → r ≠ [] → X r) (h2 : ∀ c r, X c → c ≠ [] → Stp ls c r → X r) {r : Wd} (h : Rst ls r) : X r := by
  induction h with
  | @start u r hu hv hr => exact h1 u r hu hv hr
  | @lead w r _ hw ih => exact h2 _ _ ih (fun z => ne w hw (List.append_eq_nil_iff.mp z).1) (.inl ⟨w, hw, rfl⟩)
  | @swap c r _ hc hw ih => exact h2 c r ih hc (.inr hw)
theorem map_tr (rs : List (Nat × Nat × Wd)) : (rs.map trD).map (fun d => match d with | .tuple [_, _, x] => x | d => d) = strsD (rs.map fun t => t.2.2) := by
  simp [strsD, trD, Function.comp]
theorem map_sp (rs : List (Nat × Wd × Bool)) : (rs.map spD).map (fun d => match d with | .tuple [_, x, _] => x | d => d) = strsD (rs.map fun t => t.2.1) := by
  simp [strsD, spD, Function.comp]
theorem tup3_nx (i j l : Nat) (d : D) (env : Env) : Ev (mTupG [mName i, mName j, mName l] (.val d) env) (fun z => z.1 = .nx) ∨ mTupG [mName i, mName j, mName l] (.val d) env = .stuck :=
  tupG_nx _ (fun m hm => by
    rcases List.mem_cons.mp hm with e | e
    · rw [e]; exact name_nx i
    · rcases List.mem_cons.mp e with e | e
      · rw [e]; exact name_nx j
      · rw [List.mem_singleton.mp e]; exact name_nx l) d env
theorem ev_rests_from {ls : List Wd} {Q : Rv × Env → Prop} (L : Lot ls) (k : ∀ fs : List Wd, fs.Nodup → (∀ r, r ∈ fs ↔ Rst ls r) → Q (.new (.list (strsD (sortW fs))), [.fz (.tuple (strsD ls))])) : Ev (M_rests_from [.fz (.tuple (strsD ls))]) Q := by
  refine Ev_defI ⟨rfl, rfl⟩ ?_
  unfold B_rests_from
  have few := L.few
  have hd : itemsD (.tuple (strsD ls)) = some (strsD ls) := rfl
  simp_arith [Ev_eq]
  refine ev_starts_of hd L fun rs hrs rl => ?_
  simp_arith [Ev_eq]
  refine ev_lc_pure (fun d => match d with | .tuple [_, _, x] => x | d => d) (tup3_nx 2 3 4) (by rw [List.length_map]; omega) (fun d hd => ?_) ?_
  · obtain ⟨t, ht, rfl⟩ := List.mem_map.mp hd
    unfold trD
    simp_arith [Ev_eq]
  rw [map_tr]
  simp_arith [Ev_eq]
  have ul : (sufs ls).length ≤ 72 := by rw [sufs_len]; omega
  refine ev_while (fun m env => ∃ ws fs s4, freeK (some s4) = true ∧ env = [.fz (.tuple (strsD ls)), .ow .fr (.list (strsD ws)), .no, .no, s4, .ow .fr (.list (strsD fs)), .no, .no, .no] ∧ (∀ r ∈ ws, Rst ls r) ∧ (∀ r ∈ fs, Rst ls r) ∧ fs.Nodup ∧
    (∀ u r, u ∈ ls → u ++ r ∈ ls → r ≠ [] → r ∈ ws ∨ r ∈ fs) ∧ (∀ c ∈ fs, c ≠ [] → ∀ r, Stp ls c r → r ∈ ws ∨ r ∈ fs) ∧ ws.length + 10 * ((sufs ls).length - fs.length) ≤ m ∧ ws.length ≤ 64 + 10 * fs.length) ?_ 1000 _ ?_
  · rintro m env ⟨ws, fs, s4, f4, rfl, i1, i2, nd, i3, i4, hm, wl⟩
    have fl : fs.length ≤ (sufs ls).length := nodup_le nd fun r hr => rst_suf L (i2 r hr)
    simp_arith [dNe_W0]
    rcases List.eq_nil_or_concat ws with rfl | ⟨init, r, e⟩
    · rw [if_neg (by simp)]
      have full : ∀ r, Rst ls r → r ∈ fs := fun r hr => rst_closed L.ne (X := fun r => r ∈ fs) (fun u r hu hv h0 => (i3 u r hu hv h0).elim (fun z => by simp at z) id) (fun c r hc c0 st => (i4 c hc c0 r st).elim (fun z => by simp at z) id) hr
      simp_arith [dSorted_W]
      exact k fs nd fun r => ⟨i2 r, full r⟩
    · rw [List.concat_eq_append] at e
      subst e
      rw [if_pos (by simp)]
      have hr : Rst ls r := i1 r (by simp)
      have r8 : r.length ≤ 8 := suf_len L (rst_suf L hr)
      have pp1 : (strsD (init ++ [r]))[(strsD (init ++ [r])).length - 1]? = some (.str (S r)) := by simp [strsD]
      have pp2 : (strsD (init ++ [r])).dropLast = strsD init := by simp [strsD]
      rw [List.length_append, List.length_singleton] at hm wl
      simp_arith [f4, pp1, pp2, dNotIn_W]
      refine ⟨by omega, ?_⟩
      by_cases hf : r ∈ fs
      · rw [if_neg (not_not_intro hf)]
        refine ⟨init, fs, _, rfl, rfl, fun x hx => i1 x (List.mem_append_left _ hx), i2, nd, fun u x hu hv h0 => (i3 u x hu hv h0).elim (fun z => (List.mem_append.mp z).elim .inl fun z => .inr (by rw [List.mem_singleton.mp z]; exact hf)) .inr,
          fun c hc c0 x st => (i4 c hc c0 x st).elim (fun z => (List.mem_append.mp z).elim .inl fun z => .inr (by rw [List.mem_singleton.mp z]; exact hf)) .inr, by omega, by omega⟩
      · rw [if_pos hf]
        have nd2 : (fs ++ [r]).Nodup := List.nodup_append.mpr ⟨nd, by simp, fun a ha b hb => by rw [List.mem_singleton.mp hb]; exact fun e => hf (e ▸ ha)⟩
        have i22 : ∀ x ∈ fs ++ [r], Rst ls x := fun x hx => (List.mem_append.mp hx).elim (i2 x) fun z => by rw [List.mem_singleton.mp z]; exact hr
        have fl2 : (fs ++ [r]).length ≤ (sufs ls).length := nodup_le nd2 fun x hx => rst_suf L (i22 x hx)
        rw [List.length_append, List.length_singleton] at fl2
        have i32 : ∀ u x, u ∈ ls → u ++ x ∈ ls → x ≠ [] → x ∈ init ∨ x ∈ fs ++ [r] := fun u x hu hv h0 => (i3 u x hu hv h0).elim (fun z => (List.mem_append.mp z).elim .inl fun z => .inr (List.mem_append_right _ z)) fun z => .inr (List.mem_append_left _ z)
        have i42 : ∀ c ∈ fs, c ≠ [] → ∀ x, Stp ls c x → x ∈ init ∨ x ∈ fs ++ [r] := fun c hc c0 x st => (i4 c hc c0 x st).elim (fun z => (List.mem_append.mp z).elim .inl fun z => .inr (List.mem_append_right _ z)) fun z => .inr (List.mem_append_left _ z)
        simp_arith [strsD_snoc, strsD_len, lit_nil, dNe_s]
        refine ⟨by omega, ?_⟩
        by_cases r0 : r = []
        · rw [if_neg (not_not_intro r0)]
          refine ⟨init, fs ++ [r], _, rfl, rfl, fun x hx => i1 x (List.mem_append_left _ hx), i22, nd2, i32, fun c hc c0 x st => ?_, by rw [List.length_append, List.length_singleton]; omega, by rw [List.length_append, List.length_singleton]; omega⟩
          rcases List.mem_append.mp hc with z | z
          · exact i42 c z c0 x st
          · exact absurd ((List.mem_singleton.mp z).trans r0) c0
        · rw [if_pos r0]
          refine ev_steps_of hd L (by omega) fun ts hts tl => ?_
          simp_arith [Ev_eq]
          refine ev_lc_pure (fun d => match d with | .tuple [_, x, _] => x | d => d) (tup3_nx 6 7 8) (by rw [List.length_map]; omega) (fun d hd => ?_) ?_
          · obtain ⟨t, ht, rfl⟩ := List.mem_map.mp hd
            unfold spD
            simp_arith [Ev_eq]
          rw [map_sp]
          have mem : ∀ x, x ∈ ts.map (fun t => t.2.1) ↔ Stp ls r x := fun x => by
            rw [List.mem_map, ← sp_stp]
            exact ⟨fun ⟨t, h1, h2⟩ => ⟨t, (hts t).mp h1, h2⟩, fun ⟨t, h1, h2⟩ => ⟨t, (hts t).mpr h1, h2⟩⟩
          have ml : (ts.map fun t => t.2.1).length ≤ 8 := by rw [List.length_map]; exact tl
          generalize (ts.map fun t => t.2.1) = xs at mem ml
          simp_arith [strsD_app, strsD_len]
          refine ⟨by omega, init ++ xs, fs ++ [r], _, rfl, rfl, fun x hx => (List.mem_append.mp hx).elim (fun z => i1 x (List.mem_append_left _ z)) fun z => hr.step r0 ((mem x).mp z), i22, nd2, fun u x hu hv h0 => (i32 u x hu hv h0).elim (fun z => .inl (List.mem_append_left _ z)) .inr, fun c hc c0 x st => ?_, by rw [List.length_append, List.length_append, List.length_singleton]; omega, by rw [List.length_append, List.length_append, List.length_singleton]; omega⟩
          rcases List.mem_append.mp hc with z | z
          · exact (i42 c z c0 x st).elim (fun z => .inl (List.mem_append_left _ z)) .inr
          · rw [List.mem_singleton.mp z] at st
            exact .inl (List.mem_append_right _ ((mem x).mpr st))
  · refine ⟨rs.map fun t => t.2.2, [], _, rfl, rfl, fun r hr => ?_, by simp, by simp, fun u r hu hv h0 => .inl ?_, by simp, by rw [List.length_map]; simp only [List.length_nil]; omega, by rw [List.length_map]; omega⟩
    · obtain ⟨t, ht, rfl⟩ := List.mem_map.mp hr
      obtain ⟨u, h1, h2, h3⟩ := (hrs t).mp ht
      exact .start (List.mem_of_getElem? h1) (List.mem_of_getElem? h2) h3
    · obtain ⟨i, hi⟩ := List.getElem?_of_mem hu
      obtain ⟨j, hj⟩ := List.getElem?_of_mem hv
      exact List.mem_map.mpr ⟨(i, j, r), (hrs _).mpr ⟨u, hi, hj, h0⟩, rfl⟩
/-! ### is_one_way -/
noncomputable def owB (ls : List Wd) : Bool := @decide (OneWay ls) (Classical.propDecidable _)
theorem owB_iff {ls : List Wd} : owB ls = true ↔ OneWay ls := by unfold owB; exact @decide_eq_true_iff _ (Classical.propDecidable _)
theorem owB_eq {ls ms : List Wd} (h : OneWay ls ↔ OneWay ms) : owB ls = owB ms := by rw [Bool.eq_iff_iff, owB_iff, owB_iff, h]
theorem ev_is_one_way {ls : List Wd} {Q : Rv × Env → Prop} (L : Lot ls) (k : Q (.val (.bool (owB ls)), [.fz (stockD ls)])) : Ev (M_is_one_way [.fz (stockD ls)]) Q := by
  refine Ev_defI ⟨rfl, rfl⟩ ?_
  unfold B_is_one_way
  simp_arith [fld_stock]
  refine ev_rests_from L fun fs nd hfs => ?_
  have e : (!decide (([] : Wd) ∈ sortW fs)) = owB ls := by
    rw [Bool.eq_iff_iff, owB_iff, oneWay_iff L.ne, ← hfs []]
    simp only [Bool.not_eq_true', decide_eq_false_iff_not]
    rw [(sortW_perm fs).mem_iff]
  simp_arith [lit_nil, dNotIn_W, e]
  exact k
end DL
namespace DL
open PySem PySem.Spec L2
local macro_rules
  | `(tactic| simp_arith [$xs,*]) => `(tactic| simp only [$xs,*, ↓Ev_eq, ↓iV_ok, ↓iV_bind, ↓iV_stuck, ↓iV_ite, ↓iV_bindN, ↓iV_some, ↓iV_none, ↓iV_oifG, ↓iV_gif, ↓iv_c, ↓iv_bin, ↓iv_un, ↓iv_test, ↓iv_and, ↓iv_or, ↓iv_not, ↓iv_val, ↓iv_if, ↓iv_yes, ↓iv_ds_nil, ↓iv_ds_cons, ↓iv_rs_nil, ↓iv_rs_cons, ↓iv_list, ↓iv_tup, ↓iv_callB, ↓iv_part, ↓iv_nopart, ↓iv_sl, ↓iv_meth, ↓iv_repr, ↓iv_rne, ↓iv_req, ↓iv_chain, ↓iv_pass, ↓iv_break, ↓iv_cont, ↓iv_never, ↓iv_seq, ↓iv_ret, ↓iv_retN, ↓iv_ifS, ↓iv_drop, ↓iv_asg, ↓iv_name_val, ↓iv_name_new, ↓iv_name_sl, ↓iv_tupG, ↓iv_asg_nil, ↓iv_asg_cons, ↓iv_setIx, ↓iv_append, ↓iv_aug, ↓iv_as_nil, ↓iv_as_t, ↓iv_as_f, ↓iv_as_l, ↓iv_callF, ↓iv_callK, ↓iv_range, ↓iv_iter, ↓iv_for, ↓iv_lc, ↓iv_par, ↓iv_hs_nil, ↓iv_hs_cons, ↓iv_listS, ↓iv_ss_nil, ↓iv_ss_one, ↓iv_ss_star, ↓iv_enum, ↓iv_make, ↓iv_prop, ↓iv_fldS, ↓iv_pop, ↓iv_popAt, ↓iv_extend, ↓iv_augIx, iV_ok, iV_bind, iV_stuck, iV_ite, iV_bindN, iV_some, iV_none, iV_oifG, iV_gif, iv_c, iv_bin, iv_un, iv_test, iv_and, iv_or, iv_not, iv_val, iv_if, iv_yes, iv_ds_nil, iv_ds_cons, iv_rs_nil, iv_rs_cons, iv_list, iv_tup, iv_callB, iv_part, iv_nopart, iv_sl, iv_meth, iv_repr, iv_rne, iv_req, iv_chain, iv_pass, iv_break, iv_cont, iv_never, iv_seq, iv_ret, iv_retN, iv_ifS, iv_drop, iv_asg, iv_name_val, iv_name_new, iv_name_sl, iv_tupG, iv_asg_nil, iv_asg_cons, iv_setIx, iv_append, iv_aug, iv_as_nil, iv_as_t, iv_as_f, iv_as_l, iv_callF, iv_callK, iv_range, iv_iter, iv_for, iv_lc, iv_par, iv_hs_nil, iv_hs_cons, iv_listS, iv_ss_nil, iv_ss_one, iv_ss_star, iv_enum, iv_make, iv_prop, iv_fldS, iv_pop, iv_popAt, iv_extend, iv_augIx, seqK_nx, seqK_bk, seqK_ct, seqK_rt, tupK_tup, asgK_nx, setN_some, setK_some, appK_some, augS_some, augK_fz, asK_sl, asL_sl, asL_val, backK_val, backK_new, callA_some, backN_val, backN_new, rngK_some, optR_some, optR_if, itK_some, chK_b, turnQ_nx, turnQ_ct, turnQ_bk, turnQ_rt, varK_fz, varK_ow, mVar_eq, mC_eq, data_val, data_new, datK_fz, datK_ow, data_sl, frz_val, frz_new, frzK_fz, frzK_ow, frz_sl, freeK_no, freeK_fz, freeK_ow, free_eq, ownL_eq, ownK_fr, ownK_pn, datas_nil, consD_ok, datas_cons', asB_b, asI_i, argSl_d, argSl_s, argSl_l, argL_fz, argL_ow, argK_fz, argK_fr, argK_pn, consO_some, mkArgs_nil, mkArgs_cons, slotsOf_nil, slotsOf_d, slotsOf_s, slotsOf_l, noDup_nil, noDup_one, noDup_two, putK_ow, putK_fz, putBack_nil, putBack_d, putBack_s, putBack_l, outEnv_nil, outEnv_fz, outEnv_ow, finR_val, finR_new, finR_sl, finK_fz, finK_ow, finQ_nx, finQ_rt, lockR_val, lockR_new, lockR_sl, lokK_fz, lokK_fr, lokK_lk, lockB_none, lockB_some, lokB_no, lokB_fz, lokB_fr, unlock_none, unlock_some, unlK_lk, optR_map_some, optR_map_if, wipeE_nil, wipeE_cons, backE_nil, backE_cons, plainAt_eq, plaK_no, plaK_fz, tgm_nm, tgm_tp, tgms_nil, tgms_cons, dLt_i, dLe_i, dGt_i, dGe_i, dLt_s, dLe_s, dGt_s, dGe_s, okD_int, okD_str, okD_bool, okD_none, dMax2_i, dMin2_i, atD3_0, atD3_1, atD3_2, ixN3_0, ixN3_1, ixN3_2, dAdd, dSub, dDiv, dMod, dPow, dMul, dNeg, dAbs, dInt, dLen, dIs, dIsNot, dIAdd, isNon, dIx, dSl, dRev, itemsD, List.getElem?_cons_zero, List.getElem?_cons_succ, List.getElem?_nil, List.set_cons_zero, List.set_cons_succ, List.set_nil, List.map_cons, List.map_nil, List.length_cons, List.length_nil, List.getD_cons_zero, List.getD_cons_succ, List.all_cons, List.all_nil, List.cons_append, List.nil_append, Option.isSome_some, Option.map_some, Option.map_none, true_and, and_true, Bool.and_true, Bool.true_and, Bool.not_true, Bool.not_false, if_true, if_false, ite_true, ite_false, decide_eq_true_eq, Bool.not_eq_true, Bool.not_eq_true', decide_eq_false_iff_not, not_true, not_false_iff, rngOf1, rngOf2, seqR_some, enumR_some, mkK_ok, prK_val, prK_new, fldR_some, fldS_fr, fldS_pn, popK_some, popR_some, popAK_some, popAR_some, extK_some, augM_some, augN_int, augJ_some, augI_int, seqD, hold_val, hold_new, hold_sl, slOf_val, slOf_new, storeHs_nil, storeHs_cons, isStrD_s, atD2_0, atD2_1, atD1_0, ite_and, and_false, false_and, or_false, false_or, or_true, true_or, reduceIte, reduceCtorEq, List.reduceReplicate, Nat.reduceSub, Nat.reduceAdd, Nat.reduceLeDiff, Int.reduceLT, Int.reduceLE, Int.reduceEq, Int.reduceMod, Int.reduceDiv, Int.reduceMul, Int.reduceAdd, Int.reduceSub, Int.reduceNeg, Int.reduceToNat, Bool.false_eq_true, lineM])
/-! ### rows of numbers -/
def wAt (ls : List Wd) (n : Nat) : Wd := (ls[n]?).getD []
def nsD (ns : List Nat) : List D := ns.map fun (n : Nat) => PyData.int ((n : Nat) : Int)
def txtN (ls : List Wd) (ns : List Nat) : Wd := (ns.map (wAt ls)).flatten
def NsOk (ls : List Wd) (ns : List Nat) : Prop := ∀ n ∈ ns, n < ls.length
theorem wAt_get {ls : List Wd} {n : Nat} (h : n < ls.length) : ls[n]? = some (wAt ls n) := by unfold wAt; rw [List.getElem?_eq_getElem h]; rfl
theorem wAt_mem {ls : List Wd} {n : Nat} (h : n < ls.length) : wAt ls n ∈ ls := List.mem_of_getElem? (wAt_get h)
theorem NsOk.tl {ls : List Wd} {n : Nat} {ns : List Nat} (h : NsOk ls (n :: ns)) : NsOk ls ns := fun x hx => h x (List.mem_cons_of_mem _ hx)
theorem NsOk.hd {ls : List Wd} {n : Nat} {ns : List Nat} (h : NsOk ls (n :: ns)) : n < ls.length := h n (by simp)
theorem NsOk.app {ls : List Wd} {ns ms : List Nat} (h : NsOk ls ns) (k : NsOk ls ms) : NsOk ls (ns ++ ms) := fun x hx => (List.mem_append.mp hx).elim (h x) (k x)
theorem txtN_cons (ls : List Wd) (n : Nat) (ns : List Nat) : txtN ls (n :: ns) = wAt ls n ++ txtN ls ns := rfl
theorem txtN_app (ls : List Wd) (ns ms : List Nat) : txtN ls (ns ++ ms) = txtN ls ns ++ txtN ls ms := by unfold txtN; simp
theorem txtN_row {ls : List Wd} {ns : List Nat} (h : NsOk ls ns) : Row ls (ns.map (wAt ls)) := fun w hw => by
  obtain ⟨n, hn, rfl⟩ := List.mem_map.mp hw
  exact wAt_mem (h n hn)
theorem txtN_ltr {ls : List Wd} (L : Lot ls) : ∀ {ns : List Nat}, NsOk ls ns → Ltr (txtN ls ns)
  | [], _ => by unfold Ltr txtN; simp
  | n :: ns, h => by rw [txtN_cons]; exact (L.lt _ (wAt_mem h.hd)).app (txtN_ltr L h.tl)
theorem txtN_len {ls : List Wd} (L : Lot ls) : ∀ {ns : List Nat}, NsOk ls ns → (txtN ls ns).length ≤ 8 * ns.length
  | [], _ => by simp [txtN]
  | n :: ns, h => by
    rw [txtN_cons, List.length_append, List.length_cons]
    have := txtN_len L h.tl
    have := L.len _ (wAt_mem h.hd)
    omega
theorem txtN_pos {ls : List Wd} (L : Lot ls) {n : Nat} {ns : List Nat} (h : NsOk ls (n :: ns)) : 0 < (txtN ls (n :: ns)).length := by
  rw [txtN_cons, List.length_append]
  have := List.length_pos_iff.mpr (L.ne _ (wAt_mem h.hd))
  omega
theorem nsD_len (ns : List Nat) : (nsD ns).length = ns.length := by simp [nsD]
theorem nsD_app (ns ms : List Nat) : nsD ns ++ nsD ms = nsD (ns ++ ms) := by simp [nsD]
theorem nsD_snoc (ns : List Nat) (n : Nat) : nsD ns ++ [.int (n : Int)] = nsD (ns ++ [n]) := by simp [nsD]
theorem nsD_split {ns : List Nat} {pre post : List D} {d : D} (h : nsD ns = pre ++ d :: post) : ∃ (p : List Nat) (n : Nat) (q : List Nat), ns = p ++ n :: q ∧ pre = nsD p ∧ d = .int (n : Int) ∧ post = nsD q := by
  unfold nsD at h
  rw [List.map_eq_append_iff] at h
  obtain ⟨p, q', h1, h2, h3⟩ := h
  rw [List.map_eq_cons_iff] at h3
  obtain ⟨n, q, h4, h5, h6⟩ := h3
  exact ⟨p, n, q, by rw [h1, h4], h2.symm, h5.symm, h6.symm⟩
theorem at_word {ls : List Wd} {n : Nat} (h : n < ls.length) : atD (strsD ls) (n : Int) = some (.str (S (wAt ls n))) := by
  rw [atD_get (Int.natCast_nonneg n) (by rw [strsD_len]; omega), Int.toNat_natCast, strsD_get, wAt_get h]
  rfl
theorem ev_run_of {ls : List Wd} {ns : List Nat} {Q : Rv × Env → Prop} (L : Lot ls) (ok : NsOk ls ns) (nl : ns.length ≤ 10000) (k : Q (.val (.str (S (txtN ls ns))), [.fz (stockD ls), .fz (.list (nsD ns))])) : Ev (M_run_of [.fz (stockD ls), .fz (.list (nsD ns))]) Q := by
  refine Ev_defI ⟨rfl, rfl⟩ ?_
  unfold B_run_of
  have tl := txtN_len L ok
  simp_arith [Ev_eq]
  refine ev_lc_pure (fun d => match d with | .int i => .str (S (wAt ls i.toNat)) | d => d) (name_nx 2) (by rw [nsD_len]; omega) (fun d hd => ?_) ?_
  · obtain ⟨n, hn, rfl⟩ := List.mem_map.mp hd
    simp_arith [fld_stock, at_word (ok n hn), int_natToNat]
  have e : (nsD ns).map (fun d => match d with | .int i => PyData.str (S (wAt ls i.toNat)) | d => d) = strsD (ns.map (wAt ls)) := by
    unfold nsD strsD
    rw [List.map_map, List.map_map]
    exact List.map_congr_left fun n _ => by show PyData.str (S (wAt ls ((n : Int)).toNat)) = _; rw [Int.toNat_natCast]; rfl
  rw [e]
  simp_arith [lit_nil]
  rw [dJoin_S _ (by show (txtN ls ns).length ≤ _; omega)]
  simp_arith [Ev_eq]
  exact k
theorem ev_joined {ls : List Wd} {ns : List Nat} {Q : Rv × Env → Prop} (L : Lot ls) (ok : NsOk ls ns) (nl : ns.length ≤ 10000) (k : Q (.val (.str (S (txtN ls ns))), [.fz (stockD ls), .fz (.list (nsD ns))])) : Ev (M_joined [.fz (stockD ls), .fz (.list (nsD ns))]) Q := by
  refine Ev_defI ⟨rfl, rfl⟩ ?_
  unfold B_joined
  simp_arith [Ev_eq]
  refine ev_forD _ (fun pre _ env => ∃ s2, freeK (some s2) = true ∧ env = [.fz (stockD ls), .fz (.list (nsD ns)), s2]) (name_nx 2) ?_ ?_ _ ⟨_, rfl, rfl⟩
  · rintro pre d post env e ⟨s2, f2, rfl⟩
    obtain ⟨p, n, q, e1, rfl, rfl, rfl⟩ := nsD_split e
    have hn : n < ls.length := ok n (by rw [e1]; simp)
    have c1 : (0 : Int) ≤ (n : Int) := by omega
    have c2 : (n : Int) < (ls.length : Int) := by omega
    simp_arith [f2, fld_stock, strsD_len, c1, c2]
    exact ⟨_, rfl, rfl⟩
  · rintro env ⟨s2, f2, rfl⟩
    simp_arith [Ev_eq]
    refine ev_run_of L ok nl ?_
    simp_arith [Ev_eq]
    exact k
/-! ### steps_from -/
def stp (f : Wd → Nat) : Nat → List Wd → List (Nat × Nat)
  | _, [] => []
  | i, w :: r => if 0 < f w then (i, f w) :: stp f (i + 1) r else stp f (i + 1) r
theorem stp_app (f : Wd → Nat) : ∀ (i : Nat) (l m : List Wd), stp f i (l ++ m) = stp f i l ++ stp f (i + l.length) m
  | i, [], m => by simp [stp]
  | i, w :: l, m => by
    simp only [List.cons_append, stp, stp_app f (i + 1) l m, List.length_cons]
    rw [show i + 1 + l.length = i + (l.length + 1) by omega]
    split <;> simp
theorem stp_lt (f : Wd → Nat) : ∀ (i : Nat) (l : List Wd) (t : Nat × Nat), t ∈ stp f i l → i ≤ t.1 ∧ t.1 < i + l.length
  | i, [], t, h => by simp [stp] at h
  | i, w :: l, t, h => by
    simp only [stp] at h
    rw [List.length_cons]
    split at h
    · rcases List.mem_cons.mp h with e | e
      · rw [e]; exact ⟨Nat.le_refl _, by show i < _; omega⟩
      · have := stp_lt f (i + 1) l t e; omega
    · have := stp_lt f (i + 1) l t h; omega
theorem stp_sum (f : Wd → Nat) : ∀ (i : Nat) (l : List Wd), ((stp f i l).map (·.2)).sum = (l.map f).sum
  | i, [] => rfl
  | i, w :: l => by
    have ih := stp_sum f (i + 1) l
    simp only [stp, List.map_cons, List.sum_cons]
    split
    · rw [List.map_cons, List.sum_cons, ih]
    · rw [ih]; omega
theorem stp_len (f : Wd → Nat) : ∀ (i : Nat) (l : List Wd), (stp f i l).length ≤ l.length
  | i, [] => by simp [stp]
  | i, w :: l => by
    have ih := stp_len f (i + 1) l
    simp only [stp, List.length_cons]
    split
    · rw [List.length_cons]; omega
    · omega
def prD (t : Nat × Nat) : D := .tuple [.int (t.1 : Int), .int (t.2 : Int)]
theorem prD_snoc (rs : List (Nat × Nat)) (i m : Nat) : rs.map prD ++ [.tuple [.int (i : Int), .int (m : Int)]] = (rs ++ [(i, m)]).map prD := by simp [prD]
def waysD (ls : List Wd) (t : Wd) : D := .list (nD (t.length + 1) fun q => cntT ls (t.drop q))
theorem ev_steps_from {ls : List Wd} {t : Wd} {p : Nat} {Q : Rv × Env → Prop} (L : Lot ls) (tl : t.length ≤ 100000) (hp : p ≤ t.length)
    (k : Q (.new (.list ((stp (termW ls t p) 0 ls).map prD)), [.fz (.tuple (strsD ls)), .fz (.str (S t)), .fz (.int (p : Int)), .fz (waysD ls t)])) : Ev (M_steps_from [.fz (.tuple (strsD ls)), .fz (.str (S t)), .fz (.int (p : Int)), .fz (waysD ls t)]) Q := by
  refine Ev_defI ⟨rfl, rfl⟩ ?_
  unfold B_steps_from
  have few := L.few
  have wd : waysD ls t = .list (nD (t.length + 1) fun q => cntT ls (t.drop q)) := rfl
  simp_arith [Ev_eq]
  refine ev_forD _ (fun pre _ env => ∃ s5 s6, freeK (some s5) = true ∧ freeK (some s6) = true ∧ env = [.fz (.tuple (strsD ls)), .fz (.str (S t)), .fz (.int (p : Int)), .fz (waysD ls t), .ow .fr (.list ((stp (termW ls t p) 0 (ls.take pre.length)).map prD)), s5, s6]) (tup2_nx 5 6) ?_ ?_ _ ⟨.no, .no, rfl, rfl, rfl⟩
  · rintro pre d post env e ⟨s5, s6, f5, f6, rfl⟩
    obtain ⟨u, hu, rfl⟩ := enum_at e
    have pl : pre.length < ls.length := (List.getElem?_eq_some_iff.mp hu).1
    have hm := List.mem_of_getElem? hu
    have ul := L.len u hm
    have u0 : 0 < u.length := List.length_pos_iff.mpr (L.ne u hm)
    have tk : ls.take (pre.length + 1) = ls.take pre.length ++ [u] := by rw [List.take_add_one, hu]; rfl
    have sl := stp_len (termW ls t p) 0 (ls.take pre.length)
    rw [List.length_take] at sl
    have nx : stp (termW ls t p) 0 (ls.take (pre.length + 1)) = stp (termW ls t p) 0 (ls.take pre.length) ++ (if 0 < termW ls t p u then [(pre.length, termW ls t p u)] else []) := by
      rw [tk, stp_app]
      congr 1
      rw [List.length_take, Nat.min_eq_left (by omega), Nat.zero_add]
      simp only [stp]
    have c0 : (0 : Int) ≤ (p : Int) + (u.length : Int) := by omega
    have p0 : (0 : Int) ≤ (p : Int) := by omega
    have tn : ((p : Int) + (u.length : Int)).toNat - p = u.length := by omega
    simp_arith [f5, f6, S_len, cut_both _ p0 c0, int_natToNat, tn, dEq_s]
    have en : (pre ++ [PyData.tuple [PyData.int (pre.length : Nat), PyData.str (S u)]]).length = pre.length + 1 := by simp
    by_cases b : (t.drop p).take u.length = u
    · rw [if_pos b]
      have le : p + u.length ≤ t.length := by
        have := congrArg List.length b
        rw [List.length_take, List.length_drop] at this
        omega
      have pi : (p : Int) + (u.length : Int) = ((p + u.length : Nat) : Int) := by omega
      have tw : termW ls t p u = cntT ls (t.drop (p + u.length)) := by unfold termW; rw [if_pos b]
      rw [pi, wd]
      have g0 : atD (nD (t.length + 1) fun q => cntT ls (t.drop q)) ((p + u.length : Nat) : Int) = some (.int ((cntT ls (t.drop (p + u.length)) : Nat) : Int)) := atD_nD (F := fun q => cntT ls (t.drop q)) (by omega)
      simp_arith [g0]
      rw [← tw] at g0 ⊢
      by_cases z : 0 < termW ls t p u
      · have z' : (0 : Int) < ((termW ls t p u : Nat) : Int) := by omega
        rw [if_pos z']
        simp_arith [S_len, pi, g0, prD_snoc]
        rw [if_pos z] at nx
        rw [← nx]
        refine ⟨by omega, by omega, by omega, by omega, by rw [List.length_map]; omega, .fz (.int (pre.length : Nat)), .fz (.str (S u)), rfl, rfl, ?_⟩
        rw [en]
      · have z' : ¬ (0 : Int) < ((termW ls t p u : Nat) : Int) := by omega
        rw [if_neg z']
        rw [if_neg z, List.append_nil] at nx
        refine ⟨by omega, by omega, by omega, .fz (.int (pre.length : Nat)), .fz (.str (S u)), rfl, rfl, ?_⟩
        rw [en, nx]
    · rw [if_neg b]
      have tw : termW ls t p u = 0 := by unfold termW; rw [if_neg b]
      rw [tw, if_neg (by omega), List.append_nil] at nx
      refine ⟨by omega, by omega, .fz (.int (pre.length : Nat)), .fz (.str (S u)), rfl, rfl, ?_⟩
      rw [en, nx]
  · rintro env ⟨s5, s6, f5, f6, rfl⟩
    have el : (enumD (strsD ls)).length = ls.length := by rw [enumD_len, strsD_len]
    rw [el, List.take_length]
    simp_arith [Ev_eq]
    exact k
/-! ### the index of a row -/
def sumT (ls : List Wd) (t : Wd) (p n : Nat) : Nat := ((ls.take n).map (termW ls t p)).sum
def idxR (ls : List Wd) (t : Wd) : Nat → List Nat → Nat
  | _, [] => 0
  | p, n :: ns => sumT ls t p n + idxR ls t (p + (wAt ls n).length) ns
theorem idxR_snoc (ls : List Wd) (t : Wd) : ∀ (ns : List Nat) (p n : Nat), idxR ls t p (ns ++ [n]) = idxR ls t p ns + sumT ls t (p + (txtN ls ns).length) n
  | [], p, n => by simp [idxR, txtN]
  | m :: ns, p, n => by
    rw [List.cons_append, idxR, idxR, idxR_snoc ls t ns, txtN_cons, List.length_append]
    rw [show p + (wAt ls m).length + (txtN ls ns).length = p + ((wAt ls m).length + (txtN ls ns).length) by omega]
    omega
theorem split_n {ls : List Wd} {n : Nat} (h : n < ls.length) : ls = ls.take n ++ wAt ls n :: ls.drop (n + 1) := by
  have e : ls[n]? = some (wAt ls n) := wAt_get h
  rw [List.getElem?_eq_getElem h] at e
  rw [← Option.some.inj e, ← List.drop_eq_getElem_cons h, List.take_append_drop]
theorem term_at {ls : List Wd} {t : Wd} {p : Nat} {w r : Wd} (h : t.drop p = w ++ r) : termW ls t p w = cntT ls r ∧ t.drop (p + w.length) = r := by
  have e : t.drop (p + w.length) = r := by rw [← List.drop_drop, h, List.drop_left]
  exact ⟨by unfold termW; rw [h, List.take_left, if_pos rfl, e], e⟩
theorem idxR_lt {ls : List Wd} (L : Lot ls) (t : Wd) : ∀ (ns : List Nat) (p : Nat), NsOk ls ns → t.drop p = txtN ls ns → idxR ls t p ns < cntT ls (t.drop p)
  | [], p, _, h => by rw [h]; show 0 < cntT ls []; rw [cntT_nil]; omega
  | n :: ns, p, ok, h => by
    rw [txtN_cons] at h
    obtain ⟨h1, h2⟩ := term_at (ls := ls) h
    have ih := idxR_lt L t ns (p + (wAt ls n).length) ok.tl h2
    rw [h2] at ih
    have w0 : 0 < (wAt ls n).length := List.length_pos_iff.mpr (L.ne _ (wAt_mem ok.hd))
    have pt : p < t.length := by
      have := congrArg List.length h
      rw [List.length_drop, List.length_append] at this
      omega
    rw [← term_sum L.ne pt, idxR]
    have e := congrArg (fun l => (l.map (termW ls t p)).sum) (split_n ok.hd)
    simp only [List.map_append, List.sum_append, List.map_cons, List.sum_cons] at e
    rw [e]
    unfold sumT
    omega
def gLt (n : Nat) : D → Option D
  | .tuple [.int i, m] => if i < (n : Int) then some m else none
  | _ => none
theorem fm_lt {n : Nat} : ∀ {l : List (Nat × Nat)}, (∀ t ∈ l, t.1 < n) → (l.map prD).filterMap (gLt n) = l.map fun t => PyData.int ((t.2 : Nat) : Int)
  | [], _ => rfl
  | t :: l, h => by
    have ih := fm_lt (n := n) (l := l) fun x hx => h x (List.mem_cons_of_mem _ hx)
    have : gLt n (prD t) = some (.int ((t.2 : Nat) : Int)) := by
      unfold prD gLt
      dsimp only
      rw [if_pos (by have := h t (by simp); omega)]
    rw [List.map_cons, List.filterMap_cons_some this, ih, List.map_cons]
theorem fm_ge {n : Nat} : ∀ {l : List (Nat × Nat)}, (∀ t ∈ l, n ≤ t.1) → (l.map prD).filterMap (gLt n) = []
  | [], _ => rfl
  | t :: l, h => by
    have ih := fm_ge (n := n) (l := l) fun x hx => h x (List.mem_cons_of_mem _ hx)
    have : gLt n (prD t) = none := by
      unfold prD gLt
      dsimp only
      rw [if_neg (by have := h t (by simp); omega)]
    rw [List.map_cons, List.filterMap_cons_none this, ih]
theorem sum_cast : ∀ l : List Nat, (l.map fun (n : Nat) => (n : Int)).sum = ((l.sum : Nat) : Int)
  | [] => rfl
  | n :: l => by rw [List.map_cons, List.sum_cons, List.sum_cons, sum_cast l]; omega
theorem dSum_pairs (l : List (Nat × Nat)) : dSum [.list (l.map fun t => PyData.int ((t.2 : Nat) : Int))] = some (.val (.int (((l.map (·.2)).sum : Nat) : Int))) := by
  have : (l.map fun t => PyData.int ((t.2 : Nat) : Int)) = ((l.map (·.2)).map fun (n : Nat) => (n : Int)).map PyData.int := by rw [List.map_map, List.map_map]; rfl
  unfold dSum
  dsimp only
  rw [this, asInts_map, Option.map_some, sum_cast]
theorem fm_steps {ls : List Wd} {f : Wd → Nat} {n : Nat} (h : n < ls.length) : ((stp f 0 ls).map prD).filterMap (gLt n) = (stp f 0 (ls.take n)).map fun t => PyData.int ((t.2 : Nat) : Int) := by
  have e : stp f 0 ls = stp f 0 (ls.take n) ++ stp f n (ls.drop n) := by
    have := stp_app f 0 (ls.take n) (ls.drop n)
    rw [List.take_append_drop, List.length_take, Nat.min_eq_left (by omega), Nat.zero_add] at this
    exact this
  rw [e, List.map_append, List.filterMap_append, fm_lt, fm_ge, List.append_nil]
  · intro t ht; exact (stp_lt f n _ t ht).1
  · intro t ht
    have := (stp_lt f 0 _ t ht).2
    rw [List.length_take] at this
    omega
theorem ev_reading_index {ls : List Wd} {ns : List Nat} {Q : Rv × Env → Prop} (L : Lot ls) (ok : NsOk ls ns) (nl : ns.length ≤ 1000) (k : Q (.val (.int ((idxR ls (txtN ls ns) 0 ns : Nat) : Int)), [.fz (stockD ls), .fz (.list (nsD ns))])) : Ev (M_reading_index [.fz (stockD ls), .fz (.list (nsD ns))]) Q := by
  refine Ev_defI ⟨rfl, rfl⟩ ?_
  unfold B_reading_index
  have few := L.few
  have tl := txtN_len L ok
  simp_arith [Ev_eq]
  refine ev_joined L ok (by omega) ?_
  simp_arith [fld_stock]
  refine ev_ways_behind rfl L.ne (fun w hw => by have := L.len w hw; omega) (by omega) (by omega) ?_
  simp_arith [Ev_eq]
  generalize et : txtN ls ns = t at *
  have wd : PyData.list (nD (t.length + 1) fun q => cntT ls (t.drop q)) = waysD ls t := rfl
  rw [wd]
  refine ev_forD _ (fun pre _ env => ∃ (p : List Nat) (s3 s6 s7 : Sl), (s3 = .ow .fr (waysD ls t) ∨ s3 = .fz (waysD ls t)) ∧ freeK (some s6) = true ∧ freeK (some s7) = true ∧ pre = nsD p ∧ env = [.fz (stockD ls), .fz (.list (nsD ns)), .fz (.str (S t)), s3, .fz (.int ((idxR ls t 0 p : Nat) : Int)), .fz (.int (((txtN ls p).length : Nat) : Int)), s6, s7, .no, .no]) (name_nx 6) ?_ ?_ _ ⟨[], _, _, _, .inl rfl, rfl, rfl, rfl, rfl⟩
  · rintro pre d post env e ⟨p, s3, s6, s7, h3, f6, f7, rfl, rfl⟩
    obtain ⟨p', n, q, e1, e2, rfl, rfl⟩ := nsD_split e
    have pe : p' = p := by
      have : ∀ a b : List Nat, nsD a = nsD b → a = b := by
        intro a
        induction a with
        | nil => intro b h; cases b with
          | nil => rfl
          | cons y b => simp [nsD] at h
        | cons x a ih => intro b h; cases b with
          | nil => simp [nsD] at h
          | cons y b =>
            simp only [nsD, List.map_cons, List.cons.injEq, PyData.int.injEq] at h
            rw [ih b h.2, show x = y by omega]
      exact this _ _ e2.symm
    subst pe
    have hn : n < ls.length := ok n (by rw [e1]; simp)
    have okp : NsOk ls p' := fun x hx => ok x (by rw [e1]; simp [hx])
    have te : t = txtN ls p' ++ txtN ls (n :: q) := by rw [← et, e1, txtN_app]
    have pl : (txtN ls p').length ≤ t.length := by rw [te, List.length_append]; omega
    have wl := L.len _ (wAt_mem hn)
    rcases h3 with rfl | rfl
    all_goals
      simp_arith [f6, f7, fld_stock]
      refine ev_steps_from L (by omega) pl ?_
      simp_arith [f7]
      have sl := stp_len (termW ls t (txtN ls p').length) 0 ls
      refine ev_lc_fm (gLt n) (tup2_nx 8 9) (by rw [List.length_map]; omega) (fun d hd => ?_) ?_
      · obtain ⟨x, hx, rfl⟩ := List.mem_map.mp hd
        unfold prD
        simp_arith [Ev_eq]
        by_cases z : (x.1 : Int) < (n : Int)
        · simp [gLt, z]
        · simp [gLt, z]
      rw [fm_steps hn]
      simp_arith [fld_stock, dSum_pairs, stp_sum, at_word hn, S_len]
      refine ⟨by omega, p' ++ [n], .fz (waysD ls t), .fz (.int (n : Int)), .ow .fr (.list ((stp (termW ls t (txtN ls p').length) 0 ls).map prD)), .inr rfl, rfl, rfl, nsD_snoc p' n, ?_⟩
      rw [idxR_snoc, txtN_app, List.length_append, Nat.zero_add]
      have w1 : (txtN ls [n]).length = (wAt ls n).length := by simp [txtN]
      rw [w1, Int.natCast_add, Int.natCast_add]
      rfl
  · rintro env ⟨p, s3, s6, s7, h3, f6, f7, e, rfl⟩
    have : ns = p := by
      have : ∀ a b : List Nat, nsD a = nsD b → a = b := by
        intro a
        induction a with
        | nil => intro b h; cases b with
          | nil => rfl
          | cons y b => simp [nsD] at h
        | cons x a ih => intro b h; cases b with
          | nil => simp [nsD] at h
          | cons y b =>
            simp only [nsD, List.map_cons, List.cons.injEq, PyData.int.injEq] at h
            rw [ih b h.2, show x = y by omega]
      exact this _ _ e
    subst this
    simp_arith [Ev_eq]
    exact k
end DL
namespace DL
open PySem PySem.Spec L2
local macro_rules
  | `(tactic| simp_arith [$xs,*]) => `(tactic| simp only [$xs,*, ↓Ev_eq, ↓iV_ok, ↓iV_bind, ↓iV_stuck, ↓iV_ite, ↓iV_bindN, ↓iV_some, ↓iV_none, ↓iV_oifG, ↓iV_gif, ↓iv_c, ↓iv_bin, ↓iv_un, ↓iv_test, ↓iv_and, ↓iv_or, ↓iv_not, ↓iv_val, ↓iv_if, ↓iv_yes, ↓iv_ds_nil, ↓iv_ds_cons, ↓iv_rs_nil, ↓iv_rs_cons, ↓iv_list, ↓iv_tup, ↓iv_callB, ↓iv_part, ↓iv_nopart, ↓iv_sl, ↓iv_meth, ↓iv_repr, ↓iv_rne, ↓iv_req, ↓iv_chain, ↓iv_pass, ↓iv_break, ↓iv_cont, ↓iv_never, ↓iv_seq, ↓iv_ret, ↓iv_retN, ↓iv_ifS, ↓iv_drop, ↓iv_asg, ↓iv_name_val, ↓iv_name_new, ↓iv_name_sl, ↓iv_tupG, ↓iv_asg_nil, ↓iv_asg_cons, ↓iv_setIx, ↓iv_append, ↓iv_aug, ↓iv_as_nil, ↓iv_as_t, ↓iv_as_f, ↓iv_as_l, ↓iv_callF, ↓iv_callK, ↓iv_range, ↓iv_iter, ↓iv_for, ↓iv_lc, ↓iv_par, ↓iv_hs_nil, ↓iv_hs_cons, ↓iv_listS, ↓iv_ss_nil, ↓iv_ss_one, ↓iv_ss_star, ↓iv_enum, ↓iv_make, ↓iv_prop, ↓iv_fldS, ↓iv_pop, ↓iv_popAt, ↓iv_extend, ↓iv_augIx, iV_ok, iV_bind, iV_stuck, iV_ite, iV_bindN, iV_some, iV_none, iV_oifG, iV_gif, iv_c, iv_bin, iv_un, iv_test, iv_and, iv_or, iv_not, iv_val, iv_if, iv_yes, iv_ds_nil, iv_ds_cons, iv_rs_nil, iv_rs_cons, iv_list, iv_tup, iv_callB, iv_part, iv_nopart, iv_sl, iv_meth, iv_repr, iv_rne, iv_req, iv_chain, iv_pass, iv_break, iv_cont, iv_never, iv_seq, iv_ret, iv_retN, iv_ifS, iv_drop, iv_asg, iv_name_val, iv_name_new, iv_name_sl, iv_tupG, iv_asg_nil, iv_asg_cons, iv_setIx, iv_append, iv_aug, iv_as_nil, iv_as_t, iv_as_f, iv_as_l, iv_callF, iv_callK, iv_range, iv_iter, iv_for, iv_lc, iv_par, iv_hs_nil, iv_hs_cons, iv_listS, iv_ss_nil, iv_ss_one, iv_ss_star, iv_enum, iv_make, iv_prop, iv_fldS, iv_pop, iv_popAt, iv_extend, iv_augIx, seqK_nx, seqK_bk, seqK_ct, seqK_rt, tupK_tup, asgK_nx, setN_some, setK_some, appK_some, augS_some, augK_fz, asK_sl, asL_sl, asL_val, backK_val, backK_new, callA_some, backN_val, backN_new, rngK_some, optR_some, optR_if, itK_some, chK_b, turnQ_nx, turnQ_ct, turnQ_bk, turnQ_rt, varK_fz, varK_ow, mVar_eq, mC_eq, data_val, data_new, datK_fz, datK_ow, data_sl, frz_val, frz_new, frzK_fz, frzK_ow, frz_sl, freeK_no, freeK_fz, freeK_ow, free_eq, ownL_eq, ownK_fr, ownK_pn, datas_nil, consD_ok, datas_cons', asB_b, asI_i, argSl_d, argSl_s, argSl_l, argL_fz, argL_ow, argK_fz, argK_fr, argK_pn, consO_some, mkArgs_nil, mkArgs_cons, slotsOf_nil, slotsOf_d, slotsOf_s, slotsOf_l, noDup_nil, noDup_one, noDup_two, putK_ow, putK_fz, putBack_nil, putBack_d, putBack_s, putBack_l, outEnv_nil, outEnv_fz, outEnv_ow, finR_val, finR_new, finR_sl, finK_fz, finK_ow, finQ_nx, finQ_rt, lockR_val, lockR_new, lockR_sl, lokK_fz, lokK_fr, lokK_lk, lockB_none, lockB_some, lokB_no, lokB_fz, lokB_fr, unlock_none, unlock_some, unlK_lk, optR_map_some, optR_map_if, wipeE_nil, wipeE_cons, backE_nil, backE_cons, plainAt_eq, plaK_no, plaK_fz, tgm_nm, tgm_tp, tgms_nil, tgms_cons, dLt_i, dLe_i, dGt_i, dGe_i, dLt_s, dLe_s, dGt_s, dGe_s, okD_int, okD_str, okD_bool, okD_none, dMax2_i, dMin2_i, atD3_0, atD3_1, atD3_2, ixN3_0, ixN3_1, ixN3_2, dAdd, dSub, dDiv, dMod, dPow, dMul, dNeg, dAbs, dInt, dLen, dIs, dIsNot, dIAdd, isNon, dIx, dSl, dRev, itemsD, List.getElem?_cons_zero, List.getElem?_cons_succ, List.getElem?_nil, List.set_cons_zero, List.set_cons_succ, List.set_nil, List.map_cons, List.map_nil, List.length_cons, List.length_nil, List.getD_cons_zero, List.getD_cons_succ, List.all_cons, List.all_nil, List.cons_append, List.nil_append, Option.isSome_some, Option.map_some, Option.map_none, true_and, and_true, Bool.and_true, Bool.true_and, Bool.not_true, Bool.not_false, if_true, if_false, ite_true, ite_false, decide_eq_true_eq, Bool.not_eq_true, Bool.not_eq_true', decide_eq_false_iff_not, not_true, not_false_iff, rngOf1, rngOf2, seqR_some, enumR_some, mkK_ok, prK_val, prK_new, fldR_some, fldS_fr, fldS_pn, popK_some, popR_some, popAK_some, popAR_some, extK_some, augM_some, augN_int, augJ_some, augI_int, seqD, hold_val, hold_new, hold_sl, slOf_val, slOf_new, storeHs_nil, storeHs_cons, isStrD_s, atD2_0, atD2_1, atD1_0, ite_and, and_false, false_and, or_false, false_or, or_true, true_or, reduceIte, reduceCtorEq, List.reduceReplicate, Nat.reduceSub, Nat.reduceAdd, Nat.reduceLeDiff, Int.reduceLT, Int.reduceLE, Int.reduceEq, Int.reduceMod, Int.reduceDiv, Int.reduceMul, Int.reduceAdd, Int.reduceSub, Int.reduceNeg, Int.reduceToNat, Bool.false_eq_true, lineM])
theorem sumP (l : List (Nat × Nat)) (a : Nat × Nat) : (((a :: l).map (·.2)).sum : Nat) = a.2 + (l.map (·.2)).sum := by simp
theorem at_last (l : List Nat) (n : Nat) : atD (nsD (l ++ [n])) (-1) = some (.int (n : Int)) := by
  unfold atD
  have : ixN (nsD (l ++ [n])).length (-1) = some l.length := by
    rw [nsD_len, List.length_append, List.length_singleton]
    unfold ixN
    repeat (first | rfl | (congr 1; omega) | omega | split)
  rw [this]
  simp [nsD]
theorem ev_nth_reading {ls : List Wd} {ns : List Nat} {Q : Rv × Env → Prop} (L : Lot ls) (ok : NsOk ls ns) (nl : ns.length ≤ 1000) (k : Q (.new (.list (nsD ns)), [.fz (stockD ls), .fz (.str (S (txtN ls ns))), .fz (.int ((idxR ls (txtN ls ns) 0 ns : Nat) : Int))])) :
    Ev (M_nth_reading [.fz (stockD ls), .fz (.str (S (txtN ls ns))), .fz (.int ((idxR ls (txtN ls ns) 0 ns : Nat) : Int))]) Q := by
  refine Ev_defI ⟨rfl, rfl⟩ ?_
  unfold B_nth_reading
  have few := L.few
  have tl := txtN_len L ok
  have ltr := txtN_ltr L ok
  have lt0 := idxR_lt L (txtN ls ns) ns 0 ok rfl
  generalize et : txtN ls ns = t at *
  simp_arith [Ev_eq]
  refine ev_check_text ltr (by omega) ?_
  simp_arith [fld_stock]
  refine ev_ways_behind rfl L.ne (fun w hw => by have := L.len w hw; omega) (by omega) (by omega) ?_
  have wd : PyData.list (nD (t.length + 1) fun q => cntT ls (t.drop q)) = waysD ls t := rfl
  have g0 : atD (nD (t.length + 1) fun q => cntT ls (t.drop q)) 0 = some (.int ((cntT ls (t.drop 0) : Nat) : Int)) := atD_nD (q := 0) (F := fun q => cntT ls (t.drop q)) (by omega)
  have c1 : (0 : Int) ≤ ((idxR ls t 0 ns : Nat) : Int) := by omega
  have c2 : ((idxR ls t 0 ns : Nat) : Int) < ((cntT ls (t.drop 0) : Nat) : Int) := by omega
  simp_arith [g0, c1, c2]
  rw [wd]
  refine ev_while (fun m env => ∃ (pre post : List Nat) (s3 s7 s8 : Sl), (s3 = .ow .fr (waysD ls t) ∨ s3 = .fz (waysD ls t)) ∧ freeK (some s7) = true ∧ freeK (some s8) = true ∧ ns = pre ++ post ∧ post.length ≤ m ∧
    env = [.fz (stockD ls), .fz (.str (S t)), .fz (.int ((idxR ls t 0 ns : Nat) : Int)), s3, .ow .fr (.list (nsD pre)), .fz (.int (((txtN ls pre).length : Nat) : Int)), .fz (.int ((idxR ls t (txtN ls pre).length post : Nat) : Int)), s7, s8]) ?_ ns.length _ ⟨[], ns, _, .no, .no, .inl rfl, rfl, rfl, rfl, Nat.le_refl _, rfl⟩
  rintro m env ⟨pre, post, s3, s7, s8, h3, f7, f8, e1, hm, rfl⟩
  have te : t = txtN ls pre ++ txtN ls post := by rw [← et, e1, txtN_app]
  have okq : NsOk ls post := fun x hx => ok x (by rw [e1]; simp [hx])
  have dr : t.drop (txtN ls pre).length = txtN ls post := by rw [te, List.drop_left]
  have pl : (txtN ls pre).length ≤ t.length := by rw [te, List.length_append]; omega
  simp_arith [S_len]
  refine ⟨by omega, ?_⟩
  cases post with
  | nil =>
    have : t.length = (txtN ls pre).length := by rw [te]; simp [txtN]
    rw [if_neg (by omega)]
    rw [List.append_nil] at e1
    rw [← e1]
    exact k
  | cons n post =>
    have hn : n < ls.length := okq.hd
    have p0 := txtN_pos L okq
    have lt : ((txtN ls pre).length : Int) < (t.length : Int) := by rw [te, List.length_append]; omega
    rw [if_pos lt]
    rw [txtN_cons] at dr
    obtain ⟨h1, h2⟩ := term_at (ls := ls) dr
    have less := idxR_lt L t post _ okq.tl h2
    rw [h2] at less
    -- the steps ahead of the one that is wanted, it, those behind it
    obtain ⟨f, hf⟩ : ∃ f, f = termW ls t (txtN ls pre).length := ⟨_, rfl⟩
    have fpos : 0 < f (wAt ls n) := by rw [hf, h1]; omega
    have es : stp f 0 ls = stp f 0 (ls.take n) ++ (n, f (wAt ls n)) :: stp f (n + 1) (ls.drop (n + 1)) := by
      have := stp_app f 0 (ls.take n) (wAt ls n :: ls.drop (n + 1))
      rw [← split_n hn, List.length_take, Nat.min_eq_left (by omega), Nat.zero_add] at this
      rw [this, stp, if_pos fpos]
    have left0 : idxR ls t (txtN ls pre).length (n :: post) = idxR ls t ((txtN ls pre).length + (wAt ls n).length) post + ((stp f 0 (ls.take n)).map (·.2)).sum := by
      rw [idxR, sumT, stp_sum, hf]; omega
    have wl := L.len _ (wAt_mem hn)
    have plen : pre.length < 1001 := by have := congrArg List.length e1; rw [List.length_append] at this; omega
    have sl := stp_len f 0 ls
    rw [← h1, ← hf] at less
    refine ⟨by simp only [List.length_cons] at hm; omega, ?_⟩
    rcases h3 with rfl | rfl
    all_goals
      simp_arith [fld_stock]
      refine ev_steps_from L (by omega) pl ?_
      rw [← hf]
      simp_arith [f7, f8]
      rw [es, left0]
      refine ev_forD _ (fun _ rest env => ∃ (A : List (Nat × Nat)) (s7 s8 : Sl), freeK (some s7) = true ∧ freeK (some s8) = true ∧ rest = A.map prD ++ (prD (n, f (wAt ls n)) :: (stp f (n + 1) (ls.drop (n + 1))).map prD) ∧
        env = [.fz (stockD ls), .fz (.str (S t)), .fz (.int ((idxR ls t 0 ns : Nat) : Int)), .fz (waysD ls t), .ow .fr (.list (nsD pre)), .fz (.int (((txtN ls pre).length : Nat) : Int)), .fz (.int ((idxR ls t ((txtN ls pre).length + (wAt ls n).length) post + (A.map (·.2)).sum : Nat) : Int)), s7, s8]) (tup2_nx 7 8) ?_ ?_ _ ⟨stp f 0 (ls.take n), _, _, f7, f8, by rw [List.map_append, List.map_cons], rfl⟩
      · rintro pre2 d post2 env e2 ⟨A, s7, s8, f7, f8, er, rfl⟩
        cases A with
        | nil =>
          simp only [List.map_nil, List.nil_append, List.cons.injEq] at er
          obtain ⟨rfl, er⟩ := er
          have lt2 : ((idxR ls t ((txtN ls pre).length + (wAt ls n).length) post : Nat) : Int) < ((f (wAt ls n) : Nat) : Int) := by omega
          simp only [List.map_nil, List.sum_nil, Nat.add_zero]
          show Ev (mTupG [mName 7, mName 8] (.val (.tuple [.int (n : Int), .int ((f (wAt ls n) : Nat) : Int)])) _) _
          simp_arith [f7, f8, lt2, nsD_snoc, nsD_len, at_last, fld_stock, at_word hn, S_len]
          refine ⟨by omega, by omega, pre ++ [n], post, .fz (waysD ls t), .fz (.int (n : Int)), .fz (.int ((f (wAt ls n) : Nat) : Int)), .inr rfl, rfl, rfl, by rw [e1]; simp, by simp only [List.length_cons] at hm; omega, ?_⟩
          have w1 : (txtN ls [n]).length = (wAt ls n).length := by simp [txtN]
          rw [txtN_app, List.length_append, w1, Int.natCast_add]
        | cons a A =>
          simp only [List.map_cons, List.cons_append, List.cons.injEq] at er
          obtain ⟨rfl, er⟩ := er
          have sp := sumP A a
          simp only [List.map_cons] at sp
          have ge : ¬ ((idxR ls t ((txtN ls pre).length + (wAt ls n).length) post + ((a :: A).map (·.2)).sum : Nat) : Int) < ((a.2 : Nat) : Int) := by simp only [List.map_cons]; omega
          have sb : ((idxR ls t ((txtN ls pre).length + (wAt ls n).length) post + ((a :: A).map (·.2)).sum : Nat) : Int) - ((a.2 : Nat) : Int) = ((idxR ls t ((txtN ls pre).length + (wAt ls n).length) post + (A.map (·.2)).sum : Nat) : Int) := by simp only [List.map_cons]; omega
          show Ev (mTupG [mName 7, mName 8] (.val (.tuple [.int (a.1 : Int), .int (a.2 : Int)])) _) _
          generalize hz : ((idxR ls t ((txtN ls pre).length + (wAt ls n).length) post + ((a :: A).map (·.2)).sum : Nat) : Int) = z at ge sb ⊢
          simp_arith [f7, f8, ge, sb]
          exact ⟨A, _, _, rfl, rfl, er, rfl⟩
      · rintro env ⟨A, s7, s8, f7, f8, er, rfl⟩
        have := congrArg List.length er
        simp at this
end DL
namespace DL
open PySem PySem.Spec L2
local macro_rules
  | `(tactic| simp_arith [$xs,*]) => `(tactic| simp only [$xs,*, ↓Ev_eq, ↓iV_ok, ↓iV_bind, ↓iV_stuck, ↓iV_ite, ↓iV_bindN, ↓iV_some, ↓iV_none, ↓iV_oifG, ↓iV_gif, ↓iv_c, ↓iv_bin, ↓iv_un, ↓iv_test, ↓iv_and, ↓iv_or, ↓iv_not, ↓iv_val, ↓iv_if, ↓iv_yes, ↓iv_ds_nil, ↓iv_ds_cons, ↓iv_rs_nil, ↓iv_rs_cons, ↓iv_list, ↓iv_tup, ↓iv_callB, ↓iv_part, ↓iv_nopart, ↓iv_sl, ↓iv_meth, ↓iv_repr, ↓iv_rne, ↓iv_req, ↓iv_chain, ↓iv_pass, ↓iv_break, ↓iv_cont, ↓iv_never, ↓iv_seq, ↓iv_ret, ↓iv_retN, ↓iv_ifS, ↓iv_drop, ↓iv_asg, ↓iv_name_val, ↓iv_name_new, ↓iv_name_sl, ↓iv_tupG, ↓iv_asg_nil, ↓iv_asg_cons, ↓iv_setIx, ↓iv_append, ↓iv_aug, ↓iv_as_nil, ↓iv_as_t, ↓iv_as_f, ↓iv_as_l, ↓iv_callF, ↓iv_callK, ↓iv_range, ↓iv_iter, ↓iv_for, ↓iv_lc, ↓iv_par, ↓iv_hs_nil, ↓iv_hs_cons, ↓iv_listS, ↓iv_ss_nil, ↓iv_ss_one, ↓iv_ss_star, ↓iv_enum, ↓iv_make, ↓iv_prop, ↓iv_fldS, ↓iv_pop, ↓iv_popAt, ↓iv_extend, ↓iv_augIx, iV_ok, iV_bind, iV_stuck, iV_ite, iV_bindN, iV_some, iV_none, iV_oifG, iV_gif, iv_c, iv_bin, iv_un, iv_test, iv_and, iv_or, iv_not, iv_val, iv_if, iv_yes, iv_ds_nil, iv_ds_cons, iv_rs_nil, iv_rs_cons, iv_list, iv_tup, iv_callB, iv_part, iv_nopart, iv_sl, iv_meth, iv_repr, iv_rne, iv_req, iv_chain, iv_pass, iv_break, iv_cont, iv_never, iv_seq, iv_ret, iv_retN, iv_ifS, iv_drop, iv_asg, iv_name_val, iv_name_new, iv_name_sl, iv_tupG, iv_asg_nil, iv_asg_cons, iv_setIx, iv_append, iv_aug, iv_as_nil, iv_as_t, iv_as_f, iv_as_l, iv_callF, iv_callK, iv_range, iv_iter, iv_for, iv_lc, iv_par, iv_hs_nil, iv_hs_cons, iv_listS, iv_ss_nil, iv_ss_one, iv_ss_star, iv_enum, iv_make, iv_prop, iv_fldS, iv_pop, iv_popAt, iv_extend, iv_augIx, seqK_nx, seqK_bk, seqK_ct, seqK_rt, tupK_tup, asgK_nx, setN_some, setK_some, appK_some, augS_some, augK_fz, asK_sl, asL_sl, asL_val, backK_val, backK_new, callA_some, backN_val, backN_new, rngK_some, optR_some, optR_if, itK_some, chK_b, turnQ_nx, turnQ_ct, turnQ_bk, turnQ_rt, varK_fz, varK_ow, mVar_eq, mC_eq, data_val, data_new, datK_fz, datK_ow, data_sl, frz_val, frz_new, frzK_fz, frzK_ow, frz_sl, freeK_no, freeK_fz, freeK_ow, free_eq, ownL_eq, ownK_fr, ownK_pn, datas_nil, consD_ok, datas_cons', asB_b, asI_i, argSl_d, argSl_s, argSl_l, argL_fz, argL_ow, argK_fz, argK_fr, argK_pn, consO_some, mkArgs_nil, mkArgs_cons, slotsOf_nil, slotsOf_d, slotsOf_s, slotsOf_l, noDup_nil, noDup_one, noDup_two, putK_ow, putK_fz, putBack_nil, putBack_d, putBack_s, putBack_l, outEnv_nil, outEnv_fz, outEnv_ow, finR_val, finR_new, finR_sl, finK_fz, finK_ow, finQ_nx, finQ_rt, lockR_val, lockR_new, lockR_sl, lokK_fz, lokK_fr, lokK_lk, lockB_none, lockB_some, lokB_no, lokB_fz, lokB_fr, unlock_none, unlock_some, unlK_lk, optR_map_some, optR_map_if, wipeE_nil, wipeE_cons, backE_nil, backE_cons, plainAt_eq, plaK_no, plaK_fz, tgm_nm, tgm_tp, tgms_nil, tgms_cons, dLt_i, dLe_i, dGt_i, dGe_i, dLt_s, dLe_s, dGt_s, dGe_s, okD_int, okD_str, okD_bool, okD_none, dMax2_i, dMin2_i, atD3_0, atD3_1, atD3_2, ixN3_0, ixN3_1, ixN3_2, dAdd, dSub, dDiv, dMod, dPow, dMul, dNeg, dAbs, dInt, dLen, dIs, dIsNot, dIAdd, isNon, dIx, dSl, dRev, itemsD, List.getElem?_cons_zero, List.getElem?_cons_succ, List.getElem?_nil, List.set_cons_zero, List.set_cons_succ, List.set_nil, List.map_cons, List.map_nil, List.length_cons, List.length_nil, List.getD_cons_zero, List.getD_cons_succ, List.all_cons, List.all_nil, List.cons_append, List.nil_append, Option.isSome_some, Option.map_some, Option.map_none, true_and, and_true, Bool.and_true, Bool.true_and, Bool.not_true, Bool.not_false, if_true, if_false, ite_true, ite_false, decide_eq_true_eq, Bool.not_eq_true, Bool.not_eq_true', decide_eq_false_iff_not, not_true, not_false_iff, rngOf1, rngOf2, seqR_some, enumR_some, mkK_ok, prK_val, prK_new, fldR_some, fldS_fr, fldS_pn, popK_some, popR_some, popAK_some, popAR_some, extK_some, augM_some, augN_int, augJ_some, augI_int, seqD, hold_val, hold_new, hold_sl, slOf_val, slOf_new, storeHs_nil, storeHs_cons, isStrD_s, atD2_0, atD2_1, atD1_0, ite_and, and_false, false_and, or_false, false_or, or_true, true_or, reduceIte, reduceCtorEq, List.reduceReplicate, Nat.reduceSub, Nat.reduceAdd, Nat.reduceLeDiff, Int.reduceLT, Int.reduceLE, Int.reduceEq, Int.reduceMod, Int.reduceDiv, Int.reduceMul, Int.reduceAdd, Int.reduceSub, Int.reduceNeg, Int.reduceToNat, Bool.false_eq_true, lineM])
noncomputable def rest09e : MS := (mSeq (mAsg (mMake "Stock" M_Stock_init [(mLc (mIter (mVar 1)) (Tg.m (.nm 5)) mYes (mUn dRev (mVar 5)) [5])]) (mName 15))
  (mSeq (mIfS (mOr (mTest (mBin dNe (mCallF M_count_readings [.c, .c] [(mVar 15), (mUn dRev (mVar 10))]) (mVar 12))) (mTest (mBin dNe (mCallF M_is_one_way [.c] [(mVar 15)]) (mCallF M_is_one_way [.c] [(mVar 2)])))) (mRet (mC (.bool false))) mPass)
  (mRet (mBin dEq (mCallF M_count_readings [.c, .c] [(mMake "Stock" M_Stock_init [(mUn dRev (mVar 1))]), (mVar 10)]) (mVar 12)))))
noncomputable def rest09d : MS := (mSeq (mAsg (mCallF M_law_word [.p, .c, .c] [(mVar 0), (mC (.int 3)), (mC (.str "ab"))]) (mName 14))
  (mSeq (mIfS (mAnd (mTest (mBin dNotIn (mVar 14) (mVar 1))) (mTest (mBin dLt (mCallF M_count_readings [.c, .c] [(mCallF M_with_word [.c, .c] [(mVar 2), (mVar 14)]), (mVar 10)]) (mVar 12)))) (mRet (mC (.bool false))) mPass)
  rest09e))
noncomputable def rest09t : MS := (mSeq (mAsg (mCallF M_reading_index [.c, .c] [(mVar 2), (mBin dAdd (mBin dIx (mVar 3) (mC (.int 0))) (mBin dIx (mVar 3) (mC (.int 1))))]) (mName 13))
  (mSeq (mIfS (mOr (mNot (mTest (mChain dLe dLt (mC (.int 0)) (mVar 13) (mVar 12)))) (mTest (mBin dNe (mCallF M_nth_reading [.c, .c, .c] [(mVar 2), (mVar 10), (mVar 13)]) (mBin dAdd (mBin dIx (mVar 3) (mC (.int 0))) (mBin dIx (mVar 3) (mC (.int 1))))))) (mRet (mC (.bool false))) mPass)
  rest09d))
noncomputable def rest09c : MS := (mSeq (mIfS (mAnd (mTest (mCallF M_is_one_way [.c] [(mVar 2)])) (mTest (mBin dNe (mList [(mVar 12), (mVar 11)]) (mList [(mC (.int 1)), (mC (.int 1))])))) (mRet (mC (.bool false))) mPass)
  rest09t)
noncomputable def rest09b : MS := (mSeq (mAsg (mLc (mIter (mVar 3)) (Tg.m (.nm 7)) mYes (mCallF M_joined [.c, .c] [(mVar 2), (mVar 7)]) [7]) (mName 6))
  (mSeq (mAsg (mLc (mIter (mVar 6)) (Tg.m (.nm 9)) mYes (mCallF M_count_readings [.c, .c] [(mVar 2), (mVar 9)]) [9]) (mName 8))
  (mSeq (mAsg (mCallF M_joined [.c, .c] [(mVar 2), (mBin dAdd (mBin dIx (mVar 3) (mC (.int 0))) (mBin dIx (mVar 3) (mC (.int 1))))]) (mName 10))
  (mSeq (mPar [11, 12] [(mBin dMul (mBin dIx (mVar 8) (mC (.int 0))) (mBin dIx (mVar 8) (mC (.int 1)))), (mCallF M_count_readings [.c, .c] [(mVar 2), (mVar 10)])])
  (mSeq (mIfS (mOr (mTest (mBin dNe (mVar 10) (mBin dAdd (mBin dIx (mVar 6) (mC (.int 0))) (mBin dIx (mVar 6) (mC (.int 1)))))) (mOr (mTest (mBin dLt (mVar 12) (mVar 11))) (mNot (mTest (mCallF M_is_text [.c, .c] [(mVar 2), (mVar 10)]))))) (mRet (mC (.bool false))) mPass)
  rest09c)))))
noncomputable def rest09 : MS := (mSeq (mPar [2, 3] [(mMake "Stock" M_Stock_init [(mVar 1)]), (mList [])])
  (mSeq (mFor (mRange rngOf1 [(mC (.int 2))]) (mName 4) (mAppend 3 (mLc (mRange rngOf1 [(mCallF M_law_draw [.p, .c] [(mVar 0), (mC (.int 9))])]) (Tg.m (.nm 5)) mYes (mCallF M_law_draw [.p, .c] [(mVar 0), (mCallB dLen [(mVar 1)])]) [5])))
  rest09b))
theorem B_k09 : B_law_fits_k09 = (mSeq (mAsg (mIf (mTest (mBin dEq (mCallF M_law_draw [.p, .c] [(mVar 0), (mC (.int 3))]) (mC (.int 0)))) (mCallF M_law_known [.p] [(mVar 0)]) (mCallF M_law_lot [.p, .c, .c] [(mVar 0), (mC (.int 6)), (mC (.int 5))])) (mName 1))
  rest09) := rfl
theorem ev_count {ls : List Wd} {t : Wd} {Q : Rv × Env → Prop} (L : Lot ls) (ht : Ltr t) (tl : t.length ≤ 10000) (k : Q (.val (.int ((cntT ls t : Nat) : Int)), [.fz (stockD ls), .fz (.str (S t))])) : Ev (M_count_readings [.fz (stockD ls), .fz (.str (S t))]) Q := by
  refine Ev_defI ⟨rfl, rfl⟩ ?_
  unfold B_count_readings
  simp_arith [Ev_eq]
  refine ev_check_text ht (by omega) ?_
  simp_arith [fld_stock]
  refine ev_ways_behind rfl L.ne (fun w hw => by have := L.len w hw; omega) (by have := L.few; omega) (by omega) ?_
  have g0 : atD (nD (t.length + 1) fun q => cntT ls (t.drop q)) 0 = some (.int ((cntT ls t : Nat) : Int)) := atD_nD (q := 0) (F := fun q => cntT ls (t.drop q)) (by omega)
  simp_arith [g0]
  exact k
def rowD (a : List Nat) : D := .list (nsD a)
theorem ev_rest09 {ls : List Wd} {p p0 : D} {n : Nat} {Q : Rv × Env → Prop} (L : Lot ls) (l0 : 0 < ls.length) (hp : Pl n p) (hn : n < 2 ^ 45)
    (k : ∀ p' a b, Pl (n + 30) p' → NsOk ls a → NsOk ls b → a.length ≤ 8 → b.length ≤ 8 → Ev (rest09b [.ow .pn p', .fz (.list (strsD ls)), .ow .fr (stockD ls), .ow .fr (.list [rowD a, rowD b]), .fz (.int 1), .no, .no, .no, .no, .no, .no, .no, .no, .no, .no, .no]) (finQ [.ow .pn p0] Q)) :
    Ev (rest09 [.ow .pn p, .ow .fr (.list (strsD ls)), .no, .no, .no, .no, .no, .no, .no, .no, .no, .no, .no, .no, .no, .no]) (finQ [.ow .pn p0] Q) := by
  unfold rest09
  generalize hR : rest09b = R
  have few := L.few
  simp_arith [Ev_eq]
  refine ev_stock_init L l0 ?_
  simp_arith [rngOf1]
  refine ⟨by decide, ?_⟩
  refine ev_forR (fun x env => 0 ≤ x ∧ ∃ (pk : D) (rs : List (List Nat)) (s4 : Sl), (x = 0 ∧ rs = [] ∧ s4 = .no ∨ 0 < x ∧ s4 = .fz (.int (x - 1))) ∧ env = [.ow .pn pk, .fz (.list (strsD ls)), .ow .fr (stockD ls), .ow .fr (.list (rs.map rowD)), s4, .no, .no, .no, .no, .no, .no, .no, .no, .no, .no, .no] ∧ Pl (n + 15 * x.toNat) pk ∧ (rs.length : Int) = x ∧ ∀ a ∈ rs, NsOk ls a ∧ a.length ≤ 8) 2 ?_ ?_ _ _ _ (by decide) ⟨by decide, p, [], .no, .inl ⟨rfl, rfl, rfl⟩, rfl, hp, rfl, by simp⟩
  · rintro x env hx ⟨x0, pk, rs, s4, h4, rfl, hpk, hlen, hrs⟩
    have f4 : freeK (some s4) = true := by rcases h4 with ⟨_, _, rfl⟩ | ⟨_, rfl⟩ <;> rfl
    simp_arith [f4]
    refine ev_draw hpk (by omega) (by decide) (by decide) fun r p1 r0 r1 hp1 => ?_
    simp_arith [Ev_eq]
    refine ⟨by unfold rng62; simp; omega, ?_⟩
    refine ev_lcL (fun rest acc env => ∃ (pk : D) (cs : List Nat), env = [.ow .pn pk, .fz (.list (strsD ls)), .ow .fr (stockD ls), .ow .fr (.list (rs.map rowD)), .fz (.int x), .no, .no, .no, .no, .no, .no, .no, .no, .no, .no, .no] ∧ Pl (n + 15 * x.toNat + 1 + cs.length) pk ∧ acc = nsD cs ∧ NsOk ls cs ∧ cs.length + rest.length = r.toNat) (name_nx 5) ?_ ?_ _ _ _ ⟨p1, [], rfl, hp1, rfl, fun _ h => by simp at h, by simp [rangeD_len]⟩
    · rintro d ds acc env ⟨pk, cs, rfl, hpk, rfl, hcs, hl⟩
      simp only [List.length_cons] at hl
      simp_arith [strsD_len]
      refine ev_draw hpk (by omega) (by omega) (by omega) fun r6 p6 r60 r61 hp6 => ?_
      simp_arith [Ev_eq]
      refine ⟨by rw [nsD_len]; omega, p6, cs ++ [r6.toNat], rfl, by rw [List.length_append, List.length_singleton]; exact hp6, ?_, hcs.app fun y hy => by rw [List.mem_singleton.mp hy]; omega, by simp; omega⟩
      rw [← nsD_snoc, Int.toNat_of_nonneg r60]
    · rintro acc env ⟨pk, cs, rfl, hpk, rfl, hcs, hl⟩
      have hl : cs.length = r.toNat := by simpa using hl
      have hlt : (rs.map rowD).length < 16777216 := by rw [List.length_map]; omega
      simp_arith [hlt]
      refine ⟨by omega, pk, rs ++ [cs], _, .inr ⟨by omega, rfl⟩, ?_, hpk.mono (by omega), by rw [List.length_append, List.length_singleton]; omega, fun a ha => (List.mem_append.mp ha).elim (hrs a) fun z => by rw [List.mem_singleton.mp z]; exact ⟨hcs, by omega⟩⟩
      rw [show x + 1 - 1 = x by omega, List.map_append]
      rfl
  · rintro env ⟨x0, pk, rs, s4, h4, rfl, hpk, hlen, hrs⟩
    obtain ⟨a, b, rfl⟩ : ∃ a b, rs = [a, b] := by
      match rs, hlen with
      | [a, b], _ => exact ⟨a, b, rfl⟩
      | [], h => simp at h
      | [_], h => simp at h
      | _ :: _ :: _ :: _, h => simp at h; omega
    have e4 : s4 = .fz (.int 1) := by
      rcases h4 with ⟨h, _, _⟩ | ⟨_, h⟩
      · omega
      · exact h
    subst e4
    subst hR
    simp_arith [Ev_eq]
    exact k pk a b (hpk.mono (by omega)) (hrs a (by simp)).1 (hrs b (by simp)).1 (hrs a (by simp)).2 (hrs b (by simp)).2
theorem rowD_split {rs : List (List Nat)} {d : D} {ds : List D} (h : d :: ds = rs.map rowD) : ∃ r q, rs = r :: q ∧ d = rowD r ∧ ds = q.map rowD := by
  cases rs with
  | nil => simp at h
  | cons r q => simp only [List.map_cons, List.cons.injEq] at h; exact ⟨r, q, rfl, h.1, h.2⟩
theorem sum_le8 {α : Type} (f : α → Nat) (m : Nat) : ∀ l : List α, (∀ x ∈ l, f x ≤ m) → (l.map f).sum ≤ l.length * m
  | [], _ => by simp
  | x :: l, h => by
    have ih := sum_le8 f m l fun y hy => h y (List.mem_cons_of_mem _ hy)
    have := h x (by simp)
    rw [List.map_cons, List.sum_cons, List.length_cons, Nat.succ_mul]
    omega
theorem cntN_le {ls : List Wd} (few : ls.length ≤ 8) : ∀ (n : Nat) (t : Wd), cntN ls n t ≤ 8 ^ n
  | n, [] => by
    have : cntN ls n [] = 1 := by cases n <;> rfl
    rw [this]; exact Nat.pos_of_ne_zero (by simp)
  | 0, _ :: _ => Nat.zero_le _
  | n + 1, c :: t => by
    show (ls.map _).sum ≤ _
    have := sum_le8 (fun w => if (c :: t).take w.length = w then cntN ls n ((c :: t).drop w.length) else 0) (8 ^ n) ls fun w hw => by
      split
      · exact cntN_le few n _
      · exact Nat.zero_le _
    rw [Nat.pow_succ, Nat.mul_comm]
    exact Nat.le_trans this (Nat.mul_le_mul_right _ few)
theorem cnt_log {ls : List Wd} (few : ls.length ≤ 8) {t : Wd} (h : t.length ≤ 64) : ((cntT ls t : Nat) : Int).natAbs.log2 < 200 := by
  rw [Int.natAbs_natCast]
  have h1 : cntT ls t ≤ 8 ^ 64 := Nat.le_trans (cntN_le few t.length t) (Nat.pow_le_pow_right (by decide) h)
  by_cases z : cntT ls t = 0
  · rw [z]; decide
  · exact (Nat.log2_lt z).mpr (Nat.lt_of_le_of_lt h1 (by decide))
theorem strsD2 (x y : Wd) : strsD [x, y] = [.str (S x), .str (S y)] := rfl
/-- what the slots hold ahead of the third part -/
abbrev env09 (ls : List Wd) (p : D) (a b : List Nat) : Env := [.ow .pn p, .fz (.list (strsD ls)), .fz (stockD ls), .ow .fr (.list [rowD a, rowD b]), .fz (.int 1), .no, .ow .fr (.list [.str (S (txtN ls a)), .str (S (txtN ls b))]), .no,
  .ow .fr (.list [.int ((cntT ls (txtN ls a) : Nat) : Int), .int ((cntT ls (txtN ls b) : Nat) : Int)]), .no, .fz (.str (S (txtN ls (a ++ b)))), .fz (.int (((cntT ls (txtN ls a) * cntT ls (txtN ls b) : Nat)) : Int)), .fz (.int ((cntT ls (txtN ls (a ++ b)) : Nat) : Int)), .no, .no, .no]
theorem ev_rest09b {ls : List Wd} {p p0 : D} {a b : List Nat} {Q : Rv × Env → Prop} (L : Lot ls) (oa : NsOk ls a) (ob : NsOk ls b) (la : a.length ≤ 8) (lb : b.length ≤ 8)
    (k : Ev (rest09c (env09 ls p a b)) (finQ [.ow .pn p0] Q)) :
    Ev (rest09b [.ow .pn p, .fz (.list (strsD ls)), .ow .fr (stockD ls), .ow .fr (.list [rowD a, rowD b]), .fz (.int 1), .no, .no, .no, .no, .no, .no, .no, .no, .no, .no, .no]) (finQ [.ow .pn p0] Q) := by
  unfold rest09b
  generalize hR : rest09c = R at k
  have ta := txtN_len L oa
  have tb := txtN_len L ob
  have oab := oa.app ob
  have tab := txtN_len L oab
  rw [List.length_append] at tab
  simp_arith [Ev_eq]
  refine ev_lcL (fun rest acc env => ∃ (dn td : List (List Nat)) (s2 : Sl), (dn = [] ∧ s2 = .ow .fr (stockD ls) ∨ s2 = .fz (stockD ls)) ∧ [a, b] = dn ++ td ∧ rest = td.map rowD ∧ acc = strsD (dn.map (txtN ls)) ∧ env = [.ow .pn p, .fz (.list (strsD ls)), s2, .ow .lk (.list [rowD a, rowD b]), .fz (.int 1), .no, .no, .no, .no, .no, .no, .no, .no, .no, .no, .no]) (name_nx 7) ?_ ?_ _ _ _ ⟨[], [a, b], _, .inl ⟨rfl, rfl⟩, rfl, rfl, rfl, rfl⟩
  · rintro d ds acc env ⟨dn, td, s2, h2, h3, h4, rfl, rfl⟩
    obtain ⟨r, q, rfl, rfl, rfl⟩ := rowD_split h4
    have hr : NsOk ls r ∧ r.length ≤ 8 := by
      have : r ∈ [a, b] := by rw [h3]; simp
      simp only [List.mem_cons, List.not_mem_nil, or_false] at this
      rcases this with rfl | rfl
      · exact ⟨oa, la⟩
      · exact ⟨ob, lb⟩
    have dl : dn.length < 16777216 := by have := congrArg List.length h3; simp at this; omega
    unfold rowD
    rcases h2 with ⟨hdn, rfl⟩ | rfl
    all_goals
      simp_arith [Ev_eq]
      refine ev_joined L hr.1 (by omega) ?_
      simp_arith [strsD_len, strsD_snoc]
      refine ⟨by rw [List.length_map]; exact dl, dn ++ [r], q, .fz (stockD ls), .inr rfl, by rw [h3]; simp, rfl, by rw [List.map_append]; rfl, rfl⟩
  · rintro acc env ⟨dn, td, s2, h2, h3, h4, rfl, rfl⟩
    have : td = [] := by cases td with
      | nil => rfl
      | cons x y => simp at h4
    subst this
    rw [List.append_nil] at h3
    subst h3
    have e2 : s2 = .fz (stockD ls) := h2.elim (fun z => by simp at z) id
    subst e2
    simp_arith [Ev_eq]
    refine ev_lc_pure (fun d => match d with | .str x => .int ((cntT ls x.cps.toList : Nat) : Int) | d => d) (name_nx 9) (by simp [strsD]) (fun d hd => ?_) ?_
    · obtain ⟨w, hw, rfl⟩ := mem_strsD.mp hd
      have : Ltr w ∧ w.length ≤ 10000 := by
        simp only [List.map_cons, List.map_nil, List.mem_cons, List.not_mem_nil, or_false] at hw
        rcases hw with rfl | rfl
        · exact ⟨txtN_ltr L oa, by omega⟩
        · exact ⟨txtN_ltr L ob, by omega⟩
      simp_arith [Ev_eq]
      refine ev_count L this.1 this.2 ?_
      simp_arith [S_cps]
    simp_arith [rowD, nsD_app, nsD_len, strsD2, S_cps]
    refine ⟨by omega, ?_⟩
    refine ev_joined L oab (by rw [List.length_append]; omega) ?_
    have lg1 := cnt_log L.few (t := txtN ls a) (by omega)
    have lg2 := cnt_log L.few (t := txtN ls b) (by omega)
    simp_arith [S_len]
    refine ⟨by omega, ev_count L (txtN_ltr L oab) (by omega) ?_⟩
    have e0 : (!decide (txtN ls (a ++ b) = txtN ls a ++ txtN ls b)) = false := by rw [txtN_app]; simp
    have mul := cnt_mul L (txtN ls a) (txtN ls b)
    rw [← txtN_app] at mul
    simp_arith [S_len, S_app, dNe_s, e0]
    rw [← Int.natCast_mul, if_neg (by omega)]
    refine ⟨by omega, ev_is_text L (txtN_ltr L oab) (by omega) ?_⟩
    have st : starB ls (txtN ls (a ++ b)) = true := by
      unfold starB
      rw [decide_eq_true_eq]
      exact cnt_row L.ne (txtN_row oab)
    simp_arith [st]
    exact k
theorem dNe_11 (x y : Int) (h : x = 1 ∧ y = 1) : dNe (.list [.int x, .int y]) (.list [.int 1, .int 1]) = some (.val (.bool false)) := by
  rw [h.1, h.2]; rfl
theorem shNs : ∀ {ns : List Nat}, (∀ n ∈ ns, n < 1000) → ShL (nsD ns) 0 (ns.length * 42)
  | [], _ => by simpa [nsD] using ShL.nil (k := 0)
  | n :: ns, h => by
    have ih := shNs (ns := ns) fun x hx => h x (List.mem_cons_of_mem _ hx)
    have h1 := h n (by simp)
    show ShL (PyData.int (n : Int) :: nsD ns) _ _
    exact (ShL.cons (Sh.int (by rw [Int.natAbs_natCast]; omega)) ih).mono (Nat.le_refl _) (by simp only [List.length_cons]; omega)
theorem ev_rest09t {ls : List Wd} {p p0 : D} {a b : List Nat} {Q : Rv × Env → Prop} (L : Lot ls) (oa : NsOk ls a) (ob : NsOk ls b) (la : a.length ≤ 8) (lb : b.length ≤ 8)
    (k : Ev (rest09d (env09 ls p a b |>.set 13 (.fz (.int ((idxR ls (txtN ls (a ++ b)) 0 (a ++ b) : Nat) : Int))))) (finQ [.ow .pn p0] Q)) :
    Ev (rest09t (env09 ls p a b)) (finQ [.ow .pn p0] Q) := by
  unfold rest09t env09
  unfold env09 at k
  simp only [List.set_cons_succ, List.set_cons_zero] at k
  generalize hR : rest09d = R at k
  have oab := oa.app ob
  simp_arith [rowD, nsD_app, nsD_len]
  refine ⟨by omega, ev_reading_index L oab (by rw [List.length_append]; omega) ?_⟩
  have lt := idxR_lt L (txtN ls (a ++ b)) (a ++ b) 0 oab rfl
  rw [List.drop_zero] at lt
  have c1 : (0 : Int) ≤ ((idxR ls (txtN ls (a ++ b)) 0 (a ++ b) : Nat) : Int) := by omega
  have c2 : ((idxR ls (txtN ls (a ++ b)) 0 (a ++ b) : Nat) : Int) < ((cntT ls (txtN ls (a ++ b)) : Nat) : Int) := by omega
  simp_arith [c1, c2]
  refine ev_nth_reading L oab (by rw [List.length_append]; omega) ?_
  have sh := Sh.list (shNs (ns := a ++ b) fun n hn => by have := oab n hn; have := L.few; omega)
  simp_arith [rowD, nsD_app, nsD_len, dNe_same sh (by decide)]
  refine ⟨by omega, ?_⟩
  exact k
theorem ev_rest09c {ls : List Wd} {p p0 : D} {a b : List Nat} {Q : Rv × Env → Prop} (L : Lot ls) (oa : NsOk ls a) (ob : NsOk ls b)
    (k : Ev (rest09t (env09 ls p a b)) (finQ [.ow .pn p0] Q)) : Ev (rest09c (env09 ls p a b)) (finQ [.ow .pn p0] Q) := by
  unfold rest09c env09
  unfold env09 at k
  generalize hR : rest09t = R at k
  have mul := cnt_mul L (txtN ls a) (txtN ls b)
  rw [← txtN_app] at mul
  have ca := cnt_row L.ne (txtN_row oa)
  have cb := cnt_row L.ne (txtN_row ob)
  have cab : 0 < cntT ls (txtN ls a) * cntT ls (txtN ls b) := Nat.mul_pos ca cb
  simp_arith [Ev_eq]
  refine ev_is_one_way L ?_
  by_cases ow : OneWay ls
  · have e1 : owB ls = true := owB_iff.mpr ow
    have c1 := cnt_one L ow (txtN ls (a ++ b))
    have m1 : cntT ls (txtN ls (a ++ b)) = 1 := by omega
    have p1 : cntT ls (txtN ls a) * cntT ls (txtN ls b) = 1 := by omega
    simp_arith [e1, dNe_11 _ _ (show ((cntT ls (txtN ls (a ++ b)) : Nat) : Int) = 1 ∧ ((cntT ls (txtN ls a) * cntT ls (txtN ls b) : Nat) : Int) = 1 from ⟨by omega, by omega⟩)]
    exact k
  · have e1 : owB ls = false := by rw [Bool.eq_false_iff]; exact fun z => ow (owB_iff.mp z)
    simp_arith [e1]
    exact k
abbrev env09e (ls : List Wd) (p : D) (a b : List Nat) (t w : Wd) (z : Int) : Env := [.ow .pn p, .fz (.list (strsD ls)), .fz (stockD ls), .ow .fr (.list [rowD a, rowD b]), .fz (.int 1), .no, .ow .fr (.list [.str (S (txtN ls a)), .str (S (txtN ls b))]), .no,
  .ow .fr (.list [.int ((cntT ls (txtN ls a) : Nat) : Int), .int ((cntT ls (txtN ls b) : Nat) : Int)]), .no, .fz (.str (S t)), .fz (.int (((cntT ls (txtN ls a) * cntT ls (txtN ls b) : Nat)) : Int)), .fz (.int ((cntT ls t : Nat) : Int)), .fz (.int z), .fz (.str (S w)), .no]
theorem ev_rest09e {ls : List Wd} {p p0 : D} {a b : List Nat} {t w : Wd} {z : Int} {Q : Rv × Env → Prop} (L : Lot ls) (l0 : 0 < ls.length) (ltr : Ltr t) (tl : t.length ≤ 128)
    (k : Q (.val (.bool true), [.ow .pn p])) : Ev (rest09e (env09e ls p a b t w z)) (finQ [.ow .pn p0] Q) := by
  unfold rest09e env09e
  have few := L.few
  simp_arith [Ev_eq]
  refine ev_lc_rev rfl (by omega) (fun x hx => by have := L.len x hx; omega) ?_
  simp_arith [Ev_eq]
  refine ev_stock_init L.rev (by rw [revW_len]; exact l0) ?_
  have ltr' : Ltr t.reverse := ltr_rev ltr
  simp_arith [S_len, S_rev]
  refine ⟨by omega, ev_count L.rev ltr' (by rw [List.length_reverse]; omega) ?_⟩
  rw [cnt_rev L]
  have e0 : (!decide (((cntT ls t : Nat) : Int) = ((cntT ls t : Nat) : Int))) = false := by simp
  have e1 : decide (((cntT ls t : Nat) : Int) = ((cntT ls t : Nat) : Int)) = true := by simp
  simp_arith [dNe_i, e0]
  refine ev_is_one_way L.rev ?_
  simp_arith [Ev_eq]
  refine ev_is_one_way L ?_
  have e2 : owB (revW ls) = owB ls := owB_eq oneWay_rev
  rw [e2]
  have e3 : (!decide (owB ls = owB ls)) = false := by simp
  have rv : (strsD ls).reverse = strsD ls.reverse := by simp [strsD]
  simp_arith [dNe_b, e3, rv]
  have Lr := L.perm (List.reverse_perm ls)
  refine ev_stock_init Lr (by rw [List.length_reverse]; exact l0) ?_
  simp_arith [Ev_eq]
  refine ev_count Lr ltr (by omega) ?_
  rw [cnt_perm Lr L (fun w => List.mem_reverse) t]
  simp_arith [dEq_i, e1]
  exact k
theorem ev_rest09d {ls : List Wd} {p p0 : D} {n : Nat} {z : Int} {a b : List Nat} {Q : Rv × Env → Prop} (L : Lot ls) (l0 : 0 < ls.length) (l6 : ls.length ≤ 6) (hp : Pl n p) (hn : n < 2 ^ 45) (oa : NsOk ls a) (ob : NsOk ls b) (la : a.length ≤ 8) (lb : b.length ≤ 8)
    (k : ∀ p', Pl (n + 101) p' → Q (.val (.bool true), [.ow .pn p'])) :
    Ev (rest09d (env09 ls p a b |>.set 13 (.fz (.int z)))) (finQ [.ow .pn p0] Q) := by
  unfold rest09d env09
  simp only [List.set_cons_succ, List.set_cons_zero]
  have oab := oa.app ob
  have tab := txtN_len L oab
  rw [List.length_append] at tab
  have ltr := txtN_ltr L oab
  have tl : (txtN ls (a ++ b)).length ≤ 128 := by omega
  generalize txtN ls (a ++ b) = t at *
  generalize hE : rest09e = R
  simp_arith [lit_ab]
  refine ev_law_word hp (by omega) (by decide) (by decide) (by unfold Ltr; decide) (by decide) (by decide) fun w p3 lw w0 w3 hp3 => ?_
  have fin : Ev (R (env09e ls p3 a b t w z)) (finQ [.ow .pn p0] Q) := by
    subst hE
    exact ev_rest09e L l0 ltr tl (k _ hp3)
  simp_arith [dNotIn_W]
  by_cases hw : w ∈ ls
  · rw [if_neg (not_not_intro hw)]
    exact fin
  · rw [if_pos hw]
    have LW : Lot (ls ++ [w]) := L.snoc hw (List.length_pos_iff.mp w0) lw (by omega) (by omega)
    refine ev_with_word LW ?_
    simp_arith [Ev_eq]
    refine ev_count LW ltr (by omega) ?_
    have mono := cnt_mono L.nd L.ne LW.ne (fun x hx => List.mem_append_left _ hx) t
    simp_arith [Ev_eq]
    rw [if_neg (by omega)]
    exact fin
theorem round_k09 : Round 3000 M_law_fits_k09 := by
  intro p n Q hp hn k
  refine Ev_defI ⟨rfl, rfl⟩ ?_
  rw [B_k09]
  generalize hR : rest09 = R
  simp_arith [Ev_eq]
  have fin : ∀ (ls : List Wd) p', Lot ls → 0 < ls.length → ls.length ≤ 6 → Pl (n + 2010) p' → Ev (R [.ow .pn p', .ow .fr (.list (strsD ls)), .no, .no, .no, .no, .no, .no, .no, .no, .no, .no, .no, .no, .no, .no]) (finQ [.ow .pn p] Q) := fun ls p' L l0 l6 hp' => by
    subst hR
    exact ev_rest09 L l0 hp' (by omega) fun p2 a b hp2 oa ob la lb => ev_rest09b L oa ob la lb (ev_rest09c L oa ob (ev_rest09t L oa ob la lb (ev_rest09d L l0 l6 hp2 (by omega) oa ob la lb fun p3 hp3 => k p3 (hp3.mono (by omega)))))
  refine ev_draw hp (by omega) (by decide) (by decide) fun r p1 r0 r1 hp1 => ?_
  simp_arith [dEq_i]
  by_cases h : r = 0
  · rw [if_pos h]
    refine ev_law_knownB hp1 (by omega) fun ls p2 L l0 l6 hp2 => ?_
    simp_arith [Ev_eq]
    exact fin ls p2 L l0 l6 (hp2.mono (by omega))
  · rw [if_neg h]
    refine ev_law_lotB hp1 (by omega) (by decide) (by decide) (by decide) (by decide) fun ls p2 L l0 l6 hp2 => ?_
    simp_arith [Ev_eq]
    exact fin ls p2 L l0 (by omega) (hp2.mono (by omega))
theorem plain_k09 : Holds M_law_k09 63 := frameN round_k09 (by decide) (by decide) (by decide) (by decide) (by decide)
end DL
namespace DL.K09
open PySem PySem.Spec L2 DL
open PyProof.Rows (envOfC)
def topS (i : Nat) : Stmt := PySem.Challenge.pw_wordhulls_k09_whole_texts_run_together.main.body.getD i (.Pass ⟨0, 0, 0, 0⟩)
/-- what the top has for names that are no defs -/
structure Txt (K : PySem.W.Frag) (mg : Str → Option Value) : Prop where
  z_abs : mg "abs" = none
  z_all : mg "all" = none
  z_enumerate : mg "enumerate" = none
  z_int : mg "int" = none
  z_len : mg "len" = none
  z_list : mg "list" = none
  z_max : mg "max" = none
  z_min : mg "min" = none
  z_range : mg "range" = none
  z_sorted : mg "sorted" = none
  z_sum : mg "sum" = none
  z_tuple : mg "tuple" = none
  u_LETTERS : ∃ t, mg "LETTERS" = some (.str "abcdefghijklmnopqrstuvwxyz" t)
  u_MOST_LETTERS : ∃ t, mg "MOST_LETTERS" = some (.int 8 t)
  u_MOST_WORDS : ∃ t, mg "MOST_WORDS" = some (.int 8 t)
  k_Stock : ClsF K mg "Stock" ["kept_words"]
theorem Txt.g_LETTERS {X : Cx} {K : PySem.W.Frag} {mg : Str → Option Value} (T : Txt K mg) (W : WX) (pos : Pos) (hx : mg = X.mg) (hg : Gl X "LETTERS" := by rfl) : DE X W (.Name "LETTERS" pos) (mC (.str "abcdefghijklmnopqrstuvwxyz")) := by
  obtain ⟨t, e⟩ := T.u_LETTERS
  subst hx
  exact de_glob (v := (V.str "abcdefghijklmnopqrstuvwxyz")) hg e ⟨t, rfl⟩ (fun _ => .str _ (by decide +kernel))
theorem Txt.g_MOST_LETTERS {X : Cx} {K : PySem.W.Frag} {mg : Str → Option Value} (T : Txt K mg) (W : WX) (pos : Pos) (hx : mg = X.mg) (hg : Gl X "MOST_LETTERS" := by rfl) : DE X W (.Name "MOST_LETTERS" pos) (mC (.int 8)) := by
  obtain ⟨t, e⟩ := T.u_MOST_LETTERS
  subst hx
  exact de_glob (v := (V.int 8)) hg e ⟨t, rfl⟩ (fun _ => .int _)
theorem Txt.g_MOST_WORDS {X : Cx} {K : PySem.W.Frag} {mg : Str → Option Value} (T : Txt K mg) (W : WX) (pos : Pos) (hx : mg = X.mg) (hg : Gl X "MOST_WORDS" := by rfl) : DE X W (.Name "MOST_WORDS" pos) (mC (.int 8)) := by
  obtain ⟨t, e⟩ := T.u_MOST_WORDS
  subst hx
  exact de_glob (v := (V.int 8)) hg e ⟨t, rfl⟩ (fun _ => .int _)
abbrev s_law_pool : Stmt := topS 30
abbrev N_law_pool : List Str := ["script", "spot", "cell"]
theorem sc_law_pool : FnScope N_law_pool ["script", "spot"] (defScope s_law_pool) := ⟨rfl, rfl, rfl, by decide +kernel, rfl, by decide +kernel, by decide +kernel⟩
abbrev s_run_of : Stmt := topS 14
abbrev N_run_of : List Str := ["stock", "reading", "number"]
theorem sc_run_of : FnScope N_run_of ["stock", "reading"] (defScope s_run_of) := ⟨rfl, rfl, rfl, by decide +kernel, rfl, by decide +kernel, by decide +kernel⟩
abbrev s_joined : Stmt := topS 15
abbrev N_joined : List Str := ["stock", "reading", "number"]
theorem sc_joined : FnScope N_joined ["stock", "reading"] (defScope s_joined) := ⟨rfl, rfl, rfl, by decide +kernel, rfl, by decide +kernel, by decide +kernel⟩
abbrev s_ways_behind : Stmt := topS 18
abbrev N_ways_behind : List Str := ["words", "text", "found", "place", "word"]
theorem sc_ways_behind : FnScope N_ways_behind ["words", "text"] (defScope s_ways_behind) := ⟨rfl, rfl, rfl, by decide +kernel, rfl, by decide +kernel, by decide +kernel⟩
abbrev s_steps_from : Stmt := topS 21
abbrev N_steps_from : List Str := ["words", "text", "place", "ways", "found", "number", "word"]
theorem sc_steps_from : FnScope N_steps_from ["words", "text", "place", "ways"] (defScope s_steps_from) := ⟨rfl, rfl, rfl, by decide +kernel, rfl, by decide +kernel, by decide +kernel⟩
abbrev s_reading_index : Stmt := topS 23
abbrev N_reading_index : List Str := ["stock", "reading", "text", "ways", "found", "place", "wanted", "steps", "number", "many"]
theorem sc_reading_index : FnScope N_reading_index ["stock", "reading"] (defScope s_reading_index) := ⟨rfl, rfl, rfl, by decide +kernel, rfl, by decide +kernel, by decide +kernel⟩
abbrev s_law_draw : Stmt := topS 31
abbrev N_law_draw : List Str := ["pool", "span", "drawn", "mixed"]
theorem sc_law_draw : FnScope N_law_draw ["pool", "span"] (defScope s_law_draw) := ⟨rfl, rfl, rfl, by decide +kernel, rfl, by decide +kernel, by decide +kernel⟩
abbrev s_law_word : Stmt := topS 32
abbrev N_law_word : List Str := ["pool", "widest", "signs", "turn"]
theorem sc_law_word : FnScope N_law_word ["pool", "widest", "signs"] (defScope s_law_word) := ⟨rfl, rfl, rfl, by decide +kernel, rfl, by decide +kernel, by decide +kernel⟩
abbrev s_is_row : Stmt := topS 10
abbrev N_is_row : List Str := ["signs", "sign"]
theorem sc_is_row : FnScope N_is_row ["signs"] (defScope s_is_row) := ⟨rfl, rfl, rfl, by decide +kernel, rfl, by decide +kernel, by decide +kernel⟩
abbrev s_check_words : Stmt := topS 11
abbrev N_check_words : List Str := ["words", "index", "word"]
theorem sc_check_words : FnScope N_check_words ["words"] (defScope s_check_words) := ⟨rfl, rfl, rfl, by decide +kernel, rfl, by decide +kernel, by decide +kernel⟩
abbrev s_Stock_init : Stmt := inClass (topS 13) 0
abbrev N_Stock_init : List Str := ["self", "words"]
theorem sc_Stock_init : FnScope N_Stock_init ["self", "words"] (defScope s_Stock_init) := ⟨rfl, rfl, rfl, by decide +kernel, rfl, by decide +kernel, by decide +kernel⟩
abbrev s_law_known : Stmt := topS 34
abbrev N_law_known : List Str := ["pool", "some"]
theorem sc_law_known : FnScope N_law_known ["pool"] (defScope s_law_known) := ⟨rfl, rfl, rfl, by decide +kernel, rfl, by decide +kernel, by decide +kernel⟩
abbrev s_law_lot : Stmt := topS 33
abbrev N_law_lot : List Str := ["pool", "many", "widest", "signs", "found", "turn", "fresh", "way", "left", "right", "cut"]
theorem sc_law_lot : FnScope N_law_lot ["pool", "many", "widest"] (defScope s_law_lot) := ⟨rfl, rfl, rfl, by decide +kernel, rfl, by decide +kernel, by decide +kernel⟩
abbrev s_check_text : Stmt := topS 12
abbrev N_check_text : List Str := ["text"]
theorem sc_check_text : FnScope N_check_text ["text"] (defScope s_check_text) := ⟨rfl, rfl, rfl, by decide +kernel, rfl, by decide +kernel, by decide +kernel⟩
abbrev s_count_readings : Stmt := topS 19
abbrev N_count_readings : List Str := ["stock", "text"]
theorem sc_count_readings : FnScope N_count_readings ["stock", "text"] (defScope s_count_readings) := ⟨rfl, rfl, rfl, by decide +kernel, rfl, by decide +kernel, by decide +kernel⟩
abbrev s_starts_of : Stmt := topS 25
abbrev N_starts_of : List Str := ["words", "found", "one", "word", "other", "longer"]
theorem sc_starts_of : FnScope N_starts_of ["words"] (defScope s_starts_of) := ⟨rfl, rfl, rfl, by decide +kernel, rfl, by decide +kernel, by decide +kernel⟩
abbrev s_steps_of : Stmt := topS 26
abbrev N_steps_of : List Str := ["words", "rest", "found", "number", "word"]
theorem sc_steps_of : FnScope N_steps_of ["words", "rest"] (defScope s_steps_of) := ⟨rfl, rfl, rfl, by decide +kernel, rfl, by decide +kernel, by decide +kernel⟩
abbrev s_rests_from : Stmt := topS 27
abbrev N_rests_from : List Str := ["words", "waiting", "one", "other", "rest", "found", "number", "later", "leads"]
theorem sc_rests_from : FnScope N_rests_from ["words"] (defScope s_rests_from) := ⟨rfl, rfl, rfl, by decide +kernel, rfl, by decide +kernel, by decide +kernel⟩
abbrev s_is_one_way : Stmt := topS 28
abbrev N_is_one_way : List Str := ["stock"]
theorem sc_is_one_way : FnScope N_is_one_way ["stock"] (defScope s_is_one_way) := ⟨rfl, rfl, rfl, by decide +kernel, rfl, by decide +kernel, by decide +kernel⟩
abbrev s_is_text : Stmt := topS 20
abbrev N_is_text : List Str := ["stock", "text"]
theorem sc_is_text : FnScope N_is_text ["stock", "text"] (defScope s_is_text) := ⟨rfl, rfl, rfl, by decide +kernel, rfl, by decide +kernel, by decide +kernel⟩
abbrev s_nth_reading : Stmt := topS 22
abbrev N_nth_reading : List Str := ["stock", "text", "index", "ways", "found", "place", "left", "number", "many"]
theorem sc_nth_reading : FnScope N_nth_reading ["stock", "text", "index"] (defScope s_nth_reading) := ⟨rfl, rfl, rfl, by decide +kernel, rfl, by decide +kernel, by decide +kernel⟩
abbrev s_with_word : Stmt := topS 16
abbrev N_with_word : List Str := ["stock", "word"]
theorem sc_with_word : FnScope N_with_word ["stock", "word"] (defScope s_with_word) := ⟨rfl, rfl, rfl, by decide +kernel, rfl, by decide +kernel, by decide +kernel⟩
abbrev s_law_fits_k09 : Stmt := topS 35
abbrev N_law_fits_k09 : List Str := ["pool", "lot", "made", "rows", "turn", "step", "lines", "row", "counts_here", "line", "both", "product", "many", "at", "fresh", "turned"]
theorem sc_law_fits_k09 : FnScope N_law_fits_k09 ["pool"] (defScope s_law_fits_k09) := ⟨rfl, rfl, rfl, by decide +kernel, rfl, by decide +kernel, by decide +kernel⟩
abbrev s_law_k09 : Stmt := topS 36
abbrev N_law_k09 : List Str := ["script", "spot", "pool", "turn"]
theorem sc_law_k09 : FnScope N_law_k09 ["script"] (defScope s_law_k09) := ⟨rfl, rfl, rfl, by decide +kernel, rfl, by decide +kernel, by decide +kernel⟩
section
variable {P : Program} {w : World} {K : PySem.W.Frag} {mg : Str → Option Value} {base : Heap} {fa : Addr} {fd : FuncData}
theorem fn_law_pool (F : Fun K "_law_pool" "_law_pool" s_law_pool fa fd) (T : Txt K mg)   : FnG P w K mg base 1 fa fd ["script", "spot"] M_law_pool :=
  fng_of (k := 0) F sc_law_pool fun cdv A outer s H E hr gd => (dss_cons (ds_set (i := 2) sc_law_pool.nd rfl (Or.inl rfl) de_int)
  (dss_cons (ds_if (dt_lt  (dv 1) (de_len  T.z_len (da_cons (dv 0) da_nil))) (dss_one (ds_set (i := 2) sc_law_pool.nd rfl (Or.inl rfl) (de_at (dv 0) (dv 1)))) dss_nil)
  (dss_one (ds_ret (de_list (da_cons (de_max2 rfl T.z_max (da_cons de_int (da_cons (de_sub (de_abs  T.z_abs (da_cons (dv 2) da_nil)) (de_pow de_int de_int)) da_nil))) (da_cons (de_add (de_mod (de_intc  T.z_int (da_cons (dv 2) da_nil)) de_int) (de_mul de_int (de_add (dv 1) de_int))) (da_cons de_int da_nil))))))))
theorem fn_run_of (F : Fun K "run_of" "run_of" s_run_of fa fd) (T : Txt K mg)   : FnG P w K mg base 1 fa fd ["stock", "reading"] M_run_of :=
  fng_of (k := 0) F sc_run_of fun cdv A outer s H E hr gd => (dss_one (ds_ret (de_join de_str (de_lc (own := [("number", 2)]) (t := (.nm 2)) rfl sc_run_of.nd (di_val (dv 1)) (blkOk_by (own := [("number", 2)]) (N := N_run_of) (sc := defScope s_run_of) (by decide +kernel)) (by decide) (fun _ _ _ _ _ => (dtg_name (i := 2) sc_run_of.nd rfl (Or.inl rfl))) (fun _ _ _ _ _ => dts_nil) (fun _ _ _ _ _ => (de_at (de_fld T.k_Stock (by decide) (dv 0)) (dv 2)))))))
theorem fn_joined (F : Fun K "joined" "joined" s_joined fa fd) (T : Txt K mg) (c_run_of : Cal P w K mg base "run_of" s_run_of 1 ["stock", "reading"] M_run_of)  : FnG P w K mg base 2 fa fd ["stock", "reading"] M_joined :=
  fng_of (k := 1) F sc_joined fun cdv A outer s H E hr gd => (dss_cons (ds_for (passes_of rfl) rfl (di_val (dv 1)) (dg_name (i := 2) sc_joined.nd rfl (Or.inl rfl)) (dss_one (ds_if (dt_not (dt_chain op_leD good_ord op_ltD good_ord.toGood2 de_int (dv 2) (de_len  T.z_len (da_cons (de_fld T.k_Stock (by decide) (dv 0)) da_nil)))) (dss_one ds_never) dss_nil)))
  (dss_one (ds_ret (dcall c_run_of hr (by decide) gd (takes_of rfl rfl rfl rfl) [.c, .l] (da_cons (dv 0) (da_cons (dv 1) da_nil))))))
theorem fn_ways_behind (F : Fun K "ways_behind" "ways_behind" s_ways_behind fa fd) (T : Txt K mg)   : FnG P w K mg base 1 fa fd ["words", "text"] M_ways_behind :=
  fng_of (k := 0) F sc_ways_behind fun cdv A outer s H E hr gd => (dss_cons (ds_set (i := 2) sc_ways_behind.nd rfl (Or.inl rfl) (de_add (de_mul (de_list (da_cons de_int da_nil)) (de_len  T.z_len (da_cons (dv 1) da_nil))) (de_list (da_cons de_int da_nil))))
  (dss_cons (ds_for (passes_of rfl) rfl (di_val (de_rev (de_listRg rfl T.z_list T.z_range (de_len  T.z_len (da_cons (dv 1) da_nil))))) (dg_name (i := 3) sc_ways_behind.nd rfl (Or.inl rfl)) (dss_one (ds_for (passes_of rfl) rfl (di_val (dv 0)) (dg_name (i := 4) sc_ways_behind.nd rfl (Or.inl rfl)) (dss_one (ds_if (dt_eq (hu64 hr) (de_cut (dv 1) (do_some (dv 3)) (do_some (de_add (dv 3) (de_len  T.z_len (da_cons (dv 4) da_nil))))) (dv 4)) (dss_one (ds_augIx (j := 2) (dv 3) (de_at (dv 2) (de_add (dv 3) (de_len  T.z_len (da_cons (dv 4) da_nil)))) rfl (by first | exact Or.inl rfl | exact Or.inr (Or.inl rfl)))) dss_nil)))))
  (dss_one (ds_ret (dv 2)))))
theorem fn_steps_from (F : Fun K "steps_from" "steps_from" s_steps_from fa fd) (T : Txt K mg)   : FnG P w K mg base 1 fa fd ["words", "text", "place", "ways"] M_steps_from :=
  fng_of (k := 0) F sc_steps_from fun cdv A outer s H E hr gd => (dss_cons (ds_set (i := 4) sc_steps_from.nd rfl (Or.inl rfl) (de_list da_nil))
  (dss_cons (ds_for (passes_of rfl) rfl (di_enum T.z_enumerate (dv 0)) (dg_tup rfl (dgs_cons (dg_name (i := 5) sc_steps_from.nd rfl (Or.inl rfl)) (dgs_cons (dg_name (i := 6) sc_steps_from.nd rfl (Or.inl rfl)) dgs_nil))) (dss_one (ds_if (dt_w (dw_and (dt_eq (hu64 hr) (de_cut (dv 1) (do_some (dv 2)) (do_some (de_add (dv 2) (de_len  T.z_len (da_cons (dv 6) da_nil))))) (dv 6)) (dw_and1 (dt_gt  (de_at (dv 3) (de_add (dv 2) (de_len  T.z_len (da_cons (dv 6) da_nil)))) de_int)))) (dss_one (ds_append (j := 4) rfl (by first | exact Or.inl rfl | exact Or.inr (Or.inl rfl)) (de_tup (da_cons (dv 5) (da_cons (de_at (dv 3) (de_add (dv 2) (de_len  T.z_len (da_cons (dv 6) da_nil)))) da_nil))))) dss_nil)))
  (dss_one (ds_ret (dv 4)))))
theorem fn_reading_index (F : Fun K "reading_index" "reading_index" s_reading_index fa fd) (T : Txt K mg) (c_joined : Cal P w K mg base "joined" s_joined 2 ["stock", "reading"] M_joined) (c_ways_behind : Cal P w K mg base "ways_behind" s_ways_behind 1 ["words", "text"] M_ways_behind) (c_steps_from : Cal P w K mg base "steps_from" s_steps_from 1 ["words", "text", "place", "ways"] M_steps_from)  : FnG P w K mg base 3 fa fd ["stock", "reading"] M_reading_index :=
  fng_of (k := 2) F sc_reading_index fun cdv A outer s H E hr gd => (dss_cons (ds_set (i := 2) sc_reading_index.nd rfl (Or.inl rfl) (dcall c_joined hr (by decide) gd (takes_of rfl rfl rfl rfl) [.c, .l] (da_cons (dv 0) (da_cons (dv 1) da_nil))))
  (dss_cons (ds_set (i := 3) sc_reading_index.nd rfl (Or.inl rfl) (dcall c_ways_behind hr (by decide) gd (takes_of rfl rfl rfl rfl) [.c, .c] (da_cons (de_fld T.k_Stock (by decide) (dv 0)) (da_cons (dv 2) da_nil))))
  (dss_cons (ds_asg (de_tup (da_cons de_int (da_cons de_int da_nil))) (dg_tup rfl (dgs_cons (dg_name (i := 4) sc_reading_index.nd rfl (Or.inl rfl)) (dgs_cons (dg_name (i := 5) sc_reading_index.nd rfl (Or.inl rfl)) dgs_nil))))
  (dss_cons (ds_for (passes_of rfl) rfl (di_val (dv 1)) (dg_name (i := 6) sc_reading_index.nd rfl (Or.inr rfl)) (dss_cons (ds_set (i := 7) sc_reading_index.nd rfl (Or.inl rfl) (dcall c_steps_from hr (by decide) gd (takes_of rfl rfl rfl rfl) [.c, .c, .c, .c] (da_cons (de_fld T.k_Stock (by decide) (dv 0)) (da_cons (dv 2) (da_cons (dv 5) (da_cons (dv 3) da_nil))))))
  (dss_cons (ds_aug (i := 4) sc_reading_index.nd rfl (Or.inl rfl) ip_addD good_iadd (de_sum rfl T.z_sum (da_cons (de_lc (own := [("number", 8), ("many", 9)]) (t := (.tp [(.nm 8), (.nm 9)])) rfl sc_reading_index.nd (di_val (dv 7)) (blkOk_by (own := [("number", 8), ("many", 9)]) (N := N_reading_index) (sc := defScope s_reading_index) (by decide +kernel)) (by decide) (fun _ _ _ _ _ => (dtg_tup rfl (dtgs_cons (dtg_name (i := 8) sc_reading_index.nd rfl (Or.inl rfl)) (dtgs_cons (dtg_name (i := 9) sc_reading_index.nd rfl (Or.inl rfl)) dtgs_nil)))) (fun _ _ _ _ _ => (dts_one (dt_lt  (dv 8) (dv 6)))) (fun _ _ _ _ _ => (dv 9))) da_nil)))
  (dss_one (ds_aug (i := 5) sc_reading_index.nd rfl (Or.inl rfl) ip_addD good_iadd (de_len  T.z_len (da_cons (de_at (de_fld T.k_Stock (by decide) (dv 0)) (dv 6)) da_nil)))))))
  (dss_one (ds_ret (dv 4)))))))
theorem fn_law_draw (F : Fun K "_law_draw" "_law_draw" s_law_draw fa fd) (T : Txt K mg)   : FnG P w K mg base 1 fa fd ["pool", "span"] M_law_draw :=
  fng_of (k := 0) F sc_law_draw fun cdv A outer s H E hr gd => (dss_cons (ds_if (dt_gt  (de_at (dv 0) de_int) de_int) (dss_cons (ds_set (i := 2) sc_law_draw.nd rfl (Or.inl rfl) (de_mod (de_intc  T.z_int (da_cons (de_at (dv 0) de_int) da_nil)) (dv 1)))
  (dss_cons (ds_setIx (j := 0) (de_div (de_at (dv 0) de_int) (dv 1)) de_int rfl (by first | exact Or.inl rfl | exact Or.inr (Or.inl rfl)))
  (dss_one (ds_ret (dv 2))))) dss_nil)
  (dss_cons (ds_setIx (j := 0) (de_add (de_at (dv 0) de_int) de_int) de_int rfl (by first | exact Or.inl rfl | exact Or.inr (Or.inl rfl)))
  (dss_cons (ds_set (i := 3) sc_law_draw.nd rfl (Or.inl rfl) (de_mod (de_intc  T.z_int (da_cons (de_pow (de_add (de_at (dv 0) de_int) (de_mul de_int (de_at (dv 0) de_int))) de_int) da_nil)) de_int))
  (dss_cons (ds_set (i := 3) sc_law_draw.nd rfl (Or.inl rfl) (de_mod (de_intc  T.z_int (da_cons (de_pow (de_add (dv 3) (de_mul de_int (de_at (dv 0) de_int))) de_int) da_nil)) de_int))
  (dss_one (ds_ret (de_mod (de_intc  T.z_int (da_cons (de_div (dv 3) de_int) da_nil)) (dv 1))))))))
theorem fn_law_word (F : Fun K "_law_word" "_law_word" s_law_word fa fd) (T : Txt K mg) (c_law_draw : Cal P w K mg base "_law_draw" s_law_draw 1 ["pool", "span"] M_law_draw)  : FnG P w K mg base 2 fa fd ["pool", "widest", "signs"] M_law_word :=
  fng_of (k := 1) F sc_law_word fun cdv A outer s H E hr gd => (dss_one (ds_ret (de_join de_str (de_lc (own := [("turn", 3)]) (t := (.nm 3)) rfl sc_law_word.nd (di_range1 T.z_range (de_add de_int (dcall c_law_draw hr (by decide) gd (takes_of rfl rfl rfl rfl) [.p, .l] (da_cons (dv 0) (da_cons (dv 1) da_nil))))) (blkOk_by (own := [("turn", 3)]) (N := N_law_word) (sc := defScope s_law_word) (by decide +kernel)) (by decide) (fun _ _ _ _ _ => (dtg_name (i := 3) sc_law_word.nd rfl (Or.inl rfl))) (fun _ _ _ _ _ => dts_nil) (fun _ _ _ _ _ => (de_at (dv 2) (dcall c_law_draw hr (by decide) gd takes0 [.p, .c] (da_cons (dv 0) (da_cons (de_len  T.z_len (da_cons (dv 2) da_nil)) da_nil)))))))))
theorem fn_is_row (F : Fun K "is_row" "is_row" s_is_row fa fd) (T : Txt K mg)   : FnG P w K mg base 1 fa fd ["signs"] M_is_row :=
  fng_of (k := 0) F sc_is_row fun cdv A outer s H E hr gd => (dss_one (ds_ret (de_all rfl T.z_all (da_cons (de_lc (own := [("sign", 1)]) (t := (.nm 1)) rfl sc_is_row.nd (di_val (dv 0)) (blkOk_by (own := [("sign", 1)]) (N := N_is_row) (sc := defScope s_is_row) (by decide +kernel)) (by decide) (fun _ _ _ _ _ => (dtg_name (i := 1) sc_is_row.nd rfl (Or.inl rfl))) (fun _ _ _ _ _ => dts_nil) (fun _ _ _ _ _ => (de_in (hu65 hr) (dv 1) (T.g_LETTERS _ _ rfl)))) da_nil))))
theorem fn_check_words (F : Fun K "check_words" "check_words" s_check_words fa fd) (T : Txt K mg) (c_is_row : Cal P w K mg base "is_row" s_is_row 1 ["signs"] M_is_row)  : FnG P w K mg base 2 fa fd ["words"] M_check_words :=
  fng_of (k := 1) F sc_check_words fun cdv A outer s H E hr gd => (dss_cons (ds_for (passes_of rfl) rfl (di_enum T.z_enumerate (dv 0)) (dg_tup rfl (dgs_cons (dg_name (i := 1) sc_check_words.nd rfl (Or.inl rfl)) (dgs_cons (dg_name (i := 2) sc_check_words.nd rfl (Or.inl rfl)) dgs_nil))) (dss_one (ds_if (dt_w (dw_or (dt_not (dt_chain op_leD good_ord op_leD good_ord.toGood2 de_int (de_len  T.z_len (da_cons (dv 2) da_nil)) (T.g_MOST_LETTERS _ _ rfl))) (dw_or (dt_not (dt_val (dcall c_is_row hr (by decide) gd (takes_of rfl rfl rfl rfl) [.c] (da_cons (dv 2) da_nil)))) (dw_or1 (dt_in (hu65 hr) (dv 2) (de_cut (dv 0) do_none (do_some (dv 1)))))))) (dss_one ds_never) dss_nil)))
  (dss_one (ds_if (dt_not (dt_chain op_leD good_ord op_leD good_ord.toGood2 de_int (de_len  T.z_len (da_cons (dv 0) da_nil)) (T.g_MOST_WORDS _ _ rfl))) (dss_one ds_never) dss_nil)))
theorem fn_Stock_init (F : Fun K "__init__" "Stock.__init__" s_Stock_init fa fd) (T : Txt K mg) (c_check_words : Cal P w K mg base "check_words" s_check_words 2 ["words"] M_check_words)  : FnG P w K mg base 3 fa fd ["self", "words"] M_Stock_init :=
  fng_of (k := 2) F sc_Stock_init fun cdv A outer s H E hr gd => (dss_cons (ds_expr (dcall c_check_words hr (by decide) gd (takes_of rfl rfl rfl rfl) [.l] (da_cons (dv 1) da_nil)))
  (dss_one (ds_fld (j := 0) T.k_Stock (by decide) rfl (by first | exact Or.inl rfl | exact Or.inr (Or.inl rfl)) (de_tupOf T.z_tuple (da_cons (dv 1) da_nil)))))
theorem fn_law_known (F : Fun K "_law_known" "_law_known" s_law_known fa fd) (T : Txt K mg) (c_law_draw : Cal P w K mg base "_law_draw" s_law_draw 1 ["pool", "span"] M_law_draw)  : FnG P w K mg base 2 fa fd ["pool"] M_law_known :=
  fng_of (k := 1) F sc_law_known fun cdv A outer s H E hr gd => (dss_cons (ds_set (i := 1) sc_law_known.nd rfl (Or.inl rfl) (de_list (da_cons de_str (da_cons de_str (da_cons de_str (da_cons de_str (da_cons de_str (da_cons de_str (da_cons de_str (da_cons de_str (da_cons de_str da_nil)))))))))))
  (dss_cons (ds_set (i := 1) sc_law_known.nd rfl (Or.inl rfl) (de_add (dv 1) (de_list (da_cons de_str (da_cons de_str (da_cons de_str (da_cons de_str (da_cons de_str (da_cons de_str da_nil)))))))))
  (dss_cons (ds_set (i := 1) sc_law_known.nd rfl (Or.inl rfl) (de_add (dv 1) (de_list (da_cons de_str (da_cons de_str da_nil)))))
  (dss_one (ds_ret (de_split (de_at (dv 1) (dcall c_law_draw hr (by decide) gd (takes_of rfl rfl rfl rfl) [.p, .c] (da_cons (dv 0) (da_cons de_int da_nil)))) de_str))))))
theorem fn_law_lot (F : Fun K "_law_lot" "_law_lot" s_law_lot fa fd) (T : Txt K mg) (c_law_draw : Cal P w K mg base "_law_draw" s_law_draw 1 ["pool", "span"] M_law_draw) (c_law_word : Cal P w K mg base "_law_word" s_law_word 2 ["pool", "widest", "signs"] M_law_word)  : FnG P w K mg base 3 fa fd ["pool", "many", "widest"] M_law_lot :=
  fng_of (k := 2) F sc_law_lot fun cdv A outer s H E hr gd => (dss_cons (ds_set (i := 3) sc_law_lot.nd rfl (Or.inl rfl) (de_at (de_list (da_cons de_str (da_cons de_str (da_cons de_str (da_cons de_str (da_cons de_str da_nil)))))) (dcall c_law_draw hr (by decide) gd (takes_of rfl rfl rfl rfl) [.p, .c] (da_cons (dv 0) (da_cons de_int da_nil)))))
  (dss_cons (ds_set (i := 4) sc_law_lot.nd rfl (Or.inl rfl) (de_list da_nil))
  (dss_cons (ds_for (passes_of rfl) rfl (di_range1 T.z_range (de_add de_int (dcall c_law_draw hr (by decide) gd (takes_of rfl rfl rfl rfl) [.p, .l] (da_cons (dv 0) (da_cons (dv 1) da_nil))))) (dg_name (i := 5) sc_law_lot.nd rfl (Or.inl rfl)) (dss_cons (ds_par2 (i := 6) (j := 7) rfl sc_law_lot.nd rfl rfl (by decide) rfl rfl (da_cons (dcall c_law_word hr (by decide) gd (takes_of rfl rfl rfl rfl) [.p, .l, .c] (da_cons (dv 0) (da_cons (dv 2) (da_cons (dv 3) da_nil)))) (da_cons (dcall c_law_draw hr (by decide) gd (takes_of rfl rfl rfl rfl) [.p, .c] (da_cons (dv 0) (da_cons de_int da_nil))) da_nil)))
  (dss_cons (ds_if (dt_w (dw_and (dt_ne (hu64 hr) (dv 4) (de_list da_nil)) (dw_and1 (dt_lt  (dv 7) de_int)))) (dss_cons (ds_par2 (i := 8) (j := 9) rfl sc_law_lot.nd rfl rfl (by decide) rfl rfl (da_cons (de_at (dv 4) (dcall c_law_draw hr (by decide) gd (takes_of rfl rfl rfl rfl) [.p, .c] (da_cons (dv 0) (da_cons (de_len  T.z_len (da_cons (dv 4) da_nil)) da_nil)))) (da_cons (de_at (dv 4) (dcall c_law_draw hr (by decide) gd (takes_of rfl rfl rfl rfl) [.p, .c] (da_cons (dv 0) (da_cons (de_len  T.z_len (da_cons (dv 4) da_nil)) da_nil)))) da_nil)))
  (dss_cons (ds_set (i := 10) sc_law_lot.nd rfl (Or.inl rfl) (de_add de_int (dcall c_law_draw hr (by decide) gd (takes_of rfl rfl rfl rfl) [.p, .c] (da_cons (dv 0) (da_cons (de_len  T.z_len (da_cons (dv 8) da_nil)) da_nil)))))
  (dss_one (ds_set (i := 6) sc_law_lot.nd rfl (Or.inl rfl) (de_at (de_list (da_cons (de_add (dv 8) (dv 9)) (da_cons (de_cut (dv 8) do_none (do_some (dv 10))) (da_cons (de_add (de_cut (dv 8) (do_some (de_sub (dv 10) de_int)) do_none) (de_cut (dv 9) do_none (do_some de_int))) da_nil)))) (dv 7)))))) dss_nil)
  (dss_one (ds_if (dt_w (dw_and (dt_le  (de_len  T.z_len (da_cons (dv 6) da_nil)) (dv 2)) (dw_and1 (dt_nin (hu65 hr) (dv 6) (dv 4))))) (dss_one (ds_append (j := 4) rfl (by first | exact Or.inl rfl | exact Or.inr (Or.inl rfl)) (dv 6))) dss_nil)))))
  (dss_one (ds_ret (dv 4))))))
theorem fn_check_text (F : Fun K "check_text" "check_text" s_check_text fa fd) (T : Txt K mg) (c_is_row : Cal P w K mg base "is_row" s_is_row 1 ["signs"] M_is_row)  : FnG P w K mg base 2 fa fd ["text"] M_check_text :=
  fng_of (k := 1) F sc_check_text fun cdv A outer s H E hr gd => (dss_one (ds_if (dt_not (dt_val (dcall c_is_row hr (by decide) gd (takes_of rfl rfl rfl rfl) [.l] (da_cons (dv 0) da_nil)))) (dss_one ds_never) dss_nil))
theorem fn_count_readings (F : Fun K "count_readings" "count_readings" s_count_readings fa fd) (T : Txt K mg) (c_ways_behind : Cal P w K mg base "ways_behind" s_ways_behind 1 ["words", "text"] M_ways_behind) (c_check_text : Cal P w K mg base "check_text" s_check_text 2 ["text"] M_check_text)  : FnG P w K mg base 3 fa fd ["stock", "text"] M_count_readings :=
  fng_of (k := 2) F sc_count_readings fun cdv A outer s H E hr gd => (dss_cons (ds_expr (dcall c_check_text hr (by decide) gd (takes_of rfl rfl rfl rfl) [.c] (da_cons (dv 1) da_nil)))
  (dss_one (ds_ret (de_at (dcall c_ways_behind hr (by decide) gd (takes_of rfl rfl rfl rfl) [.c, .l] (da_cons (de_fld T.k_Stock (by decide) (dv 0)) (da_cons (dv 1) da_nil))) de_int))))
theorem fn_starts_of (F : Fun K "starts_of" "starts_of" s_starts_of fa fd) (T : Txt K mg)   : FnG P w K mg base 1 fa fd ["words"] M_starts_of :=
  fng_of (k := 0) F sc_starts_of fun cdv A outer s H E hr gd => (dss_cons (ds_set (i := 1) sc_starts_of.nd rfl (Or.inl rfl) (de_list da_nil))
  (dss_cons (ds_for (passes_of rfl) rfl (di_enum T.z_enumerate (dv 0)) (dg_tup rfl (dgs_cons (dg_name (i := 2) sc_starts_of.nd rfl (Or.inl rfl)) (dgs_cons (dg_name (i := 3) sc_starts_of.nd rfl (Or.inl rfl)) dgs_nil))) (dss_one (ds_for (passes_of rfl) rfl (di_enum T.z_enumerate (dv 0)) (dg_tup rfl (dgs_cons (dg_name (i := 4) sc_starts_of.nd rfl (Or.inl rfl)) (dgs_cons (dg_name (i := 5) sc_starts_of.nd rfl (Or.inl rfl)) dgs_nil))) (dss_one (ds_if (dt_w (dw_and (dt_ne (hu64 hr) (dv 2) (dv 4)) (dw_and1 (dt_eq (hu64 hr) (de_cut (dv 5) do_none (do_some (de_len  T.z_len (da_cons (dv 3) da_nil)))) (dv 3))))) (dss_one (ds_append (j := 1) rfl (by first | exact Or.inl rfl | exact Or.inr (Or.inl rfl)) (de_tup (da_cons (dv 2) (da_cons (dv 4) (da_cons (de_cut (dv 5) (do_some (de_len  T.z_len (da_cons (dv 3) da_nil))) do_none) da_nil)))))) dss_nil)))))
  (dss_one (ds_ret (dv 1)))))
theorem fn_steps_of (F : Fun K "steps_of" "steps_of" s_steps_of fa fd) (T : Txt K mg)   : FnG P w K mg base 1 fa fd ["words", "rest"] M_steps_of :=
  fng_of (k := 0) F sc_steps_of fun cdv A outer s H E hr gd => (dss_cons (ds_set (i := 2) sc_steps_of.nd rfl (Or.inl rfl) (de_list da_nil))
  (dss_cons (ds_for (passes_of rfl) rfl (di_enum T.z_enumerate (dv 0)) (dg_tup rfl (dgs_cons (dg_name (i := 3) sc_steps_of.nd rfl (Or.inl rfl)) (dgs_cons (dg_name (i := 4) sc_steps_of.nd rfl (Or.inl rfl)) dgs_nil))) (dss_one (ds_if (dt_eq (hu64 hr) (de_cut (dv 1) do_none (do_some (de_len  T.z_len (da_cons (dv 4) da_nil)))) (dv 4)) (dss_one (ds_append (j := 2) rfl (by first | exact Or.inl rfl | exact Or.inr (Or.inl rfl)) (de_tup (da_cons (dv 3) (da_cons (de_cut (dv 1) (do_some (de_len  T.z_len (da_cons (dv 4) da_nil))) do_none) (da_cons de_bl da_nil)))))) (dss_one (ds_if (dt_eq (hu64 hr) (de_cut (dv 4) do_none (do_some (de_len  T.z_len (da_cons (dv 1) da_nil)))) (dv 1)) (dss_one (ds_append (j := 2) rfl (by first | exact Or.inl rfl | exact Or.inr (Or.inl rfl)) (de_tup (da_cons (dv 3) (da_cons (de_cut (dv 4) (do_some (de_len  T.z_len (da_cons (dv 1) da_nil))) do_none) (da_cons de_bl da_nil)))))) dss_nil)))))
  (dss_one (ds_ret (dv 2)))))
theorem fn_rests_from (F : Fun K "rests_from" "rests_from" s_rests_from fa fd) (T : Txt K mg) (c_starts_of : Cal P w K mg base "starts_of" s_starts_of 1 ["words"] M_starts_of) (c_steps_of : Cal P w K mg base "steps_of" s_steps_of 1 ["words", "rest"] M_steps_of)  : FnG P w K mg base 2 fa fd ["words"] M_rests_from :=
  fng_of (k := 1) F sc_rests_from fun cdv A outer s H E hr gd => (dss_cons (ds_setLc (i := 1) (own := [("one", 2), ("other", 3), ("rest", 4)]) (t := (.tp [(.nm 2), (.nm 3), (.nm 4)])) rfl sc_rests_from.nd rfl rfl (sw_true rfl rfl rfl (by decide +kernel)) (di_val (dcall c_starts_of hr (by decide) gd (takes_of rfl rfl rfl rfl) [.l] (da_cons (dv 0) da_nil))) (blkOk_by (own := [("one", 2), ("other", 3), ("rest", 4)]) (N := N_rests_from) (sc := defScope s_rests_from) (by decide +kernel)) (by decide) (fun _ _ _ _ _ => (dtg_tup rfl (dtgs_cons (dtg_name (i := 2) sc_rests_from.nd rfl (Or.inl rfl)) (dtgs_cons (dtg_name (i := 3) sc_rests_from.nd rfl (Or.inl rfl)) (dtgs_cons (dtg_name (i := 4) sc_rests_from.nd rfl (Or.inl rfl)) dtgs_nil))))) (fun _ _ _ _ _ => dts_nil) (fun _ _ _ _ _ => (dv 4)))
  (dss_cons (ds_set (i := 5) sc_rests_from.nd rfl (Or.inl rfl) (de_list da_nil))
  (dss_cons (ds_while (passes_of rfl) (dt_ne (hu64 hr) (dv 1) (de_list da_nil)) (dss_cons (ds_set (i := 4) sc_rests_from.nd rfl (Or.inl rfl) (de_pop (j := 1) rfl (by first | exact Or.inl rfl | exact Or.inr (Or.inl rfl) | exact Or.inr (Or.inr rfl))))
  (dss_one (ds_if (dt_nin (hu65 hr) (dv 4) (dv 5)) (dss_cons (ds_append (j := 5) rfl (by first | exact Or.inl rfl | exact Or.inr (Or.inl rfl)) (dv 4))
  (dss_one (ds_if (dt_ne (hu64 hr) (dv 4) de_str) (dss_one (ds_set (i := 1) sc_rests_from.nd rfl (Or.inl rfl) (de_add (dv 1) (de_lc (own := [("number", 6), ("later", 7), ("leads", 8)]) (t := (.tp [(.nm 6), (.nm 7), (.nm 8)])) rfl sc_rests_from.nd (di_val (dcall c_steps_of hr (by decide) gd (takes_of rfl rfl rfl rfl) [.l, .c] (da_cons (dv 0) (da_cons (dv 4) da_nil)))) (blkOk_by (own := [("number", 6), ("later", 7), ("leads", 8)]) (N := N_rests_from) (sc := defScope s_rests_from) (by decide +kernel)) (by decide) (fun _ _ _ _ _ => (dtg_tup rfl (dtgs_cons (dtg_name (i := 6) sc_rests_from.nd rfl (Or.inl rfl)) (dtgs_cons (dtg_name (i := 7) sc_rests_from.nd rfl (Or.inl rfl)) (dtgs_cons (dtg_name (i := 8) sc_rests_from.nd rfl (Or.inl rfl)) dtgs_nil))))) (fun _ _ _ _ _ => dts_nil) (fun _ _ _ _ _ => (dv 7)))))) dss_nil))) dss_nil))))
  (dss_one (ds_ret (de_sorted T.z_sorted (da_cons (dv 5) da_nil)))))))
theorem fn_is_one_way (F : Fun K "is_one_way" "is_one_way" s_is_one_way fa fd) (T : Txt K mg) (c_rests_from : Cal P w K mg base "rests_from" s_rests_from 2 ["words"] M_rests_from)  : FnG P w K mg base 3 fa fd ["stock"] M_is_one_way :=
  fng_of (k := 2) F sc_is_one_way fun cdv A outer s H E hr gd => (dss_one (ds_ret (de_nin (hu65 hr) de_str (dcall c_rests_from hr (by decide) gd (takes_of rfl rfl rfl rfl) [.c] (da_cons (de_fld T.k_Stock (by decide) (dv 0)) da_nil)))))
theorem fn_is_text (F : Fun K "is_text" "is_text" s_is_text fa fd) (T : Txt K mg) (c_count_readings : Cal P w K mg base "count_readings" s_count_readings 3 ["stock", "text"] M_count_readings)  : FnG P w K mg base 4 fa fd ["stock", "text"] M_is_text :=
  fng_of (k := 3) F sc_is_text fun cdv A outer s H E hr gd => (dss_one (ds_ret (de_gt  (dcall c_count_readings hr (by decide) gd (takes_of rfl rfl rfl rfl) [.c, .c] (da_cons (dv 0) (da_cons (dv 1) da_nil))) de_int)))
theorem fn_nth_reading (F : Fun K "nth_reading" "nth_reading" s_nth_reading fa fd) (T : Txt K mg) (c_ways_behind : Cal P w K mg base "ways_behind" s_ways_behind 1 ["words", "text"] M_ways_behind) (c_steps_from : Cal P w K mg base "steps_from" s_steps_from 1 ["words", "text", "place", "ways"] M_steps_from) (c_check_text : Cal P w K mg base "check_text" s_check_text 2 ["text"] M_check_text)  : FnG P w K mg base 3 fa fd ["stock", "text", "index"] M_nth_reading :=
  fng_of (k := 2) F sc_nth_reading fun cdv A outer s H E hr gd => (dss_cons (ds_expr (dcall c_check_text hr (by decide) gd (takes_of rfl rfl rfl rfl) [.c] (da_cons (dv 1) da_nil)))
  (dss_cons (ds_set (i := 3) sc_nth_reading.nd rfl (Or.inl rfl) (dcall c_ways_behind hr (by decide) gd (takes_of rfl rfl rfl rfl) [.c, .l] (da_cons (de_fld T.k_Stock (by decide) (dv 0)) (da_cons (dv 1) da_nil))))
  (dss_cons (ds_if (dt_not (dt_chain op_leD good_ord op_ltD good_ord.toGood2 de_int (dv 2) (de_at (dv 3) de_int))) (dss_one ds_never) dss_nil)
  (dss_cons (ds_par3 (i := 4) (j := 5) (l := 6) rfl sc_nth_reading.nd rfl rfl rfl (by decide) (by decide) (by decide) rfl rfl rfl (da_cons (de_list da_nil) (da_cons de_int (da_cons (dv 2) da_nil))))
  (dss_cons (ds_while (passes_of rfl) (dt_lt  (dv 5) (de_len  T.z_len (da_cons (dv 1) da_nil))) (dss_cons (ds_for (passes_of rfl) rfl (di_val (dcall c_steps_from hr (by decide) gd (takes_of rfl rfl rfl rfl) [.c, .l, .c, .c] (da_cons (de_fld T.k_Stock (by decide) (dv 0)) (da_cons (dv 1) (da_cons (dv 5) (da_cons (dv 3) da_nil)))))) (dg_tup rfl (dgs_cons (dg_name (i := 7) sc_nth_reading.nd rfl (Or.inl rfl)) (dgs_cons (dg_name (i := 8) sc_nth_reading.nd rfl (Or.inl rfl)) dgs_nil))) (dss_cons (ds_if (dt_lt  (dv 6) (dv 8)) (dss_cons (ds_append (j := 4) rfl (by first | exact Or.inl rfl | exact Or.inr (Or.inl rfl)) (dv 7))
  (dss_one ds_break)) dss_nil)
  (dss_one (ds_aug (i := 6) sc_nth_reading.nd rfl (Or.inl rfl) iop_sub good_sub (dv 8)))))
  (dss_one (ds_aug (i := 5) sc_nth_reading.nd rfl (Or.inl rfl) ip_addD good_iadd (de_len  T.z_len (da_cons (de_at (de_fld T.k_Stock (by decide) (dv 0)) (de_at (dv 4) (de_neg de_int))) da_nil))))))
  (dss_one (ds_ret (dv 4))))))))
theorem fn_with_word (F : Fun K "with_word" "with_word" s_with_word fa fd) (T : Txt K mg) (c_Stock_init : CalM P w K mg base "Stock" 3 ["self", "words"] M_Stock_init)  : FnG P w K mg base 5 fa fd ["stock", "word"] M_with_word :=
  fng_of (k := 4) F sc_with_word fun cdv A outer s H E hr gd => (dss_one (ds_ret (de_make c_Stock_init hr (by decide) gd (takes_of rfl rfl rfl rfl) (da_cons (de_listS (das_star (de_fld T.k_Stock (by decide) (dv 0)) (das_one (dv 1) das_nil))) da_nil))))
theorem fn_law_fits_k09 (F : Fun K "_law_fits" "_law_fits" s_law_fits_k09 fa fd) (T : Txt K mg) (c_joined : Cal P w K mg base "joined" s_joined 2 ["stock", "reading"] M_joined) (c_reading_index : Cal P w K mg base "reading_index" s_reading_index 3 ["stock", "reading"] M_reading_index) (c_law_draw : Cal P w K mg base "_law_draw" s_law_draw 1 ["pool", "span"] M_law_draw) (c_law_word : Cal P w K mg base "_law_word" s_law_word 2 ["pool", "widest", "signs"] M_law_word) (c_Stock_init : CalM P w K mg base "Stock" 3 ["self", "words"] M_Stock_init) (c_law_known : Cal P w K mg base "_law_known" s_law_known 2 ["pool"] M_law_known) (c_law_lot : Cal P w K mg base "_law_lot" s_law_lot 3 ["pool", "many", "widest"] M_law_lot) (c_count_readings : Cal P w K mg base "count_readings" s_count_readings 3 ["stock", "text"] M_count_readings) (c_is_one_way : Cal P w K mg base "is_one_way" s_is_one_way 3 ["stock"] M_is_one_way) (c_is_text : Cal P w K mg base "is_text" s_is_text 4 ["stock", "text"] M_is_text) (c_nth_reading : Cal P w K mg base "nth_reading" s_nth_reading 3 ["stock", "text", "index"] M_nth_reading) (c_with_word : Cal P w K mg base "with_word" s_with_word 5 ["stock", "word"] M_with_word)  : FnG P w K mg base 6 fa fd ["pool"] M_law_fits_k09 :=
  fng_of (k := 5) F sc_law_fits_k09 fun cdv A outer s H E hr gd => (dss_cons (ds_set (i := 1) sc_law_fits_k09.nd rfl (Or.inr rfl) (de_if (dt_eq (hu64 hr) (dcall c_law_draw hr (by decide) gd (takes_of rfl rfl rfl rfl) [.p, .c] (da_cons (dv 0) (da_cons de_int da_nil))) de_int) (dcall c_law_known hr (by decide) gd (takes_of rfl rfl rfl rfl) [.p] (da_cons (dv 0) da_nil)) (dcall c_law_lot hr (by decide) gd (takes_of rfl rfl rfl rfl) [.p, .c, .c] (da_cons (dv 0) (da_cons de_int (da_cons de_int da_nil))))))
  (dss_cons (ds_parT2 (i := 2) (j := 3) rfl sc_law_fits_k09.nd rfl rfl (Or.inr rfl) (Or.inl rfl) (da_cons (de_make c_Stock_init hr (by decide) gd (takes_of rfl rfl rfl rfl) (da_cons (dv 1) da_nil)) (da_cons (de_list da_nil) da_nil)))
  (dss_cons (ds_for (passes_of rfl) rfl (di_range1 T.z_range de_int) (dg_name (i := 4) sc_law_fits_k09.nd rfl (Or.inl rfl)) (dss_one (ds_append (j := 3) rfl (by first | exact Or.inl rfl | exact Or.inr (Or.inl rfl)) (de_lc (own := [("step", 5)]) (t := (.nm 5)) rfl sc_law_fits_k09.nd (di_range1 T.z_range (dcall c_law_draw hr (by decide) gd (takes_of rfl rfl rfl rfl) [.p, .c] (da_cons (dv 0) (da_cons de_int da_nil)))) (blkOk_by (own := [("step", 5)]) (N := N_law_fits_k09) (sc := defScope s_law_fits_k09) (by decide +kernel)) (by decide) (fun _ _ _ _ _ => (dtg_name (i := 5) sc_law_fits_k09.nd rfl (Or.inl rfl))) (fun _ _ _ _ _ => dts_nil) (fun _ _ _ _ _ => (dcall c_law_draw hr (by decide) gd takes0 [.p, .c] (da_cons (dv 0) (da_cons (de_len  T.z_len (da_cons (dv 1) da_nil)) da_nil))))))))
  (dss_cons (ds_setLc (i := 6) (own := [("row", 7)]) (t := (.nm 7)) rfl sc_law_fits_k09.nd rfl rfl (sw_true rfl rfl rfl (by decide +kernel)) (di_val (dv 3)) (blkOk_by (own := [("row", 7)]) (N := N_law_fits_k09) (sc := defScope s_law_fits_k09) (by decide +kernel)) (by decide) (fun _ _ _ _ _ => (dtg_name (i := 7) sc_law_fits_k09.nd rfl (Or.inl rfl))) (fun _ _ _ _ _ => dts_nil) (fun _ _ _ _ _ => (dcall c_joined hr (by decide) gd takes0 [.c, .c] (da_cons (dv 2) (da_cons (dv 7) da_nil)))))
  (dss_cons (ds_setLc (i := 8) (own := [("line", 9)]) (t := (.nm 9)) rfl sc_law_fits_k09.nd rfl rfl (sw_true rfl rfl rfl (by decide +kernel)) (di_val (dv 6)) (blkOk_by (own := [("line", 9)]) (N := N_law_fits_k09) (sc := defScope s_law_fits_k09) (by decide +kernel)) (by decide) (fun _ _ _ _ _ => (dtg_name (i := 9) sc_law_fits_k09.nd rfl (Or.inl rfl))) (fun _ _ _ _ _ => dts_nil) (fun _ _ _ _ _ => (dcall c_count_readings hr (by decide) gd takes0 [.c, .c] (da_cons (dv 2) (da_cons (dv 9) da_nil)))))
  (dss_cons (ds_set (i := 10) sc_law_fits_k09.nd rfl (Or.inl rfl) (dcall c_joined hr (by decide) gd (takes_of rfl rfl rfl rfl) [.c, .c] (da_cons (dv 2) (da_cons (de_add (de_at (dv 3) de_int) (de_at (dv 3) de_int)) da_nil))))
  (dss_cons (ds_par2 (i := 11) (j := 12) rfl sc_law_fits_k09.nd rfl rfl (by decide) rfl rfl (da_cons (de_mul (de_at (dv 8) de_int) (de_at (dv 8) de_int)) (da_cons (dcall c_count_readings hr (by decide) gd (takes_of rfl rfl rfl rfl) [.c, .c] (da_cons (dv 2) (da_cons (dv 10) da_nil))) da_nil)))
  (dss_cons (ds_if (dt_w (dw_or (dt_ne (hu64 hr) (dv 10) (de_add (de_at (dv 6) de_int) (de_at (dv 6) de_int))) (dw_or (dt_lt  (dv 12) (dv 11)) (dw_or1 (dt_not (dt_val (dcall c_is_text hr (by decide) gd (takes_of rfl rfl rfl rfl) [.c, .c] (da_cons (dv 2) (da_cons (dv 10) da_nil))))))))) (dss_one (ds_ret de_bl)) dss_nil)
  (dss_cons (ds_if (dt_w (dw_and (dt_val (dcall c_is_one_way hr (by decide) gd (takes_of rfl rfl rfl rfl) [.c] (da_cons (dv 2) da_nil))) (dw_and1 (dt_ne (hu64 hr) (de_list (da_cons (dv 12) (da_cons (dv 11) da_nil))) (de_list (da_cons de_int (da_cons de_int da_nil))))))) (dss_one (ds_ret de_bl)) dss_nil)
  (dss_cons (ds_set (i := 13) sc_law_fits_k09.nd rfl (Or.inl rfl) (dcall c_reading_index hr (by decide) gd (takes_of rfl rfl rfl rfl) [.c, .c] (da_cons (dv 2) (da_cons (de_add (de_at (dv 3) de_int) (de_at (dv 3) de_int)) da_nil))))
  (dss_cons (ds_if (dt_w (dw_or (dt_not (dt_chain op_leD good_ord op_ltD good_ord.toGood2 de_int (dv 13) (dv 12))) (dw_or1 (dt_ne (hu64 hr) (dcall c_nth_reading hr (by decide) gd (takes_of rfl rfl rfl rfl) [.c, .c, .c] (da_cons (dv 2) (da_cons (dv 10) (da_cons (dv 13) da_nil)))) (de_add (de_at (dv 3) de_int) (de_at (dv 3) de_int)))))) (dss_one (ds_ret de_bl)) dss_nil)
  (dss_cons (ds_set (i := 14) sc_law_fits_k09.nd rfl (Or.inl rfl) (dcall c_law_word hr (by decide) gd (takes_of rfl rfl rfl rfl) [.p, .c, .c] (da_cons (dv 0) (da_cons de_int (da_cons de_str da_nil)))))
  (dss_cons (ds_if (dt_w (dw_and (dt_nin (hu65 hr) (dv 14) (dv 1)) (dw_and1 (dt_lt  (dcall c_count_readings hr (by decide) gd (takes_of rfl rfl rfl rfl) [.c, .c] (da_cons (dcall c_with_word hr (by decide) gd (takes_of rfl rfl rfl rfl) [.c, .c] (da_cons (dv 2) (da_cons (dv 14) da_nil))) (da_cons (dv 10) da_nil))) (dv 12))))) (dss_one (ds_ret de_bl)) dss_nil)
  (dss_cons (ds_set (i := 15) sc_law_fits_k09.nd rfl (Or.inl rfl) (de_make c_Stock_init hr (by decide) gd (takes_of rfl rfl rfl rfl) (da_cons (de_lc (own := [("step", 5)]) (t := (.nm 5)) rfl sc_law_fits_k09.nd (di_val (dv 1)) (blkOk_by (own := [("step", 5)]) (N := N_law_fits_k09) (sc := defScope s_law_fits_k09) (by decide +kernel)) (by decide) (fun _ _ _ _ _ => (dtg_name (i := 5) sc_law_fits_k09.nd rfl (Or.inl rfl))) (fun _ _ _ _ _ => dts_nil) (fun _ _ _ _ _ => (de_rev (dv 5)))) da_nil)))
  (dss_cons (ds_if (dt_w (dw_or (dt_ne (hu64 hr) (dcall c_count_readings hr (by decide) gd (takes_of rfl rfl rfl rfl) [.c, .c] (da_cons (dv 15) (da_cons (de_rev (dv 10)) da_nil))) (dv 12)) (dw_or1 (dt_ne (hu64 hr) (dcall c_is_one_way hr (by decide) gd (takes_of rfl rfl rfl rfl) [.c] (da_cons (dv 15) da_nil)) (dcall c_is_one_way hr (by decide) gd (takes_of rfl rfl rfl rfl) [.c] (da_cons (dv 2) da_nil)))))) (dss_one (ds_ret de_bl)) dss_nil)
  (dss_one (ds_ret (de_eq (hu64 hr) (dcall c_count_readings hr (by decide) gd (takes_of rfl rfl rfl rfl) [.c, .c] (da_cons (de_make c_Stock_init hr (by decide) gd (takes_of rfl rfl rfl rfl) (da_cons (de_rev (dv 1)) da_nil)) (da_cons (dv 10) da_nil))) (dv 12)))))))))))))))))))
theorem fn_law_k09 (F : Fun K "law" "law" s_law_k09 fa fd) (T : Txt K mg) (c_law_pool : Cal P w K mg base "_law_pool" s_law_pool 1 ["script", "spot"] M_law_pool) (c_law_fits_k09 : Cal P w K mg base "_law_fits" s_law_fits_k09 6 ["pool"] M_law_fits_k09)  : FnG P w K mg base 7 fa fd ["script"] M_law_k09 :=
  fng_of (k := 6) F sc_law_k09 fun cdv A outer s H E hr gd => (dss_cons (ds_for (passes_of rfl) rfl (di_range1 T.z_range (de_max2 rfl T.z_max (da_cons de_int (da_cons (de_min2 rfl T.z_min (da_cons de_int (da_cons (de_len  T.z_len (da_cons (dv 0) da_nil)) da_nil))) da_nil)))) (dg_name (i := 1) sc_law_k09.nd rfl (Or.inl rfl)) (dss_cons (ds_set (i := 2) sc_law_k09.nd rfl (Or.inl rfl) (dcall c_law_pool hr (by decide) gd (takes_of rfl rfl rfl rfl) [.l, .c] (da_cons (dv 0) (da_cons (dv 1) da_nil))))
  (dss_one (ds_for (passes_of rfl) rfl (di_range1 T.z_range de_int) (dg_name (i := 3) sc_law_k09.nd rfl (Or.inl rfl)) (dss_one (ds_if (dt_not (dt_val (dcall c_law_fits_k09 hr (by decide) gd (takes_of rfl rfl rfl rfl) [.p] (da_cons (dv 2) da_nil)))) (dss_one (ds_ret de_bl)) dss_nil))))))
  (dss_one (ds_ret de_bl)))
end
theorem plain : Holds M_law_k09 63 := plain_k09
theorem all_mk {l : PySem.W.OpenLaw} {w : World} {K : PySem.W.Frag} {h : Heap} {mg : Str → Option Value} {fa f1 f2 f3 f4 f5 f6 f7 f8 f9 f10 f11 f12 f13 f14 f15 f16 f17 f18 f19 f20 f21 f22 f23 f24 : Addr} (X : K.In h) (G : h.Ns mainGlobals mg) (hfa : mg "law" = some (.ref fa))
    {od1 an1 od2 an2 od3 an3 od4 an4 od5 an5 od6 an6 od7 an7 od8 an8 od9 an9 od10 an10 od11 an11 od12 an12 od13 an13 od14 an14 od15 an15 od16 an16 od17 an17 od18 an18 od19 an19 od20 an20 od21 an21 od22 an22 od23 an23 od24 an24 : Option Addr} {sl1 sl2 sl3 sl4 sl5 sl6 sl7 sl8 sl9 sl10 sl11 sl12 sl13 sl14 sl15 sl16 sl17 sl18 sl19 sl20 sl21 sl22 sl23 sl24 : Array (Option Value)} {oc1 kV1 dc1 pm1 cd1 ct1 oc2 kV2 dc2 pm2 cd2 ct2 oc3 kV3 dc3 pm3 cd3 ct3 oc4 kV4 dc4 pm4 cd4 ct4 oc5 kV5 dc5 pm5 cd5 ct5 oc6 kV6 dc6 pm6 cd6 ct6 oc7 kV7 dc7 pm7 cd7 ct7 oc8 kV8 dc8 pm8 cd8 ct8 oc9 kV9 dc9 pm9 cd9 ct9 oc10 kV10 dc10 pm10 cd10 ct10 oc11 kV11 dc11 pm11 cd11 ct11 oc12 kV12 dc12 pm12 cd12 ct12 oc13 kV13 dc13 pm13 cd13 ct13 oc14 kV14 dc14 pm14 cd14 ct14 oc15 kV15 dc15 pm15 cd15 ct15 oc16 kV16 dc16 pm16 cd16 ct16 oc17 kV17 dc17 pm17 cd17 ct17 oc18 kV18 dc18 pm18 cd18 ct18 oc19 kV19 dc19 pm19 cd19 ct19 oc20 kV20 dc20 pm20 cd20 ct20 oc21 kV21 dc21 pm21 cd21 ct21 oc22 kV22 dc22 pm22 cd22 ct22 oc23 kV23 dc23 pm23 cd23 ct23 oc24 kV24 dc24 pm24 cd24 ct24 : Value}
    {t_LETTERS t_MOST_LETTERS t_MOST_WORDS : _}
    {C_Stock : Addr}
    (aC_Stock : PySem.W.nsIn K mainGlobals "Stock" = some (some (.ref C_Stock))) (pg_Stock : PySem.W.plainGet K C_Stock Str.empty = true) (hd_Stock : PySem.W.hasDictIn K C_Stock = true) (po_Stock : PySem.W.plainOver K C_Stock = true) (sa_Stock : PySem.W.findIn K (.ref C_Stock) "__setattr__" = some (some (.builtin "object.__setattr__")))
    (n_Stock_kept_words : PySem.W.findIn K (.ref C_Stock) "kept_words" = some none)
    (a1 : PySem.W.nsIn K mainGlobals "_law_pool" = some (some (.ref f1)))
    (l1 : K.lookup f1 = some ⟨oc1, od1, .func (PySem.W.fnOf "_law_pool" "_law_pool" (defArgs s_law_pool) (defBody s_law_pool) (defScope s_law_pool) .none kV1 dc1 pm1 an1 cd1 ct1), sl1⟩) (c1 : PySem.W.codeIn K cd1 "_law_pool" = true) (k1 : PySem.W.keepIn K (.ref f1) = true)
    (a2 : PySem.W.nsIn K mainGlobals "run_of" = some (some (.ref f2)))
    (l2 : K.lookup f2 = some ⟨oc2, od2, .func (PySem.W.fnOf "run_of" "run_of" (defArgs s_run_of) (defBody s_run_of) (defScope s_run_of) .none kV2 dc2 pm2 an2 cd2 ct2), sl2⟩) (c2 : PySem.W.codeIn K cd2 "run_of" = true) (k2 : PySem.W.keepIn K (.ref f2) = true)
    (a3 : PySem.W.nsIn K mainGlobals "joined" = some (some (.ref f3)))
    (l3 : K.lookup f3 = some ⟨oc3, od3, .func (PySem.W.fnOf "joined" "joined" (defArgs s_joined) (defBody s_joined) (defScope s_joined) .none kV3 dc3 pm3 an3 cd3 ct3), sl3⟩) (c3 : PySem.W.codeIn K cd3 "joined" = true) (k3 : PySem.W.keepIn K (.ref f3) = true)
    (a4 : PySem.W.nsIn K mainGlobals "ways_behind" = some (some (.ref f4)))
    (l4 : K.lookup f4 = some ⟨oc4, od4, .func (PySem.W.fnOf "ways_behind" "ways_behind" (defArgs s_ways_behind) (defBody s_ways_behind) (defScope s_ways_behind) .none kV4 dc4 pm4 an4 cd4 ct4), sl4⟩) (c4 : PySem.W.codeIn K cd4 "ways_behind" = true) (k4 : PySem.W.keepIn K (.ref f4) = true)
    (a5 : PySem.W.nsIn K mainGlobals "steps_from" = some (some (.ref f5)))
    (l5 : K.lookup f5 = some ⟨oc5, od5, .func (PySem.W.fnOf "steps_from" "steps_from" (defArgs s_steps_from) (defBody s_steps_from) (defScope s_steps_from) .none kV5 dc5 pm5 an5 cd5 ct5), sl5⟩) (c5 : PySem.W.codeIn K cd5 "steps_from" = true) (k5 : PySem.W.keepIn K (.ref f5) = true)
    (a6 : PySem.W.nsIn K mainGlobals "reading_index" = some (some (.ref f6)))
    (l6 : K.lookup f6 = some ⟨oc6, od6, .func (PySem.W.fnOf "reading_index" "reading_index" (defArgs s_reading_index) (defBody s_reading_index) (defScope s_reading_index) .none kV6 dc6 pm6 an6 cd6 ct6), sl6⟩) (c6 : PySem.W.codeIn K cd6 "reading_index" = true) (k6 : PySem.W.keepIn K (.ref f6) = true)
    (a7 : PySem.W.nsIn K mainGlobals "_law_draw" = some (some (.ref f7)))
    (l7 : K.lookup f7 = some ⟨oc7, od7, .func (PySem.W.fnOf "_law_draw" "_law_draw" (defArgs s_law_draw) (defBody s_law_draw) (defScope s_law_draw) .none kV7 dc7 pm7 an7 cd7 ct7), sl7⟩) (c7 : PySem.W.codeIn K cd7 "_law_draw" = true) (k7 : PySem.W.keepIn K (.ref f7) = true)
    (a8 : PySem.W.nsIn K mainGlobals "_law_word" = some (some (.ref f8)))
    (l8 : K.lookup f8 = some ⟨oc8, od8, .func (PySem.W.fnOf "_law_word" "_law_word" (defArgs s_law_word) (defBody s_law_word) (defScope s_law_word) .none kV8 dc8 pm8 an8 cd8 ct8), sl8⟩) (c8 : PySem.W.codeIn K cd8 "_law_word" = true) (k8 : PySem.W.keepIn K (.ref f8) = true)
    (a9 : PySem.W.nsIn K mainGlobals "is_row" = some (some (.ref f9)))
    (l9 : K.lookup f9 = some ⟨oc9, od9, .func (PySem.W.fnOf "is_row" "is_row" (defArgs s_is_row) (defBody s_is_row) (defScope s_is_row) .none kV9 dc9 pm9 an9 cd9 ct9), sl9⟩) (c9 : PySem.W.codeIn K cd9 "is_row" = true) (k9 : PySem.W.keepIn K (.ref f9) = true)
    (a10 : PySem.W.nsIn K mainGlobals "check_words" = some (some (.ref f10)))
    (l10 : K.lookup f10 = some ⟨oc10, od10, .func (PySem.W.fnOf "check_words" "check_words" (defArgs s_check_words) (defBody s_check_words) (defScope s_check_words) .none kV10 dc10 pm10 an10 cd10 ct10), sl10⟩) (c10 : PySem.W.codeIn K cd10 "check_words" = true) (k10 : PySem.W.keepIn K (.ref f10) = true)
    (a11 : PySem.W.findIn K (.ref C_Stock) "__init__" = some (some (.ref f11))) (i11 : PySem.W.isFn K (.ref f11) = true) (mk11 : PySem.W.makesIn K C_Stock = true) (kc11 : PySem.W.keepIn K (.ref C_Stock) = true)
    (l11 : K.lookup f11 = some ⟨oc11, od11, .func (PySem.W.fnOf "__init__" "Stock.__init__" (defArgs s_Stock_init) (defBody s_Stock_init) (defScope s_Stock_init) .none kV11 dc11 pm11 an11 cd11 ct11), sl11⟩) (c11 : PySem.W.codeIn K cd11 "Stock.__init__" = true) (k11 : PySem.W.keepIn K (.ref f11) = true)
    (a12 : PySem.W.nsIn K mainGlobals "_law_known" = some (some (.ref f12)))
    (l12 : K.lookup f12 = some ⟨oc12, od12, .func (PySem.W.fnOf "_law_known" "_law_known" (defArgs s_law_known) (defBody s_law_known) (defScope s_law_known) .none kV12 dc12 pm12 an12 cd12 ct12), sl12⟩) (c12 : PySem.W.codeIn K cd12 "_law_known" = true) (k12 : PySem.W.keepIn K (.ref f12) = true)
    (a13 : PySem.W.nsIn K mainGlobals "_law_lot" = some (some (.ref f13)))
    (l13 : K.lookup f13 = some ⟨oc13, od13, .func (PySem.W.fnOf "_law_lot" "_law_lot" (defArgs s_law_lot) (defBody s_law_lot) (defScope s_law_lot) .none kV13 dc13 pm13 an13 cd13 ct13), sl13⟩) (c13 : PySem.W.codeIn K cd13 "_law_lot" = true) (k13 : PySem.W.keepIn K (.ref f13) = true)
    (a14 : PySem.W.nsIn K mainGlobals "check_text" = some (some (.ref f14)))
    (l14 : K.lookup f14 = some ⟨oc14, od14, .func (PySem.W.fnOf "check_text" "check_text" (defArgs s_check_text) (defBody s_check_text) (defScope s_check_text) .none kV14 dc14 pm14 an14 cd14 ct14), sl14⟩) (c14 : PySem.W.codeIn K cd14 "check_text" = true) (k14 : PySem.W.keepIn K (.ref f14) = true)
    (a15 : PySem.W.nsIn K mainGlobals "count_readings" = some (some (.ref f15)))
    (l15 : K.lookup f15 = some ⟨oc15, od15, .func (PySem.W.fnOf "count_readings" "count_readings" (defArgs s_count_readings) (defBody s_count_readings) (defScope s_count_readings) .none kV15 dc15 pm15 an15 cd15 ct15), sl15⟩) (c15 : PySem.W.codeIn K cd15 "count_readings" = true) (k15 : PySem.W.keepIn K (.ref f15) = true)
    (a16 : PySem.W.nsIn K mainGlobals "starts_of" = some (some (.ref f16)))
    (l16 : K.lookup f16 = some ⟨oc16, od16, .func (PySem.W.fnOf "starts_of" "starts_of" (defArgs s_starts_of) (defBody s_starts_of) (defScope s_starts_of) .none kV16 dc16 pm16 an16 cd16 ct16), sl16⟩) (c16 : PySem.W.codeIn K cd16 "starts_of" = true) (k16 : PySem.W.keepIn K (.ref f16) = true)
    (a17 : PySem.W.nsIn K mainGlobals "steps_of" = some (some (.ref f17)))
    (l17 : K.lookup f17 = some ⟨oc17, od17, .func (PySem.W.fnOf "steps_of" "steps_of" (defArgs s_steps_of) (defBody s_steps_of) (defScope s_steps_of) .none kV17 dc17 pm17 an17 cd17 ct17), sl17⟩) (c17 : PySem.W.codeIn K cd17 "steps_of" = true) (k17 : PySem.W.keepIn K (.ref f17) = true)
    (a18 : PySem.W.nsIn K mainGlobals "rests_from" = some (some (.ref f18)))
    (l18 : K.lookup f18 = some ⟨oc18, od18, .func (PySem.W.fnOf "rests_from" "rests_from" (defArgs s_rests_from) (defBody s_rests_from) (defScope s_rests_from) .none kV18 dc18 pm18 an18 cd18 ct18), sl18⟩) (c18 : PySem.W.codeIn K cd18 "rests_from" = true) (k18 : PySem.W.keepIn K (.ref f18) = true)
    (a19 : PySem.W.nsIn K mainGlobals "is_one_way" = some (some (.ref f19)))
    (l19 : K.lookup f19 = some ⟨oc19, od19, .func (PySem.W.fnOf "is_one_way" "is_one_way" (defArgs s_is_one_way) (defBody s_is_one_way) (defScope s_is_one_way) .none kV19 dc19 pm19 an19 cd19 ct19), sl19⟩) (c19 : PySem.W.codeIn K cd19 "is_one_way" = true) (k19 : PySem.W.keepIn K (.ref f19) = true)
    (a20 : PySem.W.nsIn K mainGlobals "is_text" = some (some (.ref f20)))
    (l20 : K.lookup f20 = some ⟨oc20, od20, .func (PySem.W.fnOf "is_text" "is_text" (defArgs s_is_text) (defBody s_is_text) (defScope s_is_text) .none kV20 dc20 pm20 an20 cd20 ct20), sl20⟩) (c20 : PySem.W.codeIn K cd20 "is_text" = true) (k20 : PySem.W.keepIn K (.ref f20) = true)
    (a21 : PySem.W.nsIn K mainGlobals "nth_reading" = some (some (.ref f21)))
    (l21 : K.lookup f21 = some ⟨oc21, od21, .func (PySem.W.fnOf "nth_reading" "nth_reading" (defArgs s_nth_reading) (defBody s_nth_reading) (defScope s_nth_reading) .none kV21 dc21 pm21 an21 cd21 ct21), sl21⟩) (c21 : PySem.W.codeIn K cd21 "nth_reading" = true) (k21 : PySem.W.keepIn K (.ref f21) = true)
    (a22 : PySem.W.nsIn K mainGlobals "with_word" = some (some (.ref f22)))
    (l22 : K.lookup f22 = some ⟨oc22, od22, .func (PySem.W.fnOf "with_word" "with_word" (defArgs s_with_word) (defBody s_with_word) (defScope s_with_word) .none kV22 dc22 pm22 an22 cd22 ct22), sl22⟩) (c22 : PySem.W.codeIn K cd22 "with_word" = true) (k22 : PySem.W.keepIn K (.ref f22) = true)
    (a23 : PySem.W.nsIn K mainGlobals "_law_fits" = some (some (.ref f23)))
    (l23 : K.lookup f23 = some ⟨oc23, od23, .func (PySem.W.fnOf "_law_fits" "_law_fits" (defArgs s_law_fits_k09) (defBody s_law_fits_k09) (defScope s_law_fits_k09) .none kV23 dc23 pm23 an23 cd23 ct23), sl23⟩) (c23 : PySem.W.codeIn K cd23 "_law_fits" = true) (k23 : PySem.W.keepIn K (.ref f23) = true)
    (a24 : PySem.W.nsIn K mainGlobals "law" = some (some (.ref f24)))
    (l24 : K.lookup f24 = some ⟨oc24, od24, .func (PySem.W.fnOf "law" "law" (defArgs s_law_k09) (defBody s_law_k09) (defScope s_law_k09) .none kV24 dc24 pm24 an24 cd24 ct24), sl24⟩) (c24 : PySem.W.codeIn K cd24 "law" = true) (k24 : PySem.W.keepIn K (.ref f24) = true)
    (z_abs : PySem.W.nsIn K mainGlobals "abs" = some none)
    (z_all : PySem.W.nsIn K mainGlobals "all" = some none)
    (z_enumerate : PySem.W.nsIn K mainGlobals "enumerate" = some none)
    (z_int : PySem.W.nsIn K mainGlobals "int" = some none)
    (z_len : PySem.W.nsIn K mainGlobals "len" = some none)
    (z_list : PySem.W.nsIn K mainGlobals "list" = some none)
    (z_max : PySem.W.nsIn K mainGlobals "max" = some none)
    (z_min : PySem.W.nsIn K mainGlobals "min" = some none)
    (z_range : PySem.W.nsIn K mainGlobals "range" = some none)
    (z_sorted : PySem.W.nsIn K mainGlobals "sorted" = some none)
    (z_sum : PySem.W.nsIn K mainGlobals "sum" = some none)
    (z_tuple : PySem.W.nsIn K mainGlobals "tuple" = some none)
    (u_LETTERS : PySem.W.nsIn K mainGlobals "LETTERS" = some (some (.str "abcdefghijklmnopqrstuvwxyz" t_LETTERS)))
    (u_MOST_LETTERS : PySem.W.nsIn K mainGlobals "MOST_LETTERS" = some (some (.int 8 t_MOST_LETTERS)))
    (u_MOST_WORDS : PySem.W.nsIn K mainGlobals "MOST_WORDS" = some (some (.int 8 t_MOST_WORDS)))
    : ∃ fd : FuncData, (∀ (s : Shared) (v : Value), BindsTo s fd ⟨[v], []⟩ [("script", v)]) ∧ ∀ base : Heap, K.In base → base.Ns mainGlobals mg → FnG l.prog w K mg base 7 fa fd ["script"] M_law_k09 := by
  have e := hfa.symm.trans (PySem.W.mg_of X G a24)
  cases e
  have T : Txt K mg := ⟨PySem.W.mg_none_of X G z_abs, PySem.W.mg_none_of X G z_all, PySem.W.mg_none_of X G z_enumerate, PySem.W.mg_none_of X G z_int, PySem.W.mg_none_of X G z_len, PySem.W.mg_none_of X G z_list, PySem.W.mg_none_of X G z_max, PySem.W.mg_none_of X G z_min, PySem.W.mg_none_of X G z_range, PySem.W.mg_none_of X G z_sorted, PySem.W.mg_none_of X G z_sum, PySem.W.mg_none_of X G z_tuple, ⟨_, PySem.W.mg_of X G u_LETTERS⟩, ⟨_, PySem.W.mg_of X G u_MOST_LETTERS⟩, ⟨_, PySem.W.mg_of X G u_MOST_WORDS⟩, ⟨C_Stock, PySem.W.mg_of X G aC_Stock, ⟨pg_Stock, hd_Stock, po_Stock, sa_Stock⟩, List.forall_mem_cons.mpr ⟨n_Stock_kept_words, by simp⟩⟩⟩
  have F1 := fun_mk (st := s_law_pool) l1 c1 k1
  have F2 := fun_mk (st := s_run_of) l2 c2 k2
  have F3 := fun_mk (st := s_joined) l3 c3 k3
  have F4 := fun_mk (st := s_ways_behind) l4 c4 k4
  have F5 := fun_mk (st := s_steps_from) l5 c5 k5
  have F6 := fun_mk (st := s_reading_index) l6 c6 k6
  have F7 := fun_mk (st := s_law_draw) l7 c7 k7
  have F8 := fun_mk (st := s_law_word) l8 c8 k8
  have F9 := fun_mk (st := s_is_row) l9 c9 k9
  have F10 := fun_mk (st := s_check_words) l10 c10 k10
  have F11 := fun_mk (st := s_Stock_init) l11 c11 k11
  have F12 := fun_mk (st := s_law_known) l12 c12 k12
  have F13 := fun_mk (st := s_law_lot) l13 c13 k13
  have F14 := fun_mk (st := s_check_text) l14 c14 k14
  have F15 := fun_mk (st := s_count_readings) l15 c15 k15
  have F16 := fun_mk (st := s_starts_of) l16 c16 k16
  have F17 := fun_mk (st := s_steps_of) l17 c17 k17
  have F18 := fun_mk (st := s_rests_from) l18 c18 k18
  have F19 := fun_mk (st := s_is_one_way) l19 c19 k19
  have F20 := fun_mk (st := s_is_text) l20 c20 k20
  have F21 := fun_mk (st := s_nth_reading) l21 c21 k21
  have F22 := fun_mk (st := s_with_word) l22 c22 k22
  have F23 := fun_mk (st := s_law_fits_k09) l23 c23 k23
  have F24 := fun_mk (st := s_law_k09) l24 c24 k24
  refine ⟨PySem.W.fnOf "law" "law" (defArgs s_law_k09) (defBody s_law_k09) (defScope s_law_k09) .none kV24 dc24 pm24 an24 cd24 ct24, fun s v => .of_eq rfl, fun base _ _ => ?_⟩
  have c_law_pool : Cal l.prog w K mg base "_law_pool" s_law_pool 1 ["script", "spot"] M_law_pool := ⟨⟨_, _, F1, PySem.W.mg_of X G a1, fn_law_pool F1 T , F1.binds (ps := ["script", "spot"]) fun _ _ _ _ _ _ us hl => match us, hl with | [_, _], _ => rfl⟩⟩
  have c_run_of : Cal l.prog w K mg base "run_of" s_run_of 1 ["stock", "reading"] M_run_of := ⟨⟨_, _, F2, PySem.W.mg_of X G a2, fn_run_of F2 T , F2.binds (ps := ["stock", "reading"]) fun _ _ _ _ _ _ us hl => match us, hl with | [_, _], _ => rfl⟩⟩
  have c_joined : Cal l.prog w K mg base "joined" s_joined 2 ["stock", "reading"] M_joined := ⟨⟨_, _, F3, PySem.W.mg_of X G a3, fn_joined F3 T c_run_of, F3.binds (ps := ["stock", "reading"]) fun _ _ _ _ _ _ us hl => match us, hl with | [_, _], _ => rfl⟩⟩
  have c_ways_behind : Cal l.prog w K mg base "ways_behind" s_ways_behind 1 ["words", "text"] M_ways_behind := ⟨⟨_, _, F4, PySem.W.mg_of X G a4, fn_ways_behind F4 T , F4.binds (ps := ["words", "text"]) fun _ _ _ _ _ _ us hl => match us, hl with | [_, _], _ => rfl⟩⟩
  have c_steps_from : Cal l.prog w K mg base "steps_from" s_steps_from 1 ["words", "text", "place", "ways"] M_steps_from := ⟨⟨_, _, F5, PySem.W.mg_of X G a5, fn_steps_from F5 T , F5.binds (ps := ["words", "text", "place", "ways"]) fun _ _ _ _ _ _ us hl => match us, hl with | [_, _, _, _], _ => rfl⟩⟩
  have c_reading_index : Cal l.prog w K mg base "reading_index" s_reading_index 3 ["stock", "reading"] M_reading_index := ⟨⟨_, _, F6, PySem.W.mg_of X G a6, fn_reading_index F6 T c_joined c_ways_behind c_steps_from, F6.binds (ps := ["stock", "reading"]) fun _ _ _ _ _ _ us hl => match us, hl with | [_, _], _ => rfl⟩⟩
  have c_law_draw : Cal l.prog w K mg base "_law_draw" s_law_draw 1 ["pool", "span"] M_law_draw := ⟨⟨_, _, F7, PySem.W.mg_of X G a7, fn_law_draw F7 T , F7.binds (ps := ["pool", "span"]) fun _ _ _ _ _ _ us hl => match us, hl with | [_, _], _ => rfl⟩⟩
  have c_law_word : Cal l.prog w K mg base "_law_word" s_law_word 2 ["pool", "widest", "signs"] M_law_word := ⟨⟨_, _, F8, PySem.W.mg_of X G a8, fn_law_word F8 T c_law_draw, F8.binds (ps := ["pool", "widest", "signs"]) fun _ _ _ _ _ _ us hl => match us, hl with | [_, _, _], _ => rfl⟩⟩
  have c_is_row : Cal l.prog w K mg base "is_row" s_is_row 1 ["signs"] M_is_row := ⟨⟨_, _, F9, PySem.W.mg_of X G a9, fn_is_row F9 T , F9.binds (ps := ["signs"]) fun _ _ _ _ _ _ us hl => match us, hl with | [_], _ => rfl⟩⟩
  have c_check_words : Cal l.prog w K mg base "check_words" s_check_words 2 ["words"] M_check_words := ⟨⟨_, _, F10, PySem.W.mg_of X G a10, fn_check_words F10 T c_is_row, F10.binds (ps := ["words"]) fun _ _ _ _ _ _ us hl => match us, hl with | [_], _ => rfl⟩⟩
  have c_Stock_init : CalM l.prog w K mg base "Stock" 3 ["self", "words"] M_Stock_init := ⟨⟨C_Stock, _, _, PySem.W.mg_of X G aC_Stock, ⟨mk11, a11, i11, kc11⟩, fn_Stock_init F11 T c_check_words, F11.binds (ps := ["self", "words"]) fun _ _ _ _ _ _ us hl => match us, hl with | [_, _], _ => rfl⟩⟩
  have c_law_known : Cal l.prog w K mg base "_law_known" s_law_known 2 ["pool"] M_law_known := ⟨⟨_, _, F12, PySem.W.mg_of X G a12, fn_law_known F12 T c_law_draw, F12.binds (ps := ["pool"]) fun _ _ _ _ _ _ us hl => match us, hl with | [_], _ => rfl⟩⟩
  have c_law_lot : Cal l.prog w K mg base "_law_lot" s_law_lot 3 ["pool", "many", "widest"] M_law_lot := ⟨⟨_, _, F13, PySem.W.mg_of X G a13, fn_law_lot F13 T c_law_draw c_law_word, F13.binds (ps := ["pool", "many", "widest"]) fun _ _ _ _ _ _ us hl => match us, hl with | [_, _, _], _ => rfl⟩⟩
  have c_check_text : Cal l.prog w K mg base "check_text" s_check_text 2 ["text"] M_check_text := ⟨⟨_, _, F14, PySem.W.mg_of X G a14, fn_check_text F14 T c_is_row, F14.binds (ps := ["text"]) fun _ _ _ _ _ _ us hl => match us, hl with | [_], _ => rfl⟩⟩
  have c_count_readings : Cal l.prog w K mg base "count_readings" s_count_readings 3 ["stock", "text"] M_count_readings := ⟨⟨_, _, F15, PySem.W.mg_of X G a15, fn_count_readings F15 T c_ways_behind c_check_text, F15.binds (ps := ["stock", "text"]) fun _ _ _ _ _ _ us hl => match us, hl with | [_, _], _ => rfl⟩⟩
  have c_starts_of : Cal l.prog w K mg base "starts_of" s_starts_of 1 ["words"] M_starts_of := ⟨⟨_, _, F16, PySem.W.mg_of X G a16, fn_starts_of F16 T , F16.binds (ps := ["words"]) fun _ _ _ _ _ _ us hl => match us, hl with | [_], _ => rfl⟩⟩
  have c_steps_of : Cal l.prog w K mg base "steps_of" s_steps_of 1 ["words", "rest"] M_steps_of := ⟨⟨_, _, F17, PySem.W.mg_of X G a17, fn_steps_of F17 T , F17.binds (ps := ["words", "rest"]) fun _ _ _ _ _ _ us hl => match us, hl with | [_, _], _ => rfl⟩⟩
  have c_rests_from : Cal l.prog w K mg base "rests_from" s_rests_from 2 ["words"] M_rests_from := ⟨⟨_, _, F18, PySem.W.mg_of X G a18, fn_rests_from F18 T c_starts_of c_steps_of, F18.binds (ps := ["words"]) fun _ _ _ _ _ _ us hl => match us, hl with | [_], _ => rfl⟩⟩
  have c_is_one_way : Cal l.prog w K mg base "is_one_way" s_is_one_way 3 ["stock"] M_is_one_way := ⟨⟨_, _, F19, PySem.W.mg_of X G a19, fn_is_one_way F19 T c_rests_from, F19.binds (ps := ["stock"]) fun _ _ _ _ _ _ us hl => match us, hl with | [_], _ => rfl⟩⟩
  have c_is_text : Cal l.prog w K mg base "is_text" s_is_text 4 ["stock", "text"] M_is_text := ⟨⟨_, _, F20, PySem.W.mg_of X G a20, fn_is_text F20 T c_count_readings, F20.binds (ps := ["stock", "text"]) fun _ _ _ _ _ _ us hl => match us, hl with | [_, _], _ => rfl⟩⟩
  have c_nth_reading : Cal l.prog w K mg base "nth_reading" s_nth_reading 3 ["stock", "text", "index"] M_nth_reading := ⟨⟨_, _, F21, PySem.W.mg_of X G a21, fn_nth_reading F21 T c_ways_behind c_steps_from c_check_text, F21.binds (ps := ["stock", "text", "index"]) fun _ _ _ _ _ _ us hl => match us, hl with | [_, _, _], _ => rfl⟩⟩
  have c_with_word : Cal l.prog w K mg base "with_word" s_with_word 5 ["stock", "word"] M_with_word := ⟨⟨_, _, F22, PySem.W.mg_of X G a22, fn_with_word F22 T c_Stock_init, F22.binds (ps := ["stock", "word"]) fun _ _ _ _ _ _ us hl => match us, hl with | [_, _], _ => rfl⟩⟩
  have c_law_fits_k09 : Cal l.prog w K mg base "_law_fits" s_law_fits_k09 6 ["pool"] M_law_fits_k09 := ⟨⟨_, _, F23, PySem.W.mg_of X G a23, fn_law_fits_k09 F23 T c_joined c_reading_index c_law_draw c_law_word c_Stock_init c_law_known c_law_lot c_count_readings c_is_one_way c_is_text c_nth_reading c_with_word, F23.binds (ps := ["pool"]) fun _ _ _ _ _ _ us hl => match us, hl with | [_], _ => rfl⟩⟩
  exact fn_law_k09 F24 T c_law_pool c_law_fits_k09
end DL.K09
open PySem PySem.W PyProof.Rows
set_option maxRecDepth 100000 in
set_option maxHeartbeats 0 in
theorem PySem.Challenge.cw_wordhulls_k09_whole_texts_run_together_holds : PySem.Challenge.rw_wordhulls_k09_whole_texts_run_together.Holds := by
  w_on; o_law; k_head; (case hw => w_witness2)
  k_fill
  refine DL.walk_g (l := PySem.Challenge.rw_wordhulls_k09_whole_texts_run_together) (n := 63) (k := 7) (fm := DL.M_law_k09) (x := "script") rfl (by decide) rfl ⟨rfl, by decide, by decide⟩ (fun w h Y => PySem.W.kIn_of Y) ?F DL.K09.plain
  case F =>
    intro w mg fa h KX G hmg
    refine' DL.K09.all_mk KX G hmg ?aC_Stock ?pg_Stock ?hd_Stock ?po_Stock ?sa_Stock ?n_Stock_kept_words ?a1 ?l1 ?c1 ?k1 ?a2 ?l2 ?c2 ?k2 ?a3 ?l3 ?c3 ?k3 ?a4 ?l4 ?c4 ?k4 ?a5 ?l5 ?c5 ?k5 ?a6 ?l6 ?c6 ?k6 ?a7 ?l7 ?c7 ?k7 ?a8 ?l8 ?c8 ?k8 ?a9 ?l9 ?c9 ?k9 ?a10 ?l10 ?c10 ?k10 ?a11 ?i11 ?mk11 ?kc11 ?l11 ?c11 ?k11 ?a12 ?l12 ?c12 ?k12 ?a13 ?l13 ?c13 ?k13 ?a14 ?l14 ?c14 ?k14 ?a15 ?l15 ?c15 ?k15 ?a16 ?l16 ?c16 ?k16 ?a17 ?l17 ?c17 ?k17 ?a18 ?l18 ?c18 ?k18 ?a19 ?l19 ?c19 ?k19 ?a20 ?l20 ?c20 ?k20 ?a21 ?l21 ?c21 ?k21 ?a22 ?l22 ?c22 ?k22 ?a23 ?l23 ?c23 ?k23 ?a24 ?l24 ?c24 ?k24 ?z_abs ?z_all ?z_enumerate ?z_int ?z_len ?z_list ?z_max ?z_min ?z_range ?z_sorted ?z_sum ?z_tuple ?u_LETTERS ?u_MOST_LETTERS ?u_MOST_WORDS
    (case aC_Stock => k_is)
    (case pg_Stock => k_is)
    (case hd_Stock => k_is)
    (case po_Stock => k_is)
    (case sa_Stock => k_is)
    (case n_Stock_kept_words => k_is)
    (case a1 => k_is)
    (case l1 => k_is)
    (case c1 => k_is)
    (case k1 => k_is)
    (case a2 => k_is)
    (case l2 => k_is)
    (case c2 => k_is)
    (case k2 => k_is)
    (case a3 => k_is)
    (case l3 => k_is)
    (case c3 => k_is)
    (case k3 => k_is)
    (case a4 => k_is)
    (case l4 => k_is)
    (case c4 => k_is)
    (case k4 => k_is)
    (case a5 => k_is)
    (case l5 => k_is)
    (case c5 => k_is)
    (case k5 => k_is)
    (case a6 => k_is)
    (case l6 => k_is)
    (case c6 => k_is)
    (case k6 => k_is)
    (case a7 => k_is)
    (case l7 => k_is)
    (case c7 => k_is)
    (case k7 => k_is)
    (case a8 => k_is)
    (case l8 => k_is)
    (case c8 => k_is)
    (case k8 => k_is)
    (case a9 => k_is)
    (case l9 => k_is)
    (case c9 => k_is)
    (case k9 => k_is)
    (case a10 => k_is)
    (case l10 => k_is)
    (case c10 => k_is)
    (case k10 => k_is)
    (case a11 => k_is)
    (case i11 => k_is)
    (case mk11 => k_is)
    (case kc11 => k_is)
    (case l11 => k_is)
    (case c11 => k_is)
    (case k11 => k_is)
    (case a12 => k_is)
    (case l12 => k_is)
    (case c12 => k_is)
    (case k12 => k_is)
    (case a13 => k_is)
    (case l13 => k_is)
    (case c13 => k_is)
    (case k13 => k_is)
    (case a14 => k_is)
    (case l14 => k_is)
    (case c14 => k_is)
    (case k14 => k_is)
    (case a15 => k_is)
    (case l15 => k_is)
    (case c15 => k_is)
    (case k15 => k_is)
    (case a16 => k_is)
    (case l16 => k_is)
    (case c16 => k_is)
    (case k16 => k_is)
    (case a17 => k_is)
    (case l17 => k_is)
    (case c17 => k_is)
    (case k17 => k_is)
    (case a18 => k_is)
    (case l18 => k_is)
    (case c18 => k_is)
    (case k18 => k_is)
    (case a19 => k_is)
    (case l19 => k_is)
    (case c19 => k_is)
    (case k19 => k_is)
    (case a20 => k_is)
    (case l20 => k_is)
    (case c20 => k_is)
    (case k20 => k_is)
    (case a21 => k_is)
    (case l21 => k_is)
    (case c21 => k_is)
    (case k21 => k_is)
    (case a22 => k_is)
    (case l22 => k_is)
    (case c22 => k_is)
    (case k22 => k_is)
    (case a23 => k_is)
    (case l23 => k_is)
    (case c23 => k_is)
    (case k23 => k_is)
    (case a24 => k_is)
    (case l24 => k_is)
    (case c24 => k_is)
    (case k24 => k_is)
    (case z_abs => k_is)
    (case z_all => k_is)
    (case z_enumerate => k_is)
    (case z_int => k_is)
    (case z_len => k_is)
    (case z_list => k_is)
    (case z_max => k_is)
    (case z_min => k_is)
    (case z_range => k_is)
    (case z_sorted => k_is)
    (case z_sum => k_is)
    (case z_tuple => k_is)
    (case u_LETTERS => k_is)
    (case u_MOST_LETTERS => k_is)
    (case u_MOST_WORDS => k_is)
