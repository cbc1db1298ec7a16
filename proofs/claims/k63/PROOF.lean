import PyProof.Rows.All
import Wide.All
import OpenK.AllK
import Wide.FinOn
import HandS.ForMost
import HandS.Exc
import HandS.TryOnly
import HandS.ExcOwn
import HandS.WordsExc
import HandS.IsInst
import HandS.Flow
import HandS.Wide
import HandS.Deep
import HandS.SortOrd
import HandS.CallSlots
import HandS.TupAny
import HandS.Text
import KE.DataEq
import HandS.Style
import HandS.Codes
import PyProof.Rows.SeqMore
import HandS.SortInts
import HandS.Strs
import HandS.Sort
import HandS.SetFor
import HandS.SetKeys
import HandS.ClsMeth
import KE.KSuper
import HandS.Zip
import HandS.DictComp
import HandS.TupLen
import HandS.WordsDict
import KE.KDictPairs
import HandS.Words
import KE.RegKIsAll
import KE.RegKSuper
import PySem.Challenge.RW_whoeversends_k63_papers_on_rows_bent
set_option Elab.async false
set_option linter.all false
set_option maxRecDepth 100000
set_option maxHeartbeats 4000000
local macro_rules | `(tactic| walk_at "blk_go") => `(tactic| (first | decide +kernel | (dsimp only [L2.cxOf, DL.cxSup, DL.supEnv, PySem.W.ksEnv, PySem.W.envX, L2.Cx.blk, PySem.compEnvC, PyProof.Rows.envOfC, PySem.relabel, PySem.Env.kindOf]; decide +kernel) | (dsimp only [L2.cxOf, DL.cxSup, DL.supEnv, PySem.W.ksEnv, PySem.W.envX, L2.Cx.blk, PySem.compEnvC, PyProof.Rows.envOfC, PySem.relabel, PySem.Env.kindOf]; decide +kernel +revert) | rfl))
section
/-! DL1: data, the store, what stands for what, the judgements. -/
namespace DL
open PySem PySem.Spec PyProof.Rows L2

/-- data: what never changes by value; .loc l is the l-th object of the store -/
inductive D where
  | non | bool (b : Bool) | int (i : Int) | str (s : Str)
  | tup (ds : List D) | lst (ds : List D)
  | dic (kvs : List (D × D))
  | dit (kvs : List (D × D))
  | ins (c : Str) (fs : List (Str × D))
  | loc (l : Nat)
  deriving Inhabited

/-- an object of the store -/
inductive O where
  | lst (xs : List D)
  | ins (c : Str) (fs : List (Str × D))
  | dic (kvs : List (D × D))
  | dit (kvs : List (D × D))

abbrev Store := List O
/-- an exception: its class, its fields -/
abbrev XD := Str × List (Str × D)

inductive R (α : Type) where
  | ok (a : α) (st : Store)
  | exc (e : XD) (st : Store)
  | stuck
def M (α : Type) := Store → R α
@[reducible] def M.ret {α : Type} (a : α) : M α := fun st => .ok a st
def R.bind {α β : Type} (r : R α) (f : α → M β) : R β := match r with
  | .ok a st => f a st
  | .exc e st => .exc e st
  | .stuck => .stuck
def M.bind {α β : Type} (m : M α) (f : α → M β) : M β := fun st => (m st).bind f
instance : Monad M where
  pure := M.ret
  bind := M.bind
@[simp] theorem R.bind_ok {α β : Type} (a : α) (st : Store) (f : α → M β) : (R.ok a st).bind f = f a st := rfl
@[simp] theorem R.bind_exc {α β : Type} (e : XD) (st : Store) (f : α → M β) : (R.exc e st : R α).bind f = .exc e st := rfl
@[simp] theorem R.bind_stuck {α β : Type} (f : α → M β) : (R.stuck : R α).bind f = .stuck := rfl
def M.stuck {α : Type} : M α := fun _ => .stuck
/-- of an option: stuck where there is none -/
def M.of {α : Type} (o : Option α) : M α := fun st => match o with
  | some a => .ok a st
  | none => .stuck

/-- a slot of a def's frame -/
inductive Slot where
  | none
  | val (d : D)
  | own (xs : List D)
  | bor (xs : List D)
abbrev Env := List Slot

/-! ### what stands for what -/
section
variable (K : PySem.W.Frag) (cl : Str → Option Addr)
def kD : D → Option Key
  | .int i => some (.inl i)
  | .str s => some (.inr s)
  | _ => Option.none
def ksD : List D → Option (List Key)
  | [] => some []
  | d :: ds => match kD d, ksD ds with
    | some k, some ks => some (k :: ks)
    | _, _ => Option.none
mutual
inductive RV (F : Hp) (ι : List Addr) : V → D → Prop
  | non : RV F ι .non .non
  | bool (b : Bool) : RV F ι (.bl b) (.bool b)
  | int (i : Int) : RV F ι (.int i) (.int i)
  | str (s : Str) : RV F ι (.str s) (.str s)
  | tup {a : Addr} {vs : List V} {ds : List D} : F a = some (.tup vs) → RVs F ι vs ds → RV F ι (.ref a) (.tup ds)
  | lst {a : Addr} {vs : List V} {ds : List D} : SqL K F a vs → RVs F ι vs ds → RV F ι (.ref a) (.lst ds)
  | dicK {a : Addr} {kvs : List (Key × V)} {kds : List (D × D)} : F a = some (.dK kvs) → RKs F ι kvs kds → RV F ι (.ref a) (.dic kds)
  | dicT {a : Addr} {kvs : List (List Key × V)} {kds : List (D × D)} : F a = some (.dT kvs) → RTs F ι kvs kds → RV F ι (.ref a) (.dit kds)
  | ins {a C dx : Addr} {c : Str} {vfs : List (Str × V)} {fs : List (Str × D)} : cl c = some C → F a = some (.ins C dx vfs) → RFs F ι vfs fs → RV F ι (.ref a) (.ins c fs)
  | loc {l : Nat} {a : Addr} : ι[l]? = some a → RV F ι (.ref a) (.loc l)
inductive RVs (F : Hp) (ι : List Addr) : List V → List D → Prop
  | nil : RVs F ι [] []
  | cons {v : V} {d : D} {vs : List V} {ds : List D} : RV F ι v d → RVs F ι vs ds → RVs F ι (v :: vs) (d :: ds)
inductive RFs (F : Hp) (ι : List Addr) : List (Str × V) → List (Str × D) → Prop
  | nil : RFs F ι [] []
  | cons {f : Str} {v : V} {d : D} {vs : List (Str × V)} {ds : List (Str × D)} : RV F ι v d → RFs F ι vs ds → RFs F ι ((f, v) :: vs) ((f, d) :: ds)
inductive RKs (F : Hp) (ι : List Addr) : List (Key × V) → List (D × D) → Prop
  | nil : RKs F ι [] []
  | cons {k : Key} {kd : D} {v : V} {d : D} {vs : List (Key × V)} {ds : List (D × D)} : kD kd = some k → RV F ι v d → RKs F ι vs ds → RKs F ι ((k, v) :: vs) ((kd, d) :: ds)
inductive RTs (F : Hp) (ι : List Addr) : List (List Key × V) → List (D × D) → Prop
  | nil : RTs F ι [] []
  | cons {k : List Key} {kd : List D} {v : V} {d : D} {vs : List (List Key × V)} {ds : List (D × D)} : ksD kd = some k → RV F ι v d → RTs F ι vs ds → RTs F ι ((k, v) :: vs) ((.tup kd, d) :: ds)
end
/-- an object of the store, at a -/
inductive RO (F : Hp) (ι : List Addr) (H : Hp) (a : Addr) : O → Prop
  | lst {vs : List V} {xs : List D} : H a = some (.lst vs) → RVs K cl F ι vs xs → RO F ι H a (.lst xs)
  | ins {C dx : Addr} {c : Str} {vfs : List (Str × V)} {fs : List (Str × D)} : cl c = some C → H a = some (.ins C dx vfs) → RFs K cl F ι vfs fs → RO F ι H a (.ins c fs)
  | dicK {kvs : List (Key × V)} {kds : List (D × D)} : H a = some (.dK kvs) → RKs K cl F ι kvs kds → RO F ι H a (.dic kds)
  | dicT {kvs : List (List Key × V)} {kds : List (D × D)} : H a = some (.dT kvs) → RTs K cl F ι kvs kds → RO F ι H a (.dit kds)
/-- the store and the heap -/
structure Sim (F : Hp) (ι : List Addr) (H : Hp) (st : Store) : Prop where
  sub : ∀ a o, F a = some o → H a = some o
  len : ι.length = st.length
  nd : ι.Nodup
  dis : ∀ a, a ∈ ι → F a = Option.none
  obj : ∀ (l : Nat) (o : O), st[l]? = some o → ∃ a, ι[l]? = some a ∧ RO K cl F ι H a o
end
/-- from one moment to a later one -/
structure Ext (F F' : Hp) (ι ι' : List Addr) (H H' : Hp) : Prop where
  f : ∀ a o, F a = some o → F' a = some o
  i : ι <+: ι'
  h : ∀ a o, H a = some o → a ∉ ι → H' a = some o
  t : ∀ a o, H a = some o → ∃ o', H' a = some o'
  nf : ∀ a o, F' a = some o → F a = some o ∨ H a = Option.none
  ni : ∀ a, a ∈ ι' → a ∈ ι ∨ H a = Option.none
section
variable {K : PySem.W.Frag} {cl : Str → Option Addr} {F F' F2 H H' H2 : Hp} {ι ι' ι2 : List Addr}
theorem Ext.refl : Ext F F ι ι H H := ⟨fun _ _ h => h, List.prefix_refl _, fun _ _ h _ => h, fun _ o h => ⟨o, h⟩, fun _ _ h => .inl h, fun _ h => .inl h⟩
theorem none_back {a : Addr} (t : ∀ a o, H a = some o → ∃ o', H' a = some o') (h : H' a = Option.none) : H a = Option.none := by
  cases e : H a with
  | none => rfl
  | some o =>
    obtain ⟨o', z⟩ := t a o e
    rw [h] at z
    cases z
theorem Ext.trans (x : Ext F F' ι ι' H H') (y : Ext F' F2 ι' ι2 H' H2) : Ext F F2 ι ι2 H H2 where
  f := fun a o h => y.f a o (x.f a o h)
  i := x.i.trans y.i
  h := fun a o h n => y.h a o (x.h a o h n) fun z => (x.ni a z).elim n fun q => by rw [h] at q; cases q
  t := fun a o h => by
    obtain ⟨o', z⟩ := x.t a o h
    exact y.t a o' z
  nf := fun a o h => (y.nf a o h).elim (fun z => x.nf a o z) fun z => .inr (none_back x.t z)
  ni := fun a h => (y.ni a h).elim (fun z => x.ni a z) fun z => .inr (none_back x.t z)
theorem prefix_get {α : Type} {l l' : List α} {i : Nat} {x : α} (h : l <+: l') (e : l[i]? = some x) : l'[i]? = some x := by
  obtain ⟨r, rfl⟩ := h
  have hi : i < l.length := (List.getElem?_eq_some_iff.mp e).1
  rw [List.getElem?_append_left hi]
  exact e
theorem SqT.up {a : Addr} {vs : List V} (f : ∀ a o, F a = some o → F' a = some o) (h : SqT K F a vs) : SqT K F' a vs := by
  rcases h with (h | ⟨o, h⟩) | h
  · exact .inl (.inl (f _ _ h))
  · exact .inl (.inr ⟨o, f _ _ h⟩)
  · exact .inr h
theorem SqL.up {a : Addr} {vs : List V} (f : ∀ a o, F a = some o → F' a = some o) (h : SqL K F a vs) : SqL K F' a vs := by
  rcases h with (h | ⟨o, h⟩) | h
  · exact .inl (.inl (f _ _ h))
  · exact .inl (.inr ⟨o, f _ _ h⟩)
  · exact .inr h
mutual
theorem RV.up (f : ∀ a o, F a = some o → F' a = some o) (p : ι <+: ι') : ∀ {v : V} {d : D}, RV K cl F ι v d → RV K cl F' ι' v d
  | _, _, .non => .non
  | _, _, .bool b => .bool b
  | _, _, .int b => .int b
  | _, _, .str b => .str b
  | _, _, .tup s r => .tup (f _ _ s) (RVs.up f p r)
  | _, _, .lst s r => .lst (SqL.up f s) (RVs.up f p r)
  | _, _, .dicK s r => .dicK (f _ _ s) (RKs.up f p r)
  | _, _, .dicT s r => .dicT (f _ _ s) (RTs.up f p r)
  | _, _, .ins c s r => .ins c (f _ _ s) (RFs.up f p r)
  | _, _, .loc e => .loc (prefix_get p e)
theorem RVs.up (f : ∀ a o, F a = some o → F' a = some o) (p : ι <+: ι') : ∀ {v : List V} {d : List D}, RVs K cl F ι v d → RVs K cl F' ι' v d
  | _, _, .nil => .nil
  | _, _, .cons h t => .cons (RV.up f p h) (RVs.up f p t)
theorem RFs.up (f : ∀ a o, F a = some o → F' a = some o) (p : ι <+: ι') : ∀ {v : List (Str × V)} {d : List (Str × D)}, RFs K cl F ι v d → RFs K cl F' ι' v d
  | _, _, .nil => .nil
  | _, _, .cons h t => .cons (RV.up f p h) (RFs.up f p t)
theorem RKs.up (f : ∀ a o, F a = some o → F' a = some o) (p : ι <+: ι') : ∀ {v : List (Key × V)} {d : List (D × D)}, RKs K cl F ι v d → RKs K cl F' ι' v d
  | _, _, .nil => .nil
  | _, _, .cons e h t => .cons e (RV.up f p h) (RKs.up f p t)
theorem RTs.up (f : ∀ a o, F a = some o → F' a = some o) (p : ι <+: ι') : ∀ {v : List (List Key × V)} {d : List (D × D)}, RTs K cl F ι v d → RTs K cl F' ι' v d
  | _, _, .nil => .nil
  | _, _, .cons e h t => .cons e (RV.up f p h) (RTs.up f p t)
end
theorem RV.ext {v : V} {d : D} (x : Ext F F' ι ι' H H') (r : RV K cl F ι v d) : RV K cl F' ι' v d := r.up x.f x.i
theorem RVs.ext {v : List V} {d : List D} (x : Ext F F' ι ι' H H') (r : RVs K cl F ι v d) : RVs K cl F' ι' v d := r.up x.f x.i
theorem RVs.length : ∀ {vs : List V} {ds : List D}, RVs K cl F ι vs ds → vs.length = ds.length
  | _, _, .nil => rfl
  | _, _, .cons _ t => by rw [List.length_cons, List.length_cons, RVs.length t]
theorem RVs.get : ∀ {vs : List V} {ds : List D} {i : Nat} {d : D}, RVs K cl F ι vs ds → ds[i]? = some d → ∃ v, vs[i]? = some v ∧ RV K cl F ι v d
  | _, _, _, _, .nil, e => by simp at e
  | _, _, 0, _, .cons h _, e => by
    simp at e
    subst e
    exact ⟨_, rfl, h⟩
  | _, _, i + 1, _, .cons _ t, e => by
    obtain ⟨v, h1, h2⟩ := RVs.get (i := i) t (by simpa using e)
    exact ⟨v, by simpa using h1, h2⟩
theorem RVs.get' : ∀ {vs : List V} {ds : List D} {i : Nat} {v : V}, RVs K cl F ι vs ds → vs[i]? = some v → ∃ d, ds[i]? = some d ∧ RV K cl F ι v d
  | _, _, _, _, .nil, e => by simp at e
  | _, _, 0, _, .cons h _, e => by
    simp at e
    subst e
    exact ⟨_, rfl, h⟩
  | _, _, i + 1, _, .cons _ t, e => by
    obtain ⟨v, h1, h2⟩ := RVs.get' (i := i) t (by simpa using e)
    exact ⟨v, by simpa using h1, h2⟩
theorem RVs.append : ∀ {vs vs' : List V} {ds ds' : List D}, RVs K cl F ι vs ds → RVs K cl F ι vs' ds' → RVs K cl F ι (vs ++ vs') (ds ++ ds')
  | _, _, _, _, .nil, h => h
  | _, _, _, _, .cons r t, h => .cons r (RVs.append t h)
theorem RVs.one {v : V} {d : D} (r : RV K cl F ι v d) : RVs K cl F ι [v] [d] := .cons r .nil
theorem RVs.take : ∀ {vs : List V} {ds : List D} (n : Nat), RVs K cl F ι vs ds → RVs K cl F ι (vs.take n) (ds.take n)
  | _, _, 0, _ => .nil
  | _, _, _ + 1, .nil => .nil
  | _, _, n + 1, .cons r t => .cons r (RVs.take n t)
theorem RVs.drop : ∀ {vs : List V} {ds : List D} (n : Nat), RVs K cl F ι vs ds → RVs K cl F ι (vs.drop n) (ds.drop n)
  | _, _, 0, r => r
  | _, _, _ + 1, .nil => .nil
  | _, _, n + 1, .cons _ t => RVs.drop n t
theorem RVs.reverse : ∀ {vs : List V} {ds : List D}, RVs K cl F ι vs ds → RVs K cl F ι vs.reverse ds.reverse
  | _, _, .nil => .nil
  | _, _, .cons r t => by
    rw [List.reverse_cons, List.reverse_cons]
    exact RVs.append (RVs.reverse t) (.one r)
theorem RVs.set {v : V} {d : D} (r : RV K cl F ι v d) : ∀ {vs : List V} {ds : List D} (i : Nat), RVs K cl F ι vs ds → RVs K cl F ι (vs.set i v) (ds.set i d)
  | _, _, _, .nil => .nil
  | _, _, 0, .cons _ t => .cons r t
  | _, _, i + 1, .cons q t => .cons q (RVs.set r i t)
theorem RVs.eraseIdx : ∀ {vs : List V} {ds : List D} (i : Nat), RVs K cl F ι vs ds → RVs K cl F ι (vs.eraseIdx i) (ds.eraseIdx i)
  | _, _, _, .nil => .nil
  | _, _, 0, .cons _ t => t
  | _, _, i + 1, .cons q t => .cons q (RVs.eraseIdx i t)
theorem Sim.fat {st : Store} (S : Sim K cl F ι H st) {a : Addr} {o : HO} (h : F a = some o) : H a = some o := S.sub a o h
end

/-! ### a list of one's own: it stands in the heap, nothing frozen leans on it -/
section
variable (K : PySem.W.Frag) (cl : Str → Option Addr) (F : Hp) (ι : List Addr) (H : Hp)
def OwnL (a : Addr) (xs : List D) : Prop := ∃ vs, H a = some (.lst vs) ∧ RVs K cl F ι vs xs ∧ F a = Option.none ∧ a ∉ ι
/-- what an operand may be: frozen data, or a list of one's own as it stands -/
def RB (v : V) (d : D) : Prop := RV K cl F ι v d ∨ ∃ a xs, v = .ref a ∧ d = .lst xs ∧ OwnL K cl F ι H a xs
inductive RBs : List V → List D → Prop
  | nil : RBs [] []
  | cons {v : V} {d : D} {vs : List V} {ds : List D} : RB K cl F ι H v d → RBs vs ds → RBs (v :: vs) (d :: ds)
/-- an exception as it lies -/
def RX (cv : Value) (dd : Option Addr) (e : XD) : Prop := ∃ C d vfs, cl e.1 = some C ∧ cv = .ref C ∧ dd = some d ∧ H d = some (.xd vfs) ∧ RFs K cl F ι vfs e.2
end
section
variable {K : PySem.W.Frag} {cl : Str → Option Addr} {F F' F2 H H' H2 : Hp} {ι ι' ι2 : List Addr}
theorem OwnL.ext {a : Addr} {xs : List D} (x : Ext F F' ι ι' H H') (o : OwnL K cl F ι H a xs) : OwnL K cl F' ι' H' a xs := by
  obtain ⟨vs, h, r, n, m⟩ := o
  refine ⟨vs, x.h a _ h m, r.ext x, ?_, ?_⟩
  · cases e : F' a with
    | none => rfl
    | some o =>
      rcases x.nf a o e with z | z
      · rw [n] at z; cases z
      · rw [h] at z; cases z
  · intro hm
    rcases x.ni a hm with z | z
    · exact m z
    · rw [h] at z; cases z
theorem RB.ext {v : V} {d : D} (x : Ext F F' ι ι' H H') (r : RB K cl F ι H v d) : RB K cl F' ι' H' v d := by
  rcases r with r | ⟨a, xs, e1, e2, o⟩
  · exact .inl (r.ext x)
  · exact .inr ⟨a, xs, e1, e2, o.ext x⟩
theorem RBs.ext (x : Ext F F' ι ι' H H') : ∀ {vs : List V} {ds : List D}, RBs K cl F ι H vs ds → RBs K cl F' ι' H' vs ds
  | _, _, .nil => .nil
  | _, _, .cons r t => .cons (r.ext x) (RBs.ext x t)
theorem RB.of {v : V} {d : D} (r : RV K cl F ι v d) : RB K cl F ι H v d := .inl r
theorem RBs.of : ∀ {vs : List V} {ds : List D}, RVs K cl F ι vs ds → RBs K cl F ι H vs ds
  | _, _, .nil => .nil
  | _, _, .cons r t => .cons (.inl r) (RBs.of t)
end

/-! ### a moment of a def -/
/-- the entry of a def -/
structure Base where
  F : Hp
  ι : List Addr
  H : Hp
section
variable (K : PySem.W.Frag) (cl : Str → Option Addr)
inductive RS (B : Base) (F : Hp) (ι : List Addr) (H : Hp) : Option V → Slot → Prop
  | none (o : Option V) : RS B F ι H o .none
  | val {v : V} {d : D} : RV K cl F ι v d → RS B F ι H (some v) (.val d)
  | own {a : Addr} {xs : List D} : OwnL K cl F ι H a xs → B.H a = Option.none → RS B F ι H (some (.ref a)) (.own xs)
  | bor {a : Addr} {xs : List D} : OwnL K cl B.F B.ι B.H a xs → RS B F ι H (some (.ref a)) (.bor xs)
structure At (B : Base) (F : Hp) (ι : List Addr) (H : Hp) (st : Store) (σ : L2.St) (ρ : Env) : Prop where
  sim : Sim K cl F ι H st
  ext : Ext B.F F B.ι ι B.H H
  len : σ.length = ρ.length
  env : ∀ (i : Nat) (o : Option V) (s : Slot), σ[i]? = some o → ρ[i]? = some s → RS K cl B F ι H o s
  two : ∀ (i j : Nat) (a : Addr) (xs ys : List D), ρ[i]? = some (.own xs) → ρ[j]? = some (.own ys) → σ[i]? = some (some (V.ref a)) → σ[j]? = some (some (V.ref a)) → i = j
end
section
variable {K : PySem.W.Frag} {cl : Str → Option Addr} {B : Base} {F F' H H' : Hp} {ι ι' : List Addr} {st st' : Store} {σ : L2.St} {ρ : Env}
theorem At.later (A : At K cl B F ι H st σ ρ) (x : Ext F F' ι ι' H H') (S : Sim K cl F' ι' H' st') : At K cl B F' ι' H' st' σ ρ := by
  refine ⟨S, A.ext.trans x, A.len, fun i o s h1 h2 => ?_, A.two⟩
  cases A.env i o s h1 h2 with
  | none o => exact .none o
  | val r => exact .val (r.ext x)
  | own o n => exact .own (o.ext x) n
  | bor o => exact .bor o
end
end DL
end
section
/-! DL2: the judgements of expressions. -/
namespace DL
open PySem PySem.Spec PyProof.Rows L2

section
variable (K : PySem.W.Frag) (cl : Str → Option Addr)
/-- how a result lies: by the heap ahead, frozen heap, addresses, heap -/
abbrev Rel (α β : Type) := Hp → Hp → List Addr → Hp → β → α → Prop
def rV : Rel D V := fun _ F ι _ v d => RV K cl F ι v d
def rB : Rel D V := fun _ F ι H v d => RB K cl F ι H v d
def rF : Rel (List D) V := fun H₀ F ι H v xs => ∃ a, v = .ref a ∧ OwnL K cl F ι H a xs ∧ H₀ a = none
def rVs : Rel (List D) (List V) := fun _ F ι _ v d => RVs K cl F ι v d
def rBs : Rel (List D) (List V) := fun _ F ι H v d => RBs K cl F ι H v d
def rT : Rel Bool Bool := fun _ _ _ _ b c => b = c
/-- what is wanted of a result -/
def Post {α β : Type} (rel : Rel α β) (F : Hp) (ι : List Addr) (H : Hp) (σ : L2.St) (W : WX) (r : R α) (Q : β → Hp → Prop) : Prop := match r with
  | .ok d st' => ∀ F' ι' H' v, Ext F F' ι ι' H H' → Sim K cl F' ι' H' st' → rel H F' ι' H' v d → Q v H'
  | .exc e st' => ∀ F' ι' H' cv dd, Ext F F' ι ι' H H' → Sim K cl F' ι' H' st' → RX K cl F' ι' H' cv dd e → W cv dd σ H'
  | .stuck => False
/-- a relation that looks at the heap ahead only for what is new -/
def Rel.Back {α β : Type} (rel : Rel α β) : Prop := ∀ (H₀ H₁ F : Hp) (ι : List Addr) (H : Hp) (v : β) (d : α), (∀ a o, H₀ a = some o → ∃ o', H₁ a = some o') → rel H₁ F ι H v d → rel H₀ F ι H v d
end
section
variable {K : PySem.W.Frag} {cl : Str → Option Addr}
theorem back_V : Rel.Back (rV K cl) := fun _ _ _ _ _ _ _ _ h => h
theorem back_B : Rel.Back (rB K cl) := fun _ _ _ _ _ _ _ _ h => h
theorem back_Vs : Rel.Back (rVs K cl) := fun _ _ _ _ _ _ _ _ h => h
theorem back_Bs : Rel.Back (rBs K cl) := fun _ _ _ _ _ _ _ _ h => h
theorem back_T : Rel.Back rT := fun _ _ _ _ _ _ _ _ h => h
theorem back_F : Rel.Back (rF K cl) := fun _ _ _ _ _ _ _ t ⟨a, e, o, n⟩ => ⟨a, e, o, none_back t n⟩
variable {α β γ δ : Type} {rel : Rel α β} {rel2 : Rel γ δ} {F F' H H' : Hp} {ι ι' : List Addr} {σ : L2.St} {W : WX}
theorem Post.later {r : R α} {Q : β → Hp → Prop} (b : rel.Back) (x : Ext F F' ι ι' H H') (h : Post K cl rel F ι H σ W r Q) : Post K cl rel F' ι' H' σ W r Q := by
  cases r with
  | ok d st' => exact fun F2 ι2 H2 v y S q => h F2 ι2 H2 v (x.trans y) S (b _ _ _ _ _ _ _ x.t q)
  | exc e st' => exact fun F2 ι2 H2 cv dd y S q => h F2 ι2 H2 cv dd (x.trans y) S q
  | stuck => exact h
/-- THE COMPOSITION: the first part's result, then the rest -/
theorem Post.bind {r : R α} {f : α → M γ} {Q : β → Hp → Prop} {Q2 : δ → Hp → Prop} (b : rel2.Back) (h : Post K cl rel2 F ι H σ W (r.bind f) Q2)
    (k : ∀ a st' F' ι' H' v, Ext F F' ι ι' H H' → Sim K cl F' ι' H' st' → rel H F' ι' H' v a → Post K cl rel2 F' ι' H' σ W (f a st') Q2 → Q v H') : Post K cl rel F ι H σ W r Q := by
  cases r with
  | ok d st' => exact fun F2 ι2 H2 v y S q => k d st' F2 ι2 H2 v y S q (Post.later b y h)
  | exc e st' => exact h
  | stuck => exact h
theorem Post.mono {r : R α} {Q Q' : β → Hp → Prop} (h : Post K cl rel F ι H σ W r Q) (k : ∀ v H, Q v H → Q' v H) : Post K cl rel F ι H σ W r Q' := by
  cases r with
  | ok d st' => exact fun F2 ι2 H2 v y S q => k _ _ (h F2 ι2 H2 v y S q)
  | exc e st' => exact h
  | stuck => exact h
end

/-! ### the readings -/
section
variable (K : PySem.W.Frag) (cl : Str → Option Addr) (B : Base) (W : WX)
def tG {α β : Type} (rel : Rel α β) (f : Env → M α) : L2.St → Hp → (β → Hp → Prop) → Prop := fun σ H Q =>
  ∃ F ι st ρ, At K cl B F ι H st σ ρ ∧ Post K cl rel F ι H σ W (f ρ st) Q
abbrev tE (f : Env → M D) : TE := tG K cl B W (rV K cl) f
abbrev tB (f : Env → M D) : TE := tG K cl B W (rB K cl) f
abbrev tF (f : Env → M (List D)) : TE := tG K cl B W (rF K cl) f
abbrev tA (f : Env → M (List D)) : TA := tG K cl B W (rVs K cl) f
abbrev tAB (f : Env → M (List D)) : TA := tG K cl B W (rBs K cl) f
abbrev tT (f : Env → M Bool) : TT := tG K cl B W rT f
end
/-- frozen data; what is read at once; a new list; arguments; operands; a test -/
abbrev DE (X : Cx) (cl : Str → Option Addr) (B : Base) (W : WX) (e : Expr) (f : Env → M D) : Prop := PE X e (tE X.K cl B W f)
abbrev DB (X : Cx) (cl : Str → Option Addr) (B : Base) (W : WX) (e : Expr) (f : Env → M D) : Prop := PE X e (tB X.K cl B W f)
abbrev DF (X : Cx) (cl : Str → Option Addr) (B : Base) (W : WX) (e : Expr) (f : Env → M (List D)) : Prop := PE X e (tF X.K cl B W f)
abbrev DA (X : Cx) (cl : Str → Option Addr) (B : Base) (W : WX) (es : List Expr) (f : Env → M (List D)) : Prop := PA X es (tA X.K cl B W f)
abbrev DAB (X : Cx) (cl : Str → Option Addr) (B : Base) (W : WX) (es : List Expr) (f : Env → M (List D)) : Prop := PA X es (tAB X.K cl B W f)
abbrev DT (X : Cx) (cl : Str → Option Addr) (B : Base) (W : WX) (e : Expr) (f : Env → M Bool) : Prop := PT X e (tT X.K cl B W f)
abbrev DW (X : Cx) (cl : Str → Option Addr) (B : Base) (W : WX) (e : Expr) (f : Env → M Bool) : Prop := PW X e (tT X.K cl B W f)

theorem weakE {X : Cx} {e : Expr} {t t' : TE} (h : PE X e t) (k : ∀ σ H Q, t' σ H Q → t σ H Q) : PE X e t' := ⟨fun pins s σ H Q I q => h.run pins s σ H Q I (k σ H Q q)⟩
theorem weakA {X : Cx} {e : List Expr} {t t' : TA} (h : PA X e t) (k : ∀ σ H Q, t' σ H Q → t σ H Q) : PA X e t' := ⟨fun pos pins s σ H Q I q => h.run pos pins s σ H Q I (k σ H Q q)⟩
theorem weakT {X : Cx} {e : Expr} {t t' : TT} (h : PT X e t) (k : ∀ σ H Q, t' σ H Q → t σ H Q) : PT X e t' := ⟨fun pins s σ H Q I q => h.run pins s σ H Q I (k σ H Q q)⟩
theorem weakW {X : Cx} {e : Expr} {t t' : TT} (h : PW X e t) (k : ∀ σ H Q, t' σ H Q → t σ H Q) : PW X e t' := ⟨fun w pins s σ H Q I q => h.run w pins s σ H Q I (k σ H Q q)⟩

/-! ### mirrors -/
def eConst (d : D) : Env → M D := fun _ => M.ret d
def eVar (i : Nat) : Env → M D := fun ρ => match ρ[i]? with
  | some (.val d) => M.ret d
  | _ => M.stuck
/-- a list of one's own, read at once -/
def eOwn (i : Nat) : Env → M D := fun ρ => match ρ[i]? with
  | some (.own xs) => M.ret (.lst xs)
  | _ => M.stuck
def eBor (i : Nat) : Env → M D := fun ρ => match ρ[i]? with
  | some (.bor xs) => M.ret (.lst xs)
  | _ => M.stuck
def eBind (f : Env → M D) (g : D → Env → M D) : Env → M D := fun ρ => (f ρ).bind fun x => g x ρ
/-- what looks at the store and changes nothing -/
def M.look {α : Type} (o : Store → Option α) : M α := fun st => match o st with
  | some a => .ok a st
  | none => .stuck
abbrev P1 := D → Store → Option D
abbrev P2 := D → D → Store → Option D
def e1 (p : P1) (f : Env → M D) : Env → M D := fun ρ => (f ρ).bind fun x => M.look (p x)
def e2 (p : P2) (f g : Env → M D) : Env → M D := fun ρ => (f ρ).bind fun x => (g ρ).bind fun y => M.look (p x y)
def eNilA : Env → M (List D) := fun _ => M.ret []
def eConsA (f : Env → M D) (g : Env → M (List D)) : Env → M (List D) := fun ρ => (f ρ).bind fun x => (g ρ).bind fun xs => M.ret (x :: xs)
def eTup (f : Env → M (List D)) : Env → M D := fun ρ => (f ρ).bind fun xs => M.look fun _ => if xs.length ≤ sizeLine then some (.tup xs) else none
def fLst (f : Env → M (List D)) : Env → M (List D) := fun ρ => (f ρ).bind fun xs => M.look fun _ => if xs.length ≤ sizeLine then some xs else none
def eFrz (f : Env → M (List D)) : Env → M D := fun ρ => (f ρ).bind fun xs => M.ret (.lst xs)

section
variable {X : Cx} {cl : Str → Option Addr} {B : Base} {W : WX} {pos : Pos}
theorem de_const {e : Expr} {v : V} {d : D} (h : PE X e (tC v)) (r : ∀ F ι, RV X.K cl F ι v d) : DE X cl B W e (eConst d) :=
  weakE h fun σ H Q ⟨F, ι, st, ρ, A, q⟩ => q F ι H v .refl A.sim (r F ι)
theorem de_int {i j pos} : DE X cl B W (.Constant (.int i) j pos) (eConst (.int i)) := de_const pe_int fun _ _ => .int i
theorem de_bool {b j pos} : DE X cl B W (.Constant (.bool b) j pos) (eConst (.bool b)) := de_const pe_bl fun _ _ => .bool b
theorem de_non {j pos} : DE X cl B W (.Constant .none j pos) (eConst .non) := de_const pe_non fun _ _ => .non
theorem de_str {x j pos} : DE X cl B W (.Constant (.str x) j pos) (eConst (.str x)) := de_const pe_str fun _ _ => .str x
theorem de_var (i : Nat) {x : Str} (h : PE X (.Name x pos) (tVar i)) : DE X cl B W (.Name x pos) (eVar i) :=
  weakE h fun σ H Q ⟨F, ι, st, ρ, A, q⟩ => by
    have hl := A.len
    unfold eVar at q
    cases e : ρ[i]? with
    | none =>
      rw [e] at q
      exact q.elim
    | some s =>
      rw [e] at q
      have hi : i < σ.length := by rw [hl]; exact (List.getElem?_eq_some_iff.mp e).1
      have eσ : σ[i]? = some σ[i] := List.getElem?_eq_getElem hi
      have z := A.env i _ s eσ e
      cases s with
      | none => exact q.elim
      | own xs => exact q.elim
      | bor xs => exact q.elim
      | val d =>
        generalize σ[i] = o at eσ z
        cases z with
        | val r => exact ⟨_, eσ, q F ι H _ .refl A.sim r⟩
theorem db_own (i : Nat) {x : Str} (h : PE X (.Name x pos) (tVar i)) : DB X cl B W (.Name x pos) (eOwn i) :=
  weakE h fun σ H Q ⟨F, ι, st, ρ, A, q⟩ => by
    have hl := A.len
    unfold eOwn at q
    cases e : ρ[i]? with
    | none =>
      rw [e] at q
      exact q.elim
    | some s =>
      rw [e] at q
      have hi : i < σ.length := by rw [hl]; exact (List.getElem?_eq_some_iff.mp e).1
      have eσ : σ[i]? = some σ[i] := List.getElem?_eq_getElem hi
      have z := A.env i _ s eσ e
      cases s with
      | none => exact q.elim
      | val xs => exact q.elim
      | bor xs => exact q.elim
      | own xs =>
        generalize σ[i] = o at eσ z
        cases z with
        | own r n => exact ⟨_, eσ, q F ι H _ .refl A.sim (.inr ⟨_, _, rfl, rfl, r⟩)⟩
/-- a list that a caller lent, read -/
theorem db_bor (i : Nat) {x : Str} (h : PE X (.Name x pos) (tVar i)) : DB X cl B W (.Name x pos) (eBor i) :=
  weakE h fun σ H Q ⟨F, ι, st, ρ, A, q⟩ => by
    have hl := A.len
    unfold eBor at q
    cases e : ρ[i]? with
    | none =>
      rw [e] at q
      exact q.elim
    | some s =>
      rw [e] at q
      have hi : i < σ.length := by rw [hl]; exact (List.getElem?_eq_some_iff.mp e).1
      have eσ : σ[i]? = some σ[i] := List.getElem?_eq_getElem hi
      have z := A.env i _ s eσ e
      cases s with
      | none => exact q.elim
      | val xs => exact q.elim
      | own xs => exact q.elim
      | bor xs =>
        generalize σ[i] = o at eσ z
        cases z with
        | bor r => exact ⟨_, eσ, q F ι H _ .refl A.sim (.inr ⟨_, _, rfl, rfl, r.ext A.ext⟩)⟩
theorem DE.b {e : Expr} {f : Env → M D} (h : DE X cl B W e f) : DB X cl B W e f :=
  weakE h fun σ H Q ⟨F, ι, st, ρ, A, q⟩ => ⟨F, ι, st, ρ, A, by
    unfold Post at q ⊢
    split at q
    · exact fun F' ι' H' v x S r => q F' ι' H' v x S (.inl r)
    · exact q
    · exact q⟩

/-! ### new objects -/
theorem RO.there {K : PySem.W.Frag} {F H : Hp} {ι : List Addr} {a : Addr} : ∀ {o : O}, RO K cl F ι H a o → ∃ o, H a = some o
  | _, .lst e _ => ⟨_, e⟩
  | _, .ins _ e _ => ⟨_, e⟩
  | _, .dicK e _ => ⟨_, e⟩
  | _, .dicT e _ => ⟨_, e⟩
theorem Sim.none_of {K : PySem.W.Frag} {F H : Hp} {ι : List Addr} {st : Store} (S : Sim K cl F ι H st) {p : Addr} (h : H p = none) : F p = none ∧ p ∉ ι := by
  constructor
  · cases e : F p with
    | none => rfl
    | some o =>
      rw [S.sub p o e] at h
      cases h
  · intro hm
    obtain ⟨l, hl⟩ := List.getElem?_of_mem hm
    have hlt : l < st.length := by rw [← S.len]; exact (List.getElem?_eq_some_iff.mp hl).1
    obtain ⟨a, ha, ro⟩ := S.obj l st[l] (List.getElem?_eq_getElem hlt)
    rw [hl] at ha
    cases ha
    obtain ⟨o, z⟩ := ro.there
    rw [h] at z
    cases z
theorem RO.up {K : PySem.W.Frag} {F F' H H' : Hp} {ι ι' : List Addr} {a : Addr} {o : O} (f : ∀ a o, F a = some o → F' a = some o) (p : ι <+: ι') (h : ∀ o, H a = some o → H' a = some o) (r : RO K cl F ι H a o) : RO K cl F' ι' H' a o := by
  cases r with
  | lst e r => exact .lst (h _ e) (r.up f p)
  | ins c e r => exact .ins c (h _ e) (r.up f p)
  | dicK e r => exact .dicK (h _ e) (r.up f p)
  | dicT e r => exact .dicT (h _ e) (r.up f p)
/-- a new object is laid beside -/
theorem newH {K : PySem.W.Frag} {F H : Hp} {ι : List Addr} {st : Store} (S : Sim K cl F ι H st) {p : Addr} {o : HO} (h : H p = none) : Ext F F ι ι H (upd H p o) ∧ Sim K cl F ι (upd H p o) st := by
  have kp : ∀ a o', H a = some o' → upd H p o a = some o' := fun a o' e => by rw [upd_ne (ne_of_none e h)]; exact e
  refine ⟨⟨fun _ _ e => e, List.prefix_refl _, fun a o' e _ => kp a o' e, fun a o' e => ⟨o', kp a o' e⟩, fun _ _ e => .inl e, fun _ e => .inl e⟩, ?_⟩
  exact ⟨fun a o' e => kp a o' (S.sub a o' e), S.len, S.nd, S.dis, fun l o' e => by
    obtain ⟨a, ha, ro⟩ := S.obj l o' e
    exact ⟨a, ha, ro.up (fun _ _ e => e) (List.prefix_refl _) (kp a)⟩⟩
/-- what stands in the heap, nobody's, becomes frozen -/
theorem freeze {K : PySem.W.Frag} {F F₀ H H₀ : Hp} {ι ι₀ : List Addr} {st : Store} (S : Sim K cl F ι H st) (x : Ext F₀ F ι₀ ι H₀ H) {p : Addr} {o : HO} (h : H p = some o) (hF : F p = none) (hι : p ∉ ι) (h0 : H₀ p = none) :
    Ext F₀ (upd F p o) ι₀ ι H₀ H ∧ Sim K cl (upd F p o) ι H st := by
  have fk : ∀ a o', F a = some o' → upd F p o a = some o' := fun a o' e => by rw [upd_ne (ne_of_none e hF)]; exact e
  refine ⟨⟨fun a o' e => fk a o' (x.f a o' e), x.i, x.h, x.t, fun a o' e => ?_, x.ni⟩, ⟨fun a o' e => ?_, S.len, S.nd, fun a ha => ?_, fun l o' e => ?_⟩⟩
  · by_cases ha : a = p
    · subst ha; exact .inr h0
    · rw [upd_ne ha] at e; exact x.nf a o' e
  · by_cases ha : a = p
    · subst ha; rw [upd_same] at e; cases e; exact h
    · rw [upd_ne ha] at e; exact S.sub a o' e
  · rw [upd_ne (fun z => hι (by rw [← z]; exact ha))]; exact S.dis a ha
  · obtain ⟨a, ha, ro⟩ := S.obj l o' e
    exact ⟨a, ha, ro.up fk (List.prefix_refl _) fun _ e => e⟩
/-- a new frozen object -/
theorem newF {K : PySem.W.Frag} {F H : Hp} {ι : List Addr} {st : Store} (S : Sim K cl F ι H st) {p : Addr} {o : HO} (h : H p = none) : Ext F (upd F p o) ι ι H (upd H p o) ∧ Sim K cl (upd F p o) ι (upd H p o) st := by
  obtain ⟨x, S'⟩ := newH (o := o) S h
  obtain ⟨n1, n2⟩ := S.none_of h
  exact freeze S' x upd_same n1 n2 h
theorem DF.b {e : Expr} {f : Env → M (List D)} (h : DF X cl B W e f) : DB X cl B W e (eFrz f) :=
  weakE h fun σ H Q ⟨F, ι, st, ρ, A, q⟩ => ⟨F, ι, st, ρ, A, Post.bind back_B q fun xs st' F' ι' H' v x S r q => by
    obtain ⟨a, rfl, o, n⟩ := r
    exact q F' ι' H' _ .refl S (.inr ⟨a, xs, rfl, rfl, o⟩)⟩
theorem DF.e {e : Expr} {f : Env → M (List D)} (h : DF X cl B W e f) : DE X cl B W e (eFrz f) :=
  weakE h fun σ H Q ⟨F, ι, st, ρ, A, q⟩ => ⟨F, ι, st, ρ, A, by
    replace q : Post X.K cl (rV X.K cl) F ι H σ W ((f ρ st).bind fun xs => M.ret (.lst xs)) Q := q
    cases e : f ρ st with
    | stuck => rw [e] at q; exact q
    | exc e' st' => rw [e] at q; exact q
    | ok xs st' =>
      rw [e] at q
      intro F' ι' H' v x S r
      obtain ⟨a, rfl, ⟨vs, h1, h2, h3, h4⟩, n⟩ := r
      obtain ⟨y, T⟩ := freeze S x h1 h3 h4 n
      exact q _ ι' H' _ y T (.lst (SqL.of upd_same) (h2.up (fun a o e => by rw [upd_ne (ne_of_none e h3)]; exact e) (List.prefix_refl _)))⟩

/-! ### operators on operands -/
/-- by values: what a look at the store gives, as frozen data -/
def rP2 (K : PySem.W.Frag) (cl : Str → Option Addr) (p : P2) : R2 := fun x y H Q => ∃ F ι st d e z, Sim K cl F ι H st ∧ RB K cl F ι H x d ∧ RB K cl F ι H y e ∧ p d e st = some z ∧
  ∀ F' H' v, Ext F F' ι ι H H' → Sim K cl F' ι H' st → RV K cl F' ι v z → Q v H'
def rP1 (K : PySem.W.Frag) (cl : Str → Option Addr) (p : P1) : V → Hp → VK → Prop := fun x H Q => ∃ F ι st d z, Sim K cl F ι H st ∧ RB K cl F ι H x d ∧ p d st = some z ∧
  ∀ F' H' v, Ext F F' ι ι H H' → Sim K cl F' ι H' st → RV K cl F' ι v z → Q v H'
theorem look_ok {α : Type} {o : Store → Option α} {st : Store} {K : PySem.W.Frag} {β : Type} {rel : Rel α β} {F H : Hp} {ι : List Addr} {σ : L2.St} {Q : β → Hp → Prop} (h : Post K cl rel F ι H σ W (M.look o st) Q) :
    ∃ a, o st = some a ∧ ∀ F' ι' H' v, Ext F F' ι ι' H H' → Sim K cl F' ι' H' st → rel H F' ι' H' v a → Q v H' := by
  unfold M.look at h
  split at h
  · rename_i a e
    exact ⟨a, e, h⟩
  · exact h.elim
theorem tOp2 {p : P2} {ta tb : Env → M D} {σ : L2.St} {H : Hp} {Q : VK} (h : tE X.K cl B W (e2 p ta tb) σ H Q) : tOp (rP2 X.K cl p) (tB X.K cl B W ta) (tB X.K cl B W tb) σ H Q := by
  obtain ⟨F, ι, st, ρ, A, q⟩ := h
  refine ⟨F, ι, st, ρ, A, Post.bind back_V q fun d st1 F1 ι1 H1 v x1 S1 r1 q1 => ?_⟩
  have A1 := A.later x1 S1
  refine ⟨F1, ι1, st1, ρ, A1, Post.bind back_V q1 fun e st2 F2 ι2 H2 u x2 S2 r2 q2 => ?_⟩
  obtain ⟨z, hz, k⟩ := look_ok q2
  exact ⟨F2, ι2, st2, d, e, z, S2, RB.ext x2 r1, r2, hz, fun F' H' v x S r => k F' ι2 H' v x S r⟩
theorem tOp1 {p : P1} {ta : Env → M D} {σ : L2.St} {H : Hp} {Q : VK} (h : tE X.K cl B W (e1 p ta) σ H Q) : tUn (rP1 X.K cl p) (tB X.K cl B W ta) σ H Q := by
  obtain ⟨F, ι, st, ρ, A, q⟩ := h
  refine ⟨F, ι, st, ρ, A, Post.bind back_V q fun d st1 F1 ι1 H1 v x1 S1 r1 q1 => ?_⟩
  obtain ⟨z, hz, k⟩ := look_ok q1
  exact ⟨F1, ι1, st1, d, z, S1, r1, hz, fun F' H' v x S r => k F' ι1 H' v x S r⟩
theorem de_bin {op : Operator} {p : P2} {a b : Expr} {fa fb : Env → M D} (ho : OpR X (binaryOp op) (rP2 X.K cl p)) (ha : DB X cl B W a fa) (hb : DB X cl B W b fb) : DE X cl B W (.BinOp a op b pos) (e2 p fa fb) :=
  weakE (pe_op ho ha hb) fun _ _ _ h => tOp2 h
theorem de_cmp {op : CmpOp} {p : P2} {a b : Expr} {fa fb : Env → M D} (ho : OpR X (compareOp op) (rP2 X.K cl p)) (ha : DB X cl B W a fa) (hb : DB X cl B W b fb) (hm : behindInMarks op b = false) : DE X cl B W (.Compare a [op] [b] pos) (e2 p fa fb) :=
  weakE (pe_cmpR ho ha hb hm) fun _ _ _ h => tOp2 h
theorem de_un {op : UnaryOp} {p : P1} {a : Expr} {fa : Env → M D} (ho : UnR X (unaryOp op) (rP1 X.K cl p)) (ha : DB X cl B W a fa) : DE X cl B W (.UnaryOp op a pos) (e1 p fa) :=
  weakE (pe_un ho ha) fun _ _ _ h => tOp1 h

/-! ### arguments, displays -/
theorem da_nil : DA X cl B W [] eNilA := weakA pa_nil fun σ H Q ⟨F, ι, st, ρ, A, q⟩ => q F ι H [] .refl A.sim .nil
theorem dab_nil : DAB X cl B W [] eNilA := weakA pa_nil fun σ H Q ⟨F, ι, st, ρ, A, q⟩ => q F ι H [] .refl A.sim .nil
theorem da_cons {e : Expr} {es : List Expr} {f : Env → M D} {g : Env → M (List D)} (ha : DE X cl B W e f) (hr : DA X cl B W es g) (hs : starEach (e :: es) X.env = (false, eval e X.env) :: starEach es X.env := by rfl) : DA X cl B W (e :: es) (eConsA f g) :=
  weakA (pa_cons ha hr hs) fun σ H Q ⟨F, ι, st, ρ, A, q⟩ => ⟨F, ι, st, ρ, A, Post.bind back_Vs q fun d st1 F1 ι1 H1 v x1 S1 r1 q1 =>
    ⟨F1, ι1, st1, ρ, A.later x1 S1, Post.bind back_Vs q1 fun ds st2 F2 ι2 H2 vs x2 S2 r2 q2 => q2 F2 ι2 H2 (v :: vs) .refl S2 (.cons (r1.ext x2) r2)⟩⟩
theorem dab_cons {e : Expr} {es : List Expr} {f : Env → M D} {g : Env → M (List D)} (ha : DB X cl B W e f) (hr : DAB X cl B W es g) (hs : starEach (e :: es) X.env = (false, eval e X.env) :: starEach es X.env := by rfl) : DAB X cl B W (e :: es) (eConsA f g) :=
  weakA (pa_cons ha hr hs) fun σ H Q ⟨F, ι, st, ρ, A, q⟩ => ⟨F, ι, st, ρ, A, Post.bind back_Bs q fun d st1 F1 ι1 H1 v x1 S1 r1 q1 =>
    ⟨F1, ι1, st1, ρ, A.later x1 S1, Post.bind back_Bs q1 fun ds st2 F2 ι2 H2 vs x2 S2 r2 q2 => q2 F2 ι2 H2 (v :: vs) .refl S2 (.cons (RB.ext x2 r1) r2)⟩⟩
theorem de_tup {es : List Expr} {f : Env → M (List D)} {x1} (h : DA X cl B W es f) : DE X cl B W (.Tuple es x1 pos) (eTup f) :=
  weakE (pe_tup h) fun σ H Q ⟨F, ι, st, ρ, A, q⟩ => ⟨F, ι, st, ρ, A, Post.bind back_V q fun ds st1 F1 ι1 H1 vs x1 S1 r1 q1 => by
    obtain ⟨z, hz, k⟩ := look_ok q1
    have r1 : RVs X.K cl F1 ι1 vs ds := r1
    split at hz
    · rename_i hle
      cases hz
      refine ⟨by rw [r1.length]; exact hle, fun p hp => ?_⟩
      obtain ⟨y, T⟩ := newF (o := .tup vs) S1 hp
      exact k _ ι1 _ _ y T (.tup upd_same (r1.ext y))
    · cases hz⟩
theorem df_lst {es : List Expr} {f : Env → M (List D)} (h : DA X cl B W es f) : DF X cl B W (.List es pos) (fLst f) :=
  weakE (pe_lst h) fun σ H Q ⟨F, ι, st, ρ, A, q⟩ => ⟨F, ι, st, ρ, A, Post.bind back_F q fun ds st1 F1 ι1 H1 vs x1 S1 r1 q1 => by
    obtain ⟨z, hz, k⟩ := look_ok q1
    have r1 : RVs X.K cl F1 ι1 vs ds := r1
    split at hz
    · rename_i hle
      cases hz
      refine ⟨by rw [r1.length]; exact hle, fun p hp => ?_⟩
      obtain ⟨y, T⟩ := newH (o := .lst vs) S1 hp
      obtain ⟨n1, n2⟩ := S1.none_of hp
      exact k _ ι1 _ _ y T ⟨p, rfl, ⟨vs, upd_same, r1.ext y, n1, n2⟩, hp⟩
    · cases hz⟩
end

/-! ### tests -/
/-- a value's truth, by the store -/
def tru : D → Store → Option Bool
  | .non, _ => some false
  | .bool b, _ => some b
  | .int i, _ => some (i != 0)
  | .str y, _ => if y.length ≤ sizeLine then some ((y.length : Int) != 0) else none
  | .tup ds, _ => some (!ds.isEmpty)
  | .lst ds, _ => some (!ds.isEmpty)
  | .loc l, st => match st[l]? with
    | some (.lst ds) => some (!ds.isEmpty)
    | _ => none
  | _, _ => none
def tTru (f : Env → M D) : Env → M Bool := fun ρ => (f ρ).bind fun x => M.look (tru x)
def tOfB (f : Env → M D) : Env → M Bool := fun ρ => (f ρ).bind fun x => M.look fun _ => match x with
  | .bool b => some b
  | _ => none
def mAnd (f g : Env → M Bool) : Env → M Bool := fun ρ => (f ρ).bind fun c => if c = true then g ρ else M.ret false
def mOr (f g : Env → M Bool) : Env → M Bool := fun ρ => (f ρ).bind fun c => if c = true then M.ret true else g ρ
def mNot (f : Env → M Bool) : Env → M Bool := fun ρ => (f ρ).bind fun c => M.ret (!c)
def eAnd (f g : Env → M D) : Env → M D := fun ρ => (f ρ).bind fun c => match c with
  | .bool true => g ρ
  | .bool false => M.ret (.bool false)
  | _ => M.stuck
def eOr (f g : Env → M D) : Env → M D := fun ρ => (f ρ).bind fun c => match c with
  | .bool true => M.ret (.bool true)
  | .bool false => g ρ
  | _ => M.stuck
def eNot (f : Env → M D) : Env → M D := fun ρ => (f ρ).bind fun c => match c with
  | .bool b => M.ret (.bool (!b))
  | _ => M.stuck
def eIf (c : Env → M Bool) (f g : Env → M D) : Env → M D := fun ρ => (c ρ).bind fun b => if b = true then f ρ else g ρ
theorem isEmpty_len {α β : Type} {l : List α} {m : List β} (h : l.length = m.length) : l.isEmpty = m.isEmpty := by
  cases l <;> cases m <;> simp_all
section
variable {X : Cx} {cl : Str → Option Addr} {B : Base} {W : WX} {pos : Pos}
/-- the list that an operand is, as it stands -/
theorem RB.list {K : PySem.W.Frag} {F H : Hp} {ι : List Addr} {st : Store} (S : Sim K cl F ι H st) {v : V} {xs : List D} (r : RB K cl F ι H v (.lst xs)) : ∃ a vs, v = .ref a ∧ SqL K H a vs ∧ RVs K cl F ι vs xs := by
  rcases r with r | ⟨a, ys, rfl, e, vs, h, r, _⟩
  · cases r with
    | lst s r => exact ⟨_, _, rfl, SqL.up S.sub s, r⟩
  · cases e
    exact ⟨a, vs, rfl, SqL.of h, r⟩
theorem RB.tuple {K : PySem.W.Frag} {F H : Hp} {ι : List Addr} {st : Store} (S : Sim K cl F ι H st) {v : V} {xs : List D} (r : RB K cl F ι H v (.tup xs)) : ∃ a vs, v = .ref a ∧ SqT K H a vs ∧ RVs K cl F ι vs xs := by
  rcases r with r | ⟨a, ys, rfl, e, _⟩
  · cases r with
    | tup s r => exact ⟨_, _, rfl, SqT.of (S.sub _ _ s), r⟩
  · cases e
theorem RB.loc {K : PySem.W.Frag} {F H : Hp} {ι : List Addr} {st : Store} (S : Sim K cl F ι H st) {v : V} {l : Nat} {o : O} (r : RB K cl F ι H v (.loc l)) (e : st[l]? = some o) : ∃ a, v = .ref a ∧ ι[l]? = some a ∧ RO K cl F ι H a o := by
  rcases r with r | ⟨a, ys, rfl, e', _⟩
  · cases r with
    | loc hl =>
      obtain ⟨a, ha, ro⟩ := S.obj l o e
      rw [hl] at ha
      cases ha
      exact ⟨_, rfl, hl, ro⟩
  · cases e'
theorem RB.int {K : PySem.W.Frag} {F H : Hp} {ι : List Addr} {v : V} {i : Int} (r : RB K cl F ι H v (.int i)) : v = .int i := by
  rcases r with r | ⟨_, _, _, e, _⟩
  · cases r; rfl
  · cases e
theorem RB.str {K : PySem.W.Frag} {F H : Hp} {ι : List Addr} {v : V} {i : Str} (r : RB K cl F ι H v (.str i)) : v = .str i := by
  rcases r with r | ⟨_, _, _, e, _⟩
  · cases r; rfl
  · cases e
theorem RB.bool {K : PySem.W.Frag} {F H : Hp} {ι : List Addr} {v : V} {i : Bool} (r : RB K cl F ι H v (.bool i)) : v = .bl i := by
  rcases r with r | ⟨_, _, _, e, _⟩
  · cases r; rfl
  · cases e
theorem RB.non {K : PySem.W.Frag} {F H : Hp} {ι : List Addr} {v : V} (r : RB K cl F ι H v .non) : v = .non := by
  rcases r with r | ⟨_, _, _, e, _⟩
  · cases r; rfl
  · cases e
theorem tru_of {K : PySem.W.Frag} {F H : Hp} {ι : List Addr} {st : Store} (S : Sim K cl F ι H st) {v : V} {d : D} {b : Bool} (r : RB K cl F ι H v d) (h : tru d st = some b) : TruV K v H b := by
  cases d with
  | non => rw [r.non]; simp only [tru, Option.some.injEq] at h; subst h; exact rfl
  | bool i => rw [r.bool]; simp only [tru, Option.some.injEq] at h; exact h.symm
  | int i => rw [r.int]; simp only [tru, Option.some.injEq] at h; exact h.symm
  | str i =>
    rw [r.str]
    simp only [tru] at h
    split at h
    · rename_i hl
      cases h
      exact ⟨hl, rfl⟩
    · cases h
  | tup ds =>
    obtain ⟨a, vs, rfl, s, r⟩ := r.tuple S
    simp only [tru, Option.some.injEq] at h
    exact .inr (.inl ⟨vs, s, by rw [← h, isEmpty_len r.length]⟩)
  | lst ds =>
    obtain ⟨a, vs, rfl, s, r⟩ := r.list S
    simp only [tru, Option.some.injEq] at h
    exact .inl ⟨vs, s, by rw [← h, isEmpty_len r.length]⟩
  | loc l =>
    simp only [tru] at h
    split at h
    · rename_i ds e
      obtain ⟨a, rfl, ha, ro⟩ := r.loc S e
      cases h
      cases ro with
      | lst hh rr => exact .inl ⟨_, SqL.of hh, by rw [isEmpty_len rr.length]⟩
    · cases h
  | dic _ => cases h
  | dit _ => cases h
  | ins _ _ => cases h
theorem dt_tru {e : Expr} {f : Env → M D} (h : DB X cl B W e f) (he : ∀ whole, isTrue e X.env whole = (do let v ← whole; standAt e.pos; holding [v] (truthy v)) := by intro _; rfl) : DT X cl B W e (tTru f) :=
  weakT (pt_truth h he) fun σ H Q ⟨F, ι, st, ρ, A, q⟩ => ⟨F, ι, st, ρ, A, Post.bind back_T q fun d st1 F1 ι1 H1 v x1 S1 r1 q1 => by
    obtain ⟨z, hz, k⟩ := look_ok q1
    exact ⟨z, tru_of S1 r1 hz, k F1 ι1 H1 z .refl S1 rfl⟩⟩
theorem dt_val {e : Expr} {f : Env → M D} (h : DB X cl B W e f) (he : ∀ whole, isTrue e X.env whole = (do let v ← whole; standAt e.pos; holding [v] (truthy v)) := by intro _; rfl) : DT X cl B W e (tOfB f) :=
  weakT (pt_val h he) fun σ H Q ⟨F, ι, st, ρ, A, q⟩ => ⟨F, ι, st, ρ, A, Post.bind back_T q fun d st1 F1 ι1 H1 v x1 S1 r1 q1 => by
    obtain ⟨z, hz, k⟩ := look_ok q1
    split at hz
    · cases hz
      exact ⟨z, RB.bool r1, k F1 ι1 H1 z .refl S1 rfl⟩
    · cases hz⟩
theorem bite {A : Prop} {c : Bool} {P Q : Prop} (h1 : c = true → A → P) (h2 : c = false → A → Q) (a : A) : if c = true then P else Q := by
  cases c
  · rw [if_neg Bool.false_ne_true]; exact h2 rfl a
  · rw [if_pos rfl]; exact h1 rfl a
theorem dt_not {e : Expr} {f : Env → M Bool} (h : DT X cl B W e f) : DT X cl B W (.UnaryOp .Not e pos) (mNot f) :=
  weakT (pt_not h) fun σ H Q ⟨F, ι, st, ρ, A, q⟩ => ⟨F, ι, st, ρ, A, Post.bind back_T q fun d st1 F1 ι1 H1 v x1 S1 r1 q1 => by
    cases r1
    exact q1 F1 ι1 H1 _ .refl S1 rfl⟩
theorem DW.t {e : Expr} {f : Env → M Bool} (h : DW X cl B W e f) : DT X cl B W e f := h.pt
theorem dw_and1 {a : Expr} {f : Env → M Bool} (h : DT X cl B W a f) : DW X cl B W (.BoolOp .And [a] pos) f := pw_and1 h
theorem dw_or1 {a : Expr} {f : Env → M Bool} (h : DT X cl B W a f) : DW X cl B W (.BoolOp .Or [a] pos) f := pw_or1 h
theorem dw_and {a b : Expr} {rest : List Expr} {f g : Env → M Bool} (ha : DT X cl B W a f) (hb : DW X cl B W (.BoolOp .And (b :: rest) pos) g) : DW X cl B W (.BoolOp .And (a :: b :: rest) pos) (mAnd f g) :=
  weakW (pw_and ha hb) fun σ H Q ⟨F, ι, st, ρ, A, q⟩ => ⟨F, ι, st, ρ, A, Post.bind back_T q fun d st1 F1 ι1 H1 v x1 S1 r1 q1 => by
    cases r1
    refine bite (fun e q1 => ?_) (fun e q1 => ?_) q1
    · subst e; exact ⟨F1, ι1, st1, ρ, A.later x1 S1, q1⟩
    · subst e; exact q1 F1 ι1 H1 _ .refl S1 rfl⟩
theorem dw_or {a b : Expr} {rest : List Expr} {f g : Env → M Bool} (ha : DT X cl B W a f) (hb : DW X cl B W (.BoolOp .Or (b :: rest) pos) g) : DW X cl B W (.BoolOp .Or (a :: b :: rest) pos) (mOr f g) :=
  weakW (pw_or ha hb) fun σ H Q ⟨F, ι, st, ρ, A, q⟩ => ⟨F, ι, st, ρ, A, Post.bind back_T q fun d st1 F1 ι1 H1 v x1 S1 r1 q1 => by
    cases r1
    refine bite (fun e q1 => ?_) (fun e q1 => ?_) q1
    · subst e; exact q1 F1 ι1 H1 _ .refl S1 rfl
    · subst e; exact ⟨F1, ι1, st1, ρ, A.later x1 S1, q1⟩⟩
theorem de_one {op} {a : Expr} {f : Env → M D} (h : DE X cl B W a f) : DE X cl B W (.BoolOp op [a] pos) f := pe_one h
theorem de_and {a b : Expr} {rest : List Expr} {f g : Env → M D} (ha : DE X cl B W a f) (hb : DE X cl B W (.BoolOp .And (b :: rest) pos) g) : DE X cl B W (.BoolOp .And (a :: b :: rest) pos) (eAnd f g) :=
  weakE (pe_and ha hb) fun σ H Q ⟨F, ι, st, ρ, A, q⟩ => ⟨F, ι, st, ρ, A, Post.bind back_V q fun d st1 F1 ι1 H1 v x1 S1 r1 q1 => by
    split at q1
    · cases r1; exact ⟨_, rfl, ⟨F1, ι1, st1, ρ, A.later x1 S1, q1⟩⟩
    · cases r1; exact ⟨_, rfl, q1 F1 ι1 H1 _ .refl S1 (.bool false)⟩
    · exact q1.elim⟩
theorem de_or {a b : Expr} {rest : List Expr} {f g : Env → M D} (ha : DE X cl B W a f) (hb : DE X cl B W (.BoolOp .Or (b :: rest) pos) g) : DE X cl B W (.BoolOp .Or (a :: b :: rest) pos) (eOr f g) :=
  weakE (pe_or ha hb) fun σ H Q ⟨F, ι, st, ρ, A, q⟩ => ⟨F, ι, st, ρ, A, Post.bind back_V q fun d st1 F1 ι1 H1 v x1 S1 r1 q1 => by
    split at q1
    · cases r1; exact ⟨_, rfl, q1 F1 ι1 H1 _ .refl S1 (.bool true)⟩
    · cases r1; exact ⟨_, rfl, ⟨F1, ι1, st1, ρ, A.later x1 S1, q1⟩⟩
    · exact q1.elim⟩
theorem de_not {a : Expr} {f : Env → M D} (h : DE X cl B W a f) : DE X cl B W (.UnaryOp .Not a pos) (eNot f) :=
  weakE (pe_not h) fun σ H Q ⟨F, ι, st, ρ, A, q⟩ => ⟨F, ι, st, ρ, A, Post.bind back_V q fun d st1 F1 ι1 H1 v x1 S1 r1 q1 => by
    split at q1
    · cases r1; exact ⟨_, rfl, q1 F1 ι1 H1 _ .refl S1 (.bool _)⟩
    · exact q1.elim⟩
theorem de_if {c a b : Expr} {fc : Env → M Bool} {f g : Env → M D} (hc : DT X cl B W c fc) (ha : DE X cl B W a f) (hb : DE X cl B W b g) : DE X cl B W (.IfExp c a b pos) (eIf fc f g) :=
  weakE (pe_ifExp hc ha hb) fun σ H Q ⟨F, ι, st, ρ, A, q⟩ => ⟨F, ι, st, ρ, A, Post.bind back_V q fun d st1 F1 ι1 H1 v x1 S1 r1 q1 => by
    cases r1
    refine bite (fun e q1 => ?_) (fun e q1 => ?_) q1
    · subst e; exact ⟨F1, ι1, st1, ρ, A.later x1 S1, q1⟩
    · subst e; exact ⟨F1, ι1, st1, ρ, A.later x1 S1, q1⟩⟩
end
end DL
end
section
/-! DL3: statements, loops, the call of a def. -/
namespace DL
open PySem PySem.Spec PyProof.Rows L2

/-- how a statement ends -/
inductive SR where
  | next (ρ : Env) (st : Store)
  | ret (d : D) (st : Store)
  | brk (ρ : Env) (st : Store)
  | cont (ρ : Env) (st : Store)
  | exc (e : XD) (ρ : Env) (st : Store)
  | stuck
abbrev SM := Env → Store → SR
def Le (F : Hp) (ι : List Addr) (F' : Hp) (ι' : List Addr) : Prop := (∀ a o, F a = some o → F' a = some o) ∧ ι <+: ι'
theorem Le.refl (F : Hp) (ι : List Addr) : Le F ι F ι := ⟨fun _ _ h => h, List.prefix_refl _⟩
theorem Le.trans {F F' F2 : Hp} {ι ι' ι2 : List Addr} (x : Le F ι F' ι') (y : Le F' ι' F2 ι2) : Le F ι F2 ι2 := ⟨fun a o h => y.1 a o (x.1 a o h), x.2.trans y.2⟩
theorem Ext.le {F F' H H' : Hp} {ι ι' : List Addr} (x : Ext F F' ι ι' H H') : Le F ι F' ι' := ⟨x.f, x.i⟩
section
variable (K : PySem.W.Frag) (cl : Str → Option Addr) (B : Base) (W : WX)
def PostS (F₀ : Hp) (ι₀ : List Addr) (D : Ends) : SR → Prop
  | .next ρ st => ∀ F ι H σ, Le F₀ ι₀ F ι → At K cl B F ι H st σ ρ → D.nx σ H
  | .brk ρ st => ∀ F ι H σ, Le F₀ ι₀ F ι → At K cl B F ι H st σ ρ → D.bk σ H
  | .cont ρ st => ∀ F ι H σ, Le F₀ ι₀ F ι → At K cl B F ι H st σ ρ → D.ct σ H
  | .ret d st => ∀ F ι H v, Ext B.F F B.ι ι B.H H → Sim K cl F ι H st → RV K cl F ι v d → D.rt v H
  | .exc e ρ st => ∀ F ι H σ cv dd, Le F₀ ι₀ F ι → At K cl B F ι H st σ ρ → RX K cl F ι H cv dd e → W cv dd σ H
  | .stuck => False
def tS (f : SM) : TS := fun D σ H => ∃ F ι st ρ, At K cl B F ι H st σ ρ ∧ PostS K cl B W F ι D (f ρ st)
end
theorem PostS.later {K : PySem.W.Frag} {cl : Str → Option Addr} {B : Base} {W : WX} {F F' : Hp} {ι ι' : List Addr} {D : Ends} {r : SR} (l : Le F ι F' ι') (h : PostS K cl B W F ι D r) : PostS K cl B W F' ι' D r := by
  cases r with
  | next ρ st => exact fun F ι H σ l' A => h F ι H σ (l.trans l') A
  | brk ρ st => exact fun F ι H σ l' A => h F ι H σ (l.trans l') A
  | cont ρ st => exact fun F ι H σ l' A => h F ι H σ (l.trans l') A
  | ret d st => exact h
  | exc e ρ st => exact fun F ι H σ cv dd l' A => h F ι H σ cv dd (l.trans l') A
  | stuck => exact h
abbrev DS (X : Cx) (cl : Str → Option Addr) (B : Base) (W : WX) (s : Stmt) (f : SM) : Prop := PS X s (tS X.K cl B W f)
abbrev DSs (X : Cx) (cl : Str → Option Addr) (B : Base) (W : WX) (s : List Stmt) (f : SM) : Prop := PSs X s (tS X.K cl B W f)
theorem weakS {X : Cx} {e : Stmt} {t t' : TS} (h : PS X e t) (k : ∀ D σ H, t' D σ H → t D σ H) : PS X e t' := ⟨fun pins s σ H Q I q => h.run pins s σ H Q I (k Q σ H q)⟩
theorem weakSs {X : Cx} {e : List Stmt} {t t' : TS} (h : PSs X e t) (k : ∀ D σ H, t' D σ H → t D σ H) : PSs X e t' := ⟨fun pins s σ H Q I q => h.run pins s σ H Q I (k Q σ H q)⟩

/-- an expression ahead of a statement -/
def R.then {α : Type} (r : R α) (ρ : Env) (k : α → Store → SR) : SR := match r with
  | .ok a st => k a st
  | .exc e st => .exc e ρ st
  | .stuck => .stuck
@[simp] theorem R.then_ok {α : Type} (a : α) (st : Store) (ρ : Env) (k : α → Store → SR) : (R.ok a st).then ρ k = k a st := rfl
@[simp] theorem R.then_exc {α : Type} (e : XD) (st : Store) (ρ : Env) (k : α → Store → SR) : (R.exc e st : R α).then ρ k = .exc e ρ st := rfl
@[simp] theorem R.then_stuck {α : Type} (ρ : Env) (k : α → Store → SR) : (R.stuck : R α).then ρ k = .stuck := rfl
def SR.then (r : SR) (g : SM) : SR := match r with
  | .next ρ st => g ρ st
  | r => r
@[simp] theorem SR.then_next (ρ : Env) (st : Store) (g : SM) : (SR.next ρ st).then g = g ρ st := rfl
@[simp] theorem SR.then_ret (d : D) (st : Store) (g : SM) : (SR.ret d st).then g = .ret d st := rfl
@[simp] theorem SR.then_brk (ρ : Env) (st : Store) (g : SM) : (SR.brk ρ st).then g = .brk ρ st := rfl
@[simp] theorem SR.then_cont (ρ : Env) (st : Store) (g : SM) : (SR.cont ρ st).then g = .cont ρ st := rfl
@[simp] theorem SR.then_exc (e : XD) (ρ : Env) (st : Store) (g : SM) : (SR.exc e ρ st).then g = .exc e ρ st := rfl
@[simp] theorem SR.then_stuck (g : SM) : SR.stuck.then g = .stuck := rfl

/-! ### mirrors -/
def sNext : SM := fun ρ st => .next ρ st
def sSeq (f g : SM) : SM := fun ρ st => (f ρ st).then g
def sBrk : SM := fun ρ st => .brk ρ st
def sCont : SM := fun ρ st => .cont ρ st
def sRet (f : Env → M D) : SM := fun ρ st => (f ρ st).then ρ fun d st => .ret d st
def sRetN : SM := fun _ st => .ret .non st
def sExpr (f : Env → M D) : SM := fun ρ st => (f ρ st).then ρ fun _ st => .next ρ st
def sIf (c : Env → M Bool) (f g : SM) : SM := fun ρ st => (c ρ st).then ρ fun b st => if b = true then f ρ st else g ρ st
/-- targets -/
abbrev GM := D → Env → Option Env
def gVar (i : Nat) : GM := fun d ρ => some (ρ.set i (.val d))
abbrev GMs := List D → Env → Option Env
def gsNil : GMs := fun ds ρ => match ds with
  | [] => some ρ
  | _ => none
def gsCons (g : GM) (gs : GMs) : GMs := fun ds ρ => match ds with
  | [] => none
  | d :: ds => (g d ρ).bind (gs ds)
def gTupM (gs : GMs) : GM := fun d ρ => match d with
  | .tup ds => gs ds ρ
  | _ => none
def gLstM (gs : GMs) : GM := fun d ρ => match d with
  | .lst ds => gs ds ρ
  | _ => none
def sAsg (f : Env → M D) (g : GM) : SM := fun ρ st => (f ρ st).then ρ fun d st => match g d ρ with
  | some ρ' => .next ρ' st
  | none => .stuck
def sOwn (i : Nat) (f : Env → M (List D)) : SM := fun ρ st => (f ρ st).then ρ fun xs st => .next (ρ.set i (.own xs)) st
def sFrz (i : Nat) (g : SM) : SM := fun ρ st => match ρ[i]? with
  | some (.own xs) => g (ρ.set i (.val (.lst xs))) st
  | _ => .stuck
def sNone (i : Nat) (g : SM) : SM := fun ρ st => g (ρ.set i .none) st
def forL (g : GM) (body : SM) : List D → SM
  | [], ρ, st => .next ρ st
  | x :: xs, ρ, st => match g x ρ with
    | none => .stuck
    | some ρ1 => match body ρ1 st with
      | .next ρ2 st2 => forL g body xs ρ2 st2
      | .cont ρ2 st2 => forL g body xs ρ2 st2
      | .brk ρ2 st2 => .next ρ2 st2
      | .ret d st2 => .ret d st2
      | .exc e ρ2 st2 => .exc e ρ2 st2
      | .stuck => .stuck
def sFor (src : Env → M (List D)) (g : GM) (body : SM) : SM := fun ρ st => (src ρ st).then ρ fun xs st => forL g body xs ρ st
def whileL (c : Env → M Bool) (body : SM) : Nat → SM
  | 0, _, _ => .stuck
  | n + 1, ρ, st => (c ρ st).then ρ fun b st => if b = true then (match body ρ st with
      | .next ρ2 st2 => whileL c body n ρ2 st2
      | .cont ρ2 st2 => whileL c body n ρ2 st2
      | .brk ρ2 st2 => .next ρ2 st2
      | .ret d st2 => .ret d st2
      | .exc e ρ2 st2 => .exc e ρ2 st2
      | .stuck => .stuck) else .next ρ st
def sWhile (n : Nat) (c : Env → M Bool) (body : SM) : SM := whileL c body n

section
variable {X : Cx} {cl : Str → Option Addr} {B : Base} {W : WX} {pos : Pos}
/-- an expression's result, then the rest of a statement -/
theorem PostS.bind {α β : Type} {rel : Rel α β} {K : PySem.W.Frag} {F H : Hp} {ι : List Addr} {st : Store} {σ : L2.St} {ρ : Env} {r : R α} {k : α → Store → SR} {D : Ends} {Q : β → Hp → Prop}
    (A : At K cl B F ι H st σ ρ) (h : PostS K cl B W F ι D (r.then ρ k))
    (q : ∀ a st' F' ι' H' v, Ext F F' ι ι' H H' → Sim K cl F' ι' H' st' → rel H F' ι' H' v a → PostS K cl B W F' ι' D (k a st') → Q v H') : Post K cl rel F ι H σ W r Q := by
  cases r with
  | ok a st' => exact fun F' ι' H' v x S r => q a st' F' ι' H' v x S r (PostS.later x.le h)
  | exc e st' => exact fun F' ι' H' cv dd x S r => h F' ι' H' σ cv dd x.le (A.later x S) r
  | stuck => exact h
theorem PostS.nx {K : PySem.W.Frag} {F : Hp} {ι : List Addr} {r : SR} {g : SM} {D : Ends} (h : PostS K cl B W F ι D (r.then g)) : PostS K cl B W F ι { D with nx := tS K cl B W g D } r := by
  cases r with
  | next ρ st => exact fun F ι H σ l A => ⟨F, ι, st, ρ, A, PostS.later l h⟩
  | ret d st => exact h
  | brk ρ st => exact h
  | cont ρ st => exact h
  | exc e ρ st => exact h
  | stuck => exact h
theorem dss_nil : DSs X cl B W [] sNext := weakSs pss_nil fun D σ H ⟨F, ι, st, ρ, A, q⟩ => q F ι H σ (.refl F ι) A
theorem dss_cons {s : Stmt} {ss : List Stmt} {f g : SM} (h1 : DS X cl B W s f) (h2 : DSs X cl B W ss g) : DSs X cl B W (s :: ss) (sSeq f g) :=
  weakSs (pss_cons h1 h2) fun D σ H ⟨F, ι, st, ρ, A, q⟩ => ⟨F, ι, st, ρ, A, PostS.nx q⟩
theorem dss_one {s : Stmt} {f : SM} (h1 : DS X cl B W s f) : DSs X cl B W [s] f := pss_one h1
theorem ds_pass : DS X cl B W (.Pass pos) sNext := weakS ps_pass fun D σ H ⟨F, ι, st, ρ, A, q⟩ => q F ι H σ (.refl F ι) A
theorem ds_break : DS X cl B W (.Break pos) sBrk := weakS ps_break fun D σ H ⟨F, ι, st, ρ, A, q⟩ => q F ι H σ (.refl F ι) A
theorem ds_continue : DS X cl B W (.Continue pos) sCont := weakS ps_continue fun D σ H ⟨F, ι, st, ρ, A, q⟩ => q F ι H σ (.refl F ι) A
theorem ds_ret {e : Expr} {f : Env → M D} (h : DE X cl B W e f) : DS X cl B W (.Return (some e) pos) (sRet f) :=
  weakS (ps_ret h) fun D σ H ⟨F, ι, st, ρ, A, q⟩ => ⟨F, ι, st, ρ, A, PostS.bind A q fun d st' F' ι' H' v x S r p => p F' ι' H' v (A.ext.trans x) S r⟩
theorem ds_retN : DS X cl B W (.Return none pos) sRetN :=
  weakS ps_retN fun D σ H ⟨F, ι, st, ρ, A, q⟩ => q F ι H _ A.ext A.sim .non
theorem ds_expr {e : Expr} {f : Env → M D} (h : DB X cl B W e f) (hs : swapsWith e none pos.line X.env = pure false := by rfl) : DS X cl B W (.Expr e pos) (sExpr f) :=
  weakS (ps_expr h hs) fun D σ H ⟨F, ι, st, ρ, A, q⟩ => ⟨F, ι, st, ρ, A, PostS.bind A q fun d st' F' ι' H' v x S r p => p F' ι' H' σ (.refl F' ι') (A.later x S)⟩
theorem ds_if {c : Expr} {a b : List Stmt} {fc : Env → M Bool} {f g : SM} (hc : DT X cl B W c fc) (ha : DSs X cl B W a f) (hb : DSs X cl B W b g) : DS X cl B W (.If c a b pos) (sIf fc f g) :=
  weakS (ps_if hc ha hb) fun D σ H ⟨F, ι, st, ρ, A, q⟩ => ⟨F, ι, st, ρ, A, PostS.bind A q fun d st' F' ι' H' v x S r p => by
    cases r
    refine bite (fun e p => ?_) (fun e p => ?_) p
    · subst e; exact ⟨F', ι', st', ρ, A.later x S, p⟩
    · subst e; exact ⟨F', ι', st', ρ, A.later x S, p⟩⟩

/-! ### stores to slots -/
theorem At.setVal {K : PySem.W.Frag} {F H : Hp} {ι : List Addr} {st : Store} {σ : L2.St} {ρ : Env} {i : Nat} {v : V} {d : D} (A : At K cl B F ι H st σ ρ) (r : RV K cl F ι v d) : At K cl B F ι H st (σ.set i (some v)) (ρ.set i (.val d)) := by
  have own_ne : ∀ (j : Nat) (xs : List D), (ρ.set i (.val d))[j]? = some (.own xs) → j ≠ i ∧ ρ[j]? = some (.own xs) := fun j xs e => by
    by_cases hj : i = j
    · subst hj
      rw [List.getElem?_set_self'] at e
      cases h : ρ[i]? with
      | none => rw [h] at e; cases e
      | some s => rw [h] at e; cases e
    · rw [List.getElem?_set_ne hj] at e
      exact ⟨Ne.symm hj, e⟩
  refine ⟨A.sim, A.ext, by simp [A.len], fun j o s h1 h2 => ?_, fun j k a xs ys h1 h2 h3 h4 => ?_⟩
  · by_cases hj : i = j
    · subst hj
      rw [List.getElem?_set_self'] at h1 h2
      cases e1 : σ[i]? with
      | none => rw [e1] at h1; cases h1
      | some o' =>
        cases e2 : ρ[i]? with
        | none => rw [e2] at h2; cases h2
        | some s' =>
          rw [e1] at h1; rw [e2] at h2
          cases h1; cases h2
          exact .val r
    · rw [List.getElem?_set_ne hj] at h1 h2
      exact A.env j o s h1 h2
  · obtain ⟨n1, e1⟩ := own_ne j xs h1
    obtain ⟨n2, e2⟩ := own_ne k ys h2
    rw [List.getElem?_set_ne n1.symm] at h3
    rw [List.getElem?_set_ne n2.symm] at h4
    exact A.two j k a xs ys e1 e2 h3 h4
theorem At.setOwn {K : PySem.W.Frag} {F H : Hp} {ι : List Addr} {st : Store} {σ : L2.St} {ρ : Env} {i : Nat} {a : Addr} {xs : List D} (A : At K cl B F ι H st σ ρ) (r : OwnL K cl F ι H a xs) (n : B.H a = none)
    (f : ∀ (j : Nat) (ys : List D), ρ[j]? = some (.own ys) → j ≠ i → σ[j]? ≠ some (some (V.ref a))) : At K cl B F ι H st (σ.set i (some (.ref a))) (ρ.set i (.own xs)) := by
  refine ⟨A.sim, A.ext, by simp [A.len], fun j o s h1 h2 => ?_, fun j k b us ys h1 h2 h3 h4 => ?_⟩
  · by_cases hj : i = j
    · subst hj
      rw [List.getElem?_set_self'] at h1 h2
      cases e1 : σ[i]? with
      | none => rw [e1] at h1; cases h1
      | some o' =>
        cases e2 : ρ[i]? with
        | none => rw [e2] at h2; cases h2
        | some s' =>
          rw [e1] at h1; rw [e2] at h2
          cases h1; cases h2
          exact .own r n
    · rw [List.getElem?_set_ne hj] at h1 h2
      exact A.env j o s h1 h2
  · by_cases hj : i = j
    · by_cases hk : i = k
      · rw [← hj, ← hk]
      · rw [List.getElem?_set_ne hk] at h2 h4
        subst hj
        rw [List.getElem?_set_self'] at h3
        cases e1 : σ[i]? with
        | none => rw [e1] at h3; cases h3
        | some o' =>
          rw [e1] at h3
          cases h3
          exact absurd h4 (f k ys h2 (Ne.symm hk))
    · rw [List.getElem?_set_ne hj] at h1 h3
      by_cases hk : i = k
      · subst hk
        rw [List.getElem?_set_self'] at h4
        cases e1 : σ[i]? with
        | none => rw [e1] at h4; cases h4
        | some o' =>
          rw [e1] at h4
          cases h4
          exact absurd h3 (f j us h1 (Ne.symm hj))
      · rw [List.getElem?_set_ne hk] at h2 h4
        exact A.two j k b us ys h1 h2 h3 h4
/-- a new list is nobody's -/
theorem At.fresh {K : PySem.W.Frag} {F H : Hp} {ι : List Addr} {st : Store} {σ : L2.St} {ρ : Env} {a : Addr} (A : At K cl B F ι H st σ ρ) (h : H a = none) : ∀ (j : Nat) (ys : List D), ρ[j]? = some (.own ys) → σ[j]? ≠ some (some (V.ref a)) := fun j ys e q => by
  have z := A.env j _ _ q e
  cases z with
  | own o n =>
    obtain ⟨vs, hh, _⟩ := o
    rw [h] at hh
    cases hh
/-- the slot's list, no longer one's own -/
theorem At.frz {K : PySem.W.Frag} {F H : Hp} {ι : List Addr} {st : Store} {σ : L2.St} {ρ : Env} {i : Nat} {xs : List D} (A : At K cl B F ι H st σ ρ) (e : ρ[i]? = some (.own xs)) : ∃ F', Le F ι F' ι ∧ At K cl B F' ι H st σ (ρ.set i (.val (.lst xs))) := by
  have hi : i < σ.length := by rw [A.len]; exact (List.getElem?_eq_some_iff.mp e).1
  have eσ : σ[i]? = some σ[i] := List.getElem?_eq_getElem hi
  have z := A.env i _ _ eσ e
  generalize σ[i] = o at eσ z
  cases z with
  | own r n =>
    rename_i a
    obtain ⟨vs, h1, h2, h3, h4⟩ := r
    obtain ⟨y, T⟩ := freeze A.sim A.ext h1 h3 h4 n
    have fk : ∀ b o, F b = some o → upd F a (.lst vs) b = some o := fun b o e => by rw [upd_ne (ne_of_none e h3)]; exact e
    refine ⟨upd F a (.lst vs), ⟨fk, List.prefix_refl _⟩, T, y, by simp [A.len], fun j o s q1 q2 => ?_, fun j k b us ys q1 q2 q3 q4 => ?_⟩
    · by_cases hj : i = j
      · subst hj
        rw [eσ] at q1
        rw [List.getElem?_set_self', e] at q2
        cases q1; cases q2
        exact .val (.lst (SqL.of upd_same) (h2.up fk (List.prefix_refl _)))
      · rw [List.getElem?_set_ne hj] at q2
        cases A.env j o s q1 q2 with
        | none o => exact .none o
        | val r => exact .val (r.up fk (List.prefix_refl _))
        | bor r => exact .bor r
        | own r n' =>
          obtain ⟨vs', g1, g2, g3, g4⟩ := r
          rename_i a' ys
          refine .own ⟨vs', g1, g2.up fk (List.prefix_refl _), ?_, g4⟩ n'
          rw [upd_ne fun z => hj (A.two i j a xs ys e q2 eσ (by rw [q1, z]))]
          exact g3
    · have own_ne : ∀ (j : Nat) (xs' : List D), (ρ.set i (.val (.lst xs)))[j]? = some (.own xs') → ρ[j]? = some (.own xs') := fun j xs' q => by
        by_cases hj : i = j
        · subst hj
          rw [List.getElem?_set_self', e] at q
          cases q
        · rw [List.getElem?_set_ne hj] at q
          exact q
      exact A.two j k b us ys (own_ne j us q1) (own_ne k ys q2) q3 q4
theorem At.weakNone {K : PySem.W.Frag} {F H : Hp} {ι : List Addr} {st : Store} {σ : L2.St} {ρ : Env} (i : Nat) (A : At K cl B F ι H st σ ρ) : At K cl B F ι H st σ (ρ.set i .none) := by
  have own_ne : ∀ (j : Nat) (xs : List D), (ρ.set i .none)[j]? = some (.own xs) → ρ[j]? = some (.own xs) := fun j xs e => by
    by_cases hj : i = j
    · subst hj
      rw [List.getElem?_set_self'] at e
      cases h : ρ[i]? with
      | none => rw [h] at e; cases e
      | some s => rw [h] at e; cases e
    · rw [List.getElem?_set_ne hj] at e
      exact e
  refine ⟨A.sim, A.ext, by simp [A.len], fun j o s h1 h2 => ?_, fun j k a xs ys h1 h2 h3 h4 => A.two j k a xs ys (own_ne j xs h1) (own_ne k ys h2) h3 h4⟩
  by_cases hj : i = j
  · subst hj
    rw [List.getElem?_set_self'] at h2
    cases e2 : ρ[i]? with
    | none => rw [e2] at h2; cases h2
    | some s' =>
      rw [e2] at h2
      cases h2
      exact .none o
  · rw [List.getElem?_set_ne hj] at h2
    exact A.env j o s h1 h2
theorem dss_frz (i : Nat) {ss : List Stmt} {g : SM} (h : DSs X cl B W ss g) : DSs X cl B W ss (sFrz i g) :=
  weakSs h fun D σ H ⟨F, ι, st, ρ, A, q⟩ => by
    unfold sFrz at q
    split at q
    · rename_i xs e
      obtain ⟨F', l, A'⟩ := A.frz e
      exact ⟨F', ι, st, _, A', PostS.later l q⟩
    · exact q.elim
theorem dss_none (i : Nat) {ss : List Stmt} {g : SM} (h : DSs X cl B W ss g) : DSs X cl B W ss (sNone i g) :=
  weakSs h fun D σ H ⟨F, ι, st, ρ, A, q⟩ => ⟨F, ι, st, _, A.weakNone i, q⟩

/-! ### targets -/
/-- σ' differs from σ at ws alone -/
def Only (ws : List Nat) (σ σ' : L2.St) : Prop := σ'.length = σ.length ∧ ∀ i, i ∉ ws → σ'[i]? = σ[i]?
def tGt (K : PySem.W.Frag) (cl : Str → Option Addr) (B : Base) (ws : List Nat) (g : GM) : TG := fun v σ H Q => ∃ F ι st ρ d ρ', At K cl B F ι H st σ ρ ∧ RV K cl F ι v d ∧ g d ρ = some ρ' ∧ ∀ σ', At K cl B F ι H st σ' ρ' → Only ws σ σ' → Q σ' H
def tGs (K : PySem.W.Frag) (cl : Str → Option Addr) (B : Base) (ws : List Nat) (g : GMs) : TGs := fun vs σ H Q => ∃ F ι st ρ ds ρ', At K cl B F ι H st σ ρ ∧ RVs K cl F ι vs ds ∧ g ds ρ = some ρ' ∧ ∀ σ', At K cl B F ι H st σ' ρ' → Only ws σ σ' → Q σ' H
abbrev DG (X : Cx) (cl : Str → Option Addr) (B : Base) (e : Expr) (ws : List Nat) (g : GM) : Prop := PG X e (tGt X.K cl B ws g)
abbrev DGs (X : Cx) (cl : Str → Option Addr) (B : Base) (es : List Expr) (ws : List Nat) (g : GMs) : Prop := PGs X es (tGs X.K cl B ws g)
theorem weakG {e : Expr} {t t' : TG} (h : PG X e t) (k : ∀ v σ H Q, t' v σ H Q → t v σ H Q) : PG X e t' := ⟨fun pins s σ H v u Q I r q => h.run pins s σ H v u Q I r (k v σ H Q q)⟩
theorem weakGs {e : List Expr} {t t' : TGs} (h : PGs X e t) (k : ∀ v σ H Q, t' v σ H Q → t v σ H Q) : PGs X e t' := ⟨fun pins s σ H v u Q I r q => h.run pins s σ H v u Q I r (k v σ H Q q)⟩
theorem dg_name (i : Nat) {x : Str} (h : PG X (.Name x pos) (gName i)) : DG X cl B (.Name x pos) [i] (gVar i) :=
  weakG h fun v σ H Q ⟨F, ι, st, ρ, d, ρ', A, r, e, q⟩ => by
    cases e
    exact q _ (A.setVal r) ⟨List.length_set, fun j hj => List.getElem?_set_ne fun z => hj (by simp [z])⟩
theorem dgs_nil : DGs X cl B [] [] gsNil := weakGs pgs_nil fun vs σ H Q ⟨F, ι, st, ρ, ds, ρ', A, r, e, q⟩ => by
  cases r with
  | nil =>
    cases e
    exact ⟨rfl, q σ A ⟨rfl, fun _ _ => rfl⟩⟩
  | cons _ _ => cases e
theorem dgs_cons {e : Expr} {es : List Expr} {w1 w2 : List Nat} {g : GM} {gs : GMs} (h1 : DG X cl B e w1 g) (h2 : DGs X cl B es w2 gs) (hs : (assignEach (e :: es) X.env).map (·.2) = assign e X.env :: (assignEach es X.env).map (·.2) := by rfl) : DGs X cl B (e :: es) (w1 ++ w2) (gsCons g gs) :=
  weakGs (pgs_cons h1 h2 hs) fun vs σ H Q ⟨F, ι, st, ρ, ds, ρ', A, r, e, q⟩ => by
    cases r with
    | nil => cases e
    | cons r1 r2 =>
      obtain ⟨ρ1, e1, e2⟩ := Option.bind_eq_some_iff.mp e
      exact ⟨_, _, rfl, F, ι, st, ρ, _, ρ1, A, r1, e1, fun σ1 A1 o1 => ⟨F, ι, st, ρ1, _, ρ', A1, r2, e2, fun σ2 A2 o2 => q σ2 A2 ⟨o2.1.trans o1.1, fun i hi =>
        (o2.2 i fun z => hi (List.mem_append_right _ z)).trans (o1.2 i fun z => hi (List.mem_append_left _ z))⟩⟩⟩
theorem dg_tup {es : List Expr} {k n : Nat} {ws : List Nat} {gs : GMs} (hc : X.calm = true) (h : DGs X cl B es ws gs) (hl : ∀ ds ρ ρ', gs ds ρ = some ρ' → ds.length = n)
    (hn : (assignEach es X.env).length = n := by rfl) (hst : (assignEach es X.env).findIdx? (·.1) = none := by rfl) : DG X cl B (.Tuple es k pos) ws (gTupM gs) :=
  weakG (pg_tup hc h hn hst) fun v σ H Q ⟨F, ι, st, ρ, d, ρ', A, r, e, q⟩ => by
    unfold gTupM at e
    split at e
    · rename_i ds
      cases r with
      | tup s r => exact ⟨_, _, rfl, SqT.of (A.sim.sub _ _ s), by rw [r.length]; exact hl _ _ _ e, F, ι, st, ρ, ds, ρ', A, r, e, q⟩
    · cases e
theorem dg_lst {es : List Expr} {k n : Nat} {ws : List Nat} {gs : GMs} (hc : X.calm = true) (h : DGs X cl B es ws gs) (hl : ∀ ds ρ ρ', gs ds ρ = some ρ' → ds.length = n)
    (hn : (assignEach es X.env).length = n := by rfl) (hst : (assignEach es X.env).findIdx? (·.1) = none := by rfl) : DG X cl B (.Tuple es k pos) ws (gLstM gs) :=
  weakG (pg_lst hc h hn hst) fun v σ H Q ⟨F, ι, st, ρ, d, ρ', A, r, e, q⟩ => by
    unfold gLstM at e
    split at e
    · rename_i ds
      cases r with
      | lst s r => exact ⟨_, _, rfl, SqL.up A.sim.sub s, by rw [r.length]; exact hl _ _ _ e, F, ι, st, ρ, ds, ρ', A, r, e, q⟩
    · cases e
theorem gl0 : ∀ (ds : List D) (ρ ρ' : Env), gsNil ds ρ = some ρ' → ds.length = 0 := fun ds ρ ρ' e => by
  unfold gsNil at e
  split at e
  · rfl
  · cases e
theorem glS {n : Nat} {g : GM} {gs : GMs} (h : ∀ ds ρ ρ', gs ds ρ = some ρ' → ds.length = n) : ∀ ds ρ ρ', gsCons g gs ds ρ = some ρ' → ds.length = n + 1 := fun ds ρ ρ' e => by
  unfold gsCons at e
  split at e
  · cases e
  · obtain ⟨ρ1, e1, e2⟩ := Option.bind_eq_some_iff.mp e
    rw [List.length_cons, h _ _ _ e2]
theorem ds_asg {tg e : Expr} {f : Env → M D} {ws : List Nat} {g : GM} (he : DE X cl B W e f) (hg : DG X cl B tg ws g) (hs : swapsWithSole [tg] e pos.line X.env = pure false := by rfl) (hw : swappedStores [tg] e X.env = pure none := by rfl) (h1 : (assignEach [tg] X.env).map (·.2) = [assign tg X.env] := by rfl) : DS X cl B W (.Assign [tg] e pos) (sAsg f g) :=
  weakS (ps_asg he hg hs hw h1) fun D σ H ⟨F, ι, st, ρ, A, q⟩ => ⟨F, ι, st, ρ, A, PostS.bind A q fun d st' F' ι' H' v x S r p => by
    split at p
    · rename_i ρ' e
      exact ⟨F', ι', st', ρ, d, ρ', A.later x S, r, e, fun σ' A' _ => p F' ι' H' σ' (.refl F' ι') A'⟩
    · exact p.elim⟩
theorem ds_own {tg e : Expr} {i : Nat} {f : Env → M (List D)} (he : DF X cl B W e f) (hg : PG X tg (gName i)) (hs : swapsWithSole [tg] e pos.line X.env = pure false := by rfl) (hw : swappedStores [tg] e X.env = pure none := by rfl) (h1 : (assignEach [tg] X.env).map (·.2) = [assign tg X.env] := by rfl) : DS X cl B W (.Assign [tg] e pos) (sOwn i f) :=
  weakS (ps_asg he hg hs hw h1) fun D σ H ⟨F, ι, st, ρ, A, q⟩ => ⟨F, ι, st, ρ, A, PostS.bind A q fun d st' F' ι' H' v x S r p => by
    obtain ⟨a, rfl, o, n⟩ := r
    have A' := A.later x S
    exact p F' ι' H' _ (.refl F' ι') (A'.setOwn o (none_back A.ext.t n) fun j ys e _ => A.fresh n j ys e)⟩
end
end DL
end
section
/-! DL4: what is walked, for, while, the call of a def and its body. -/
namespace DL
open PySem PySem.Spec PyProof.Rows L2

/-- the iterator gives what stands for the items, at every later moment -/
structure Walk (K : PySem.W.Frag) (cl : Str → Option Addr) (F₀ : Hp) (ι₀ : List Addr) (J : It) (xs : List D) : Prop where
  go : ∀ (i : Nat) (F : Hp) (ι : List Addr) (H : Hp) (st : Store), i < xs.length → Le F₀ ι₀ F ι → Sim K cl F ι H st → J.go i H
  stop : ∀ (i : Nat) (F : Hp) (ι : List Addr) (H : Hp) (st : Store), xs.length ≤ i → Le F₀ ι₀ F ι → Sim K cl F ι H st → J.stop i H
  yld : ∀ (i : Nat) (d : D) (F : Hp) (ι : List Addr) (H : Hp) (st : Store) (x : V) (H2 : Hp), xs[i]? = some d → Le F₀ ι₀ F ι → Sim K cl F ι H st → J.yld i H x H2 → ∃ F2, Ext F F2 ι ι H H2 ∧ Sim K cl F2 ι H2 st ∧ RV K cl F2 ι x d
def rW (K : PySem.W.Frag) (cl : Str → Option Addr) : Rel (List D) It := fun _ F ι _ J xs => Walk K cl F ι J xs
theorem back_W {K : PySem.W.Frag} {cl : Str → Option Addr} : Rel.Back (rW K cl) := fun _ _ _ _ _ _ _ _ h => h
abbrev tW (K : PySem.W.Frag) (cl : Str → Option Addr) (B : Base) (W : WX) (f : Env → M (List D)) : TI := tG K cl B W (rW K cl) f
abbrev DI (X : Cx) (cl : Str → Option Addr) (B : Base) (W : WX) (tg e : Expr) (f : Env → M (List D)) : Prop := PI X tg e (tW X.K cl B W f)
theorem weakI {X : Cx} {tg e : Expr} {t t' : TI} (h : PI X tg e t) (k : ∀ σ H Q, t' σ H Q → t σ H Q) : PI X tg e t' := ⟨fun pins s σ H R I q => h.run pins s σ H R I (k σ H R q)⟩
theorem PI.or {X : Cx} {tg e : Expr} {t t' : TI} (h : PI X tg e t) (h' : PI X tg e t') : PI X tg e (fun σ H R => t σ H R ∨ t' σ H R) :=
  ⟨fun pins s σ H R I q => q.elim (fun q => h.run pins s σ H R I q) fun q => h'.run pins s σ H R I q⟩
/-- a list or a tuple -/
def seqOf : D → Option (List D)
  | .lst xs => some xs
  | .tup xs => some xs
  | _ => none
/-- the signs of a text -/
def signs (x : Str) : List D := x.cps.toList.map fun c => .str ⟨#[c]⟩
def fSeq (f : Env → M D) : Env → M (List D) := fun ρ => (f ρ).bind fun d => M.look fun _ => seqOf d
def fStr (f : Env → M D) : Env → M (List D) := fun ρ => (f ρ).bind fun d => M.look fun _ => match d with
  | .str x => some (signs x)
  | _ => none
def intsD (lo : Int) (n : Nat) : List D := (List.range n).map fun (i : Nat) => .int (lo + (i : Int))
def rng1 : D → Option (List D)
  | .int j => if -(2 ^ 62) ≤ j ∧ j < 2 ^ 62 then some (intsD 0 j.toNat) else none
  | _ => none
def rng2 : D → D → Option (List D)
  | .int i, .int j => if -(2 ^ 62) ≤ i ∧ i < 2 ^ 62 ∧ -(2 ^ 62) ≤ j ∧ j < 2 ^ 62 then some (intsD i (j - i).toNat) else none
  | _, _ => none
def fRng1 (f : Env → M D) : Env → M (List D) := fun ρ => (f ρ).bind fun d => M.look fun _ => rng1 d
def fRng2 (f g : Env → M D) : Env → M (List D) := fun ρ => (f ρ).bind fun d => (g ρ).bind fun e => M.look fun _ => rng2 d e
theorem intsD_get (lo : Int) (n i : Nat) (d : D) (h : (intsD lo n)[i]? = some d) : i < n ∧ d = .int (lo + (i : Int)) := by
  unfold intsD at h
  rw [List.getElem?_map] at h
  by_cases hi : i < n
  · rw [List.getElem?_range hi] at h
    cases h
    exact ⟨hi, rfl⟩
  · rw [List.getElem?_eq_none (by simpa using Nat.le_of_not_lt hi)] at h
    cases h
section
variable {K : PySem.W.Frag} {cl : Str → Option Addr} {F : Hp} {ι : List Addr}
/-- a frozen list, walked -/
theorem walk_list {a : Addr} {vs : List V} {xs : List D} (s : SqL K F a vs) (r : RVs K cl F ι vs xs) : Walk K cl F ι (Itl K a) xs where
  go := fun i F' ι' H st hi l S => by
    have hi : i < vs.length := by rw [r.length]; exact hi
    exact ⟨vs, vs[i], SqL.up S.sub (SqL.up l.1 s), List.getElem?_eq_getElem hi⟩
  stop := fun i F' ι' H st hi l S => ⟨vs, SqL.up S.sub (SqL.up l.1 s), by rw [r.length]; exact hi⟩
  yld := fun i d F' ι' H st x H2 hd l S ⟨e, y⟩ => by
    subst e
    obtain ⟨v, hv, rv⟩ := r.get hd
    have z := y vs (SqL.up S.sub (SqL.up l.1 s))
    rw [hv] at z
    cases z
    exact ⟨F', .refl, S, rv.up l.1 l.2⟩
theorem walk_tup {a : Addr} {vs : List V} {xs : List D} (s : SqT K F a vs) (r : RVs K cl F ι vs xs) : Walk K cl F ι (Itt K a) xs where
  go := fun i F' ι' H st hi l S => by
    have hi : i < vs.length := by rw [r.length]; exact hi
    exact ⟨vs, vs[i], SqT.up S.sub (SqT.up l.1 s), List.getElem?_eq_getElem hi⟩
  stop := fun i F' ι' H st hi l S => ⟨vs, SqT.up S.sub (SqT.up l.1 s), by rw [r.length]; exact hi⟩
  yld := fun i d F' ι' H st x H2 hd l S ⟨e, y⟩ => by
    subst e
    obtain ⟨v, hv, rv⟩ := r.get hd
    have z := y vs (SqT.up S.sub (SqT.up l.1 s))
    rw [hv] at z
    cases z
    exact ⟨F', .refl, S, rv.up l.1 l.2⟩
theorem walk_range (lo : Int) (n : Nat) : Walk K cl F ι (Itr lo n) (intsD lo n) where
  go := fun i F' ι' H st hi l S => by
    show i < n
    simpa [intsD] using hi
  stop := fun i F' ι' H st hi l S => by
    show n ≤ i
    simpa [intsD] using hi
  yld := fun i d F' ι' H st x H2 hd l S ⟨e, y⟩ => by
    obtain ⟨h1, h2⟩ := intsD_get lo n i d hd
    subst e; subst y; subst h2
    exact ⟨F', .refl, S, .int _⟩
theorem walk_str (x : Str) : Walk K cl F ι (Its x) (signs x) where
  go := fun i F' ι' H st hi l S => by
    show i < x.cps.size
    simpa [signs] using hi
  stop := fun i F' ι' H st hi l S => by
    show x.cps.size ≤ i
    simpa [signs] using hi
  yld := fun i d F' ι' H st v H2 hd l S ⟨e, c, hc, y⟩ => by
    subst e; subst y
    have : d = .str ⟨#[c]⟩ := by
      simp only [signs, List.getElem?_map, Array.getElem?_toList, hc, Option.map_some, Option.some.injEq] at hd
      exact hd.symm
    subst this
    exact ⟨F', .refl, S, .str _⟩
end
section
variable {X : Cx} {cl : Str → Option Addr} {B : Base} {W : WX} {pos : Pos} {tg : Expr}
theorem di_seq {e : Expr} {f : Env → M D} (h : DE X cl B W e f) : DI X cl B W tg e (fSeq f) :=
  weakI (PI.or (pi_list h) (pi_tup h)) fun σ H R ⟨F, ι, st, ρ, A, q⟩ => by
    replace q : Post X.K cl (rW X.K cl) F ι H σ W ((f ρ st).bind fun d => M.look fun _ => seqOf d) R := q
    cases e : f ρ st with
    | stuck => rw [e] at q; exact q.elim
    | exc e' st' => rw [e] at q; exact .inl ⟨F, ι, st, ρ, A, by rw [e]; exact q⟩
    | ok d st' =>
      rw [e] at q
      cases d with
      | lst xs =>
        refine .inl ⟨F, ι, st, ρ, A, ?_⟩
        rw [e]
        intro F' ι' H' v x S r
        cases r with
        | lst s r => exact ⟨_, rfl, ⟨_, SqL.up S.sub s⟩, q F' ι' H' _ x S (walk_list s r)⟩
      | tup xs =>
        refine .inr ⟨F, ι, st, ρ, A, ?_⟩
        rw [e]
        intro F' ι' H' v x S r
        cases r with
        | tup s r => exact ⟨_, rfl, ⟨_, SqT.of (S.sub _ _ s)⟩, q F' ι' H' _ x S (walk_tup (SqT.of s) r)⟩
      | _ => exact q.elim
theorem di_lst {e : Expr} {f : Env → M (List D)} (h : DF X cl B W e f) : DI X cl B W tg e f :=
  weakI (di_seq h.e) fun σ H R ⟨F, ι, st, ρ, A, q⟩ => ⟨F, ι, st, ρ, A, by
    show Post X.K cl (rW X.K cl) F ι H σ W (((f ρ st).bind fun xs => M.ret (.lst xs)).bind fun d => M.look fun _ => seqOf d) R
    cases e : f ρ st with
    | stuck => rw [e] at q; exact q.elim
    | exc e' st' => rw [e] at q; exact q
    | ok d st' => rw [e] at q; exact q⟩
theorem di_str {e : Expr} {f : Env → M D} (h : DE X cl B W e f) : DI X cl B W tg e (fStr f) :=
  weakI (pi_str h) fun σ H R ⟨F, ι, st, ρ, A, q⟩ => ⟨F, ι, st, ρ, A, Post.bind back_W q fun d st' F' ι' H' v x S r p => by
    obtain ⟨z, hz, k⟩ := look_ok p
    split at hz
    · cases hz
      cases r
      exact ⟨_, rfl, k F' ι' H' _ .refl S (walk_str _)⟩
    · cases hz⟩
theorem di_rng1 {a : Expr} {f : Env → M D} {p : Pos} (hg : Gl X "range") (hm : X.mg "range" = none) (ha : DE X cl B W a f) (hs : starEach [a] X.env = [(false, eval a X.env)] := by rfl) : DI X cl B W tg (.Call (.Name "range" p) [a] [] pos) (fRng1 f) :=
  weakI (pi_range1 hg hm (da_cons ha da_nil hs) hs) fun σ H R ⟨F, ι, st, ρ, A, q⟩ => ⟨F, ι, st, ρ, A, by
    show Post X.K cl (rVs X.K cl) F ι H σ W ((f ρ st).bind fun x => M.bind (eNilA ρ) fun xs => M.ret (x :: xs)) _
    replace q : Post X.K cl (rW X.K cl) F ι H σ W ((f ρ st).bind fun d => M.look fun _ => rng1 d) R := q
    cases e : f ρ st with
    | stuck => rw [e] at q; exact q.elim
    | exc e' st' => rw [e] at q; exact q
    | ok d st' =>
      rw [e] at q
      intro F' ι' H' vs x S r
      have q' := Post.later back_W x q
      obtain ⟨z, hz, k⟩ := look_ok (o := fun _ => rng1 d) (st := st') q'
      unfold rng1 at hz
      split at hz
      · split at hz
        · rename_i hb
          cases hz
          cases r with
          | cons r1 r2 =>
            cases r1; cases r2
            exact ⟨_, rfl, hb.1, hb.2, k F' ι' H' _ .refl S (walk_range 0 _)⟩
        · cases hz
      · cases hz⟩
theorem di_rng2 {a b : Expr} {f g : Env → M D} {p : Pos} (hg : Gl X "range") (hm : X.mg "range" = none) (ha : DE X cl B W a f) (hb : DE X cl B W b g) (hs : starEach [a, b] X.env = [(false, eval a X.env), (false, eval b X.env)] := by rfl) (hs2 : starEach [b] X.env = [(false, eval b X.env)] := by rfl) :
    DI X cl B W tg (.Call (.Name "range" p) [a, b] [] pos) (fRng2 f g) :=
  weakI (pi_range2 hg hm (da_cons ha (da_cons hb da_nil hs2) (by rw [hs, hs2])) hs hs2) fun σ H R ⟨F, ι, st, ρ, A, q⟩ => ⟨F, ι, st, ρ, A, by
    show Post X.K cl (rVs X.K cl) F ι H σ W ((f ρ st).bind fun x => M.bind (M.bind (g ρ) fun y => M.bind (eNilA ρ) fun xs => M.ret (y :: xs)) fun xs => M.ret (x :: xs)) _
    replace q : Post X.K cl (rW X.K cl) F ι H σ W ((f ρ st).bind fun d => M.bind (g ρ) fun e => M.look fun _ => rng2 d e) R := q
    cases e : f ρ st with
    | stuck => rw [e] at q; exact q.elim
    | exc e' st' => rw [e] at q; exact q
    | ok d st' =>
      rw [e] at q
      show Post X.K cl (rVs X.K cl) F ι H σ W (((g ρ st').bind fun y => M.bind (eNilA ρ) fun xs => M.ret (y :: xs)).bind fun xs => M.ret (d :: xs)) _
      replace q : Post X.K cl (rW X.K cl) F ι H σ W ((g ρ st').bind fun e => M.look fun _ => rng2 d e) R := q
      cases e2 : g ρ st' with
      | stuck => rw [e2] at q; exact q.elim
      | exc e' st' => rw [e2] at q; exact q
      | ok d2 st2 =>
        rw [e2] at q
        intro F' ι' H' vs x S r
        have q' := Post.later back_W x q
        obtain ⟨z, hz, k⟩ := look_ok (o := fun _ => rng2 d d2) (st := st2) q'
        unfold rng2 at hz
        split at hz
        · split at hz
          · rename_i hb
            cases hz
            cases r with
            | cons r1 r2 =>
              cases r2 with
              | cons r2 r3 =>
                cases r1; cases r2; cases r3
                exact ⟨_, _, rfl, hb, k F' ι' H' _ .refl S (walk_range _ _)⟩
          · cases hz
        · cases hz⟩

/-! ### for, while -/
theorem ds_for {iter : Expr} {body : List Stmt} {f : Env → M (List D)} {ws : List Nat} {g : GM} {fb : SM} (hp : PassesOwn (model X.prog X.w) X.A X.env X.xe) (hc : X.calm = true) (hi : DI X cl B W tg iter f) (hg : DG X cl B tg ws g) (hb : DSs X cl B W body fb)
    (hs : ∀ x, foldedSetIterable iter X.env x = pure x := by intro _; rfl) : DS X cl B W (.For tg iter body [] pos) (sFor f g fb) :=
  weakS (ps_for hp hc hi hg hb hs) fun D σ H ⟨F, ι, st, ρ, A, q⟩ => ⟨F, ι, st, ρ, A, PostS.bind A q fun xs st1 F1 ι1 H1 J x1 S1 wk p => by
    refine ⟨fun i m σ H => ∃ F2 ι2 st2 ρ2, Le F1 ι1 F2 ι2 ∧ At X.K cl B F2 ι2 H st2 σ ρ2 ∧ m = xs.length - i ∧ PostS X.K cl B W F2 ι2 D (forL g fb (xs.drop i) ρ2 st2), ⟨xs.length, F1, ι1, st1, ρ, .refl F1 ι1, A.later x1 S1, rfl, p⟩, ?_⟩
    rintro i m σ2 H2 ⟨F2, ι2, st2, ρ2, l2, A2, rfl, p2⟩
    by_cases hi : i < xs.length
    · right
      have ed : xs.drop i = xs[i] :: xs.drop (i + 1) := List.drop_eq_getElem_cons hi
      rw [ed] at p2
      refine ⟨wk.go i F2 ι2 H2 st2 hi l2 A2.sim, fun σ' H' => ∃ F3 ι3 st3 ρ3, Le F1 ι1 F3 ι3 ∧ At X.K cl B F3 ι3 H' st3 σ' ρ3 ∧ PostS X.K cl B W F3 ι3 D (forL g fb (xs.drop (i + 1)) ρ3 st3), ?_, ?_⟩
      · rintro σ' H' ⟨F3, ι3, st3, ρ3, l3, A3, p3⟩
        exact ⟨xs.length - (i + 1), by omega, F3, ι3, st3, ρ3, l3, A3, rfl, p3⟩
      · intro x H' y
        obtain ⟨F3, x3, S3, r3⟩ := wk.yld i xs[i] F2 ι2 H2 st2 x H' (List.getElem?_eq_getElem hi) l2 A2.sim y
        have A3 := A2.later x3 S3
        replace p2 := PostS.later x3.le p2
        have l3 := l2.trans x3.le
        unfold forL at p2
        cases eg : g xs[i] ρ2 with
        | none => rw [eg] at p2; exact p2.elim
        | some ρ1 =>
          rw [eg] at p2
          refine ⟨F3, ι2, st2, ρ2, xs[i], ρ1, A3, r3, eg, fun σ' A' _ => ⟨F3, ι2, st2, ρ1, A', ?_⟩⟩
          dsimp only at p2
          cases eb : fb ρ1 st2 with
          | next ρ4 st4 => rw [eb] at p2; exact fun F ι H σ l A => ⟨F, ι, st4, ρ4, l3.trans l, A, PostS.later l p2⟩
          | cont ρ4 st4 => rw [eb] at p2; exact fun F ι H σ l A => ⟨F, ι, st4, ρ4, l3.trans l, A, PostS.later l p2⟩
          | brk ρ4 st4 => rw [eb] at p2; exact p2
          | ret d st4 => rw [eb] at p2; exact p2
          | exc e ρ4 st4 => rw [eb] at p2; exact p2
          | stuck => rw [eb] at p2; exact p2
    · left
      have ed : xs.drop i = [] := List.drop_eq_nil_of_le (Nat.le_of_not_lt hi)
      rw [ed] at p2
      exact ⟨wk.stop i F2 ι2 H2 st2 (Nat.le_of_not_lt hi) l2 A2.sim, p2 F2 ι2 H2 σ2 (.refl F2 ι2) A2⟩⟩
theorem ds_while (n : Nat) {c : Expr} {body : List Stmt} {fc : Env → M Bool} {fb : SM} (hp : PassesOwn (model X.prog X.w) X.A X.env X.xe) (hc : DT X cl B W c fc) (hb : DSs X cl B W body fb) : DS X cl B W (.While c body [] pos) (sWhile n fc fb) :=
  weakS (ps_while hp hc hb) fun D σ H ⟨F, ι, st, ρ, A, q⟩ => by
    refine ⟨fun m σ H => ∃ F2 ι2 st2 ρ2, At X.K cl B F2 ι2 H st2 σ ρ2 ∧ PostS X.K cl B W F2 ι2 D (whileL fc fb m ρ2 st2), ⟨n, F, ι, st, ρ, A, q⟩, ?_⟩
    rintro m σ2 H2 ⟨F2, ι2, st2, ρ2, A2, p2⟩
    cases m with
    | zero => exact p2.elim
    | succ m =>
      refine ⟨F2, ι2, st2, ρ2, A2, PostS.bind A2 p2 fun b st3 F3 ι3 H3 b' x3 S3 r3 p3 => ?_⟩
      cases r3
      refine bite (fun e p3 => ?_) (fun e p3 => ?_) p3
      · subst e
        refine ⟨fun σ' H' => ∃ F4 ι4 st4 ρ4, At X.K cl B F4 ι4 H' st4 σ' ρ4 ∧ PostS X.K cl B W F4 ι4 D (whileL fc fb m ρ4 st4), fun σ' H' ⟨F4, ι4, st4, ρ4, A4, p4⟩ => ⟨m, Nat.lt_succ_self m, F4, ι4, st4, ρ4, A4, p4⟩, F3, ι3, st3, ρ2, A2.later x3 S3, ?_⟩
        cases eb : fb ρ2 st3 with
        | next ρ4 st4 => rw [eb] at p3; exact fun F ι H σ l A => ⟨F, ι, st4, ρ4, A, PostS.later l p3⟩
        | cont ρ4 st4 => rw [eb] at p3; exact fun F ι H σ l A => ⟨F, ι, st4, ρ4, A, PostS.later l p3⟩
        | brk ρ4 st4 => rw [eb] at p3; exact p3
        | ret d st4 => rw [eb] at p3; exact p3
        | exc e ρ4 st4 => rw [eb] at p3; exact p3
        | stuck => rw [eb] at p3; exact p3
      · subst e
        exact p3 F3 ι3 H3 σ2 (.refl F3 ι3) (A2.later x3 S3)

/-! ### defs -/
/-- what a def does, as a function of data -/
abbrev BM := List D → M D
def spD (K : PySem.W.Frag) (cl : Str → Option Addr) (n : Nat) (b : BM) : Sp := fun vs H Q E => vs.length = n ∧ ∃ F ι st ds, Sim K cl F ι H st ∧ RVs K cl F ι vs ds ∧ Post K cl (rV K cl) F ι H [] (fun cv dd _ H => E cv dd H) (b ds st) Q
/-- a body as a def's doing -/
def SR.out : SR → R D
  | .next _ st => .ok .non st
  | .ret d st => .ok d st
  | .exc e _ st => .exc e st
  | _ => .stuck
def bOf (n : Nat) (f : SM) : BM := fun ds st => (f (ds.map .val ++ List.replicate (n - ds.length) .none) st).out
def eCall (b : BM) (f : Env → M (List D)) : Env → M D := fun ρ => (f ρ).bind b
theorem env_start {K : PySem.W.Frag} {F H : Hp} {ι : List Addr} {B : Base} : ∀ {vs : List V} {ds : List D} {k : Nat}, RVs K cl F ι vs ds → ∀ (i : Nat) (o : Option V) (s : Slot), (vs.map some ++ List.replicate k none)[i]? = some o → (ds.map Slot.val ++ List.replicate k Slot.none)[i]? = some s → RS K cl B F ι H o s
  | _, _, k, .nil, i, o, s, h1, h2 => by
    simp only [List.map_nil, List.nil_append] at h1 h2
    rw [List.getElem?_replicate] at h2
    split at h2
    · cases h2; exact .none o
    · cases h2
  | _, _, k, .cons r t, 0, o, s, h1, h2 => by
    simp at h1 h2
    subst h1; subst h2
    exact .val r
  | _, _, k, .cons r t, i + 1, o, s, h1, h2 => env_start (i := i) t o s (by simpa using h1) (by simpa using h2)
theorem no_own {ds : List D} {k j : Nat} {xs : List D} : (ds.map Slot.val ++ List.replicate k Slot.none)[j]? ≠ some (.own xs) := fun e => by
  have h := List.mem_of_getElem? e
  rcases List.mem_append.mp h with h | h
  · obtain ⟨_, _, z⟩ := List.mem_map.mp h
    cases z
  · cases List.eq_of_mem_replicate h
/-- THE BODY OF A DEF -/
theorem def_ok {P : Program} {w : World} {K : PySem.W.Frag} {mg : Str → Option Value} {base : Heap} {x qual : Str} {sd : Stmt} {f : Addr} {fd : FuncData} {N ps : List Str} {k : Nat} {fb : SM} (Fn : Fun K x qual sd f fd) (S : FnScope N ps (defScope sd))
    (hbody : ∀ (cdv : Value) (A : Around) (outer : List PySem.Env) (s : Shared) (H : Hp) (E : XK) (B : Base), Room k (A.deeper (envOfC qual (defScope sd) s.heap.objs.size f cdv)) →
      Takes (cxOf (L2.CX P w) P w K mg base N qual (defScope sd) f cdv A outer s H E) (fun cv dd _ H => E cv dd H) →
      DSs (cxOf (L2.CX P w) P w K mg base N qual (defScope sd) f cdv A outer s H E) cl B (fun cv dd _ H => E cv dd H) (defBody sd) fb) : FnOk P w K mg base (L2.CX P w) (k + 1) f fd ps (spD K cl ps.length (bOf N.length fb)) := by
  refine Fn.okX S (fun vs H Q E h => h.1) fun cdv A outer s H vs Q E hr h => ?_
  obtain ⟨hl, F, ι, st, ds, Sm, r, q⟩ := h
  refine ⟨_, hbody cdv A outer s H E ⟨F, ι, H⟩ hr (takes_of rfl rfl rfl rfl), F, ι, st, ds.map .val ++ List.replicate (N.length - ds.length) .none, ⟨Sm, .refl, ?_, ?_, ?_⟩, ?_⟩
  · simp [L2.start, r.length]
  · intro i o s h1 h2
    refine env_start r i o s (k := N.length - ds.length) ?_ h2
    rw [← r.length]
    exact h1
  · exact fun i j a xs ys h => absurd h no_own
  · show PostS K cl ⟨F, ι, H⟩ (fun cv dd _ H => E cv dd H) F ι _ (fb (ds.map .val ++ List.replicate (N.length - ds.length) .none) st)
    replace q : Post K cl (rV K cl) F ι H [] (fun cv dd _ H => E cv dd H) (fb (ds.map .val ++ List.replicate (N.length - ds.length) .none) st).out Q := q
    cases e : fb (ds.map .val ++ List.replicate (N.length - ds.length) .none) st with
    | next ρ st' => rw [e] at q; exact fun F' ι' H' σ l A => q F' ι' H' _ A.ext A.sim .non
    | ret d st' => rw [e] at q; exact q
    | exc x ρ st' => rw [e] at q; exact fun F' ι' H' σ cv dd l A rx => q F' ι' H' cv dd A.ext A.sim rx
    | brk ρ st' => rw [e] at q; exact q.elim
    | cont ρ st' => rw [e] at q; exact q.elim
    | stuck => rw [e] at q; exact q.elim
theorem de_call {k n : Nat} {f : Addr} {fd : FuncData} {ps : List Str} {b : BM} {x : Str} {p : Pos} {e : Expr} {es : List Expr} {g : Env → M (List D)} (Fo : FnOk X.prog X.w X.K X.mg X.base (L2.CX X.prog X.w) k f fd ps (spD X.K cl n b))
    (hr : Room k X.A) (hg : Gl X x) (hm : X.mg x = some (.ref f)) (hk : PySem.W.keepIn X.K (.ref f) = true) (hb : Binds X.K fd ps []) (tk : Takes X W) (ha : DA X cl B W (e :: es) g) (hn : ∀ ρ st ds st', g ρ st = .ok ds st' → ds.length = n)
    (hdb : (x == ("__debug__" : Str)) = false := by decide) (he : starEach (e :: es) X.env = (false, eval e X.env) :: starEach es X.env := by rfl) (hpl : (backTo pos (starEach es X.env)).any (·.1) = false := by rfl) :
    DE X cl B W (.Call (.Name x p) (e :: es) [] pos) (eCall b g) :=
  weakE (pe_callS Fo hr hg hm hk hb (passAt tk) ha hdb he hpl) fun σ H Q ⟨F, ι, st, ρ, A, q⟩ => by
    refine ⟨F, ι, st, ρ, A, ?_⟩
    replace q : Post X.K cl (rV X.K cl) F ι H σ W ((g ρ st).bind b) Q := q
    cases eg : g ρ st with
    | stuck => rw [eg] at q; exact q.elim
    | exc e' st' => rw [eg] at q; exact q
    | ok ds st' =>
      rw [eg] at q
      intro F' ι' H' vs x1 S1 r1
      have q' := Post.later back_V x1 q
      have r1 : RVs X.K cl F' ι' vs ds := r1
      refine ⟨by rw [r1.length]; exact hn _ _ _ _ eg, F', ι', st', ds, S1, r1, ?_⟩
      cases eb : b ds st' with
      | ok d st2 => rw [R.bind_ok, eb] at q'; exact q'
      | exc e2 st2 => rw [R.bind_ok, eb] at q'; exact q'
      | stuck => rw [R.bind_ok, eb] at q'; exact q'
theorem na_nil : ∀ ρ st ds st', eNilA ρ st = .ok ds st' → ds.length = 0 := fun ρ st ds st' e => by cases e; rfl
theorem na_cons {n : Nat} {f : Env → M D} {g : Env → M (List D)} (h : ∀ ρ st ds st', g ρ st = .ok ds st' → ds.length = n) : ∀ ρ st ds st', eConsA f g ρ st = .ok ds st' → ds.length = n + 1 := fun ρ st ds st' e => by
  replace e : ((f ρ st).bind fun x => M.bind (g ρ) fun xs => M.ret (x :: xs)) = .ok ds st' := e
  cases e1 : f ρ st with
  | stuck => rw [e1] at e; cases e
  | exc _ _ => rw [e1] at e; cases e
  | ok x st1 =>
    rw [e1] at e
    replace e : ((g ρ st1).bind fun xs => M.ret (x :: xs)) = .ok ds st' := e
    cases e2 : g ρ st1 with
    | stuck => rw [e2] at e; cases e
    | exc _ _ => rw [e2] at e; cases e
    | ok xs st2 =>
      rw [e2] at e
      cases e
      rw [List.length_cons, h _ _ _ _ e2]
end
end DL
end
section
/-! DL5: operators, comparisons, isinstance, len, places. -/
namespace DL
open PySem PySem.Spec PyProof.Rows L2

/-! ### types -/
inductive TY where
  | ty (n : String)
  | own (name : Str)
  deriving DecidableEq
def tyNames : List String := ["NoneType", "bool", "int", "str", "list", "tuple", "dict"]
def tyO : O → TY
  | .lst _ => .ty "list"
  | .dic _ => .ty "dict"
  | .dit _ => .ty "dict"
  | .ins c _ => .own c
def tyD : D → Store → Option TY
  | .non, _ => some (.ty "NoneType")
  | .bool _, _ => some (.ty "bool")
  | .int _, _ => some (.ty "int")
  | .str _, _ => some (.ty "str")
  | .tup _, _ => some (.ty "tuple")
  | .lst _, _ => some (.ty "list")
  | .dic _, _ => some (.ty "dict")
  | .dit _, _ => some (.ty "dict")
  | .ins c _, _ => some (.own c)
  | .loc l, st => (st[l]?).map tyO
structure ClsI (K : PySem.W.Frag) (C : Addr) : Prop where
  cl : Cls K C
  ha : PySem.W.findIn K (.ref C) "__class__" = some (some (.builtin "object.__class__"))
  hn : PySem.W.specialIn K (.builtin "object.__class__") "__get__" = some (some (.builtin "getset_descriptor.__get__"))
  htk : PySem.W.takesIn K (.builtin "object.__class__") = some true
  hm : PySem.W.mroIn K C (.type "object") = some true
/-- the own classes: their names, who stands below whom -/
structure CF (K : PySem.W.Frag) (cl : Str → Option Addr) (sub : Str → Str → Bool) : Prop where
  ci : ∀ c C, cl c = some C → ClsI K C
  bt : ∀ c C n, cl c = some C → n ∈ tyNames → PySem.W.kitOne K (.ref C) (.type n) = some false
  tb : ∀ c C n, cl c = some C → n ∈ tyNames → PySem.W.kitOne K (.type n) (.ref C) = some false
  cc : ∀ c C c' C', cl c = some C → cl c' = some C' → PySem.W.kitOne K (.ref C) (.ref C') = some (sub c c')
def TY.V (cl : Str → Option Addr) : TY → Option Value
  | .ty n => some (.type n)
  | .own c => (cl c).map .ref
theorem Rd.tyL {K : PySem.W.Frag} {H : Hp} {a : Addr} {vs : List V} (s : SqL K H a vs) : TyX K H (.ref a) (.type "list") := by
  rcases s with (h | ⟨o, h⟩) | ⟨o, _, _, e, c, _⟩
  · exact .base (.lst h)
  · exact .base (.frz h)
  · exact .kList e c
theorem Rd.tyT {K : PySem.W.Frag} {H : Hp} {a : Addr} {vs : List V} (s : SqT K H a vs) : TyX K H (.ref a) (.type "tuple") := by
  rcases s with (h | ⟨o, h⟩) | ⟨o, _, _, e, c, _⟩
  · exact .base (.tup h)
  · exact .fTuple h
  · exact .kTuple e c
theorem ty_of {K : PySem.W.Frag} {cl : Str → Option Addr} {sub : Str → Str → Bool} {F H : Hp} {ι : List Addr} {st : Store} (G : CF K cl sub) (S : Sim K cl F ι H st) {v : V} {d : D} {T : TY} (r : RB K cl F ι H v d) (h : tyD d st = some T) : ∃ t, T.V cl = some t ∧ TyX K H v t := by
  have ofI : ∀ {a C dx : Addr} {c : Str} {vfs : List (Str × V)}, cl c = some C → H a = some (.ins C dx vfs) → ∃ t, (TY.own c).V cl = some t ∧ TyX K H (.ref a) t := fun {a C dx c vfs} e1 e2 => by
    have z := G.ci c C e1
    exact ⟨.ref C, by simp [TY.V, e1], .base (.ins e2 z.cl z.ha z.hn z.htk z.hm)⟩
  cases d with
  | non => cases h; rw [r.non]; exact ⟨_, rfl, .base .non⟩
  | bool b => cases h; rw [r.bool]; exact ⟨_, rfl, .base (.bl b)⟩
  | int b => cases h; rw [r.int]; exact ⟨_, rfl, .base (.int b)⟩
  | str b => cases h; rw [r.str]; exact ⟨_, rfl, .base (.str b)⟩
  | tup ds =>
    cases h
    obtain ⟨a, vs, rfl, s, _⟩ := r.tuple S
    exact ⟨_, rfl, Rd.tyT s⟩
  | lst ds =>
    cases h
    obtain ⟨a, vs, rfl, s, _⟩ := r.list S
    exact ⟨_, rfl, Rd.tyL s⟩
  | dic kvs =>
    cases h
    rcases r with r | ⟨_, _, _, e, _⟩
    · cases r with
      | dicK e _ => exact ⟨_, rfl, .base (.dK (S.sub _ _ e))⟩
    · cases e
  | dit kvs =>
    cases h
    rcases r with r | ⟨_, _, _, e, _⟩
    · cases r with
      | dicT e _ => exact ⟨_, rfl, .base (.dT (S.sub _ _ e))⟩
    · cases e
  | ins c fs =>
    cases h
    rcases r with r | ⟨_, _, _, e, _⟩
    · cases r with
      | ins e1 e2 _ => exact ofI e1 (S.sub _ _ e2)
    · cases e
  | loc l =>
    simp only [tyD, Option.map_eq_some_iff] at h
    obtain ⟨o, e, rfl⟩ := h
    obtain ⟨a, rfl, _, ro⟩ := r.loc S e
    cases ro with
    | lst e1 _ => exact ⟨_, rfl, .base (.lst e1)⟩
    | ins e1 e2 _ => exact ofI e1 e2
    | dicK e1 _ => exact ⟨_, rfl, .base (.dK e1)⟩
    | dicT e1 _ => exact ⟨_, rfl, .base (.dT e1)⟩
/-- isinstance(x, a built-in type) -/
def isTyB (n : String) : TY → Option Bool
  | .ty m => if m ∈ tyNames then kitB m n else none
  | .own _ => if n ∈ tyNames then some false else none
def isTyC (sub : Str → Str → Bool) (c : Str) : TY → Option Bool
  | .ty m => if m ∈ tyNames then some false else none
  | .own c' => some (sub c' c)
abbrev C1 := D → Store → Option Bool
abbrev C2 := D → D → Store → Option Bool
def eC1 (c : C1) (f : Env → M D) : Env → M D := fun ρ => (f ρ).bind fun x => M.look fun st => (c x st).map .bool
def eC2 (c : C2) (f g : Env → M D) : Env → M D := fun ρ => (f ρ).bind fun x => (g ρ).bind fun y => M.look fun st => (c x y st).map .bool
def isB (n : String) : C1 := fun d st => (tyD d st).bind (isTyB n)
def anyTy (ns : List String) (T : TY) : Option Bool := match ns with
  | [] => some false
  | n :: ns => match isTyB n T with
    | some true => some true
    | some false => anyTy ns T
    | none => none
def isBs (ns : List String) : C1 := fun d st => (tyD d st).bind (anyTy ns)
def isC (sub : Str → Str → Bool) (c : Str) : C1 := fun d st => (tyD d st).bind (isTyC sub c)
def rC2 (K : PySem.W.Frag) (cl : Str → Option Addr) (c : C2) : R2 := fun x y H Q => ∃ F ι st d e b, Sim K cl F ι H st ∧ RB K cl F ι H x d ∧ RB K cl F ι H y e ∧ c d e st = some b ∧ Q (.bl b) H
section
variable {X : Cx} {cl : Str → Option Addr} {sub : Str → Str → Bool} {B : Base} {W : WX} {pos : Pos}
theorem kit_b {T : TY} {t : Value} {n : String} {b : Bool} (G : CF X.K cl sub) (hT : T.V cl = some t) (h : isTyB n T = some b) : PySem.W.kitOne X.K t (.type n) = some b := by
  cases T with
  | ty m =>
    cases hT
    simp only [isTyB] at h
    split at h
    · exact kit_ty h
    · cases h
  | own c =>
    simp only [TY.V, Option.map_eq_some_iff] at hT
    obtain ⟨C, e, rfl⟩ := hT
    simp only [isTyB] at h
    split at h
    · rename_i hm
      cases h
      exact G.bt c C n e hm
    · cases h
theorem kit_any {T : TY} {t : Value} (G : CF X.K cl sub) (hT : T.V cl = some t) : ∀ {ns : List String} {b : Bool}, anyTy ns T = some b → PySem.W.kitAny X.K t (ns.map Value.type) = some b
  | [], b, h => by cases h; exact kitAny_nil
  | n :: ns, b, h => by
    unfold anyTy at h
    split at h
    · rename_i e
      cases h
      exact kitAny_cons (kit_b G hT e) (fun z => by cases z) (fun _ => rfl)
    · rename_i e
      exact kitAny_cons (kit_b G hT e) (fun _ => kit_any G hT h) (fun z => by cases z)
    · cases h
/-- the value of a look, where it is a bool -/
theorem lookB {o : Store → Option Bool} {st : Store} {F H : Hp} {ι : List Addr} {σ : L2.St} {Q : VK} (h : Post X.K cl (rV X.K cl) F ι H σ W (M.look (fun st => (o st).map D.bool) st) Q) (S : Sim X.K cl F ι H st) : ∃ b, o st = some b ∧ Q (.bl b) H := by
  obtain ⟨a, e, k⟩ := look_ok h
  obtain ⟨b, e1, rfl⟩ := Option.map_eq_some_iff.mp e
  exact ⟨b, e1, k F ι H _ .refl S (.bool b)⟩
theorem de_isB (n : String) {e : Expr} {f : Env → M D} (G : CF X.K cl sub) (h : PE X e (tCB (rIsi X.K) (tCons (tB X.K cl B W f) (tCons (tC (.ty n)) tNil)))) : DE X cl B W e (eC1 (isB n) f) :=
  weakE h fun σ H Q ⟨F, ι, st, ρ, A, q⟩ => ⟨F, ι, st, ρ, A, Post.bind back_V q fun d st1 F1 ι1 H1 v x1 S1 r1 q1 => by
    obtain ⟨b, e, k⟩ := lookB q1 S1
    obtain ⟨T, e1, e2⟩ := Option.bind_eq_some_iff.mp e
    obtain ⟨t, h1, h2⟩ := ty_of G S1 r1 e1
    exact ⟨v, _, t, _, b, rfl, .ty n, h2, kit_b G h1 e2, k⟩⟩
def tysA : List String → TA
  | [] => tNil
  | n :: ns => tCons (tC (.ty n)) (tysA ns)
theorem tysA_ok : ∀ (ns : List String) (σ : L2.St) (H : Hp) (Q : List V → Hp → Prop), Q (ns.map .ty) H → tysA ns σ H Q
  | [], _, _, _, h => h
  | n :: ns, σ, H, Q, h => tysA_ok ns σ H (fun xs H2 => Q (.ty n :: xs) H2) h
theorem paired_ty : ∀ ns : List String, Paired ClsV (ns.map V.ty) (ns.map Value.type)
  | [] => .nil
  | n :: ns => .cons (.ty n) (paired_ty ns)
/-- isinstance(x, (T1, T2, ..)) -/
theorem de_isBs (ns : List String) {e : Expr} {f : Env → M D} (G : CF X.K cl sub) (hl : ns.length ≤ sizeLine) (h : PE X e (tCB (rIsiT X.K) (tCons (tB X.K cl B W f) (tCons (tTup (tysA ns)) tNil)))) : DE X cl B W e (eC1 (isBs ns) f) :=
  weakE h fun σ H Q ⟨F, ι, st, ρ, A, q⟩ => ⟨F, ι, st, ρ, A, Post.bind back_V q fun d st1 F1 ι1 H1 v x1 S1 r1 q1 => by
    obtain ⟨b0, e0, k⟩ := look_ok q1
    obtain ⟨b, e, hb⟩ := Option.map_eq_some_iff.mp e0
    subst hb
    obtain ⟨T, e1, e2⟩ := Option.bind_eq_some_iff.mp e
    refine tysA_ok ns _ _ _ ⟨by simpa using hl, fun p hp => ?_⟩
    obtain ⟨y, S2⟩ := newH (o := .tup (ns.map V.ty)) S1 hp
    obtain ⟨t, h1, h2⟩ := ty_of G S2 (RB.ext y r1) e1
    exact ⟨v, p, _, t, _, b, rfl, upd_same, paired_ty ns, h2, kit_any G h1 e2, k F1 ι1 _ _ y S2 (.bool b)⟩⟩
/-- isinstance(x, C) -/
theorem de_isC (c : Str) {C : Addr} {e : Expr} {f : Env → M D} (G : CF X.K cl sub) (hc : cl c = some C) (h : PE X e (tCB (rIsi X.K) (tCons (tB X.K cl B W f) (tCons (tC (.ref C)) tNil)))) : DE X cl B W e (eC1 (isC sub c) f) :=
  weakE h fun σ H Q ⟨F, ι, st, ρ, A, q⟩ => ⟨F, ι, st, ρ, A, Post.bind back_V q fun d st1 F1 ι1 H1 v x1 S1 r1 q1 => by
    obtain ⟨b, e, k⟩ := lookB q1 S1
    obtain ⟨T, e1, e2⟩ := Option.bind_eq_some_iff.mp e
    obtain ⟨t, h1, h2⟩ := ty_of G S1 r1 e1
    have z : PySem.W.kitOne X.K t (.ref C) = some b := by
      cases T with
      | ty m =>
        cases h1
        simp only [isTyC] at e2
        split at e2
        · rename_i hm
          cases e2
          exact G.tb c C m hc hm
        · cases e2
      | own c' =>
        simp only [TY.V, Option.map_eq_some_iff] at h1
        obtain ⟨C', e3, rfl⟩ := h1
        cases e2
        exact G.cc c' C' c C e3 hc
    exact ⟨v, _, t, _, b, rfl, .own C, h2, z, k⟩⟩

/-! ### calls of built-ins by values -/
abbrev PN := List D → Store → Option D
def eN (p : PN) (f : Env → M (List D)) : Env → M D := fun ρ => (f ρ).bind fun xs => M.look (p xs)
abbrev PL := List D → Store → Option (List D)
def fN (p : PL) (f : Env → M (List D)) : Env → M (List D) := fun ρ => (f ρ).bind fun xs => M.look (p xs)
def rN (K : PySem.W.Frag) (cl : Str → Option Addr) (p : PN) : List V → Hp → VK → Prop := fun vs H Q => ∃ F ι st ds z, Sim K cl F ι H st ∧ RBs K cl F ι H vs ds ∧ p ds st = some z ∧
  ∀ F' H' v, Ext F F' ι ι H H' → Sim K cl F' ι H' st → RV K cl F' ι v z → Q v H'
/-- .. giving a new list -/
def rNL (K : PySem.W.Frag) (cl : Str → Option Addr) (p : PL) : List V → Hp → VK → Prop := fun vs H Q => ∃ F ι st ds z, Sim K cl F ι H st ∧ RBs K cl F ι H vs ds ∧ p ds st = some z ∧
  ∀ F' H' a, Ext F F' ι ι H H' → Sim K cl F' ι H' st → OwnL K cl F' ι H' a z → H a = none → Q (.ref a) H'
theorem de_nary {e : Expr} {p : PN} {f : Env → M (List D)} (h : PE X e (tCB (rN X.K cl p) (tAB X.K cl B W f))) : DE X cl B W e (eN p f) :=
  weakE h fun σ H Q ⟨F, ι, st, ρ, A, q⟩ => ⟨F, ι, st, ρ, A, Post.bind back_V q fun ds st1 F1 ι1 H1 vs x1 S1 r1 q1 => by
    obtain ⟨z, e, k⟩ := look_ok q1
    exact ⟨F1, ι1, st1, ds, z, S1, r1, e, fun F' H' v x S r => k F' ι1 H' v x S r⟩⟩
theorem df_nary {e : Expr} {p : PL} {f : Env → M (List D)} (h : PE X e (tCB (rNL X.K cl p) (tAB X.K cl B W f))) : DF X cl B W e (fN p f) :=
  weakE h fun σ H Q ⟨F, ι, st, ρ, A, q⟩ => ⟨F, ι, st, ρ, A, Post.bind back_F q fun ds st1 F1 ι1 H1 vs x1 S1 r1 q1 => by
    obtain ⟨z, e, k⟩ := look_ok q1
    exact ⟨F1, ι1, st1, ds, z, S1, r1, e, fun F' H' a x S o n => k F' ι1 H' _ x S ⟨a, rfl, o, n⟩⟩⟩
theorem weakC {f : Value} {r r' : List V → Hp → VK → Prop} (h : CallR X f r) (k : ∀ vs H Q, r' vs H Q → r vs H Q) : CallR X f r' := fun pins s σ H xs us Q I r q => h pins s σ H xs us Q I r (k xs H Q q)
theorem weakO {f : Value → Value → Sem Value} {r r' : R2} (h : OpR X f r) (k : ∀ x y H Q, r' x y H Q → r x y H Q) : OpR X f r' := fun pins s σ H x y v u Q I rx ry q => h pins s σ H x y v u Q I rx ry (k x y H Q q)
theorem rbs1 {K : PySem.W.Frag} {F H : Hp} {ι : List Addr} {vs : List V} {d : D} (r : RBs K cl F ι H vs [d]) : ∃ v, vs = [v] ∧ RB K cl F ι H v d := by
  cases r with
  | cons r t => cases t; exact ⟨_, rfl, r⟩
theorem rbs2 {K : PySem.W.Frag} {F H : Hp} {ι : List Addr} {vs : List V} {d e : D} (r : RBs K cl F ι H vs [d, e]) : ∃ v u, vs = [v, u] ∧ RB K cl F ι H v d ∧ RB K cl F ι H u e := by
  cases r with
  | cons r t =>
    obtain ⟨u, rfl, q⟩ := rbs1 t
    exact ⟨_, _, rfl, r, q⟩

/-! ### the list or tuple that an operand is -/
def seqS : D → Store → Option (List D)
  | .lst xs, _ => some xs
  | .tup xs, _ => some xs
  | .loc l, st => match st[l]? with
    | some (.lst xs) => some xs
    | _ => none
  | _, _ => none
def lstS : D → Store → Option (List D)
  | .lst xs, _ => some xs
  | .loc l, st => match st[l]? with
    | some (.lst xs) => some xs
    | _ => none
  | _, _ => none
theorem RB.lstS {K : PySem.W.Frag} {F H : Hp} {ι : List Addr} {st : Store} (S : Sim K cl F ι H st) {v : V} {d : D} {xs : List D} (r : RB K cl F ι H v d) (h : lstS d st = some xs) : ∃ a vs, v = .ref a ∧ SqL K H a vs ∧ RVs K cl F ι vs xs := by
  unfold DL.lstS at h
  split at h
  · cases h; exact r.list S
  · split at h
    · rename_i e
      cases h
      obtain ⟨a, rfl, _, ro⟩ := r.loc S e
      cases ro with
      | lst e q => exact ⟨a, _, rfl, SqL.of e, q⟩
    · cases h
  · cases h
theorem RB.seqS {K : PySem.W.Frag} {F H : Hp} {ι : List Addr} {st : Store} (S : Sim K cl F ι H st) {v : V} {d : D} {xs : List D} (r : RB K cl F ι H v d) (h : seqS d st = some xs) : ∃ a vs, v = .ref a ∧ (SqL K H a vs ∨ SqT K H a vs) ∧ RVs K cl F ι vs xs := by
  unfold DL.seqS at h
  split at h
  · cases h
    obtain ⟨a, vs, e, s, q⟩ := r.list S
    exact ⟨a, vs, e, .inl s, q⟩
  · cases h
    obtain ⟨a, vs, e, s, q⟩ := r.tuple S
    exact ⟨a, vs, e, .inr s, q⟩
  · split at h
    · rename_i e
      cases h
      obtain ⟨a, rfl, _, ro⟩ := r.loc S e
      cases ro with
      | lst e q => exact ⟨a, _, rfl, .inl (SqL.of e), q⟩
    · cases h
  · cases h
/-! ### len -/
def lenP : PN := fun ds st => match ds with
  | [.str x] => if x.length ≤ sizeLine then some (.int x.length) else none
  | [d] => (seqS d st).map fun xs => .int xs.length
  | _ => none
theorem c_len : CallR X (.builtin "len") (rN X.K cl lenP) := weakC call_len fun vs H Q ⟨F, ι, st, ds, z, S, r, e, k⟩ => by
  unfold lenP at e
  split at e
  · obtain ⟨v, rfl, rv⟩ := rbs1 r
    split at e
    · rename_i hl
      cases e
      rw [rv.str]
      exact ⟨_, _, rfl, ⟨hl, rfl⟩, k F H _ .refl S (.int _)⟩
    · cases e
  · obtain ⟨v, rfl, rv⟩ := rbs1 r
    obtain ⟨xs, h, rfl⟩ := Option.map_eq_some_iff.mp e
    obtain ⟨a, us, rfl, s, q⟩ := rv.seqS S h
    refine ⟨_, us.length, rfl, ?_, by rw [q.length]; exact k F H _ .refl S (.int _)⟩
    rcases s with s | s
    · exact .inl ⟨_, s, rfl⟩
    · exact .inr ⟨_, s, rfl⟩
  · cases e
/-! ### arithmetic and comparisons -/
def intsOp (C : Int → Int → Bool) (g : Int → Int → D) : P2 := fun x y _ => match x, y with
  | .int i, .int j => if C i j then some (g i j) else none
  | _, _ => none
theorem o_ints {f : Value → Value → Sem Value} {C : Int → Int → Prop} {Cb : Int → Int → Bool} {g : Int → Int → Int} (h : OpR X f (rI C fun i j => .int (g i j))) (hC : ∀ i j, Cb i j = true → C i j) : OpR X f (rP2 X.K cl (intsOp Cb fun i j => .int (g i j))) :=
  weakO h fun x y H Q ⟨F, ι, st, d, e, z, S, rx, ry, h, k⟩ => by
    unfold intsOp at h
    split at h
    · split at h
      · rename_i hc
        cases h
        exact ⟨_, _, rx.int, ry.int, hC _ _ hc, k F H _ .refl S (.int _)⟩
      · cases h
    · cases h
theorem o_ints0 {f : Value → Value → Sem Value} {g : Int → Int → Int} (h : OpR X f (rI0 fun i j => .int (g i j))) : OpR X f (rP2 X.K cl (intsOp (fun _ _ => true) fun i j => .int (g i j))) :=
  weakO h fun x y H Q ⟨F, ι, st, d, e, z, S, rx, ry, h, k⟩ => by
    unfold intsOp at h
    split at h
    · cases h
      exact ⟨_, _, rx.int, ry.int, k F H _ .refl S (.int _)⟩
    · cases h
def subI : P2 := intsOp (fun _ _ => true) fun i j => .int (i - j)
def mulI : P2 := intsOp (fun i j => decide ((-(2 ^ 64) < i ∧ i < 2 ^ 64) ∨ (-(2 ^ 64) < j ∧ j < 2 ^ 64))) fun i j => .int (i * j)
def divI : P2 := intsOp (fun _ j => decide (0 < j ∧ j < 1073741824)) fun i j => .int (i / j)
def modI : P2 := intsOp (fun _ j => decide (0 < j)) fun i j => .int (i % j)
def powI : P2 := intsOp (fun i j => decide (0 ≤ j ∧ j ≤ 1000000 ∧ i.natAbs < 2 ^ 64)) fun i j => .int (i ^ j.toNat)
def addP : P2 := fun x y _ => match x, y with
  | .int i, .int j => some (.int (i + j))
  | .str i, .str j => if i.length + j.length ≤ sizeLine then some (.str (i ++ j)) else none
  | _, _ => none
theorem o_sub : OpR X (binaryOp .Sub) (rP2 X.K cl subI) := o_ints0 op_sub
theorem o_mul : OpR X (binaryOp .Mult) (rP2 X.K cl mulI) := o_ints op_mul fun i j h => (of_decide_eq_true (p := (-(2 ^ 64) < i ∧ i < 2 ^ 64) ∨ (-(2 ^ 64) < j ∧ j < 2 ^ 64)) h)
theorem o_div : OpR X (binaryOp .FloorDiv) (rP2 X.K cl divI) := o_ints op_fdiv fun i j h => (of_decide_eq_true (p := 0 < j ∧ j < 1073741824) h)
theorem o_mod : OpR X (binaryOp .Mod) (rP2 X.K cl modI) := o_ints op_mod fun _ _ h => of_decide_eq_true h
theorem o_pow : OpR X (binaryOp .Pow) (rP2 X.K cl powI) := o_ints op_pow fun i j h => (of_decide_eq_true (p := 0 ≤ j ∧ j ≤ 1000000 ∧ i.natAbs < 2 ^ 64) h)
theorem o_add : OpR X (binaryOp .Add) (rP2 X.K cl addP) := weakO (OpR.or op_add op_add_str) fun x y H Q ⟨F, ι, st, d, e, z, S, rx, ry, h, k⟩ => by
  unfold addP at h
  split at h
  · cases h
    exact .inl ⟨_, _, rx.int, ry.int, k F H _ .refl S (.int _)⟩
  · split at h
    · rename_i hl
      cases h
      exact .inr ⟨_, _, rx.str, ry.str, hl, k F H _ .refl S (.str _)⟩
    · cases h
  · cases h
def ltP : C2 := fun x y _ => match x, y with
  | .int i, .int j => some (decide (i < j))
  | .str i, .str j => some (decide (i.cps.toList < j.cps.toList))
  | _, _ => none
def leP : C2 := fun x y _ => match x, y with
  | .int i, .int j => some (decide (i ≤ j))
  | _, _ => none
def gtP : C2 := fun x y _ => match x, y with
  | .int i, .int j => some (decide (j < i))
  | _, _ => none
def geP : C2 := fun x y _ => match x, y with
  | .int i, .int j => some (decide (j ≤ i))
  | _, _ => none
theorem o_lt : OpR X (compareOp .Lt) (rC2 X.K cl ltP) := weakO (OpR.or op_lt op_lt_str) fun x y H Q ⟨F, ι, st, d, e, b, S, rx, ry, h, k⟩ => by
  unfold ltP at h
  split at h
  · cases h; exact .inl ⟨_, _, rx.int, ry.int, k⟩
  · cases h; exact .inr ⟨_, _, rx.str, ry.str, k⟩
  · cases h
theorem o_le : OpR X (compareOp .LtE) (rC2 X.K cl leP) := weakO op_le fun x y H Q ⟨F, ι, st, d, e, b, S, rx, ry, h, k⟩ => by
  unfold leP at h
  split at h
  · cases h; exact ⟨_, _, rx.int, ry.int, k⟩
  · cases h
theorem o_gt : OpR X (compareOp .Gt) (rC2 X.K cl gtP) := weakO op_gt fun x y H Q ⟨F, ι, st, d, e, b, S, rx, ry, h, k⟩ => by
  unfold gtP at h
  split at h
  · cases h; exact ⟨_, _, rx.int, ry.int, k⟩
  · cases h
theorem o_ge : OpR X (compareOp .GtE) (rC2 X.K cl geP) := weakO op_ge fun x y H Q ⟨F, ι, st, d, e, b, S, rx, ry, h, k⟩ => by
  unfold geP at h
  split at h
  · cases h; exact ⟨_, _, rx.int, ry.int, k⟩
  · cases h
theorem de_c2 {op : CmpOp} {p : C2} {a b : Expr} {fa fb : Env → M D} (ho : OpR X (compareOp op) (rC2 X.K cl p)) (ha : DB X cl B W a fa) (hb : DB X cl B W b fb) (hm : behindInMarks op b = false) : DE X cl B W (.Compare a [op] [b] pos) (eC2 p fa fb) :=
  weakE (pe_cmpR ho ha hb hm) fun σ H Q ⟨F, ι, st, ρ, A, q⟩ => ⟨F, ι, st, ρ, A, Post.bind back_V q fun d st1 F1 ι1 H1 v x1 S1 r1 q1 =>
    ⟨F1, ι1, st1, ρ, A.later x1 S1, Post.bind back_V q1 fun e st2 F2 ι2 H2 u x2 S2 r2 q2 => by
      obtain ⟨b, e', k⟩ := lookB q2 S2
      exact ⟨F2, ι2, st2, d, e, b, S2, RB.ext x2 r1, r2, e', k⟩⟩⟩
/-- a op1 b op2 c -/
def eChain (p p' : C2) (f g h : Env → M D) : Env → M D := fun ρ => (f ρ).bind fun x => (g ρ).bind fun y => (M.look (p x y)).bind fun b => if b = true then (h ρ).bind fun z => M.look fun st => (p' y z st).map .bool else M.ret (.bool false)
theorem de_chain {op op' : CmpOp} {p p' : C2} {a b c : Expr} {f g h : Env → M D} (ho : OpR X (compareOp op) (rC2 X.K cl p)) (ho' : OpR X (compareOp op') (rC2 X.K cl p')) (ha : DB X cl B W a f) (hb : DB X cl B W b g) (hc : DB X cl B W c h)
    (hm : lastMarks [op, op'] [b, c] = false := by with_unfolding_all rfl) : DE X cl B W (.Compare a [op, op'] [b, c] pos) (eChain p p' f g h) :=
  weakE (pe_chain ho ho' ha hb hc hm) fun σ H Q ⟨F, ι, st, ρ, A, q⟩ => ⟨F, ι, st, ρ, A, Post.bind back_V q fun d st1 F1 ι1 H1 v x1 S1 r1 q1 =>
    ⟨F1, ι1, st1, ρ, A.later x1 S1, Post.bind back_V q1 fun e st2 F2 ι2 H2 u x2 S2 r2 q2 => by
      replace q2 : Post X.K cl (rV X.K cl) F2 ι2 H2 σ W (((M.look (p d e)) st2).bind fun b => if b = true then (h ρ).bind fun z => M.look fun st => (p' e z st).map .bool else M.ret (.bool false)) Q := q2
      unfold M.look at q2
      cases eb : p d e st2 with
      | none => rw [eb] at q2; exact q2.elim
      | some b =>
        rw [eb] at q2
        refine ⟨F2, ι2, st2, d, e, b, S2, RB.ext x2 r1, r2, eb, b, rfl, ?_⟩
        refine bite (fun e' q2 => ?_) (fun e' q2 => ?_) q2
        · subst e'
          refine ⟨F2, ι2, st2, ρ, (A.later x1 S1).later x2 S2, Post.bind back_V q2 fun z st3 F3 ι3 H3 w x3 S3 r3 q3 => ?_⟩
          obtain ⟨b', e', k⟩ := lookB q3 S3
          exact ⟨F3, ι3, st3, e, z, b', S3, RB.ext x3 r2, r3, e', k⟩
        · subst e'
          exact q2 F2 ι2 H2 _ .refl S2 (.bool false)⟩⟩
end
end DL
end
section
/-! DL6: equality, in, places, slices, conversions. -/
namespace DL
open PySem PySem.Spec PyProof.Rows L2

/-! ### data as the library has it -/
mutual
def toPy : D → PyData
  | .non => .none
  | .bool b => .bool b
  | .int i => .int i
  | .str s => .str s
  | .tup ds => .tuple (toPys ds)
  | .lst ds => .list (toPys ds)
  | .dic _ => .none
  | .dit _ => .none
  | .ins _ _ => .none
  | .loc _ => .none
def toPys : List D → List PyData
  | [] => []
  | d :: ds => toPy d :: toPys ds
end
/-- data of a depth -/
def fit : Nat → D → Bool
  | _, .non => true
  | _, .bool _ => true
  | _, .int _ => true
  | _, .str _ => true
  | n + 1, .tup ds => ds.all (fit n)
  | n + 1, .lst ds => ds.all (fit n)
  | _, _ => false
theorem fit_py : ∀ (n : Nat) (d : D), fit n d = true → (toPy d).plain = true ∧ (toPy d).depth ≤ n := by
  intro n
  induction n with
  | zero =>
    intro d h
    cases d <;> first | exact ⟨rfl, Nat.le_refl 0⟩ | cases h
  | succ n ih =>
    have all : ∀ ds : List D, ds.all (fit n) = true → PyData.plainAll (toPys ds) = true ∧ PyData.depthAll (toPys ds) ≤ n := by
      intro ds
      induction ds with
      | nil => intro _; exact ⟨rfl, Nat.zero_le _⟩
      | cons d ds ihd =>
        intro h
        rw [List.all_cons, Bool.and_eq_true] at h
        obtain ⟨a1, a2⟩ := ih d h.1
        obtain ⟨b1, b2⟩ := ihd h.2
        refine ⟨by simp only [toPys, PyData.plainAll, a1, b1, Bool.and_self], ?_⟩
        simp only [toPys, PyData.depthAll]
        exact Nat.max_le.mpr ⟨a2, b2⟩
    intro d h
    cases d with
    | tup ds =>
      obtain ⟨a, b⟩ := all ds h
      refine ⟨by simp only [toPy, PyData.plain, a], ?_⟩
      simp only [toPy, PyData.depth]
      omega
    | lst ds =>
      obtain ⟨a, b⟩ := all ds h
      refine ⟨by simp only [toPy, PyData.plain, a], ?_⟩
      simp only [toPy, PyData.depth]
      omega
    | non => exact ⟨rfl, Nat.zero_le _⟩
    | bool b => exact ⟨rfl, Nat.zero_le _⟩
    | int b => exact ⟨rfl, Nat.zero_le _⟩
    | str b => exact ⟨rfl, Nat.zero_le _⟩
    | dic _ => cases h
    | dit _ => cases h
    | ins _ _ => cases h
    | loc _ => cases h
section
variable {K : PySem.W.Frag} {cl : Str → Option Addr} {F H : Hp} {ι : List Addr}
mutual
theorem RV.dp (sub : ∀ a o, F a = some o → H a = some o) : ∀ {v : V} {d : D} (n : Nat), RV K cl F ι v d → fit n d = true → Dp K H v (toPy d)
  | _, _, _, .non, _ => .non
  | _, _, _, .bool b, _ => .bl b
  | _, _, _, .int b, _ => .int b
  | _, _, _, .str b, _ => .str b
  | _, _, n + 1, .tup s r, h => by
    rw [toPy]
    exact .tup (SqT.of (sub _ _ s)) (RVs.dp sub n r h)
  | _, _, n + 1, .lst s r, h => by
    rw [toPy]
    exact .lst (SqL.up sub s) (RVs.dp sub n r h)
  | _, _, n, .dicK _ _, h => by cases n <;> cases h
  | _, _, n, .dicT _ _, h => by cases n <;> cases h
  | _, _, n, .ins _ _ _, h => by cases n <;> cases h
  | _, _, n, .loc _, h => by cases n <;> cases h
theorem RVs.dp (sub : ∀ a o, F a = some o → H a = some o) : ∀ {v : List V} {d : List D} (n : Nat), RVs K cl F ι v d → d.all (fit n) = true → DpAll K H v (toPys d)
  | _, _, _, .nil, _ => .nil
  | _, _, n, .cons r t, h => by
    rw [List.all_cons, Bool.and_eq_true] at h
    rw [toPys]
    exact .cons (RV.dp sub n r h.1) (RVs.dp sub n t h.2)
end
theorem RB.dp {st : Store} (S : Sim K cl F ι H st) {v : V} {d : D} {n : Nat} (r : RB K cl F ι H v d) (h : fit n d = true) : Dp K H v (toPy d) := by
  rcases r with r | ⟨a, xs, rfl, rfl, vs, e, r, _⟩
  · exact r.dp S.sub n h
  · cases n with
    | zero => cases h
    | succ n =>
      rw [toPy]
      exact .lst (SqL.of e) (r.dp S.sub n h)
end
/-- Python's == of data -/
def deq (d e : D) : Bool := PyData.eqv (toPy d) (toPy e)
def eqP : C2 := fun d e _ => if fit 60 d = true ∧ fit 60 e = true then some (deq d e) else none
def neP : C2 := fun d e _ => if fit 60 d = true ∧ fit 60 e = true then some (!deq d e) else none
/-- a frozen list, or a list of one's own; or a tuple -/
def itemsOf : D → Option (List D)
  | .lst xs => some xs
  | .tup xs => some xs
  | _ => none
def inP : C2 := fun d e _ => match itemsOf e with
  | some xs => if fit 60 d = true ∧ xs.all (fit 60) = true then some (xs.any fun y => deq y d) else none
  | none => none
def notInP : C2 := fun d e st => (inP d e st).map (!·)
section
variable {X : Cx} {cl : Str → Option Addr} {sub : Str → Str → Bool} {B : Base} {W : WX} {pos : Pos}
theorem o_eq (hu : X.A.units + 64 < cLine) : OpR X (compareOp .Eq) (rC2 X.K cl eqP) := fun pins s σ H x y v u Q I rx ry ⟨F, ι, st, d, e, b, S, r1, r2, h, k⟩ => by
  unfold eqP at h
  split at h
  · rename_i hf
    cases h
    obtain ⟨p1, d1⟩ := fit_py _ _ hf.1
    obtain ⟨p2, d2⟩ := fit_py _ _ hf.2
    obtain ⟨as, q1⟩ := Dp.reads I _ x v (r1.dp S hf.1) rx
    obtain ⟨bs, q2⟩ := Dp.reads I _ y u (r2.dp S hf.2) ry
    exact SeqAt.eq_plain q1 q2 p1 p2 (by omega) ⟨.bl _, H, I, rfl, k⟩
  · cases h
theorem o_ne (hu : X.A.units + 64 < cLine) : OpR X (compareOp .NotEq) (rC2 X.K cl neP) := fun pins s σ H x y v u Q I rx ry ⟨F, ι, st, d, e, b, S, r1, r2, h, k⟩ => by
  unfold neP at h
  split at h
  · rename_i hf
    cases h
    obtain ⟨p1, d1⟩ := fit_py _ _ hf.1
    obtain ⟨p2, d2⟩ := fit_py _ _ hf.2
    obtain ⟨as, q1⟩ := Dp.reads I _ x v (r1.dp S hf.1) rx
    obtain ⟨bs, q2⟩ := Dp.reads I _ y u (r2.dp S hf.2) ry
    exact SeqAt.ne_plain q1 q2 p1 p2 (by omega) ⟨.bl _, H, I, rfl, k⟩
  · cases h
theorem any_toPys (d : D) : ∀ xs : List D, ((toPys xs).any fun y => PyData.eqv y (toPy d)) = xs.any fun y => deq y d
  | [] => rfl
  | x :: xs => by rw [toPys, List.any_cons, List.any_cons, any_toPys d xs]; rfl
theorem fits_py (n : Nat) : ∀ xs : List D, xs.all (fit n) = true → PyData.plainAll (toPys xs) = true ∧ PyData.depthAll (toPys xs) ≤ n
  | [], _ => ⟨rfl, Nat.zero_le _⟩
  | x :: xs, h => by
    rw [List.all_cons, Bool.and_eq_true] at h
    obtain ⟨a1, a2⟩ := fit_py n x h.1
    obtain ⟨b1, b2⟩ := fits_py n xs h.2
    refine ⟨by simp only [toPys, PyData.plainAll, a1, b1, Bool.and_self], ?_⟩
    simp only [toPys, PyData.depthAll]
    exact Nat.max_le.mpr ⟨a2, b2⟩
theorem o_in (hu : X.A.units + 64 < cLine) : OpR X (compareOp .In) (rC2 X.K cl inP) := fun pins s σ H x y v u Q I rx ry ⟨F, ι, st, d, e, b, S, r1, r2, h, k⟩ => by
  unfold inP at h
  cases e with
  | lst xs =>
    simp only [itemsOf] at h
    split at h
    · rename_i hf
      cases h
      obtain ⟨p1, d1⟩ := fit_py _ _ hf.1
      obtain ⟨p2, d2⟩ := fits_py _ _ hf.2
      obtain ⟨as, q1⟩ := Dp.reads I _ x v (r1.dp S hf.1) rx
      obtain ⟨bs, q2⟩ := Dp.reads I (.list (toPys xs)) y u (by have z := RB.dp (n := 61) S r2 hf.2; rw [toPy] at z; exact z) ry
      exact SeqAt.in_list_data q2 q1 p2 p1 (by omega) ⟨.bl _, H, I, by rw [any_toPys] <;> rfl, k⟩
    · cases h
  | tup xs =>
    simp only [itemsOf] at h
    split at h
    · rename_i hf
      cases h
      obtain ⟨p1, d1⟩ := fit_py _ _ hf.1
      obtain ⟨p2, d2⟩ := fits_py _ _ hf.2
      obtain ⟨as, q1⟩ := Dp.reads I _ x v (r1.dp S hf.1) rx
      obtain ⟨bs, q2⟩ := Dp.reads I (.tuple (toPys xs)) y u (by have z := RB.dp (n := 61) S r2 hf.2; rw [toPy] at z; exact z) ry
      exact SeqAt.in_tuple_data q2 q1 p2 p1 (by omega) ⟨.bl _, H, I, by rw [any_toPys] <;> rfl, k⟩
    · cases h
  | _ => cases h
theorem o_notIn (hu : X.A.units + 64 < cLine) : OpR X (compareOp .NotIn) (rC2 X.K cl notInP) := fun pins s σ H x y v u Q I rx ry ⟨F, ι, st, d, e, b, S, r1, r2, h, k⟩ => by
  unfold notInP inP at h
  cases e with
  | lst xs =>
    simp only [itemsOf] at h
    split at h
    · rename_i hf
      cases h
      obtain ⟨p1, d1⟩ := fit_py _ _ hf.1
      obtain ⟨p2, d2⟩ := fits_py _ _ hf.2
      obtain ⟨as, q1⟩ := Dp.reads I _ x v (r1.dp S hf.1) rx
      obtain ⟨bs, q2⟩ := Dp.reads I (.list (toPys xs)) y u (by have z := RB.dp (n := 61) S r2 hf.2; rw [toPy] at z; exact z) ry
      exact SeqAt.notIn_list_data q2 q1 p2 p1 (by omega) ⟨.bl _, H, I, by rw [any_toPys] <;> rfl, k⟩
    · cases h
  | tup xs =>
    simp only [itemsOf] at h
    split at h
    · rename_i hf
      cases h
      obtain ⟨p1, d1⟩ := fit_py _ _ hf.1
      obtain ⟨p2, d2⟩ := fits_py _ _ hf.2
      obtain ⟨as, q1⟩ := Dp.reads I _ x v (r1.dp S hf.1) rx
      obtain ⟨bs, q2⟩ := Dp.reads I (.tuple (toPys xs)) y u (by have z := RB.dp (n := 61) S r2 hf.2; rw [toPy] at z; exact z) ry
      exact SeqAt.notIn_tuple_data q2 q1 p2 p1 (by omega) ⟨.bl _, H, I, by rw [any_toPys] <;> rfl, k⟩
    · cases h
  | _ => cases h
/-! ### texts within texts -/
def inS : C2 := fun d e _ => match d, e with
  | .str i, .str j => some (!(Builtin.Str.occurrences j i 0 j.length 1).isEmpty)
  | _, _ => none
def notInS : C2 := fun d e st => (inS d e st).map (!·)
theorem o_inS : OpR X (compareOp .In) (rC2 X.K cl inS) := weakO op_in_str fun x y H Q ⟨F, ι, st, d, e, b, S, r1, r2, h, k⟩ => by
  unfold inS at h
  split at h
  · cases h; exact ⟨_, _, r1.str, r2.str, k⟩
  · cases h
theorem o_notInS : OpR X (compareOp .NotIn) (rC2 X.K cl notInS) := weakO L2.op_notIn_str fun x y H Q ⟨F, ι, st, d, e, b, S, r1, r2, h, k⟩ => by
  unfold notInS inS at h
  split at h
  · cases h; exact ⟨_, _, r1.str, r2.str, k⟩
  · cases h
/-! ### is None -/
def isNone (d : D) : Bool := match d with
  | .non => true
  | _ => false
theorem RB.isN {K : PySem.W.Frag} {F H : Hp} {ι : List Addr} {v : V} {d : D} (r : RB K cl F ι H v d) : decide (v = .non) = isNone d := by
  rcases r with r | ⟨_, _, rfl, rfl, _⟩
  · cases r <;> rfl
  · rfl
theorem de_isN {a : Expr} {f : Env → M D} {j : Nat} {p : Pos} (ha : DB X cl B W a f) : DE X cl B W (.Compare a [.Is] [.Constant .none j p] pos) (eC1 (fun d _ => some (isNone d)) f) :=
  weakE (pe_cmpR op_isN ha pe_non (nomark _)) fun σ H Q ⟨F, ι, st, ρ, A, q⟩ => ⟨F, ι, st, ρ, A, Post.bind back_V q fun d st1 F1 ι1 H1 v x1 S1 r1 q1 => by
    obtain ⟨b, e, k⟩ := lookB q1 S1
    cases e
    exact ⟨rfl, by rw [RB.isN r1]; exact k⟩⟩
theorem de_notN {a : Expr} {f : Env → M D} {j : Nat} {p : Pos} (ha : DB X cl B W a f) : DE X cl B W (.Compare a [.IsNot] [.Constant .none j p] pos) (eC1 (fun d _ => some (!isNone d)) f) :=
  weakE (pe_cmpR op_notN ha pe_non (nomark _)) fun σ H Q ⟨F, ι, st, ρ, A, q⟩ => ⟨F, ι, st, ρ, A, Post.bind back_V q fun d st1 F1 ι1 H1 v x1 S1 r1 q1 => by
    obtain ⟨b, e, k⟩ := lookB q1 S1
    cases e
    exact ⟨rfl, by rw [RB.isN r1]; exact k⟩⟩
/-! ### places -/
def ixP : P2 := fun x y st => match y with
  | .int i => match x with
    | .str z => if z.length ≤ sizeLine then (atI z.cps.toList i).map fun c => .str ⟨#[c]⟩ else none
    | x => (seqS x st).bind fun xs => atI xs i
  | _ => none
theorem atI_rel {K : PySem.W.Frag} {F : Hp} {ι : List Addr} {vs : List V} {xs : List D} {i : Int} {d : D} (r : RVs K cl F ι vs xs) (h : atI xs i = some d) : ∃ v, atI vs i = some v ∧ RV K cl F ι v d := by
  unfold atI at h ⊢
  obtain ⟨j, e1, e2⟩ := Option.bind_eq_some_iff.mp h
  obtain ⟨v, e3, e4⟩ := r.get e2
  exact ⟨v, Option.bind_eq_some_iff.mpr ⟨j, by rw [r.length]; exact e1, e3⟩, e4⟩
theorem de_ix {a b : Expr} {f g : Env → M D} (ha : DB X cl B W a f) (hb : DB X cl B W b g) (hs : PlainIx b) : DE X cl B W (.Subscript a b pos) (e2 ixP f g) :=
  weakE (pe_ix ix_seq ha hb hs) fun σ H Q ⟨F, ι, st, ρ, A, q⟩ => ⟨F, ι, st, ρ, A, Post.bind back_V q fun d st1 F1 ι1 H1 v x1 S1 r1 q1 =>
    ⟨F1, ι1, st1, ρ, A.later x1 S1, Post.bind back_V q1 fun e st2 F2 ι2 H2 u x2 S2 r2 q2 => by
      obtain ⟨z, e', k⟩ := look_ok q2
      have r1 := RB.ext x2 r1
      have seq : ∀ {i : Int}, e = .int i → ((seqS d st2).bind fun xs => atI xs i) = some z → rIx X.K v u H2 Q := fun {i} ei h => by
        subst ei
        obtain ⟨xs, e1, e2⟩ := Option.bind_eq_some_iff.mp h
        obtain ⟨p, us, rfl, s, rs⟩ := r1.seqS S2 e1
        obtain ⟨w', e3, e4⟩ := atI_rel rs e2
        have kk := k F2 ι2 H2 w' .refl S2 e4
        rcases s with s | s
        · exact .inl ⟨p, us, i, w', rfl, RB.int r2, s, e3, kk⟩
        · exact .inr (.inl ⟨p, us, i, w', rfl, RB.int r2, s, e3, kk⟩)
      unfold ixP at e'
      split at e'
      · split at e'
        · split at e'
          · rename_i hl
            obtain ⟨c, e1, rfl⟩ := Option.map_eq_some_iff.mp e'
            exact .inr (.inr ⟨_, _, c, r1.str, RB.int r2, hl, e1, k F2 ι2 H2 _ .refl S2 (.str _)⟩)
          · cases e'
        · exact seq rfl e'
      · cases e'⟩⟩
/-! ### tuples joined -/
def addT : P2 := fun x y _ => match x, y with
  | .tup xs, .tup ys => if xs.length + ys.length ≤ sizeLine then some (.tup (xs ++ ys)) else none
  | _, _ => none
theorem o_addT : OpR X (binaryOp .Add) (rP2 X.K cl addT) := weakO op_catA fun x y H Q ⟨F, ι, st, d, e, z, S, rx, ry, h, k⟩ => by
  unfold addT at h
  split at h
  · split at h
    · rename_i xs ys hl
      cases h
      obtain ⟨a, vs, rfl, s, r⟩ := rx.tuple S
      obtain ⟨b, us, rfl, s', r'⟩ := ry.tuple S
      have l1 := r.length
      have l2 := r'.length
      have fx : RV X.K cl F ι (.ref a) (.tup xs) := by
        rcases rx with rx | ⟨_, _, _, e, _⟩
        · exact rx
        · cases e
      have fy : RV X.K cl F ι (.ref b) (.tup ys) := by
        rcases ry with ry | ⟨_, _, _, e, _⟩
        · exact ry
        · cases e
      refine ⟨a, b, vs, us, rfl, rfl, s, s', by omega, fun e => ?_, fun _ e => ?_, fun _ _ p hp => ?_⟩
      · subst e
        have : xs = [] := List.eq_nil_of_length_eq_zero l1.symm
        subst this
        exact k F H _ .refl S fy
      · subst e
        have : ys = [] := List.eq_nil_of_length_eq_zero l2.symm
        subst this
        rw [List.append_nil] at k
        exact k F H _ .refl S fx
      · obtain ⟨y, T⟩ := newF (o := .tup (vs ++ us)) S hp
        exact k _ _ _ y T (.tup upd_same ((r.ext y).append (r'.ext y)))
    · cases h
  · cases h
/-! ### conversions -/
def tupP : PN := fun ds st => match ds with
  | [d] => (seqS d st).map .tup
  | _ => none
theorem c_tuple : CallR X (.type "tuple") (rN X.K cl tupP) := weakC call_tuple_of fun vs H Q ⟨F, ι, st, ds, z, S, r, e, k⟩ => by
  unfold tupP at e
  split at e
  · rename_i d
    obtain ⟨v, rfl, rv⟩ := rbs1 r
    obtain ⟨xs, e1, rfl⟩ := Option.map_eq_some_iff.mp e
    cases d with
    | tup ys =>
      simp only [seqS, Option.some.injEq] at e1
      subst e1
      rcases rv with rv | ⟨_, _, _, e, _⟩
      · cases rv with
        | tup s q => exact ⟨_, _, rfl, .inr ⟨SqT.of (S.sub _ _ s), k F H _ .refl S (.tup s q)⟩⟩
      · cases e
    | lst ys =>
      simp only [seqS, Option.some.injEq] at e1
      subst e1
      obtain ⟨a, us, rfl, s, q⟩ := rv.list S
      refine ⟨_, _, rfl, .inl ⟨s, fun p hp => ?_⟩⟩
      obtain ⟨y, T⟩ := newF (o := .tup us) S hp
      exact k _ _ _ y T (.tup upd_same (q.ext y))
    | loc l =>
      simp only [seqS] at e1
      split at e1
      · rename_i e2
        cases e1
        obtain ⟨a, rfl, _, ro⟩ := rv.loc S e2
        cases ro with
        | lst e3 q =>
          refine ⟨_, _, rfl, .inl ⟨SqL.of e3, fun p hp => ?_⟩⟩
          obtain ⟨y, T⟩ := newF (o := .tup _) S hp
          exact k _ _ _ y T (.tup upd_same (q.ext y))
      · cases e1
    | _ => cases e1
  · cases e
def lstP : PL := fun ds st => match ds with
  | [d] => seqS d st
  | _ => none
theorem ownNew {K : PySem.W.Frag} {F H : Hp} {ι : List Addr} {st : Store} (S : Sim K cl F ι H st) {p : Addr} {vs : List V} {xs : List D} (hp : H p = none) (r : RVs K cl F ι vs xs) :
    Ext F F ι ι H (upd H p (.lst vs)) ∧ Sim K cl F ι (upd H p (.lst vs)) st ∧ OwnL K cl F ι (upd H p (.lst vs)) p xs := by
  obtain ⟨y, T⟩ := newH (o := .lst vs) S hp
  obtain ⟨n1, n2⟩ := S.none_of hp
  exact ⟨y, T, vs, upd_same, r, n1, n2⟩
theorem c_list : CallR X (.type "list") (rNL X.K cl lstP) := weakC call_list_of fun vs H Q ⟨F, ι, st, ds, z, S, r, e, k⟩ => by
  unfold lstP at e
  split at e
  · obtain ⟨v, rfl, rv⟩ := rbs1 r
    obtain ⟨a, us, rfl, s, q⟩ := rv.seqS S e
    refine ⟨a, us, rfl, s, fun p hp => ?_⟩
    obtain ⟨y, T, o⟩ := ownNew S hp q
    exact k F _ p y T o hp
  · cases e
def intP : PN := fun ds _ => match ds with
  | [.int i] => some (.int i)
  | [.bool b] => some (.int (if b then 1 else 0))
  | _ => none
theorem c_int : CallR X (.type "int") (rN X.K cl intP) := weakC call_int1 fun vs H Q ⟨F, ι, st, ds, z, S, r, e, k⟩ => by
  unfold intP at e
  split at e
  · cases e
    obtain ⟨v, rfl, rv⟩ := rbs1 r
    exact .inl ⟨_, by rw [rv.int], k F H _ .refl S (.int _)⟩
  · cases e
    obtain ⟨v, rfl, rv⟩ := rbs1 r
    exact .inr ⟨_, by rw [rv.bool], k F H _ .refl S (.int _)⟩
  · cases e
def boolP : PN := fun ds _ => match ds with
  | [.int i] => some (.bool (i != 0))
  | [.bool b] => some (.bool b)
  | _ => none
theorem c_bool : CallR X (.type "bool") (rN X.K cl boolP) := weakC call_bool1 fun vs H Q ⟨F, ι, st, ds, z, S, r, e, k⟩ => by
  unfold boolP at e
  split at e
  · cases e
    obtain ⟨v, rfl, rv⟩ := rbs1 r
    exact .inl ⟨_, by rw [rv.int], k F H _ .refl S (.bool _)⟩
  · cases e
    obtain ⟨v, rfl, rv⟩ := rbs1 r
    exact .inr ⟨_, by rw [rv.bool], k F H _ .refl S (.bool _)⟩
  · cases e
def strIP : PN := fun ds _ => match ds with
  | [.int i] => if i.natAbs.log2 < 1920 then some (.str (toString i)) else none
  | _ => none
theorem c_strI : CallR X (.type "str") (rN X.K cl strIP) := weakC call_str_int fun vs H Q ⟨F, ι, st, ds, z, S, r, e, k⟩ => by
  unfold strIP at e
  split at e
  · split at e
    · rename_i hl
      cases e
      obtain ⟨v, rfl, rv⟩ := rbs1 r
      exact ⟨_, by rw [rv.int], hl, k F H _ .refl S (.str _)⟩
    · cases e
  · cases e
def absP : PN := fun ds _ => match ds with
  | [.int i] => some (.int (if i < 0 then -i else i))
  | _ => none
theorem c_abs : CallR X (.builtin "abs") (rN X.K cl absP) := weakC call_abs fun vs H Q ⟨F, ι, st, ds, z, S, r, e, k⟩ => by
  unfold absP at e
  split at e
  · cases e
    obtain ⟨v, rfl, rv⟩ := rbs1 r
    exact ⟨_, by rw [rv.int], k F H _ .refl S (.int _)⟩
  · cases e
def max2P : PN := fun ds _ => match ds with
  | [.int i, .int j] => some (.int (if j > i then j else i))
  | _ => none
theorem c_max2 (hc : X.calm = true) : CallR X (.builtin "max") (rN X.K cl max2P) := weakC (call_max2 hc) fun vs H Q ⟨F, ι, st, ds, z, S, r, e, k⟩ => by
  unfold max2P at e
  split at e
  · cases e
    obtain ⟨v, u, rfl, rv, ru⟩ := rbs2 r
    exact ⟨_, _, by rw [rv.int, ru.int], k F H _ .refl S (.int _)⟩
  · cases e
def min2P : PN := fun ds _ => match ds with
  | [.int i, .int j] => some (.int (if j < i then j else i))
  | _ => none
theorem c_min2 (hc : X.calm = true) : CallR X (.builtin "min") (rN X.K cl min2P) := weakC (call_min2 hc) fun vs H Q ⟨F, ι, st, ds, z, S, r, e, k⟩ => by
  unfold min2P at e
  split at e
  · cases e
    obtain ⟨v, u, rfl, rv, ru⟩ := rbs2 r
    exact ⟨_, _, by rw [rv.int, ru.int], k F H _ .refl S (.int _)⟩
  · cases e
/-! ### all, any of lists of bools -/
def bools : List D → Option (List Bool)
  | [] => some []
  | .bool b :: ds => (bools ds).map (b :: ·)
  | _ => none
theorem bools_rel {K : PySem.W.Frag} {F : Hp} {ι : List Addr} : ∀ {xs : List D} {vs : List V} {bs : List Bool}, RVs K cl F ι vs xs → bools xs = some bs → vs = bs.map V.bl
  | [], _, _, .nil, h => by cases h; rfl
  | .bool b :: xs, _, _, .cons r t, h => by
    obtain ⟨bs, e, rfl⟩ := Option.map_eq_some_iff.mp h
    cases r
    rw [bools_rel t e, List.map_cons]
  | .non :: _, _, _, _, h => by cases h
  | .int _ :: _, _, _, _, h => by cases h
  | .str _ :: _, _, _, _, h => by cases h
  | .tup _ :: _, _, _, _, h => by cases h
  | .lst _ :: _, _, _, _, h => by cases h
  | .dic _ :: _, _, _, _, h => by cases h
  | .dit _ :: _, _, _, _, h => by cases h
  | .ins _ _ :: _, _, _, _, h => by cases h
  | .loc _ :: _, _, _, _, h => by cases h
def allP : PN := fun ds st => match ds with
  | [d] => (lstS d st).bind fun xs => (bools xs).map fun bs => .bool (bs.all id)
  | _ => none
def anyP : PN := fun ds st => match ds with
  | [d] => (lstS d st).bind fun xs => (bools xs).map fun bs => .bool (bs.any id)
  | _ => none
theorem c_all (hc : X.calm = true) : CallR X (.builtin "all") (rN X.K cl allP) := weakC (cr_all hc) fun vs H Q ⟨F, ι, st, ds, z, S, r, e, k⟩ => by
  unfold allP at e
  split at e
  · obtain ⟨v, rfl, rv⟩ := rbs1 r
    obtain ⟨xs, e1, e2⟩ := Option.bind_eq_some_iff.mp e
    obtain ⟨bs, e3, rfl⟩ := Option.map_eq_some_iff.mp e2
    obtain ⟨a, us, rfl, s, q⟩ := rv.lstS S e1
    have z := bools_rel q e3
    subst z
    exact ⟨a, bs, rfl, s, k F H _ .refl S (.bool _)⟩
  · cases e
theorem c_any (hc : X.calm = true) : CallR X (.builtin "any") (rN X.K cl anyP) := weakC (cr_any hc) fun vs H Q ⟨F, ι, st, ds, z, S, r, e, k⟩ => by
  unfold anyP at e
  split at e
  · obtain ⟨v, rfl, rv⟩ := rbs1 r
    obtain ⟨xs, e1, e2⟩ := Option.bind_eq_some_iff.mp e
    obtain ⟨bs, e3, rfl⟩ := Option.map_eq_some_iff.mp e2
    obtain ⟨a, us, rfl, s, q⟩ := rv.lstS S e1
    have z := bools_rel q e3
    subst z
    exact ⟨a, bs, rfl, s, k F H _ .refl S (.bool _)⟩
  · cases e
end
end DL
end
section
/-! DL7: comprehensions. -/
namespace DL
open PySem PySem.Spec PyProof.Rows L2

def wipeE (ρ : Env) : List Nat → Env
  | [] => ρ
  | v :: vs => (wipeE ρ vs).set v .none
abbrev W0 : WX := fun _ _ _ _ => False
def R.noX {α : Type} : R α → R α
  | .exc _ _ => .stuck
  | r => r
def compL (g : GM) (t : Env → M Bool) (el : Env → M D) : List D → List D → Env → M (List D)
  | [], acc, _ => M.ret acc
  | x :: xs, acc, ρ => fun st => match g x ρ with
    | none => .stuck
    | some ρ1 => (t ρ1 st).bind fun b => if b = true then M.bind (el ρ1) fun y => if acc.length < sizeLine then compL g t el xs (acc ++ [y]) ρ else M.stuck else compL g t el xs acc ρ
def fComp (vs : List Nat) (src : Env → M (List D)) (g : GM) (t : Env → M Bool) (e : Env → M D) : Env → M (List D) := fun ρ => (src ρ).bind fun xs st => (compL g t e xs [] (wipeE ρ vs) st).noX
def tYesM : Env → M Bool := fun _ => M.ret true
section
variable {K : PySem.W.Frag} {cl : Str → Option Addr} {B : Base} {F F' H H' : Hp} {ι ι' : List Addr} {st : Store}
theorem At.wipe {σ : L2.St} {ρ : Env} (A : At K cl B F ι H st σ ρ) : ∀ vs : List Nat, At K cl B F ι H st (wipe σ vs) (wipeE ρ vs)
  | [] => A
  | v :: vs => by
    have A' := (A.wipe vs).weakNone v
    show At K cl B F ι H st ((L2.wipe σ vs).set v none) ((wipeE ρ vs).set v .none)
    refine ⟨A'.sim, A'.ext, by simp [(A.wipe vs).len], fun j o s h1 h2 => ?_, fun j k a xs ys h1 h2 h3 h4 => ?_⟩
    · by_cases hj : v = j
      · subst hj
        rw [List.getElem?_set_self'] at h2
        cases e2 : (wipeE ρ vs)[v]? with
        | none => rw [e2] at h2; cases h2
        | some s' => rw [e2] at h2; cases h2; exact .none _
      · rw [List.getElem?_set_ne hj] at h1 h2
        exact (A.wipe vs).env j o s h1 h2
    · have own : ∀ {j : Nat} {xs : List D}, ((wipeE ρ vs).set v .none)[j]? = some (.own xs) → v ≠ j := fun {j xs} e z => by
        subst z
        rw [List.getElem?_set_self'] at e
        cases e2 : (wipeE ρ vs)[v]? with
        | none => rw [e2] at e; cases e
        | some s' => rw [e2] at e; cases e
      rw [List.getElem?_set_ne (own h1)] at h3
      rw [List.getElem?_set_ne (own h2)] at h4
      exact A'.two j k a xs ys h1 h2 h3 h4
/-- an object that is nobody's is written -/
theorem At.updFree {σ : L2.St} {ρ : Env} {p : Addr} {o o' : HO} (A : At K cl B F ι H st σ ρ) (h : H p = some o) (hF : F p = none) (hι : p ∉ ι) (hB : B.H p = none) (hn : ∀ (j : Nat) (ys : List D), ρ[j]? = some (.own ys) → σ[j]? ≠ some (some (V.ref p))) :
    At K cl B F ι (upd H p o') st σ ρ := by
  have kp : ∀ a u, a ≠ p → H a = some u → upd H p o' a = some u := fun a u e q => by rw [upd_ne e]; exact q
  refine ⟨⟨fun a u e => kp a u (fun z => by rw [z, hF] at e; cases e) (A.sim.sub a u e), A.sim.len, A.sim.nd, A.sim.dis, fun l u e => ?_⟩, ⟨A.ext.f, A.ext.i, fun a u e n => kp a u (fun z => by rw [z, hB] at e; cases e) (A.ext.h a u e n), fun a u e => ?_, A.ext.nf, A.ext.ni⟩, A.len, fun j o2 s h1 h2 => ?_, A.two⟩
  · obtain ⟨a, ha, ro⟩ := A.sim.obj l u e
    have hap : a ≠ p := fun z => hι (by rw [← z]; exact List.mem_of_getElem? ha)
    exact ⟨a, ha, ro.up (fun _ _ e => e) (List.prefix_refl _) fun u q => kp a u hap q⟩
  · by_cases z : a = p
    · exact ⟨o', by rw [z, upd_same]⟩
    · obtain ⟨u', q⟩ := A.ext.t a u e
      exact ⟨u', kp a u' z q⟩
  · cases A.env j o2 s h1 h2 with
    | none => exact .none _
    | val r => exact .val r
    | bor r => exact .bor r
    | own r n =>
      rename_i a ys
      obtain ⟨vs, g1, g2, g3, g4⟩ := r
      exact .own ⟨vs, kp a _ (fun z => hn j _ h2 (by rw [h1, z])) g1, g2, g3, g4⟩ n
theorem wipe_in {σ : L2.St} {i : Nat} (hi : i < σ.length) : ∀ {vs : List Nat}, i ∈ vs → (wipe σ vs)[i]? = some none
  | v :: vs, h => by
    show ((wipe σ vs).set v none)[i]? = some none
    by_cases e : v = i
    · subst e
      rw [List.getElem?_set_self (by rw [wipe_length]; exact hi)]
    · rw [List.getElem?_set_ne e]
      exact wipe_in hi ((List.mem_cons.mp h).resolve_left fun z => e z.symm)
theorem wipe_only {σ σ' : L2.St} {vs ws : List Nat} (o : Only ws (wipe σ vs) σ') (hw : ∀ i ∈ ws, i ∈ vs) : wipe σ' vs = wipe σ vs := by
  have hl : σ'.length = σ.length := by rw [o.1, wipe_length]
  refine List.ext_getElem? fun i => ?_
  by_cases hi : i ∈ vs
  · by_cases hlt : i < σ.length
    · rw [wipe_in hlt hi, wipe_in (by rw [hl]; exact hlt) hi]
    · rw [List.getElem?_eq_none (by rw [wipe_length, hl]; exact Nat.le_of_not_lt hlt), List.getElem?_eq_none (by rw [wipe_length]; exact Nat.le_of_not_lt hlt)]
  · rw [wipe_out hi, wipe_out hi, o.2 i (fun z => hi (hw i z)), wipe_out hi]
theorem wipe_wipe (σ : L2.St) (vs : List Nat) : wipe (wipe σ vs) vs = wipe σ vs := wipe_only (σ' := wipe σ vs) (ws := []) ⟨rfl, fun _ _ => rfl⟩ (fun _ h => by cases h)
theorem Post.noX {α β : Type} {rel : Rel α β} {σ σ' : L2.St} {W W' : WX} {r : R α} {Q : β → Hp → Prop} (h : Post K cl rel F ι H σ W r.noX Q) : Post K cl rel F ι H σ' W' r Q := by
  cases r with
  | ok a st' => exact h
  | exc e st' => exact h.elim
  | stuck => exact h
end
theorem noX_bind {α β : Type} {r : R α} {f : α → M β} : (r.bind f).noX = (r.noX).bind fun a st => (f a st).noX := by
  cases r <;> rfl
section
variable {X : Cx} {cl : Str → Option Addr} {B : Base} {W : WX} {pos : Pos}
abbrev DTs (X : Cx) (cl : Str → Option Addr) (B : Base) (W : WX) (es : List Expr) (f : Env → M Bool) : Prop := PTs X es (tT X.K cl B W f)
theorem dts_nil : DTs X cl B W [] tYesM := ⟨fun pins s σ H Q I ⟨F, ι, st, ρ, A, q⟩ => pts_nil.run pins s σ H Q I (q F ι H true .refl A.sim rfl)⟩
theorem dts_one {c : Expr} {f : Env → M Bool} (h : DT X cl B W c f) : DTs X cl B W [c] f := pts_one h
theorem Ext.updNew {F F' H H' : Hp} {ι ι' : List Addr} {p : Addr} {o : HO} (x : Ext F F' ι ι' H H') (h : H p = none) : Ext F F' ι ι' H (upd H' p o) := by
  have ne : ∀ a u, H a = some u → a ≠ p := fun a u e => ne_of_none e h
  exact ⟨x.f, x.i, fun a u e n => by rw [upd_ne (ne a u e)]; exact x.h a u e n, fun a u e => by rw [upd_ne (ne a u e)]; exact x.t a u e, x.nf, x.ni⟩
def del (H : Hp) (p : Addr) : Hp := fun b => if b = p then none else H b
theorem del_same {H : Hp} {p : Addr} : del H p p = none := by unfold del; rw [if_pos rfl]
theorem del_ne {H : Hp} {p b : Addr} (h : b ≠ p) : del H p b = H b := by unfold del; rw [if_neg h]
theorem del_upd {H : Hp} {p : Addr} {o : HO} : del (upd H p o) p = del H p := by
  funext b
  by_cases h : b = p
  · subst h; rw [del_same, del_same]
  · rw [del_ne h, del_ne h, upd_ne h]
theorem del_new {H : Hp} {p : Addr} (h : H p = none) : del H p = H := by
  funext b
  by_cases e : b = p
  · subst e; rw [del_same, h]
  · rw [del_ne e]
theorem del_some {H : Hp} {p a : Addr} {o : HO} (h : del H p a = some o) : a ≠ p ∧ H a = some o := by
  by_cases e : a = p
  · subst e; rw [del_same] at h; cases h
  · exact ⟨e, (del_ne e).symm.trans h⟩
theorem del_none {H : Hp} {p a : Addr} (h : H a = none) : del H p a = none := by
  by_cases e : a = p
  · subst e; exact del_same
  · rw [del_ne e]; exact h
theorem Ext.del {F F' H H' : Hp} {ι ι' : List Addr} {p : Addr} (x : Ext F F' ι ι' H H') : Ext F F' ι ι' (DL.del H p) (DL.del H' p) where
  f := x.f
  i := x.i
  h := fun a o e n => by
    obtain ⟨h1, h2⟩ := del_some e
    rw [del_ne h1]
    exact x.h a o h2 n
  t := fun a o e => by
    obtain ⟨h1, h2⟩ := del_some e
    rw [del_ne h1]
    exact x.t a o h2
  nf := fun a o e => (x.nf a o e).imp_right del_none
  ni := fun a e => (x.ni a e).imp_right del_none
theorem Ext.toDel {F H : Hp} {ι : List Addr} {p : Addr} : Ext F F ι ι (DL.del H p) H where
  f := fun _ _ h => h
  i := List.prefix_refl _
  h := fun a o e n => (del_some e).2
  t := fun a o e => ⟨o, (del_some e).2⟩
  nf := fun a o e => .inl e
  ni := fun a e => .inl e
theorem Post.bindDel {K : PySem.W.Frag} {α β γ δ : Type} {rel : Rel α β} {rel2 : Rel γ δ} {F H : Hp} {ι : List Addr} {σ σ' : L2.St} {W W' : WX} {p : Addr} {r : R α} {f : α → M γ} {Q : β → Hp → Prop} {Q2 : δ → Hp → Prop} (b : rel2.Back) (h : Post K cl rel2 F ι (del H p) σ W (r.noX.bind f) Q2)
    (k : ∀ a st' F' ι' H' v, Ext F F' ι ι' H H' → Sim K cl F' ι' H' st' → rel H F' ι' H' v a → Post K cl rel2 F' ι' (del H' p) σ W (f a st') Q2 → Q v H') : Post K cl rel F ι H σ' W' r Q := by
  cases r with
  | ok d st' => exact fun F2 ι2 H2 v y S q => k d st' F2 ι2 H2 v y S q (Post.later b y.del h)
  | exc e st' => exact h.elim
  | stuck => exact h
/-- the reading of a comprehension -/
theorem tLc_of {vs ws : List Nat} {src : Env → M (List D)} {g : GM} {t : Env → M Bool} {el : Env → M D} (hw : ∀ i ∈ ws, i ∈ vs) {σ : L2.St} {H : Hp} {Q : VK} (h : tF X.K cl B W (fComp vs src g t el) σ H Q) :
    tLc (tW X.K cl B W src) (tGt X.K cl B ws g) (tT X.K cl B W0 t) (tE X.K cl B W0 el) vs σ H Q := by
  obtain ⟨F, ι, st, ρ, A, q⟩ := h
  refine ⟨F, ι, st, ρ, A, Post.bind back_F q fun xs st1 F1 ι1 H1 J x1 S1 wk p => ?_⟩
  intro D0 hD
  have A1 := A.later x1 S1
  obtain ⟨nF, nι⟩ := S1.none_of hD
  have nB : B.H D0 = none := none_back A1.ext.t hD
  have nO : ∀ (j : Nat) (ys : List D), (wipeE ρ vs)[j]? = some (.own ys) → (wipe σ vs)[j]? ≠ some (some (V.ref D0)) := (A1.wipe vs).fresh hD
  refine ⟨fun i m H => ∃ F2 ι2 st2 acc accD, Le F1 ι1 F2 ι2 ∧ At X.K cl B F2 ι2 H st2 (wipe σ vs) (wipeE ρ vs) ∧ H D0 = some (.lst acc) ∧ RVs X.K cl F2 ι2 acc accD ∧ F2 D0 = none ∧ D0 ∉ ι2 ∧ m = xs.length - i ∧
    Post X.K cl (rF X.K cl) F2 ι2 (del H D0) σ W (compL g t el (xs.drop i) accD (wipeE ρ vs) st2).noX Q, ⟨xs.length, F1, ι1, st1, [], [], .refl F1 ι1, ?_, upd_same, .nil, nF, nι, rfl, ?_⟩, ?_⟩
  · exact (A1.wipe vs).later (newH S1 hD).1 (newH S1 hD).2
  · rw [del_upd, del_new hD]; exact p
  · rintro i m H2 ⟨F2, ι2, st2, acc, accD, l2, A2, hD2, ra, nF2, nι2, rfl, p2⟩
    by_cases hi : i < xs.length
    · right
      have ed : xs.drop i = xs[i] :: xs.drop (i + 1) := List.drop_eq_getElem_cons hi
      rw [ed] at p2
      refine ⟨wk.go i F2 ι2 H2 st2 hi l2 A2.sim, fun H => ∃ F2 ι2 st2 acc accD, Le F1 ι1 F2 ι2 ∧ At X.K cl B F2 ι2 H st2 (wipe σ vs) (wipeE ρ vs) ∧ H D0 = some (.lst acc) ∧ RVs X.K cl F2 ι2 acc accD ∧ F2 D0 = none ∧ D0 ∉ ι2 ∧
        Post X.K cl (rF X.K cl) F2 ι2 (del H D0) σ W (compL g t el (xs.drop (i + 1)) accD (wipeE ρ vs) st2).noX Q, ?_, ?_⟩
      · rintro H' ⟨F3, ι3, st3, acc3, accD3, l3, A3, hD3, ra3, nF3, nι3, p3⟩
        exact ⟨xs.length - (i + 1), by omega, F3, ι3, st3, acc3, accD3, l3, A3, hD3, ra3, nF3, nι3, rfl, p3⟩
      · intro x H3 y
        obtain ⟨F3, x3, S3, r3⟩ := wk.yld i xs[i] F2 ι2 H2 st2 x H3 (List.getElem?_eq_getElem hi) l2 A2.sim y
        have A3 := A2.later x3 S3
        have o3 : OwnL X.K cl F3 ι2 H3 D0 accD := OwnL.ext x3 ⟨acc, hD2, ra, nF2, nι2⟩
        unfold compL at p2
        cases eg : g xs[i] (wipeE ρ vs) with
        | none => rw [eg] at p2; exact p2.elim
        | some ρ1 =>
          rw [eg] at p2
          dsimp only at p2
          refine ⟨F3, ι2, st2, wipeE ρ vs, xs[i], ρ1, A3, r3, eg, fun σ' A' o' => ⟨wipe_only o' hw, ?_⟩⟩
          rw [noX_bind] at p2
          have p3 := Post.later back_F x3.del p2
          refine ⟨F3, ι2, st2, ρ1, A', Post.bindDel back_F p3 fun b st4 F4 ι4 H4 b' x4 S4 r4 p4 => ?_⟩
          cases r4
          have o4 := OwnL.ext x4 o3
          have A4 := A3.later x4 S4
          cases b with
          | true =>
            replace p4 : Post X.K cl (rF X.K cl) F4 ι4 (del H4 D0) σ W (((el ρ1 st4).bind fun y => if accD.length < sizeLine then compL g t el (xs.drop (i + 1)) (accD ++ [y]) (wipeE ρ vs) else M.stuck).noX) Q := p4
            rw [noX_bind] at p4
            refine iteT ⟨F4, ι4, st4, ρ1, A'.later x4 S4, Post.bindDel back_F p4 fun d st5 F5 ι5 H5 y x5 S5 r5 p5 => ?_⟩
            obtain ⟨acc5, h5, ra5, nF5, nι5⟩ := OwnL.ext x5 o4
            by_cases hz : accD.length < sizeLine
            · rw [if_pos hz] at p5
              refine ⟨acc5, h5, by rw [ra5.length]; exact hz, F5, ι5, st5, acc5 ++ [y], accD ++ [d], (l2.trans x3.le).trans (x4.le.trans x5.le), At.updFree (A4.later x5 S5) h5 nF5 nι5 nB nO, upd_same, ra5.append (.one r5), nF5, nι5, ?_⟩
              rw [del_upd]
              exact p5
            · rw [if_neg hz] at p5
              exact p5.elim
          | false =>
            replace p4 : Post X.K cl (rF X.K cl) F4 ι4 (del H4 D0) σ W ((compL g t el (xs.drop (i + 1)) accD (wipeE ρ vs) st4).noX) Q := p4
            obtain ⟨acc4, h4, ra4, nF4, nι4⟩ := o4
            exact iteF ⟨F4, ι4, st4, acc4, accD, (l2.trans x3.le).trans x4.le, A4, h4, ra4, nF4, nι4, p4⟩
    · left
      have ed : xs.drop i = [] := List.drop_eq_nil_of_le (Nat.le_of_not_lt hi)
      rw [ed] at p2
      exact ⟨wk.stop i F2 ι2 H2 st2 (Nat.le_of_not_lt hi) l2 A2.sim, p2 F2 ι2 H2 _ Ext.toDel A2.sim ⟨D0, rfl, ⟨acc, hD2, ra, nF2, nι2⟩, del_same⟩⟩
/-- [el for tg in iter if ..] -/
theorem df_comp {e : Expr} {vs ws : List Nat} {src : Env → M (List D)} {g : GM} {t : Env → M Bool} {el : Env → M D} (h : PE X e (tLc (tW X.K cl B W src) (tGt X.K cl B ws g) (tT X.K cl B W0 t) (tE X.K cl B W0 el) vs)) (hw : ∀ i ∈ ws, i ∈ vs) : DF X cl B W e (fComp vs src g t el) :=
  weakE h fun _ _ _ q => tLc_of hw q
/-- y = [el for ..]: the list is y's own -/
theorem ds_ownComp {s : Stmt} {i : Nat} {vs ws : List Nat} {src : Env → M (List D)} {g : GM} {t : Env → M Bool} {el : Env → M D} (h : PS X s (tAsg (tLc (tW X.K cl B W src) (tGt X.K cl B ws g) (tT X.K cl B W0 t) (tE X.K cl B W0 el) vs) (gName i))) (hw : ∀ i ∈ ws, i ∈ vs) : DS X cl B W s (sOwn i (fComp vs src g t el)) :=
  weakS h fun D σ H ⟨F, ι, st, ρ, A, q⟩ => tLc_of hw ⟨F, ι, st, ρ, A, PostS.bind A q fun d st' F' ι' H' v x S r p => by
    obtain ⟨a, rfl, o, n⟩ := r
    have A' := A.later x S
    exact p F' ι' H' _ (.refl F' ι') (A'.setOwn o (none_back A.ext.t n) fun j ys e _ => A.fresh n j ys e)⟩
end
end DL
end
section
/-! DL8: lists that change: one's own and those of the store. -/
namespace DL
open PySem PySem.Spec PyProof.Rows L2

section
variable {K : PySem.W.Frag} {cl : Str → Option Addr} {B : Base} {F F' H H' : Hp} {ι ι' : List Addr} {st : Store} {σ : L2.St} {ρ : Env}
/-- the slot's list as it stands -/
theorem At.own {i : Nat} {xs : List D} (A : At K cl B F ι H st σ ρ) (e : ρ[i]? = some (.own xs)) : ∃ a, σ[i]? = some (some (V.ref a)) ∧ OwnL K cl F ι H a xs ∧ B.H a = none := by
  have hi : i < σ.length := by rw [A.len]; exact (List.getElem?_eq_some_iff.mp e).1
  have eσ : σ[i]? = some σ[i] := List.getElem?_eq_getElem hi
  have z := A.env i _ _ eσ e
  generalize σ[i] = o at eσ z
  cases z with
  | own r n => exact ⟨_, eσ, r, n⟩
theorem At.val {i : Nat} {d : D} (A : At K cl B F ι H st σ ρ) (e : ρ[i]? = some (.val d)) : ∃ v, σ[i]? = some (some v) ∧ RV K cl F ι v d := by
  have hi : i < σ.length := by rw [A.len]; exact (List.getElem?_eq_some_iff.mp e).1
  have eσ : σ[i]? = some σ[i] := List.getElem?_eq_getElem hi
  have z := A.env i _ _ eσ e
  generalize σ[i] = o at eσ z
  cases z with
  | val r => exact ⟨_, eσ, r⟩
theorem At.updOwn {i : Nat} {a : Addr} {xs ys : List D} {vs : List V} (A : At K cl B F ι H st σ ρ) (e : ρ[i]? = some (.own xs)) (h : σ[i]? = some (some (V.ref a))) (r : RVs K cl F ι vs ys) : At K cl B F ι (upd H a (.lst vs)) st σ (ρ.set i (.own ys)) := by
  obtain ⟨a', h', ⟨us, g1, g2, g3, g4⟩, nB⟩ := A.own e
  rw [h] at h'
  cases h'
  -- the heap is written while the slot is nobody's
  have A1 := A.weakNone i
  have n1 : ∀ (j : Nat) (zs : List D), (ρ.set i .none)[j]? = some (.own zs) → σ[j]? ≠ some (some (V.ref a)) := fun j zs q z => by
    by_cases hj : i = j
    · subst hj
      rw [List.getElem?_set_self', e] at q
      cases q
    · rw [List.getElem?_set_ne hj] at q
      exact hj (A.two i j a xs zs e q h z)
  have A2 := A1.updFree (o' := .lst vs) g1 g3 g4 nB n1
  have A3 := A2.setOwn (i := i) (a := a) (xs := ys) ⟨vs, upd_same, r, g3, g4⟩ nB fun j zs q _ => n1 j zs q
  have eσ : σ.set i (some (V.ref a)) = σ := by
    refine List.ext_getElem? fun j => ?_
    by_cases hj : i = j
    · subst hj
      rw [List.getElem?_set_self', h]
      rfl
    · rw [List.getElem?_set_ne hj]
  rw [eσ, List.set_set] at A3
  exact A3
/-- an object of the store is written -/
theorem Sim.updLoc {l : Nat} {a : Addr} {o : O} {h' : HO} (S : Sim K cl F ι H st) (ha : ι[l]? = some a) (hl : l < st.length) (r : ∀ H', H' a = some h' → RO K cl F ι H' a o) : Sim K cl F ι (upd H a h') (st.set l o) where
  sub := fun b u e => by
    rw [upd_ne fun z => by rw [z, S.dis a (List.mem_of_getElem? ha)] at e; cases e]
    exact S.sub b u e
  len := by rw [S.len, List.length_set]
  nd := S.nd
  dis := S.dis
  obj := fun k u e => by
    by_cases hk : l = k
    · subst hk
      rw [List.getElem?_set_self hl] at e
      cases e
      exact ⟨a, ha, r _ upd_same⟩
    · rw [List.getElem?_set_ne hk] at e
      obtain ⟨b, hb, ro⟩ := S.obj k u e
      have hab : b ≠ a := fun z => by
        subst z
        have h1 := (List.getElem?_eq_some_iff.mp ha)
        have h2 := (List.getElem?_eq_some_iff.mp hb)
        obtain ⟨l1, e1⟩ := h1
        obtain ⟨l2, e2⟩ := h2
        exact hk ((List.getElem_inj S.nd).mp (e1.trans e2.symm))
      exact ⟨b, hb, ro.up (fun _ _ e => e) (List.prefix_refl _) fun u q => by rw [upd_ne hab]; exact q⟩
theorem Ext.updLoc {a : Addr} {h' : HO} (ha : a ∈ ι) : Ext F F ι ι H (upd H a h') where
  f := fun _ _ h => h
  i := List.prefix_refl _
  h := fun b o e n => by rw [upd_ne fun z => n (by rw [z]; exact ha)]; exact e
  t := fun b o e => by
    by_cases z : b = a
    · exact ⟨h', by rw [z, upd_same]⟩
    · exact ⟨o, by rw [upd_ne z]; exact e⟩
  nf := fun _ _ h => .inl h
  ni := fun _ h => .inl h
/-- a new object of the store -/
theorem Sim.newLoc {a : Addr} {o : O} {u : HO} (S : Sim K cl F ι H st) (h : H a = some u) (hF : F a = none) (hι : a ∉ ι) (r : RO K cl F (ι ++ [a]) H a o) : Sim K cl F (ι ++ [a]) H (st ++ [o]) where
  sub := S.sub
  len := by rw [List.length_append, List.length_append, S.len]; rfl
  nd := List.nodup_append.mpr ⟨S.nd, List.pairwise_singleton _ _, fun x hx y hy e => by
    rw [List.mem_singleton.mp hy] at e
    exact hι (by rw [← e]; exact hx)⟩
  dis := fun b hb => (List.mem_append.mp hb).elim (S.dis b) fun z => by rw [List.mem_singleton.mp z]; exact hF
  obj := fun l u e => by
    by_cases hl : l < st.length
    · rw [List.getElem?_append_left hl] at e
      obtain ⟨b, hb, ro⟩ := S.obj l u e
      exact ⟨b, prefix_get (List.prefix_append _ _) hb, ro.up (fun _ _ e => e) (List.prefix_append _ _) fun _ q => q⟩
    · rw [List.getElem?_append_right (Nat.le_of_not_lt hl)] at e
      have hz : l - st.length = 0 := by
        have := (List.getElem?_eq_some_iff.mp e).1
        simp at this
        omega
      rw [hz] at e
      cases e
      have hlen : l = ι.length := by rw [S.len]; omega
      exact ⟨a, by rw [hlen]; simp, r⟩
end
/-! ### mirrors -/
/-- a new list becomes an object of the store -/
def eLoc (f : Env → M (List D)) : Env → M D := fun ρ => (f ρ).bind fun xs st => .ok (.loc st.length) (st ++ [.lst xs])
/-- an expression that changes lists of one's own -/
abbrev XM := Env → M (D × Env)
def xPop (i : Nat) : XM := fun ρ => match ρ[i]? with
  | some (.own xs) => M.look fun _ => (xs[xs.length - 1]?).map fun d => (d, ρ.set i (.own xs.dropLast))
  | _ => M.stuck
def popAt (xs : List D) (d : D) : Option (D × List D) := match d with
  | .int k => if -(2 ^ 63) ≤ k ∧ k < 2 ^ 63 then (ixN xs.length k).bind fun j => (xs[j]?).map fun d => (d, xs.eraseIdx j) else none
  | _ => none
def xPopAt (i : Nat) (f : Env → M D) : XM := fun ρ => match ρ[i]? with
  | some (.own xs) => (f ρ).bind fun d => M.look fun _ => (popAt xs d).map fun p => (p.1, ρ.set i (.own p.2))
  | _ => M.stuck
def xOf (f : Env → M D) : XM := fun ρ => (f ρ).bind fun d => M.ret (d, ρ)
/-- xs.append(e) -/
def appendTo (i : Nat) (d : D) : SM := fun ρ st => match ρ[i]? with
  | some (.own xs) => if xs.length < sizeLine then .next (ρ.set i (.own (xs ++ [d]))) st else .stuck
  | some (.val (.loc l)) => match st[l]? with
    | some (.lst xs) => if xs.length < sizeLine then .next ρ (st.set l (.lst (xs ++ [d]))) else .stuck
    | _ => .stuck
  | _ => .stuck
def listAt (i : Nat) (ρ : Env) (st : Store) : Bool := match ρ[i]? with
  | some (.own _) => true
  | some (.val (.loc l)) => match st[l]? with
    | some (.lst _) => true
    | _ => false
  | _ => false
def sAppend (i : Nat) (f : Env → M D) : SM := fun ρ st => if listAt i ρ st = true then (f ρ st).then ρ fun d st => appendTo i d ρ st else .stuck
def sAppendX (i : Nat) (f : XM) : SM := fun ρ st => if listAt i ρ st = true then (f ρ st).then ρ fun p st => appendTo i p.1 p.2 st else .stuck
def sExprX (f : XM) : SM := fun ρ st => (f ρ st).then ρ fun p st => .next p.2 st
def sAsgX (f : XM) (g : GM) : SM := fun ρ st => (f ρ st).then ρ fun p st => match g p.1 p.2 with
  | some ρ' => .next ρ' st
  | none => .stuck
/-- o[k] = e, o a list of the store -/
def sSetIx (fo fi fv : Env → M D) : SM := fun ρ st => (((fv ρ).bind fun d => (fo ρ).bind fun o => (fi ρ).bind fun k st => match o, k with
  | .loc l, .int k => match st[l]? with
    | some (.lst xs) => match ixN xs.length k with
      | some j => .ok () (st.set l (.lst (xs.set j d)))
      | none => .stuck
    | _ => .stuck
  | _, _ => .stuck) st).then ρ fun _ st => .next ρ st
/-- xs[k] = e, xs one's own -/
def sSetOwn (i : Nat) (fi fv : Env → M D) : SM := fun ρ st => (fv ρ st).then ρ fun d st => match ρ[i]? with
  | some (.own xs) => (fi ρ st).then ρ fun k st => match k with
    | .int k => match ixN xs.length k with
      | some j => .next (ρ.set i (.own (xs.set j d))) st
      | none => .stuck
    | _ => .stuck
  | _ => .stuck
section
variable {X : Cx} {cl : Str → Option Addr} {B : Base} {W : WX} {pos : Pos}
theorem DF.loc {e : Expr} {f : Env → M (List D)} (h : DF X cl B W e f) : DE X cl B W e (eLoc f) :=
  weakE h fun σ H Q ⟨F, ι, st, ρ, A, q⟩ => ⟨F, ι, st, ρ, A, by
    replace q : Post X.K cl (rV X.K cl) F ι H σ W ((f ρ st).bind fun xs st => .ok (.loc st.length) (st ++ [.lst xs])) Q := q
    cases e : f ρ st with
    | stuck => rw [e] at q; exact q
    | exc e' st' => rw [e] at q; exact q
    | ok xs st' =>
      rw [e] at q
      intro F' ι' H' v x S r
      obtain ⟨a, rfl, ⟨vs, h1, h2, h3, h4⟩, n⟩ := r
      refine q F' (ι' ++ [a]) H' _ ⟨x.f, x.i.trans (List.prefix_append _ _), x.h, x.t, x.nf, fun b hb => (List.mem_append.mp hb).elim (x.ni b) fun z => by rw [List.mem_singleton.mp z]; exact .inr n⟩
        (S.newLoc h1 h3 h4 (.lst h1 (h2.up (fun _ _ e => e) (List.prefix_append _ _)))) (.loc ?_)
      rw [← S.len]
      simp⟩
def tX (K : PySem.W.Frag) (cl : Str → Option Addr) (B : Base) (W : WX) (f : XM) : TE := fun σ H Q => ∃ F ι st ρ, At K cl B F ι H st σ ρ ∧ (match f ρ st with
  | .ok p st' => ∀ F' ι' H' v, Le F ι F' ι' → At K cl B F' ι' H' st' σ p.2 → RV K cl F' ι' v p.1 → Q v H'
  | .exc e st' => ∀ F' ι' H' cv dd, Le F ι F' ι' → At K cl B F' ι' H' st' σ ρ → RX K cl F' ι' H' cv dd e → W cv dd σ H'
  | .stuck => False)
abbrev DX (X : Cx) (cl : Str → Option Addr) (B : Base) (W : WX) (e : Expr) (f : XM) : Prop := PE X e (tX X.K cl B W f)
theorem tVar_own {i : Nat} {xs : List D} {K : PySem.W.Frag} {F H : Hp} {ι : List Addr} {st : Store} {σ : L2.St} {ρ : Env} (A : At K cl B F ι H st σ ρ) (e : ρ[i]? = some (.own xs)) {Q : VK} (k : ∀ a vs, σ[i]? = some (some (V.ref a)) → H a = some (.lst vs) → RVs K cl F ι vs xs → Q (.ref a) H) : tVar i σ H Q := by
  obtain ⟨a, h1, ⟨vs, h2, h3, _⟩, _⟩ := A.own e
  exact ⟨_, h1, k a vs h1 h2 h3⟩
theorem tyL {K : PySem.W.Frag} {H : Hp} {a : Addr} {vs : List V} (h : H a = some (.lst vs)) : tyV K "list" (.ref a) H := .inl ⟨rfl, _, SqL.of h⟩
theorem dx_pop (i : Nat) {e : Expr} (h : PE X e (tBM0 X.K "list" rPop (tVar i))) : DX X cl B W e (xPop i) :=
  weakE h fun σ H Q ⟨F, ι, st, ρ, A, q⟩ => by
    unfold xPop at q
    cases ei : ρ[i]? with
    | none => rw [ei] at q; exact q.elim
    | some s =>
      rw [ei] at q
      cases s with
      | none => exact q.elim
      | val _ => exact q.elim
      | bor _ => exact q.elim
      | own xs =>
        refine tVar_own A ei fun a vs h1 h2 h3 => ⟨tyL h2, ?_⟩
        dsimp only [M.look] at q
        cases ed : xs[xs.length - 1]? with
        | none => rw [ed] at q; exact q.elim
        | some d =>
          rw [ed] at q
          obtain ⟨v, hv, rv⟩ := h3.get ed
          rw [← h3.length] at hv
          refine ⟨a, vs, v, rfl, rfl, h2, hv, q F ι _ v (.refl F ι) ?_ rv⟩
          refine A.updOwn ei h1 ?_
          rw [List.dropLast_eq_take, List.dropLast_eq_take, h3.length]
          exact h3.take _
theorem dx_popAt (i : Nat) {e : Expr} {f : Env → M D} (h : PE X e (tBM X.K "list" rPopAt (tVar i) (tCons (tE X.K cl B W f) tNil))) : DX X cl B W e (xPopAt i f) :=
  weakE h fun σ H Q ⟨F, ι, st, ρ, A, q⟩ => by
    unfold xPopAt at q
    cases ei : ρ[i]? with
    | none => rw [ei] at q; exact q.elim
    | some s =>
      rw [ei] at q
      cases s with
      | none => exact q.elim
      | val _ => exact q.elim
      | bor _ => exact q.elim
      | own xs =>
        refine tVar_own A ei fun a vs h1 h2 h3 => ⟨tyL h2, F, ι, st, ρ, A, ?_⟩
        replace q : (match (f ρ st).bind fun d => M.look fun _ => (popAt xs d).map fun p => (p.1, ρ.set i (.own p.2)) with
          | .ok p st' => ∀ F' ι' H' v, Le F ι F' ι' → At X.K cl B F' ι' H' st' σ p.2 → RV X.K cl F' ι' v p.1 → Q v H'
          | .exc e st' => ∀ F' ι' H' cv dd, Le F ι F' ι' → At X.K cl B F' ι' H' st' σ ρ → RX X.K cl F' ι' H' cv dd e → W cv dd σ H'
          | .stuck => False) := q
        cases ef : f ρ st with
        | stuck => rw [ef] at q; exact q.elim
        | exc e' st' =>
          rw [ef] at q
          exact fun F' ι' H' cv dd x S rx => q F' ι' H' cv dd x.le (A.later x S) rx
        | ok d st' =>
          rw [ef] at q
          intro F' ι' H' u x S r
          have A' := A.later x S
          replace q : (match M.look (fun _ => (popAt xs d).map fun p => (p.1, ρ.set i (.own p.2))) st' with
            | .ok p st' => ∀ F' ι' H' v, Le F ι F' ι' → At X.K cl B F' ι' H' st' σ p.2 → RV X.K cl F' ι' v p.1 → Q v H'
            | .exc e st' => ∀ F' ι' H' cv dd, Le F ι F' ι' → At X.K cl B F' ι' H' st' σ ρ → RX X.K cl F' ι' H' cv dd e → W cv dd σ H'
            | .stuck => False) := q
          dsimp only [M.look] at q
          cases ep : popAt xs d with
          | none => rw [ep] at q; exact q.elim
          | some p =>
            rw [ep] at q
            unfold popAt at ep
            split at ep
            · split at ep
              · rename_i hb
                obtain ⟨j, e1, e2⟩ := Option.bind_eq_some_iff.mp ep
                obtain ⟨y, e3, rfl⟩ := Option.map_eq_some_iff.mp e2
                obtain ⟨a2, g1, ⟨us, g2, g3, _⟩, _⟩ := A'.own ei
                rw [h1] at g1
                cases g1
                obtain ⟨v, hv, rv⟩ := g3.get e3
                cases r
                refine ⟨a, us, _, j, v, rfl, rfl, g2, hb.1, hb.2, ?_, hv, q F' ι' _ v x.le (A'.updOwn ei h1 (g3.eraseIdx j)) rv⟩
                rw [g3.length]
                exact (ixN_seq e1).1
              · cases ep
            · cases ep
/-- the list that stands in slot i, to be appended to -/
theorem append_at {i : Nat} {K : PySem.W.Frag} {F H : Hp} {ι : List Addr} {st : Store} {σ : L2.St} {ρ : Env} (A : At K cl B F ι H st σ ρ) (e : listAt i ρ st = true) : ∃ a xs, σ[i]? = some (some (V.ref a)) ∧ H a = some (.lst xs) := by
  unfold listAt at e
  split at e
  · rename_i xs ei
    obtain ⟨a, h1, ⟨vs, h2, _⟩, _⟩ := A.own ei
    exact ⟨a, vs, h1, h2⟩
  · rename_i l ei
    split at e
    · rename_i es
      obtain ⟨v, h1, r⟩ := A.val ei
      cases r with
      | loc hl =>
        obtain ⟨a, ha, ro⟩ := A.sim.obj _ _ es
        rw [hl] at ha
        cases ha
        cases ro with
        | lst h2 _ => exact ⟨_, _, h1, h2⟩
    · cases e
  · cases e
theorem appendTo_ok {i : Nat} {d : D} {K : PySem.W.Frag} {F H : Hp} {ι : List Addr} {st : Store} {σ : L2.St} {ρ : Env} {D0 : Ends} {v : V} {a : Addr} (A : At K cl B F ι H st σ ρ) (h : σ[i]? = some (some (V.ref a))) (r : RV K cl F ι v d) (q : PostS K cl B W F ι D0 (appendTo i d ρ st)) :
    rAppend (.ref a) [v] H fun _ H' => D0.nx σ H' := by
  unfold appendTo at q
  split at q
  · rename_i xs ei
    split at q
    · rename_i hz
      obtain ⟨a', h1, ⟨vs, h2, h3, _⟩, _⟩ := A.own ei
      rw [h] at h1
      cases h1
      exact ⟨a, vs, v, rfl, rfl, h2, by rw [h3.length]; exact hz, q F ι _ σ (.refl F ι) (A.updOwn ei h (h3.append (.one r)))⟩
    · exact q.elim
  · rename_i l ei
    split at q
    · rename_i xs es
      split at q
      · rename_i hz
        obtain ⟨v', h1, r'⟩ := A.val ei
        rw [h] at h1
        cases h1
        cases r' with
        | loc hl =>
          obtain ⟨a2, ha, ro⟩ := A.sim.obj _ _ es
          rw [hl] at ha
          cases ha
          cases ro with
          | lst h2 h3 =>
            refine ⟨a, _, v, rfl, rfl, h2, by rw [h3.length]; exact hz, q F ι _ σ (.refl F ι) (A.later (Ext.updLoc (List.mem_of_getElem? hl)) (A.sim.updLoc hl (List.getElem?_eq_some_iff.mp es).1 fun H' e => .lst e (h3.append (.one r))))⟩
      · exact q.elim
    · exact q.elim
  · exact q.elim
theorem ds_append (i : Nat) {s : Stmt} {f : Env → M D} (h : PS X s (tDrop (tBM X.K "list" rAppend (tVar i) (tCons (tE X.K cl B W f) tNil)))) : DS X cl B W s (sAppend i f) :=
  weakS h fun D σ H ⟨F, ι, st, ρ, A, q⟩ => by
    unfold sAppend at q
    split at q
    · rename_i e
      obtain ⟨a, xs, h1, h2⟩ := append_at A e
      exact ⟨_, h1, tyL h2, F, ι, st, ρ, A, PostS.bind A q fun d st' F' ι' H' v x S r p => appendTo_ok (A.later x S) h1 r p⟩
    · exact q.elim
theorem xpost {K : PySem.W.Frag} {F H : Hp} {ι : List Addr} {st : Store} {σ : L2.St} {ρ : Env} {r : R (D × Env)} {k : D × Env → Store → SR} {D0 : Ends} {Q : VK} (A : At K cl B F ι H st σ ρ) (q : PostS K cl B W F ι D0 (r.then ρ k))
    (h : ∀ p st' F' ι' H' v, Le F ι F' ι' → At K cl B F' ι' H' st' σ p.2 → RV K cl F' ι' v p.1 → PostS K cl B W F' ι' D0 (k p st') → Q v H') :
    (match r with
      | .ok p st' => ∀ F' ι' H' v, Le F ι F' ι' → At K cl B F' ι' H' st' σ p.2 → RV K cl F' ι' v p.1 → Q v H'
      | .exc e st' => ∀ F' ι' H' cv dd, Le F ι F' ι' → At K cl B F' ι' H' st' σ ρ → RX K cl F' ι' H' cv dd e → W cv dd σ H'
      | .stuck => False) := by
  cases r with
  | ok p st' => exact fun F' ι' H' v l A' r => h p st' F' ι' H' v l A' r (PostS.later l q)
  | exc e st' => exact fun F' ι' H' cv dd l A' rx => q F' ι' H' σ cv dd l A' rx
  | stuck => exact q
theorem ds_appendX (i : Nat) {s : Stmt} {f : XM} (h : PS X s (tDrop (tBM X.K "list" rAppend (tVar i) (tCons (tX X.K cl B W f) tNil)))) : DS X cl B W s (sAppendX i f) :=
  weakS h fun D σ H ⟨F, ι, st, ρ, A, q⟩ => by
    unfold sAppendX at q
    split at q
    · rename_i e
      obtain ⟨a, xs, h1, h2⟩ := append_at A e
      exact ⟨_, h1, tyL h2, F, ι, st, ρ, A, xpost A q fun p st' F' ι' H' v l A' r q' => appendTo_ok A' h1 r q'⟩
    · exact q.elim
theorem ds_exprX {e : Expr} {f : XM} (h : DX X cl B W e f) (hs : swapsWith e none pos.line X.env = pure false := by rfl) : DS X cl B W (.Expr e pos) (sExprX f) :=
  weakS (ps_expr h hs) fun D σ H ⟨F, ι, st, ρ, A, q⟩ => ⟨F, ι, st, ρ, A, xpost A q fun p st' F' ι' H' v l A' r q' => q' F' ι' H' σ (.refl F' ι') A'⟩
theorem ds_asgX {tg e : Expr} {f : XM} {ws : List Nat} {g : GM} (he : DX X cl B W e f) (hg : DG X cl B tg ws g) (hs : swapsWithSole [tg] e pos.line X.env = pure false := by rfl) (hw : swappedStores [tg] e X.env = pure none := by rfl) (h1 : (assignEach [tg] X.env).map (·.2) = [assign tg X.env] := by rfl) : DS X cl B W (.Assign [tg] e pos) (sAsgX f g) :=
  weakS (ps_asg he hg hs hw h1) fun D σ H ⟨F, ι, st, ρ, A, q⟩ => ⟨F, ι, st, ρ, A, xpost A q fun p st' F' ι' H' v l A' r q' => by
    split at q'
    · rename_i ρ' e
      exact ⟨F', ι', st', p.2, p.1, ρ', A', r, e, fun σ' A2 _ => q' F' ι' H' σ' (.refl F' ι') A2⟩
    · exact q'.elim⟩
theorem ds_setIx {s : Stmt} {fo fi fv : Env → M D} (h : PS X s (tAsg (tE X.K cl B W fv) (gSub (tE X.K cl B W fo) (tE X.K cl B W fi) rSetL))) : DS X cl B W s (sSetIx fo fi fv) :=
  weakS h fun D σ H ⟨F, ι, st, ρ, A, q⟩ => ⟨F, ι, st, ρ, A, by
    have z : Post X.K cl (fun _ _ _ _ (_ : Unit) (_ : Unit) => True) F ι H σ W (((fv ρ).bind fun d => (fo ρ).bind fun o => (fi ρ).bind fun k st => match o, k with
      | .loc l, .int k => match st[l]? with
        | some (.lst xs) => match ixN xs.length k with
          | some j => .ok () (st.set l (.lst (xs.set j d)))
          | none => .stuck
        | _ => .stuck
      | _, _ => .stuck) st) (fun _ H' => D.nx σ H') := PostS.bind A q fun _ st' F' ι' H' _ x S _ p => p F' ι' H' σ (.refl F' ι') (A.later x S)
    have bk : Rel.Back (fun _ _ _ _ (_ : Unit) (_ : Unit) => True) := fun _ _ _ _ _ _ _ _ h => h
    refine Post.bind bk z fun d st1 F1 ι1 H1 v x1 S1 r1 z1 => ⟨F1, ι1, st1, ρ, A.later x1 S1, Post.bind bk z1 fun o st2 F2 ι2 H2 u x2 S2 r2 z2 => ⟨F2, ι2, st2, ρ, (A.later x1 S1).later x2 S2, Post.bind bk z2 fun k st3 F3 ι3 H3 w x3 S3 r3 z3 => ?_⟩⟩
    have r1 : RV X.K cl F3 ι3 v d := RV.ext x3 (RV.ext x2 r1)
    have r2 : RV X.K cl F3 ι3 u o := RV.ext x3 r2
    split at z3
    · split at z3
      · rename_i xs es
        split at z3
        · rename_i j ej
          cases r2 with
          | loc hl =>
            obtain ⟨a, ha, ro⟩ := S3.obj _ _ es
            rw [hl] at ha
            cases ha
            cases ro with
            | lst h2 h3 =>
              cases r3
              refine ⟨_, _, _, j, rfl, rfl, h2, by rw [h3.length]; exact ej, z3 F3 ι3 _ () (Ext.updLoc (List.mem_of_getElem? hl)) (S3.updLoc hl (List.getElem?_eq_some_iff.mp es).1 fun H' e => .lst e (RVs.set r1 j h3)) True.intro⟩
        · exact z3.elim
      · exact z3.elim
    · exact z3.elim⟩
end
end DL
end
section
/-! DL9: tests that are comparisons; joins, slices, repeats; several targets at once; augmented stores. -/
namespace DL
open PySem PySem.Spec PyProof.Rows L2
section
variable {X : Cx} {cl : Str → Option Addr} {sub : Str → Str → Bool} {B : Base} {W : WX} {pos : Pos}
/-! ### comparisons as tests -/
theorem tOfB_weak {f : Env → M D} {t : TE} (k : ∀ σ H Q, tE X.K cl B W f σ H Q → t σ H Q) : ∀ σ H Q, tT X.K cl B W (tOfB f) σ H Q → tTest t σ H Q := fun σ H Q ⟨F, ι, st, ρ, A, q⟩ =>
  k σ H _ ⟨F, ι, st, ρ, A, Post.bind back_T q fun d st1 F1 ι1 H1 v x1 S1 r1 q1 => by
    obtain ⟨z, hz, k⟩ := look_ok q1
    split at hz
    · cases hz
      exact ⟨z, RB.bool (RB.of (H := H1) r1), k F1 ι1 H1 z .refl S1 rfl⟩
    · cases hz⟩
theorem c2_weak {p : C2} {ta tb : TE} {fa fb : Env → M D} (ha : ta = tB X.K cl B W fa) (hb : tb = tB X.K cl B W fb) : ∀ σ H Q, tE X.K cl B W (eC2 p fa fb) σ H Q → tOp (rC2 X.K cl p) ta tb σ H Q := fun σ H Q ⟨F, ι, st, ρ, A, q⟩ => by
  subst ha hb
  exact ⟨F, ι, st, ρ, A, Post.bind back_V q fun d st1 F1 ι1 H1 v x1 S1 r1 q1 =>
    ⟨F1, ι1, st1, ρ, A.later x1 S1, Post.bind back_V q1 fun e st2 F2 ι2 H2 u x2 S2 r2 q2 => by
      obtain ⟨b, e', k⟩ := lookB q2 S2
      exact ⟨F2, ι2, st2, d, e, b, S2, RB.ext x2 r1, r2, e', k⟩⟩⟩
theorem dt_c2 {op : CmpOp} {p : C2} {a b : Expr} {fa fb : Env → M D} (ho : OpR X (compareOp op) (rC2 X.K cl p)) (ha : DB X cl B W a fa) (hb : DB X cl B W b fb) (hm : behindInMarks op b = false) : DT X cl B W (.Compare a [op] [b] pos) (tOfB (eC2 p fa fb)) :=
  weakT (pt_cmpR ho ha hb hm) (tOfB_weak (c2_weak rfl rfl))
theorem chain_weak {p p' : C2} {f g h : Env → M D} : ∀ σ H Q, tE X.K cl B W (eChain p p' f g h) σ H Q → tChain (rC2 X.K cl p) (rC2 X.K cl p') (tB X.K cl B W f) (tB X.K cl B W g) (tB X.K cl B W h) σ H Q := fun σ H Q ⟨F, ι, st, ρ, A, q⟩ =>
  ⟨F, ι, st, ρ, A, Post.bind back_V q fun d st1 F1 ι1 H1 v x1 S1 r1 q1 =>
    ⟨F1, ι1, st1, ρ, A.later x1 S1, Post.bind back_V q1 fun e st2 F2 ι2 H2 u x2 S2 r2 q2 => by
      replace q2 : Post X.K cl (rV X.K cl) F2 ι2 H2 σ W (((M.look (p d e)) st2).bind fun b => if b = true then (h ρ).bind fun z => M.look fun st => (p' e z st).map .bool else M.ret (.bool false)) Q := q2
      unfold M.look at q2
      cases eb : p d e st2 with
      | none => rw [eb] at q2; exact q2.elim
      | some b =>
        rw [eb] at q2
        refine ⟨F2, ι2, st2, d, e, b, S2, RB.ext x2 r1, r2, eb, b, rfl, ?_⟩
        refine bite (fun e' q2 => ?_) (fun e' q2 => ?_) q2
        · subst e'
          refine ⟨F2, ι2, st2, ρ, (A.later x1 S1).later x2 S2, Post.bind back_V q2 fun z st3 F3 ι3 H3 w x3 S3 r3 q3 => ?_⟩
          obtain ⟨b', e', k⟩ := lookB q3 S3
          exact ⟨F3, ι3, st3, e, z, b', S3, RB.ext x3 r2, r3, e', k⟩
        · subst e'
          exact q2 F2 ι2 H2 _ .refl S2 (.bool false)⟩⟩
theorem dt_chain {op op' : CmpOp} {p p' : C2} {a b c : Expr} {f g h : Env → M D} (ho : OpR X (compareOp op) (rC2 X.K cl p)) (ho' : OpR X (compareOp op') (rC2 X.K cl p')) (ha : DB X cl B W a f) (hb : DB X cl B W b g) (hc : DB X cl B W c h)
    (hm : lastMarks [op, op'] [b, c] = false := by with_unfolding_all rfl) : DT X cl B W (.Compare a [op, op'] [b, c] pos) (tOfB (eChain p p' f g h)) :=
  weakT (pt_chain ho ho' ha hb hc hm) (tOfB_weak chain_weak)
theorem dt_isN {a : Expr} {f : Env → M D} {j : Nat} {p : Pos} (ha : DB X cl B W a f) : DT X cl B W (.Compare a [.Is] [.Constant .none j p] pos) (tOfB (eC1 (fun d _ => some (isNone d)) f)) :=
  weakT (pt_cmpR op_isN ha pe_non (nomark _)) (tOfB_weak fun σ H Q ⟨F, ι, st, ρ, A, q⟩ => ⟨F, ι, st, ρ, A, Post.bind back_V q fun d st1 F1 ι1 H1 v x1 S1 r1 q1 => by
    obtain ⟨b, e, k⟩ := lookB q1 S1
    cases e
    exact ⟨rfl, by rw [RB.isN r1]; exact k⟩⟩)
theorem dt_notN {a : Expr} {f : Env → M D} {j : Nat} {p : Pos} (ha : DB X cl B W a f) : DT X cl B W (.Compare a [.IsNot] [.Constant .none j p] pos) (tOfB (eC1 (fun d _ => some (!isNone d)) f)) :=
  weakT (pt_cmpR op_notN ha pe_non (nomark _)) (tOfB_weak fun σ H Q ⟨F, ι, st, ρ, A, q⟩ => ⟨F, ι, st, ρ, A, Post.bind back_V q fun d st1 F1 ι1 H1 v x1 S1 r1 q1 => by
    obtain ⟨b, e, k⟩ := lookB q1 S1
    cases e
    exact ⟨rfl, by rw [RB.isN r1]; exact k⟩⟩)
/-! ### what is never reached; texts that stand for themselves -/
def sStuck : SM := fun _ _ => .stuck
theorem ds_never {s : Stmt} : DS X cl B W s sStuck := weakS ps_never fun D σ H ⟨F, ι, st, ρ, A, q⟩ => q.elim
theorem ds_doc {x : Str} {j : Nat} {p : Pos} : DS X cl B W (.Expr (.Constant (.str x) j p) pos) sNext := weakS ps_doc fun D σ H ⟨F, ι, st, ρ, A, q⟩ => q F ι H σ (.refl F ι) A
/-! ### -x -/
def negP : P1 := fun x _ => match x with
  | .int i => some (.int (-i))
  | _ => none
theorem de_neg {a : Expr} {f : Env → M D} (ha : DB X cl B W a f) : DE X cl B W (.UnaryOp .USub a pos) (e1 negP f) :=
  weakE (pe_un un_neg ha) fun σ H Q ⟨F, ι, st, ρ, A, q⟩ => ⟨F, ι, st, ρ, A, Post.bind back_V q fun d st1 F1 ι1 H1 v x1 S1 r1 q1 => by
    obtain ⟨z, hz, k⟩ := look_ok q1
    unfold negP at hz
    split at hz
    · cases hz
      exact ⟨_, r1.int, k F1 ι1 H1 _ .refl S1 (.int _)⟩
    · cases hz⟩
/-! ### list + list, list * int -/
def rCatS (K : PySem.W.Frag) : R2 := fun x y H Q => ∃ l b xs zs, x = .ref l ∧ y = .ref b ∧ SqL K H l xs ∧ SqL K H b zs ∧ xs.length + zs.length ≤ sizeLine ∧ ∀ p, H p = none → Q (.ref p) (upd H p (.lst (xs ++ zs)))
theorem op_catS : OpR X (binaryOp .Add) (rCatS X.K) := by
  intro pins s σ H x y v u Q I rx ry h
  obtain ⟨l, b, xs, zs, rfl, rfl, hl, hb, hz, q⟩ := h
  cases rx
  cases ry
  obtain ⟨its, r, p1, _⟩ := I.list hl
  obtain ⟨its2, r2, p2, _⟩ := I.list hb
  obtain ⟨⟨cls, dd, data, sl⟩, ho, hc, n, hd⟩ := p1.isList
  obtain ⟨⟨cls2, dd2, data2, sl2⟩, ho2, hc2, n2, hd2⟩ := p2.isList
  simp only at hc hd hc2 hd2
  subst hc hd hc2 hd2
  have e : its.toArray ++ its2.toArray = (its ++ its2).toArray := by simp
  have l1 := r.length
  have l2 := r2.length
  refine concat_meets ⟨_, ho, rfl⟩ ⟨_, ho2, rfl⟩ noFill_list_add seq_list_add PySem.F.slot_list_add PySem.F.entry_list_add (PySem.F.args_list_add_2 _ _) (list_addW l b its.toArray its2.toArray n n2 dd dd2 sl sl2 (by simp; omega)) ⟨ho, ho2, ?_⟩
  rw [e]
  exact ⟨.ref _, _, I.lnew (t' := s.toks) (r.append r2) (by rw [List.length_append]; omega), rfl, q _ I.fresh⟩
def catS (x y : D) (st : Store) : Option (List D) := match lstS x st, lstS y st with
  | some xs, some ys => if xs.length + ys.length ≤ sizeLine then some (xs ++ ys) else none
  | _, _ => none
def fCat (f g : Env → M D) : Env → M (List D) := fun ρ => (f ρ).bind fun x => (g ρ).bind fun y => M.look (catS x y)
theorem df_cat {a b : Expr} {f g : Env → M D} (ha : DB X cl B W a f) (hb : DB X cl B W b g) : DF X cl B W (.BinOp a .Add b pos) (fCat f g) :=
  weakE (pe_op op_catS ha hb) fun σ H Q ⟨F, ι, st, ρ, A, q⟩ => ⟨F, ι, st, ρ, A, Post.bind back_F q fun d st1 F1 ι1 H1 v x1 S1 r1 q1 =>
    ⟨F1, ι1, st1, ρ, A.later x1 S1, Post.bind back_F q1 fun e st2 F2 ι2 H2 u x2 S2 r2 q2 => by
      obtain ⟨z, hz, k⟩ := look_ok q2
      unfold catS at hz
      split at hz
      · rename_i xs ys e1 e2
        split at hz
        · rename_i hl
          cases hz
          obtain ⟨a, vs, rfl, s1, r1⟩ := (RB.ext x2 r1).lstS S2 e1
          obtain ⟨b, us, rfl, s2, r2⟩ := RB.lstS S2 r2 e2
          refine ⟨a, b, vs, us, rfl, rfl, s1, s2, by rw [r1.length, r2.length]; exact hl, fun p hp => ?_⟩
          obtain ⟨y, T, o⟩ := ownNew S2 hp (r1.append r2)
          exact k F2 ι2 _ _ y T ⟨p, rfl, o, hp⟩
        · cases hz
      · cases hz⟩⟩
def repS (xs : List D) (y : D) : Option (List D) := match y with
  | .int k => if -(2 ^ 63) ≤ k ∧ k < 2 ^ 63 ∧ xs.length * k.toNat ≤ sizeLine then some (List.replicate k.toNat xs).flatten else none
  | _ => none
def fRep (f : Env → M (List D)) (g : Env → M D) : Env → M (List D) := fun ρ => (f ρ).bind fun xs => (g ρ).bind fun y => M.look fun _ => repS xs y
theorem RVs.rep {K : PySem.W.Frag} {F : Hp} {ι : List Addr} {vs : List V} {xs : List D} (r : RVs K cl F ι vs xs) : ∀ k, RVs K cl F ι (List.replicate k vs).flatten (List.replicate k xs).flatten
  | 0 => .nil
  | k + 1 => by rw [List.replicate_succ, List.replicate_succ, List.flatten_cons, List.flatten_cons]; exact r.append (RVs.rep r k)
theorem df_rep {a b : Expr} {f : Env → M (List D)} {g : Env → M D} (ha : DF X cl B W a f) (hb : DB X cl B W b g) : DF X cl B W (.BinOp a .Mult b pos) (fRep f g) :=
  weakE (pe_op op_rep ha hb) fun σ H Q ⟨F, ι, st, ρ, A, q⟩ => ⟨F, ι, st, ρ, A, Post.bind back_F q fun xs st1 F1 ι1 H1 v x1 S1 r1 q1 =>
    ⟨F1, ι1, st1, ρ, A.later x1 S1, Post.bind back_F q1 fun e st2 F2 ι2 H2 u x2 S2 r2 q2 => by
      obtain ⟨z, hz, k⟩ := look_ok q2
      obtain ⟨a, rfl, o, _⟩ := r1
      obtain ⟨vs, h1, h2, _, _⟩ := OwnL.ext x2 o
      unfold repS at hz
      split at hz
      · split at hz
        · rename_i hc
          cases hz
          refine ⟨a, _, vs, rfl, r2.int, h1, hc.1, hc.2.1, by rw [h2.length]; exact hc.2.2, fun p hp => ?_⟩
          obtain ⟨y, T, o⟩ := ownNew S2 hp (h2.rep _)
          exact k F2 ι2 _ _ y T ⟨p, rfl, o, hp⟩
        · cases hz
      · cases hz⟩⟩
/-! ### slices -/
def tO (K : PySem.W.Frag) (cl : Str → Option Addr) (B : Base) (W : WX) (f : Env → M (Option Int)) : TO := tG K cl B W (fun _ _ _ _ b c => b = c) f
abbrev DPO (X : Cx) (cl : Str → Option Addr) (B : Base) (W : WX) (e : Option Expr) (f : Env → M (Option Int)) : Prop := PO X e (tO X.K cl B W f)
def oNone : Env → M (Option Int) := fun _ => M.ret none
def oSome (f : Env → M D) : Env → M (Option Int) := fun ρ => (f ρ).bind fun d => M.look fun _ => match d with
  | .int i => some (some i)
  | _ => none
theorem weakPO {e : Option Expr} {t t' : TO} (h : PO X e t) (k : ∀ σ H Q, t' σ H Q → t σ H Q) : PO X e t' := ⟨fun pins s σ H Q I q => h.run pins s σ H Q I (k σ H Q q)⟩
theorem dpo_none : DPO X cl B W none oNone := weakPO po_none fun σ H Q ⟨F, ι, st, ρ, A, q⟩ => q F ι H none .refl A.sim rfl
theorem dpo_some {e : Expr} {f : Env → M D} (h : DB X cl B W e f) : DPO X cl B W (some e) (oSome f) :=
  weakPO (po_some h) fun σ H Q ⟨F, ι, st, ρ, A, q⟩ => ⟨F, ι, st, ρ, A, Post.bind (fun _ _ _ _ _ _ _ _ h => h) q fun d st1 F1 ι1 H1 v x1 S1 r1 q1 => by
    obtain ⟨z, hz, k⟩ := look_ok q1
    split at hz
    · cases hz
      exact ⟨_, r1.int, k F1 ι1 H1 _ .refl S1 rfl⟩
    · cases hz⟩
def cutD (xs : List D) (lo hi : Option Int) : List D := (xs.drop (HT.sIx xs.length 0 lo)).take (HT.sIx xs.length xs.length hi - HT.sIx xs.length 0 lo)
theorem RVs.cut {K : PySem.W.Frag} {F : Hp} {ι : List Addr} {vs : List V} {xs : List D} (r : RVs K cl F ι vs xs) (lo hi : Option Int) : RVs K cl F ι (cutV vs lo hi) (cutD xs lo hi) := by
  unfold cutV cutD
  rw [r.length]
  exact (r.drop _).take _
theorem back_O : Rel.Back (fun (_ _ : Hp) (_ : List Addr) (_ : Hp) (b c : Option Int) => b = c) := fun _ _ _ _ _ _ _ _ h => h
def fSlL (f : Env → M D) (l h : Env → M (Option Int)) : Env → M (List D) := fun ρ => (f ρ).bind fun x => (l ρ).bind fun i => (h ρ).bind fun j => M.look fun st => (lstS x st).map fun xs => cutD xs i j
theorem df_slL {a : Expr} {lo hi : Option Expr} {p2 : Pos} {f : Env → M D} {l h : Env → M (Option Int)} (ha : DB X cl B W a f) (hl : DPO X cl B W lo l) (hh : DPO X cl B W hi h) : DF X cl B W (.Subscript a (.Slice lo hi none p2) pos) (fSlL f l h) :=
  weakE (pe_slice sl_list ha hl hh) fun σ H Q ⟨F, ι, st, ρ, A, q⟩ => ⟨F, ι, st, ρ, A, Post.bind back_F q fun d st1 F1 ι1 H1 v x1 S1 r1 q1 =>
    ⟨F1, ι1, st1, ρ, A.later x1 S1, Post.bind back_F q1 fun i st2 F2 ι2 H2 i' x2 S2 r2 q2 => by
      cases r2
      exact ⟨F2, ι2, st2, ρ, (A.later x1 S1).later x2 S2, Post.bind back_F q2 fun j st3 F3 ι3 H3 j' x3 S3 r3 q3 => by
        cases r3
        obtain ⟨z, hz, k⟩ := look_ok q3
        obtain ⟨xs, e1, rfl⟩ := Option.map_eq_some_iff.mp hz
        obtain ⟨a, vs, rfl, s1, r1⟩ := (RB.ext x3 (RB.ext x2 r1)).lstS S3 e1
        refine ⟨a, vs, rfl, s1, fun p hp => ?_⟩
        obtain ⟨y, T, o⟩ := ownNew S3 hp (r1.cut i j)
        exact k F3 ι3 _ _ y T ⟨p, rfl, o, hp⟩⟩⟩⟩
def eSlT (f : Env → M D) (l h : Env → M (Option Int)) : Env → M D := fun ρ => (f ρ).bind fun x => (l ρ).bind fun i => (h ρ).bind fun j => M.look fun _ => match x with
  | .tup xs => some (.tup (cutD xs i j))
  | _ => none
theorem cut_all (xs : List D) (lo hi : Option Int) (h1 : HT.sIx xs.length 0 lo = 0) (h2 : HT.sIx xs.length xs.length hi = xs.length) : cutD xs lo hi = xs := by
  unfold cutD
  rw [h1, h2, List.drop_zero, Nat.sub_zero, List.take_length]
theorem de_slT {a : Expr} {lo hi : Option Expr} {p2 : Pos} {f : Env → M D} {l h : Env → M (Option Int)} (ha : DB X cl B W a f) (hl : DPO X cl B W lo l) (hh : DPO X cl B W hi h) : DE X cl B W (.Subscript a (.Slice lo hi none p2) pos) (eSlT f l h) :=
  weakE (pe_slice sl_tupA ha hl hh) fun σ H Q ⟨F, ι, st, ρ, A, q⟩ => ⟨F, ι, st, ρ, A, Post.bind back_V q fun d st1 F1 ι1 H1 v x1 S1 r1 q1 =>
    ⟨F1, ι1, st1, ρ, A.later x1 S1, Post.bind back_V q1 fun i st2 F2 ι2 H2 i' x2 S2 r2 q2 => by
      cases r2
      exact ⟨F2, ι2, st2, ρ, (A.later x1 S1).later x2 S2, Post.bind back_V q2 fun j st3 F3 ι3 H3 j' x3 S3 r3 q3 => by
        cases r3
        obtain ⟨z, hz, k⟩ := look_ok q3
        split at hz
        · rename_i xs
          cases hz
          have r0 := RB.ext x3 (RB.ext x2 r1)
          have r0' : RV X.K cl F3 ι3 v (.tup xs) := by
            rcases r0 with r | ⟨_, _, _, e, _⟩
            · exact r
            · cases e
          obtain ⟨a, vs, rfl, s1, r1⟩ := RB.tuple S3 r0
          refine ⟨a, vs, rfl, s1, fun ⟨h1, h2⟩ => ?_, fun _ p hp => ?_⟩
          · rw [r1.length] at h1 h2
            have := k F3 ι3 H3 (.ref a) .refl S3
            rw [cut_all xs i j h1 h2] at this
            exact this r0'
          · obtain ⟨y, T⟩ := newF (o := .tup (cutV vs i j)) S3 hp
            exact k _ ι3 _ _ y T (.tup upd_same ((r1.cut i j).ext y))
        · cases hz⟩⟩⟩
def eSlS (f : Env → M D) (l h : Env → M (Option Int)) : Env → M D := fun ρ => (f ρ).bind fun x => (l ρ).bind fun i => (h ρ).bind fun j => M.look fun _ => match x with
  | .str z => if z.length ≤ sizeLine then some (.str (Txt.slice z i j)) else none
  | _ => none
theorem de_slS {a : Expr} {lo hi : Option Expr} {p2 : Pos} {f : Env → M D} {l h : Env → M (Option Int)} (ha : DB X cl B W a f) (hl : DPO X cl B W lo l) (hh : DPO X cl B W hi h) : DE X cl B W (.Subscript a (.Slice lo hi none p2) pos) (eSlS f l h) :=
  weakE (pe_slice C8.sl_txt ha hl hh) fun σ H Q ⟨F, ι, st, ρ, A, q⟩ => ⟨F, ι, st, ρ, A, Post.bind back_V q fun d st1 F1 ι1 H1 v x1 S1 r1 q1 =>
    ⟨F1, ι1, st1, ρ, A.later x1 S1, Post.bind back_V q1 fun i st2 F2 ι2 H2 i' x2 S2 r2 q2 => by
      cases r2
      exact ⟨F2, ι2, st2, ρ, (A.later x1 S1).later x2 S2, Post.bind back_V q2 fun j st3 F3 ι3 H3 j' x3 S3 r3 q3 => by
        cases r3
        obtain ⟨z, hz, k⟩ := look_ok q3
        split at hz
        · split at hz
          · rename_i hle
            cases hz
            exact ⟨_, RB.str (RB.ext x3 (RB.ext x2 r1)), hle, k F3 ι3 H3 _ .refl S3 (.str _)⟩
          · cases hz
        · cases hz⟩⟩⟩
/-! ### augmented stores -/
def sAug (i : Nat) (p : P2) (f : Env → M D) : SM := fun ρ st => match ρ[i]? with
  | some (.val x) => ((f ρ).bind fun y => M.look (p x y)) st |>.then ρ fun z st => .next (ρ.set i (.val z)) st
  | _ => .stuck
/-- an in-place operator as a plain one -/
def IpOk (X : Cx) (cl : Str → Option Addr) (ti : TIp) (p : P2) : Prop := ∀ (F H : Hp) (ι : List Addr) (st : Store) (x y : V) (d e z : D) (Q : VK), Sim X.K cl F ι H st → RV X.K cl F ι x d → RV X.K cl F ι y e → p d e st = some z →
  (∀ F' H' v, Ext F F' ι ι H H' → Sim X.K cl F' ι H' st → RV X.K cl F' ι v z → Q v H') → ti x y H Q
def addI : P2 := intsOp (fun _ _ => true) fun i j => .int (i + j)
theorem ipo_add : IpOk X cl (ipI fun i j => i + j) addI := fun F H ι st x y d e z Q S rx ry hp k => by
  unfold addI intsOp at hp
  split at hp
  · cases hp
    cases rx
    cases ry
    exact ⟨_, _, rfl, rfl, k F H _ .refl S (.int _)⟩
  · cases hp
theorem ipo_sub : IpOk X cl (ipI fun i j => i - j) subI := fun F H ι st x y d e z Q S rx ry hp k => by
  unfold subI intsOp at hp
  split at hp
  · cases hp
    cases rx
    cases ry
    exact ⟨_, _, rfl, rfl, k F H _ .refl S (.int _)⟩
  · cases hp
theorem ds_aug (i : Nat) {x : Str} {e : Expr} {op : Operator} {ti : TIp} {p : P2} {pos' : Pos} {f : Env → M D} (h : PS X (.AugAssign (.Name x pos') op e pos) (tAug i (tE X.K cl B W f) ti)) (ho : IpOk X cl ti p) : DS X cl B W (.AugAssign (.Name x pos') op e pos) (sAug i p f) :=
  weakS h fun D σ H ⟨F, ι, st, ρ, A, q⟩ => by
    unfold sAug at q
    cases e : ρ[i]? with
    | none => rw [e] at q; exact q.elim
    | some o =>
      cases o with
      | none => rw [e] at q; exact q.elim
      | own _ => rw [e] at q; exact q.elim
      | bor _ => rw [e] at q; exact q.elim
      | val d =>
        rw [e] at q
        obtain ⟨v, hv, rv⟩ := A.val e
        refine ⟨v, hv, F, ι, st, ρ, A, ?_⟩
        have q' : Post X.K cl (rV X.K cl) F ι H σ W ((f ρ st).bind fun y => M.look (p d y)) fun v' H' => D.nx (σ.set i (some v')) H' :=
          PostS.bind A q fun z st' F' ι' H' v' x S r p => p F' ι' H' _ (.refl F' ι') ((A.later x S).setVal r)
        refine Post.bind back_V q' fun y st1 F1 ι1 H1 u x1 S1 r1 q1 => ?_
        obtain ⟨z, hz, k⟩ := look_ok q1
        exact ho F1 H1 ι1 st1 v u d y z _ S1 (rv.ext x1) r1 hz fun F' H' v' x S r => k F' ι1 H' v' x S r
end
end DL
end
section
/-! DL10: several targets at once, new lists among them. -/
namespace DL
open PySem PySem.Spec PyProof.Rows L2
section
variable (K : PySem.W.Frag) (cl : Str → Option Addr)
/-- what goes to a slot: frozen data, or a new list -/
def rM : Rel Slot V := fun H₀ F ι H v s => match s with
  | .none => False
  | .val d => RV K cl F ι v d
  | .own xs => ∃ a, v = .ref a ∧ OwnL K cl F ι H a xs ∧ H₀ a = none
  | .bor _ => False
inductive RMs (H₀ F : Hp) (ι : List Addr) (H : Hp) : List V → List Slot → Prop
  | nil : RMs H₀ F ι H [] []
  | cons {v : V} {s : Slot} {vs : List V} {ss : List Slot} : rM K cl H₀ F ι H v s → RMs H₀ F ι H vs ss → (∀ a xs, s = .own xs → v = .ref a → ∀ (i : Nat) (ys : List D), ss[i]? = some (.own ys) → vs[i]? ≠ some (V.ref a)) → RMs H₀ F ι H (v :: vs) (s :: ss)
def rMs : Rel (List Slot) (List V) := fun H₀ F ι H vs ss => RMs K cl H₀ F ι H vs ss
end
section
variable {K : PySem.W.Frag} {cl : Str → Option Addr} {H₀ H₁ F F' H H' : Hp} {ι ι' : List Addr}
theorem back_M : Rel.Back (rM K cl) := fun H₀ H₁ F ι H v s t h => by
  cases s with
  | none => exact h
  | val d => exact h
  | own xs => obtain ⟨a, e, o, n⟩ := h; exact ⟨a, e, o, none_back t n⟩
  | bor xs => exact h
theorem RMs.back (t : ∀ a o, H₀ a = some o → ∃ o', H₁ a = some o') : ∀ {vs : List V} {ss : List Slot}, RMs K cl H₁ F ι H vs ss → RMs K cl H₀ F ι H vs ss
  | _, _, .nil => .nil
  | _, _, .cons r q d => .cons (back_M _ _ _ _ _ _ _ t r) (RMs.back t q) d
theorem back_Ms : Rel.Back (rMs K cl) := fun H₀ H₁ F ι H v s t h => RMs.back t h
theorem rM.ext {v : V} {s : Slot} (x : Ext F F' ι ι' H H') (h : rM K cl H₀ F ι H v s) : rM K cl H₀ F' ι' H' v s := by
  cases s with
  | none => exact h
  | val d => exact RV.ext x h
  | own xs => obtain ⟨a, e, o, n⟩ := h; exact ⟨a, e, o.ext x, n⟩
  | bor xs => exact h.elim
theorem RMs.ext (x : Ext F F' ι ι' H H') : ∀ {vs : List V} {ss : List Slot}, RMs K cl H₀ F ι H vs ss → RMs K cl H₀ F' ι' H' vs ss
  | _, _, .nil => .nil
  | _, _, .cons r q d => .cons (r.ext x) (RMs.ext x q) d
theorem RMs.length : ∀ {vs : List V} {ss : List Slot}, RMs K cl H₀ F ι H vs ss → vs.length = ss.length
  | _, _, .nil => rfl
  | _, _, .cons _ q _ => by rw [List.length_cons, List.length_cons, RMs.length q]
/-- the own lists of the rest are new to H₀ -/
theorem RMs.new : ∀ {vs : List V} {ss : List Slot}, RMs K cl H₀ F ι H vs ss → ∀ (i : Nat) (ys : List D) (a : Addr), ss[i]? = some (.own ys) → vs[i]? = some (V.ref a) → H₀ a = none
  | _, _, .nil, i, ys, a, h, _ => by simp at h
  | _, _, .cons r q d, 0, ys, a, h, h' => by
    simp at h h'
    subst h h'
    obtain ⟨b, e, _, n⟩ := r
    cases e
    exact n
  | _, _, .cons r q d, i + 1, ys, a, h, h' => RMs.new q i ys a (by simpa using h) (by simpa using h')
end
/-! ### mirrors -/
def oVal (f : Env → M D) : Env → M Slot := fun ρ => (f ρ).bind fun d => M.ret (.val d)
def oOwn (f : Env → M (List D)) : Env → M Slot := fun ρ => (f ρ).bind fun xs => M.ret (.own xs)
def osNil : Env → M (List Slot) := fun _ => M.ret []
def osCons (f : Env → M Slot) (g : Env → M (List Slot)) : Env → M (List Slot) := fun ρ => (f ρ).bind fun s => (g ρ).bind fun ss => M.ret (s :: ss)
def setAllE (ρ : Env) : List Nat → List Slot → Env
  | i :: is, s :: ss => setAllE (ρ.set i s) is ss
  | _, _ => ρ
def setAllV (σ : L2.St) : List Nat → List V → L2.St
  | i :: is, v :: vs => setAllV (σ.set i (some v)) is vs
  | _, _ => σ
def sPar (is : List Nat) (f : Env → M (List Slot)) : SM := fun ρ st => (f ρ st).then ρ fun ss st => if ss.length = is.length then .next (setAllE ρ is ss) st else .stuck
section
variable {X : Cx} {cl : Str → Option Addr} {B : Base} {W : WX} {pos : Pos}
abbrev DO (X : Cx) (cl : Str → Option Addr) (B : Base) (W : WX) (e : Expr) (f : Env → M Slot) : Prop := PE X e (tG X.K cl B W (rM X.K cl) f)
abbrev DOs (X : Cx) (cl : Str → Option Addr) (B : Base) (W : WX) (e : List Expr) (f : Env → M (List Slot)) : Prop := PA X e (tG X.K cl B W (rMs X.K cl) f)
theorem DE.o {e : Expr} {f : Env → M D} (h : DE X cl B W e f) : DO X cl B W e (oVal f) :=
  weakE h fun σ H Q ⟨F, ι, st, ρ, A, q⟩ => ⟨F, ι, st, ρ, A, Post.bind back_M q fun d st1 F1 ι1 H1 v x1 S1 r1 q1 => q1 F1 ι1 H1 v .refl S1 r1⟩
theorem DF.o {e : Expr} {f : Env → M (List D)} (h : DF X cl B W e f) : DO X cl B W e (oOwn f) :=
  weakE h fun σ H Q ⟨F, ι, st, ρ, A, q⟩ => ⟨F, ι, st, ρ, A, by
    cases e : f ρ st with
    | stuck => 
      have q : Post X.K cl (rM X.K cl) F ι H σ W ((f ρ st).bind fun xs => M.ret (.own xs)) Q := q
      rw [e] at q; exact q.elim
    | exc x st' => 
      have q : Post X.K cl (rM X.K cl) F ι H σ W ((f ρ st).bind fun xs => M.ret (.own xs)) Q := q
      rw [e] at q; exact q
    | ok xs st' =>
      have q : Post X.K cl (rM X.K cl) F ι H σ W ((f ρ st).bind fun xs => M.ret (.own xs)) Q := q
      rw [e] at q
      exact fun F' ι' H' v x S r => q F' ι' H' v x S r⟩
theorem dos_nil : DOs X cl B W [] osNil := weakA pa_nil fun σ H Q ⟨F, ι, st, ρ, A, q⟩ => q F ι H [] .refl A.sim .nil
theorem dos_cons {e : Expr} {es : List Expr} {f : Env → M Slot} {g : Env → M (List Slot)} (h : DO X cl B W e f) (hs : DOs X cl B W es g) (he : starEach (e :: es) X.env = (false, eval e X.env) :: starEach es X.env := by rfl) : DOs X cl B W (e :: es) (osCons f g) :=
  weakA (pa_cons h hs he) fun σ H Q ⟨F, ι, st, ρ, A, q⟩ => by
    have q : Post X.K cl (rMs X.K cl) F ι H σ W ((f ρ st).bind fun s => (g ρ).bind fun ss => M.ret (s :: ss)) Q := q
    refine ⟨F, ι, st, ρ, A, ?_⟩
    cases e : f ρ st with
    | stuck => rw [e] at q; exact q.elim
    | exc x st' => rw [e] at q; exact q
    | ok s st1 =>
      rw [e] at q
      intro F1 ι1 H1 v x1 S1 r1
      have q : Post X.K cl (rMs X.K cl) F ι H σ W ((g ρ st1).bind fun ss => M.ret (s :: ss)) Q := q
      refine ⟨F1, ι1, st1, ρ, A.later x1 S1, ?_⟩
      cases e2 : g ρ st1 with
      | stuck => rw [e2] at q; exact q.elim
      | exc x st' => rw [e2] at q; exact fun F' ι' H' cv dd y => q F' ι' H' cv dd (x1.trans y)
      | ok ss st2 =>
        rw [e2] at q
        intro F2 ι2 H2 vs x2 S2 r2
        have r2' : RMs X.K cl H1 F2 ι2 H2 vs ss := r2
        refine q F2 ι2 H2 (v :: vs) (x1.trans x2) S2 (.cons (rM.ext x2 r1) (RMs.back x1.t r2') ?_)
        intro a xs es ev i ys h1 h2
        subst es ev
        obtain ⟨b, eb, o, _⟩ := r1
        cases eb
        obtain ⟨us, hu, _⟩ := o
        have := r2'.new i ys a h1 h2
        rw [hu] at this
        cases this
theorem At.setAll {K : PySem.W.Frag} {F H H₀ : Hp} {ι : List Addr} {st : Store} : ∀ {is : List Nat} {vs : List V} {ss : List Slot} {σ : L2.St} {ρ : Env}, At K cl B F ι H st σ ρ → RMs K cl H₀ F ι H vs ss → (∀ a, H₀ a = none → B.H a = none) →
    (∀ (i : Nat) (ys : List D) (a : Addr), ss[i]? = some (.own ys) → vs[i]? = some (V.ref a) → ∀ (j : Nat) (zs : List D), ρ[j]? = some (.own zs) → σ[j]? ≠ some (some (V.ref a))) → At K cl B F ι H st (setAllV σ is vs) (setAllE ρ is ss)
  | [], vs, ss, σ, ρ, A, r, n, c => by
    unfold setAllV setAllE
    exact A
  | i :: is, [], [], σ, ρ, A, .nil, n, c => A
  | i :: is, v :: vs, s :: ss, σ, ρ, A, .cons r q d, n, c => by
    unfold setAllV setAllE
    have A' : At K cl B F ι H st (σ.set i (some v)) (ρ.set i s) := by
      cases s with
      | none => exact r.elim
      | bor xs => exact r.elim
      | val d => exact A.setVal r
      | own xs =>
        obtain ⟨a, rfl, o, na⟩ := r
        exact A.setOwn o (n a na) fun j ys e _ => c 0 xs a rfl rfl j ys e
    refine At.setAll A' q n fun k ys a h1 h2 j zs hj hσ => ?_
    by_cases e : j = i
    · subst e
      have hlt : j < ρ.length := by
        have := (List.getElem?_eq_some_iff.mp hj).1
        simpa using this
      rw [List.getElem?_set_self hlt] at hj
      have hlt' : j < σ.length := by rw [A.len]; exact hlt
      rw [List.getElem?_set_self hlt'] at hσ
      cases hj
      cases hσ
      exact d a zs rfl rfl k ys h1 h2
    · rw [List.getElem?_set_ne (Ne.symm e)] at hj hσ
      exact c (k + 1) ys a (by simpa using h1) (by simpa using h2) j zs hj hσ
theorem par_go {D : Ends} {is : List Nat} {F H : Hp} {ι : List Addr} {st : Store} {σ : L2.St} {ρ : Env} {f : Env → M (List Slot)} (A : At X.K cl B F ι H st σ ρ) (q : PostS X.K cl B W F ι D (sPar is f ρ st)) :
    tG X.K cl B W (rMs X.K cl) f σ H fun vs H1 => vs.length = is.length ∧ ∀ H2, (∀ a o, H1 a = some o → H2 a = some o) → (∀ a o, H2 a = some o → H1 a = some o ∨ H1 a = none) → D.nx (setAllV σ is vs) H2 := by
  refine ⟨F, ι, st, ρ, A, ?_⟩
  refine PostS.bind (k := fun ss st => if ss.length = is.length then .next (setAllE ρ is ss) st else .stuck) A q fun ss st' F' ι' H' vs x S r p => ?_
  have r : RMs X.K cl H F' ι' H' vs ss := r
  by_cases hl : ss.length = is.length
  · rw [if_pos hl] at p
    refine ⟨by rw [r.length]; exact hl, fun H2 k1 k2 => ?_⟩
    have y : Ext F' F' ι' ι' H' H2 := ⟨fun _ _ e => e, List.prefix_refl _, fun a o e _ => k1 a o e, fun a o e => ⟨o, k1 a o e⟩, fun _ _ e => .inl e, fun _ e => .inl e⟩
    have S2 : Sim X.K cl F' ι' H2 st' := ⟨fun a o e => k1 a o (S.sub a o e), S.len, S.nd, S.dis, fun l o e => by
      obtain ⟨a, ha, ro⟩ := S.obj l o e
      exact ⟨a, ha, ro.up (fun _ _ e => e) (List.prefix_refl _) (k1 a)⟩⟩
    refine p F' ι' H2 _ (.refl F' ι') (At.setAll ((A.later x S).later y S2) (r.ext y) (fun a na => none_back A.ext.t na) fun i ys a h1 h2 j zs hj hσ => ?_)
    exact (A.fresh (r.new i ys a h1 h2) j zs hj) hσ
  · rw [if_neg hl] at p
    exact p.elim
theorem ds_par {i j : Nat} {s : Stmt} {f : Env → M (List Slot)} (h : PS X s (tPar i j (tG X.K cl B W (rMs X.K cl) f))) : DS X cl B W s (sPar [i, j] f) :=
  weakS h fun D σ H ⟨F, ι, st, ρ, A, q⟩ => by
    obtain ⟨F, ι, st, ρ, A, q⟩ := par_go A q
    refine ⟨F, ι, st, ρ, A, q.mono fun vs H1 ⟨hl, k⟩ => ?_⟩
    match vs, hl, k with
    | [v, w], _, k => exact ⟨v, w, rfl, k H1 (fun _ _ e => e) fun _ _ e => .inl e⟩
theorem ds_par3 {i j l : Nat} {s : Stmt} {f : Env → M (List Slot)} (h : PS X s (tPar3 i j l (tG X.K cl B W (rMs X.K cl) f))) : DS X cl B W s (sPar [i, j, l] f) :=
  weakS h fun D σ H ⟨F, ι, st, ρ, A, q⟩ => by
    obtain ⟨F, ι, st, ρ, A, q⟩ := par_go A q
    refine ⟨F, ι, st, ρ, A, q.mono fun vs H1 ⟨hl, k⟩ => ?_⟩
    match vs, hl, k with
    | [v, w, u], _, k => exact ⟨v, w, u, rfl, k H1 (fun _ _ e => e) fun _ _ e => .inl e⟩
/-- the tuple is made, then stored from the left -/
def gNames : List Nat → TGs
  | [] => gNil
  | i :: is => gCons (gName i) (gNames is)
theorem gNames_ok : ∀ {is : List Nat} {vs : List V} {σ : L2.St} {H : Hp} {Q : L2.St → Hp → Prop}, vs.length = is.length → Q (setAllV σ is vs) H → gNames is vs σ H Q
  | [], [], σ, H, Q, _, q => ⟨rfl, q⟩
  | i :: is, v :: vs, σ, H, Q, hl, q => ⟨v, vs, rfl, gNames_ok (by simpa using hl) q⟩
theorem ds_parU {is : List Nat} {s : Stmt} {n : Nat} {f : Env → M (List Slot)} (h : PS X s (tAsg (tTup (tG X.K cl B W (rMs X.K cl) f)) (gTup X.K n (gNames is)))) (hn : is.length = n) (hz : n ≤ sizeLine) : DS X cl B W s (sPar is f) :=
  weakS h fun D σ H ⟨F, ι, st, ρ, A, q⟩ => by
    obtain ⟨F, ι, st, ρ, A, q⟩ := par_go A q
    refine ⟨F, ι, st, ρ, A, q.mono fun vs H1 ⟨hl, k⟩ => ⟨by omega, fun p hp => ⟨p, vs, rfl, SqT.of upd_same, by omega, gNames_ok hl (k _ (fun a o e => by rw [upd_ne (ne_of_none e hp)]; exact e) fun a o e => ?_)⟩⟩⟩
    by_cases ha : a = p
    · subst ha; exact .inr hp
    · rw [upd_ne ha] at e; exact .inl e
end
end DL
end
section
/-! DL11: calls by names, methods, instances and their fields. -/
namespace DL
open PySem PySem.Spec PyProof.Rows L2
/-! ### the raw rules, with wishes by the slots -/
section
variable {X : Cx} {CX : CXT} {k : Nat} {f C : Addr} {fd : FuncData} {ps ks : List Str} {sp : Sp} {E : L2.St → XK} {x m : Str} {p pos apos : Pos} {e o : Expr} {es : List Expr} {kws : List Keyword} {ta : TE} {t tk : TA}
theorem pe_callS0 (F : FnOk X.prog X.w X.K X.mg X.base CX k f fd ps sp) (hr : Room k X.A) (hg : Gl X x) (hm : X.mg x = some (.ref f)) (hk : PySem.W.keepIn X.K (.ref f) = true) (hb : Binds X.K fd ps []) (hx : ∀ σ, PassesAt CX X σ (E σ))
    (hdb : (x == ("__debug__" : Str)) = false := by decide) : PE X (.Call (.Name x p) [] [] pos) (tCallS sp E tNil) := by
  refine ⟨fun pins s σ H Q I h => ?_⟩
  refine wpAny_Call_Name_kw (ld_glob I hg hm ?_ hdb)
  exact PySem.W.callWith_K0 I.kIn hk (run_fnS (us := []) F hr hb (hx σ) I .nil h)
/-- the values by position, then the keywords', put in the order ix -/
def perm (n m : Nat) (ix : List Nat) {α : Type} (xs ys : List α) : List α := if xs.length = n ∧ ys.length = m then ix.filterMap fun i => (xs ++ ys)[i]? else []
structure KB (K : PySem.W.Frag) (fd : FuncData) (ps ks : List Str) (n : Nat) (ix : List Nat) : Prop where
  to : ∀ (us ws : List Value), us.length = n → ws.length = ks.length → (perm n ks.length ix us ws).length = ps.length → bindArgs fd ⟨us, ks.zip ws⟩ = pure (ps.zip (perm n ks.length ix us ws))
theorem Vals.get {vs : List V} {us : List Value} (r : Vals vs us) (i : Nat) : (∃ v u, vs[i]? = some v ∧ us[i]? = some u ∧ RelV v u) ∨ (vs[i]? = none ∧ us[i]? = none) := by
  have hl := r.length
  by_cases h : i < vs.length
  · left
    have h' : i < us.length := by omega
    refine ⟨vs[i], us[i], List.getElem?_eq_getElem h, List.getElem?_eq_getElem h', ?_⟩
    clear hl
    induction r generalizing i with
    | nil => simp at h
    | cons a b ih =>
      cases i with
      | zero => exact a
      | succ i => simpa using ih i (by simpa using h) (by simpa using h')
  · right
    exact ⟨List.getElem?_eq_none (by omega), List.getElem?_eq_none (by omega)⟩
theorem vals_pick {vs : List V} {us : List Value} (r : Vals vs us) : ∀ ix : List Nat, Vals (ix.filterMap fun i => vs[i]?) (ix.filterMap fun i => us[i]?)
  | [] => .nil
  | i :: ix => by
    rw [List.filterMap_cons, List.filterMap_cons]
    rcases Vals.get r i with ⟨v, u, e1, e2, h⟩ | ⟨e1, e2⟩
    · rw [e1, e2]; exact .cons h (vals_pick r ix)
    · rw [e1, e2]; exact vals_pick r ix
theorem vals_perm {n m : Nat} {ix : List Nat} {vs zs : List V} {us ws : List Value} (r : Vals vs us) (r2 : Vals zs ws) : Vals (perm n m ix vs zs) (perm n m ix us ws) := by
  unfold perm
  rw [r.length, r2.length]
  by_cases h : us.length = n ∧ ws.length = m
  · rw [if_pos h, if_pos h]
    exact vals_pick (r.append r2) ix
  · rw [if_neg h, if_neg h]
    exact .nil
def tCallKS (sp : Sp) (E : L2.St → XK) (n m : Nat) (ix : List Nat) (t tk : TA) : TE := fun σ H Q => t σ H fun vs H1 => tk σ H1 fun zs H2 => vs.length = n ∧ zs.length = m ∧ sp (perm n m ix vs zs) H2 Q (E σ)
theorem run_fnKS {pins : List (Addr × Obj)} {σ : L2.St} {H : Hp} {s : Shared} {Q : VK} {n : Nat} {ix : List Nat} {us ws : List Value} {vs zs : List V} (F : FnOk X.prog X.w X.K X.mg X.base CX k f fd ps sp) (hr : Room k X.A) (hb : KB X.K fd ps ks n ix) (hx : PassesAt CX X σ (E σ))
    (I : Inv X pins σ H s) (r : Vals vs us) (rz : Vals zs ws) (h1 : vs.length = n) (h2 : zs.length = ks.length) (h : sp (perm n ks.length ix vs zs) H Q (E σ)) : wpAny (model X.prog X.w) X.A (call (.ref f) us (ks.zip ws)) (EP X pins σ Q) X.xe s := by
  have r2 : Vals (perm n ks.length ix vs zs) (perm n ks.length ix us ws) := vals_perm r rz
  have hl : (perm n ks.length ix us ws).length = ps.length := by rw [← r2.length]; exact F.len _ _ _ _ h
  have b : BindsTo s fd ⟨us, ks.zip ws⟩ (ps.zip (perm n ks.length ix us ws)) := .of_eq (hb.to us ws (by rw [← r.length]; exact h1) (by rw [← rz.length]; exact h2) hl)
  refine wpAny_call (codeAny_mono (F.run X.A X.stack s H ⟨us, ks.zip ws⟩ (perm n ks.length ix us ws) (perm n ks.length ix vs zs) Q (E σ) hr I.env0 b r2 h) fun r s' hq => ?_)
  cases r with
  | error e => exact hx pins H s e s' I hq
  | ok fl =>
    cases fl with
    | ret u => exact I.after hq
    | next => exact False.elim hq
    | brk => exact False.elim hq
    | cont => exact False.elim hq
theorem pe_callKS {n : Nat} {ix : List Nat} (F : FnOk X.prog X.w X.K X.mg X.base CX k f fd ps sp) (hr : Room k X.A) (hg : Gl X x) (hm : X.mg x = some (.ref f)) (hk : PySem.W.keepIn X.K (.ref f) = true) (hb : KB X.K fd ps ks n ix) (hx : ∀ σ, PassesAt CX X σ (E σ))
    (ha : PA X (e :: es) t) (hkw : PK X kws tk) (hall : (backToKw pos (keywordEach kws X.env)).all (·.1.isSome) = true := by rfl) (hks : (backToKw pos (keywordEach kws X.env)).filterMap (·.1) = ks := by rfl)
    (hdb : (x == ("__debug__" : Str)) = false := by decide) (he : starEach (e :: es) X.env = (false, eval e X.env) :: starEach es X.env := by rfl)
    (hpl : ((backTo pos (starEach (e :: es) X.env)).any (·.1) || (backToKw pos (keywordEach kws X.env)).any (·.1.isNone)) = false := by rfl) :
    PE X (.Call (.Name x p) (e :: es) kws pos) (tCallKS sp E n ks.length ix t tk) := by
  refine ⟨fun pins s σ H Q I h => ?_⟩
  refine wpAny_Call_Name_kw (ld_glob I hg hm ?_ hdb)
  refine PySem.W.callWith_KW (h₀ := X.base) I.ok.mod.kin hk hall (thn (ha.run pos pins s σ H _ I h) fun us s1 ⟨vs, H1, I1, r, q⟩ => ?_) hpl he
  refine thn (hkw.run pos pins s1 σ H1 _ I1 q) fun ws s2 ⟨zs, H2, I2, rz, h1, h2, q2⟩ => ⟨I2.kIn, ?_⟩
  rw [hks]
  exact run_fnKS F hr hb (hx σ) I2 r rz h1 h2 q2
theorem pe_callKS0 {n : Nat} {ix : List Nat} (F : FnOk X.prog X.w X.K X.mg X.base CX k f fd ps sp) (hr : Room k X.A) (hg : Gl X x) (hm : X.mg x = some (.ref f)) (hk : PySem.W.keepIn X.K (.ref f) = true) (hb : KB X.K fd ps ks n ix) (hx : ∀ σ, PassesAt CX X σ (E σ))
    (hkw : PK X kws tk) (hall : (backToKw pos (keywordEach kws X.env)).all (·.1.isSome) = true := by rfl) (hks : (backToKw pos (keywordEach kws X.env)).filterMap (·.1) = ks := by rfl)
    (hdb : (x == ("__debug__" : Str)) = false := by decide)
    (hpl : ((backTo pos (starEach [] X.env)).any (·.1) || (backToKw pos (keywordEach kws X.env)).any (·.1.isNone)) = false := by rfl) :
    PE X (.Call (.Name x p) [] kws pos) (tCallKS sp E n ks.length ix tNil tk) := by
  refine ⟨fun pins s σ H Q I h => ?_⟩
  refine wpAny_Call_Name_kw (ld_glob I hg hm ?_ hdb)
  refine PySem.W.callWith_KW0 (h₀ := X.base) I.ok.mod.kin hk hall (thn (hkw.run pos pins s σ H _ I h) fun ws s2 ⟨zs, H2, I2, rz, h1, h2, q2⟩ => ⟨I2.kIn, ?_⟩) hpl
  rw [hks]
  exact run_fnKS (us := []) F hr hb (hx σ) I2 .nil rz h1 h2 q2
/-! methods -/
def tMethS' (C : Addr) (m : Str) (sp : Sp) (E : L2.St → XK) (ta : TE) (t : TA) : TE := fun σ H Q => ta σ H fun x H1 => ∃ a dx fs, x = .ref a ∧ H1 a = some (.ins C dx fs) ∧ fs.lookup m = none ∧ t σ H1 fun vs H2 => sp (x :: vs) H2 Q (E σ)
theorem pe_methS1 {pl : Sem Bool} (he : PE X o ta) (c : Cls X.K C) (hm : Meth X.K C m f) (F : FnOk X.prog X.w X.K X.mg X.base CX k f fd ps sp) (hr : Room k X.A) (hb : Binds X.K fd ps []) (hx : ∀ σ, PassesAt CX X σ (E σ)) (ha : PA X (e :: es) t)
    (hst : starEach (e :: es) X.env = (false, eval e X.env) :: starEach es X.env := by rfl) (hpl : (backTo pos (starEach es X.env)).any (·.1) = false := by rfl)
    (ht : eval (.Call (.Attribute o m apos) (e :: es) [] pos) X.env = (do
      let ov ← eval o X.env
      standAt apos.atName
      let (f, first) ← holding [ov] (getMethod ov m pl)
      callWith pos f first (backTo pos (starEach (e :: es) X.env)) (backToKw pos (keywordEach [] X.env))) := by rfl) :
    PE X (.Call (.Attribute o m apos) (e :: es) [] pos) (tMethS' C m sp E ta t) := by
  refine ⟨fun pins s σ H Q I h => ?_⟩
  refine PySem.W.methodCall_KW (pl := pl) (thn (he.run pins s σ H _ I h) fun u s1 ⟨x, H1, I1, rx, a, dx, fs, ex, ea, l, q⟩ => ?_) ht
  subst ex
  obtain rfl : u = Value.ref a := rx
  refine getmeth_ok I1 ea c hm l ?_
  refine PySem.W.callWith_K (first := [.ref a]) (h₀ := X.base) I.ok.mod.kin hm.kp (thn (ha.run pos pins s1 σ H1 _ I1 q) fun us s2 ⟨vs, H2, I2, r, q2⟩ => ⟨I2.kIn, ?_⟩) hst hpl
  exact run_fnS (us := .ref a :: us) (vs := .ref a :: vs) F hr hb (hx σ) I2 (.cons rfl r) q2
theorem pe_methS0 {pl : Sem Bool} (he : PE X o ta) (c : Cls X.K C) (hm : Meth X.K C m f) (F : FnOk X.prog X.w X.K X.mg X.base CX k f fd ps sp) (hr : Room k X.A) (hb : Binds X.K fd ps []) (hx : ∀ σ, PassesAt CX X σ (E σ))
    (ht : eval (.Call (.Attribute o m apos) [] [] pos) X.env = (do
      let ov ← eval o X.env
      standAt apos.atName
      let (f, first) ← holding [ov] (getMethod ov m pl)
      callWith pos f first (backTo pos (starEach [] X.env)) (backToKw pos (keywordEach [] X.env))) := by rfl) :
    PE X (.Call (.Attribute o m apos) [] [] pos) (tMethS' C m sp E ta tNil) := by
  refine ⟨fun pins s σ H Q I h => ?_⟩
  refine PySem.W.methodCall_KW (pl := pl) (thn (he.run pins s σ H _ I h) fun u s1 ⟨x, H1, I1, rx, a, dx, fs, ex, ea, l, q⟩ => ?_) ht
  subst ex
  obtain rfl : u = Value.ref a := rx
  refine getmeth_ok I1 ea c hm l ?_
  exact PySem.W.callWith_K0 (first := [.ref a]) I1.kIn hm.kp (run_fnS (us := [.ref a]) (vs := [.ref a]) F hr hb (hx σ) I1 (.cons rfl .nil) q)
/-! making -/
def tMakeS' (C : Addr) (sp : Sp) (E : L2.St → XK) (g : List V → Hp → Prop) (sel : List V → List V) (H : Hp) (vs : List V) (Q : VK) (σ : L2.St) : Prop := ∀ x dx, H x = none → H dx = none → dx ≠ x →
  sp (.ref x :: sel vs) (upd (upd H dx (.own x)) x (.ins C dx [])) (fun v H2 => v = .non ∧ Q (.ref x) H2) (E σ)
theorem run_makeS {pins : List (Addr × Obj)} {σ : L2.St} {H : Hp} {s : Shared} {Q : VK} {n : Nat} {ix : List Nat} {us ws : List Value} {vs zs : List V} (M : Mk X.K C f) (F : FnOk X.prog X.w X.K X.mg X.base CX k f fd ps sp) (hr : Room (k + 1) X.A) (hb : KB X.K fd ps ks (n + 1) ix)
    (hx : PassesAt CX X σ (E σ)) (I : Inv X pins σ H s) (r : Vals vs us) (rz : Vals zs ws) (h1 : vs.length = n) (h2 : zs.length = ks.length)
    (h : ∀ x dx, H x = none → H dx = none → dx ≠ x → sp (perm (n + 1) ks.length ix (.ref x :: vs) zs) (upd (upd H dx (.own x)) x (.ins C dx [])) (fun v H2 => v = .non ∧ Q (.ref x) H2) (E σ)) :
    wpAny (model X.prog X.w) X.A (call (.ref C) us (ks.zip ws)) (EP X pins σ Q) X.xe s := by
  have hq := h (s.heap.objs.size + 1) s.heap.objs.size (I.hok.fresh (Nat.le_succ _)) (I.hok.fresh (Nat.le_refl _)) (Nat.ne_of_lt (Nat.lt_succ_self _))
  have I2 := Inv.made (C := C) I
  have r2 : Vals (V.ref (s.heap.objs.size + 1) :: vs) (Value.ref (s.heap.objs.size + 1) :: us) := .cons rfl r
  have r3 : Vals (perm (n + 1) ks.length ix (V.ref (s.heap.objs.size + 1) :: vs) zs) (perm (n + 1) ks.length ix (Value.ref (s.heap.objs.size + 1) :: us) ws) := vals_perm r2 rz
  have hl : (perm (n + 1) ks.length ix (Value.ref (s.heap.objs.size + 1) :: us) ws).length = ps.length := by
    have e := r3.length
    rw [F.len _ _ _ _ hq] at e
    exact e.symm
  have hx2 : PassesAt CX X σ (E σ) := hx
  refine wpAny_call (make_map (f := f) I.kIn M.makes M.init (beq_iff_eq.mp M.fn) (codeAny_mono (F.run _ X.stack _ _ ⟨Value.ref (s.heap.objs.size + 1) :: us, ks.zip ws⟩ (perm (n + 1) ks.length ix (Value.ref (s.heap.objs.size + 1) :: us) ws) _ _ (E σ) (hr.make C us (ks.zip ws))
    (I2.env0.make C us (ks.zip ws)) (.of_eq (hb.to (Value.ref (s.heap.objs.size + 1) :: us) ws (by rw [List.length_cons, ← r.length, h1]) (by rw [← rz.length]; exact h2) hl)) r3 hq) fun r s' hq' => ?_))
  cases r with
  | error e => exact hx pins _ _ e s' I2 hq'
  | ok fl =>
    cases fl with
    | ret u =>
      obtain ⟨v, H', I3, rv, ev, q3⟩ := I2.after hq'
      subst ev
      exact ⟨rv, ⟨V.ref (s.heap.objs.size + 1), H', I3, rfl, q3⟩⟩
    | next => exact False.elim hq'
    | brk => exact False.elim hq'
    | cont => exact False.elim hq'
def tMakeKS (C : Addr) (sp : Sp) (E : L2.St → XK) (n m : Nat) (ix : List Nat) (t tk : TA) : TE := fun σ H Q => t σ H fun vs H1 => tk σ H1 fun zs H2 => vs.length = n ∧ zs.length = m ∧
  ∀ x dx, H2 x = none → H2 dx = none → dx ≠ x → sp (perm (n + 1) m ix (.ref x :: vs) zs) (upd (upd H2 dx (.own x)) x (.ins C dx [])) (fun v H3 => v = .non ∧ Q (.ref x) H3) (E σ)
theorem pe_makeKS {n : Nat} {ix : List Nat} (M : Mk X.K C f) (F : FnOk X.prog X.w X.K X.mg X.base CX k f fd ps sp) (hr : Room (k + 1) X.A) (hg : Gl X x) (hm : X.mg x = some (.ref C)) (hb : KB X.K fd ps ks (n + 1) ix) (hx : ∀ σ, PassesAt CX X σ (E σ))
    (ha : PA X (e :: es) t) (hkw : PK X kws tk) (hall : (backToKw pos (keywordEach kws X.env)).all (·.1.isSome) = true := by rfl) (hks : (backToKw pos (keywordEach kws X.env)).filterMap (·.1) = ks := by rfl)
    (hdb : (x == ("__debug__" : Str)) = false := by decide) (he : starEach (e :: es) X.env = (false, eval e X.env) :: starEach es X.env := by rfl)
    (hpl : ((backTo pos (starEach (e :: es) X.env)).any (·.1) || (backToKw pos (keywordEach kws X.env)).any (·.1.isNone)) = false := by rfl) :
    PE X (.Call (.Name x p) (e :: es) kws pos) (tMakeKS C sp E n ks.length ix t tk) := by
  refine ⟨fun pins s σ H Q I h => ?_⟩
  refine wpAny_Call_Name_kw (ld_glob I hg hm ?_ hdb)
  refine PySem.W.callWith_KW (h₀ := X.base) I.ok.mod.kin M.kp hall (thn (ha.run pos pins s σ H _ I h) fun us s1 ⟨vs, H1, I1, r, q⟩ => ?_) hpl he
  refine thn (hkw.run pos pins s1 σ H1 _ I1 q) fun ws s2 ⟨zs, H2, I2, rz, h1, h2, q2⟩ => ⟨I2.kIn, ?_⟩
  rw [hks]
  exact run_makeS M F hr hb (hx σ) I2 r rz h1 h2 q2
theorem pe_makeKS0 {n : Nat} {ix : List Nat} (M : Mk X.K C f) (F : FnOk X.prog X.w X.K X.mg X.base CX k f fd ps sp) (hr : Room (k + 1) X.A) (hg : Gl X x) (hm : X.mg x = some (.ref C)) (hb : KB X.K fd ps ks (n + 1) ix) (hx : ∀ σ, PassesAt CX X σ (E σ))
    (hkw : PK X kws tk) (hall : (backToKw pos (keywordEach kws X.env)).all (·.1.isSome) = true := by rfl) (hks : (backToKw pos (keywordEach kws X.env)).filterMap (·.1) = ks := by rfl)
    (hdb : (x == ("__debug__" : Str)) = false := by decide)
    (hpl : ((backTo pos (starEach [] X.env)).any (·.1) || (backToKw pos (keywordEach kws X.env)).any (·.1.isNone)) = false := by rfl) :
    PE X (.Call (.Name x p) [] kws pos) (tMakeKS C sp E n ks.length ix tNil tk) := by
  refine ⟨fun pins s σ H Q I h => ?_⟩
  refine wpAny_Call_Name_kw (ld_glob I hg hm ?_ hdb)
  refine PySem.W.callWith_KW0 (h₀ := X.base) I.ok.mod.kin M.kp hall (thn (hkw.run pos pins s σ H _ I h) fun ws s2 ⟨zs, H2, I2, rz, h1, h2, q2⟩ => ⟨I2.kIn, ?_⟩) hpl
  rw [hks]
  exact run_makeS (us := []) (vs := []) M F hr hb (hx σ) I2 .nil rz h1 h2 q2
end
end DL
end
section
/-! DL12: calls by names, methods, instances and their fields, over data. -/
namespace DL
open PySem PySem.Spec PyProof.Rows L2
section
variable {X : Cx} {cl : Str → Option Addr} {B : Base} {W : WX} {pos : Pos}
/-! ### keyword values -/
abbrev DK (X : Cx) (cl : Str → Option Addr) (B : Base) (W : WX) (ks : List Keyword) (f : Env → M (List D)) : Prop := PK X ks (tA X.K cl B W f)
theorem weakK {e : List Keyword} {t t' : TA} (h : PK X e t) (k : ∀ σ H Q, t' σ H Q → t σ H Q) : PK X e t' := ⟨fun pos pins s σ H Q I q => h.run pos pins s σ H Q I (k σ H Q q)⟩
theorem dk_nil : DK X cl B W [] eNilA := weakK pk_nil fun σ H Q ⟨F, ι, st, ρ, A, q⟩ => q F ι H [] .refl A.sim .nil
theorem dk_cons {nm : Option Str} {e : Expr} {kpos : Pos} {es : List Keyword} {f : Env → M D} {g : Env → M (List D)} (h : DE X cl B W e f) (hs : DK X cl B W es g) : DK X cl B W (⟨nm, e, kpos⟩ :: es) (eConsA f g) :=
  weakK (pk_cons h hs) fun σ H Q ⟨F, ι, st, ρ, A, q⟩ => ⟨F, ι, st, ρ, A, Post.bind back_Vs q fun d st1 F1 ι1 H1 v x1 S1 r1 q1 => ⟨F1, ι1, st1, ρ, A.later x1 S1, Post.bind back_Vs q1 fun ds st2 F2 ι2 H2 vs x2 S2 r2 q2 => q2 F2 ι2 H2 (v :: vs) .refl S2 (.cons (RV.ext x2 r1) r2)⟩⟩
theorem tNil_A {σ : L2.St} {H : Hp} {Q : List V → Hp → Prop} (h : tA X.K cl B W eNilA σ H Q) : tNil σ H Q := by
  obtain ⟨F, ι, st, ρ, A, q⟩ := h
  exact q F ι H [] .refl A.sim .nil
/-! ### the callee's promise, from the data's -/
theorem callD {F H : Hp} {ι : List Addr} {st : Store} {σ : L2.St} {n : Nat} {b : BM} {ds : List D} {vs : List V} {Q : VK} (S : Sim X.K cl F ι H st) (r : RVs X.K cl F ι vs ds) (hn : ds.length = n) (q : Post X.K cl (rV X.K cl) F ι H σ W (b ds st) Q) :
    spD X.K cl n b vs H Q (WE W σ) := by
  refine ⟨by rw [r.length]; exact hn, F, ι, st, ds, S, r, ?_⟩
  cases eb : b ds st with
  | ok d st2 => rw [eb] at q; exact q
  | exc e2 st2 => rw [eb] at q; exact q
  | stuck => rw [eb] at q; exact q
theorem RVs.get? {K : PySem.W.Frag} {F : Hp} {ι : List Addr} {vs : List V} {ds : List D} (r : RVs K cl F ι vs ds) (i : Nat) : (∃ v d, vs[i]? = some v ∧ ds[i]? = some d ∧ RV K cl F ι v d) ∨ (vs[i]? = none ∧ ds[i]? = none) := by
  cases e : ds[i]? with
  | some d =>
    obtain ⟨v, h1, h2⟩ := r.get e
    exact .inl ⟨v, d, h1, rfl, h2⟩
  | none =>
    right
    refine ⟨?_, rfl⟩
    rw [List.getElem?_eq_none_iff] at e ⊢
    rw [r.length]; exact e
theorem RVs.pick {K : PySem.W.Frag} {F : Hp} {ι : List Addr} {vs : List V} {ds : List D} (r : RVs K cl F ι vs ds) : ∀ ix : List Nat, RVs K cl F ι (ix.filterMap fun i => vs[i]?) (ix.filterMap fun i => ds[i]?)
  | [] => .nil
  | i :: ix => by
    rw [List.filterMap_cons, List.filterMap_cons]
    rcases r.get? i with ⟨v, u, e1, e2, h⟩ | ⟨e1, e2⟩
    · rw [e1, e2]; exact .cons h (RVs.pick r ix)
    · rw [e1, e2]; exact RVs.pick r ix
theorem RVs.perm {K : PySem.W.Frag} {F : Hp} {ι : List Addr} {n m : Nat} {ix : List Nat} {vs zs : List V} {ds es : List D} (r : RVs K cl F ι vs ds) (r2 : RVs K cl F ι zs es) : RVs K cl F ι (DL.perm n m ix vs zs) (DL.perm n m ix ds es) := by
  unfold DL.perm
  rw [r.length, r2.length]
  by_cases h : ds.length = n ∧ es.length = m
  · rw [if_pos h, if_pos h]
    exact (r.append r2).pick ix
  · rw [if_neg h, if_neg h]
    exact .nil
/-! ### f(), f(.., k = ..) -/
theorem de_call0 {k : Nat} {f : Addr} {fd : FuncData} {ps : List Str} {b : BM} {x : Str} {p : Pos} (Fo : FnOk X.prog X.w X.K X.mg X.base (L2.CX X.prog X.w) k f fd ps (spD X.K cl 0 b))
    (hr : Room k X.A) (hg : Gl X x) (hm : X.mg x = some (.ref f)) (hk : PySem.W.keepIn X.K (.ref f) = true) (hb : Binds X.K fd ps []) (tk : Takes X W) (hdb : (x == ("__debug__" : Str)) = false := by decide) :
    DE X cl B W (.Call (.Name x p) [] [] pos) (eCall b eNilA) :=
  weakE (pe_callS0 Fo hr hg hm hk hb (passAt tk) hdb) fun σ H Q ⟨F, ι, st, ρ, A, q⟩ => callD A.sim .nil rfl q
def eCallK (b : BM) (n m : Nat) (ix : List Nat) (f g : Env → M (List D)) : Env → M D := fun ρ => (f ρ).bind fun ds => (g ρ).bind fun es => if ds.length = n ∧ es.length = m then b (perm n m ix ds es) else M.stuck
theorem callK_ok {k : Nat} {n m : Nat} {ix : List Nat} {b : BM} {f g : Env → M (List D)} {l : Nat} (hl : ix.length = l) (hi : ∀ i ∈ ix, i < n + m) : ∀ σ H Q, tE X.K cl B W (eCallK b n m ix f g) σ H Q → tCallKS (spD X.K cl l b) (WE W) n m ix (tA X.K cl B W f) (tA X.K cl B W g) σ H Q := fun σ H Q ⟨F, ι, st, ρ, A, q⟩ => by
  have q : Post X.K cl (rV X.K cl) F ι H σ W ((f ρ st).bind fun ds => (g ρ).bind fun es => if ds.length = n ∧ es.length = m then b (perm n m ix ds es) else M.stuck) Q := q
  refine ⟨F, ι, st, ρ, A, Post.bind back_V q fun ds st1 F1 ι1 H1 vs x1 S1 r1 q1 => ⟨F1, ι1, st1, ρ, A.later x1 S1, Post.bind back_V q1 fun es st2 F2 ι2 H2 zs x2 S2 r2 q2 => ?_⟩⟩
  have r1 : RVs X.K cl F2 ι2 vs ds := RVs.ext x2 r1
  have r2 : RVs X.K cl F2 ι2 zs es := r2
  by_cases hc : ds.length = n ∧ es.length = m
  · rw [if_pos hc] at q2
    refine ⟨by rw [r1.length]; exact hc.1, by rw [r2.length]; exact hc.2, callD S2 (r1.perm r2) ?_ q2⟩
    unfold perm
    rw [if_pos hc]
    have : ∀ jx : List Nat, (∀ i ∈ jx, i < n + m) → (jx.filterMap fun i => (ds ++ es)[i]?).length = jx.length := fun jx => by
      induction jx with
      | nil => intro _; rfl
      | cons i jx ih =>
        intro h
        have h1 : i < (ds ++ es).length := by rw [List.length_append]; have := h i (by simp); omega
        rw [List.filterMap_cons, List.getElem?_eq_getElem h1, List.length_cons, List.length_cons, ih fun j hj => h j (by simp [hj])]
    rw [this ix hi, hl]
  · rw [if_neg hc] at q2
    exact q2.elim
theorem de_callK {k n : Nat} {ix : List Nat} {f : Addr} {fd : FuncData} {ps ks : List Str} {b : BM} {x : Str} {p : Pos} {e : Expr} {es : List Expr} {kws : List Keyword} {g gk : Env → M (List D)} {l : Nat} (Fo : FnOk X.prog X.w X.K X.mg X.base (L2.CX X.prog X.w) k f fd ps (spD X.K cl l b))
    (hr : Room k X.A) (hg : Gl X x) (hm : X.mg x = some (.ref f)) (hk : PySem.W.keepIn X.K (.ref f) = true) (hb : KB X.K fd ps ks n ix) (tk : Takes X W) (ha : DA X cl B W (e :: es) g) (hkw : DK X cl B W kws gk) (hl : ix.length = l) (hi : ∀ i ∈ ix, i < n + ks.length)
    (hall : (backToKw pos (keywordEach kws X.env)).all (·.1.isSome) = true := by rfl) (hks : (backToKw pos (keywordEach kws X.env)).filterMap (·.1) = ks := by rfl)
    (hdb : (x == ("__debug__" : Str)) = false := by decide) (he : starEach (e :: es) X.env = (false, eval e X.env) :: starEach es X.env := by rfl)
    (hpl : ((backTo pos (starEach (e :: es) X.env)).any (·.1) || (backToKw pos (keywordEach kws X.env)).any (·.1.isNone)) = false := by rfl) :
    DE X cl B W (.Call (.Name x p) (e :: es) kws pos) (eCallK b n ks.length ix g gk) :=
  weakE (pe_callKS Fo hr hg hm hk hb (passAt tk) ha hkw hall hks hdb he hpl) (callK_ok (k := k) hl hi)
theorem de_callK0 {k : Nat} {ix : List Nat} {f : Addr} {fd : FuncData} {ps ks : List Str} {b : BM} {x : Str} {p : Pos} {kws : List Keyword} {gk : Env → M (List D)} {l : Nat} (Fo : FnOk X.prog X.w X.K X.mg X.base (L2.CX X.prog X.w) k f fd ps (spD X.K cl l b))
    (hr : Room k X.A) (hg : Gl X x) (hm : X.mg x = some (.ref f)) (hk : PySem.W.keepIn X.K (.ref f) = true) (hb : KB X.K fd ps ks 0 ix) (tk : Takes X W) (hkw : DK X cl B W kws gk) (hl : ix.length = l) (hi : ∀ i ∈ ix, i < 0 + ks.length)
    (hall : (backToKw pos (keywordEach kws X.env)).all (·.1.isSome) = true := by rfl) (hks : (backToKw pos (keywordEach kws X.env)).filterMap (·.1) = ks := by rfl)
    (hdb : (x == ("__debug__" : Str)) = false := by decide)
    (hpl : ((backTo pos (starEach [] X.env)).any (·.1) || (backToKw pos (keywordEach kws X.env)).any (·.1.isNone)) = false := by rfl) :
    DE X cl B W (.Call (.Name x p) [] kws pos) (eCallK b 0 ks.length ix eNilA gk) :=
  weakE (pe_callKS0 Fo hr hg hm hk hb (passAt tk) hkw hall hks hdb hpl) fun σ H Q h => by
    obtain ⟨F, ι, st, ρ, A, q⟩ := callK_ok (k := k) hl hi σ H Q h
    exact q F ι H [] .refl A.sim .nil
/-! ### fields -/
theorem RFs.lookup {K : PySem.W.Frag} {F : Hp} {ι : List Addr} {f : Str} : ∀ {vs : List (Str × V)} {ds : List (Str × D)}, RFs K cl F ι vs ds → (∃ v d, vs.lookup f = some v ∧ ds.lookup f = some d ∧ RV K cl F ι v d) ∨ (vs.lookup f = none ∧ ds.lookup f = none)
  | _, _, .nil => .inr ⟨rfl, rfl⟩
  | _, _, .cons (f := g) (v := v) (d := d) r t => by
    rw [List.lookup_cons, List.lookup_cons]
    by_cases h : (f == g) = true
    · rw [h]
      exact .inl ⟨v, d, rfl, rfl, r⟩
    · have h' : (f == g) = false := by simpa using h
      rw [h']
      exact RFs.lookup t
theorem RFs.length {K : PySem.W.Frag} {F : Hp} {ι : List Addr} : ∀ {vs : List (Str × V)} {ds : List (Str × D)}, RFs K cl F ι vs ds → vs.length = ds.length
  | _, _, .nil => rfl
  | _, _, .cons _ t => by rw [List.length_cons, List.length_cons, RFs.length t]
def putD (f : Str) (v : D) : List (Str × D) → List (Str × D)
  | [] => [(f, v)]
  | (g, x) :: r => if g = f then (g, v) :: r else (g, x) :: putD f v r
theorem RFs.put {K : PySem.W.Frag} {F : Hp} {ι : List Addr} {f : Str} {v : V} {d : D} (r : RV K cl F ι v d) : ∀ {vs : List (Str × V)} {ds : List (Str × D)}, RFs K cl F ι vs ds → RFs K cl F ι (putF f v vs) (putD f d ds)
  | _, _, .nil => .cons r .nil
  | _, _, .cons (f := g) q t => by
    unfold putF putD
    by_cases h : g = f
    · rw [if_pos h, if_pos h]; exact .cons r t
    · rw [if_neg h, if_neg h]; exact .cons q (RFs.put r t)
/-- the classes cs have no attribute f of their own -/
inductive NaAll (K : PySem.W.Frag) (cl : Str → Option Addr) (f : Str) : List Str → Prop
  | nil : NaAll K cl f []
  | cons {c : Str} {C : Addr} {cs : List Str} : cl c = some C → NoAttr K C f → NaAll K cl f cs → NaAll K cl f (c :: cs)
theorem NaAll.get {K : PySem.W.Frag} {f : Str} {cs : List Str} (h : NaAll K cl f cs) {c : Str} {C : Addr} (hc : c ∈ cs) (e : cl c = some C) : NoAttr K C f := by
  induction h with
  | nil => cases hc
  | cons e1 n t ih =>
    rcases List.mem_cons.mp hc with rfl | h
    · rw [e1] at e; cases e; exact n
    · exact ih h
/-- the instance that an operand is -/
def insS (d : D) (st : Store) : Option (Str × List (Str × D)) := match d with
  | .ins c fs => some (c, fs)
  | .loc l => match st[l]? with
    | some (.ins c fs) => some (c, fs)
    | _ => none
  | _ => none
theorem RV.insS {K : PySem.W.Frag} {F H : Hp} {ι : List Addr} {st : Store} (S : Sim K cl F ι H st) {v : V} {d : D} {c : Str} {fs : List (Str × D)} (r : RV K cl F ι v d) (h : DL.insS d st = some (c, fs)) : ∃ a C dx vfs, v = .ref a ∧ cl c = some C ∧ H a = some (.ins C dx vfs) ∧ RFs K cl F ι vfs fs := by
  cases r with
  | ins e1 e2 e3 =>
    simp only [DL.insS, Option.some.injEq, Prod.mk.injEq] at h
    obtain ⟨rfl, rfl⟩ := h
    exact ⟨_, _, _, _, rfl, e1, S.sub _ _ e2, e3⟩
  | loc hl =>
    simp only [DL.insS] at h
    split at h
    · rename_i es
      cases h
      obtain ⟨a, ha, ro⟩ := S.obj _ _ es
      rw [hl] at ha
      cases ha
      cases ro with
      | ins e1 e2 e3 => exact ⟨_, _, _, _, rfl, e1, e2, e3⟩
    · cases h
  | _ => cases h
def fldP (cs : List Str) (f : Str) : P1 := fun d st => (insS d st).bind fun p => if p.1 ∈ cs then p.2.lookup f else none
theorem de_fld {sub : Str → Str → Bool} (cs : List Str) {e : Expr} {f : Str} {fo : Env → M D} (G : CF X.K cl sub) (hn : NaAll X.K cl f cs) (he : DE X cl B W e fo) (hb : attributeBase e f X.env (eval e X.env) = eval e X.env) : DE X cl B W (.Attribute e f pos) (e1 (fldP cs f) fo) :=
  weakE (pe_fld he hb) fun σ H Q ⟨F, ι, st, ρ, A, q⟩ => ⟨F, ι, st, ρ, A, Post.bind back_V q fun d st1 F1 ι1 H1 v x1 S1 r1 q1 => by
    obtain ⟨z, hz, k⟩ := look_ok q1
    obtain ⟨⟨c, fs⟩, h1, h2⟩ := Option.bind_eq_some_iff.mp hz
    obtain ⟨a, C, dx, vfs, rfl, e1, e2, e3⟩ := RV.insS S1 r1 h1
    split at h2
    · rename_i hc
      rcases e3.lookup (f := f) with ⟨v, d', l1, l2, r⟩ | ⟨_, l2⟩
      · have h2' : fs.lookup f = some z := h2
        rw [l2] at h2'
        cases h2'
        exact ⟨a, C, dx, vfs, v, rfl, e2, (G.ci c C e1).cl, hn.get hc e1, l1, k F1 ι1 H1 v .refl S1 r⟩
      · have h2' : fs.lookup f = some z := h2
        rw [l2] at h2'
        cases h2'
    · cases h2⟩
/-- o.f = e, o an object of the store -/
def setFldM (cs : List Str) (f : Str) (o d : D) : M Unit := fun st => match o with
  | .loc l => match st[l]? with
    | some (.ins c fs) => if c ∈ cs ∧ fs.length < 1000 then .ok () (st.set l (.ins c (putD f d fs))) else .stuck
    | _ => .stuck
  | _ => .stuck
def sSetFld (cs : List Str) (f : Str) (fo fv : Env → M D) : SM := fun ρ st => (((fv ρ).bind fun d => (fo ρ).bind fun o => setFldM cs f o d) st).then ρ fun _ st => .next ρ st
theorem ds_setFld {sub : Str → Str → Bool} (cs : List Str) {o e : Expr} {f : Str} {fo fv : Env → M D} {p2 : Pos} (G : CF X.K cl sub) (hn : NaAll X.K cl f cs) (ho : DE X cl B W o fo) (hv : DE X cl B W e fv) (hs : swapsWith e (some (.Attribute o f p2)) pos.line X.env = pure false := by rfl) :
    DS X cl B W (.Assign [.Attribute o f p2] e pos) (sSetFld cs f fo fv) :=
  weakS (ps_fld ho hv hs) fun D σ H ⟨F, ι, st, ρ, A, q⟩ => ⟨F, ι, st, ρ, A, by
    have z : Post X.K cl (fun _ _ _ _ (_ : Unit) (_ : Unit) => True) F ι H σ W (((fv ρ).bind fun d => (fo ρ).bind fun o => setFldM cs f o d) st) (fun _ H' => D.nx σ H') := PostS.bind A q fun _ st' F' ι' H' _ x S _ p => p F' ι' H' σ (.refl F' ι') (A.later x S)
    have bk : Rel.Back (fun _ _ _ _ (_ : Unit) (_ : Unit) => True) := fun _ _ _ _ _ _ _ _ h => h
    refine Post.bind bk z fun d st1 F1 ι1 H1 v x1 S1 r1 z1 => ⟨F1, ι1, st1, ρ, A.later x1 S1, Post.bind bk z1 fun o st2 F2 ι2 H2 u x2 S2 r2 z2 => ?_⟩
    have r1 : RV X.K cl F2 ι2 v d := RV.ext x2 r1
    unfold setFldM at z2
    split at z2
    · split at z2
      · rename_i c fs es
        split at z2
        · rename_i hc
          cases r2 with
          | loc hl =>
            obtain ⟨a, ha, ro⟩ := S2.obj _ _ es
            rw [hl] at ha
            cases ha
            cases ro with
            | ins e1 e2 e3 =>
              refine ⟨_, _, _, _, rfl, e2, (G.ci c _ e1).cl, hn.get hc.1 e1, by rw [e3.length]; exact hc.2, z2 F2 ι2 _ () (Ext.updLoc (List.mem_of_getElem? hl)) (S2.updLoc hl (List.getElem?_eq_some_iff.mp es).1 fun H' e => .ins e1 e (e3.put r1)) True.intro⟩
        · exact z2.elim
      · exact z2.elim
    · exact z2.elim⟩
/-! ### methods -/
def eMeth (c m : Str) (b : BM) (fo : Env → M D) (g : Env → M (List D)) : Env → M D := fun ρ => (fo ρ).bind fun o => (M.look fun st => (insS o st).bind fun p => if p.1 = c ∧ p.2.lookup m = none then some () else none).bind fun _ => (g ρ).bind fun ds => b (o :: ds)
theorem meth_ok {c m : Str} {C : Addr} {l : Nat} {b : BM} {fo : Env → M D} {g : Env → M (List D)} (hC : cl c = some C) (hn : ∀ ρ st ds st', g ρ st = .ok ds st' → ds.length + 1 = l) : ∀ σ H Q, tE X.K cl B W (eMeth c m b fo g) σ H Q → tMethS' C m (spD X.K cl l b) (WE W) (tE X.K cl B W fo) (tA X.K cl B W g) σ H Q := fun σ H Q ⟨F, ι, st, ρ, A, q⟩ => by
  have q : Post X.K cl (rV X.K cl) F ι H σ W ((fo ρ st).bind fun o => (M.look fun st => (insS o st).bind fun p => if p.1 = c ∧ p.2.lookup m = none then some () else none).bind fun _ => (g ρ).bind fun ds => b (o :: ds)) Q := q
  refine ⟨F, ι, st, ρ, A, Post.bind back_V q fun o st1 F1 ι1 H1 v x1 S1 r1 q1 => ?_⟩
  have q1 : Post X.K cl (rV X.K cl) F1 ι1 H1 σ W (((M.look fun st => (insS o st).bind fun p => if p.1 = c ∧ p.2.lookup m = none then some () else none) st1).bind fun _ => (g ρ).bind fun ds => b (o :: ds)) Q := q1
  unfold M.look at q1
  dsimp only at q1
  cases ei : insS o st1 with
  | none => rw [ei] at q1; exact q1.elim
  | some p =>
    rw [ei, Option.bind_some] at q1
    by_cases hc : p.1 = c ∧ p.2.lookup m = none
    · rw [if_pos hc] at q1
      obtain ⟨a, C', dx, vfs, rfl, e1, e2, e3⟩ := RV.insS S1 r1 (c := p.1) (fs := p.2) ei
      rw [hc.1, hC] at e1
      cases e1
      refine ⟨a, dx, vfs, rfl, e2, ?_, F1, ι1, st1, ρ, A.later x1 S1, ?_⟩
      · rcases e3.lookup (f := m) with ⟨_, _, _, l2, _⟩ | ⟨l1, _⟩
        · rw [hc.2] at l2; cases l2
        · exact l1
      · have q1 : Post X.K cl (rV X.K cl) F1 ι1 H1 σ W ((g ρ st1).bind fun ds => b (o :: ds)) Q := q1
        cases eg : g ρ st1 with
        | stuck => rw [eg] at q1; exact q1.elim
        | exc e' st' => rw [eg] at q1; exact q1
        | ok ds st' =>
          rw [eg] at q1
          intro F' ι' H' vs x2 S2 r2
          have r2 : RVs X.K cl F' ι' vs ds := r2
          exact callD S2 (.cons (RV.ext x2 r1) r2) (hn _ _ _ _ eg) (Post.later back_V x2 q1)
    · rw [if_neg hc] at q1
      exact q1.elim
theorem de_meth {sub : Str → Str → Bool} {c m : Str} {C : Addr} {k l : Nat} {f : Addr} {fd : FuncData} {ps : List Str} {b : BM} {o e : Expr} {es : List Expr} {apos : Pos} {fo : Env → M D} {g : Env → M (List D)} {pl : Sem Bool} (G : CF X.K cl sub) (hC : cl c = some C) (hm : Meth X.K C m f)
    (Fo : FnOk X.prog X.w X.K X.mg X.base (L2.CX X.prog X.w) k f fd ps (spD X.K cl l b)) (hr : Room k X.A) (hb : Binds X.K fd ps []) (tk : Takes X W) (ho : DE X cl B W o fo) (ha : DA X cl B W (e :: es) g) (hn : ∀ ρ st ds st', g ρ st = .ok ds st' → ds.length + 1 = l)
    (hst : starEach (e :: es) X.env = (false, eval e X.env) :: starEach es X.env := by rfl) (hpl : (backTo pos (starEach es X.env)).any (·.1) = false := by rfl)
    (ht : eval (.Call (.Attribute o m apos) (e :: es) [] pos) X.env = (do
      let ov ← eval o X.env
      standAt apos.atName
      let (f, first) ← holding [ov] (getMethod ov m pl)
      callWith pos f first (backTo pos (starEach (e :: es) X.env)) (backToKw pos (keywordEach [] X.env))) := by rfl) :
    DE X cl B W (.Call (.Attribute o m apos) (e :: es) [] pos) (eMeth c m b fo g) :=
  weakE (pe_methS1 (pl := pl) ho (G.ci c C hC).cl hm Fo hr hb (passAt tk) ha hst hpl ht) (meth_ok hC hn)
theorem de_meth0 {sub : Str → Str → Bool} {c m : Str} {C : Addr} {k : Nat} {f : Addr} {fd : FuncData} {ps : List Str} {b : BM} {o : Expr} {apos : Pos} {fo : Env → M D} {pl : Sem Bool} (G : CF X.K cl sub) (hC : cl c = some C) (hm : Meth X.K C m f)
    (Fo : FnOk X.prog X.w X.K X.mg X.base (L2.CX X.prog X.w) k f fd ps (spD X.K cl 1 b)) (hr : Room k X.A) (hb : Binds X.K fd ps []) (tk : Takes X W) (ho : DE X cl B W o fo)
    (ht : eval (.Call (.Attribute o m apos) [] [] pos) X.env = (do
      let ov ← eval o X.env
      standAt apos.atName
      let (f, first) ← holding [ov] (getMethod ov m pl)
      callWith pos f first (backTo pos (starEach [] X.env)) (backToKw pos (keywordEach [] X.env))) := by rfl) :
    DE X cl B W (.Call (.Attribute o m apos) [] [] pos) (eMeth c m b fo eNilA) :=
  weakE (pe_methS0 (pl := pl) ho (G.ci c C hC).cl hm Fo hr hb (passAt tk) ht) fun σ H Q h => by
    obtain ⟨F, ι, st, ρ, A, q⟩ := meth_ok (l := 1) hC (fun ρ st ds st' e => by cases e; rfl) σ H Q h
    refine ⟨F, ι, st, ρ, A, q.mono fun x H1 ⟨a, dx, fs, h1, h2, h3, h4⟩ => ⟨a, dx, fs, h1, h2, h3, tNil_A h4⟩⟩
/-! ### C(..) -/
def eMake (c : Str) (b : BM) (n m : Nat) (ix : List Nat) (f g : Env → M (List D)) : Env → M D := fun ρ => (f ρ).bind fun ds => (g ρ).bind fun es st => if ds.length = n ∧ es.length = m then (match b (perm (n + 1) m ix (.loc st.length :: ds) es) (st ++ [.ins c []]) with
  | .ok .non st' => .ok (.loc st.length) st'
  | .exc e st' => .exc e st'
  | _ => .stuck) else .stuck
theorem make_ok {c : Str} {C : Addr} {n m l : Nat} {ix : List Nat} {b : BM} {f g : Env → M (List D)} (hC : cl c = some C) (hl : ix.length = l) (hi : ∀ i ∈ ix, i < n + 1 + m) : ∀ σ H Q, tE X.K cl B W (eMake c b n m ix f g) σ H Q → tMakeKS C (spD X.K cl l b) (WE W) n m ix (tA X.K cl B W f) (tA X.K cl B W g) σ H Q := fun σ H Q ⟨F, ι, st, ρ, A, q⟩ => by
  refine ⟨F, ι, st, ρ, A, Post.bind back_V q fun ds st1 F1 ι1 H1 vs x1 S1 r1 q1 => ⟨F1, ι1, st1, ρ, A.later x1 S1, Post.bind back_V q1 fun es st2 F2 ι2 H2 zs x2 S2 r2 q2 => ?_⟩⟩
  have r1 : RVs X.K cl F2 ι2 vs ds := RVs.ext x2 r1
  have r2 : RVs X.K cl F2 ι2 zs es := r2
  by_cases hc : ds.length = n ∧ es.length = m
  · rw [if_pos hc] at q2
    refine ⟨by rw [r1.length]; exact hc.1, by rw [r2.length]; exact hc.2, fun x dx hx hdx ne => ?_⟩
    obtain ⟨y1, T1⟩ := newH (o := .own x) S2 hdx
    have hx1 : upd H2 dx (.own x) x = none := by rw [upd_ne (Ne.symm ne)]; exact hx
    obtain ⟨y2, T2⟩ := newH (o := .ins C dx []) T1 hx1
    obtain ⟨n1, n2⟩ := T1.none_of hx1
    have T3 := T2.newLoc (o := .ins c []) upd_same n1 n2 (.ins hC upd_same .nil)
    have y3 : Ext F2 F2 ι2 (ι2 ++ [x]) H2 (upd (upd H2 dx (.own x)) x (.ins C dx [])) := ⟨fun _ _ e => e, List.prefix_append _ _, (y1.trans y2).h, (y1.trans y2).t, fun _ _ e => .inl e, fun a ha => by
      rcases List.mem_append.mp ha with h | h
      · exact .inl h
      · rw [List.mem_singleton.mp h]; exact .inr hx⟩
    have up : ∀ {us : List V} {d : List D}, RVs X.K cl F2 ι2 us d → RVs X.K cl F2 (ι2 ++ [x]) us d := fun r => r.up (fun _ _ e => e) (List.prefix_append _ _)
    have rx : RV X.K cl F2 (ι2 ++ [x]) (.ref x) (.loc st2.length) := .loc (by rw [← S2.len]; simp)
    have r3 := RVs.perm (n := n + 1) (m := m) (ix := ix) (RVs.cons rx (up r1)) (up r2)
    have hlen : (perm (n + 1) m ix (D.loc st2.length :: ds) es).length = l := by
      unfold perm
      rw [if_pos ⟨by rw [List.length_cons, hc.1], hc.2⟩]
      have : ∀ jx : List Nat, (∀ i ∈ jx, i < n + 1 + m) → (jx.filterMap fun i => ((D.loc st2.length :: ds) ++ es)[i]?).length = jx.length := fun jx => by
        induction jx with
        | nil => intro _; rfl
        | cons i jx ih =>
          intro h
          have h1 : i < ((D.loc st2.length :: ds) ++ es).length := by rw [List.length_append, List.length_cons]; have := h i (by simp); omega
          rw [List.filterMap_cons, List.getElem?_eq_getElem h1, List.length_cons, List.length_cons, ih fun j hj => h j (by simp [hj])]
      rw [this ix hi, hl]
    refine callD T3 r3 hlen ?_
    cases eb : b (perm (n + 1) m ix (D.loc st2.length :: ds) es) (st2 ++ [.ins c []]) with
    | stuck => rw [eb] at q2; exact q2.elim
    | exc e st' => rw [eb] at q2; exact fun F' ι' H' cv dd y => q2 F' ι' H' cv dd (y3.trans y)
    | ok d st' =>
      rw [eb] at q2
      intro F' ι' H' v y S r
      cases d with
      | non =>
        have r : RV X.K cl F' ι' v .non := r
        cases r
        exact ⟨rfl, q2 F' ι' H' _ (y3.trans y) S (.loc (prefix_get y.i (by rw [← S2.len]; simp)))⟩
      | _ => exact q2.elim
  · rw [if_neg hc] at q2
    exact q2.elim
theorem de_make {k n l : Nat} {ix : List Nat} {f C : Addr} {fd : FuncData} {ps ks : List Str} {b : BM} {c x : Str} {p : Pos} {e : Expr} {es : List Expr} {kws : List Keyword} {g gk : Env → M (List D)} (hC : cl c = some C) (Mk' : Mk X.K C f) (Fo : FnOk X.prog X.w X.K X.mg X.base (L2.CX X.prog X.w) k f fd ps (spD X.K cl l b))
    (hr : Room (k + 1) X.A) (hg : Gl X x) (hm : X.mg x = some (.ref C)) (hb : KB X.K fd ps ks (n + 1) ix) (tk : Takes X W) (ha : DA X cl B W (e :: es) g) (hkw : DK X cl B W kws gk) (hl : ix.length = l) (hi : ∀ i ∈ ix, i < n + 1 + ks.length)
    (hall : (backToKw pos (keywordEach kws X.env)).all (·.1.isSome) = true := by rfl) (hks : (backToKw pos (keywordEach kws X.env)).filterMap (·.1) = ks := by rfl)
    (hdb : (x == ("__debug__" : Str)) = false := by decide) (he : starEach (e :: es) X.env = (false, eval e X.env) :: starEach es X.env := by rfl)
    (hpl : ((backTo pos (starEach (e :: es) X.env)).any (·.1) || (backToKw pos (keywordEach kws X.env)).any (·.1.isNone)) = false := by rfl) :
    DE X cl B W (.Call (.Name x p) (e :: es) kws pos) (eMake c b n ks.length ix g gk) :=
  weakE (pe_makeKS Mk' Fo hr hg hm hb (passAt tk) ha hkw hall hks hdb he hpl) (make_ok hC hl hi)
theorem de_make0 {k l : Nat} {ix : List Nat} {f C : Addr} {fd : FuncData} {ps ks : List Str} {b : BM} {c x : Str} {p : Pos} {kws : List Keyword} {gk : Env → M (List D)} (hC : cl c = some C) (Mk' : Mk X.K C f) (Fo : FnOk X.prog X.w X.K X.mg X.base (L2.CX X.prog X.w) k f fd ps (spD X.K cl l b))
    (hr : Room (k + 1) X.A) (hg : Gl X x) (hm : X.mg x = some (.ref C)) (hb : KB X.K fd ps ks (0 + 1) ix) (tk : Takes X W) (hkw : DK X cl B W kws gk) (hl : ix.length = l) (hi : ∀ i ∈ ix, i < 0 + 1 + ks.length)
    (hall : (backToKw pos (keywordEach kws X.env)).all (·.1.isSome) = true := by rfl) (hks : (backToKw pos (keywordEach kws X.env)).filterMap (·.1) = ks := by rfl)
    (hdb : (x == ("__debug__" : Str)) = false := by decide)
    (hpl : ((backTo pos (starEach [] X.env)).any (·.1) || (backToKw pos (keywordEach kws X.env)).any (·.1.isNone)) = false := by rfl) :
    DE X cl B W (.Call (.Name x p) [] kws pos) (eMake c b 0 ks.length ix eNilA gk) :=
  weakE (pe_makeKS0 Mk' Fo hr hg hm hb (passAt tk) hkw hall hks hdb hpl) fun σ H Q h => by
    obtain ⟨F, ι, st, ρ, A, q⟩ := make_ok hC hl hi σ H Q h
    exact q F ι H [] .refl A.sim .nil
end
end DL
end
section
/-! DL13: written dicts, what is looked up in them. -/
namespace DL
open PySem PySem.Spec PyProof.Rows L2
/-! ### keys -/
theorem kD_val {K : PySem.W.Frag} {cl : Str → Option Addr} {F : Hp} {ι : List Addr} {v : V} {d : D} {k : Key} (r : RV K cl F ι v d) (h : kD d = some k) : v = kV k := by
  cases r <;> simp only [kD, Option.some.injEq, reduceCtorEq] at h
  · subst h; rfl
  · subst h; rfl
/-- the value that stands with the key -/
def dGet (kds : List (D × D)) (k : D) : Option D := match kD k with
  | some q => (kds.find? fun p => decide (kD p.1 = some q)).map (·.2)
  | none => none
theorem RKs.get {K : PySem.W.Frag} {cl : Str → Option Addr} {F : Hp} {ι : List Addr} {q : Key} : ∀ {kvs : List (Key × V)} {kds : List (D × D)}, RKs K cl F ι kvs kds →
    (∃ v d, valV kvs q = some v ∧ (kds.find? (fun p => decide (kD p.1 = some q))).map (·.2) = some d ∧ RV K cl F ι v d) ∨ (valV kvs q = none ∧ (kds.find? (fun p => decide (kD p.1 = some q))).map (·.2) = none)
  | _, _, .nil => .inr ⟨rfl, rfl⟩
  | _, _, .cons (k := k) (v := v) (d := d) e r t => by
    by_cases h : k = q
    · subst h
      refine .inl ⟨v, d, valV_pos rfl, ?_, r⟩
      rw [List.find?_cons]
      simp [e]
    · rw [valV_neg (p := (k, v)) h, List.find?_cons]
      have : decide (kD _ = some q) = false := decide_eq_false (by rw [e]; intro z; cases z; exact h rfl)
      simp only [this]
      exact RKs.get t
theorem RKs.length {K : PySem.W.Frag} {cl : Str → Option Addr} {F : Hp} {ι : List Addr} : ∀ {kvs : List (Key × V)} {kds : List (D × D)}, RKs K cl F ι kvs kds → kvs.length = kds.length
  | _, _, .nil => rfl
  | _, _, .cons _ _ t => by rw [List.length_cons, List.length_cons, RKs.length t]
theorem RKs.ext {K : PySem.W.Frag} {cl : Str → Option Addr} {F F' H H' : Hp} {ι ι' : List Addr} (x : Ext F F' ι ι' H H') {kvs : List (Key × V)} {kds : List (D × D)} (r : RKs K cl F ι kvs kds) : RKs K cl F' ι' kvs kds := r.up x.f x.i
/-- keys all unlike -/
def ksOk : List (D × D) → Bool
  | [] => true
  | p :: ps => (kD p.1).isSome && (ps.all fun q => decide (kD q.1 ≠ kD p.1)) && ksOk ps
theorem merge_nodup : ∀ {more kvs : List (Key × V)}, (kvs ++ more).Pairwise (fun p q => p.1 ≠ q.1) → mergeK kvs more = kvs ++ more
  | [], kvs, _ => by simp [mergeK]
  | p :: more, kvs, h => by
    show mergeK (putK kvs p.1 p.2) more = _
    have hn : (kvs.any fun kv => decide (kv.1 = p.1)) = false := by
      rw [List.any_eq_false]
      intro q hq
      have := (List.pairwise_append.mp h).2.2 q hq p (by simp)
      simpa using this
    have e : putK kvs p.1 p.2 = kvs ++ [(p.1, p.2)] := by
      unfold putK
      rw [hn, if_neg Bool.false_ne_true]
    rw [e, merge_nodup (by simpa using h)]
    simp
theorem Post.bindDel' {K : PySem.W.Frag} {cl : Str → Option Addr} {α β γ δ : Type} {rel : Rel α β} {rel2 : Rel γ δ} {F H : Hp} {ι : List Addr} {σ : L2.St} {W : WX} {p : Addr} {r : R α} {f : α → M γ} {Q : β → Hp → Prop} {Q2 : δ → Hp → Prop} (b : rel2.Back) (h : Post K cl rel2 F ι (del H p) σ W (r.bind f) Q2)
    (k : ∀ a st' F' ι' H' v, Ext F F' ι ι' H H' → Sim K cl F' ι' H' st' → rel H F' ι' H' v a → Post K cl rel2 F' ι' (del H' p) σ W (f a st') Q2 → Q v H') : Post K cl rel F ι H σ W r Q := by
  cases r with
  | ok d st' => exact fun F2 ι2 H2 v y S q => k d st' F2 ι2 H2 v y S q (Post.later b y.del h)
  | exc e st' => exact fun F' ι' H' cv dd y => h F' ι' H' cv dd (Ext.toDel.trans y)
  | stuck => exact h
theorem Sim.del {K : PySem.W.Frag} {cl : Str → Option Addr} {F H : Hp} {ι : List Addr} {st : Store} {p : Addr} (S : Sim K cl F ι H st) (hF : F p = none) (hι : p ∉ ι) : Sim K cl F ι (DL.del H p) st :=
  have kp : ∀ a o, a ≠ p → H a = some o → DL.del H p a = some o := fun a o n e => by rw [del_ne n]; exact e
  ⟨fun a o e => kp a o (fun z => by rw [z, hF] at e; cases e) (S.sub a o e), S.len, S.nd, S.dis, fun l o e => by
    obtain ⟨a, ha, ro⟩ := S.obj l o e
    exact ⟨a, ha, ro.up (fun _ _ e => e) (List.prefix_refl _) fun u q => kp a u (fun z => hι (by rw [← z]; exact List.mem_of_getElem? ha)) q⟩⟩
theorem upd_del {H : Hp} {p : Addr} {o : HO} : upd (del H p) p o = upd H p o := by
  funext b
  by_cases h : b = p
  · subst h; rw [upd_same, upd_same]
  · rw [upd_ne h, upd_ne h, del_ne h]
/-- pairs as they lie, keys ints or texts -/
inductive RPs (K : PySem.W.Frag) (cl : Str → Option Addr) (F : Hp) (ι : List Addr) : List (V × V) → List (D × D) → Prop
  | nil : RPs K cl F ι [] []
  | cons {v u : V} {d e : D} {vs : List (V × V)} {ds : List (D × D)} : RV K cl F ι v d → RV K cl F ι u e → RPs K cl F ι vs ds → RPs K cl F ι ((v, u) :: vs) ((d, e) :: ds)
theorem RPs.ext {K : PySem.W.Frag} {cl : Str → Option Addr} {F F' H H' : Hp} {ι ι' : List Addr} (x : Ext F F' ι ι' H H') : ∀ {vs : List (V × V)} {ds : List (D × D)}, RPs K cl F ι vs ds → RPs K cl F' ι' vs ds
  | _, _, .nil => .nil
  | _, _, .cons r q t => .cons (r.ext x) (q.ext x) (RPs.ext x t)
theorem RKs.apart {K : PySem.W.Frag} {cl : Str → Option Addr} {F : Hp} {ι : List Addr} {k : Key} {d : D} (ek : kD d = some k) : ∀ {kvs : List (Key × V)} {ds : List (D × D)}, RKs K cl F ι kvs ds → (ds.all fun q => decide (kD q.1 ≠ kD d)) = true → ∀ p ∈ kvs, k ≠ p.1
  | _, _, .nil, _, p, hp => by cases hp
  | _, _, .cons e _ t, ha, p, hp => by
    rw [List.all_cons, Bool.and_eq_true] at ha
    rcases List.mem_cons.mp hp with rfl | hp
    · have := of_decide_eq_true ha.1
      intro z
      exact this (by rw [e, ek, z])
    · exact RKs.apart ek t ha.2 p hp
theorem RPs.keys {K : PySem.W.Frag} {cl : Str → Option Addr} {F : Hp} {ι : List Addr} : ∀ {vs : List (V × V)} {ds : List (D × D)}, RPs K cl F ι vs ds → ksOk ds = true → ∃ kvs : List (Key × V), vs = kvs.map (fun kv => (kV kv.1, kv.2)) ∧ RKs K cl F ι kvs ds ∧ kvs.Pairwise (fun p q => p.1 ≠ q.1)
  | _, _, .nil, _ => ⟨[], rfl, .nil, .nil⟩
  | _, _, .cons (d := d) (u := u) (ds := ds) r q t, h => by
    simp only [ksOk, Bool.and_eq_true] at h
    obtain ⟨⟨h1, h2⟩, h3⟩ := h
    obtain ⟨kvs, e1, e2, e3⟩ := RPs.keys t h3
    obtain ⟨k, ek⟩ := Option.isSome_iff_exists.mp h1
    refine ⟨(k, u) :: kvs, ?_, .cons ek q e2, List.pairwise_cons.mpr ⟨?_, e3⟩⟩
    · rw [List.map_cons, ← e1, kD_val r ek]
    · exact RKs.apart ek e2 h2
/-! ### mirrors -/
def pNil : Env → M (List (D × D)) := fun _ => M.ret []
def pCons (k v : Env → M D) (r : Env → M (List (D × D))) : Env → M (List (D × D)) := fun ρ => (k ρ).bind fun x => (v ρ).bind fun y => (r ρ).bind fun ps => M.ret ((x, y) :: ps)
def eDic (f : Env → M (List (D × D))) : Env → M D := fun ρ => (f ρ).bind fun ps => M.look fun _ => if ksOk ps = true ∧ ps.length ≤ 15 then some (.dic ps) else none
section
variable {X : Cx} {cl : Str → Option Addr} {B : Base} {W : WX} {pos : Pos}
def rPs (K : PySem.W.Frag) (cl : Str → Option Addr) : Rel (List (D × D)) (List (V × V)) := fun _ F ι _ vs ds => RPs K cl F ι vs ds
theorem back_Ps : Rel.Back (rPs X.K cl) := fun _ _ _ _ _ _ _ _ h => h
/-- the readings of the pairs and their mirror -/
inductive TPs (X : Cx) (cl : Str → Option Addr) (B : Base) (W : WX) : List (TE × TE) → (Env → M (List (D × D))) → Prop
  | nil : TPs X cl B W [] pNil
  | cons {k v : Env → M D} {trs : List (TE × TE)} {r : Env → M (List (D × D))} : TPs X cl B W trs r → TPs X cl B W ((tE X.K cl B W k, tE X.K cl B W v) :: trs) (pCons k v r)
theorem tPairs_of {trs : List (TE × TE)} {g : Env → M (List (D × D))} (T : TPs X cl B W trs g) : ∀ {F H : Hp} {ι : List Addr} {st : Store} {σ : L2.St} {ρ : Env} {Q : List (V × V) → Hp → Prop}, At X.K cl B F ι H st σ ρ → Post X.K cl (rPs X.K cl) F ι H σ W (g ρ st) Q → tPairs trs σ H Q := by
  induction T with
  | nil => intro F H ι st σ ρ Q A q; exact q F ι H [] .refl A.sim .nil
  | @cons k v trs r T ih =>
    intro F H ι st σ ρ Q A q
    refine ⟨F, ι, st, ρ, A, Post.bind back_Ps q fun x st1 F1 ι1 H1 vx x1 S1 r1 q1 => ⟨F1, ι1, st1, ρ, A.later x1 S1, Post.bind back_Ps q1 fun y st2 F2 ι2 H2 vy x2 S2 r2 q2 => ih ((A.later x1 S1).later x2 S2) ?_⟩⟩
    refine Post.bind back_Ps q2 fun ps st3 F3 ι3 H3 vs x3 S3 r3 q3 => ?_
    exact q3 F3 ι3 H3 _ .refl S3 (.cons (RV.ext x3 (RV.ext x2 r1)) (RV.ext x3 r2) r3)
abbrev DPs (X : Cx) (cl : Str → Option Addr) (B : Base) (W : WX) (pos : Pos) (ks : List (Option Expr)) (vs : List Expr) (f : Env → M (List (D × D))) : Prop := ∃ trs, PPs X pos ks vs trs ∧ TPs X cl B W trs f
theorem dps_nil : DPs X cl B W pos [] [] pNil := ⟨[], pps_nil, .nil⟩
theorem dps_cons {k v : Expr} {ks : List (Option Expr)} {vs : List Expr} {fk fv : Env → M D} {r : Env → M (List (D × D))} (hk : DE X cl B W k fk) (hv : DE X cl B W v fv) (hr : DPs X cl B W pos ks vs r) : DPs X cl B W pos (some k :: ks) (v :: vs) (pCons fk fv r) := by
  obtain ⟨trs, h1, h2⟩ := hr
  exact ⟨_, pps_cons hk hv h1, .cons h2⟩
theorem de_dic {keys : List (Option Expr)} {values : List Expr} {f : Env → M (List (D × D))} (h : DPs X cl B W pos keys values f) (hall : keys.all (·.isSome) = true) (hl : keys.length = values.length) (h0 : keys ≠ []) (h15 : keys.length ≤ 15) : DE X cl B W (.Dict keys values pos) (eDic f) := by
  obtain ⟨trs, h1, h2⟩ := h
  refine weakE (pe_disp h1 hall hl h0 h15) fun σ H Q ⟨F, ι, st, ρ, A, q⟩ p hp => ?_
  obtain ⟨y, T⟩ := newH (o := .dK []) A.sim hp
  have A' : At X.K cl B F ι (upd H p (.dK [])) st σ ρ := A.later y T
  refine tPairs_of h2 A' (Post.bindDel' (p := p) back_V (by rw [del_upd, del_new hp]; exact q) fun ps st1 F1 ι1 H1 vs x1 S1 r1 q1 => ?_)
  obtain ⟨z, hz, k⟩ := look_ok q1
  split at hz
  · rename_i hc
    cases hz
    obtain ⟨n1, n2⟩ := A.sim.none_of hp
    have hp1 : H1 p = some (.dK []) := x1.h _ _ upd_same n2
    have r1 : RPs X.K cl F1 ι1 vs ps := r1
    obtain ⟨kvs, e1, e2, e3⟩ := r1.keys hc.1
    refine ⟨hp1, kvs, e1, by rw [e2.length]; exact hc.2, ?_⟩
    rw [merge_nodup (by simpa using e3), List.nil_append]
    have nF : F1 p = none := by
      cases e : F1 p with
      | none => rfl
      | some o =>
        rcases x1.nf p o e with z | z
        · rw [n1] at z; cases z
        · rw [upd_same] at z; cases z
    have nι : p ∉ ι1 := fun z => by
      rcases x1.ni p z with z | z
      · exact n2 z
      · rw [upd_same] at z; cases z
    obtain ⟨y2, T2⟩ := newF (o := .dK kvs) (S1.del nF nι) del_same
    rw [upd_del] at y2 T2
    exact k _ ι1 _ (.ref p) y2 T2 (.dicK upd_same (e2.ext y2))
  · cases hz
end
end DL
end
section
/-! DS0: sorted of ints, of texts, of flat tuples of both. -/
namespace DL
open PySem PySem.Spec PyProof.Rows L2 SrtO
/-! ### keys as lists of numbers, in Python's order -/
def encK : Key → List Int
  | .inl i => [0, i]
  | .inr s => 1 :: s.cps.toList.map Int.ofNat
def kB : Key → Bool
  | .inl _ => false
  | .inr _ => true
theorem map_ofNat_lt : ∀ {a b : List Nat}, a.map Int.ofNat < b.map Int.ofNat ↔ a < b
  | [], [] => by simp
  | [], b :: bs => by simp
  | a :: as, [] => by simp
  | a :: as, b :: bs => by
    rw [List.map_cons, List.map_cons, List.cons_lt_cons_iff, List.cons_lt_cons_iff, map_ofNat_lt]
    have h1 : Int.ofNat a < Int.ofNat b ↔ a < b := Int.ofNat_lt
    have h2 : Int.ofNat a = Int.ofNat b ↔ a = b := ⟨Int.ofNat.inj, congrArg _⟩
    rw [h1, h2]
theorem encK_int {i j : Int} : encK (.inl i) < encK (.inl j) ↔ i < j := by
  unfold encK
  rw [List.cons_lt_cons_iff, List.cons_lt_cons_iff]
  simp
theorem encK_str {x y : Str} : encK (.inr x) < encK (.inr y) ↔ x.cps.toList < y.cps.toList := by
  unfold encK
  rw [List.cons_lt_cons_iff, map_ofNat_lt]
  simp
theorem encK_inj : ∀ {a b : Key}, encK a = encK b → a = b
  | .inl i, .inl j, h => by simp [encK] at h; rw [h]
  | .inl i, .inr s, h => by simp [encK] at h
  | .inr s, .inl i, h => by simp [encK] at h
  | .inr x, .inr y, h => by
    simp only [encK, List.cons.injEq, true_and] at h
    have e : x.cps.toList = y.cps.toList := by
      have inj : ∀ {a b : List Nat}, a.map Int.ofNat = b.map Int.ofNat → a = b := by
        intro a
        induction a with
        | nil => intro b h; cases b with
          | nil => rfl
          | cons _ _ => simp at h
        | cons a as ih =>
          intro b h
          cases b with
          | nil => simp at h
          | cons b bs =>
            simp only [List.map_cons, List.cons.injEq] at h
            rw [Int.ofNat.inj h.1, ih h.2]
      exact inj h
    have e2 : x.cps = y.cps := Array.toList_inj.mp e
    cases x; cases y
    cases e2
    rfl
theorem enc_inj : ∀ {a b : List Key}, a.map encK = b.map encK → a = b
  | [], [], _ => rfl
  | [], _ :: _, h => by simp at h
  | _ :: _, [], h => by simp at h
  | a :: as, b :: bs, h => by
    simp only [List.map_cons, List.cons.injEq] at h
    rw [encK_inj h.1, enc_inj h.2]
/-- the kinds of what is sorted -/
inductive Sh where
  | int | str | tup (ts : List Bool)
  deriving DecidableEq
def IsOrd (h : Heap) (sh : Sh) (v : Value) (ks : List Key) : Prop := match sh with
  | .int => ∃ i t, v = .int i t ∧ ks = [.inl i]
  | .str => ∃ x t, v = .str x t ∧ ks = [.inr x]
  | .tup ts => ∃ a items, v = .ref a ∧ IsTup h a (List.toArray items) ∧ Vals (ks.map kV) items ∧ ks.map kB = ts ∧ ts ≠ []
def encU (u : Value) : List Int := match u with
  | .int i _ => encK (.inl i)
  | .str x _ => encK (.inr x)
  | _ => []
def encV (h : Heap) (v : Value) : List (List Int) := match v with
  | .ref a => match h.get? a with
    | some o => match o.data with
      | .seq items _ => items.toList.map encU
      | _ => []
    | none => []
  | u => [encU u]
theorem encU_of {k : Key} {u : Value} (r : RelV (kV k) u) : encU u = encK k := by
  cases k with
  | inl i => obtain ⟨t, rfl⟩ := (show ∃ t, u = Value.int i t from r); rfl
  | inr x => obtain ⟨t, rfl⟩ := (show ∃ t, u = Value.str x t from r); rfl
theorem encUs_of : ∀ {ks : List Key} {us : List Value}, Vals (ks.map kV) us → us.map encU = ks.map encK
  | [], [], _ => rfl
  | k :: ks, u :: us, .cons a b => by rw [List.map_cons, List.map_cons, encU_of a, encUs_of b]
theorem IsOrd.enc {h : Heap} {sh : Sh} {v : Value} {ks : List Key} (x : IsOrd h sh v ks) : encV h v = ks.map encK := by
  cases sh with
  | int => obtain ⟨i, t, rfl, rfl⟩ := x; rfl
  | str => obtain ⟨i, t, rfl, rfl⟩ := x; rfl
  | tup ts =>
    obtain ⟨a, items, rfl, ⟨o, ho, _, n, hd⟩, r, _, _⟩ := x
    unfold encV
    simp only [ho, hd]
    exact encUs_of r
theorem IsOrd.keeps {h h' : Heap} {sh : Sh} {v : Value} {ks : List Key} (x : IsOrd h sh v ks) (k : ∀ b o, h.get? b = some o → o.cls = .type "tuple" → h'.get? b = some o) : IsOrd h' sh v ks := by
  cases sh with
  | int => exact x
  | str => exact x
  | tup ts =>
    obtain ⟨a, items, e, ⟨o, ho, hc, hd⟩, r⟩ := x
    exact ⟨a, items, e, ⟨o, k _ _ ho hc, hc, hd⟩, r⟩
abbrev ltE (h : Heap) (v u : Value) : Bool := decide (encV h v < encV h u)
theorem swo_enc (h : Heap) : Swo (ltE h) := by
  refine ⟨fun x y e => ?_, fun x y z h1 h2 => ?_⟩
  · have a := of_decide_eq_true e
    exact decide_eq_false fun b => List.lt_irrefl _ (List.lt_trans a b)
  · have a := of_decide_eq_false h1
    have b := of_decide_eq_false h2
    exact decide_eq_false (List.not_lt.mpr (List.le_trans (List.not_lt.mp a) (List.not_lt.mp b)))
section
variable {prog : Program} {w : World} {A : Around} {E : Value → Shared → Prop} {s : Shared}
theorem eq_keys {a b : Key} {u v : Value} (ru : RelV (kV a) u) (rv : RelV (kV b) v) {Q : Bool → Shared → Prop} (h : Q (decide (a = b)) s) : wpAny (model prog w) A (eqBool u v) Q E s :=
  (mixKind prog w).eqBool (kV_is ru) (kV_is rv) h
theorem oneLt_keys {c : Bool} {a b : Key} {u v : Value} (ru : RelV (kV a) u) (rv : RelV (kV b) v) (hk : kB a = kB b) {Q : Bool → Shared → Prop} (h : Q (decide (encK a < encK b)) s) : wpAny (model prog w) A (oneLt' c u v) Q E s := by
  cases a with
  | inl i =>
    cases b with
    | inl j =>
      obtain ⟨t, rfl⟩ := (show ∃ t, u = Value.int i t from ru)
      obtain ⟨t', rfl⟩ := (show ∃ t, v = Value.int j t from rv)
      have e : decide (encK (.inl i) < encK (.inl j)) = decide (i < j) := decide_eq_decide.mpr encK_int
      rw [e] at h
      cases c with
      | true => exact oneLt_int h
      | false => exact PySem.W.kat_one _ _ (PyProof.Rows.lt_int (Q := PySem.W.BoolBack Q) h)
    | inr y => cases hk
  | inr x =>
    cases b with
    | inl j => cases hk
    | inr y =>
      obtain ⟨t, rfl⟩ := (show ∃ t, u = Value.str x t from ru)
      obtain ⟨t', rfl⟩ := (show ∃ t, v = Value.str y t from rv)
      have e : decide (encK (.inr x) < encK (.inr y)) = decide (x.cps.toList < y.cps.toList) := decide_eq_decide.mpr encK_str
      rw [e] at h
      cases c with
      | true => exact oneLt_str h
      | false => exact PySem.W.kat_one _ _ (PyProof.Rows.lt_str (Q := PySem.W.BoolBack Q) h)
theorem lex_keys {b : Bool} {Q : Bool → Shared → Prop} : ∀ {ks ls : List Key} {us vs : List Value} (i : Nat), Vals (ks.map kV) us → Vals (ls.map kV) vs → ks.map kB = ls.map kB → Q (decide (ks.map encK < ls.map encK)) s → PySem.W.KatLex prog w A b false Q (us.zip vs) i s
  | [], [], [], [], i, _, _, _, h => by
    have e : decide (([] : List Key).map encK < ([] : List Key).map encK) = false := decide_eq_false (List.lt_irrefl _)
    rw [e] at h
    exact PySem.W.kat_nil h
  | k :: ks, l :: ls, u :: us, v :: vs, i, .cons a a', .cons c c', hk, h => by
    simp only [List.map_cons, List.cons.injEq] at hk
    refine PySem.W.kat_cons (eq_keys a c ?_)
    refine PySem.W.kat_go (fun e => ?_) (fun e => ?_)
    · have e := of_decide_eq_true e
      subst e
      refine PySem.W.kat_yes (lex_keys (i + 1) a' c' hk.2 ?_)
      have q : decide ((k :: ks).map encK < (k :: ls).map encK) = decide (ks.map encK < ls.map encK) := by
        refine decide_eq_decide.mpr ?_
        rw [List.map_cons, List.map_cons, List.cons_lt_cons_iff]
        exact ⟨fun z => z.elim (fun z => absurd z (List.lt_irrefl _)) (·.2), fun z => .inr ⟨rfl, z⟩⟩
      rw [q] at h
      exact h
    · have e := of_decide_eq_false e
      refine PySem.W.kat_no (oneLt_keys a c hk.1 ?_)
      have q : decide ((k :: ks).map encK < (l :: ls).map encK) = decide (encK k < encK l) := by
        refine decide_eq_decide.mpr ?_
        rw [List.map_cons, List.map_cons, List.cons_lt_cons_iff]
        exact ⟨fun z => z.elim id fun z => absurd (encK_inj z.1) e, .inl⟩
      rw [q] at h
      exact h
theorem Vals.len2 {ks ls : List Key} {us vs : List Value} (a : Vals (ks.map kV) us) (b : Vals (ls.map kV) vs) (h : ks.map kB = ls.map kB) : us.length = vs.length := by
  have h1 := a.length
  have h2 := b.length
  have h3 := congrArg List.length h
  simp only [List.length_map] at h1 h2 h3
  omega
theorem ord_cmp {sh : Sh} {vs : List Value} (hv : ∀ v ∈ vs, ∃ ks, IsOrd s.heap sh v ks) : ∃ κ, Cmp prog w A s κ (fun p => p.1 ∈ vs) (lt2 (ltE s.heap)) ∧ (2 ≤ vs.length → ∀ (Q : SortKind → Shared → Prop) (E : Value → Shared → Prop), Q κ s → wpAny (model prog w) A (keyKind' vs.toArray) Q E s) := by
  cases sh with
  | int =>
    refine ⟨oneType', fun p q hp hq => ?_, fun h2 Q E hQ => ?_⟩
    · obtain ⟨_, i, t, e, rfl⟩ := hv _ hp
      obtain ⟨_, j, u, e', rfl⟩ := hv _ hq
      show wpAny (model prog w) A (keyLt' oneType' p.1 q.1) (fun r s' => s' = s ∧ r = ltE s.heap p.1 q.1) (fun _ _ => False) s
      rw [e, e', keyLt'_oneType]
      refine oneLt_int ⟨rfl, ?_⟩
      unfold ltE encV encU
      refine decide_eq_decide.mpr ?_
      rw [List.cons_lt_cons_iff, encK_int]
      exact ⟨.inl, fun z => z.elim id fun z => absurd z.2 (List.lt_irrefl _)⟩
    · have hI : IntsAre vs (vs.map iv) := ints_iv fun v hm => by
        obtain ⟨_, i, t, e, _⟩ := hv v hm
        exact ⟨i, t, e⟩
      match vs, hI, h2 with
      | v1 :: v2 :: rest, hI, _ => rw [keyKind_ints hI]; exact wpAny_pure hQ
      | [], _, h => exact absurd h (by decide)
      | [v], _, h => exact absurd h (by simp)
  | str =>
    refine ⟨oneType', fun p q hp hq => ?_, fun h2 Q E hQ => ?_⟩
    · obtain ⟨_, i, t, e, rfl⟩ := hv _ hp
      obtain ⟨_, j, u, e', rfl⟩ := hv _ hq
      show wpAny (model prog w) A (keyLt' oneType' p.1 q.1) (fun r s' => s' = s ∧ r = ltE s.heap p.1 q.1) (fun _ _ => False) s
      rw [e, e', keyLt'_oneType]
      refine oneLt_str ⟨rfl, ?_⟩
      unfold ltE encV encU
      refine decide_eq_decide.mpr ?_
      rw [List.cons_lt_cons_iff, encK_str]
      exact ⟨.inl, fun z => z.elim id fun z => absurd z.2 (List.lt_irrefl _)⟩
    · have hI : StrsAre vs (vs.map strOf) := strsAre_map vs fun v hm => by
        obtain ⟨_, i, t, e, _⟩ := hv v hm
        exact ⟨i, t, e⟩
      match vs, hI, h2 with
      | v1 :: v2 :: rest, hI, _ => rw [keyKind_strs hI]; exact wpAny_pure hQ
      | [], _, h => exact absurd h (by decide)
      | [v], _, h => exact absurd h (by simp)
  | tup ts =>
    refine ⟨tuples' true, fun p q hp hq => ?_, fun h2 Q E hQ => ?_⟩
    · obtain ⟨ks, hx⟩ := hv _ hp
      obtain ⟨ls, hy⟩ := hv _ hq
      have ex := hx.enc
      have ey := hy.enc
      obtain ⟨a, xs, e, ⟨o, ho, hc, n, hd⟩, rx, hkx, _⟩ := hx
      obtain ⟨a', ys, e', ⟨o', ho', hc', n', hd'⟩, ry, hky, _⟩ := hy
      show wpAny (model prog w) A (keyLt' (tuples' true) p.1 q.1) (fun r s' => s' = s ∧ r = ltE s.heap p.1 q.1) (fun _ _ => False) s
      unfold ltE
      rw [ex, ey, e, e']
      refine PySem.W.kat_lt ho hd ho' hd' ?_
      have hl : decide (xs.toArray.size < ys.toArray.size) = false := by
        refine decide_eq_false ?_
        rw [List.size_toArray, List.size_toArray, Vals.len2 rx ry (hkx.trans hky.symm)]
        omega
      rw [hl]
      exact lex_keys 0 (by simpa using rx) (by simpa using ry) (hkx.trans hky.symm) ⟨rfl, rfl⟩
    · have hf : ∀ l : List Value, (∀ v ∈ l, ∃ ks, IsOrd s.heap (.tup ts) v ks) → ∃ fs, PySem.W.KatTups s.heap l fs ∧ fs.length = l.length ∧ ∀ f ∈ fs, ∃ k : Key, RelV (kV k) f ∧ some (kB k) = ts.head? := by
        intro l
        induction l with
        | nil => intro _; exact ⟨[], .nil, rfl, fun f h => by cases h⟩
        | cons v l ih =>
          intro h
          obtain ⟨fs, h1, h2, h3⟩ := ih fun u hu => h u (List.mem_cons_of_mem _ hu)
          obtain ⟨ks, a, xs, rfl, ⟨o, ho, hc, n, hd⟩, rx, hk, hne⟩ := h v List.mem_cons_self
          match ks, xs, rx, hk with
          | [], [], _, hk => exact absurd hk.symm hne
          | k :: ks, f :: xs, .cons r1 r2, hk =>
            refine ⟨f :: fs, .cons ho hc hd (by simp) h1, by rw [List.length_cons, List.length_cons, h2], fun g hg => ?_⟩
            rcases List.mem_cons.mp hg with rfl | hg
            · exact ⟨k, r1, by rw [← hk]; rfl⟩
            · exact h3 g hg
      obtain ⟨fs, h1, h2', h3⟩ := hf vs hv
      have hpos : 0 < fs.length := by omega
      cases ht : ts.head? with
      | none =>
        match fs, hpos, h3 with
        | f :: fs, _, h3 => obtain ⟨k, _, e⟩ := h3 f (by simp); rw [ht] at e; cases e
      | some b =>
        cases b with
        | false =>
          refine PySem.W.kat_kind (T := .type "int") h1 hpos (fun f hm => ?_) (by rfl) ?_
          · obtain ⟨k, r, e⟩ := h3 f hm
            rw [ht] at e
            cases k with
            | inl i => obtain ⟨t, rfl⟩ := (show ∃ t, f = Value.int i t from r); exact PySem.W.Looks.now
            | inr x => cases e
          · have e : (Value.type "int" != Value.type "tuple") = true := by first | decide +kernel | rfl | decide
            rw [e]; exact hQ
        | true =>
          refine PySem.W.kat_kind (T := .type "str") h1 hpos (fun f hm => ?_) (by rfl) ?_
          · obtain ⟨k, r, e⟩ := h3 f hm
            rw [ht] at e
            cases k with
            | inl i => cases e
            | inr x => obtain ⟨t, rfl⟩ := (show ∃ t, f = Value.str x t from r); exact PySem.W.Looks.of_pure rfl
          · have e : (Value.type "str" != Value.type "tuple") = true := by first | decide +kernel | rfl | decide
            rw [e]; exact hQ
theorem enc_keep {h h' : Heap} {sh : Sh} {vs : List Value} (hv : ∀ v ∈ vs, ∃ ks, IsOrd h sh v ks) (k : ∀ b o, h.get? b = some o → o.cls = .type "tuple" → h'.get? b = some o) : ∀ v ∈ vs, encV h' v = encV h v := fun v hm => by
  obtain ⟨ks, hx⟩ := hv v hm
  rw [hx.enc, (hx.keeps k).enc]
theorem ord_sortable {a : Addr} {sh : Sh} {vs : List Value} (h2 : 2 ≤ vs.length) (hv : ∀ v ∈ vs, ∃ ks, IsOrd s.heap sh v ks) (ha : ∀ o, s.heap.get? a = some o → o.cls ≠ .type "tuple") : SortableO prog w A s a vs (ltE s.heap) := by
  intro h' keep
  have kp : ∀ b o, s.heap.get? b = some o → o.cls = .type "tuple" → h'.get? b = some o := fun b o e c => keep b o (fun z => by subst z; exact ha o e c) e
  obtain ⟨κ, h1, h3⟩ := ord_cmp (prog := prog) (w := w) (A := A) (s := { s with heap := h' }) (sh := sh) (vs := vs) fun v hm => by
    obtain ⟨ks, hx⟩ := hv v hm
    exact ⟨ks, hx.keeps kp⟩
  refine ⟨κ, fun Q E hq => h3 h2 Q E hq, fun p q hp hq => ?_⟩
  have e1 := enc_keep hv kp _ hp
  have e2 := enc_keep hv kp _ hq
  have := h1 p q hp hq
  unfold lt2 ltE at this ⊢
  dsimp only at this e1 e2 ⊢
  rw [e1, e2] at this
  exact this
/-- sorted(x), x's items collected first -/
theorem sorted_col {l : Addr} {Q : Value → Shared → Prop} (h : wpAny (model prog w) A.in1 (collect (.ref l)) (fun vs s1 => ∃ sh, vs.length ≤ sizeLine ∧ (∀ v ∈ vs, ∃ ks, IsOrd s1.heap sh v ks) ∧
      ∀ (out : List Value) (h' : Heap) (d : Addr), out.Perm vs → out.Pairwise (fun x y => ¬ encV s1.heap y < encV s1.heap x) → (∀ b o, s1.heap.get? b = some o → h'.get? b = some o) → s1.heap.objs.size ≤ d → (∃ n, h'.get? d = some (seqObj "list" out.toArray n)) → Q (.ref d) { s1 with heap := h' }) E s) :
    wpAny (model prog w) A (call (.builtin "sorted") [.ref l]) Q E s := by
  refine Calls.call_function_entry kind_sorted plain_sorted entry_sorted (args_sorted1 _) ?_
  unfold Builtin.«sorted»
  refine wpAny_bind (m := checkCount "sorted" 1 1 _) (wpAny_pure ?_)
  refine wpAny_bind (wpAny_mono h (fun vs s1 ⟨sh, hz, hv, hq⟩ => ?_) fun _ _ x => x)
  refine wpAny_bind (wpAny_newList ?_ hz)
  have hoL : (s1.heap.push (seqObj "list" vs.toArray 0)).get? s1.heap.objs.size = some (seqObj "list" vs.toArray 0) := Heap.get?_push_size _ rfl
  have kp : ∀ b o, s1.heap.get? b = some o → (s1.heap.push (seqObj "list" vs.toArray 0)).get? b = some o := fun b o q => Heap.get?_push_of_some _ q
  have hv1 : ∀ v ∈ vs, ∃ ks, IsOrd (s1.heap.push (seqObj "list" vs.toArray 0)) sh v ks := fun v hm => by
    obtain ⟨ks, hx⟩ := hv v hm
    exact ⟨ks, hx.keeps fun b o e _ => kp b o e⟩
  have ek := enc_keep hv fun b o e _ => kp b o e
  refine wpAny_bind (wpAny_holding (wpAny_call_entry slot_list_sort ⟨_, hoL, rfl⟩ entry_list_sort (list_sort_ord (swo_enc _) hoL hz (fun h2 => ord_sortable (s := { s1 with heap := s1.heap.push (seqObj "list" vs.toArray 0) }) h2 hv1 fun o e => ?_) fun out hs hb => ⟨_, rfl, ?_⟩) (args_list_sort _)))
  · have e' : some o = some (seqObj "list" vs.toArray 0) := e.symm.trans hoL
    cases e'
    intro c
    exact absurd (Value.type.inj c) (by decide)
  · obtain ⟨c, hc⟩ := sortedHeap_at (vs := vs) (out := out.toArray) hoL
    refine wpAny_pure ⟨_, rfl, hq out _ s1.heap.objs.size hb.perm ?_ (fun b o e => ?_) (Nat.le_refl _) ⟨c, hc⟩⟩
    · refine List.Pairwise.imp_of_mem (fun {x y} hx hy hxy => ?_) hs
      have := of_decide_eq_false hxy
      rw [ek _ (hb.perm.mem_iff.mp hx), ek _ (hb.perm.mem_iff.mp hy)] at this
      exact this
    · have hlt : b < s1.heap.objs.size := Heap.lt_size e
      rw [sortedHeap_old (Nat.ne_of_lt hlt) (by rw [size_push']; exact Nat.lt_succ_of_lt hlt)]
      exact kp b o e
end
end DL
end
section
/-! DS1: sorted as a rule over data. -/
namespace DL
open PySem PySem.Spec PyProof.Rows L2 SrtO
section
variable {prog : Program} {w : World} {A : Around} {E : Value → Shared → Prop} {s : Shared}
theorem collect_tup {l : Addr} {vs : List Value} {Q : List Value → Shared → Prop} (hl : IsTup s.heap l vs.toArray)
    (h : Q vs { s with heap := (s.heap.push (seqObj "list" #[] 0)).update s.heap.objs.size (Obj.mapSeq (· ++ vs.toArray)) }) (hsz : vs.length ≤ sizeLine) :
    wpAny (model prog w) A (collect (.ref l)) Q E s := by
  obtain ⟨o, ho, hc, n, hd⟩ := id hl
  unfold collect
  refine wpAny_bind (wpAny_runValue (codeAny_builtin entry_proto_collect' ?_))
  show wpAny _ _ (do again (.builtin "list.__iadd__" ⟨[← newList [], .ref l], []⟩)) _ _ s
  refine wpAny_bind (wpAny_newList (wpAny_pure ⟨Code.quiet_builtin _ (by decide +kernel), codeAny_builtin entry_list_iadd' ?_⟩))
  show wpAny _ _ (Builtin.List.listExtendWith (.ref s.heap.objs.size) (.ref l) (.ref s.heap.objs.size)) _ _ { s with heap := s.heap.push (seqObj "list" #[] 0) }
  unfold Builtin.List.listExtendWith
  have ho' : (s.heap.push (seqObj "list" #[] 0)).get? l = some o := Heap.get?_push_of_some _ ho
  refine wpAny_bind (wpAny_typeOf (T := "tuple") ⟨o, ho', hc⟩ ?_)
  have ht : (Value.type "tuple" == Value.type "tuple") = true := by rfl
  rw [if_pos (by rw [ht]; simp)]
  refine wpAny_bind (listItems_at ho' hd ?_)
  refine wpAny_bind (listItems_at (xs := #[]) (n := 0) (Heap.get?_push_size _ rfl) rfl ?_)
  rw [if_neg (by simp)]
  refine wpAny_bind (listUpdate_at (xs := #[]) (n := 0) (Heap.get?_push_size _ rfl) rfl ?_ (Nat.zero_le _) (by show (#[] ++ vs.toArray).size ≤ sizeLine + 1; simp only [Array.size_append, List.size_toArray, List.length_nil]; omega))
  refine wpAny_pure ?_
  show wpAny (model prog w) A (do
      let o ← load s.heap.objs.size
      match o.data with
      | .seq xs _ => pure xs.toList
      | _ => unsupported "internal:collect") Q E { s with heap := (s.heap.push (seqObj "list" #[] 0)).update s.heap.objs.size (Obj.mapSeq (· ++ vs.toArray)) }
  refine wpAny_bind (wpAny_load (get?_update_seq (Heap.get?_push_size _ rfl) _) ?_)
  show wpAny _ _ (pure ((#[] : Array Value) ++ vs.toArray).toList) Q E _
  rw [show ((#[] : Array Value) ++ vs.toArray).toList = vs by simp]
  exact wpAny_pure h
end
theorem vals_perm' {its out : List Value} (p : out.Perm its) : ∀ {xs : List V}, Vals xs its → ∃ ys, ys.Perm xs ∧ Vals ys out := by
  induction p with
  | nil => intro xs r; cases r; exact ⟨[], .refl _, .nil⟩
  | cons a p ih =>
    intro xs r
    cases r with
    | cons r1 r2 =>
      obtain ⟨ys, h1, h2⟩ := ih r2
      exact ⟨_ :: ys, h1.cons _, .cons r1 h2⟩
  | swap a b l =>
    intro xs r
    cases r with
    | cons r1 r2 =>
      cases r2 with
      | cons r2 r3 => exact ⟨_ :: _ :: _, List.Perm.swap _ _ _, .cons r2 (.cons r1 r3)⟩
  | trans p q ih1 ih2 =>
    intro xs r
    obtain ⟨ys, h1, h2⟩ := ih2 r
    obtain ⟨zs, h3, h4⟩ := ih1 h2
    exact ⟨zs, h3.trans h1, h4⟩
theorem vals_pairwise {R : Value → Value → Prop} {S : V → V → Prop} (k : ∀ x u y v, RelV x u → RelV y v → R u v → S x y) : ∀ {ys : List V} {out : List Value}, Vals ys out → out.Pairwise R → ys.Pairwise S
  | [], [], _, _ => .nil
  | y :: ys, u :: out, .cons a b, h => by
    obtain ⟨h1, h2⟩ := List.pairwise_cons.mp h
    refine List.pairwise_cons.mpr ⟨fun z hz => ?_, vals_pairwise k b h2⟩
    have go : ∀ {ys : List V} {out : List Value}, Vals ys out → (∀ v ∈ out, R u v) → z ∈ ys → S y z := by
      intro ys out r
      induction r with
      | nil => intro _ h; cases h
      | cons c d ih =>
        intro h hz
        rcases List.mem_cons.mp hz with rfl | hz
        · exact k _ _ _ _ a c (h _ (by simp))
        · exact ih (fun v hv => h v (by simp [hv])) hz
    exact go b h1 hz
/-- what can be sorted, as it lies -/
def OrdX (K : PySem.W.Frag) (H : Hp) (sh : Sh) (x : V) (ks : List Key) : Prop := match sh with
  | .int => ∃ i, x = .int i ∧ ks = [.inl i]
  | .str => ∃ i, x = .str i ∧ ks = [.inr i]
  | .tup ts => ∃ a, x = .ref a ∧ SqT K H a (ks.map kV) ∧ ks.map kB = ts ∧ ts ≠ []
section
variable {X : Cx}
theorem OrdX.at {pins : List (Addr × Obj)} {σ : L2.St} {H : Hp} {s : Shared} (I : Inv X pins σ H s) {sh : Sh} {x : V} {u : Value} {ks : List Key} (r : RelV x u) (h : OrdX X.K H sh x ks) : IsOrd s.heap sh u ks := by
  cases sh with
  | int =>
    obtain ⟨i, rfl, rfl⟩ := h
    obtain ⟨t, rfl⟩ := r
    exact ⟨i, t, rfl, rfl⟩
  | str =>
    obtain ⟨i, rfl, rfl⟩ := h
    obtain ⟨t, rfl⟩ := r
    exact ⟨i, t, rfl, rfl⟩
  | tup ts =>
    obtain ⟨a, rfl, hs, h1, h2⟩ := h
    cases r
    obtain ⟨its, rv, ht, _⟩ := I.tuple hs
    exact ⟨a, its, rfl, ht, rv, h1, h2⟩
def rSortedG (K : PySem.W.Frag) : List V → Hp → VK → Prop := fun vs H Q => ∃ (a : Addr) (xs : List V) (sh : Sh), vs = [.ref a] ∧ (SqL K H a xs ∨ SqT K H a xs) ∧ (∀ x ∈ xs, ∃ ks, OrdX K H sh x ks) ∧
  ∀ (ys : List V) (p : Addr), ys.Perm xs → ys.Pairwise (fun x y => ∀ k l, OrdX K H sh x k → OrdX K H sh y l → ¬ l.map encK < k.map encK) → H p = none → Q (.ref p) (upd H p (.lst ys))
theorem vals_get {P : Value → Prop} {R : V → Prop} (k : ∀ x u, RelV x u → R x → P u) : ∀ {xs : List V} {us : List Value}, Vals xs us → (∀ x ∈ xs, R x) → ∀ u ∈ us, P u
  | [], [], _, _, u, h => by cases h
  | x :: xs, v :: us, .cons a b, hR, u, h => by
    rcases List.mem_cons.mp h with rfl | h
    · exact k _ _ a (hR _ (by simp))
    · exact vals_get k b (fun x hx => hR x (by simp [hx])) u h
theorem cr_sortedG : CallR X (.builtin "sorted") (rSortedG X.K) := by
  intro pins s σ H vs us Q I r h
  obtain ⟨a, xs, sh, rfl, hs, hx, q⟩ := h
  rw [Vals.ref1 r]
  obtain ⟨its, rv, hl, hz⟩ : ∃ its : List Value, Vals xs its ∧ (s.heap.IsList a its.toArray ∨ IsTup s.heap a its.toArray) ∧ xs.length ≤ sizeLine := by
    rcases hs with hs | hs
    · obtain ⟨its, rv, hl, hz⟩ := I.list hs
      exact ⟨its, rv, .inl hl.isList, hz⟩
    · obtain ⟨its, rv, hl, hz⟩ := I.tuple hs
      exact ⟨its, rv, .inr hl, hz⟩
  have hz' : its.length ≤ sizeLine := by rw [← rv.length]; exact hz
  have kp : ∀ b o, s.heap.get? b = some o → ((s.heap.push (seqObj "list" #[] 0)).update s.heap.objs.size (Obj.mapSeq (· ++ its.toArray))).get? b = some o := fun b o e => by
    rw [Heap.get?_update_ne _ _ _ _ (Nat.ne_of_lt (Heap.lt_size e))]
    exact Heap.get?_push_of_some _ e
  have hsz : ((s.heap.push (seqObj "list" #[] 0)).update s.heap.objs.size (Obj.mapSeq (· ++ its.toArray))).objs.size = s.heap.objs.size + 1 := by
    rw [Heap.size_update, size_push']
  have hord : ∀ u ∈ its, ∃ ks, IsOrd ((s.heap.push (seqObj "list" #[] 0)).update s.heap.objs.size (Obj.mapSeq (· ++ its.toArray))) sh u ks := vals_get (fun x u hxu ⟨ks, hk⟩ => ⟨ks, (hk.at I hxu).keeps fun b o e _ => kp b o e⟩) rv hx
  have fin : ∃ sh, its.length ≤ sizeLine ∧ (∀ v ∈ its, ∃ ks, IsOrd ((s.heap.push (seqObj "list" #[] 0)).update s.heap.objs.size (Obj.mapSeq (· ++ its.toArray))) sh v ks) ∧
      ∀ (out : List Value) (h' : Heap) (d : Addr), out.Perm its → out.Pairwise (fun x y => ¬ encV ((s.heap.push (seqObj "list" #[] 0)).update s.heap.objs.size (Obj.mapSeq (· ++ its.toArray))) y < encV ((s.heap.push (seqObj "list" #[] 0)).update s.heap.objs.size (Obj.mapSeq (· ++ its.toArray))) x) →
        (∀ b o, ((s.heap.push (seqObj "list" #[] 0)).update s.heap.objs.size (Obj.mapSeq (· ++ its.toArray))).get? b = some o → h'.get? b = some o) → ((s.heap.push (seqObj "list" #[] 0)).update s.heap.objs.size (Obj.mapSeq (· ++ its.toArray))).objs.size ≤ d → (∃ n, h'.get? d = some (seqObj "list" out.toArray n)) →
        EP X pins σ Q (.ref d) { s with heap := h' } := by
    refine ⟨sh, hz', hord, fun out h' d hp hw k hd ⟨n, hn⟩ => ?_⟩
    obtain ⟨ys, p1, p2⟩ := vals_perm' hp rv
    have hd' : s.heap.objs.size ≤ d := by rw [hsz] at hd; omega
    refine ⟨.ref d, upd H d (.lst ys), I.laid (t' := s.toks) (fun b o e => k b o (kp b o e)) hd' ⟨by rw [p1.length_eq]; exact hz, out, n, p2, hn⟩, rfl, q ys d p1 ?_ (I.hok.fresh hd')⟩
    refine vals_pairwise (R := fun x y => ¬ encV ((s.heap.push (seqObj "list" #[] 0)).update s.heap.objs.size (Obj.mapSeq (· ++ its.toArray))) y < encV ((s.heap.push (seqObj "list" #[] 0)).update s.heap.objs.size (Obj.mapSeq (· ++ its.toArray))) x) (fun x u y v r1 r2 hr k l hk hl => ?_) p2 hw
    have e1 := ((hk.at I r1).keeps fun b o e _ => kp b o e).enc
    have e2 := ((hl.at I r2).keeps fun b o e _ => kp b o e).enc
    rw [e1, e2] at hr
    exact hr
  refine sorted_col ?_
  rcases hl with hl | hl
  · exact collect_list hl fin hz'
  · exact collect_tup hl fin hz'
end
/-! ### over data -/
def keysD : D → List Key
  | .int i => [.inl i]
  | .str s => [.inr s]
  | .tup ds => (ksD ds).getD []
  | _ => []
def shD : D → Option Sh
  | .int _ => some .int
  | .str _ => some .str
  | .tup ds => match ksD ds with
    | some (k :: ks) => some (.tup ((k :: ks).map kB))
    | _ => none
  | _ => none
def encD (d : D) : List (List Int) := (keysD d).map encK
def sortD (xs : List D) : List D := xs.mergeSort fun x y => decide (¬ encD y < encD x)
/-- all of one kind -/
def oneSh (xs : List D) : Bool := match xs with
  | [] => true
  | x :: xs => (shD x).isSome && xs.all fun y => decide (shD y = shD x)
def sortP : PL := fun ds st => match ds with
  | [d] => (seqS d st).bind fun xs => if oneSh xs = true then some (sortD xs) else none
  | _ => none
theorem kD_inj : ∀ {a b : D} {k : Key}, kD a = some k → kD b = some k → a = b := fun {a b k} h1 h2 => by
  cases a <;> simp only [kD, Option.some.injEq, reduceCtorEq] at h1 <;> subst h1 <;> cases b <;> simp only [kD, Option.some.injEq, reduceCtorEq, Sum.inl.injEq, Sum.inr.injEq] at h2 <;> rw [h2]
theorem ksD_cons {d : D} {ds : List D} {ks : List Key} (h : ksD (d :: ds) = some ks) : ∃ k ks', ks = k :: ks' ∧ kD d = some k ∧ ksD ds = some ks' := by
  unfold ksD at h
  split at h
  · rename_i k ks' h1 h2
    cases h
    exact ⟨k, ks', rfl, h1, h2⟩
  · cases h
theorem ksD_inj : ∀ {a b : List D} {ks : List Key}, ksD a = some ks → ksD b = some ks → a = b
  | [], [], _, _, _ => rfl
  | [], d :: ds, ks, h1, h2 => by
    cases h1
    obtain ⟨_, _, e, _⟩ := ksD_cons h2
    cases e
  | d :: ds, [], ks, h1, h2 => by
    cases h2
    obtain ⟨_, _, e, _⟩ := ksD_cons h1
    cases e
  | d :: ds, e :: es, ks, h1, h2 => by
    obtain ⟨k, ks1, rfl, a1, a2⟩ := ksD_cons h1
    obtain ⟨k2, ks2, e, b1, b2⟩ := ksD_cons h2
    cases e
    rw [kD_inj a1 b1, ksD_inj a2 b2]
theorem ks_vals {K : PySem.W.Frag} {cl : Str → Option Addr} {F : Hp} {ι : List Addr} : ∀ {vs : List V} {ds : List D} {ks : List Key}, RVs K cl F ι vs ds → ksD ds = some ks → vs = ks.map kV
  | _, _, _, .nil, h => by cases h; rfl
  | _, _, _, .cons r t, h => by
    obtain ⟨k, ks', rfl, h1, h2⟩ := ksD_cons h
    rw [List.map_cons, ← kD_val r h1, ← ks_vals t h2]
theorem shD_tup {ds : List D} {sh : Sh} (h : shD (.tup ds) = some sh) : ∃ k ks, ksD ds = some (k :: ks) ∧ sh = .tup ((k :: ks).map kB) := by
  have h : (match ksD ds with
    | some (k :: ks) => some (Sh.tup ((k :: ks).map kB))
    | _ => none) = some sh := h
  split at h
  · rename_i k ks e
    cases h
    exact ⟨k, ks, e, rfl⟩
  · cases h
theorem ordX_of {K : PySem.W.Frag} {cl : Str → Option Addr} {F H : Hp} {ι : List Addr} {st : Store} (S : Sim K cl F ι H st) {x : V} {d : D} {sh : Sh} (r : RV K cl F ι x d) (h : shD d = some sh) : OrdX K H sh x (keysD d) := by
  cases d with
  | int i => cases h; cases r; exact ⟨i, rfl, rfl⟩
  | str i => cases h; cases r; exact ⟨i, rfl, rfl⟩
  | tup ds =>
    obtain ⟨a, vs, rfl, s, q⟩ := (RB.of r : RB K cl F ι H x (.tup ds)).tuple S
    obtain ⟨k, ks, e, rfl⟩ := shD_tup h
    have ek : keysD (.tup ds) = k :: ks := by
      show (ksD ds).getD [] = _
      rw [e, Option.getD_some]
    rw [ek]
    exact ⟨a, rfl, by rw [← ks_vals q e]; exact s, rfl, by simp⟩
  | _ => cases h
theorem encD_inj {a b : D} {sh : Sh} (ha : shD a = some sh) (hb : shD b = some sh) (h : encD a = encD b) : a = b := by
  have hk : keysD a = keysD b := enc_inj h
  cases a with
  | int i =>
    cases ha
    cases b with
    | int j => simp only [keysD, List.cons.injEq, Sum.inl.injEq, and_true] at hk; rw [hk]
    | str _ => cases hb
    | tup ds => obtain ⟨_, _, _, e⟩ := shD_tup hb; cases e
    | _ => cases hb
  | str i =>
    cases ha
    cases b with
    | str j => simp only [keysD, List.cons.injEq, Sum.inr.injEq, and_true] at hk; rw [hk]
    | int _ => cases hb
    | tup ds => obtain ⟨_, _, _, e⟩ := shD_tup hb; cases e
    | _ => cases hb
  | tup ds =>
    obtain ⟨k, ks, e, rfl⟩ := shD_tup ha
    cases b with
    | int _ => cases hb
    | str _ => cases hb
    | tup es =>
      obtain ⟨k2, ks2, e2, _⟩ := shD_tup hb
      simp only [keysD, e, e2, Option.getD_some] at hk
      rw [hk] at e
      rw [ksD_inj e e2]
    | _ => cases hb
  | _ => cases ha
theorem le_trans' (a b c : D) (h1 : decide (¬ encD b < encD a) = true) (h2 : decide (¬ encD c < encD b) = true) : decide (¬ encD c < encD a) = true :=
  decide_eq_true (List.not_lt.mpr (List.le_trans (List.not_lt.mp (of_decide_eq_true h1)) (List.not_lt.mp (of_decide_eq_true h2))))
theorem le_total' (a b : D) : (decide (¬ encD b < encD a) || decide (¬ encD a < encD b)) = true := by
  rw [Bool.or_eq_true, decide_eq_true_eq, decide_eq_true_eq]
  by_cases h : encD b < encD a
  · exact .inr fun h2 => List.lt_irrefl _ (List.lt_trans h h2)
  · exact .inl h
theorem sortD_perm (xs : List D) : (sortD xs).Perm xs := List.mergeSort_perm _ _
theorem sortD_sorted (xs : List D) : (sortD xs).Pairwise fun x y => ¬ encD y < encD x := (List.pairwise_mergeSort (le := fun x y => decide (¬ encD y < encD x)) le_trans' le_total' xs).imp fun h => of_decide_eq_true h
theorem oneSh_all {xs : List D} (h : oneSh xs = true) : ∃ sh, ∀ x ∈ xs, shD x = some sh := by
  cases xs with
  | nil => exact ⟨.int, fun x hx => by cases hx⟩
  | cons x xs =>
    simp only [oneSh, Bool.and_eq_true, List.all_eq_true, decide_eq_true_eq] at h
    obtain ⟨sh, e⟩ := Option.isSome_iff_exists.mp h.1
    refine ⟨sh, fun y hy => ?_⟩
    rcases List.mem_cons.mp hy with rfl | hy
    · exact e
    · rw [h.2 y hy, e]
/-- there is just one sorted list -/
theorem sortD_uniq {xs ys : List D} {sh : Sh} (hs : ∀ x ∈ xs, shD x = some sh) (p : ys.Perm xs) (w : ys.Pairwise fun x y => ¬ encD y < encD x) : ys = sortD xs := by
  refine List.Perm.eq_of_pairwise (le := fun x y => ¬ encD y < encD x) (fun a b ha hb h1 h2 => ?_) w (sortD_sorted xs) (p.trans (sortD_perm xs).symm)
  exact encD_inj (hs a (p.mem_iff.mp ha)) (hs b ((sortD_perm xs).mem_iff.mp hb)) (List.le_antisymm (List.not_lt.mp h1) (List.not_lt.mp h2))
theorem RVs.perm' {K : PySem.W.Frag} {cl : Str → Option Addr} {F : Hp} {ι : List Addr} {vs ys : List V} (p : ys.Perm vs) : ∀ {ds : List D}, RVs K cl F ι vs ds → ∃ es, es.Perm ds ∧ RVs K cl F ι ys es := by
  induction p with
  | nil => intro ds r; cases r; exact ⟨[], .refl _, .nil⟩
  | cons a p ih =>
    intro xs r
    cases r with
    | cons r1 r2 =>
      obtain ⟨es, h1, h2⟩ := ih r2
      exact ⟨_ :: es, h1.cons _, .cons r1 h2⟩
  | swap a b l =>
    intro xs r
    cases r with
    | cons r1 r2 =>
      cases r2 with
      | cons r2 r3 => exact ⟨_ :: _ :: _, List.Perm.swap _ _ _, .cons r2 (.cons r1 r3)⟩
  | trans p q ih1 ih2 =>
    intro xs r
    obtain ⟨ys, h1, h2⟩ := ih2 r
    obtain ⟨zs, h3, h4⟩ := ih1 h2
    exact ⟨zs, h3.trans h1, h4⟩
theorem RVs.pairwise {K : PySem.W.Frag} {cl : Str → Option Addr} {F : Hp} {ι : List Addr} {R : V → V → Prop} {S : D → D → Prop} : ∀ {vs : List V} {ds : List D}, RVs K cl F ι vs ds → vs.Pairwise R → (∀ x d y e, d ∈ ds → e ∈ ds → RV K cl F ι x d → RV K cl F ι y e → R x y → S d e) → ds.Pairwise S
  | _, _, .nil, _, _ => .nil
  | _, _, .cons (v := x) (d := d) a b, h, k => by
    obtain ⟨h1, h2⟩ := List.pairwise_cons.mp h
    refine List.pairwise_cons.mpr ⟨fun e he => ?_, RVs.pairwise b h2 fun x' d' y' e' hd he' => k x' d' y' e' (List.mem_cons_of_mem _ hd) (List.mem_cons_of_mem _ he')⟩
    obtain ⟨i, hi⟩ := List.getElem?_of_mem he
    obtain ⟨v, hv, rv⟩ := b.get hi
    exact k x d v e (by simp) (List.mem_cons_of_mem _ he) a rv (h1 v (List.mem_of_getElem? hv))
section
variable {X : Cx} {cl : Str → Option Addr}
theorem RVs.mem {K : PySem.W.Frag} {F : Hp} {ι : List Addr} : ∀ {vs : List V} {ds : List D}, RVs K cl F ι vs ds → ∀ v ∈ vs, ∃ d ∈ ds, RV K cl F ι v d
  | _, _, .nil, v, h => by cases h
  | _, _, .cons r t, v, h => by
    rcases List.mem_cons.mp h with rfl | h
    · exact ⟨_, by simp, r⟩
    · obtain ⟨d, hd, q⟩ := RVs.mem t v h
      exact ⟨d, List.mem_cons_of_mem _ hd, q⟩
theorem c_sorted : CallR X (.builtin "sorted") (rNL X.K cl sortP) := weakC cr_sortedG fun vs H Q ⟨F, ι, st, ds, z, S, r, e, k⟩ => by
  unfold sortP at e
  split at e
  · obtain ⟨v, rfl, rv⟩ := rbs1 r
    obtain ⟨xs, e1, e2⟩ := Option.bind_eq_some_iff.mp e
    obtain ⟨a, us, rfl, s, q⟩ := rv.seqS S e1
    split at e2
    · rename_i hs
      cases e2
      obtain ⟨sh, hsh⟩ := oneSh_all hs
      refine ⟨a, us, sh, rfl, s, fun x hx => ?_, fun ys p hp hw hn => ?_⟩
      · obtain ⟨d, hd, rd⟩ := q.mem x hx
        exact ⟨_, ordX_of S rd (hsh d hd)⟩
      · obtain ⟨es, h1, h2⟩ := q.perm' hp
        have : es = sortD xs := sortD_uniq hsh h1 (h2.pairwise hw fun x d y e hd he r1 r2 hr => hr _ _ (ordX_of S r1 (hsh d (h1.mem_iff.mp hd))) (ordX_of S r2 (hsh e (h1.mem_iff.mp he))))
        subst this
        obtain ⟨y, T, o⟩ := ownNew S hn h2
        exact k F _ p y T o hn
    · cases e2
  · cases e
end
end DL
end
section
/-! DS2: sets of ints and texts: made of a list or a tuple, counted, sorted. -/
namespace DL
open PySem PySem.Spec PyProof.Rows L2
instance decMemK (k : Key) : (l : List Key) → Decidable (k ∈ l)
  | [] => Decidable.isFalse (by simp)
  | x :: xs => if h : k = x then Decidable.isTrue (by rw [h]; exact List.mem_cons_self) else match decMemK k xs with
    | Decidable.isTrue h2 => Decidable.isTrue (List.mem_cons_of_mem _ h2)
    | Decidable.isFalse h2 => Decidable.isFalse fun z => (List.mem_cons.mp z).elim h h2
def keyM : Value → Option Key
  | .int k _ => some (.inl k)
  | .str x _ => some (.inr x)
  | _ => none
theorem keyM_of {k : Key} {u : Value} (r : RelV (kV k) u) : keyM u = some k := by
  cases k with
  | inl i => obtain ⟨t, rfl⟩ := (show ∃ t, u = Value.int i t from r); rfl
  | inr x => obtain ⟨t, rfl⟩ := (show ∃ t, u = Value.str x t from r); rfl
theorem keyM_back {k : Key} {u : Value} (h : keyM u = some k) : RelV (kV k) u := by
  cases u <;> simp only [keyM, Option.some.injEq, reduceCtorEq] at h
  · subst h; exact ⟨_, rfl⟩
  · subst h; exact ⟨_, rfl⟩
theorem key_scan {k : Key} {u : Value} (r : RelV (kV k) u) : u.scannable = true := by
  cases k with
  | inl i => obtain ⟨t, rfl⟩ := (show ∃ t, u = Value.int i t from r); rfl
  | inr x => obtain ⟨t, rfl⟩ := (show ∃ t, u = Value.str x t from r); rfl
section
variable (P : Program) (w : World)
def GoodM (e : Int × Value) : Prop := ∃ k, RelV (kV k) e.2 ∧ e.1 = (mixKind P w).hash k
def keyE (e : Int × Value) : Option Key := keyM e.2
/-- the set of keys at a: S its members, n their number; its table rises and can be walked -/
def SetM (h : Heap) (a : Addr) (S : Key → Bool) (n : Nat) : Prop :=
  ∃ o es ep t, h.get? a = some o ∧ o.ExactSet ∧ o.data = .set es ep t ∧ (∀ e ∈ es.toList, GoodM P w e) ∧ (es.toList.map keyE).Nodup ∧ (∀ k, S k = true ↔ some k ∈ es.toList.map keyE) ∧
    es.size < scanBound ∧ t.fits es.size = true ∧ es.size = n ∧ Ris t.place.toList ∧ (w.params.followText "set-order" = true ∨ t.led = true)
end
section
variable {P : Program} {w : World} {h h' : Heap} {a : Addr} {S : Key → Bool} {n : Nat}
theorem SetM.at (R : SetM P w h a S n) (k : ∀ o, h.get? a = some o → h'.get? a = some o) : SetM P w h' a S n := by
  obtain ⟨o, es, ep, t, ho, r⟩ := R
  exact ⟨o, es, ep, t, k o ho, r⟩
theorem SetM.congr {S' : Key → Bool} {n' : Nat} (R : SetM P w h a S n) (e : ∀ k, S' k = S k) (e2 : n' = n) : SetM P w h a S' n' := by
  have q : S' = S := funext e
  rw [q, e2]; exact R
theorem goodM_is {e : Int × Value} (g : GoodM P w e) (k : Key) : (mixKind P w).is k e.2 = true ↔ keyE e = some k := by
  obtain ⟨k0, h1, _⟩ := g
  have e0 : keyE e = some k0 := keyM_of h1
  constructor
  · intro q
    rw [e0, (mixKind P w).inj _ _ _ (kV_is h1) q]
  · intro q
    rw [e0] at q
    cases q
    exact kV_is h1
theorem goodM_elems {l : List (Int × Value)} (g : ∀ e ∈ l, GoodM P w e) : ElemsOf (mixKind P w) l := fun e he => by
  obtain ⟨k, h1, h2⟩ := g e he
  exact ⟨⟨k, kV_is h1, h2⟩, key_scan h1⟩
theorem goodM_mem {l : List (Int × Value)} (g : ∀ e ∈ l, GoodM P w e) (k : Key) : some k ∈ l.map keyE ↔ ∃ e ∈ l, (mixKind P w).is k e.2 = true := by
  rw [List.mem_map]
  constructor
  · rintro ⟨e, he, q⟩
    exact ⟨e, he, (goodM_is (g e he) k).2 q⟩
  · rintro ⟨e, he, q⟩
    exact ⟨e, he, (goodM_is (g e he) k).1 q⟩
end
section
variable {P : Program} {w : World} {A : Around} {E : Value → Shared → Prop} {s : Shared} {a : Addr} {S : Key → Bool} {n : Nat}
theorem setM_add_tail {g : Bool → Sem Unit} (hg : ∀ (b : Bool) (s₁ : Shared) (Q' : Unit → Shared → Prop), Q' () s₁ → wpAny (model P w) A (g b) Q' E s₁)
    {o : Obj} {es : Array (Int × Value)} {ep : Nat} {t : SetTable} (ho : s.heap.get? a = some o) (hex : o.ExactSet) (hd : o.data = .set es ep t)
    {es1 : Array (Int × Value)} {t2 : SetTable} {S' : Key → Bool} (g1 : ∀ e ∈ es1.toList, GoodM P w e) (nd1 : (es1.toList.map keyE).Nodup) (m1 : ∀ k, S' k = true ↔ some k ∈ es1.toList.map keyE)
    (hb1 : es1.size < scanBound) (hf2 : t2.fits es1.size = true) (hr : Ris t2.place.toList) (hl : w.params.followText "set-order" = true ∨ t2.led = true) {wasDummy : Bool} {R : Option Bool → Shared → Prop}
    (hR : ∀ h', Heap.SameBut a s.heap h' → SetM P w h' a S' es1.size → R (some true) { s with heap := h' }) :
    wpAny (model P w) A (do
        storeSet a es1 t2
        if (!wasDummy && t2.tooFull) = true then do
            g (relayAll t2 es1 (SetTable.grown es1.size)).2.2
            storeSet a (relayAll t2 es1 (SetTable.grown es1.size)).1 (relayAll t2 es1 (SetTable.grown es1.size)).2.1
            pure (some true)
          else pure (some true)) R E s := by
  refine wpAny_bind (wpAny_storeSet_of ho hd ?_ (fits_of_scanBound hb1))
  have ho1 := store_at (es' := es1) (t' := t2) ho hd
  have sb1 := Heap.SameBut.update s.heap a (Obj.putSet es1 t2)
  split
  · have pm := relayAll_perm t2 es1 (SetTable.grown es1.size)
    have hf3 := relayAll_fits t2 es1 (SetTable.grown es1.size)
    have hr3 := relayAll_ris t2 es1 (SetTable.grown es1.size)
    have hl3 := relayAll_led t2 es1 (SetTable.grown es1.size)
    generalize relayAll t2 es1 (SetTable.grown es1.size) = Z at pm hf3 hr3 hl3 ⊢
    obtain ⟨es2, t3, gave⟩ := Z
    dsimp only at pm hf3 hr3 hl3 ⊢
    have hsz : es2.size = es1.size := by rw [← Array.length_toList, pm.length_eq, Array.length_toList]
    have hb2 : es2.size < scanBound := by rw [hsz]; exact hb1
    refine wpAny_bind (hg _ _ _ ?_)
    refine wpAny_bind (wpAny_storeSet_of ho1 rfl ?_ (fits_of_scanBound hb2))
    have ho2 := store_at (es' := es2) (t' := t3) ho1 rfl
    refine wpAny_pure (hR _ (sb1.trans (Heap.SameBut.update _ a _)) ?_)
    exact ⟨_, es2, _, t3, ho2, hex, rfl, fun e he => g1 e (pm.mem_iff.mp he), (pm.map keyE).nodup_iff.mpr nd1, fun k => (m1 k).trans (pm.map keyE).mem_iff.symm, hb2, hf3, hsz, hr3,
      hl.imp id fun z => by rw [hl3]; exact z⟩
  · exact wpAny_pure (hR _ sb1 ⟨_, es1, _, t2, ho1, hex, rfl, g1, nd1, m1, hb1, hf2, rfl, hr, hl⟩)
theorem setM_add_hashed {k : Key} {u : Value} {Q : Bool → Shared → Prop} (r : RelV (kV k) u) (R : SetM P w s.heap a S n) (room : n + 1 < scanBound)
    (hQ : ∀ h', Heap.SameBut a s.heap h' → SetM P w h' a (fun j => S j || decide (j = k)) (if S k = true then n else n + 1) → Q (!S k) { s with heap := h' }) :
    wpAny (model P w) A (setAddHashed a u ((mixKind P w).hash k)) Q E s := by
  obtain ⟨o, es, ep, t, ho, hex, hd, g, nd, hm, hb, hf, hn, hr, hl⟩ := R
  have hkey : (mixKind P w).is k u = true := kV_is r
  have hsc : u.scannable = true := key_scan r
  have hel : ElemsOf (mixKind P w) es.toList := goodM_elems g
  have heu : keyM u = some k := keyM_of r
  unfold setAddHashed setAddHashedIn
  refine wpAny_holding (wpAny_bind (wpAny_setState_of ho hd hf ?_))
  dsimp only
  rw [byScan_of hsc hb hel]
  simp only [↓reduceIte]
  unfold setAddByScan
  refine wpAny_bind ?_
  refine wpAny_bind (wpAny_rule ?_)
  refine wpAny_bind (wpAny_setScan_of hkey ho hd hf hel ?_)
  cases hfi : List.findIdx? (fun e => (mixKind P w).is k e.2) es.toList with
  | some j =>
    dsimp only
    obtain ⟨hj, pj, _⟩ := List.findIdx?_eq_some_iff_getElem.mp hfi
    have hSk : S k = true := (hm k).2 ((goodM_mem (P := P) (w := w) g k).2 ⟨es.toList[j], List.getElem_mem hj, pj⟩)
    refine wpAny_pure (wpAny_pure ?_)
    have q := hQ s.heap (Heap.SameBut.refl a s.heap) ⟨o, es, ep, t, ho, hex, hd, g, nd, fun i => by
      rw [Bool.or_eq_true, decide_eq_true_eq, ← hm i]
      exact ⟨fun z => z.elim id (fun e => e ▸ hSk), .inl⟩, hb, hf, by rw [if_pos hSk]; exact hn, hr, hl⟩
    rw [hSk] at q
    exact q
  | none =>
    dsimp only
    have hnk : some k ∉ es.toList.map keyE := fun z => by
      obtain ⟨e, he, q⟩ := (goodM_mem (P := P) (w := w) g k).1 z
      have c := List.findIdx?_eq_none_iff.mp hfi e he
      rw [q] at c
      cases c
    have hSk : S k = false := by
      cases q : S k with
      | false => rfl
      | true => exact absurd ((hm k).1 q) hnk
    have hgw : ∀ (b : Bool) {s₁ : Shared} {Q' : Unit → Shared → Prop}, Q' () s₁ → wpAny (model P w) A (match b with | true => rule "set.scan.the-table-gave-way" | false => pure ()) Q' E s₁ :=
      fun b s₁ Q' q => by cases b <;> first | exact wpAny_pure q | exact wpAny_rule q
    have pm := layNew_perm t es ((mixKind P w).hash k) u
    have hf1 := layNew_fits t es ((mixKind P w).hash k) u
    have hr1 := layNew_ris t es ((mixKind P w).hash k) u hr
    have hl1 := layNew_led t es ((mixKind P w).hash k) u
    generalize layNew t es ((mixKind P w).hash k) u = Z at pm hf1 hr1 hl1 ⊢
    obtain ⟨es1, t1, wasDummy, gave⟩ := Z
    dsimp only at pm hf1 hr1 hl1 ⊢
    rw [Array.toList_push] at pm
    have pc : es1.toList.Perm (((mixKind P w).hash k, u) :: es.toList) := pm.trans (List.perm_append_singleton _ _)
    have pk : (es1.toList.map keyE).Perm (some k :: es.toList.map keyE) := by
      have := pc.map keyE
      rw [List.map_cons] at this
      have e : keyE ((mixKind P w).hash k, u) = some k := heu
      rw [e] at this
      exact this
    have g1 : ∀ e ∈ es1.toList, GoodM P w e := fun e he => by
      rcases List.mem_cons.mp (pc.mem_iff.mp he) with z | z
      · rw [z]; exact ⟨k, r, rfl⟩
      · exact g e z
    have nd1 : (es1.toList.map keyE).Nodup := pk.nodup_iff.mpr (List.nodup_cons.mpr ⟨hnk, nd⟩)
    have m1 : ∀ i, (S i || decide (i = k)) = true ↔ some i ∈ es1.toList.map keyE := fun i => by
      rw [Bool.or_eq_true, decide_eq_true_eq, hm i, pk.mem_iff, List.mem_cons, Option.some.injEq]
      exact Or.comm
    have hsz : es1.size = n + 1 := by rw [← Array.length_toList, pc.length_eq, List.length_cons, Array.length_toList, hn]
    have hb1 : es1.size < scanBound := by rw [hsz]; exact room
    have hled : w.params.followText "set-order" = true ∨ t1.led = true := hl.imp id fun z => by rw [hl1]; exact z
    have fin : ∀ h', Heap.SameBut a s.heap h' → SetM P w h' a (fun j => S j || decide (j = k)) es1.size → Q true { s with heap := h' } := fun h' sb r => by
      have q := hQ h' sb
      rw [hSk] at q
      rw [hsz] at r
      exact q r
    refine wpAny_bind (hgw _ ?_)
    split
    · refine wpAny_bind ?_
      rw [hashByValue_scannable 8 hsc]
      refine wpAny_pure ?_
      refine setM_add_tail ?_ ho hex hd g1 nd1 m1 hb1 ?_ ?_ ?_ ?_
      · intro b s₁ Q' q; cases b <;> first | exact wpAny_pure q | exact wpAny_rule q
      · first | (split <;> first | exact hf1 | exact SetTable.fits_plain_off hf1) | exact hf1
      · first | (split <;> exact hr1) | exact hr1
      · first | (split <;> exact hled) | exact hled
      · intro h' sb r; dsimp only; exact wpAny_pure (fin h' sb r)
    · refine wpAny_bind (wpAny_pure ?_)
      simp only [↓reduceIte]
      refine setM_add_tail ?_ ho hex hd g1 nd1 m1 hb1 hf1 hr1 hled ?_
      · intro b s₁ Q' q; cases b <;> first | exact wpAny_pure q | exact wpAny_rule q
      · intro h' sb r; dsimp only; exact wpAny_pure (fin h' sb r)
/-- the list without what came before -/
def ddK : List Key → List Key → List Key
  | acc, [] => acc
  | acc, k :: ks => if k ∈ acc then ddK acc ks else ddK (acc ++ [k]) ks
theorem ddK_mem : ∀ {ks acc : List Key} {k : Key}, k ∈ ddK acc ks ↔ k ∈ acc ∨ k ∈ ks
  | [], acc, k => by simp [ddK]
  | x :: ks, acc, k => by
    unfold ddK
    by_cases h : x ∈ acc
    · rw [if_pos h, ddK_mem, List.mem_cons]
      exact ⟨fun z => z.elim .inl fun z => .inr (.inr z), fun z => z.elim .inl fun z => z.elim (fun e => .inl (e ▸ h)) .inr⟩
    · rw [if_neg h, ddK_mem, List.mem_append, List.mem_singleton, List.mem_cons]
      exact or_assoc
theorem ddK_nodup : ∀ {ks acc : List Key}, acc.Nodup → (ddK acc ks).Nodup
  | [], acc, h => h
  | x :: ks, acc, h => by
    unfold ddK
    by_cases e : x ∈ acc
    · rw [if_pos e]; exact ddK_nodup h
    · rw [if_neg e]
      refine ddK_nodup ?_
      rw [List.nodup_append]
      exact ⟨h, by simp, fun a ha b hb => by rw [List.mem_singleton.mp hb]; exact fun z => e (z ▸ ha)⟩
theorem ddK_append : ∀ {ks ls acc : List Key}, ddK acc (ks ++ ls) = ddK (ddK acc ks) ls
  | [], ls, acc => rfl
  | x :: ks, ls, acc => by
    show (if x ∈ acc then ddK acc (ks ++ ls) else ddK (acc ++ [x]) (ks ++ ls)) = ddK (if x ∈ acc then ddK acc ks else ddK (acc ++ [x]) ks) ls
    by_cases e : x ∈ acc
    · rw [if_pos e, if_pos e]; exact ddK_append
    · rw [if_neg e, if_neg e]; exact ddK_append
theorem setM_new_at {h : Heap} {a : Addr} (ho : h.get? a = some { cls := .type "set", dict := none, data := .set #[] 0 (.fresh 0 0 (!w.params.followText "set-order")) }) : SetM P w h a (fun j => decide (j ∈ ddK [] [])) 0 :=
  ⟨_, #[], 0, _, ho, ⟨rfl, rfl, rfl⟩, rfl, (fun e he => by simp at he), (by simp), (fun k => by simp [ddK]), (by decide), (by rfl), rfl, List.Pairwise.nil, by
    show _ ∨ (!w.params.followText "set-order") = true
    cases w.params.followText "set-order"
    · exact .inr rfl
    · exact .inl rfl⟩
theorem set_update_keys {I : Addr} {fp wr : List Addr} {G : Array GenState → Array GenState → Prop} {n : Nat} {Pv : Nat → Value → Prop} {St : Nat → Shared → Prop} {R : Result → Shared → Prop}
    (W : WalksS P w A.in1 I fp wr G n Pv St) (S : Addr) (hSf : S ∉ fp) (ns : List Key) (hn : n = ns.length) (hb : ns.length + 1 < scanBound) (hval : ∀ i v, Pv i v → ∃ k, ns[i]? = some k ∧ RelV (kV k) v) :
    ∀ (k i : Nat) (s : Shared), n - i = k → i ≤ n → St i s → SetM P w s.heap S (fun j => decide (j ∈ ddK [] (ns.take i))) (ddK [] (ns.take i)).length → (ddK [] (ns.take i)).length ≤ i →
      (∀ s', Moved (S :: wr) G s s' → SetM P w s'.heap S (fun j => decide (j ∈ ddK [] ns)) (ddK [] ns).length → (ddK [] ns).length ≤ n → R (.ok (.ret .none)) s') →
      codeAny (model P w) A (.builtin "set.update.loop" ⟨[.ref S, .ref I], []⟩) R s := by
  have hSw : S ∉ wr := fun h => hSf (W.sub _ h)
  have hsub : ∀ b ∈ wr, b ∈ S :: wr := fun b hb => List.mem_cons_of_mem _ hb
  intro k
  induction k with
  | zero =>
    intro i s hk' hi hst hS hc hR
    have hin : i = n := by omega
    subst hin
    refine codeAny_builtin F.entry_set_update_loop ?_
    rw [Around.under_plainId F.plain_set_update_loop _]
    show wpAny _ A.in1 (pyNext (.ref I) >>= _) _ _ s
    refine wpAny_bind (W.done s _ _ hst fun s' hm => ?_)
    show wpAny _ A.in1 (ret Value.none) _ _ s'
    have e : ns.take i = ns := List.take_of_length_le (by omega)
    rw [e] at hS hc
    exact wpAny_pure (hR s' (hm.mono hsub) (hS.at fun o e => hm.heap S o hSw e) hc)
  | succ k ih =>
    intro i s hk' hi hst hS hc hR
    have hlt : i < n := by omega
    refine codeAny_builtin F.entry_set_update_loop ?_
    rw [Around.under_plainId F.plain_set_update_loop _]
    show wpAny _ A.in1 (pyNext (.ref I) >>= _) _ _ s
    refine wpAny_bind (W.item i s _ _ hlt hst fun v s' hP hst' hm => ?_)
    obtain ⟨z, hz, rz⟩ := hval i v hP
    have hS' : SetM P w s'.heap S (fun j => decide (j ∈ ddK [] (ns.take i))) (ddK [] (ns.take i)).length := hS.at fun o e => hm.heap S o hSw e
    show wpAny _ A.in1 (holding [v] (setAdd S v) >>= _) _ _ s'
    refine wpAny_bind (wpAny_holding ?_)
    unfold setAdd
    refine wpAny_holding ?_
    refine wpAny_bind ((mixKind P w).pyHash (k := z) (kV_is rz) ?_)
    refine setM_add_hashed (s := { s' with toks := s'.toks + 1 }) rz hS' (by omega) fun h' hsb hS2 => ?_
    have et : ns.take (i + 1) = ns.take i ++ [z] := by rw [List.take_add_one, hz]; rfl
    have ed : ddK [] (ns.take (i + 1)) = if z ∈ ddK [] (ns.take i) then ddK [] (ns.take i) else ddK [] (ns.take i) ++ [z] := by
      rw [et, ddK_append]
      simp only [ddK]
    have hS3 : SetM P w h' S (fun j => decide (j ∈ ddK [] (ns.take (i + 1)))) (ddK [] (ns.take (i + 1))).length := by
      refine hS2.congr (fun j => ?_) ?_
      · rw [ed]
        by_cases q : z ∈ ddK [] (ns.take i)
        · rw [if_pos q]
          by_cases e : j = z
          · subst e; simp [q]
          · simp [e]
        · rw [if_neg q]
          simp [List.mem_append]
      · rw [ed]
        by_cases q : z ∈ ddK [] (ns.take i)
        · simp [q]
        · simp [q]
    have hc3 : (ddK [] (ns.take (i + 1))).length ≤ i + 1 := by
      rw [ed]
      split
      · omega
      · rw [List.length_append, List.length_singleton]; omega
    refine wpAny_pure ⟨plainId_quiet F.plain_set_update_loop _, ih (i + 1) _ (by omega) hlt (W.frame _ s' _ _ hst' (Nat.le_succ _) fun b hb o e => ?_) hS3 hc3 fun s'' hm'' hS'' hc'' => ?_⟩
    · rw [hsb.2 b (fun h : b = S => hSf (by rw [← h]; exact hb))]; exact e
    · refine hR s'' (Moved.trans W.gtrans ((hm.mono hsub).then_heap (Nat.le_succ _) fun b o hb e => ?_) hm'') hS'' hc''
      rw [hsb.2 b (fun h : b = S => hb (by rw [h]; exact List.mem_cons_self))]; exact e
end
end DL
end
section
/-! DS3: set(list), set(tuple) of ints and texts; len, sorted of such a set. -/
namespace DL
open PySem PySem.Spec PyProof.Rows L2
section
variable {P : Program} {w : World} {A : Around} {E : Value → Shared → Prop} {s : Shared}

set_option maxRecDepth 100000 in
set_option maxHeartbeats 3200000 in
theorem call_set_listK {l : Addr} {items : Array Value} (ns : List Key) {Q : Value → Shared → Prop} (hh : A.handled = none) (hl : s.heap.IsList l items) (hit : Vals (ns.map kV) items.toList) (hb : ns.length + 1 < scanBound)
    (h : ∀ (h' : Heap) (tk : Nat), SetM P w h' s.heap.objs.size (fun j => decide (j ∈ ddK [] ns)) (ddK [] ns).length → (∀ b o, s.heap.get? b = some o → h'.get? b = some o) → Q (.ref s.heap.objs.size) { s with heap := h', toks := tk }) :
    wpAny (model P w) A (call (.type "set") [.ref l]) Q E s := by
  have hisz : items.size = ns.length := by
    have q := hit.length
    rw [List.length_map, Array.length_toList] at q
    exact q.symm
  obtain ⟨c, tl, hmro⟩ := F.called_set.mro
  have hmade := F.called_set.made
  have hsub := F.called_set.sub
  refine wpAny_call (codeAny_of_tree ?_)
  show wpAny _ _ (callAny (.type "set") _) _ _ _
  refine wpAny_pure ⟨Code.quiet_builtin _ (by decide +kernel), codeAny_builtin F.entry_type_call ?_⟩
  rw [Around.under_plain (weight_type_call_type "set" [.ref l] []) rfl]
  have h1 := F.called_set.notType
  have h2 := F.called_set.canCreate
  have hct := F.typeCall_set_1 (.ref l)
  repeat (any_goals (first | assumption | wp_step))
  refine codeAny_mono (code_set_led1 (.ref l) (E := E) (Q₁ := fun obj s₁ => obj = .ref s.heap.objs.size ∧ s₁ = { s with heap := s.heap.push { cls := .type "set", dict := none, data := .set #[] 0 (.fresh 0 0 (!w.params.followText "set-order")) } }) ⟨rfl, rfl⟩) fun r s₁ hr => ?_
  cases r with
  | error e => exact hr
  | ok fl =>
    cases fl with
    | ret obj =>
      obtain ⟨rfl, rfl⟩ := hr
      have hS : (s.heap.push { cls := .type "set", dict := none, data := .set #[] 0 (.fresh 0 0 (!w.params.followText "set-order")) }).get? s.heap.objs.size = some { cls := .type "set", dict := none, data := .set #[] 0 (.fresh 0 0 (!w.params.followText "set-order")) } := Heap.get?_push_size _ rfl
      have hT : Shared.TypeIs { s with heap := s.heap.push { cls := .type "set", dict := none, data := .set #[] 0 (.fresh 0 0 (!w.params.followText "set-order")) } } (.ref s.heap.objs.size) "set" := ⟨_, hS, rfl⟩
      have hli := F.called_set.init.lookup
      have hbi := F.called_set.init.bind (.ref s.heap.objs.size)
      repeat (any_goals (first | assumption | wp_step))
      refine codeAny_mono (codeAny_call_builtin (R := wants (fun r s₂ => r = .none ∧ ∃ h' tk, s₂ = { s with heap := h', toks := tk } ∧ SetM P w h' s.heap.objs.size (fun j => decide (j ∈ ddK [] ns)) (ddK [] ns).length ∧
          (∀ b o, s.heap.get? b = some o → h'.get? b = some o)) E) F.called_set.init.plain F.entry_set_init (check_set_init_1 hT ?_)) fun r₂ s₂ hr₂ => ?_
      · obtain ⟨ol, hol, hcl, nl, hdl⟩ := hl
        obtain ⟨ocls, odict, odata, oslots⟩ := ol
        simp only at hcl hdl
        subst hcl; subst hdl
        have hol' : (s.heap.push { cls := .type "set", dict := none, data := .set #[] 0 (.fresh 0 0 (!w.params.followText "set-order")) }).get? l = some { cls := .type "list", dict := odict, data := .seq items nl, slots := oslots } := Heap.get?_push_of_some _ hol
        have hsls := F.sub_list_set
        have hslf := F.sub_list_frozenset
        have hne : (Value.type "list" == Value.type "dict") = false := by decide
        have hl1 : (s.heap.push { cls := .type "set", dict := none, data := .set #[] 0 (.fresh 0 0 (!w.params.followText "set-order")) }).IsList l items := ⟨_, hol', rfl, nl, rfl⟩
        unfold Builtin.«set.__init__» noKeywords Builtin.Frozenset.updateFrom
        generalize hPI : pyIter = PI
        wp_walk
        subst hPI
        refine wpAny_pyIter_list hl1 ?_
        refine wpAny_bind (wpAny_runValue ?_)
        have hlS : l < s.heap.objs.size := Heap.lt_size hol
        have hh3 : A.in1.in1.in1.handled = none := by simp [hh]
        have hz1 : (s.heap.push { cls := .type "set", dict := none, data := .set #[] 0 (.fresh 0 0 (!w.params.followText "set-order")) }).objs.size = s.heap.objs.size + 1 := Heap.size_push ..
        have hneI : l ≠ (s.heap.push { cls := .type "set", dict := none, data := .set #[] 0 (.fresh 0 0 (!w.params.followText "set-order")) }).objs.size := by
          rw [Heap.size_push]; exact Nat.ne_of_lt (Nat.lt_succ_of_lt hlS)
        have hSf : s.heap.objs.size ∉ [(s.heap.push { cls := .type "set", dict := none, data := .set #[] 0 (.fresh 0 0 (!w.params.followText "set-order")) }).objs.size, l] := by
          rw [Heap.size_push]; simp only [List.mem_cons, List.mem_singleton, List.not_mem_nil, or_false, not_or]
          exact ⟨Nat.ne_of_lt (Nat.lt_succ_self _), Nat.ne_of_gt hlS⟩
        have hval : ∀ (i : Nat) (v : Value), items[i]? = some v → ∃ k, ns[i]? = some k ∧ RelV (kV k) v := fun i v hv => by
          have hv' : items.toList[i]? = some v := by rw [Array.getElem?_toList]; exact hv
          rcases Vals.get hit i with ⟨x, u, e1, e2, r⟩ | ⟨_, e2⟩
          · rw [hv'] at e2
            cases e2
            rw [List.getElem?_map] at e1
            obtain ⟨k, ek, rfl⟩ := Option.map_eq_some_iff.mp e1
            exact ⟨k, ek, r⟩
          · rw [hv'] at e2; cases e2
        refine set_update_keys ((Walks.list hh3 _ l hneI items).toS) s.heap.objs.size
          hSf ns hisz hb hval (items.size - 0) 0 _ (by omega) (Nat.zero_le _)
          ⟨⟨_, Heap.get?_push_size _ rfl, rfl, rfl⟩, (hl1.push _)⟩ ?hS0 (by simp [ddK]) ?hR
        case hS0 =>
          have hget : ((s.heap.push { cls := .type "set", dict := none, data := .set #[] 0 (.fresh 0 0 (!w.params.followText "set-order")) }).push { cls := .type "list_iterator", data := .fields #[.ref l, .int 0 0] }).get? s.heap.objs.size
              = some { cls := .type "set", dict := none, data := .set #[] 0 (.fresh 0 0 (!w.params.followText "set-order")) } := Heap.get?_push_of_some _ hS
          exact setM_new_at hget
        case hR =>
          intro s' hm hS' _
          obtain ⟨h', g2, d', tk', os'⟩ := s'
          have eg : g2 = s.gens := hm.gens
          have ed : d' = s.drawn := hm.drawn
          have eo : os' = s.os := hm.os
          subst eg; subst ed; subst eo
          show wpAny _ _ _ _ _ _
          refine wpAny_pure ?_
          show wpAny _ _ (ret Value.none) _ _ _
          refine wpAny_pure ⟨rfl, h', tk', rfl, hS', fun b o e => ?_⟩
          have hb0 : b < s.heap.objs.size := Heap.lt_size e
          have hb1 : b ≠ s.heap.objs.size := Nat.ne_of_lt hb0
          have hb2 : b ≠ (s.heap.push { cls := .type "set", dict := none, data := .set #[] 0 (.fresh 0 0 (!w.params.followText "set-order")) }).objs.size := by
            rw [Heap.size_push]; exact Nat.ne_of_lt (Nat.lt_succ_of_lt hb0)
          exact hm.heap b o (by simp only [List.mem_cons, List.mem_singleton, List.not_mem_nil, or_false, not_or]; exact ⟨hb1, hb2⟩) (Heap.get?_push_of_some _ (Heap.get?_push_of_some _ e))
      · cases r₂ with
        | error e => exact hr₂
        | ok fl₂ =>
          cases fl₂ with
          | ret r =>
            obtain ⟨rfl, h', tk, rfl, hS', hk'⟩ := hr₂
            repeat (any_goals (first | assumption | wp_step))
            exact h _ _ hS' hk'
          | _ => exact hr₂.elim
    | _ => exact hr.elim

set_option maxRecDepth 100000 in
set_option maxHeartbeats 3200000 in
theorem call_set_tupleK {l : Addr} {items : Array Value} (ns : List Key) {Q : Value → Shared → Prop} (hh : A.handled = none) (hl : s.heap.IsTuple l items) (hit : Vals (ns.map kV) items.toList) (hb : ns.length + 1 < scanBound)
    (h : ∀ (h' : Heap) (tk : Nat), SetM P w h' s.heap.objs.size (fun j => decide (j ∈ ddK [] ns)) (ddK [] ns).length → (∀ b o, s.heap.get? b = some o → h'.get? b = some o) → Q (.ref s.heap.objs.size) { s with heap := h', toks := tk }) :
    wpAny (model P w) A (call (.type "set") [.ref l]) Q E s := by
  have hisz : items.size = ns.length := by
    have q := hit.length
    rw [List.length_map, Array.length_toList] at q
    exact q.symm
  obtain ⟨c, tl, hmro⟩ := F.called_set.mro
  have hmade := F.called_set.made
  have hsub := F.called_set.sub
  refine wpAny_call (codeAny_of_tree ?_)
  show wpAny _ _ (callAny (.type "set") _) _ _ _
  refine wpAny_pure ⟨Code.quiet_builtin _ (by decide +kernel), codeAny_builtin F.entry_type_call ?_⟩
  rw [Around.under_plain (weight_type_call_type "set" [.ref l] []) rfl]
  have h1 := F.called_set.notType
  have h2 := F.called_set.canCreate
  have hct := F.typeCall_set_1 (.ref l)
  repeat (any_goals (first | assumption | wp_step))
  refine codeAny_mono (code_set_led1 (.ref l) (E := E) (Q₁ := fun obj s₁ => obj = .ref s.heap.objs.size ∧ s₁ = { s with heap := s.heap.push { cls := .type "set", dict := none, data := .set #[] 0 (.fresh 0 0 (!w.params.followText "set-order")) } }) ⟨rfl, rfl⟩) fun r s₁ hr => ?_
  cases r with
  | error e => exact hr
  | ok fl =>
    cases fl with
    | ret obj =>
      obtain ⟨rfl, rfl⟩ := hr
      have hS : (s.heap.push { cls := .type "set", dict := none, data := .set #[] 0 (.fresh 0 0 (!w.params.followText "set-order")) }).get? s.heap.objs.size = some { cls := .type "set", dict := none, data := .set #[] 0 (.fresh 0 0 (!w.params.followText "set-order")) } := Heap.get?_push_size _ rfl
      have hT : Shared.TypeIs { s with heap := s.heap.push { cls := .type "set", dict := none, data := .set #[] 0 (.fresh 0 0 (!w.params.followText "set-order")) } } (.ref s.heap.objs.size) "set" := ⟨_, hS, rfl⟩
      have hli := F.called_set.init.lookup
      have hbi := F.called_set.init.bind (.ref s.heap.objs.size)
      repeat (any_goals (first | assumption | wp_step))
      refine codeAny_mono (codeAny_call_builtin (R := wants (fun r s₂ => r = .none ∧ ∃ h' tk, s₂ = { s with heap := h', toks := tk } ∧ SetM P w h' s.heap.objs.size (fun j => decide (j ∈ ddK [] ns)) (ddK [] ns).length ∧
          (∀ b o, s.heap.get? b = some o → h'.get? b = some o)) E) F.called_set.init.plain F.entry_set_init (check_set_init_1 hT ?_)) fun r₂ s₂ hr₂ => ?_
      · obtain ⟨ol, hol, hcl, nl, hdl⟩ := hl
        obtain ⟨ocls, odict, odata, oslots⟩ := ol
        simp only at hcl hdl
        subst hcl; subst hdl
        have hol' : (s.heap.push { cls := .type "set", dict := none, data := .set #[] 0 (.fresh 0 0 (!w.params.followText "set-order")) }).get? l = some { cls := .type "tuple", dict := odict, data := .seq items nl, slots := oslots } := Heap.get?_push_of_some _ hol
        have hsls := F.sub_tuple_set
        have hslf := F.sub_tuple_frozenset
        have hne : (Value.type "tuple" == Value.type "dict") = false := by decide
        have hl1 : (s.heap.push { cls := .type "set", dict := none, data := .set #[] 0 (.fresh 0 0 (!w.params.followText "set-order")) }).IsTuple l items := ⟨_, hol', rfl, nl, rfl⟩
        unfold Builtin.«set.__init__» noKeywords Builtin.Frozenset.updateFrom
        generalize hPI : pyIter = PI
        wp_walk
        subst hPI
        refine wpAny_pyIter_tuple hl1 ?_
        refine wpAny_bind (wpAny_runValue ?_)
        have hlS : l < s.heap.objs.size := Heap.lt_size hol
        have hh3 : A.in1.in1.in1.handled = none := by simp [hh]
        have hz1 : (s.heap.push { cls := .type "set", dict := none, data := .set #[] 0 (.fresh 0 0 (!w.params.followText "set-order")) }).objs.size = s.heap.objs.size + 1 := Heap.size_push ..
        have hneI : l ≠ (s.heap.push { cls := .type "set", dict := none, data := .set #[] 0 (.fresh 0 0 (!w.params.followText "set-order")) }).objs.size := by
          rw [Heap.size_push]; exact Nat.ne_of_lt (Nat.lt_succ_of_lt hlS)
        have hSf : s.heap.objs.size ∉ [(s.heap.push { cls := .type "set", dict := none, data := .set #[] 0 (.fresh 0 0 (!w.params.followText "set-order")) }).objs.size, l] := by
          rw [Heap.size_push]; simp only [List.mem_cons, List.mem_singleton, List.not_mem_nil, or_false, not_or]
          exact ⟨Nat.ne_of_lt (Nat.lt_succ_self _), Nat.ne_of_gt hlS⟩
        have hval : ∀ (i : Nat) (v : Value), items[i]? = some v → ∃ k, ns[i]? = some k ∧ RelV (kV k) v := fun i v hv => by
          have hv' : items.toList[i]? = some v := by rw [Array.getElem?_toList]; exact hv
          rcases Vals.get hit i with ⟨x, u, e1, e2, r⟩ | ⟨_, e2⟩
          · rw [hv'] at e2
            cases e2
            rw [List.getElem?_map] at e1
            obtain ⟨k, ek, rfl⟩ := Option.map_eq_some_iff.mp e1
            exact ⟨k, ek, r⟩
          · rw [hv'] at e2; cases e2
        refine set_update_keys ((Walks.tuple hh3 _ l hneI items).toS) s.heap.objs.size
          hSf ns hisz hb hval (items.size - 0) 0 _ (by omega) (Nat.zero_le _)
          ⟨⟨_, Heap.get?_push_size _ rfl, rfl, rfl⟩, (hl1.push _)⟩ ?hS0 (by simp [ddK]) ?hR
        case hS0 =>
          have hget : ((s.heap.push { cls := .type "set", dict := none, data := .set #[] 0 (.fresh 0 0 (!w.params.followText "set-order")) }).push { cls := .type "tuple_iterator", data := .fields #[.ref l, .int 0 0] }).get? s.heap.objs.size
              = some { cls := .type "set", dict := none, data := .set #[] 0 (.fresh 0 0 (!w.params.followText "set-order")) } := Heap.get?_push_of_some _ hS
          exact setM_new_at hget
        case hR =>
          intro s' hm hS' _
          obtain ⟨h', g2, d', tk', os'⟩ := s'
          have eg : g2 = s.gens := hm.gens
          have ed : d' = s.drawn := hm.drawn
          have eo : os' = s.os := hm.os
          subst eg; subst ed; subst eo
          show wpAny _ _ _ _ _ _
          refine wpAny_pure ?_
          show wpAny _ _ (ret Value.none) _ _ _
          refine wpAny_pure ⟨rfl, h', tk', rfl, hS', fun b o e => ?_⟩
          have hb0 : b < s.heap.objs.size := Heap.lt_size e
          have hb1 : b ≠ s.heap.objs.size := Nat.ne_of_lt hb0
          have hb2 : b ≠ (s.heap.push { cls := .type "set", dict := none, data := .set #[] 0 (.fresh 0 0 (!w.params.followText "set-order")) }).objs.size := by
            rw [Heap.size_push]; exact Nat.ne_of_lt (Nat.lt_succ_of_lt hb0)
          exact hm.heap b o (by simp only [List.mem_cons, List.mem_singleton, List.not_mem_nil, or_false, not_or]; exact ⟨hb1, hb2⟩) (Heap.get?_push_of_some _ (Heap.get?_push_of_some _ e))
      · cases r₂ with
        | error e => exact hr₂
        | ok fl₂ =>
          cases fl₂ with
          | ret r =>
            obtain ⟨rfl, h', tk, rfl, hS', hk'⟩ := hr₂
            repeat (any_goals (first | assumption | wp_step))
            exact h _ _ hS' hk'
          | _ => exact hr₂.elim
    | _ => exact hr.elim
end
end DL
end
section
/-! DS4: sorted(set(x)), len(set(x)) over data. -/
namespace DL
open PySem PySem.Spec PyProof.Rows L2 SrtO
def SetMO (P : Program) (w : World) (a : Addr) (S : Key → Bool) (n : Nat) : HO := .ext fun h => SetM P w h a S n
section
variable {X : Cx}
theorem setMO_new {P : Program} {w : World} {H : Hp} {h : Heap} {a : Addr} {S : Key → Bool} {n : Nat} (R : SetM P w h a S n) : ObjOk P w H h a (SetMO P w a S n) := by
  have ⟨o, _, _, _, ho, _⟩ := R
  exact ⟨R, ⟨o, ho⟩, fun h1 h2 p k => SetM.at p k⟩
theorem setMO_get {pins : List (Addr × Obj)} {σ : L2.St} {H : Hp} {s : Shared} {a : Addr} {S : Key → Bool} {n : Nat} (I : Inv X pins σ H s) (ha : H a = some (SetMO X.prog X.w a S n)) : SetM X.prog X.w s.heap a S n := (I.hok a _ ha).1
def rSetOfK (P : Program) (w : World) (K : PySem.W.Frag) : List V → Hp → VK → Prop := fun vs H Q => ∃ (l : Addr) (ks : List Key), vs = [.ref l] ∧ (SqL K H l (ks.map kV) ∨ SqT K H l (ks.map kV)) ∧ ks.length + 1 < scanBound ∧
  ∀ p, H p = none → Q (.ref p) (upd H p (SetMO P w p (fun j => decide (j ∈ ddK [] ks)) (ddK [] ks).length))
theorem cr_setOfK (hc : X.calm = true) : CallR X (.type "set") (rSetOfK X.prog X.w X.K) := by
  intro pins s σ H vs us Q I r h
  obtain ⟨l, ks, rfl, hs, hb, q⟩ := h
  rw [Vals.ref1 r]
  have hn : H s.heap.objs.size = none := I.hok.fresh (Nat.le_refl _)
  have fin : ∀ (h' : Heap) (tk : Nat), SetM X.prog X.w h' s.heap.objs.size (fun j => decide (j ∈ ddK [] ks)) (ddK [] ks).length → (∀ b o, s.heap.get? b = some o → h'.get? b = some o) → EP X pins σ Q (.ref s.heap.objs.size) { s with heap := h', toks := tk } := fun h' tk R k =>
    ⟨.ref s.heap.objs.size, _, I.laid (t' := tk) k (Nat.le_refl _) (setMO_new R), rfl, q _ hn⟩
  rcases hs with hs | hs
  · obtain ⟨its, rv, hl, hz⟩ := I.list hs
    exact call_set_listK ks (I.ok.hd hc) hl.isList (by simpa using rv) hb fin
  · obtain ⟨its, rv, hl, hz⟩ := I.tuple hs
    exact call_set_tupleK ks (I.ok.hd hc) hl (by simpa using rv) hb fin
/-! ### len -/
def rLenSet (P : Program) (w : World) : List V → Hp → VK → Prop := fun vs H Q => ∃ (a : Addr) (S : Key → Bool) (n : Nat), vs = [.ref a] ∧ H a = some (SetMO P w a S n) ∧ Q (.int (n : Nat)) H
theorem cr_lenSet : CallR X (.builtin "len") (rLenSet X.prog X.w) := by
  intro pins s σ H vs us Q I r h
  obtain ⟨a, S, n, rfl, ha, q⟩ := h
  rw [Vals.ref1 r]
  obtain ⟨o, es, ep, t, ho, hex, hd, g, nd, hm, hb, hf, hn, hr, hl⟩ := setMO_get I ha
  refine call_len_set ho hex hd hf (by have : scanBound = 4096 := rfl; omega) ?_
  rw [hn]
  exact ⟨.int n, H, (I.tok _).tok _, ⟨_, rfl⟩, q⟩
/-! ### sorted -/
def rSortedSetM (P : Program) (w : World) : List V → Hp → VK → Prop := fun vs H Q => ∃ (a : Addr) (S : Key → Bool) (n : Nat) (b : Bool), vs = [.ref a] ∧ H a = some (SetMO P w a S n) ∧ (∀ k, S k = true → kB k = b) ∧
  ∀ (ls : List Key) (p : Addr), ls.Nodup → (∀ k, k ∈ ls ↔ S k = true) → ls.Pairwise (fun x y => ¬ encK y < encK x) → H p = none → Q (.ref p) (upd H p (.lst (ls.map kV)))
theorem keys_of_values {P : Program} {w : World} : ∀ {vs : List Value} {ks : List Key}, vs.map keyM = ks.map some → Vals (ks.map kV) vs
  | [], [], _ => .nil
  | v :: vs, k :: ks, h => by
    simp only [List.map_cons, List.cons.injEq] at h
    exact .cons (keyM_back h.1) (keys_of_values (P := P) (w := w) h.2)
theorem somes {α β : Type} {f : α → Option β} : ∀ {vs : List α}, (∀ v ∈ vs, (f v).isSome = true) → ∃ ks : List β, vs.map f = ks.map some
  | [], _ => ⟨[], rfl⟩
  | v :: vs, h => by
    obtain ⟨ks, e⟩ := somes (vs := vs) fun u hu => h u (List.mem_cons_of_mem _ hu)
    obtain ⟨k, ek⟩ := Option.isSome_iff_exists.mp (h v List.mem_cons_self)
    exact ⟨k :: ks, by rw [List.map_cons, List.map_cons, e, ek]⟩
theorem pw_keys {R : Value → Value → Prop} {S : Key → Key → Prop} (k : ∀ x u y v, RelV (kV x) u → RelV (kV y) v → R u v → S x y) : ∀ {ks : List Key} {out : List Value}, Vals (ks.map kV) out → out.Pairwise R → ks.Pairwise S
  | [], [], _, _ => .nil
  | y :: ys, u :: out, .cons a b, h => by
    obtain ⟨h1, h2⟩ := List.pairwise_cons.mp h
    refine List.pairwise_cons.mpr ⟨fun z hz => ?_, pw_keys k b h2⟩
    have go : ∀ {ys : List Key} {out : List Value}, Vals (ys.map kV) out → (∀ v ∈ out, R u v) → z ∈ ys → S y z := by
      intro ys
      induction ys with
      | nil => intro out _ _ h; cases h
      | cons c d ih =>
        intro out r h hz
        cases r with
        | cons r1 r2 =>
          rcases List.mem_cons.mp hz with rfl | hz
          · exact k _ _ _ _ a r1 (h _ (by simp))
          · exact ih r2 (fun v hv => h v (by simp [hv])) hz
    exact go b h1 hz
theorem cr_sortedSetM (hc : X.calm = true) : CallR X (.builtin "sorted") (rSortedSetM X.prog X.w) := by
  intro pins s σ H vs us Q I r h
  obtain ⟨a, S, n, b, rfl, ha, hb0, q⟩ := h
  rw [Vals.ref1 r]
  obtain ⟨o, es, ep, t, ho, hex, hd, g, nd, hm, hb, hf, hn, hr, hl⟩ := setMO_get I ha
  refine sorted_col (collect_set (I.ok.hd hc) ⟨o, ho, hex.1, hd⟩ hf hb hr hl fun s1 vs k1 hz g1 o1 pm => ?_)
  have hlen : vs.length ≤ sizeLine := by rw [pm.length_eq, List.length_map, Array.length_toList]; exact fits_of_scanBound hb
  have hmem : ∀ v ∈ vs, ∃ k, RelV (kV k) v ∧ S k = true := fun v hv => by
    obtain ⟨e, he, rfl⟩ := List.mem_map.mp (pm.mem_iff.mp hv)
    obtain ⟨k, h1, _⟩ := g e he
    exact ⟨k, h1, (hm k).2 (List.mem_map.mpr ⟨e, he, keyM_of h1⟩)⟩
  have enc1 : ∀ {k : Key} {u : Value} {h : Heap}, RelV (kV k) u → encV h u = [encK k] := fun {k u h} r => by
    cases k with
    | inl i => obtain ⟨t, rfl⟩ := (show ∃ t, u = Value.int i t from r); rfl
    | inr x => obtain ⟨t, rfl⟩ := (show ∃ t, u = Value.str x t from r); rfl
  have one_lt : ∀ {x y : List Int}, [x] < [y] ↔ x < y := fun {x y} => by
    rw [List.cons_lt_cons_iff]
    exact ⟨fun z => z.elim id fun z => absurd z.2 (List.lt_irrefl _), .inl⟩
  refine ⟨bif b then .str else .int, hlen, fun v hv => ?_, fun out h' d hp hw k hd' ⟨c, hg⟩ => ?_⟩
  · obtain ⟨k, rk, hk⟩ := hmem v hv
    have e := hb0 k hk
    cases k with
    | inl i =>
      obtain ⟨t, rfl⟩ := (show ∃ t, v = Value.int i t from rk)
      have : b = false := e.symm
      subst this
      exact ⟨_, i, t, rfl, rfl⟩
    | inr x =>
      obtain ⟨t, rfl⟩ := (show ∃ t, v = Value.str x t from rk)
      have : b = true := e.symm
      subst this
      exact ⟨_, x, t, rfl, rfl⟩
  · have hout : ∀ v ∈ out, (keyM v).isSome = true := fun v hv => by
      obtain ⟨k, rk, _⟩ := hmem v (hp.mem_iff.mp hv)
      rw [keyM_of rk]; rfl
    obtain ⟨ls, els⟩ := somes hout
    have hvl := keys_of_values (P := X.prog) (w := X.w) els
    have pk : (ls.map some).Perm (es.toList.map keyE) := by
      rw [← els]
      have := (hp.trans pm).map keyM
      rw [List.map_map] at this
      exact this
    have hnd : ls.Nodup := List.Pairwise.of_map some (fun a b h e => h (congrArg some e)) (pk.nodup_iff.mpr nd)
    have hdn : H d = none := I.hok.fresh (Nat.le_trans hz hd')
    have hlz : (ls.map kV).length ≤ sizeLine := by rw [hvl.length, hp.length_eq]; exact hlen
    have J : Inv X pins σ (upd H d (.lst (ls.map kV))) { s with heap := h', gens := s1.gens, drawn := s1.drawn, toks := s1.toks } :=
      I.call (ch := []) (Un.laid (fun b o e => k b o (k1 b o e)) (Nat.le_trans hz hd') hdn) (I.hok.laid (fun b o e => k b o (k1 b o e)) (Nat.le_trans hz hd') ⟨hlz, out, c, hvl, hg⟩) (by rw [g1]; exact I.bare) (fun _ z => nomatch z)
    have e : { s1 with heap := h' } = { s with heap := h', gens := s1.gens, drawn := s1.drawn, toks := s1.toks } := by
      cases s1
      cases s
      cases o1
      rfl
    rw [e]
    refine ⟨.ref d, _, J, rfl, q ls d hnd (fun k => ?_) ?_ hdn⟩
    · rw [hm k, ← pk.mem_iff, List.mem_map]
      exact ⟨fun z => ⟨k, z, rfl⟩, fun ⟨_, z, e⟩ => by cases e; exact z⟩
    · refine pw_keys (R := fun x y => ¬ encV s1.heap y < encV s1.heap x) (fun x u y v r1 r2 hr => ?_) hvl hw
      rw [enc1 r1, enc1 r2, one_lt] at hr
      exact hr
end
/-! ### over data -/
def dK : Key → D
  | .inl i => .int i
  | .inr x => .str x
theorem kD_dK (k : Key) : kD (dK k) = some k := by cases k <;> rfl
theorem dK_of {d : D} {k : Key} (h : kD d = some k) : d = dK k := kD_inj h (kD_dK k)
theorem ksD_dK : ∀ ks : List Key, ksD (ks.map dK) = some ks
  | [] => rfl
  | k :: ks => by
    rw [List.map_cons]
    show (match kD (dK k), ksD (ks.map dK) with
      | some k, some ks => some (k :: ks)
      | _, _ => none) = _
    rw [kD_dK, ksD_dK ks]
def oneB (ks : List Key) : Bool := match ks with
  | [] => true
  | k :: ks => ks.all fun l => decide (kB l = kB k)
theorem oneB_all {ks : List Key} (h : oneB ks = true) : ∃ b, ∀ k ∈ ks, kB k = b := by
  cases ks with
  | nil => exact ⟨true, fun k hk => by cases hk⟩
  | cons k ks =>
    simp only [oneB, List.all_eq_true, decide_eq_true_eq] at h
    refine ⟨kB k, fun l hl => ?_⟩
    rcases List.mem_cons.mp hl with rfl | hl
    · rfl
    · exact h l hl
/-- the members of set(x), in the order they come first -/
def setKs (d : D) (st : Store) : Option (List Key) := (seqS d st).bind fun xs => (ksD xs).bind fun ks => if ks.length + 1 < scanBound then some (ddK [] ks) else none
def sortSetP (d : D) (st : Store) : Option (List D) := (setKs d st).bind fun ks => if oneB ks = true then some (sortD (ks.map dK)) else none
def lenSetP : P1 := fun d st => (setKs d st).map fun ks => .int ks.length
def fSortSet (f : Env → M D) : Env → M (List D) := fun ρ => (f ρ).bind fun d => M.look (sortSetP d)
section
variable {X : Cx} {cl : Str → Option Addr} {B : Base} {W : WX}
theorem encD_dK (k : Key) : encD (dK k) = [encK k] := by cases k <;> rfl
theorem setKs_at {K : PySem.W.Frag} {F H : Hp} {ι : List Addr} {st : Store} (S : Sim K cl F ι H st) {v : V} {d : D} {ks : List Key} (r : RB K cl F ι H v d) (h : setKs d st = some ks) : ∃ a ns, v = .ref a ∧ (SqL K H a (ns.map kV) ∨ SqT K H a (ns.map kV)) ∧ ns.length + 1 < scanBound ∧ ks = ddK [] ns := by
  obtain ⟨xs, e1, h2⟩ := Option.bind_eq_some_iff.mp h
  obtain ⟨ns, e2, h3⟩ := Option.bind_eq_some_iff.mp h2
  obtain ⟨a, us, rfl, s, q⟩ := r.seqS S e1
  split at h3
  · rename_i hb
    cases h3
    have := ks_vals q e2
    subst this
    exact ⟨a, ns, rfl, s, hb, rfl⟩
  · cases h3
theorem df_sortSet {e : Expr} {f : Env → M D} (h : PE X e (tCB (rSortedSetM X.prog X.w) (tCons (tCB (rSetOfK X.prog X.w X.K) (tCons (tB X.K cl B W f) tNil)) tNil))) : DF X cl B W e (fSortSet f) :=
  weakE h fun σ H Q ⟨F, ι, st, ρ, A, q⟩ => ⟨F, ι, st, ρ, A, Post.bind back_F q fun d st1 F1 ι1 H1 v x1 S1 r1 q1 => by
    obtain ⟨z, hz, k⟩ := look_ok q1
    obtain ⟨ks, e1, e2⟩ := Option.bind_eq_some_iff.mp hz
    obtain ⟨a, ns, rfl, s, hb, rfl⟩ := setKs_at S1 r1 e1
    split at e2
    · rename_i ho
      cases e2
      obtain ⟨b, hbk⟩ := oneB_all ho
      refine ⟨a, ns, rfl, s, hb, fun p hp => ⟨p, _, _, b, rfl, upd_same, fun k hk => hbk k (of_decide_eq_true hk), fun ls p2 hnd hm hw hp2 => ?_⟩⟩
      obtain ⟨y, T⟩ := newH (o := SetMO X.prog X.w p (fun j => decide (j ∈ ddK [] ns)) (ddK [] ns).length) S1 hp
      have hr : RVs X.K cl F1 ι1 (ls.map kV) (ls.map dK) := by
        clear hm hw hnd
        induction ls with
        | nil => exact .nil
        | cons l ls ih =>
          rw [List.map_cons, List.map_cons]
          refine .cons ?_ ih
          cases l with
          | inl i => exact .int i
          | inr x => exact .str x
      obtain ⟨y2, T2, o⟩ := ownNew T hp2 hr
      have hperm : ls.Perm (ddK [] ns) := (List.perm_ext_iff_of_nodup hnd (ddK_nodup List.nodup_nil)).mpr fun k => by rw [hm k]; exact decide_eq_true_iff
      have hsh : ∀ x ∈ (ddK [] ns).map dK, shD x = some (bif b then .str else .int) := fun x hx => by
        obtain ⟨k, hk, rfl⟩ := List.mem_map.mp hx
        have := hbk k hk
        cases k with
        | inl i =>
          have : b = false := this.symm
          subst this; rfl
        | inr i =>
          have : b = true := this.symm
          subst this; rfl
      have hsort : (ls.map dK) = sortD ((ddK [] ns).map dK) := by
        refine sortD_uniq hsh (hperm.map dK) (List.pairwise_map.mpr (hw.imp fun {x y} hxy => ?_))
        rw [encD_dK, encD_dK, List.cons_lt_cons_iff]
        exact fun z => z.elim hxy fun z => List.lt_irrefl _ z.2
      rw [← hsort] at k
      have hp2' : H1 p2 = none := by
        cases e : H1 p2 with
        | none => rfl
        | some u => obtain ⟨_, h'⟩ := y.t p2 u e; rw [hp2] at h'; cases h'
      exact k F1 ι1 _ _ (y.trans y2) T2 ⟨p2, rfl, o, hp2'⟩
    · cases e2⟩
theorem de_lenSet {e : Expr} {f : Env → M D} (h : PE X e (tCB (rLenSet X.prog X.w) (tCons (tCB (rSetOfK X.prog X.w X.K) (tCons (tB X.K cl B W f) tNil)) tNil))) : DE X cl B W e (e1 lenSetP f) :=
  weakE h fun σ H Q ⟨F, ι, st, ρ, A, q⟩ => ⟨F, ι, st, ρ, A, Post.bind back_V q fun d st1 F1 ι1 H1 v x1 S1 r1 q1 => by
    obtain ⟨z, hz, k⟩ := look_ok q1
    obtain ⟨ks, e1, rfl⟩ := Option.map_eq_some_iff.mp hz
    obtain ⟨a, ns, rfl, s, hb, rfl⟩ := setKs_at S1 r1 e1
    refine ⟨a, ns, rfl, s, hb, fun p hp => ⟨p, _, _, rfl, upd_same, ?_⟩⟩
    obtain ⟨y, T⟩ := newH (o := SetMO X.prog X.w p (fun j => decide (j ∈ ddK [] ns)) (ddK [] ns).length) S1 hp
    exact k F1 ι1 _ _ y T (.int _)⟩
end
end DL
end
section
/-! DL14: comprehensions with two clauses. -/
namespace DL
open PySem PySem.Spec PyProof.Rows L2
/-- a target makes no slot an own list -/
def GOk (ws : List Nat) (g : GM) : Prop := ∀ d ρ ρ', g d ρ = some ρ' → ∀ (j : Nat) (ys : List D), ρ'[j]? = some (.own ys) → ρ[j]? = some (.own ys) ∧ j ∉ ws
def GsOk (ws : List Nat) (g : GMs) : Prop := ∀ d ρ ρ', g d ρ = some ρ' → ∀ (j : Nat) (ys : List D), ρ'[j]? = some (.own ys) → ρ[j]? = some (.own ys) ∧ j ∉ ws
theorem gok_var (i : Nat) : GOk [i] (gVar i) := fun d ρ ρ' e j ys h => by
  cases e
  by_cases hj : i = j
  · subst hj
    rw [List.getElem?_set_self'] at h
    cases e2 : ρ[i]? with
    | none => rw [e2] at h; cases h
    | some s' => rw [e2] at h; cases h
  · rw [List.getElem?_set_ne hj] at h
    exact ⟨h, by simp [Ne.symm hj]⟩
theorem gsok_nil : GsOk [] gsNil := fun d ρ ρ' e j ys h => by
  unfold gsNil at e
  split at e
  · cases e; exact ⟨h, by simp⟩
  · cases e
theorem gsok_cons {w1 w2 : List Nat} {g : GM} {gs : GMs} (h1 : GOk w1 g) (h2 : GsOk w2 gs) : GsOk (w1 ++ w2) (gsCons g gs) := fun d ρ ρ' e j ys h => by
  unfold gsCons at e
  split at e
  · cases e
  · obtain ⟨ρ1, e1, e2⟩ := Option.bind_eq_some_iff.mp e
    obtain ⟨a, b⟩ := h2 _ _ _ e2 j ys h
    obtain ⟨c, d⟩ := h1 _ _ _ e1 j ys a
    exact ⟨c, by simp [b, d]⟩
theorem gok_tup {ws : List Nat} {gs : GMs} (h : GsOk ws gs) : GOk ws (gTupM gs) := fun d ρ ρ' e j ys hj => by
  unfold gTupM at e
  split at e
  · exact h _ _ _ e j ys hj
  · cases e
theorem wipeE_own {ρ : Env} {j : Nat} {ys : List D} : ∀ {vs : List Nat}, (wipeE ρ vs)[j]? = some (.own ys) → ρ[j]? = some (.own ys) ∧ j ∉ vs
  | [], h => ⟨h, by simp⟩
  | v :: vs, h => by
    have h : ((wipeE ρ vs).set v .none)[j]? = some (.own ys) := h
    by_cases hj : v = j
    · subst hj
      rw [List.getElem?_set_self'] at h
      cases e2 : (wipeE ρ vs)[v]? with
      | none => rw [e2] at h; cases h
      | some s' => rw [e2] at h; cases h
    · rw [List.getElem?_set_ne hj] at h
      obtain ⟨a, b⟩ := wipeE_own h
      exact ⟨a, by simp [b, Ne.symm hj]⟩
def comp2L (g : GM) (t : Env → M Bool) (src1 : Env → M (List D)) (g1 : GM) (t1 : Env → M Bool) (el : Env → M D) (vs1 : List Nat) : List D → List D → Env → M (List D)
  | [], acc, _ => M.ret acc
  | x :: xs, acc, ρ => fun st => match g x ρ with
    | none => .stuck
    | some ρ1 => (t ρ1 st).bind fun b => if b = true then M.bind (src1 ρ1) fun ys => M.bind (compL g1 t1 el ys acc (wipeE ρ1 vs1)) fun acc => comp2L g t src1 g1 t1 el vs1 xs acc ρ else comp2L g t src1 g1 t1 el vs1 xs acc ρ
def fComp2 (vs vs1 : List Nat) (src : Env → M (List D)) (g : GM) (t : Env → M Bool) (src1 : Env → M (List D)) (g1 : GM) (t1 : Env → M Bool) (e : Env → M D) : Env → M (List D) := fun ρ => (src ρ).bind fun xs st => (comp2L g t src1 g1 t1 e vs1 xs [] (wipeE ρ vs) st).noX
section
variable {X : Cx} {cl : Str → Option Addr} {B : Base} {W : WX} {pos : Pos}
theorem tLc2_of {vs ws vs1 ws1 : List Nat} {src src1 : Env → M (List D)} {g g1 : GM} {t t1 : Env → M Bool} {el : Env → M D} (hw : ∀ i ∈ ws, i ∈ vs) (hw1 : ∀ i ∈ ws1, i ∈ vs1) (hg : GOk ws g) {σ : L2.St} {H : Hp} {Q : VK} (h : tF X.K cl B W (fComp2 vs vs1 src g t src1 g1 t1 el) σ H Q) :
    tLc2 (tW X.K cl B W src) (tGt X.K cl B ws g) (tT X.K cl B W0 t) (tW X.K cl B W0 src1) (tGt X.K cl B ws1 g1) (tT X.K cl B W0 t1) (tE X.K cl B W0 el) vs vs1 σ H Q := by
  obtain ⟨F, ι, st, ρ, A, q⟩ := h
  refine ⟨F, ι, st, ρ, A, Post.bind back_F q fun xs st1 F1 ι1 H1 J x1 S1 wk p => ?_⟩
  intro D0 hD
  have A1 := A.later x1 S1
  obtain ⟨nF, nι⟩ := S1.none_of hD
  have nB : B.H D0 = none := none_back A1.ext.t hD
  have nO : ∀ (j : Nat) (ys : List D), (wipeE ρ vs)[j]? = some (.own ys) → (wipe σ vs)[j]? ≠ some (some (V.ref D0)) := (A1.wipe vs).fresh hD
  let NX : Nat → Hp → Prop := fun i H => ∃ F2 ι2 st2 acc accD, Le F1 ι1 F2 ι2 ∧ At X.K cl B F2 ι2 H st2 (wipe σ vs) (wipeE ρ vs) ∧ H D0 = some (.lst acc) ∧ RVs X.K cl F2 ι2 acc accD ∧ F2 D0 = none ∧ D0 ∉ ι2 ∧
    Post X.K cl (rF X.K cl) F2 ι2 (del H D0) σ W (comp2L g t src1 g1 t1 el vs1 (xs.drop i) accD (wipeE ρ vs) st2).noX Q
  refine ⟨fun i m H => m = xs.length - i ∧ NX i H, ⟨xs.length, rfl, F1, ι1, st1, [], [], .refl F1 ι1, ?_, upd_same, .nil, nF, nι, ?_⟩, ?_⟩
  · exact (A1.wipe vs).later (newH S1 hD).1 (newH S1 hD).2
  · rw [del_upd, del_new hD]; exact p
  · rintro i m H2 ⟨rfl, F2, ι2, st2, acc, accD, l2, A2, hD2, ra, nF2, nι2, p2⟩
    by_cases hi : i < xs.length
    · right
      have ed : xs.drop i = xs[i] :: xs.drop (i + 1) := List.drop_eq_getElem_cons hi
      rw [ed] at p2
      refine ⟨wk.go i F2 ι2 H2 st2 hi l2 A2.sim, NX (i + 1), fun H' h' => ⟨xs.length - (i + 1), by omega, rfl, h'⟩, ?_⟩
      intro x H3 y
      obtain ⟨F3, x3, S3, r3⟩ := wk.yld i xs[i] F2 ι2 H2 st2 x H3 (List.getElem?_eq_getElem hi) l2 A2.sim y
      have A3 := A2.later x3 S3
      have o3 : OwnL X.K cl F3 ι2 H3 D0 accD := OwnL.ext x3 ⟨acc, hD2, ra, nF2, nι2⟩
      unfold comp2L at p2
      cases eg : g xs[i] (wipeE ρ vs) with
      | none => rw [eg] at p2; exact p2.elim
      | some ρ1 =>
        rw [eg] at p2
        dsimp only at p2
        refine ⟨F3, ι2, st2, wipeE ρ vs, xs[i], ρ1, A3, r3, eg, fun σ' A' o' => ⟨wipe_only o' hw, ?_⟩⟩
        have nO1 : ∀ (j : Nat) (ys : List D), (wipeE ρ1 vs1)[j]? = some (.own ys) → (wipe σ' vs1)[j]? ≠ some (some (V.ref D0)) := fun j ys hj => by
          obtain ⟨h1, h2⟩ := wipeE_own hj
          obtain ⟨h3, h4⟩ := hg _ _ _ eg j ys h1
          rw [wipe_out h2, o'.2 j h4]
          exact nO j ys h3
        rw [noX_bind] at p2
        have p3 := Post.later back_F x3.del p2
        refine ⟨F3, ι2, st2, ρ1, A', Post.bindDel back_F p3 fun b st4 F4 ι4 H4 b' x4 S4 r4 p4 => ?_⟩
        cases r4
        have o4 := OwnL.ext x4 o3
        have A4 := A3.later x4 S4
        have A4' := A'.later x4 S4
        cases b with
        | true =>
          replace p4 : Post X.K cl (rF X.K cl) F4 ι4 (del H4 D0) σ W (((src1 ρ1 st4).bind fun ys => M.bind (compL g1 t1 el ys accD (wipeE ρ1 vs1)) fun acc => comp2L g t src1 g1 t1 el vs1 (xs.drop (i + 1)) acc (wipeE ρ vs)).noX) Q := p4
          rw [noX_bind] at p4
          refine iteT ⟨F4, ι4, st4, ρ1, A4', Post.bindDel back_F p4 fun ys st5 F5 ι5 H5 J1 x5 S5 wk1 p5 => ?_⟩
          have o5 := OwnL.ext x5 o4
          have A5 := A4.later x5 S5
          have A5' := A4'.later x5 S5
          obtain ⟨acc5, h5, ra5, nF5, nι5⟩ := o5
          have l5 : Le F1 ι1 F5 ι5 := (l2.trans x3.le).trans (x4.le.trans x5.le)
          replace p5 : Post X.K cl (rF X.K cl) F5 ι5 (del H5 D0) σ W (((compL g1 t1 el ys accD (wipeE ρ1 vs1) st5).bind fun acc => comp2L g t src1 g1 t1 el vs1 (xs.drop (i + 1)) acc (wipeE ρ vs)).noX) Q := p5
          refine ⟨fun j k H => ∃ F6 ι6 st6 acc accD, Le F5 ι5 F6 ι6 ∧ At X.K cl B F6 ι6 H st6 (wipe σ vs) (wipeE ρ vs) ∧ At X.K cl B F6 ι6 H st6 (wipe σ' vs1) (wipeE ρ1 vs1) ∧ H D0 = some (.lst acc) ∧ RVs X.K cl F6 ι6 acc accD ∧ F6 D0 = none ∧ D0 ∉ ι6 ∧ k = ys.length - j ∧
            Post X.K cl (rF X.K cl) F6 ι6 (del H D0) σ W (((compL g1 t1 el (ys.drop j) accD (wipeE ρ1 vs1) st6).bind fun acc => comp2L g t src1 g1 t1 el vs1 (xs.drop (i + 1)) acc (wipeE ρ vs)).noX) Q, ⟨ys.length, F5, ι5, st5, acc5, accD, .refl F5 ι5, A5, A5'.wipe vs1, h5, ra5, nF5, nι5, rfl, p5⟩, ?_⟩
          rintro j k H6 ⟨F6, ι6, st6, acc6, accD6, l6, A6, A6', h6, ra6, nF6, nι6, rfl, p6⟩
          by_cases hj : j < ys.length
          · right
            have ed1 : ys.drop j = ys[j] :: ys.drop (j + 1) := List.drop_eq_getElem_cons hj
            rw [ed1] at p6
            refine ⟨wk1.go j F6 ι6 H6 st6 hj l6 A6.sim, fun H => ∃ F7 ι7 st7 acc accD, Le F5 ι5 F7 ι7 ∧ At X.K cl B F7 ι7 H st7 (wipe σ vs) (wipeE ρ vs) ∧ At X.K cl B F7 ι7 H st7 (wipe σ' vs1) (wipeE ρ1 vs1) ∧ H D0 = some (.lst acc) ∧ RVs X.K cl F7 ι7 acc accD ∧ F7 D0 = none ∧ D0 ∉ ι7 ∧
              Post X.K cl (rF X.K cl) F7 ι7 (del H D0) σ W (((compL g1 t1 el (ys.drop (j + 1)) accD (wipeE ρ1 vs1) st7).bind fun acc => comp2L g t src1 g1 t1 el vs1 (xs.drop (i + 1)) acc (wipeE ρ vs)).noX) Q, ?_, ?_⟩
            · rintro H' ⟨F7, ι7, st7, acc7, accD7, l7, A7, A7', h7, ra7, nF7, nι7, p7⟩
              exact ⟨ys.length - (j + 1), by omega, F7, ι7, st7, acc7, accD7, l7, A7, A7', h7, ra7, nF7, nι7, rfl, p7⟩
            · intro z H7 yz
              obtain ⟨F7, x7, S7, r7⟩ := wk1.yld j ys[j] F6 ι6 H6 st6 z H7 (List.getElem?_eq_getElem hj) l6 A6.sim yz
              have A7 := A6.later x7 S7
              have A7' := A6'.later x7 S7
              have o7 : OwnL X.K cl F7 ι6 H7 D0 accD6 := OwnL.ext x7 ⟨acc6, h6, ra6, nF6, nι6⟩
              unfold compL at p6
              cases eg1 : g1 ys[j] (wipeE ρ1 vs1) with
              | none => rw [eg1] at p6; exact p6.elim
              | some ρ2 =>
                rw [eg1] at p6
                dsimp only at p6
                refine ⟨F7, ι6, st6, wipeE ρ1 vs1, ys[j], ρ2, A7', r7, eg1, fun σ3 A3' o3' => ⟨wipe_only o3' hw1, ?_⟩⟩
                have p6 : Post X.K cl (rF X.K cl) F6 ι6 (del H6 D0) σ W ((t1 ρ2 st6).noX.bind fun b st => (((if b = true then M.bind (el ρ2) fun y => if accD6.length < sizeLine then compL g1 t1 el (ys.drop (j + 1)) (accD6 ++ [y]) (wipeE ρ1 vs1) else M.stuck else compL g1 t1 el (ys.drop (j + 1)) accD6 (wipeE ρ1 vs1)) st).bind fun acc => comp2L g t src1 g1 t1 el vs1 (xs.drop (i + 1)) acc (wipeE ρ vs)).noX) Q := by
                  cases e9 : t1 ρ2 st6 <;> rw [e9] at p6 <;> exact p6
                have p7 := Post.later back_F x7.del p6
                refine ⟨F7, ι6, st6, ρ2, A3', Post.bindDel back_F p7 fun b st8 F8 ι8 H8 b' x8 S8 r8 p8 => ?_⟩
                cases r8
                have o8 := OwnL.ext x8 o7
                have A8 := A7.later x8 S8
                have A8' := A7'.later x8 S8
                cases b with
                | true =>
                  have p8 : Post X.K cl (rF X.K cl) F8 ι8 (del H8 D0) σ W ((el ρ2 st8).noX.bind fun y st => (((if accD6.length < sizeLine then compL g1 t1 el (ys.drop (j + 1)) (accD6 ++ [y]) (wipeE ρ1 vs1) else M.stuck) st).bind fun acc => comp2L g t src1 g1 t1 el vs1 (xs.drop (i + 1)) acc (wipeE ρ vs)).noX) Q := by
                    have p8 : Post X.K cl (rF X.K cl) F8 ι8 (del H8 D0) σ W ((((el ρ2 st8).bind fun y => if accD6.length < sizeLine then compL g1 t1 el (ys.drop (j + 1)) (accD6 ++ [y]) (wipeE ρ1 vs1) else M.stuck).bind fun acc => comp2L g t src1 g1 t1 el vs1 (xs.drop (i + 1)) acc (wipeE ρ vs)).noX) Q := p8
                    cases e9 : el ρ2 st8 <;> rw [e9] at p8 <;> exact p8
                  refine iteT ⟨F8, ι8, st8, ρ2, A3'.later x8 S8, Post.bindDel back_F p8 fun d st9 F9 ι9 H9 y9 x9 S9 r9 p9 => ?_⟩
                  obtain ⟨acc9, h9, ra9, nF9, nι9⟩ := OwnL.ext x9 o8
                  by_cases hz : accD6.length < sizeLine
                  · rw [if_pos hz] at p9
                    refine ⟨acc9, h9, by rw [ra9.length]; exact hz, F9, ι9, st9, acc9 ++ [y9], accD6 ++ [d], (l6.trans x7.le).trans (x8.le.trans x9.le), At.updFree (A8.later x9 S9) h9 nF9 nι9 nB nO, At.updFree (A8'.later x9 S9) h9 nF9 nι9 nB nO1, upd_same, ra9.append (.one r9), nF9, nι9, ?_⟩
                    rw [del_upd]
                    exact p9
                  · rw [if_neg hz] at p9
                    exact p9.elim
                | false =>
                  replace p8 : Post X.K cl (rF X.K cl) F8 ι8 (del H8 D0) σ W (((compL g1 t1 el (ys.drop (j + 1)) accD6 (wipeE ρ1 vs1) st8).bind fun acc => comp2L g t src1 g1 t1 el vs1 (xs.drop (i + 1)) acc (wipeE ρ vs)).noX) Q := p8
                  obtain ⟨acc9, h9, ra9, nF9, nι9⟩ := o8
                  exact iteF ⟨F8, ι8, st8, acc9, accD6, (l6.trans x7.le).trans x8.le, A8, A8', h9, ra9, nF9, nι9, p8⟩
          · left
            have ed1 : ys.drop j = [] := List.drop_eq_nil_of_le (Nat.le_of_not_lt hj)
            rw [ed1] at p6
            replace p6 : Post X.K cl (rF X.K cl) F6 ι6 (del H6 D0) σ W (comp2L g t src1 g1 t1 el vs1 (xs.drop (i + 1)) accD6 (wipeE ρ vs) st6).noX Q := p6
            exact ⟨wk1.stop j F6 ι6 H6 st6 (Nat.le_of_not_lt hj) l6 A6.sim, F6, ι6, st6, acc6, accD6, l5.trans l6, A6, h6, ra6, nF6, nι6, p6⟩
        | false =>
          replace p4 : Post X.K cl (rF X.K cl) F4 ι4 (del H4 D0) σ W ((comp2L g t src1 g1 t1 el vs1 (xs.drop (i + 1)) accD (wipeE ρ vs) st4).noX) Q := p4
          obtain ⟨acc4, h4, ra4, nF4, nι4⟩ := o4
          exact iteF ⟨F4, ι4, st4, acc4, accD, (l2.trans x3.le).trans x4.le, A4, h4, ra4, nF4, nι4, p4⟩
    · left
      have ed : xs.drop i = [] := List.drop_eq_nil_of_le (Nat.le_of_not_lt hi)
      rw [ed] at p2
      exact ⟨wk.stop i F2 ι2 H2 st2 (Nat.le_of_not_lt hi) l2 A2.sim, p2 F2 ι2 H2 _ Ext.toDel A2.sim ⟨D0, rfl, ⟨acc, hD2, ra, nF2, nι2⟩, del_same⟩⟩
theorem df_comp2 {e : Expr} {vs ws vs1 ws1 : List Nat} {src src1 : Env → M (List D)} {g g1 : GM} {t t1 : Env → M Bool} {el : Env → M D} (h : PE X e (tLc2 (tW X.K cl B W src) (tGt X.K cl B ws g) (tT X.K cl B W0 t) (tW X.K cl B W0 src1) (tGt X.K cl B ws1 g1) (tT X.K cl B W0 t1) (tE X.K cl B W0 el) vs vs1))
    (hw : ∀ i ∈ ws, i ∈ vs) (hw1 : ∀ i ∈ ws1, i ∈ vs1) (hg : GOk ws g) : DF X cl B W e (fComp2 vs vs1 src g t src1 g1 t1 el) :=
  weakE h fun _ _ _ q => tLc2_of hw hw1 hg q
theorem ds_ownComp2 {s : Stmt} {i : Nat} {vs ws vs1 ws1 : List Nat} {src src1 : Env → M (List D)} {g g1 : GM} {t t1 : Env → M Bool} {el : Env → M D} (h : PS X s (tAsg (tLc2 (tW X.K cl B W src) (tGt X.K cl B ws g) (tT X.K cl B W0 t) (tW X.K cl B W0 src1) (tGt X.K cl B ws1 g1) (tT X.K cl B W0 t1) (tE X.K cl B W0 el) vs vs1) (gName i)))
    (hw : ∀ i ∈ ws, i ∈ vs) (hw1 : ∀ i ∈ ws1, i ∈ vs1) (hg : GOk ws g) : DS X cl B W s (sOwn i (fComp2 vs vs1 src g t src1 g1 t1 el)) :=
  weakS h fun D σ H ⟨F, ι, st, ρ, A, q⟩ => tLc2_of hw hw1 hg ⟨F, ι, st, ρ, A, PostS.bind A q fun d st' F' ι' H' v x S r p => by
    obtain ⟨a, rfl, o, n⟩ := r
    have A' := A.later x S
    exact p F' ι' H' _ (.refl F' ι') (A'.setOwn o (none_back A.ext.t n) fun j ys e _ => A.fresh n j ys e)⟩
/-- y = [..] where y's list is frozen at once -/
theorem frzC_ok {i : Nat} {D : Ends} {F H : Hp} {ι : List Addr} {st : Store} {σ : L2.St} {ρ : Env} {f : Env → M (List DL.D)} (A : At X.K cl B F ι H st σ ρ) (q : PostS X.K cl B W F ι D (sAsg (eFrz f) (gVar i) ρ st)) : tF X.K cl B W f σ H fun v H' => gName i v σ H' D.nx :=
  ⟨F, ι, st, ρ, A, by
    have q : PostS X.K cl B W F ι D ((((f ρ st).bind fun xs => M.ret (DL.D.lst xs))).then ρ fun d st => .next (ρ.set i (.val d)) st) := q
    cases e : f ρ st with
    | stuck => rw [e] at q; exact q.elim
    | exc x st' => rw [e] at q; exact fun F' ι' H' cv dd x S rx => q F' ι' H' σ cv dd x.le (A.later x S) rx
    | ok xs st' =>
      rw [e] at q
      intro F' ι' H' v x S r
      obtain ⟨a, rfl, ⟨vs, h1, h2, h3, h4⟩, n⟩ := r
      obtain ⟨y, T⟩ := freeze S x h1 h3 h4 n
      have A' := A.later y T
      exact q _ ι' H' _ y.le (A'.setVal (.lst (SqL.of upd_same) (h2.up (fun a o e => by rw [upd_ne (ne_of_none e h3)]; exact e) (List.prefix_refl _))))⟩
theorem ds_frzComp {s : Stmt} {i : Nat} {vs ws : List Nat} {src : Env → M (List D)} {g : GM} {t : Env → M Bool} {el : Env → M D} (h : PS X s (tAsg (tLc (tW X.K cl B W src) (tGt X.K cl B ws g) (tT X.K cl B W0 t) (tE X.K cl B W0 el) vs) (gName i))) (hw : ∀ i ∈ ws, i ∈ vs) : DS X cl B W s (sAsg (eFrz (fComp vs src g t el)) (gVar i)) :=
  weakS h fun D σ H ⟨F, ι, st, ρ, A, q⟩ => tLc_of hw (frzC_ok A q)
theorem ds_frzComp2 {s : Stmt} {i : Nat} {vs ws vs1 ws1 : List Nat} {src src1 : Env → M (List D)} {g g1 : GM} {t t1 : Env → M Bool} {el : Env → M D} (h : PS X s (tAsg (tLc2 (tW X.K cl B W src) (tGt X.K cl B ws g) (tT X.K cl B W0 t) (tW X.K cl B W0 src1) (tGt X.K cl B ws1 g1) (tT X.K cl B W0 t1) (tE X.K cl B W0 el) vs vs1) (gName i)))
    (hw : ∀ i ∈ ws, i ∈ vs) (hw1 : ∀ i ∈ ws1, i ∈ vs1) (hg : GOk ws g) : DS X cl B W s (sAsg (eFrz (fComp2 vs vs1 src g t src1 g1 t1 el)) (gVar i)) :=
  weakS h fun D σ H ⟨F, ι, st, ρ, A, q⟩ => tLc2_of hw hw1 hg (frzC_ok A q)
end
end DL
end
section
/-! DL15: what the generator's terms lean on: binding, recursion, lookups in written dicts, whole lists by index. -/
namespace DL
open PySem PySem.Spec PyProof.Rows L2
theorem kb_of {K : PySem.W.Frag} {x qual : Str} {st : Stmt} {f : Addr} {fd : FuncData} {ps ks : List Str} {n : Nat} {ix : List Nat} (F : Fun K x qual st f fd)
    (h : ∀ (kV doc pm : Value) (an : Option Addr) (cdv ct : Value) (us ws : List Value), us.length = n → ws.length = ks.length → bindArgs (PySem.W.fnOf x qual (defArgs st) (defBody st) (defScope st) .none kV doc pm an cdv ct) ⟨us, ks.zip ws⟩ = pure (ps.zip (perm n ks.length ix us ws))) : KB K fd ps ks n ix := by
  obtain ⟨oc, od, kV, doc, pm, an, cdv, ct, osl, rfl, lk, hcd⟩ := F.ex
  exact ⟨fun us ws h1 h2 _ => h kV doc pm an cdv ct us ws h1 h2⟩
theorem fnok_stuck {P : Program} {w : World} {K : PySem.W.Frag} {mg : Str → Option Value} {base : Heap} {cl : Str → Option Addr} {k : Nat} {f : Addr} {fd : FuncData} {ps : List Str} : FnOk P w K mg base (L2.CX P w) k f fd ps (spD K cl ps.length fun _ _ => .stuck) :=
  ⟨fun vs H Q E h => h.1, fun A outer s H args us vs Q E hr e hb hv hs => by
    obtain ⟨_, _, _, _, _, _, _, q⟩ := hs
    exact q.elim⟩
/-! ### lookups in dicts with keys ints and texts -/
def dicS : D → Store → Option (List (D × D))
  | .dic kds, _ => some kds
  | .loc l, st => match st[l]? with
    | some (.dic kds) => some kds
    | _ => none
  | _, _ => none
theorem RB.dicS {K : PySem.W.Frag} {cl : Str → Option Addr} {F H : Hp} {ι : List Addr} {st : Store} (S : Sim K cl F ι H st) {v : V} {d : D} {kds : List (D × D)} (r : RB K cl F ι H v d) (h : DL.dicS d st = some kds) : ∃ a kvs, v = .ref a ∧ H a = some (.dK kvs) ∧ RKs K cl F ι kvs kds := by
  cases d with
  | dic ks =>
    simp only [DL.dicS, Option.some.injEq] at h
    subst h
    rcases r with r | ⟨_, _, _, e, _⟩
    · cases r with
      | dicK e q => exact ⟨_, _, rfl, S.sub _ _ e, q⟩
    · cases e
  | loc l =>
    simp only [DL.dicS] at h
    split at h
    · rename_i e
      cases h
      obtain ⟨a, rfl, _, ro⟩ := r.loc S e
      cases ro with
      | dicK e q => exact ⟨_, _, rfl, e, q⟩
    · cases h
  | _ => cases h
/-- d[k] -/
def dixP : P2 := fun x y st => (dicS x st).bind fun kds => dGet kds y
section
variable {X : Cx} {cl : Str → Option Addr} {B : Base} {W : WX} {pos : Pos}
theorem dGet_at {K : PySem.W.Frag} {F H : Hp} {ι : List Addr} {a : Addr} {kvs : List (Key × V)} {kds : List (D × D)} {u : V} {e : D} {q : Key} (h : H a = some (.dK kvs)) (r : RKs K cl F ι kvs kds) (ru : RV K cl F ι u e) (hq : kD e = some q) :
    ∃ o, DGet H a u o ∧ ((∃ v d, o = some v ∧ dGet kds e = some d ∧ RV K cl F ι v d) ∨ (o = none ∧ dGet kds e = none)) := by
  have eu := kD_val ru hq
  subst eu
  refine ⟨_, DGet.k h, ?_⟩
  unfold dGet
  rw [hq]
  exact (r.get (q := q)).imp (fun ⟨v, d, h1, h2, h3⟩ => ⟨v, d, h1, h2, h3⟩) fun h => h
theorem de_dix (hu : X.A.units + 64 < cLine) {a b : Expr} {f g : Env → M D} (ha : DB X cl B W a f) (hb : DE X cl B W b g) (hs : NoSl b) : DE X cl B W (.Subscript a b pos) (e2 dixP f g) :=
  weakE (pe_dget (by omega) ha hb hs) fun σ H Q ⟨F, ι, st, ρ, A, q⟩ => ⟨F, ι, st, ρ, A, Post.bind back_V q fun d st1 F1 ι1 H1 v x1 S1 r1 q1 =>
    ⟨F1, ι1, st1, ρ, A.later x1 S1, Post.bind back_V q1 fun e st2 F2 ι2 H2 u x2 S2 r2 q2 => by
      obtain ⟨z, hz, k⟩ := look_ok q2
      obtain ⟨kds, h1, h2⟩ := Option.bind_eq_some_iff.mp hz
      obtain ⟨p, kvs, rfl, hp, rk⟩ := RB.dicS S2 (RB.ext x2 r1) h1
      cases hq : kD e with
      | none => unfold dGet at h2; rw [hq] at h2; cases h2
      | some q =>
        obtain ⟨o, g, h | h⟩ := dGet_at hp rk r2 hq
        · obtain ⟨v, d', rfl, h3, h4⟩ := h
          rw [h2] at h3
          cases h3
          exact ⟨p, v, rfl, g, k F2 ι2 H2 v .refl S2 h4⟩
        · rw [h2] at h; cases h.2⟩⟩
/-- a new empty dict -/
theorem de_dic0 : DE X cl B W (.Dict [] [] pos) (eConst (.dic [])) :=
  weakE pe_dnewK fun σ H Q ⟨F, ι, st, ρ, A, q⟩ p hp => by
    obtain ⟨y, T⟩ := newF (o := .dK []) A.sim hp
    exact q _ ι _ (.ref p) y T (.dicK upd_same .nil)
/-! ### list.index, tuple.index -/
def idxP (xs : List D) (y : D) : Option D := if fit 60 y = true ∧ xs.all (fit 60) = true then (xs.findIdx? fun x => deq x y).map fun j => .int j else none
end
end DL
end
section
/-! DV1: a def whose first row is super().m(..). -/
namespace DL
open PySem PySem.Spec PyProof.Rows L2
theorem look_zip : ∀ {P : List Str} {vs : List Value} {i : Nat} {x : Str} {v : Value}, P.Nodup → P[i]? = some x → vs[i]? = some v → (P.zip vs).reverse.lookup x = some v
  | [], _, _, _, _, _, h, _ => by simp at h
  | _ :: _, [], _, _, _, _, _, h => by simp at h
  | p :: P, w :: vs, 0, x, v, nd, h1, h2 => by
    simp at h1 h2
    subst h1; subst h2
    rw [List.zip_cons_cons, List.reverse_cons, List.lookup_append]
    have : (P.zip vs).reverse.lookup p = none := by
      rw [List.lookup_eq_none_iff]
      intro q hq
      have hm := (List.of_mem_zip (List.mem_reverse.mp hq)).1
      simp only [bne_iff_ne, ne_eq]
      rintro rfl
      exact (List.nodup_cons.mp nd).1 hm
    rw [this]
    simp
  | p :: P, w :: vs, i + 1, x, v, nd, h1, h2 => by
    rw [List.zip_cons_cons, List.reverse_cons, List.lookup_append, look_zip (i := i) (List.nodup_cons.mp nd).2 (by simpa using h1) (by simpa using h2)]
    rfl
/-- names: the parameters first; all local, but __class__ -/
structure FnScopeS (N P : List Str) (sc : Scope) : Prop where
  kind : sc.kind = .function
  co : sc.isCoroutine = false
  gen : sc.isGenerator = false
  nd : N.Nodup
  pre : N.take P.length = P
  par : ∀ x ∈ P, sc.names.lookup x = some .local
  nocell : ∀ y ∈ sc.names, y.2 ≠ .cell
  free : ∀ y ∈ sc.names, y.2 = .free → y.1 = "__class__"
  su : sc.names.lookup ("super" : Str) = some .globalImplicit
  cc : sc.names.lookup ("__class__" : Str) = some .free
abbrev supEnv (qual : Str) (scope : Scope) (L f : Addr) (cdv : Value) (cc : Addr) : PySem.Env := PySem.W.ksEnv qual scope L f cdv cc
/-- its context -/
def cxSup (CX : CXT) (P : Program) (w : World) (K : PySem.W.Frag) (mg : Str → Option Value) (base : Heap) (N : List Str) (qual : Str) (scope : Scope) (f cc : Addr) (cd : Value) (A : Around) (outer : List PySem.Env) (s : Shared) (H : Hp) (E : XK) : Cx where
  prog := P
  w := w
  K := K
  mg := mg
  base := base
  A := A.deeper (supEnv qual scope s.heap.objs.size f cd cc)
  N := N
  s_0 := s
  H_0 := H
  env := supEnv qual scope s.heap.objs.size f cd cc
  outer := outer
  stack := supEnv qual scope s.heap.objs.size f cd cc :: outer
  ex := []
  calm := true
  fn := fun x => x != "__class__"
  pn := []
  xe := fun e s' => wpAny (model P w) (A.deeper (supEnv qual scope s.heap.objs.size f cd cc)) (leaving (supEnv qual scope s.heap.objs.size f cd cc) e) (fun _ s'' => CX outer H s E e s'') (fun e' s'' => CX outer H s E e' s'') s'
section
variable {CX : CXT} {P : Program} {w : World} {K : PySem.W.Frag} {mg : Str → Option Value} {base : Heap} {N ps : List Str} {qual : Str} {scope : Scope} {f cc : Addr} {cd : Value} {A : Around} {outer : List PySem.Env} {s : Shared} {H : Hp} {E : XK} {us : List Value} {vs : List V} {h1 : Heap}
theorem cells_sup {x : Str} {c : Addr} (h : (cxSup CX P w K mg base N qual scope f cc cd A outer s H E).env.cells.lookup x = some c) : x = "__class__" ∧ c = cc := by
  have h : ([("__class__", cc)] : List (Str × Addr)).lookup x = some c := h
  rw [List.lookup_cons] at h
  split at h
  · rename_i e
    cases h
    exact ⟨eq_of_beq e, rfl⟩
  · cases h
theorem inv_startS {oc : Value} {od : Option Addr} {osl : Array (Option Value)} {cv : Option Value} (S : FnScopeS N ps scope) (hd : A.handled = none) (e0 : Env0 P w K mg base A outer s H) (hc : K.lookup cc = some ⟨oc, od, .cell cv, osl⟩) (hl : vs.length = ps.length) (r : Vals vs us)
    (ns : h1.Ns s.heap.objs.size (fun x => (ps.zip us).reverse.lookup x)) (hk : ∀ b o, s.heap.get? b = some o → h1.get? b = some o) (tk : Nat) :
    Inv (cxSup CX P w K mg base N qual scope f cc cd A outer s H E) [] (L2.start N vs) H { s with heap := h1, toks := tk } := by
  have hpl : ps.length ≤ N.length := by have := congrArg List.length S.pre; rw [List.length_take] at this; omega
  have noA : ∀ b : Addr, b ∉ (cxSup CX P w K mg base N qual scope f cc cd A outer s H E).ex := fun b z => absurd (show b ∈ ([] : List Addr) from z) (by simp)
  have bc : base.get? cc = some ⟨oc, od, .cell cv, osl⟩ := e0.mod.kin _ _ hc
  refine ⟨⟨e0.mod, S.kind, rfl, rfl, Nat.le_refl _, fun y z c a b => ?_, fun y hy => ?_, fun y c hf a => ?_, fun _ => hd, Around.frames_deeper e0.frames, .inr ⟨rfl, rfl⟩, fun b z => absurd z (noA b), e0.bs, e0.bsz, fun b _ _ => noA b, fun b z => absurd z (noA b), e0.funs, e0.frf⟩,
    rfl, e0.bare, Un.kept hk, ⟨_, ns, fun i y v a b c => ?_⟩, fun y c h => ?_, e0.hok.fresh (Nat.le_refl _), fun y c h => ?_, fun p hp => absurd (show p ∈ ([] : List (Addr × Obj)) from hp) (by simp), e0.hok.kept hk, ?_⟩
  · rw [(cells_sup a).1, (cells_sup b).1]
  · have hy : scope.names.lookup y = some .cell ∨ scope.names.lookup y = some .free := hy
    rcases hy with hy | hy
    · exact absurd rfl (S.nocell _ (PySem.mem_of_lookup hy))
    · have e := S.free _ (PySem.mem_of_lookup hy) rfl
      dsimp only at e
      subst e
      exact ⟨cc, by show ([("__class__", cc)] : List (Str × Addr)).lookup _ = _; rw [List.lookup_cons]; simp⟩
  · have e := (cells_sup a).1
    subst e
    exact absurd hf (by show ¬ ((("__class__" : Str) != "__class__") = true); simp)
  · have b : (L2.start N vs)[i]? = some (some v) := b
    have hi : i < vs.length := by
      unfold L2.start at b
      by_cases hi : i < vs.length
      · exact hi
      · rw [List.getElem?_append_right (by simpa using hi)] at b
        rw [List.getElem?_replicate] at b
        split at b <;> cases b
    have ha : vs[i]? = some v := by
      unfold L2.start at b
      rw [List.getElem?_append_left (by simpa using hi), List.getElem?_map] at b
      cases e : vs[i]? with
      | none => rw [e] at b; cases b
      | some a => rw [e] at b; cases b; rfl
    obtain ⟨u, hu, rv⟩ := r.get ha
    have hp : ps[i]? = some y := by
      rw [← S.pre, List.getElem?_take_of_lt (by omega)]; exact a
    have ndP : ps.Nodup := by rw [← S.pre]; exact S.nd.sublist (List.take_sublist _ _)
    exact ⟨u, rv, .inl ⟨S.par y (List.mem_of_getElem? hp), look_zip ndP hp hu⟩⟩
  · rw [(cells_sup h).2]
    exact ⟨cv, _, hk _ _ (e0.bs _ _ bc).1, rfl⟩
  · rw [(cells_sup h).2]
    exact (e0.bs _ _ bc).2
  · unfold L2.start
    show _ = N.length
    rw [List.length_append, List.length_map, List.length_replicate]
    omega
end
/-- a def of the text with a free __class__ -/
structure FunS (P : Program) (K : PySem.W.Frag) (x qual : Str) (st : Stmt) (f : Addr) (fd : FuncData) (cc D : Addr) : Prop where
  ex : ∃ (oc : Value) (od : Option Addr) (kV doc pm : Value) (an : Option Addr) (ct : Value) (osl : Array (Option Value)) (cda : Addr) (ccl : Value) (cdd : Option Addr) (ccs : Array (Option Value)) (fv : Array Value) (file : Str) (tf : Tok) (cl : Value) (cld : Option Addr) (csl : Array (Option Value)),
    fd = PySem.W.ksFn x qual (defArgs st) (defBody st) (defScope st) .none kV doc pm an (.ref cda) ct cc ∧ K.lookup f = some ⟨oc, od, .func fd, osl⟩ ∧ PySem.W.codeIn K (.ref cda) qual = true ∧
    K.lookup cda = some ⟨ccl, cdd, .fields fv, ccs⟩ ∧ fv[2]? = some (.str file tf) ∧ ((P.main.file : Str) == file) = true ∧ K.lookup cc = some ⟨cl, cld, .cell (some (.ref D)), csl⟩
  kp : PySem.W.keepIn K (.ref f) = true
  isD : PySem.W.isClsIn K D = true
  noB : PySem.W.nsIn K mainGlobals "super" = some none
  top : (P.main.scope.names.lookup ("super" : Str)).isSome = false
  op : PySem.W.nsIn K PySem.cStatics "thirdparty.any" = some none
/-- what super().m is, for an instance of C -/
structure SupC (K : PySem.W.Frag) (C D : Addr) (m : Str) (g : Addr) : Prop where
  sub : PySem.W.mroIn K C (.ref D) = some true
  at_ : PySem.W.ks_superIn K C D m = some (some (.ref g))
  ty : PySem.W.typeIn K (.ref g) = some (.type "function")
  fi : PySem.W.fnIn K g = true
/-- THE RULE: a def whose first row is super().m(e, ..): the body behind it -/
theorem fn_sup {CX : CXT} {P : Program} {w : World} {K : PySem.W.Frag} {mg : Str → Option Value} {base : Heap} {k : Nat} {x qual m : Str} {sd : Stmt} {f cc D g : Addr} {fd : FuncData} {N ps : List Str} {sp : Sp} {ar : Arg} {e : Expr} {es : List Expr} {rest : List Stmt} {p0 p1 p2 p3 p4 : Pos} {pl : PySem.Env → Sem Bool} (Fn : FunS P K x qual sd f fd cc D)
    (S : FnScopeS N ps (defScope sd)) (hbd : defBody sd = .Expr (.Call (.Attribute (.Call (.Name "super" p0) [] [] p1) m p2) (e :: es) [] p3) p4 :: rest) (har : ((defArgs sd).posonlyargs ++ (defArgs sd).args).head? = some ar) (hps : ps.head? = some ar.arg)
    (hm : (m == ("__class__" : Str)) = false) (len : ∀ vs H Q E, sp vs H Q E → vs.length = ps.length)
    (hbody : ∀ (cda : Addr) (A : Around) (outer : List PySem.Env) (s : Shared) (H : Hp) (vs : List V) (Q : VK) (E : XK), Room k (A.deeper (supEnv qual (defScope sd) s.heap.objs.size f (.ref cda) cc)) → sp vs H Q E →
      ∃ (x0 C dx : Addr) (vfs : List (Str × V)) (ws : List V) (ta : TA) (sp2 : Sp) (E2 : XK), vs = .ref x0 :: ws ∧ H x0 = some (.ins C dx vfs) ∧ SupC K C D m g ∧ FnR P w K mg base CX k g sp2 ∧
        PA (cxSup CX P w K mg base N qual (defScope sd) f cc (.ref cda) A outer s H E) (e :: es) ta ∧ Passes CX (cxSup CX P w K mg base N qual (defScope sd) f cc (.ref cda) A outer s H E) E2 ∧
        ta (L2.start N vs) H fun us H1 => sp2 (.ref x0 :: us) H1 (fun _ H2 => ∃ t, PSs (cxSup CX P w K mg base N qual (defScope sd) f cc (.ref cda) A outer s H E) rest t ∧ t { nx := fun _ H' => Q .non H', rt := Q } (L2.start N vs) H2) E2)
    (hst : ∀ env : PySem.Env, starEach (e :: es) env = (false, eval e env) :: starEach es env := by intro env; rfl) (hpl : ∀ env : PySem.Env, (backTo p3 (starEach es env)).any (·.1) = false := by intro env; rfl)
    (ht : ∀ env : PySem.Env, eval (.Call (.Attribute (.Call (.Name "super" p0) [] [] p1) m p2) (e :: es) [] p3) env = (do
      let ov ← attributeBase (.Call (.Name "super" p0) [] [] p1) m env (eval (.Call (.Name "super" p0) [] [] p1) env)
      standAt p2.atName
      let (f, first) ← holding [ov] (getMethod ov m (pl env))
      callWith p3 f first (backTo p3 (starEach (e :: es) env)) []) := by intro env; rfl)
    (hsw : ∀ env : PySem.Env, swapsWith (.Call (.Attribute (.Call (.Name "super" p0) [] [] p1) m p2) (e :: es) [] p3) none p4.line env = pure false := by intro env; rfl) :
    FnOk P w K mg base CX (k + 1) f fd ps sp := by
  obtain ⟨oc, od, kV, doc, pm, an, ct, osl, cda, ccl, cdd, ccs, fv, file, tf, cl, cld, csl, rfl, lk, hcd, lcode, hfv, hfile, lcell⟩ := Fn.ex
  refine ⟨len, fun A outer s H args us vs Q E hr e0 hb r hsp => ?_⟩
  have hl := len _ _ _ _ hsp
  have KX : K.In s.heap := e0.mod.kin.keeps fun b o e => (e0.bs b o e).1
  have lim : s.heap.NoLimit := e0.mod.nolimit.keeps fun b o e => (e0.bs b o e).1
  obtain ⟨x0, C, dx, vfs, ws, ta, sp2, E2, rfl, hx0, hC, hg, hta, hpass, hq⟩ := hbody cda A outer s H vs Q E (hr.deeper _) hsp
  refine ks_codeAny_call_defAt (fd := PySem.W.ksFn x qual (defArgs sd) (defBody sd) (defScope sd) .none kV doc pm an (.ref cda) ct cc) (body := defBody sd) (binds := ps.zip us) hr.depth (KX _ _ lk) rfl lim (PySem.W.codeRec_of KX hcd) rfl hb S.nocell
    (fun y hy => S.par _ (List.of_mem_zip hy).1) (fun h1 ns hk => ?_) S.co S.gen S.kind
  have I : Inv (cxSup CX P w K mg base N qual (defScope sd) f cc (.ref cda) A outer s H E) [] (L2.start N (.ref x0 :: ws)) H { s with heap := h1, toks := s.toks + (ps.zip us).length } := inv_startS S hr.hd e0 lcell hl r ns hk _
  have fin : ∀ {σ' : L2.St} {H' : Hp} {v : V} {u : Value} {s' : Shared}, Inv (cxSup CX P w K mg base N qual (defScope sd) f cc (.ref cda) A outer s H E) [] σ' H' s' → RelV v u → Q v H' → CE outer P w H s Q u s' :=
    fun {σ' H' v u s'} J rv q => ⟨v, H', J.os, J.bare, J.base, J.hok, rv, q⟩
  rw [hbd]
  refine ks_wpAt_execs_cons (ks_wpAt_Expr_any (ks_wpAt_MethodCall ?_ (ht _)) (I.quiet) (hsw _))
  have hself : (ps.zip us).reverse.lookup ar.arg = some (.ref x0) := by
    have ndP : ps.Nodup := by rw [← S.pre]; exact S.nd.sublist (List.take_sublist _ _)
    cases r with
    | cons rv r' =>
      obtain rfl : _ = Value.ref x0 := rv
      exact look_zip (i := 0) ndP (by cases ps with | nil => cases hps | cons p q => simpa using hps) rfl
  have hpar : (defScope sd).names.lookup ar.arg = some .local := S.par _ (by cases ps with | nil => cases hps | cons p q => simp at hps; rw [hps]; simp)
  obtain ⟨cdD, hD⟩ := Option.isSome_iff_exists.mp (show (PySem.W.clsIn K D).isSome = true from Fn.isD)
  have X1 : K.In h1 := I.kIn
  obtain ⟨oD, hD1, hD2⟩ : ∃ oD, h1.get? D = some oD ∧ oD.data = .cls cdD := by
    unfold PySem.W.clsIn at hD
    split at hD
    · rename_i c d cd' sl ho
      cases hD
      exact ⟨_, X1 _ _ ho, rfl⟩
    · cases hD
  obtain ⟨mA, O, _, _, _, _⟩ := ins_get I.hok hx0
  obtain ⟨odx, J, _⟩ := O.look
  obtain ⟨mb, hbn, hbb⟩ := e0.mod.blt
  have mk : ∀ b o, base.get? b = some o → h1.get? b = some o := fun b o z => (I.bs b o z).1
  refine ks_wpAt_super_base (env := supEnv qual (defScope sd) s.heap.objs.size f (.ref cda) cc) S.su S.cc hm rfl (X1 _ _ lk) rfl har rfl (X1 _ _ lcode) rfl hfv hfile Fn.top ?_
  refine PySem.W.ks_loadName_global S.kind S.su (PySem.Calls.loadGlobal_builtin (env := supEnv qual (defScope sd) s.heap.objs.size f (.ref cda) cc) (e0.mod.glob.keeps mk) (PySem.W.mg_none_of e0.mod.kin e0.mod.glob Fn.noB) (hbn.keeps mk) ((hbb _ (by decide +kernel)).trans (by rfl)) ⟨rfl, ?_⟩)
  refine wpAny_loadName_free S.kind S.cc rfl ⟨_, X1 _ _ lcell, rfl⟩ ?_
  refine wpAny_loadName_local S.kind hpar ns hself ?_
  refine ks_wpAny_isType_cls hD1 hD2 ⟨rfl, ?_⟩
  refine ks_wpAny_call_super hD1 hD2 J.at_ J.cls (fun c e => ?_) (PySem.W.looks_mroIn X1 hC.sub) (fun h' eso k1 => ?_)
  · have := J.no
    unfold PySem.W.notCls at this
    rw [e] at this
    exact Bool.noConfusion this
  have I1 : Inv (cxSup CX P w K mg base N qual (defScope sd) f cc (.ref cda) A outer s H E) [] (L2.start N (.ref x0 :: ws)) H { s with heap := h', toks := s.toks + (ps.zip us).length } := I.kept k1
  have X2 : K.In h' := I1.kIn
  cases hcl : PySem.W.clsIn K C with
  | none => 
    have hm' := hC.at_
    unfold PySem.W.ks_superIn at hm'
    rw [hcl] at hm'
    cases hm'
  | some cdC =>
  have hm' := hC.at_
  unfold PySem.W.ks_superIn at hm'
  rw [hcl] at hm'
  obtain ⟨of, hof, hofc⟩ : ∃ of, h'.get? g = some of ∧ of.cls = .type "function" := by
    have ht' : (K.lookup g).map (·.cls) = some (.type "function") := hC.ty
    cases z : K.lookup g with
    | none => rw [z] at ht'; cases ht'
    | some of => rw [z] at ht'; exact ⟨of, X2 _ _ z, Option.some.inj ht'⟩
  have hxC : x0 ≠ C := by
    rintro rfl
    unfold PySem.W.clsIn at hcl
    split at hcl
    · rename_i ho
      have e := X1 _ _ ho
      have e2 := J.at_
      dsimp only at e2
      rw [e] at e2
      have e3 := J.no
      cases e2
    · cases hcl
  refine ks_wpAny_getMethod_super eso (PySem.W.looks_opaque X2 Fn.op) (l₀ := cdC.mro) ?_ rfl X2 hm' hof hofc hxC hm ?_
  · exact fun A Q E s k q => wpAny_bind ((PySem.W.looks_clsIn X2 hcl) A _ E s k (wpAny_pure q))
  have I2 := ClX.met_new (g := g) (C := x0) I1
  refine ClX.callwith_cm I2 (ClX.base_none I1 (Nat.le_refl _)) hC.fi (thn (hta.run p3 _ _ _ H _ I2 hq) fun us2 s3 ⟨vs2, H2, I3, rv, q2⟩ => ⟨⟨ClX.pin_at I3, I3.kIn⟩, ?_⟩) (hst _) (hpl _)
  refine thn (ClX.run_cm hg ((hr.deeper (supEnv qual (defScope sd) s.heap.objs.size f (.ref cda) cc))) hpass I3 rv q2) fun u s4 ⟨v, H4, I4, _, t, ht, hqt⟩ => ?_
  refine wpAt_of_wpAny (wpAny_mono (ht.run [] s4 _ _ _ I4 hqt) (fun fl s' hs => ?_) fun e s' hs => hs)
  cases fl with
  | ret u =>
    obtain ⟨v, σ', H', J, rv, q⟩ := hs
    exact fin J rv q
  | next =>
    obtain ⟨σ', H', J, q⟩ := hs
    exact fin (v := V.non) (u := Value.none) J rfl q
  | brk =>
    obtain ⟨_, _, _, q⟩ := hs
    exact False.elim q
  | cont =>
    obtain ⟨_, _, _, q⟩ := hs
    exact False.elim q
end DL
end
section
/-! DV2: defs whose first row is super().m(..), as functions of data; defs with a star parameter. -/
namespace DL
open PySem PySem.Spec PyProof.Rows L2
def spR (K : PySem.W.Frag) (cl : Str → Option Addr) (b : BM) : Sp := fun vs H Q E => ∃ F ι st ds, Sim K cl F ι H st ∧ RVs K cl F ι vs ds ∧ Post K cl (rV K cl) F ι H [] (fun cv dd _ H => E cv dd H) (b ds st) Q
def bLen (n : Nat) (b : BM) : BM := fun ds => if ds.length = n then b ds else M.stuck
theorem fnr_of {P : Program} {w : World} {K : PySem.W.Frag} {mg : Str → Option Value} {base : Heap} {cl : Str → Option Addr} {k n : Nat} {f : Addr} {fd : FuncData} {ps : List Str} {b : BM} (F : FnOk P w K mg base (L2.CX P w) k f fd ps (spD K cl n b)) (hb : Binds K fd ps []) : FnR P w K mg base (L2.CX P w) k f (spR K cl (bLen n b)) :=
  (F.raw hb .nil).imp fun vs H Q E ⟨F, ι, st, ds, S, r, q⟩ => by
    unfold bLen at q
    split at q
    · rename_i h
      rw [List.append_nil]
      exact ⟨by rw [r.length]; exact h, F, ι, st, ds, S, r, q⟩
    · exact q.elim
inductive SupAll (K : PySem.W.Frag) (cl : Str → Option Addr) (D : Addr) (m : Str) (g : Addr) : List Str → Prop
  | nil : SupAll K cl D m g []
  | cons {c : Str} {C : Addr} {cs : List Str} : cl c = some C → SupC K C D m g → SupAll K cl D m g cs → SupAll K cl D m g (c :: cs)
theorem SupAll.get {K : PySem.W.Frag} {cl : Str → Option Addr} {D : Addr} {m : Str} {g : Addr} {cs : List Str} (h : SupAll K cl D m g cs) {c : Str} {C : Addr} (hc : c ∈ cs) (e : cl c = some C) : SupC K C D m g := by
  induction h with
  | nil => cases hc
  | cons e1 n t ih =>
    rcases List.mem_cons.mp hc with rfl | h
    · rw [e1] at e; cases e; exact n
    · exact ih h
def bEnv (n : Nat) (ds : List D) : Env := ds.map .val ++ List.replicate (n - ds.length) .none
def bSup (cs : List Str) (n : Nat) (b2 : BM) (fa : Env → M (List D)) (fb : SM) : BM := fun ds st => match ds with
  | [] => .stuck
  | d :: _ => match insS d st with
    | none => .stuck
    | some (c, _) => if c ∈ cs then (fa (bEnv n ds) st).bind fun us => M.bind (b2 (d :: us)) fun _ st => (fb (bEnv n ds) st).out else .stuck
theorem at_start {K : PySem.W.Frag} {cl : Str → Option Addr} {F H : Hp} {ι : List Addr} {st : Store} {vs : List V} {ds : List D} {N : List Str} (Sm : Sim K cl F ι H st) (r : RVs K cl F ι vs ds) : At K cl ⟨F, ι, H⟩ F ι H st (L2.start N vs) (bEnv N.length ds) := by
  refine ⟨Sm, .refl, ?_, ?_, ?_⟩
  · simp [L2.start, bEnv, r.length]
  · intro i o s h1 h2
    refine env_start r i o s (k := N.length - ds.length) ?_ h2
    rw [← r.length]
    exact h1
  · exact fun i j a xs ys h => absurd h no_own
theorem Post.noX' {K : PySem.W.Frag} {cl : Str → Option Addr} {α β : Type} {rel : Rel α β} {F H : Hp} {ι : List Addr} {σ σ' : L2.St} {E : XK} {r : R α} {Q : β → Hp → Prop} (q : Post K cl rel F ι H σ (fun cv dd _ H => E cv dd H) r Q) : Post K cl rel F ι H σ' (fun cv dd _ H => E cv dd H) r Q := by
  cases r with
  | ok _ _ => exact q
  | exc _ _ => exact q
  | stuck => exact q
theorem out_post {K : PySem.W.Frag} {cl : Str → Option Addr} {B : Base} {F : Hp} {ι : List Addr} {E : XK} {Q : VK} {r : SR} (q : Post K cl (rV K cl) B.F B.ι B.H [] (fun cv dd _ H => E cv dd H) r.out Q) : PostS K cl B (fun cv dd _ H => E cv dd H) F ι { nx := fun _ H' => Q .non H', rt := Q } r := by
  cases r with
  | next ρ st' => exact fun F' ι' H' σ l A => q F' ι' H' _ A.ext A.sim .non
  | ret d st' => exact q
  | exc x ρ st' => exact fun F' ι' H' σ cv dd l A rx => q F' ι' H' cv dd A.ext A.sim rx
  | brk ρ st' => exact q.elim
  | cont ρ st' => exact q.elim
  | stuck => exact q.elim
/-- THE RULE -/
theorem sup_ok {P : Program} {w : World} {K : PySem.W.Frag} {mg : Str → Option Value} {base : Heap} {cl : Str → Option Addr} {k : Nat} {x qual m : Str} {sd : Stmt} {f cc D g : Addr} {fd : FuncData} {N ps cs : List Str} {ar : Arg} {e : Expr} {es : List Expr} {rest : List Stmt} {p0 p1 p2 p3 p4 : Pos} {pl : PySem.Env → Sem Bool} {b2 : BM} {fa : Env → M (List DL.D)} {fb : SM} (Fn : FunS P K x qual sd f fd cc D)
    (S : FnScopeS N ps (defScope sd)) (hbd : defBody sd = .Expr (.Call (.Attribute (.Call (.Name "super" p0) [] [] p1) m p2) (e :: es) [] p3) p4 :: rest) (har : ((defArgs sd).posonlyargs ++ (defArgs sd).args).head? = some ar) (hps : ps.head? = some ar.arg)
    (hm : (m == ("__class__" : Str)) = false) (hs : SupAll K cl D m g cs) (Fo : FnR P w K mg base (L2.CX P w) k g (spR K cl b2))
    (hbody : ∀ (cda : Addr) (A : Around) (outer : List PySem.Env) (s : Shared) (H : Hp) (E : XK) (B : Base), Room k (A.deeper (supEnv qual (defScope sd) s.heap.objs.size f (.ref cda) cc)) →
      Takes (cxSup (L2.CX P w) P w K mg base N qual (defScope sd) f cc (.ref cda) A outer s H E) (fun cv dd _ H => E cv dd H) →
      DA (cxSup (L2.CX P w) P w K mg base N qual (defScope sd) f cc (.ref cda) A outer s H E) cl B (fun cv dd _ H => E cv dd H) (e :: es) fa ∧
      DSs (cxSup (L2.CX P w) P w K mg base N qual (defScope sd) f cc (.ref cda) A outer s H E) cl B (fun cv dd _ H => E cv dd H) rest fb)
    (hst : ∀ env : PySem.Env, starEach (e :: es) env = (false, eval e env) :: starEach es env := by intro env; rfl) (hpl : ∀ env : PySem.Env, (backTo p3 (starEach es env)).any (·.1) = false := by intro env; rfl)
    (ht : ∀ env : PySem.Env, eval (.Call (.Attribute (.Call (.Name "super" p0) [] [] p1) m p2) (e :: es) [] p3) env = (do
      let ov ← attributeBase (.Call (.Name "super" p0) [] [] p1) m env (eval (.Call (.Name "super" p0) [] [] p1) env)
      standAt p2.atName
      let (f, first) ← holding [ov] (getMethod ov m (pl env))
      callWith p3 f first (backTo p3 (starEach (e :: es) env)) []) := by intro env; rfl)
    (hsw : ∀ env : PySem.Env, swapsWith (.Call (.Attribute (.Call (.Name "super" p0) [] [] p1) m p2) (e :: es) [] p3) none p4.line env = pure false := by intro env; rfl) :
    FnOk P w K mg base (L2.CX P w) (k + 1) f fd ps (spD K cl ps.length (bSup cs N.length b2 fa fb)) := by
  refine fn_sup (g := g) Fn S hbd har hps hm (fun vs H Q E h => h.1) (fun cda A outer s H vs Q E hr h => ?_) hst hpl ht hsw
  obtain ⟨hl, F, ι, st, ds, Sm, r, q⟩ := h
  have tk : Takes (cxSup (L2.CX P w) P w K mg base N qual (defScope sd) f cc (.ref cda) A outer s H E) (fun cv dd _ H => E cv dd H) := takes_of rfl rfl rfl rfl
  have ha := (hbody cda A outer s H E ⟨F, ι, H⟩ hr tk).1
  cases r with
  | nil => exact q.elim
  | cons r0 rr =>
    rename_i v d vs ds
    unfold bSup at q
    dsimp only at q
    cases ei : insS d st with
    | none => rw [ei] at q; exact q.elim
    | some p =>
      obtain ⟨c, fs⟩ := p
      rw [ei] at q
      dsimp only at q
      split at q
      · rename_i hc
        obtain ⟨a, C, dx, vfs, rfl, e1, e2, e3⟩ := RV.insS Sm r0 ei
        refine ⟨a, C, dx, vfs, vs, _, _, E, rfl, e2, hs.get hc e1, Fo, ha, passes_call tk fun _ _ _ _ h => h, ?_⟩
        have A0 : At K cl ⟨F, ι, H⟩ F ι H st (L2.start N (.ref a :: vs)) (bEnv N.length (d :: ds)) := at_start Sm (.cons r0 rr)
        refine ⟨F, ι, st, _, A0, ?_⟩
        have q2 : Post K cl (rV K cl) F ι H (L2.start N (.ref a :: vs)) (fun cv dd _ H => E cv dd H) ((fa (bEnv N.length (d :: ds)) st).bind fun us => M.bind (b2 (d :: us)) fun _ st => (fb (bEnv N.length (d :: ds)) st).out) Q := q.noX'
        refine Post.bind back_V q2 fun us st1 F1 ι1 H1 vs2 x1 S1 r1 q3 => ?_
        refine ⟨F1, ι1, st1, d :: us, S1, .cons (RV.ext x1 r0) r1, ?_⟩
        have q4 : Post K cl (rV K cl) F1 ι1 H1 [] (fun cv dd _ H => E cv dd H) ((b2 (d :: us) st1).bind fun _ st => (fb (bEnv N.length (d :: ds)) st).out) Q := q3.noX'
        refine Post.bind back_V q4 fun _ st2 F2 ι2 H2 _ x2 S2 _ q5 => ?_
        have r2 : RVs K cl F2 ι2 (V.ref a :: vs) (d :: ds) := RVs.ext x2 (RVs.ext x1 (.cons r0 rr))
        exact ⟨_, (hbody cda A outer s H E ⟨F2, ι2, H2⟩ hr tk).2, F2, ι2, st2, _, at_start S2 r2, out_post (B := ⟨F2, ι2, H2⟩) q5⟩
      · exact q.elim
end DL
end
section
/-! DV3: defs with parameters and a star parameter behind them. -/
namespace DL
open PySem PySem.Spec PyProof.Rows L2
theorem cx_new (P : Program) (w : World) : CXNew (L2.CX P w) := fun outer s H h2 p rest E e s' hk hp hn ⟨a, B, H', cls, d, e1, fl, hok, ub, na, os, ag, q⟩ => by
  have ne : ∀ b o, s.heap.get? b = some o → b ≠ p := fun b o e z => by
    subst z
    exact absurd (Heap.lt_size e) (Nat.not_lt.mpr hp)
  refine ⟨a, B, H', cls, d, e1, fl, hok, ⟨fun b o e n hb => ub.keep b o (hk b o e) (by rw [upd_ne (ne b o e)]; exact n) hb, fun b o e hb => ub.slot b o (hk b o e) hb, fun b o e n => ub.free b o (hk b o e) (by rw [upd_ne (ne b o e)]; exact n), fun b o e hb => ub.there b o (hk b o e) hb,
    fun b xs q => ub.tups b xs (by rw [upd_ne (ne_of_none q hn)]; exact q), fun b o xs q => ub.frzs b o xs (by rw [upd_ne (ne_of_none q hn)]; exact q), fun b ps q => ub.tbls b ps (by rw [upd_ne (ne_of_none q hn)]; exact q)⟩, na, os, ag, q⟩
/-- a def f(a, .., *r): by its body -/
theorem fn_ofVn {CX : CXT} {P : Program} {w : World} {K : PySem.W.Frag} {mg : Str → Option Value} {base : Heap} {k : Nat} {f : Addr} {name qual : Str} {params : Arguments} {body : List Stmt} {scope : Scope} {dV kV doc pm cdv ct oc : Value} {an od : Option Addr}
    {osl : Array (Option Value)} {N pre : List Str} {pv : Str} {nmax : Nat} {sp : Sp} (lk : K.lookup f = some ⟨oc, od, .func (PySem.W.fnOf name qual params body scope dV kV doc pm an cdv ct), osl⟩) (hcd : PySem.W.codeIn K cdv qual = true) (S : FnScope N (pre ++ [pv]) scope)
    (hz : nmax ≤ sizeLine) (hb : ∀ (us rest : List Value), us.length = pre.length → rest.length ≤ nmax → bindArgs (PySem.W.fnOf name qual params body scope dV kV doc pm an cdv ct) ⟨us ++ rest, []⟩ = (newTuple rest >>= fun t => pure ((pre ++ [pv]).zip (us ++ [t]))))
    (hCX : CXNew CX)
    (hbody : ∀ (A : Around) (outer : List PySem.Env) (s : Shared) (H : Hp) (vs : List V) (Q : VK) (E : XK), Room k (A.deeper (envOfC qual scope s.heap.objs.size f cdv)) → sp vs H Q E →
      ∃ t, PSs (cxOf CX P w K mg base N qual scope f cdv A outer s H E) body t ∧ t { nx := fun _ H' => Q .non H', rt := Q } (start N vs) H) :
    FnR P w K mg base CX (k + 1) f (fun vs H Q E => pre.length ≤ vs.length ∧ vs.length ≤ pre.length + nmax ∧ ∀ p, H p = none → sp (vs.take pre.length ++ [.ref p]) (upd H p (.tup (vs.drop pre.length))) Q E) := by
  intro A outer s H us vs Q E hr e0 r hsp
  obtain ⟨hl1, hl2, hq⟩ := hsp
  have rl := r.length
  have rr : Vals (vs.drop pre.length) (us.drop pre.length) := by
    clear hl1 hl2 hq rl
    generalize pre.length = n
    induction r generalizing n with
    | nil => simp only [List.drop_nil, List.take_nil]; exact .nil
    | cons a b ih =>
      cases n with
      | zero => exact .cons a b
      | succ n => exact ih n
  have rt : Vals (vs.take pre.length) (us.take pre.length) := by
    clear hl1 hl2 hq rl rr
    generalize pre.length = n
    induction r generalizing n with
    | nil => simp only [List.drop_nil, List.take_nil]; exact .nil
    | cons a b ih =>
      cases n with
      | zero => exact .nil
      | succ n => exact .cons a (ih n)
  have hus : us = us.take pre.length ++ us.drop pre.length := (List.take_append_drop _ _).symm
  have hpl : (us.take pre.length).length = pre.length := by rw [List.length_take]; omega
  have hl' : (us.drop pre.length).length ≤ nmax := by rw [List.length_drop]; omega
  generalize us.drop pre.length = ur at *
  generalize us.take pre.length = ut at *
  generalize vs.drop pre.length = vr at *
  generalize vs.take pre.length = vt at *
  subst hus
  have KX : K.In s.heap := e0.mod.kin.keeps fun b o e => (e0.bs b o e).1
  have hn : H s.heap.objs.size = none := e0.hok.fresh (Nat.le_refl _)
  have hp := hq s.heap.objs.size hn
  have kp : ∀ b o, s.heap.get? b = some o → (s.heap.push ({ cls := .type "tuple", data := .seq ur.toArray } : Obj)).get? b = some o := fun b o e => Heap.get?_push_of_some _ e
  have new : ObjOk P w (upd H s.heap.objs.size (.tup vr)) (s.heap.push ({ cls := .type "tuple", data := .seq ur.toArray } : Obj)) s.heap.objs.size (.tup vr) :=
    ⟨by rw [rr.length]; exact Nat.le_trans hl' hz, ur, rr, ⟨_, Heap.get?_push_size _ rfl, rfl, _, rfl⟩⟩
  have hok2 := e0.hok.laid kp (Nat.le_refl _) new
  have un : Un (frs outer) [] H (upd H s.heap.objs.size (.tup vr)) s.heap (s.heap.push ({ cls := .type "tuple", data := .seq ur.toArray } : Obj)) := Un.laid kp (Nat.le_refl _) hn
  have e2 : Env0 P w K mg base A outer { s with heap := s.heap.push ({ cls := .type "tuple", data := .seq ur.toArray } : Obj) } (upd H s.heap.objs.size (.tup vr)) := by
    refine ⟨e0.frames, e0.mod, fun b o e => ⟨kp b o (e0.bs b o e).1, ?_⟩, ?_, Heap.FunFrames.of_keeps (fun b o e _ => ⟨o, kp b o e, rfl⟩) e0.funs, fun b hb' => ?_, hok2, e0.bare⟩
    · rw [upd_ne (Nat.ne_of_lt (Heap.lt_size (e0.bs b o e).1))]
      exact (e0.bs b o e).2
    · show base.objs.size ≤ (s.heap.push _).objs.size
      rw [Heap.size_push]
      exact Nat.le_succ_of_le e0.bsz
    · obtain ⟨_, o, ho, _⟩ := e0.funs.mem hb'
      rw [upd_ne (Nat.ne_of_lt (Heap.lt_size ho))]
      exact e0.frf b hb'
  have lim : (s.heap.push ({ cls := .type "tuple", data := .seq ur.toArray } : Obj)).NoLimit := e0.mod.nolimit.keeps fun b o e => (e2.bs b o e).1
  have hkind : ∀ y ∈ (pre ++ [pv]).zip (ut ++ [Value.ref s.heap.objs.size]), scope.names.lookup y.1 = some .local ∨
      (scope.names.lookup y.1 = some .cell ∧ ((cellsFrom ((s.heap.push ({ cls := .type "tuple", data := .seq ur.toArray } : Obj)).objs.size + 1) scope.names []).lookup y.1).isSome = true) := fun y hy => by
    rcases S.par y.1 (List.of_mem_zip hy).1 with q | q
    · exact .inl q
    · exact .inr ⟨q, PySem.W.cellsFrom_some _ _ _ (.inl q)⟩
  refine codeAny_call_function hr.depth (KX _ _ lk) rfl S.co S.gen rfl (PySem.W.codeRec_of KX hcd) ?_
  rw [hb ut ur hpl hl']
  refine wpAny_bind (wpAny_newTuple (wpAny_pure ?_) (Nat.le_trans hl' hz))
  refine wpAny_newFunctionEnv_cells (s := { s with heap := s.heap.push ({ cls := .type "tuple", data := .seq ur.toArray } : Obj) }) S.kind hkind fun env he s1 x => ?_
  subst he
  refine ⟨lim.keeps x.toInCall.keep, codeAny_func ?_⟩
  obtain ⟨t, ht, hq'⟩ := hbody A outer { s with heap := s.heap.push ({ cls := .type "tuple", data := .seq ur.toArray } : Obj) } (upd H s.heap.objs.size (.tup vr)) (vt ++ [.ref s.heap.objs.size]) Q E (hr.deeper _) hp
  have r2 : Vals (vt ++ [V.ref s.heap.objs.size]) (ut ++ [Value.ref s.heap.objs.size]) := rt.append (.cons rfl .nil)
  have I : Inv (cxOf CX P w K mg base N qual scope f cdv A outer { s with heap := s.heap.push ({ cls := .type "tuple", data := .seq ur.toArray } : Obj) } (upd H s.heap.objs.size (.tup vr)) E) [] (start N (vt ++ [.ref s.heap.objs.size])) (upd H s.heap.objs.size (.tup vr)) s1 :=
    inv_start S hr.hd e2 (by rw [List.length_append, List.length_append, rt.length, hpl]; rfl) r2 x
  refine wpAny_mono (ht.run [] s1 _ _ _ I hq') (fun fl s' hs => ?_) fun e s' hs => ?_
  · have fin : ∀ {σ' : L2.St} {H' : Hp} {v' : V} {u' : Value}, Inv (cxOf CX P w K mg base N qual scope f cdv A outer { s with heap := s.heap.push ({ cls := .type "tuple", data := .seq ur.toArray } : Obj) } (upd H s.heap.objs.size (.tup vr)) E) [] σ' H' s' → RelV v' u' → Q v' H' →
        CE outer P w H s Q u' s' := fun {σ' H' v' u'} J rv' q => ⟨v', H', J.os, J.bare, un.trans J.base, J.hok, rv', q⟩
    cases fl with
    | ret u' =>
      obtain ⟨v', σ', H', J, rv', q⟩ := hs
      exact fin J rv' q
    | next =>
      obtain ⟨σ', H', J, q⟩ := hs
      exact fin (v' := V.non) (u' := Value.none) J rfl q
    | brk =>
      obtain ⟨_, _, _, q⟩ := hs
      exact False.elim q
    | cont =>
      obtain ⟨_, _, _, q⟩ := hs
      exact False.elim q
  · exact wpAny_mono hs (fun _ s'' z => hCX outer s H _ _ vr E e s'' kp (Nat.le_refl _) hn z) fun e' s'' z => hCX outer s H _ _ vr E e' s'' kp (Nat.le_refl _) hn z
/-- as a function of data -/
def bVar (n nmax m : Nat) (fb : SM) : BM := fun ds => if n ≤ ds.length ∧ ds.length ≤ n + nmax then bOf m fb (ds.take n ++ [.tup (ds.drop n)]) else M.stuck
theorem var_ok {P : Program} {w : World} {K : PySem.W.Frag} {mg : Str → Option Value} {base : Heap} {cl : Str → Option Addr} {x qual : Str} {sd : Stmt} {f : Addr} {fd : FuncData} {N pre : List Str} {pv : Str} {k nmax : Nat} {fb : SM} (Fn : Fun K x qual sd f fd) (S : FnScope N (pre ++ [pv]) (defScope sd)) (hz : nmax ≤ sizeLine)
    (hb : ∀ (kV doc pm : Value) (an : Option Addr) (cdv ct : Value) (us rest : List Value), us.length = pre.length → rest.length ≤ nmax → bindArgs (PySem.W.fnOf x qual (defArgs sd) (defBody sd) (defScope sd) .none kV doc pm an cdv ct) ⟨us ++ rest, []⟩ = (newTuple rest >>= fun t => pure ((pre ++ [pv]).zip (us ++ [t]))))
    (hbody : ∀ (cdv : Value) (A : Around) (outer : List PySem.Env) (s : Shared) (H : Hp) (E : XK) (B : Base), Room k (A.deeper (envOfC qual (defScope sd) s.heap.objs.size f cdv)) →
      Takes (cxOf (L2.CX P w) P w K mg base N qual (defScope sd) f cdv A outer s H E) (fun cv dd _ H => E cv dd H) →
      DSs (cxOf (L2.CX P w) P w K mg base N qual (defScope sd) f cdv A outer s H E) cl B (fun cv dd _ H => E cv dd H) (defBody sd) fb) : FnR P w K mg base (L2.CX P w) (k + 1) f (spR K cl (bVar pre.length nmax N.length fb)) := by
  obtain ⟨oc, od, kV, doc, pm, an, cdv, ct, osl, rfl, lk, hcd⟩ := Fn.ex
  refine (fn_ofVn (sp := spR K cl (bOf N.length fb)) lk hcd S hz (hb kV doc pm an cdv ct) (cx_new P w) fun A outer s H vs Q E hr h => ?_).imp fun vs H Q E h => ?_
  · obtain ⟨F, ι, st, ds, Sm, r, q⟩ := h
    exact ⟨_, hbody cdv A outer s H E ⟨F, ι, H⟩ hr (takes_of rfl rfl rfl rfl), F, ι, st, _, at_start Sm r, out_post (B := ⟨F, ι, H⟩) q⟩
  · obtain ⟨F, ι, st, ds, Sm, r, q⟩ := h
    unfold bVar at q
    split at q
    · rename_i hc
      have rl := r.length
      refine ⟨by omega, by omega, fun p hp => ?_⟩
      have rd := RVs.drop pre.length r
      have rt := RVs.take pre.length r
      obtain ⟨y, T⟩ := newF (o := .tup (vs.drop pre.length)) Sm hp
      exact ⟨_, ι, st, _, T, RVs.append (RVs.ext y rt) (.one (.tup upd_same (RVs.ext y rd))), q.later back_V y⟩
    · exact q.elim
end DL
end
section
/-! DV4: zip. -/
namespace DL
open PySem PySem.Spec PyProof.Rows L2
def zipL (xs ys : List D) : List D := (xs.zip ys).map fun p => .tup [p.1, p.2]
def zipD : D → D → Option (List D)
  | .lst xs, .lst ys => some (zipL xs ys)
  | .tup xs, .tup ys => some (zipL xs ys)
  | _, _ => none
def fZip (f g : Env → M D) : Env → M (List D) := fun ρ => (f ρ).bind fun x => (g ρ).bind fun y => M.look fun _ => zipD x y
theorem zipL_get {xs ys : List D} {i : Nat} {d : D} (h : (zipL xs ys)[i]? = some d) : ∃ x y, xs[i]? = some x ∧ ys[i]? = some y ∧ d = .tup [x, y] := by
  unfold zipL at h
  rw [List.getElem?_map] at h
  cases e : (xs.zip ys)[i]? with
  | none => rw [e] at h; cases h
  | some p =>
    rw [e] at h
    cases h
    rw [List.getElem?_zip_eq_some] at e
    exact ⟨p.1, p.2, e.1, e.2, rfl⟩
theorem zipL_len {xs ys : List D} : (zipL xs ys).length = min xs.length ys.length := by simp [zipL]
section
variable {K : PySem.W.Frag} {cl : Str → Option Addr} {F : Hp} {ι : List Addr}
theorem walk_zipL {a b : Addr} {vs ws : List V} {xs ys : List D} (s : SqL K F a vs) (s2 : SqL K F b ws) (r : RVs K cl F ι vs xs) (r2 : RVs K cl F ι ws ys) : Walk K cl F ι (Itz K a b) (zipL xs ys) where
  go := fun i F' ι' H st hi l S => by
    rw [zipL_len] at hi
    have h1 : i < vs.length := by rw [r.length]; omega
    have h2 : i < ws.length := by rw [r2.length]; omega
    exact ⟨vs, ws, vs[i], ws[i], SqL.up S.sub (SqL.up l.1 s), SqL.up S.sub (SqL.up l.1 s2), List.getElem?_eq_getElem h1, List.getElem?_eq_getElem h2⟩
  stop := fun i F' ι' H st hi l S => by
    rw [zipL_len] at hi
    exact ⟨vs, ws, SqL.up S.sub (SqL.up l.1 s), SqL.up S.sub (SqL.up l.1 s2), by rw [r.length, r2.length]; omega⟩
  yld := fun i d F' ι' H st v H2 hd l S ⟨T, x, y, e1, hT, e2, k1, k2⟩ => by
    subst e1; subst e2
    obtain ⟨dx, dy, g1, g2, rfl⟩ := zipL_get hd
    obtain ⟨v1, hv1, q1⟩ := r.get g1
    obtain ⟨v2, hv2, q2⟩ := r2.get g2
    have z1 := k1 vs (SqL.up S.sub (SqL.up l.1 s))
    have z2 := k2 ws (SqL.up S.sub (SqL.up l.1 s2))
    rw [hv1] at z1; rw [hv2] at z2
    cases z1; cases z2
    obtain ⟨w, S2⟩ := newF (o := .tup [x, y]) S hT
    exact ⟨_, w, S2, .tup upd_same (.cons ((q1.up l.1 l.2).ext w) (.cons ((q2.up l.1 l.2).ext w) .nil))⟩
theorem walk_zipT {a b : Addr} {vs ws : List V} {xs ys : List D} (s : SqT K F a vs) (s2 : SqT K F b ws) (r : RVs K cl F ι vs xs) (r2 : RVs K cl F ι ws ys) : Walk K cl F ι (RZ.ItzT K a b) (zipL xs ys) where
  go := fun i F' ι' H st hi l S => by
    rw [zipL_len] at hi
    have h1 : i < vs.length := by rw [r.length]; omega
    have h2 : i < ws.length := by rw [r2.length]; omega
    exact ⟨vs, ws, vs[i], ws[i], SqT.up S.sub (SqT.up l.1 s), SqT.up S.sub (SqT.up l.1 s2), List.getElem?_eq_getElem h1, List.getElem?_eq_getElem h2⟩
  stop := fun i F' ι' H st hi l S => by
    rw [zipL_len] at hi
    exact ⟨vs, ws, SqT.up S.sub (SqT.up l.1 s), SqT.up S.sub (SqT.up l.1 s2), by rw [r.length, r2.length]; omega⟩
  yld := fun i d F' ι' H st v H2 hd l S ⟨T, x, y, e1, hT, e2, k1, k2⟩ => by
    subst e1; subst e2
    obtain ⟨dx, dy, g1, g2, rfl⟩ := zipL_get hd
    obtain ⟨v1, hv1, q1⟩ := r.get g1
    obtain ⟨v2, hv2, q2⟩ := r2.get g2
    have z1 := k1 vs (SqT.up S.sub (SqT.up l.1 s))
    have z2 := k2 ws (SqT.up S.sub (SqT.up l.1 s2))
    rw [hv1] at z1; rw [hv2] at z2
    cases z1; cases z2
    obtain ⟨w, S2⟩ := newF (o := .tup [x, y]) S hT
    exact ⟨_, w, S2, .tup upd_same (.cons ((q1.up l.1 l.2).ext w) (.cons ((q2.up l.1 l.2).ext w) .nil))⟩
end
section
variable {X : Cx} {cl : Str → Option Addr} {B : Base} {W : WX} {pos : Pos}
theorem di_zip {a b : Expr} {f g : Env → M D} {p tpos : Pos} {elts : List Expr} {kk : Nat} (hg : Gl X "zip") (hm : X.mg "zip" = none) (ha : DE X cl B W a f) (hb : DE X cl B W b g) (hs : starEach [a, b] X.env = (false, eval a X.env) :: starEach [b] X.env := by rfl) (hs2 : starEach [b] X.env = [(false, eval b X.env)] := by rfl)
    (hpl : (backTo pos (starEach [b] X.env)).any (·.1) = false := by rfl) : DI X cl B W (.Tuple elts kk tpos) (.Call (.Name "zip" p) [a, b] [] pos) (fZip f g) :=
  weakI (RZ.pi_zipA hg hm (da_cons ha (da_cons hb da_nil hs2) hs) hs hpl) fun σ H R ⟨F, ι, st, ρ, A, q⟩ => ⟨F, ι, st, ρ, A, by
    show Post X.K cl (rVs X.K cl) F ι H σ W ((f ρ st).bind fun x => M.bind (M.bind (g ρ) fun y => M.bind (eNilA ρ) fun xs => M.ret (y :: xs)) fun xs => M.ret (x :: xs)) _
    replace q : Post X.K cl (rW X.K cl) F ι H σ W ((f ρ st).bind fun d => M.bind (g ρ) fun e => M.look fun _ => zipD d e) R := q
    cases e : f ρ st with
    | stuck => rw [e] at q; exact q.elim
    | exc e' st' => rw [e] at q; exact q
    | ok d st' =>
      rw [e] at q
      show Post X.K cl (rVs X.K cl) F ι H σ W (((g ρ st').bind fun y => M.bind (eNilA ρ) fun xs => M.ret (y :: xs)).bind fun xs => M.ret (d :: xs)) _
      replace q : Post X.K cl (rW X.K cl) F ι H σ W ((g ρ st').bind fun e => M.look fun _ => zipD d e) R := q
      cases e2 : g ρ st' with
      | stuck => rw [e2] at q; exact q.elim
      | exc e' st' => rw [e2] at q; exact q
      | ok d2 st2 =>
        rw [e2] at q
        intro F' ι' H' vs x S r
        have q' := Post.later back_W x q
        obtain ⟨z, hz, k⟩ := look_ok (o := fun _ => zipD d d2) (st := st2) q'
        unfold zipD at hz
        split at hz
        · cases hz
          cases r with
          | cons r1 r2 =>
            cases r2 with
            | cons r2 r3 =>
              cases r3
              cases r1 with
              | lst s1 t1 =>
                cases r2 with
                | lst s2 t2 => exact ⟨_, _, _, _, rfl, .inl ⟨SqL.up S.sub s1, SqL.up S.sub s2, k F' ι' H' _ .refl S (walk_zipL s1 s2 t1 t2)⟩⟩
        · cases hz
          cases r with
          | cons r1 r2 =>
            cases r2 with
            | cons r2 r3 =>
              cases r3
              cases r1 with
              | tup s1 t1 =>
                cases r2 with
                | tup s2 t2 => exact ⟨_, _, _, _, rfl, .inr ⟨SqT.of (S.sub _ _ s1), SqT.of (S.sub _ _ s2), k F' ι' H' _ .refl S (walk_zipT (SqT.of s1) (SqT.of s2) t1 t2)⟩⟩
        · cases hz⟩
end
end DL
end
section
/-! DV5: dict comprehensions with keys ints or texts. -/
namespace DL
open PySem PySem.Spec PyProof.Rows L2
def putKD (kds : List (D × D)) (k d : D) : List (D × D) := if (kds.any fun p => decide (kD p.1 = kD k)) = true then kds.map (fun p => if kD p.1 = kD k then (p.1, d) else p) else kds ++ [(k, d)]
def dcompL (g : GM) (t : Env → M Bool) (fk fv : Env → M D) : List D → List (D × D) → Env → M (List (D × D))
  | [], acc, _ => M.ret acc
  | x :: xs, acc, ρ => fun st => match g x ρ with
    | none => .stuck
    | some ρ1 => (t ρ1 st).bind fun b => if b = true then M.bind (fk ρ1) fun k => M.bind (fv ρ1) fun d => if (kD k).isSome = true ∧ acc.length < sizeLine then dcompL g t fk fv xs (putKD acc k d) ρ else M.stuck else dcompL g t fk fv xs acc ρ
def fDComp (vs : List Nat) (src : Env → M (List D)) (g : GM) (t : Env → M Bool) (fk fv : Env → M D) : Env → M (List (D × D)) := fun ρ => (src ρ).bind fun xs st => (dcompL g t fk fv xs [] (wipeE ρ vs) st).noX
def eDComp (vs : List Nat) (src : Env → M (List D)) (g : GM) (t : Env → M Bool) (fk fv : Env → M D) : Env → M D := fun ρ => (fDComp vs src g t fk fv ρ).bind fun kds => M.ret (.dic kds)
section
variable {K : PySem.W.Frag} {cl : Str → Option Addr} {F F' H H' : Hp} {ι ι' : List Addr} {q : Key} {k d : D} {v : V}
theorem RKs.any (ek : kD k = some q) : ∀ {kvs : List (Key × V)} {kds : List (D × D)}, RKs K cl F ι kvs kds → (kvs.any fun kv => decide (kv.1 = q)) = (kds.any fun p => decide (kD p.1 = kD k))
  | _, _, .nil => rfl
  | _, _, .cons (k := k0) e r t => by
    rw [List.any_cons, List.any_cons, RKs.any ek t, e, ek]
    congr 1
    by_cases h : k0 = q
    · subst h; simp
    · exact (decide_eq_false h).trans (decide_eq_false (fun z => h (Option.some.inj z))).symm
theorem RKs.snoc (ek : kD k = some q) (rv : RV K cl F ι v d) : ∀ {kvs : List (Key × V)} {kds : List (D × D)}, RKs K cl F ι kvs kds → RKs K cl F ι (kvs ++ [(q, v)]) (kds ++ [(k, d)])
  | _, _, .nil => .cons ek rv .nil
  | _, _, .cons e r t => .cons e r (RKs.snoc ek rv t)
theorem RKs.put_map (ek : kD k = some q) (rv : RV K cl F ι v d) : ∀ {kvs : List (Key × V)} {kds : List (D × D)}, RKs K cl F ι kvs kds → RKs K cl F ι (kvs.map fun kv => if kv.1 = q then (kv.1, v) else kv) (kds.map fun p => if kD p.1 = kD k then (p.1, d) else p)
  | _, _, .nil => .nil
  | _, _, .cons (k := k0) e r t => by
    rw [List.map_cons, List.map_cons]
    by_cases hq : k0 = q
    · rw [if_pos hq, if_pos (by rw [e, ek, hq])]
      exact .cons e rv (RKs.put_map ek rv t)
    · rw [if_neg hq, if_neg (by rw [e, ek]; intro z; exact hq (Option.some.inj z))]
      exact .cons e r (RKs.put_map ek rv t)
theorem RKs.put (ek : kD k = some q) (rv : RV K cl F ι v d) {kvs : List (Key × V)} {kds : List (D × D)} (h : RKs K cl F ι kvs kds) : RKs K cl F ι (putK kvs q v) (putKD kds k d) := by
  unfold putK putKD
  rw [RKs.any ek h]
  split
  · exact RKs.put_map ek rv h
  · exact RKs.snoc ek rv h
/-- a dict that is nobody's yet -/
def OwnK (K : PySem.W.Frag) (cl : Str → Option Addr) (F : Hp) (ι : List Addr) (H : Hp) (a : Addr) (kds : List (D × D)) : Prop := ∃ kvs, H a = some (.dK kvs) ∧ RKs K cl F ι kvs kds ∧ F a = none ∧ a ∉ ι
theorem OwnK.ext {a : Addr} {kds : List (D × D)} (x : Ext F F' ι ι' H H') (o : OwnK K cl F ι H a kds) : OwnK K cl F' ι' H' a kds := by
  obtain ⟨kvs, h, r, n, m⟩ := o
  refine ⟨kvs, x.h a _ h m, r.ext x, ?_, ?_⟩
  · cases e : F' a with
    | none => rfl
    | some o =>
      rcases x.nf a o e with z | z
      · rw [n] at z; cases z
      · rw [h] at z; cases z
  · intro hm
    rcases x.ni a hm with z | z
    · exact m z
    · rw [h] at z; cases z
def rK (K : PySem.W.Frag) (cl : Str → Option Addr) : Rel (List (D × D)) V := fun H₀ F ι H v kds => ∃ a, v = .ref a ∧ OwnK K cl F ι H a kds ∧ H₀ a = none
theorem back_K : Rel.Back (rK K cl) := fun _ _ _ _ _ _ _ t ⟨a, e, o, n⟩ => ⟨a, e, o, none_back t n⟩
end
section
variable {X : Cx} {cl : Str → Option Addr} {B : Base} {W : WX} {pos : Pos}
theorem tDc_of {vs ws : List Nat} {src : Env → M (List D)} {g : GM} {t : Env → M Bool} {fk fv : Env → M D} (hw : ∀ i ∈ ws, i ∈ vs) {σ : L2.St} {H : Hp} {Q : VK} (h : tG X.K cl B W (rK X.K cl) (fDComp vs src g t fk fv) σ H Q) :
    tDc (tW X.K cl B W src) (tGt X.K cl B ws g) (tT X.K cl B W0 t) (tE X.K cl B W0 fk) (tE X.K cl B W0 fv) vs σ H Q := by
  obtain ⟨F, ι, st, ρ, A, q⟩ := h
  refine ⟨F, ι, st, ρ, A, Post.bind back_K q fun xs st1 F1 ι1 H1 J x1 S1 wk p => ?_⟩
  intro D0 hD
  have A1 := A.later x1 S1
  obtain ⟨nF, nι⟩ := S1.none_of hD
  have nB : B.H D0 = none := none_back A1.ext.t hD
  have nO : ∀ (j : Nat) (ys : List D), (wipeE ρ vs)[j]? = some (.own ys) → (wipe σ vs)[j]? ≠ some (some (V.ref D0)) := (A1.wipe vs).fresh hD
  refine ⟨fun i m H => ∃ F2 ι2 st2 acc accD, Le F1 ι1 F2 ι2 ∧ At X.K cl B F2 ι2 H st2 (wipe σ vs) (wipeE ρ vs) ∧ H D0 = some (.dK acc) ∧ RKs X.K cl F2 ι2 acc accD ∧ F2 D0 = none ∧ D0 ∉ ι2 ∧ m = xs.length - i ∧
    Post X.K cl (rK X.K cl) F2 ι2 (del H D0) σ W (dcompL g t fk fv (xs.drop i) accD (wipeE ρ vs) st2).noX Q, ⟨xs.length, F1, ι1, st1, [], [], .refl F1 ι1, ?_, upd_same, .nil, nF, nι, rfl, ?_⟩, ?_⟩
  · exact (A1.wipe vs).later (newH S1 hD).1 (newH S1 hD).2
  · rw [del_upd, del_new hD]; exact p
  · rintro i m H2 ⟨F2, ι2, st2, acc, accD, l2, A2, hD2, ra, nF2, nι2, rfl, p2⟩
    by_cases hi : i < xs.length
    · right
      have ed : xs.drop i = xs[i] :: xs.drop (i + 1) := List.drop_eq_getElem_cons hi
      rw [ed] at p2
      refine ⟨wk.go i F2 ι2 H2 st2 hi l2 A2.sim, fun H => ∃ F2 ι2 st2 acc accD, Le F1 ι1 F2 ι2 ∧ At X.K cl B F2 ι2 H st2 (wipe σ vs) (wipeE ρ vs) ∧ H D0 = some (.dK acc) ∧ RKs X.K cl F2 ι2 acc accD ∧ F2 D0 = none ∧ D0 ∉ ι2 ∧
        Post X.K cl (rK X.K cl) F2 ι2 (del H D0) σ W (dcompL g t fk fv (xs.drop (i + 1)) accD (wipeE ρ vs) st2).noX Q, ?_, ?_⟩
      · rintro H' ⟨F3, ι3, st3, acc3, accD3, l3, A3, hD3, ra3, nF3, nι3, p3⟩
        exact ⟨xs.length - (i + 1), by omega, F3, ι3, st3, acc3, accD3, l3, A3, hD3, ra3, nF3, nι3, rfl, p3⟩
      · intro x H3 y
        obtain ⟨F3, x3, S3, r3⟩ := wk.yld i xs[i] F2 ι2 H2 st2 x H3 (List.getElem?_eq_getElem hi) l2 A2.sim y
        have A3 := A2.later x3 S3
        have o3 : OwnK X.K cl F3 ι2 H3 D0 accD := OwnK.ext x3 ⟨acc, hD2, ra, nF2, nι2⟩
        unfold dcompL at p2
        cases eg : g xs[i] (wipeE ρ vs) with
        | none => rw [eg] at p2; exact p2.elim
        | some ρ1 =>
          rw [eg] at p2
          dsimp only at p2
          refine ⟨F3, ι2, st2, wipeE ρ vs, xs[i], ρ1, A3, r3, eg, fun σ' A' o' => ⟨wipe_only o' hw, ?_⟩⟩
          rw [noX_bind] at p2
          have p3 := Post.later back_K x3.del p2
          refine ⟨F3, ι2, st2, ρ1, A', Post.bindDel back_K p3 fun b st4 F4 ι4 H4 b' x4 S4 r4 p4 => ?_⟩
          cases r4
          have o4 := OwnK.ext x4 o3
          have A4 := A3.later x4 S4
          cases b with
          | true =>
            replace p4 : Post X.K cl (rK X.K cl) F4 ι4 (del H4 D0) σ W (((fk ρ1 st4).bind fun k => M.bind (fv ρ1) fun d => if (kD k).isSome = true ∧ accD.length < sizeLine then dcompL g t fk fv (xs.drop (i + 1)) (putKD accD k d) (wipeE ρ vs) else M.stuck).noX) Q := p4
            rw [noX_bind] at p4
            refine iteT ⟨F4, ι4, st4, ρ1, A'.later x4 S4, Post.bindDel back_K p4 fun k st5 F5 ι5 H5 y x5 S5 r5 p5 => ?_⟩
            have o5 := OwnK.ext x5 o4
            replace p5 : Post X.K cl (rK X.K cl) F5 ι5 (del H5 D0) σ W (((fv ρ1 st5).bind fun d => if (kD k).isSome = true ∧ accD.length < sizeLine then dcompL g t fk fv (xs.drop (i + 1)) (putKD accD k d) (wipeE ρ vs) else M.stuck).noX) Q := p5
            rw [noX_bind] at p5
            refine ⟨F5, ι5, st5, ρ1, (A'.later x4 S4).later x5 S5, Post.bindDel back_K p5 fun d st6 F6 ι6 H6 z x6 S6 r6 p6 => ?_⟩
            obtain ⟨acc6, h6, ra6, nF6, nι6⟩ := OwnK.ext x6 o5
            by_cases hz : (kD k).isSome = true ∧ accD.length < sizeLine
            · rw [if_pos hz] at p6
              obtain ⟨q, ek⟩ := Option.isSome_iff_exists.mp hz.1
              refine ⟨acc6, q, kD_val r5 ek, h6, by rw [ra6.length]; exact hz.2, F6, ι6, st6, putK acc6 q z, putKD accD k d, ((l2.trans x3.le).trans (x4.le.trans x5.le)).trans x6.le, At.updFree ((A4.later x5 S5).later x6 S6) h6 nF6 nι6 nB nO, upd_same, ra6.put ek r6, nF6, nι6, ?_⟩
              rw [del_upd]
              exact p6
            · rw [if_neg hz] at p6
              exact p6.elim
          | false =>
            replace p4 : Post X.K cl (rK X.K cl) F4 ι4 (del H4 D0) σ W ((dcompL g t fk fv (xs.drop (i + 1)) accD (wipeE ρ vs) st4).noX) Q := p4
            obtain ⟨acc4, h4, ra4, nF4, nι4⟩ := o4
            exact iteF ⟨F4, ι4, st4, acc4, accD, (l2.trans x3.le).trans x4.le, A4, h4, ra4, nF4, nι4, p4⟩
    · left
      have ed : xs.drop i = [] := List.drop_eq_nil_of_le (Nat.le_of_not_lt hi)
      rw [ed] at p2
      exact ⟨wk.stop i F2 ι2 H2 st2 (Nat.le_of_not_lt hi) l2 A2.sim, p2 F2 ι2 H2 _ Ext.toDel A2.sim ⟨D0, rfl, ⟨acc, hD2, ra, nF2, nι2⟩, del_same⟩⟩
/-- {k: v for tg in iter if ..} -/
theorem de_dcomp {e : Expr} {vs ws : List Nat} {src : Env → M (List D)} {g : GM} {t : Env → M Bool} {fk fv : Env → M D} (h : PE X e (tDc (tW X.K cl B W src) (tGt X.K cl B ws g) (tT X.K cl B W0 t) (tE X.K cl B W0 fk) (tE X.K cl B W0 fv) vs)) (hw : ∀ i ∈ ws, i ∈ vs) : DE X cl B W e (eDComp vs src g t fk fv) :=
  weakE h fun σ H Q ⟨F, ι, st, ρ, A, q⟩ => tDc_of hw ⟨F, ι, st, ρ, A, by
    replace q : Post X.K cl (rV X.K cl) F ι H σ W ((fDComp vs src g t fk fv ρ st).bind fun kds => M.ret (.dic kds)) Q := q
    cases e : fDComp vs src g t fk fv ρ st with
    | stuck => rw [e] at q; exact q
    | exc e' st' => rw [e] at q; exact q
    | ok xs st' =>
      rw [e] at q
      intro F' ι' H' v x S r
      obtain ⟨a, rfl, ⟨kvs, h1, h2, h3, h4⟩, n⟩ := r
      obtain ⟨y, T⟩ := freeze S x h1 h3 h4 n
      exact q _ ι' H' _ y T (.dicK upd_same (h2.up (fun a o e => by rw [upd_ne (ne_of_none e h3)]; exact e) (List.prefix_refl _)))⟩
end
end DL
end
section
/-! DV6: lists lent to a def; d.get. -/
namespace DL
open PySem PySem.Spec PyProof.Rows L2
section
variable (K : PySem.W.Frag) (cl : Str → Option Addr)
/-- arguments, the marked ones lists that the caller goes on owning -/
inductive RBm (F : Hp) (ι : List Addr) (H : Hp) : List Bool → List V → List D → Prop
  | nil : RBm F ι H [] [] []
  | val {v : V} {d : D} {ms : List Bool} {vs : List V} {ds : List D} : RV K cl F ι v d → RBm F ι H ms vs ds → RBm F ι H (false :: ms) (v :: vs) (d :: ds)
  | bor {a : Addr} {xs : List D} {ms : List Bool} {vs : List V} {ds : List D} : OwnL K cl F ι H a xs → RBm F ι H ms vs ds → RBm F ι H (true :: ms) (.ref a :: vs) (.lst xs :: ds)
def rBm (ms : List Bool) : Rel (List D) (List V) := fun _ F ι H vs ds => RBm K cl F ι H ms vs ds
def spB (ms : List Bool) (b : BM) : Sp := fun vs H Q E => vs.length = ms.length ∧ ∃ F ι st ds, Sim K cl F ι H st ∧ RBm K cl F ι H ms vs ds ∧ Post K cl (rV K cl) F ι H [] (fun cv dd _ H => E cv dd H) (b ds st) Q
end
def slotsB : List Bool → List D → List Slot
  | true :: ms, .lst xs :: ds => .bor xs :: slotsB ms ds
  | _ :: ms, d :: ds => .val d :: slotsB ms ds
  | _, _ => []
def bOfB (ms : List Bool) (n : Nat) (f : SM) : BM := fun ds st => (f (slotsB ms ds ++ List.replicate (n - ms.length) .none) st).out
section
variable {K : PySem.W.Frag} {cl : Str → Option Addr} {F F' H H' : Hp} {ι ι' : List Addr} {ms : List Bool}
theorem back_m : Rel.Back (rBm K cl ms) := fun _ _ _ _ _ _ _ _ h => h
theorem RBm.ext (x : Ext F F' ι ι' H H') : ∀ {ms : List Bool} {vs : List V} {ds : List D}, RBm K cl F ι H ms vs ds → RBm K cl F' ι' H' ms vs ds
  | _, _, _, .nil => .nil
  | _, _, _, .val r t => .val (r.ext x) (RBm.ext x t)
  | _, _, _, .bor o t => .bor (o.ext x) (RBm.ext x t)
theorem RBm.length : ∀ {ms : List Bool} {vs : List V} {ds : List D}, RBm K cl F ι H ms vs ds → vs.length = ms.length
  | _, _, _, .nil => rfl
  | _, _, _, .val _ t => congrArg (· + 1) (RBm.length t)
  | _, _, _, .bor _ t => congrArg (· + 1) (RBm.length t)
theorem slots_env : ∀ {ms : List Bool} {vs : List V} {ds : List D} {k : Nat}, RBm K cl F ι H ms vs ds → ∀ (i : Nat) (o : Option V) (s : Slot), (vs.map some ++ List.replicate k none)[i]? = some o → (slotsB ms ds ++ List.replicate k Slot.none)[i]? = some s → RS K cl ⟨F, ι, H⟩ F ι H o s
  | _, _, _, k, .nil, i, o, s, h1, h2 => by
    simp only [slotsB, List.nil_append] at h2
    rw [List.getElem?_replicate] at h2
    split at h2
    · cases h2; exact .none o
    · cases h2
  | _, _, _, k, .val r t, 0, o, s, h1, h2 => by
    simp [slotsB] at h1 h2
    subst h1; subst h2
    exact .val r
  | _, _, _, k, .bor r t, 0, o, s, h1, h2 => by
    simp [slotsB] at h1 h2
    subst h1; subst h2
    exact .bor r
  | _, _, _, k, .val r t, i + 1, o, s, h1, h2 => slots_env (i := i) t o s (by simpa using h1) (by simpa [slotsB] using h2)
  | _, _, _, k, .bor r t, i + 1, o, s, h1, h2 => slots_env (i := i) t o s (by simpa using h1) (by simpa [slotsB] using h2)
theorem slots_own : ∀ {ms : List Bool} {ds : List D} {xs : List D}, Slot.own xs ∉ slotsB ms ds
  | [], _, _ => by simp [slotsB]
  | _ :: _, [], _ => by simp [slotsB]
  | true :: ms, d :: ds, xs => by
    cases d <;> simp only [slotsB, List.mem_cons, reduceCtorEq, false_or] <;> exact slots_own
  | false :: ms, d :: ds, xs => by
    simp only [slotsB, List.mem_cons, reduceCtorEq, false_or]
    exact slots_own
theorem slots_len : ∀ {ms : List Bool} {vs : List V} {ds : List D}, RBm K cl F ι H ms vs ds → (slotsB ms ds).length = ms.length
  | _, _, _, .nil => rfl
  | _, _, _, .val _ t => by simp [slotsB, slots_len t]
  | _, _, _, .bor _ t => by simp [slotsB, slots_len t]
end
theorem defB_ok {P : Program} {w : World} {K : PySem.W.Frag} {mg : Str → Option Value} {base : Heap} {cl : Str → Option Addr} {x qual : Str} {sd : Stmt} {f : Addr} {fd : FuncData} {N ps : List Str} {k : Nat} {fb : SM} (ms : List Bool) (hms : ms.length = ps.length) (Fn : Fun K x qual sd f fd) (S : FnScope N ps (defScope sd))
    (hbody : ∀ (cdv : Value) (A : Around) (outer : List PySem.Env) (s : Shared) (H : Hp) (E : XK) (B : Base), Room k (A.deeper (envOfC qual (defScope sd) s.heap.objs.size f cdv)) →
      Takes (cxOf (L2.CX P w) P w K mg base N qual (defScope sd) f cdv A outer s H E) (fun cv dd _ H => E cv dd H) →
      DSs (cxOf (L2.CX P w) P w K mg base N qual (defScope sd) f cdv A outer s H E) cl B (fun cv dd _ H => E cv dd H) (defBody sd) fb) : FnOk P w K mg base (L2.CX P w) (k + 1) f fd ps (spB K cl ms (bOfB ms N.length fb)) := by
  refine Fn.okX S (fun vs H Q E h => h.1.trans hms) fun cdv A outer s H vs Q E hr h => ?_
  obtain ⟨hl, F, ι, st, ds, Sm, r, q⟩ := h
  replace q : Post K cl (rV K cl) F ι H [] (fun cv dd _ H => E cv dd H) (fb (slotsB ms ds ++ List.replicate (N.length - ms.length) .none) st).out Q := q
  refine ⟨_, hbody cdv A outer s H E ⟨F, ι, H⟩ hr (takes_of rfl rfl rfl rfl), F, ι, st, slotsB ms ds ++ List.replicate (N.length - ms.length) Slot.none, ⟨Sm, .refl, ?_, ?_, ?_⟩, out_post (K := K) (B := ⟨F, ι, H⟩) q⟩
  · simp [L2.start, r.length, slots_len r]
  · intro i o s h1 h2
    refine slots_env r i o s (k := N.length - ms.length) ?_ h2
    rw [← r.length]
    exact h1
  · intro i j a xs ys h
    rcases List.mem_append.mp (List.mem_of_getElem? h) with z | z
    · exact absurd z slots_own
    · cases List.eq_of_mem_replicate z
abbrev DAM (X : Cx) (cl : Str → Option Addr) (B : Base) (W : WX) (ms : List Bool) (es : List Expr) (f : Env → M (List D)) : Prop := PA X es (tG X.K cl B W (rBm X.K cl ms) f)
section
variable {X : Cx} {cl : Str → Option Addr} {B : Base} {W : WX} {pos : Pos} {ms : List Bool}
theorem dam_nil : DAM X cl B W [] [] eNilA := weakA pa_nil fun σ H Q ⟨F, ι, st, ρ, A, q⟩ => q F ι H [] .refl A.sim .nil
theorem dam_val {e : Expr} {es : List Expr} {f : Env → M D} {g : Env → M (List D)} (ha : DE X cl B W e f) (hr : DAM X cl B W ms es g) (hs : starEach (e :: es) X.env = (false, eval e X.env) :: starEach es X.env := by rfl) : DAM X cl B W (false :: ms) (e :: es) (eConsA f g) :=
  weakA (pa_cons ha hr hs) fun σ H Q ⟨F, ι, st, ρ, A, q⟩ => ⟨F, ι, st, ρ, A, Post.bind back_m q fun d st1 F1 ι1 H1 v x1 S1 r1 q1 =>
    ⟨F1, ι1, st1, ρ, A.later x1 S1, Post.bind back_m q1 fun ds st2 F2 ι2 H2 vs x2 S2 r2 q2 => q2 F2 ι2 H2 (v :: vs) .refl S2 (.val (RV.ext x2 r1) r2)⟩⟩
/-- a list of one's own is lent -/
theorem dam_own (i : Nat) {x : Str} {p : Pos} {es : List Expr} {g : Env → M (List D)} (h : PE X (.Name x p) (tVar i)) (hr : DAM X cl B W ms es g) (hs : starEach (.Name x p :: es) X.env = (false, eval (.Name x p) X.env) :: starEach es X.env := by rfl) : DAM X cl B W (true :: ms) (.Name x p :: es) (eConsA (eOwn i) g) :=
  weakA (pa_cons h hr hs) fun σ H Q ⟨F, ι, st, ρ, A, q⟩ => by
    replace q : Post X.K cl (rBm X.K cl (true :: ms)) F ι H σ W ((eOwn i ρ st).bind fun x => M.bind (g ρ) fun xs => M.ret (x :: xs)) Q := q
    unfold eOwn at q
    cases e : ρ[i]? with
    | none => rw [e] at q; exact q.elim
    | some sl =>
    rw [e] at q
    cases sl with
    | own xs =>
      obtain ⟨a, h1, o, _⟩ := A.own e
      exact ⟨_, h1, F, ι, st, ρ, A, Post.bind back_m q fun ds st2 F2 ι2 H2 vs x2 S2 r2 q2 => q2 F2 ι2 H2 (.ref a :: vs) .refl S2 (.bor (o.ext x2) r2)⟩
    | _ => exact q.elim
theorem At.bor {K : PySem.W.Frag} {F H : Hp} {ι : List Addr} {st : Store} {σ : L2.St} {ρ : Env} {i : Nat} {xs : List D} (A : At K cl B F ι H st σ ρ) (e : ρ[i]? = some (.bor xs)) : ∃ a, σ[i]? = some (some (V.ref a)) ∧ OwnL K cl F ι H a xs := by
  have hi : i < σ.length := by rw [A.len]; exact (List.getElem?_eq_some_iff.mp e).1
  have eσ : σ[i]? = some σ[i] := List.getElem?_eq_getElem hi
  have z := A.env i _ _ eσ e
  generalize σ[i] = o at eσ z
  cases z with
  | bor r => exact ⟨_, eσ, r.ext A.ext⟩
/-- .. a lent one lent on -/
theorem dam_bor (i : Nat) {x : Str} {p : Pos} {es : List Expr} {g : Env → M (List D)} (h : PE X (.Name x p) (tVar i)) (hr : DAM X cl B W ms es g) (hs : starEach (.Name x p :: es) X.env = (false, eval (.Name x p) X.env) :: starEach es X.env := by rfl) : DAM X cl B W (true :: ms) (.Name x p :: es) (eConsA (eBor i) g) :=
  weakA (pa_cons h hr hs) fun σ H Q ⟨F, ι, st, ρ, A, q⟩ => by
    replace q : Post X.K cl (rBm X.K cl (true :: ms)) F ι H σ W ((eBor i ρ st).bind fun x => M.bind (g ρ) fun xs => M.ret (x :: xs)) Q := q
    unfold eBor at q
    cases e : ρ[i]? with
    | none => rw [e] at q; exact q.elim
    | some sl =>
    rw [e] at q
    cases sl with
    | bor xs =>
      obtain ⟨a, h1, o⟩ := A.bor e
      exact ⟨_, h1, F, ι, st, ρ, A, Post.bind back_m q fun ds st2 F2 ι2 H2 vs x2 S2 r2 q2 => q2 F2 ι2 H2 (.ref a :: vs) .refl S2 (.bor (o.ext x2) r2)⟩
    | _ => exact q.elim
theorem de_callB {k : Nat} {f : Addr} {fd : FuncData} {ps : List Str} {b : BM} {x : Str} {p : Pos} {e : Expr} {es : List Expr} {g : Env → M (List D)} (Fo : FnOk X.prog X.w X.K X.mg X.base (L2.CX X.prog X.w) k f fd ps (spB X.K cl ms b))
    (hr : Room k X.A) (hg : Gl X x) (hm : X.mg x = some (.ref f)) (hk : PySem.W.keepIn X.K (.ref f) = true) (hb : Binds X.K fd ps []) (tk : Takes X W) (ha : DAM X cl B W ms (e :: es) g)
    (hdb : (x == ("__debug__" : Str)) = false := by decide) (he : starEach (e :: es) X.env = (false, eval e X.env) :: starEach es X.env := by rfl) (hpl : (backTo pos (starEach es X.env)).any (·.1) = false := by rfl) :
    DE X cl B W (.Call (.Name x p) (e :: es) [] pos) (eCall b g) :=
  weakE (pe_callS Fo hr hg hm hk hb (passAt tk) ha hdb he hpl) fun σ H Q ⟨F, ι, st, ρ, A, q⟩ => by
    refine ⟨F, ι, st, ρ, A, ?_⟩
    replace q : Post X.K cl (rV X.K cl) F ι H σ W ((g ρ st).bind b) Q := q
    refine Post.bind back_V q fun ds st' F' ι' H' vs x1 S1 r1 q1 => ?_
    have r1 : RBm X.K cl F' ι' H' ms vs ds := r1
    refine ⟨r1.length, F', ι', st', ds, S1, r1, ?_⟩
    cases eb : b ds st' with
    | ok d st2 => rw [eb] at q1; exact q1
    | exc e2 st2 => rw [eb] at q1; exact q1
    | stuck => rw [eb] at q1; exact q1
/-! ### d.get(k), d.get(k, x) -/
def getP (x y : D) (z : D) : Store → Option D := fun st => (dicS x st).bind fun kds => if (kD y).isSome = true then some ((dGet kds y).getD z) else none
def eGet1 (f g : Env → M D) : Env → M D := fun ρ => (f ρ).bind fun x => (M.look fun st => (dicS x st).map fun _ => ()).bind fun _ => (g ρ).bind fun y => M.look (getP x y .non)
def eGet2 (f g h : Env → M D) : Env → M D := fun ρ => (f ρ).bind fun x => (M.look fun st => (dicS x st).map fun _ => ()).bind fun _ => (g ρ).bind fun y => (h ρ).bind fun z => M.look (getP x y z)
theorem look_bind {α β δ : Type} {o : Store → Option α} {f : α → M β} {K : PySem.W.Frag} {rel : Rel β δ} {F H : Hp} {ι : List Addr} {σ : L2.St} {st : Store} {Q : δ → Hp → Prop} (h : Post K cl rel F ι H σ W ((M.look o).bind f st) Q) : ∃ a, o st = some a ∧ Post K cl rel F ι H σ W (f a st) Q := by
  have h : Post K cl rel F ι H σ W ((M.look o st).bind f) Q := h
  unfold M.look at h
  split at h
  · rename_i a e
    exact ⟨a, e, h⟩
  · exact h.elim
theorem de_get1 (hu : X.A.units + 64 < cLine) {o e : Expr} {apos cpos : Pos} {f g : Env → M D} (ho : DB X cl B W o f) (he : DE X cl B W e g) (m : M1 X o "get" apos e cpos) : DE X cl B W (.Call (.Attribute o "get" apos) [e] [] cpos) (eGet1 f g) :=
  weakE (pe_dget1 (by omega) ho he m) fun σ H Q ⟨F, ι, st, ρ, A, q⟩ => ⟨F, ι, st, ρ, A, Post.bind back_V q fun d st1 F1 ι1 H1 v x1 S1 r1 q1 => by
    obtain ⟨_, h1, q2⟩ := look_bind q1
    obtain ⟨kds, h1, _⟩ := Option.map_eq_some_iff.mp h1
    obtain ⟨p, kvs, rfl, hp, rk⟩ := RB.dicS S1 r1 h1
    refine ⟨p, rfl, .inl ⟨kvs, .inl hp⟩, F1, ι1, st1, ρ, A.later x1 S1, Post.bind back_V q2 fun y st2 F2 ι2 H2 u x2 S2 r2 q3 => ?_⟩
    obtain ⟨z, hz, k⟩ := look_ok q3
    obtain ⟨kds2, h2, h3⟩ := Option.bind_eq_some_iff.mp hz
    obtain ⟨p2, kvs2, e2, hp2, rk2⟩ := RB.dicS S2 (RB.ext x2 r1) h2
    cases e2
    split at h3
    · rename_i hk
      obtain ⟨q, hq⟩ := Option.isSome_iff_exists.mp hk
      obtain ⟨o, gt, h | h⟩ := dGet_at hp2 rk2 r2 hq
      · obtain ⟨v, d', rfl, h4, h5⟩ := h
        rw [h4] at h3
        cases h3
        exact ⟨_, gt, k F2 ι2 H2 v .refl S2 h5⟩
      · rw [h.2] at h3
        cases h3
        rw [h.1] at gt
        exact ⟨_, gt, k F2 ι2 H2 .non .refl S2 .non⟩
    · cases h3⟩
theorem de_get2 (hu : X.A.units + 64 < cLine) {o e e3 : Expr} {apos cpos : Pos} {f g h : Env → M D} (ho : DB X cl B W o f) (he : DE X cl B W e g) (hf : DE X cl B W e3 h) (m : M2 X o "get" apos e e3 cpos) : DE X cl B W (.Call (.Attribute o "get" apos) [e, e3] [] cpos) (eGet2 f g h) :=
  weakE (pe_dget2 (by omega) ho he hf m) fun σ H Q ⟨F, ι, st, ρ, A, q⟩ => ⟨F, ι, st, ρ, A, Post.bind back_V q fun d st1 F1 ι1 H1 v x1 S1 r1 q1 => by
    obtain ⟨_, h1, q2⟩ := look_bind q1
    obtain ⟨kds, h1, _⟩ := Option.map_eq_some_iff.mp h1
    obtain ⟨p, kvs, rfl, hp, rk⟩ := RB.dicS S1 r1 h1
    refine ⟨p, rfl, .inl ⟨kvs, .inl hp⟩, F1, ι1, st1, ρ, A.later x1 S1, Post.bind back_V q2 fun y st2 F2 ι2 H2 u x2 S2 r2 q3 => ?_⟩
    refine ⟨F2, ι2, st2, ρ, (A.later x1 S1).later x2 S2, Post.bind back_V q3 fun z st3 F3 ι3 H3 t x3 S3 r3 q4 => ?_⟩
    obtain ⟨w, hz, k⟩ := look_ok q4
    obtain ⟨kds2, h2, h3⟩ := Option.bind_eq_some_iff.mp hz
    obtain ⟨p2, kvs2, e2, hp2, rk2⟩ := RB.dicS S3 (RB.ext x3 (RB.ext x2 r1)) h2
    cases e2
    split at h3
    · rename_i hk
      obtain ⟨q, hq⟩ := Option.isSome_iff_exists.mp hk
      obtain ⟨o, gt, h | h⟩ := dGet_at hp2 rk2 (RV.ext x3 r2) hq
      · obtain ⟨v, d', rfl, h4, h5⟩ := h
        rw [h4] at h3
        cases h3
        exact ⟨_, gt, k F3 ι3 H3 v .refl S3 h5⟩
      · rw [h.2] at h3
        cases h3
        rw [h.1] at gt
        exact ⟨_, gt, k F3 ι3 H3 t .refl S3 r3⟩
    · cases h3⟩
end
end DL
end
section
/-! DV7: is True, is False; what is in dicts, their length; dicts whose keys are tuples, read. -/
namespace DL
open PySem PySem.Spec PyProof.Rows L2
/-! ### is of bools -/
def isBP : C2 := fun d e _ => match d, e with
  | .bool a, .bool b => some (decide (a = b))
  | _, _ => none
def notBP : C2 := fun d e _ => match d, e with
  | .bool a, .bool b => some (!decide (a = b))
  | _, _ => none
/-! ### dicts whose keys are tuples -/
def tkD : D → Option (List Key)
  | .tup ks => ksD ks
  | _ => none
def dGetT (kds : List (D × D)) (k : D) : Option D := match tkD k with
  | some q => (kds.find? fun p => decide (tkD p.1 = some q)).map (·.2)
  | none => none
def isTK (d : D) : Bool := (tkD d).isSome
def ditS : D → Store → Option (List (D × D))
  | .dit kds, _ => some kds
  | .loc l, st => match st[l]? with
    | some (.dit kds) => some kds
    | _ => none
  | _, _ => none
section
variable {K : PySem.W.Frag} {cl : Str → Option Addr} {F F' H H' : Hp} {ι ι' : List Addr} {st : Store}
theorem ksD_vals : ∀ {vs : List V} {ds : List D} {ks : List Key}, RVs K cl F ι vs ds → ksD ds = some ks → vs = ks.map kV
  | _, _, ks, .nil, h => by
    simp only [ksD, Option.some.injEq] at h
    subst h
    rfl
  | _, _, ks, .cons (d := d) (ds := ds) r t, h => by
    simp only [ksD] at h
    cases e1 : kD d with
    | none => rw [e1] at h; cases h
    | some k =>
      cases e2 : ksD ds with
      | none => rw [e1, e2] at h; cases h
      | some ks' =>
        rw [e1, e2] at h
        cases h
        rw [List.map_cons, ← ksD_vals t e2, kD_val r e1]
theorem RTs.length : ∀ {kvs : List (List Key × V)} {kds : List (D × D)}, RTs K cl F ι kvs kds → kvs.length = kds.length
  | _, _, .nil => rfl
  | _, _, .cons _ _ t => by rw [List.length_cons, List.length_cons, RTs.length t]
theorem RTs.get {q : List Key} : ∀ {kvs : List (List Key × V)} {kds : List (D × D)}, RTs K cl F ι kvs kds →
    (∃ v d, valV kvs q = some v ∧ (kds.find? fun p => decide (tkD p.1 = some q)).map (·.2) = some d ∧ RV K cl F ι v d) ∨ (valV kvs q = none ∧ (kds.find? fun p => decide (tkD p.1 = some q)).map (·.2) = none)
  | _, _, .nil => .inr ⟨rfl, rfl⟩
  | _, _, .cons (k := k) (kd := kd) (v := v) (d := d) e r t => by
    by_cases h : k = q
    · subst h
      refine .inl ⟨v, d, valV_pos rfl, ?_, r⟩
      rw [List.find?_cons]
      have : decide (tkD (D.tup kd) = some k) = true := decide_eq_true e
      simp only [this]
      rfl
    · rw [valV_neg (p := (k, v)) h, List.find?_cons]
      have : decide (tkD (D.tup kd) = some q) = false := decide_eq_false fun e2 => by
        have e2 : ksD kd = some q := e2
        rw [e] at e2
        exact h (Option.some.inj e2)
      simp only [this]
      exact RTs.get t
theorem RB.ditS (S : Sim K cl F ι H st) {v : V} {d : D} {kds : List (D × D)} (r : RB K cl F ι H v d) (h : DL.ditS d st = some kds) : ∃ a kvs, v = .ref a ∧ H a = some (.dT kvs) ∧ RTs K cl F ι kvs kds := by
  cases d with
  | dit ks =>
    simp only [DL.ditS, Option.some.injEq] at h
    subst h
    rcases r with r | ⟨_, _, _, e, _⟩
    · cases r with
      | dicT e q => exact ⟨_, _, rfl, S.sub _ _ e, q⟩
    · cases e
  | loc l =>
    simp only [DL.ditS] at h
    split at h
    · rename_i e
      cases h
      obtain ⟨a, rfl, _, ro⟩ := r.loc S e
      cases ro with
      | dicT e q => exact ⟨_, _, rfl, e, q⟩
    · cases h
  | _ => cases h
theorem dGetT_at (S : Sim K cl F ι H st) {a : Addr} {kvs : List (List Key × V)} {kds : List (D × D)} {u : V} {e : D} (h : H a = some (.dT kvs)) (r : RTs K cl F ι kvs kds) (ru : RV K cl F ι u e) (hq : isTK e = true) :
    ∃ o, DGet H a u o ∧ ((∃ v d, o = some v ∧ dGetT kds e = some d ∧ RV K cl F ι v d) ∨ (o = none ∧ dGetT kds e = none)) := by
  cases e with
  | tup ks =>
    cases ru with
    | tup s t =>
      obtain ⟨q, hq⟩ := Option.isSome_iff_exists.mp (show (ksD ks).isSome = true from hq)
      have ev := ksD_vals t hq
      subst ev
      refine ⟨_, DGet.t h (S.sub _ _ s), ?_⟩
      unfold dGetT
      have hq' : tkD (.tup ks) = some q := hq
      rw [hq']
      exact (r.get (q := q)).imp (fun ⟨v, d, h1, h2, h3⟩ => ⟨v, d, h1, h2, h3⟩) fun h => h
  | _ => cases hq
end
/-- k in d, by the kind of d -/
def inDP : C2 := fun k x st => match dicS x st with
  | some kds => if (kD k).isSome = true then some (dGet kds k).isSome else none
  | none => (ditS x st).bind fun kds => if isTK k = true then some (dGetT kds k).isSome else none
def notInDP : C2 := fun k x st => (inDP k x st).map (!·)
def lenDP : PN := fun ds st => match ds with
  | [d] => match dicS d st with
    | some kds => some (.int kds.length)
    | none => (ditS d st).map fun kds => .int kds.length
  | _ => none
section
variable {X : Cx} {cl : Str → Option Addr} {B : Base} {W : WX} {pos : Pos}
theorem o_isB : OpR X (compareOp .Is) (rC2 X.K cl isBP) := weakO op_isBl fun x y H Q ⟨F, ι, st, d, e, b, S, r1, r2, h, k⟩ => by
  unfold isBP at h
  split at h
  · cases h; exact ⟨_, _, RB.bool r1, RB.bool r2, k⟩
  · cases h
theorem o_notB : OpR X (compareOp .IsNot) (rC2 X.K cl notBP) := weakO op_notBl fun x y H Q ⟨F, ι, st, d, e, b, S, r1, r2, h, k⟩ => by
  unfold notBP at h
  split at h
  · cases h; exact ⟨_, _, RB.bool r1, RB.bool r2, k⟩
  · cases h
theorem frozen_key {K : PySem.W.Frag} {F H : Hp} {ι : List Addr} {v : V} {d : D} (r : RB K cl F ι H v d) (h : (kD d).isSome = true ∨ isTK d = true) : RV K cl F ι v d := by
  rcases r with r | ⟨_, _, _, rfl, _⟩
  · exact r
  · rcases h with h | h <;> cases h
theorem inD_at {K : PySem.W.Frag} {F H : Hp} {ι : List Addr} {st : Store} {x y : V} {d e : D} {b : Bool} (S : Sim K cl F ι H st) (r1 : RB K cl F ι H x d) (r2 : RB K cl F ι H y e) (h : inDP d e st = some b) : ∃ a o, y = .ref a ∧ DGet H a x o ∧ o.isSome = b := by
  unfold inDP at h
  split at h
  · rename_i kds hd
    split at h
    · rename_i hk
      cases h
      obtain ⟨p, kvs, rfl, hp, rk⟩ := RB.dicS S r2 hd
      obtain ⟨q, hq⟩ := Option.isSome_iff_exists.mp hk
      obtain ⟨o, gt, h | h⟩ := dGet_at hp rk (frozen_key r1 (.inl hk)) hq
      · obtain ⟨v, d', rfl, h4, h5⟩ := h
        exact ⟨p, _, rfl, gt, by rw [h4]; rfl⟩
      · exact ⟨p, _, rfl, gt, by rw [h.1, h.2]; rfl⟩
    · cases h
  · obtain ⟨kds, hd, h⟩ := Option.bind_eq_some_iff.mp h
    split at h
    · rename_i hk
      cases h
      obtain ⟨p, kvs, rfl, hp, rk⟩ := RB.ditS S r2 hd
      obtain ⟨o, gt, h | h⟩ := dGetT_at S hp rk (frozen_key r1 (.inr hk)) hk
      · obtain ⟨v, d', rfl, h4, h5⟩ := h
        exact ⟨p, _, rfl, gt, by rw [h4]; rfl⟩
      · exact ⟨p, _, rfl, gt, by rw [h.1, h.2]; rfl⟩
    · cases h
theorem o_inD (hu : X.A.units + 64 < cLine) : OpR X (compareOp .In) (rC2 X.K cl inDP) := fun pins s σ H x y v u Q I rx ry ⟨F, ι, st, d, e, b, S, r1, r2, h, k⟩ => by
  obtain ⟨a, o, rfl, g, eb⟩ := inD_at S r1 r2 h
  obtain rfl : u = Value.ref a := ry
  exact d_in (by omega) I g rx fun s' I' => ⟨.bl b, H, I', by rw [eb]; rfl, k⟩
theorem o_notInD (hu : X.A.units + 64 < cLine) : OpR X (compareOp .NotIn) (rC2 X.K cl notInDP) := fun pins s σ H x y v u Q I rx ry ⟨F, ι, st, d, e, b, S, r1, r2, h, k⟩ => by
  obtain ⟨b', h', rfl⟩ := Option.map_eq_some_iff.mp h
  obtain ⟨a, o, rfl, g, eb⟩ := inD_at S r1 r2 h'
  obtain rfl : u = Value.ref a := ry
  exact d_notIn (by omega) I g rx fun s' I' => ⟨.bl (!b'), H, I', by rw [eb]; rfl, k⟩
theorem CallR.or {f : Value} {r r' : List V → Hp → VK → Prop} (h : CallR X f r) (h' : CallR X f r') : CallR X f (fun vs H Q => r vs H Q ∨ r' vs H Q) := fun pins s σ H xs us Q I rv q => q.elim (fun q => h pins s σ H xs us Q I rv q) fun q => h' pins s σ H xs us Q I rv q
theorem c_lenD : CallR X (.builtin "len") (rN X.K cl lenDP) := weakC (CallR.or call_lenD call_len_dT) fun vs H Q ⟨F, ι, st, ds, z, S, r, e, k⟩ => by
  unfold lenDP at e
  split at e
  · obtain ⟨v, rfl, rv⟩ := rbs1 r
    split at e
    · rename_i kds hd
      cases e
      obtain ⟨p, kvs, rfl, hp, rk⟩ := RB.dicS S rv hd
      exact .inl ⟨p, kvs, rfl, hp, by rw [rk.length]; exact k F H _ .refl S (.int _)⟩
    · obtain ⟨kds, hd, rfl⟩ := Option.map_eq_some_iff.mp e
      obtain ⟨p, kvs, rfl, hp, rk⟩ := RB.ditS S rv hd
      exact .inr ⟨p, kvs, rfl, hp, by rw [rk.length]; exact k F H _ .refl S (.int _)⟩
  · cases e
end
end DL
end
section
/-! DV8: dict comprehensions over any kind of dict. -/
namespace DL
open PySem PySem.Spec PyProof.Rows L2
/-- a kind of dict: the empty one, what is put into one -/
structure DKind (X : Cx) where
  o0 : HO
  new : ∀ {H : Hp} (h : Heap), sysModules < h.objs.size → ObjOk X.prog X.w H (h.push { cls := .type "dict", data := .dict #[] }) h.objs.size o0
  put : Hp → Addr → V → V → Hp → Prop
  set : ∀ (Y : Cx), Y.prog = X.prog → Y.w = X.w → ∀ (pins : List (Addr × Obj)) (σ : L2.St) (H : Hp) (s : Shared) (a : Addr) (y z : V) (H' : Hp) (u r : Value) (Q : Unit → Shared → Prop) (E : Value → Shared → Prop),
    Inv Y pins σ H s → put H a y z H' → RelV y u → RelV z r → (∀ s', Inv Y pins σ H' s' → Q () s') → wpAny (model X.prog X.w) X.A (dictSet a u r) Q E s
/-- the turns of a block -/
def Turns (J : It) (g : TG) (tt : TT) (tk tv : TE) (put : Hp → Addr → V → V → Hp → Prop) (σ : L2.St) (vs : List Nat) (a : Addr) (Qd : Hp → Prop) (W : Nat → Nat → Hp → Prop) : Prop := ∀ i m H, W i m H →
  (J.stop i H ∧ Qd H) ∨ (J.go i H ∧ ∃ Nx : Hp → Prop, (∀ H', Nx H' → ∃ m', m' < m ∧ W (i + 1) m' H') ∧ ∀ x H', J.yld i H x H' → g x (wipe σ vs) H' fun σ2 H2 => wipe σ2 vs = wipe σ vs ∧ tt σ2 H2 fun b H3 =>
    if b = true then tk σ2 H3 fun y H4 => tv σ2 H4 fun z H5 => ∃ H6, put H5 a y z H6 ∧ Nx H6 else Nx H3)
/-- the block runs -/
theorem block_run {X Y : Cx} {fp : List Addr} (kd : DKind X) (e1 : Y.prog = X.prog) (e2 : Y.w = X.w) (e3 : Y.A = X.A) (e4 : Y.ex = fp) (e5 : Y.pn = []) (e6 : Y.xe = fun _ _ => False) (e7 : Y.calm = true) {kx vx tg iter : Expr} {ifs : List Expr} {scope : Scope} {vs : List Nat} {pos : Pos} {g : TG} {tt : TT} {tk tv : TE}
    {J : It} {it a : Addr} {tn : Nat → Heap → Prop} {σ : L2.St} {W : Nat → Nat → Hp → Prop} {Qd : Hp → Prop} {R : Result → Shared → Prop} (T : Turn Y.prog Y.w Y.K tg J fp it tn) (tr : Turns J g tt tk tv kd.put σ vs a Qd W)
    (pg : PG Y tg g) (pt : PTs Y ifs tt) (pk : PE Y kx tk) (pv : PE Y vx tv) (fin : ∀ s' H', Inv Y [] (wipe σ vs) H' s' → Qd H' → R (.ok .next) s') {m : Nat} {H : Hp} {s : Shared}
    (I : Inv Y [] (wipe σ vs) H s) (st : tn 0 s.heap) (nf : ∀ b ∈ fp, H b = none) (w : W 0 m H) : codeAny (model X.prog X.w) X.A (.compLoop (.DictComp kx vx [⟨tg, iter, ifs, 0⟩] scope pos) 0 (.ref it) (.ref a) Y.env) R s := by
  have ok : ∀ {σ' : L2.St} {H' : Hp} {s' : Shared}, Inv Y [] σ' H' s' → (∀ b ∈ fp, H' b = none) → ∀ b ∈ fp, FpOk Y [] H' b := fun {σ' H' s'} I' hn b hb => by
    have hb' : b ∈ Y.ex := by rw [e4]; exact hb
    refine ⟨hn b hb, (I'.ok.exf b hb').1, I'.ok.exfs b hb', .inl hb', fun x c e => (I'.ok.exf b hb').2 x c e, fun p hp => ?_⟩
    rw [e5] at hp
    cases hp
  refine compLoop_anyD (fun n s' => ∃ i H', Inv Y [] (wipe σ vs) H' s' ∧ tn i s'.heap ∧ (∀ b ∈ fp, H' b = none) ∧ W i n H') (fun n s5 ⟨i, H5, I5, st5, n5, w5⟩ => ?_) m ⟨0, H, I, st, nf, w⟩
  have loose : ∀ {α : Type} {t : Sem α} {Q Q' : α → Shared → Prop} {E : Value → Shared → Prop} {s : Shared}, wpAny (model Y.prog Y.w) Y.A t Q Y.xe s → (∀ a s, Q a s → Q' a s) → wpAny (model X.prog X.w) X.A t Q' E s := fun {α t Q Q' E s} h k => by
    rw [e6, e1, e2, e3] at h
    exact thnF h k
  have loose2 : ∀ {α : Type} {t : Sem α} {Q Q' : α → Shared → Prop} {E : Value → Shared → Prop} {s : Shared}, wpAny (model Y.prog Y.w) Y.A t Q (fun _ _ => False) s → (∀ a s, Q a s → Q' a s) → wpAny (model X.prog X.w) X.A t Q' E s := fun {α t Q Q' E s} h k => by
    rw [e1, e2, e3] at h
    exact thnF h k
  have back : ∀ {α : Type} {t : Sem α} {Q Q' : α → Shared → Prop} {E : Value → Shared → Prop} {s : Shared}, wpAny (model Y.prog Y.w) Y.A t Q (fun _ _ => False) s → (∀ a s, Q a s → Q' a s) → wpAny (model X.prog X.w) X.A t Q' E s := loose2
  rcases tr i n H5 w5 with ⟨stop, qd⟩ | ⟨go, Nx, hNx, step⟩
  · exact loose2 (T.done Y rfl rfl rfl e7 i [] s5 _ H5 (fun _ _ => False) I5 (ok I5 n5) st5 stop) fun r s6 ⟨hr, I6⟩ => by
      subst hr
      exact fin s6 H5 I6 qd
  · refine loose2 (T.item Y rfl rfl rfl e7 i [] s5 _ H5 (fun _ _ => False) I5 (ok I5 n5) st5 go) fun r s6 ⟨u, hr, h6⟩ => ?_
    subst hr
    refine back h6 fun _ s7 ⟨x, H7, I7, r7, y7, st7, n7⟩ => ?_
    have J7 := I7.pinned (ok I7 n7) (T.obj _ _ st7)
    refine loose (pg.run _ s7 _ H7 x u _ J7 r7 (step x H7 y7)) fun _ s8 ⟨σ8, H8, I8, hw8, q8⟩ => loose (pt.run _ s8 σ8 H8 _ I8 q8) fun b s9 ⟨H9, I9, q9⟩ => ?_
    -- behind the turn
    have next : ∀ {s' : Shared} {H' : Hp}, Inv Y ([] ++ pinsAt fp s7.heap) σ8 H' s' → Nx H' → ∃ m', m' < n ∧ ∃ i H', Inv Y [] (wipe σ vs) H' s' ∧ tn i s'.heap ∧ (∀ b ∈ fp, H' b = none) ∧ W i m' H' := fun {s' H'} I' nx => by
      obtain ⟨m', hm, w'⟩ := hNx H' nx
      have kept : ∀ b ∈ fp, ∃ o, s7.heap.get? b = some o ∧ s'.heap.get? b = some o ∧ H' b = none := fun b hb => by
        obtain ⟨o, e, _⟩ := T.obj _ _ st7 b hb
        have z := I'.pin (b, o) (List.mem_append_right _ (mem_pinsAt hb e))
        exact ⟨o, e, z.1, z.2.1⟩
      refine ⟨m', hm, i + 1, H', (I'.unpinned (pins := [])).weak (by rw [← hw8, wipe_length]) (fun j v e => ?_), T.keep _ _ _ st7 fun b hb o e => ?_, fun b hb => ?_, w'⟩
      · rw [← hw8] at e
        exact (wipe_some e).1
      · obtain ⟨o', e', z, _⟩ := kept b hb
        rw [e] at e'
        cases e'
        exact z
      · obtain ⟨_, _, _, z⟩ := kept b hb
        exact z
    cases b with
    | false =>
      rw [if_neg Bool.false_ne_true] at q9 ⊢
      exact next I9 q9
    | true =>
      rw [if_pos rfl] at q9 ⊢
      refine loose (pk.run _ s9 σ8 H9 _ I9 q9) fun z s10 ⟨yk, H10, I10, r10, q10⟩ => loose (pv.run _ s10 σ8 H10 _ I10 q10) fun z2 s11 ⟨yv, H11, I11, r11, H12, hput, nx⟩ => ?_
      exact kd.set Y e1 e2 _ σ8 H11 s11 a yk yv H12 z z2 _ _ I11 hput r10 r11 fun s12 I12 => next I12 nx
/-- the reading -/
def tDx {X : Cx} (kd : DKind X) (wi : TI) (g : TG) (tt : TT) (tk tv : TE) (vs : List Nat) : TE := fun σ H Q => wi σ H fun J H1 => ∀ a, H1 a = none → ∃ W : Nat → Nat → Hp → Prop, (∃ m, W 0 m (upd H1 a kd.o0)) ∧ Turns J g tt tk tv kd.put σ vs a (fun H => Q (.ref a) H) W
theorem pe_dx {X : Cx} (kd : DKind X) {kx vx tg iter : Expr} {ifs : List Expr} {scope : Scope} {own : List (Str × Nat)} {pos : Pos} {wi : TI} {g : TG} {tt : TT} {tk tv : TE} (hc : X.calm = true) (hN : X.N.Nodup) (hi : PI X tg iter wi) (ok : BlkOk X.N X.env.scope scope own)
    (hg : ∀ (s : Shared) (H : Hp) (C : Addr) (cl : List (Str × Addr)) (fp : List Addr), PG (X.blk s H scope (compEnvC scope cl C X.env) fp) tg g) (ht : ∀ (s : Shared) (H : Hp) (C : Addr) (cl : List (Str × Addr)) (fp : List Addr), PTs (X.blk s H scope (compEnvC scope cl C X.env) fp) ifs tt)
    (hk : ∀ (s : Shared) (H : Hp) (C : Addr) (cl : List (Str × Addr)) (fp : List Addr), PE (X.blk s H scope (compEnvC scope cl C X.env) fp) kx tk)
    (he : ∀ (s : Shared) (H : Hp) (C : Addr) (cl : List (Str × Addr)) (fp : List Addr), PE (X.blk s H scope (compEnvC scope cl C X.env) fp) vx tv) (hs : ∀ x, foldedSetIterable iter X.env x = pure x := by intro _; rfl) :
    PE X (.DictComp kx vx [⟨tg, iter, ifs, 0⟩] scope pos) (tDx kd wi g tt tk tv (own.map (·.2))) := by
  refine ⟨fun pins s σ H Q I h => ?_⟩
  rw [arm_eval_DictComp]
  have hfree : ∀ y ∈ scope.names, y.2 = .free → ∃ c, X.env.cells.lookup y.1 = some c := fun y hy e => I.ok.has _ (ok.free y hy e)
  refine wpAny_comprehension_free rfl hs (closure_ok hfree) ok.kind (fun y hy e => by rw [ok.uniq y hy, e]) (thn (hi.run pins s σ H _ I h) fun xv s1 hx => thn hx fun itv s2 ⟨it, fp, tn, J, H2, e, I2, T, st2, f2, q⟩ => ?_)
  subst e
  refine wpAny_newObj_type (newEnv_comp ?_)
  -- the dict
  have fresh : H2 s2.heap.objs.size = none := I2.hok.fresh (Nat.le_refl _)
  obtain ⟨W, ⟨m0, w0⟩, tr⟩ := q _ fresh
  have up : ∀ b o, s2.heap.get? b = some o → (s2.heap.push ({ cls := .type "dict", data := .dict #[] } : Obj)).get? b = some o := fun b o e => Heap.get?_push_of_some _ e
  have I3 : Inv X pins σ (upd H2 s2.heap.objs.size kd.o0) { s2 with heap := s2.heap.push { cls := .type "dict", data := .dict #[] } } := I2.laid (t' := s2.toks) up (Nat.le_refl _) (kd.new s2.heap I2.big)
  have low : ∀ b ∈ fp, b < s2.heap.objs.size := fun b hb => by
    obtain ⟨o, e, _⟩ := T.obj _ _ st2 b hb
    exact Heap.lt_size e
  generalize ea : s2.heap.objs.size = a at fresh w0 tr I3 low ⊢
  generalize es : ({ s2 with heap := s2.heap.push { cls := .type "dict", data := .dict #[] } } : Shared) = s3 at I3 ⊢
  have eh : s3.heap = s2.heap.push { cls := .type "dict", data := .dict #[] } := by rw [← es]
  have f3 : ∀ b ∈ fp, FpOk X pins (upd H2 a kd.o0) b ∧ b < s3.heap.objs.size := fun b hb => by
    have hlt := low b hb
    refine ⟨⟨?_, (f2 b hb).2⟩, ?_⟩
    · rw [upd_ne (Nat.ne_of_lt hlt)]
      exact (f2 b hb).1
    · rw [eh, Heap.size_push, ea]
      exact Nat.lt_succ_of_lt hlt
  have st3 : tn 0 s3.heap := T.keep _ _ _ st2 fun b _ o e => by rw [eh]; exact up b o e
  have I4 := block_start I3 ok hN f3
  have st4 : tn 0 (pushCells (s3.heap.push ({ cls := .type "dict", data := .dict #[] } : Obj)) scope.names) := T.keep _ _ _ st3 fun b _ o e => pushCells_keeps _ _ _ _ (Heap.get?_push_of_some _ e)
  have nf : ∀ b ∈ fp, (upd H2 a kd.o0) b = none := fun b hb => (f3 b hb).1.1
  have run := block_run (Y := X.blk s3 (upd H2 a kd.o0) scope (compEnvC scope (cellsFrom (s3.heap.objs.size + 1) scope.names (cloFrom X.env.cells scope.names [])) s3.heap.objs.size X.env) fp) (iter := iter) (scope := scope) (pos := pos) (R := compPost (model X.prog X.w) X.A X.xe none (fun v s' => EP X pins σ Q v s') (.ref a) s3.heap.objs.size) kd rfl rfl rfl rfl rfl rfl hc T tr
    (hg _ _ _ _ _) (ht _ _ _ _ _) (hk _ _ _ _ _) (he _ _ _ _ _) (fun s6 H5 I6 qd => ?_) I4 st4 nf w0
  · exact codeAny_compStart_dict run (T.self X.A 0 _ _ _ st4 run)
  · -- the block's end
    have I7 : Inv X pins σ H5 s6 := I3.call' (ch := fp) I6.os I6.base I6.hok I6.bare fun b hb => ⟨(f3 b hb).1.2.2.2.1, (f3 b hb).1.2.1, (f3 b hb).1.2.2.2.2.1, (f3 b hb).1.2.2.2.2.2⟩
    have nC : H5 s3.heap.objs.size = none := I6.free
    obtain ⟨m, hn, _⟩ := I6.loc
    obtain ⟨g0, g1, g2, g3, g4, g5⟩ := I3.fpOk (Nat.le_refl _) nC
    exact ⟨m, hn, fun h'' sb => ⟨.ref a, H5, I7.turned (t' := s6.toks) (fun b o hb e => (sb.2 b hb).trans e) g0 g1 g3 g4 g5, rfl, qd⟩⟩
end DL
end
section
/-! DV9: dict comprehensions whose keys are tuples of ints and texts. -/
namespace DL
open PySem PySem.Spec PyProof.Rows L2
/-- dicts whose keys are tuples -/
def kdT (X : Cx) (hu : X.A.units < cLine) : DKind X where
  o0 := .dT []
  new := fun h hb => dt_empty h hb
  put := fun H a y z H' => ∃ kvs k b, y = .ref b ∧ H b = some (.tup (k.map kV)) ∧ H a = some (.dT kvs) ∧ kvs.length < sizeLine ∧ H' = upd H a (.dT (putK kvs k z))
  set := fun Y e1 e2 pins σ H s a y z H' u r Q E I hp ry rz hq => by
    obtain ⟨kvs, k, b, rfl, eb, ea, hl, rfl⟩ := hp
    obtain rfl : u = Value.ref b := ry
    obtain ⟨hz, hd, xs, rel, dd⟩ := dt_of I.hok ea
    have key := key_of I.hok eb
    rw [← e1, ← e2]
    have len : xs.length ≤ sizeLine := by rw [← Paired.length rel]; exact hz
    refine wpAny_dictSet_heap (knd := tupleKind (mixKind Y.prog Y.w)) (hsz := len) hu key dd fun h' dd' hs => hq _ ?_
    obtain ⟨q, es, ep, h1, h2, h3, h4, _, h5⟩ := dd'
    have hl2 := length_putK kvs k z
    refine d_write I (by rw [ea]; exact True.intro) hs ⟨q, h1⟩ ⟨by omega, hd, _, (rel.put k eb rz).keeps fun c ys ec => ?_, q, es, ep, h1, h2, h3, h4, h5⟩
    rw [upd_ne (ne_of ec ea fun z => nomatch z)]
    exact ec
def putTD (kds : List (D × D)) (k d : D) : List (D × D) := if (kds.any fun p => decide (tkD p.1 = tkD k)) = true then kds.map (fun p => if tkD p.1 = tkD k then (p.1, d) else p) else kds ++ [(k, d)]
def dcompT (g : GM) (t : Env → M Bool) (fk fv : Env → M D) : List D → List (D × D) → Env → M (List (D × D))
  | [], acc, _ => M.ret acc
  | x :: xs, acc, ρ => fun st => match g x ρ with
    | none => .stuck
    | some ρ1 => (t ρ1 st).bind fun b => if b = true then M.bind (fk ρ1) fun k => M.bind (fv ρ1) fun d => if (tkD k).isSome = true ∧ acc.length < sizeLine then dcompT g t fk fv xs (putTD acc k d) ρ else M.stuck else dcompT g t fk fv xs acc ρ
def fDCompT (vs : List Nat) (src : Env → M (List D)) (g : GM) (t : Env → M Bool) (fk fv : Env → M D) : Env → M (List (D × D)) := fun ρ => (src ρ).bind fun xs st => (dcompT g t fk fv xs [] (wipeE ρ vs) st).noX
def eDCompT (vs : List Nat) (src : Env → M (List D)) (g : GM) (t : Env → M Bool) (fk fv : Env → M D) : Env → M D := fun ρ => (fDCompT vs src g t fk fv ρ).bind fun kds => M.ret (.dit kds)
section
variable {K : PySem.W.Frag} {cl : Str → Option Addr} {F F' H H' : Hp} {ι ι' : List Addr} {q : List Key} {k d : D} {v : V}
theorem RTs.ext (x : Ext F F' ι ι' H H') {kvs : List (List Key × V)} {kds : List (D × D)} (r : RTs K cl F ι kvs kds) : RTs K cl F' ι' kvs kds := r.up x.f x.i
theorem RTs.any (ek : tkD k = some q) : ∀ {kvs : List (List Key × V)} {kds : List (D × D)}, RTs K cl F ι kvs kds → (kvs.any fun kv => decide (kv.1 = q)) = (kds.any fun p => decide (tkD p.1 = tkD k))
  | _, _, .nil => rfl
  | _, _, .cons (k := k0) (kd := kd) e r t => by
    have e' : tkD (.tup kd) = some k0 := e
    rw [List.any_cons, List.any_cons, RTs.any ek t, e', ek]
    congr 1
    by_cases h : k0 = q
    · subst h; simp
    · exact (decide_eq_false h).trans (decide_eq_false (fun z => h (Option.some.inj z))).symm
theorem tk_tup (ek : tkD k = some q) : ∃ ks, k = .tup ks ∧ ksD ks = some q := by
  cases k with
  | tup ks => exact ⟨ks, rfl, ek⟩
  | _ => cases ek
theorem RTs.snoc (ek : tkD k = some q) (rv : RV K cl F ι v d) : ∀ {kvs : List (List Key × V)} {kds : List (D × D)}, RTs K cl F ι kvs kds → RTs K cl F ι (kvs ++ [(q, v)]) (kds ++ [(k, d)])
  | _, _, .nil => by
    obtain ⟨ks, rfl, e⟩ := tk_tup ek
    exact .cons e rv .nil
  | _, _, .cons e r t => .cons e r (RTs.snoc ek rv t)
theorem RTs.put_map (ek : tkD k = some q) (rv : RV K cl F ι v d) : ∀ {kvs : List (List Key × V)} {kds : List (D × D)}, RTs K cl F ι kvs kds → RTs K cl F ι (kvs.map fun kv => if kv.1 = q then (kv.1, v) else kv) (kds.map fun p => if tkD p.1 = tkD k then (p.1, d) else p)
  | _, _, .nil => .nil
  | _, _, .cons (k := k0) (kd := kd) e r t => by
    have e' : tkD (.tup kd) = some k0 := e
    rw [List.map_cons, List.map_cons]
    by_cases hq : k0 = q
    · rw [if_pos hq, if_pos (by rw [e', ek, hq])]
      exact .cons e rv (RTs.put_map ek rv t)
    · rw [if_neg hq, if_neg (by rw [e', ek]; intro z; exact hq (Option.some.inj z))]
      exact .cons e r (RTs.put_map ek rv t)
theorem RTs.put (ek : tkD k = some q) (rv : RV K cl F ι v d) {kvs : List (List Key × V)} {kds : List (D × D)} (h : RTs K cl F ι kvs kds) : RTs K cl F ι (putK kvs q v) (putTD kds k d) := by
  unfold putK putTD
  rw [RTs.any ek h]
  split
  · exact RTs.put_map ek rv h
  · exact RTs.snoc ek rv h
def OwnT (K : PySem.W.Frag) (cl : Str → Option Addr) (F : Hp) (ι : List Addr) (H : Hp) (a : Addr) (kds : List (D × D)) : Prop := ∃ kvs, H a = some (.dT kvs) ∧ RTs K cl F ι kvs kds ∧ F a = none ∧ a ∉ ι
theorem OwnT.ext {a : Addr} {kds : List (D × D)} (x : Ext F F' ι ι' H H') (o : OwnT K cl F ι H a kds) : OwnT K cl F' ι' H' a kds := by
  obtain ⟨kvs, h, r, n, m⟩ := o
  refine ⟨kvs, x.h a _ h m, r.ext x, ?_, ?_⟩
  · cases e : F' a with
    | none => rfl
    | some o =>
      rcases x.nf a o e with z | z
      · rw [n] at z; cases z
      · rw [h] at z; cases z
  · intro hm
    rcases x.ni a hm with z | z
    · exact m z
    · rw [h] at z; cases z
def rKT (K : PySem.W.Frag) (cl : Str → Option Addr) : Rel (List (D × D)) V := fun H₀ F ι H v kds => ∃ a, v = .ref a ∧ OwnT K cl F ι H a kds ∧ H₀ a = none
theorem back_KT : Rel.Back (rKT K cl) := fun _ _ _ _ _ _ _ t ⟨a, e, o, n⟩ => ⟨a, e, o, none_back t n⟩
end
section
variable {X : Cx} {cl : Str → Option Addr} {B : Base} {W : WX} {pos : Pos}
theorem tDxT_of (hu : X.A.units < cLine) {vs ws : List Nat} {src : Env → M (List D)} {g : GM} {t : Env → M Bool} {fk fv : Env → M D} (hw : ∀ i ∈ ws, i ∈ vs) {σ : L2.St} {H : Hp} {Q : VK} (h : tG X.K cl B W (rKT X.K cl) (fDCompT vs src g t fk fv) σ H Q) :
    tDx (kdT X hu) (tW X.K cl B W src) (tGt X.K cl B ws g) (tT X.K cl B W0 t) (tE X.K cl B W0 fk) (tE X.K cl B W0 fv) vs σ H Q := by
  obtain ⟨F, ι, st, ρ, A, q⟩ := h
  refine ⟨F, ι, st, ρ, A, Post.bind back_KT q fun xs st1 F1 ι1 H1 J x1 S1 wk p => ?_⟩
  intro D0 hD
  have A1 := A.later x1 S1
  obtain ⟨nF, nι⟩ := S1.none_of hD
  have nB : B.H D0 = none := none_back A1.ext.t hD
  have nO : ∀ (j : Nat) (ys : List D), (wipeE ρ vs)[j]? = some (.own ys) → (wipe σ vs)[j]? ≠ some (some (V.ref D0)) := (A1.wipe vs).fresh hD
  refine ⟨fun i m H => ∃ F2 ι2 st2 acc accD, Le F1 ι1 F2 ι2 ∧ At X.K cl B F2 ι2 H st2 (wipe σ vs) (wipeE ρ vs) ∧ H D0 = some (.dT acc) ∧ RTs X.K cl F2 ι2 acc accD ∧ F2 D0 = none ∧ D0 ∉ ι2 ∧ m = xs.length - i ∧
    Post X.K cl (rKT X.K cl) F2 ι2 (del H D0) σ W (dcompT g t fk fv (xs.drop i) accD (wipeE ρ vs) st2).noX Q, ⟨xs.length, F1, ι1, st1, [], [], .refl F1 ι1, ?_, upd_same, .nil, nF, nι, rfl, ?_⟩, ?_⟩
  · exact (A1.wipe vs).later (newH S1 hD).1 (newH S1 hD).2
  · rw [del_upd, del_new hD]; exact p
  · rintro i m H2 ⟨F2, ι2, st2, acc, accD, l2, A2, hD2, ra, nF2, nι2, rfl, p2⟩
    by_cases hi : i < xs.length
    · right
      have ed : xs.drop i = xs[i] :: xs.drop (i + 1) := List.drop_eq_getElem_cons hi
      rw [ed] at p2
      refine ⟨wk.go i F2 ι2 H2 st2 hi l2 A2.sim, fun H => ∃ F2 ι2 st2 acc accD, Le F1 ι1 F2 ι2 ∧ At X.K cl B F2 ι2 H st2 (wipe σ vs) (wipeE ρ vs) ∧ H D0 = some (.dT acc) ∧ RTs X.K cl F2 ι2 acc accD ∧ F2 D0 = none ∧ D0 ∉ ι2 ∧
        Post X.K cl (rKT X.K cl) F2 ι2 (del H D0) σ W (dcompT g t fk fv (xs.drop (i + 1)) accD (wipeE ρ vs) st2).noX Q, ?_, ?_⟩
      · rintro H' ⟨F3, ι3, st3, acc3, accD3, l3, A3, hD3, ra3, nF3, nι3, p3⟩
        exact ⟨xs.length - (i + 1), by omega, F3, ι3, st3, acc3, accD3, l3, A3, hD3, ra3, nF3, nι3, rfl, p3⟩
      · intro x H3 y
        obtain ⟨F3, x3, S3, r3⟩ := wk.yld i xs[i] F2 ι2 H2 st2 x H3 (List.getElem?_eq_getElem hi) l2 A2.sim y
        have A3 := A2.later x3 S3
        have o3 : OwnT X.K cl F3 ι2 H3 D0 accD := OwnT.ext x3 ⟨acc, hD2, ra, nF2, nι2⟩
        unfold dcompT at p2
        cases eg : g xs[i] (wipeE ρ vs) with
        | none => rw [eg] at p2; exact p2.elim
        | some ρ1 =>
          rw [eg] at p2
          dsimp only at p2
          refine ⟨F3, ι2, st2, wipeE ρ vs, xs[i], ρ1, A3, r3, eg, fun σ' A' o' => ⟨wipe_only o' hw, ?_⟩⟩
          rw [noX_bind] at p2
          have p3 := Post.later back_KT x3.del p2
          refine ⟨F3, ι2, st2, ρ1, A', Post.bindDel back_KT p3 fun b st4 F4 ι4 H4 b' x4 S4 r4 p4 => ?_⟩
          cases r4
          have o4 := OwnT.ext x4 o3
          have A4 := A3.later x4 S4
          cases b with
          | true =>
            replace p4 : Post X.K cl (rKT X.K cl) F4 ι4 (del H4 D0) σ W (((fk ρ1 st4).bind fun k => M.bind (fv ρ1) fun d => if (tkD k).isSome = true ∧ accD.length < sizeLine then dcompT g t fk fv (xs.drop (i + 1)) (putTD accD k d) (wipeE ρ vs) else M.stuck).noX) Q := p4
            rw [noX_bind] at p4
            refine iteT ⟨F4, ι4, st4, ρ1, A'.later x4 S4, Post.bindDel back_KT p4 fun k st5 F5 ι5 H5 y x5 S5 r5 p5 => ?_⟩
            have o5 := OwnT.ext x5 o4
            replace p5 : Post X.K cl (rKT X.K cl) F5 ι5 (del H5 D0) σ W (((fv ρ1 st5).bind fun d => if (tkD k).isSome = true ∧ accD.length < sizeLine then dcompT g t fk fv (xs.drop (i + 1)) (putTD accD k d) (wipeE ρ vs) else M.stuck).noX) Q := p5
            rw [noX_bind] at p5
            refine ⟨F5, ι5, st5, ρ1, (A'.later x4 S4).later x5 S5, Post.bindDel back_KT p5 fun d st6 F6 ι6 H6 z x6 S6 r6 p6 => ?_⟩
            obtain ⟨acc6, h6, ra6, nF6, nι6⟩ := OwnT.ext x6 o5
            by_cases hz : (tkD k).isSome = true ∧ accD.length < sizeLine
            · rw [if_pos hz] at p6
              obtain ⟨q, ek⟩ := Option.isSome_iff_exists.mp hz.1
              obtain ⟨ks, rfl, eks⟩ := tk_tup ek
              have r5' : RV X.K cl F6 ι6 y (.tup ks) := RV.ext x6 r5
              cases r5' with
              | tup s0 t0 =>
              rename_i b0 vs0
              have ev := ksD_vals t0 eks
              subst ev
              refine ⟨_, ⟨acc6, q, b0, rfl, S6.sub _ _ s0, h6, by rw [ra6.length]; exact hz.2, rfl⟩, F6, ι6, st6, putK acc6 q z, putTD accD (.tup ks) d, ((l2.trans x3.le).trans (x4.le.trans x5.le)).trans x6.le, At.updFree ((A4.later x5 S5).later x6 S6) h6 nF6 nι6 nB nO, upd_same, ra6.put ek r6, nF6, nι6, ?_⟩
              rw [del_upd]
              exact p6
            · rw [if_neg hz] at p6
              exact p6.elim
          | false =>
            replace p4 : Post X.K cl (rKT X.K cl) F4 ι4 (del H4 D0) σ W ((dcompT g t fk fv (xs.drop (i + 1)) accD (wipeE ρ vs) st4).noX) Q := p4
            obtain ⟨acc4, h4, ra4, nF4, nι4⟩ := o4
            exact iteF ⟨F4, ι4, st4, acc4, accD, (l2.trans x3.le).trans x4.le, A4, h4, ra4, nF4, nι4, p4⟩
    · left
      have ed : xs.drop i = [] := List.drop_eq_nil_of_le (Nat.le_of_not_lt hi)
      rw [ed] at p2
      exact ⟨wk.stop i F2 ι2 H2 st2 (Nat.le_of_not_lt hi) l2 A2.sim, p2 F2 ι2 H2 _ Ext.toDel A2.sim ⟨D0, rfl, ⟨acc, hD2, ra, nF2, nι2⟩, del_same⟩⟩
/-- {k: v for tg in iter if ..} -/
theorem de_dcompT (hu : X.A.units < cLine) {e : Expr} {vs ws : List Nat} {src : Env → M (List D)} {g : GM} {t : Env → M Bool} {fk fv : Env → M D} (h : PE X e (tDx (kdT X hu) (tW X.K cl B W src) (tGt X.K cl B ws g) (tT X.K cl B W0 t) (tE X.K cl B W0 fk) (tE X.K cl B W0 fv) vs)) (hw : ∀ i ∈ ws, i ∈ vs) : DE X cl B W e (eDCompT vs src g t fk fv) :=
  weakE h fun σ H Q ⟨F, ι, st, ρ, A, q⟩ => tDxT_of hu hw ⟨F, ι, st, ρ, A, by
    replace q : Post X.K cl (rV X.K cl) F ι H σ W ((fDCompT vs src g t fk fv ρ st).bind fun kds => M.ret (.dit kds)) Q := q
    cases e : fDCompT vs src g t fk fv ρ st with
    | stuck => rw [e] at q; exact q
    | exc e' st' => rw [e] at q; exact q
    | ok xs st' =>
      rw [e] at q
      intro F' ι' H' v x S r
      obtain ⟨a, rfl, ⟨kvs, h1, h2, h3, h4⟩, n⟩ := r
      obtain ⟨y, T⟩ := freeze S x h1 h3 h4 n
      exact q _ ι' H' _ y T (.dicT upd_same (h2.up (fun a o e => by rw [upd_ne (ne_of_none e h3)]; exact e) (List.prefix_refl _)))⟩
end
end DL
end
section
/-! DV10: dict(pairs). -/
namespace DL
open PySem PySem.Spec PyProof.Rows L2
/-- a pair as it lies: the key's tuple, its items, the value -/
abbrev KE3 := Addr × List Key × V
def mergeT (kvs : List (List Key × V)) (es : List KE3) : List (List Key × V) := es.foldl (fun acc e => putK acc e.2.1 e.2.2) kvs
theorem mergeT_len : ∀ (es : List KE3) (kvs : List (List Key × V)), (mergeT kvs es).length ≤ kvs.length + es.length
  | [], kvs => by simp [mergeT]
  | e :: es, kvs => by
    have h := mergeT_len es (putK kvs e.2.1 e.2.2)
    have h2 := length_putK kvs e.2.1 e.2.2
    show (mergeT (putK kvs e.2.1 e.2.2) es).length ≤ _
    rw [List.length_cons]
    omega
theorem KT.merge {H : Hp} : ∀ {es : List KE3} {xs : List (List Key × Addr × Value)} {kvs : List (List Key × V)} {ys : List (List Key × Addr × Value)}, Paired (fun (e : KE3) (x : List Key × Addr × Value) => x.1 = e.2.1 ∧ H x.2.1 = some (.tup (e.2.1.map kV)) ∧ RelV e.2.2 x.2.2) es xs → KT H kvs ys → KT H (mergeT kvs es) (storedAllH ys xs)
  | _, _, kvs, ys, .nil, r => r
  | _, _, kvs, ys, .cons (a := e) (b := x) h t, r => by
    obtain ⟨k, b, u⟩ := x
    obtain ⟨h1, h2, h3⟩ := h
    dsimp only at h1 h2 h3
    subst h1
    exact KT.merge (es := _) (xs := _) (kvs := putK kvs e.2.1 e.2.2) (ys := storedH ys e.2.1 b u) t (L2.KT.put r e.2.1 h2 h3)
def rDictT (X : Cx) : List V → Hp → VK → Prop := fun vs H Q => ∃ (a : Addr) (ps : List Addr) (es : List KE3), vs = [.ref a] ∧ SqL X.K H a (ps.map V.ref) ∧ Paired (fun p (e : KE3) => SqT X.K H p [.ref e.1, e.2.2] ∧ H e.1 = some (.tup (e.2.1.map kV))) ps es ∧
  ∀ p, H p = none → Q (.ref p) (upd H p (.dT (mergeT [] es)))
section
variable {X : Cx}
theorem entries_of {pins : List (Addr × Obj)} {σ : L2.St} {H : Hp} {s : Shared} (I : Inv X pins σ H s) : ∀ {ps : List Addr} {es : List KE3}, Paired (fun p (e : KE3) => SqT X.K H p [.ref e.1, e.2.2] ∧ H e.1 = some (.tup (e.2.1.map kV))) ps es →
    ∃ xs : List (List Key × Addr × Value), Paired (fun (e : KE3) (x : List Key × Addr × Value) => x.1 = e.2.1 ∧ H x.2.1 = some (.tup (e.2.1.map kV)) ∧ RelV e.2.2 x.2.2) es xs ∧ xs.length = ps.length ∧
      ∀ (j : Nat) (x : List Key × Addr × Value), xs[j]? = some x → ∃ p, ps[j]? = some p ∧ PairAt s.heap p (.ref x.2.1) x.2.2 ∧ H x.2.1 = some (.tup (x.1.map kV))
  | _, _, .nil => ⟨[], .nil, rfl, fun j x e => by simp at e⟩
  | _, _, .cons (a := p) (b := e) h t => by
    obtain ⟨xs, r, hl, hp⟩ := entries_of I t
    obtain ⟨its, rv, ht, _⟩ := I.tuple h.1
    obtain ⟨u, y, ei, ru, ry⟩ := vals2 rv
    subst ei
    obtain rfl : u = Value.ref e.1 := ru
    refine ⟨(e.2.1, e.1, y) :: xs, .cons ⟨rfl, h.2, ry⟩ r, by rw [List.length_cons, List.length_cons, hl], fun j x ex => ?_⟩
    cases j with
    | zero =>
      have ex : (e.2.1, e.1, y) = x := Option.some.inj ex
      subst ex
      exact ⟨p, rfl, .inl ht, h.2⟩
    | succ j =>
      obtain ⟨b, h1, h2⟩ := hp j x (by simpa using ex)
      exact ⟨b, by simpa using h1, h2⟩
theorem call_dictT (hc : X.calm = true) (hu : X.A.units + 2 < cLine) : CallR X (.type "dict") (rDictT X) := by
  intro pins s σ H xs us Q I r ⟨a, ps, es, ex, hq, hp, q⟩
  subst ex
  obtain ⟨u, eu, rx⟩ := vals1 r
  subst eu
  obtain rfl : u = Value.ref a := rx
  obtain ⟨its, rv, pl, hz⟩ := I.list hq
  have ei := refs_at rv
  subst ei
  rw [List.length_map] at hz
  obtain ⟨xs, rel, hl, hx⟩ := entries_of I hp
  have le : es.length = xs.length := Paired.length rel
  have gp : ∀ (j : Nat) (k v : Value), (xs.map fun x => (Value.ref x.2.1, x.2.2))[j]? = some (k, v) → ∃ x p, xs[j]? = some x ∧ ps[j]? = some p ∧ k = .ref x.2.1 ∧ v = x.2.2 ∧ PairAt s.heap p k v := fun j k v e => by
    rw [List.getElem?_map] at e
    obtain ⟨x, e1, e2⟩ := Option.map_eq_some_iff.mp e
    cases e2
    obtain ⟨p, e3, e4, _⟩ := hx j x e1
    exact ⟨x, p, e1, e3, rfl, rfl, e4⟩
  have P := PairArg.list (prog := X.prog) (w := X.w) a (ps.map Value.ref).toArray (fun j => ps.getD j 0) (xs.map fun x => (Value.ref x.2.1, x.2.2))
  have big : (s.heap.objs.size == sysModules) = false := beq_eq_false_iff_ne.mpr (Nat.ne_of_gt I.big)
  refine call_dict_pairsH (knd := tupleKind (mixKind X.prog X.w)) (ps := xs) P (I.ok.hd hc) hu ⟨pl, ?_, fun j k v e => ?_⟩ ⟨by rw [List.length_map], fun i k v e => ?_⟩ (fun h' hk x hxs => ?_) (by rw [List.length_map, hl]; exact hz) fun h' tk hd' hk => ?_
  · simp [hl]
  · obtain ⟨x, p, e1, e2, rfl, rfl, e3⟩ := gp j k v e
    have : ps.getD j 0 = p := by rw [List.getD_eq_getElem?_getD, e2]; rfl
    show _ = some (Value.ref (ps.getD j 0)) ∧ PairAt s.heap (ps.getD j 0) _ _
    rw [this]
    exact ⟨by simp [e2], e3⟩
  · obtain ⟨x, p, e1, e2, rfl, rfl, e3⟩ := gp i k v e
    exact ⟨x.1, x.2.1, e1, rfl⟩
  · obtain ⟨j, ej⟩ := List.getElem?_of_mem hxs
    obtain ⟨p, _, _, e⟩ := hx j x ej
    exact key_of (I.hok.kept fun b o e => hk b o (Nat.ne_of_lt (Heap.lt_size e)) (fun z => nomatch z) e) e
  · have kp : ∀ b o, s.heap.get? b = some o → h'.get? b = some o := fun b o e => hk b o (fun z => nomatch z) e
    obtain ⟨o, oes, ep, h1, h2, h3, h4, _, h5⟩ := hd'
    have hn : H s.heap.objs.size = none := I.hok.fresh (Nat.le_refl _)
    have len : (mergeT [] es).length ≤ sizeLine := by
      have := mergeT_len es []
      rw [List.length_nil] at this
      omega
    exact ⟨.ref s.heap.objs.size, upd H s.heap.objs.size (.dT (mergeT [] es)), I.laid (t' := tk) kp (Nat.le_refl _) (show ObjOk X.prog X.w _ _ _ (.dT (mergeT [] es)) from ⟨len, big, _, (KT.merge rel .nil).keeps fun b ys e => by rw [upd_ne (ne_of_none e hn)]; exact e, o, oes, ep, h1, h2, h3, h4, h5⟩), rfl, q _ hn⟩
end
/-! ### by data -/
def pairD : D → Option (D × D)
  | .tup [k, v] => some (k, v)
  | _ => none
def pairsD : List D → Option (List (D × D))
  | [] => some []
  | d :: ds => match pairD d, pairsD ds with
    | some p, some ps => some (p :: ps)
    | _, _ => none
def dictP : PN := fun ds st => match ds with
  | [d] => (lstS d st).bind fun xs => (pairsD xs).bind fun ps => if (ps.all fun p => (kD p.1).isSome) = true then some (.dic (ps.foldl (fun acc p => putKD acc p.1 p.2) [])) else if (ps.all fun p => isTK p.1) = true then some (.dit (ps.foldl (fun acc p => putTD acc p.1 p.2) [])) else none
  | _ => none
section
variable {X : Cx} {cl : Str → Option Addr}
theorem pairD_eq {d : D} {p : D × D} (h : pairD d = some p) : d = .tup [p.1, p.2] := by
  unfold pairD at h
  split at h
  · cases h; rfl
  · cases h
theorem pairs_k {K : PySem.W.Frag} {F H : Hp} {ι : List Addr} {st : Store} (S : Sim K cl F ι H st) : ∀ {vs : List V} {xs : List D} {qs : List (D × D)}, RVs K cl F ι vs xs → pairsD xs = some qs → (qs.all fun p => (kD p.1).isSome) = true →
    ∃ (ps : List Addr) (kvs : List (Key × V)), vs = ps.map V.ref ∧ Paired (fun p kv => SqT K H p [kV kv.1, kv.2]) ps kvs ∧ ∀ (acc : List (Key × V)) (accD : List (D × D)), RKs K cl F ι acc accD → RKs K cl F ι (mergeK acc kvs) (qs.foldl (fun acc p => putKD acc p.1 p.2) accD)
  | _, _, qs, .nil, h, _ => by
    simp only [pairsD, Option.some.injEq] at h
    subst h
    exact ⟨[], [], rfl, .nil, fun acc accD r => r⟩
  | _, _, qs, .cons (d := d) (ds := ds) r t, h, ha => by
    simp only [pairsD] at h
    cases e1 : pairD d with
    | none => rw [e1] at h; cases h
    | some p =>
      cases e2 : pairsD ds with
      | none => rw [e1, e2] at h; cases h
      | some ps' =>
        rw [e1, e2] at h
        cases h
        rw [List.all_cons, Bool.and_eq_true] at ha
        obtain ⟨qa, kvs, h1, h2, h3⟩ := pairs_k S t e2 ha.2
        have ed := pairD_eq e1
        subst ed
        obtain ⟨k, ek⟩ := Option.isSome_iff_exists.mp ha.1
        cases r with
        | tup s0 t0 =>
          cases t0 with
          | cons rk t1 =>
            cases t1 with
            | cons rv t2 =>
              cases t2
              have evk := kD_val rk ek
              subst evk
              subst h1
              exact ⟨_ :: qa, (k, _) :: kvs, rfl, .cons (SqT.of (S.sub _ _ s0)) h2, fun acc accD ra => h3 _ _ (RKs.put ek rv ra)⟩
theorem pairs_t {K : PySem.W.Frag} {F H : Hp} {ι : List Addr} {st : Store} (S : Sim K cl F ι H st) : ∀ {vs : List V} {xs : List D} {qs : List (D × D)}, RVs K cl F ι vs xs → pairsD xs = some qs → (qs.all fun p => isTK p.1) = true →
    ∃ (ps : List Addr) (es : List KE3), vs = ps.map V.ref ∧ Paired (fun p (e : KE3) => SqT K H p [.ref e.1, e.2.2] ∧ H e.1 = some (.tup (e.2.1.map kV))) ps es ∧ ∀ (acc : List (List Key × V)) (accD : List (D × D)), RTs K cl F ι acc accD → RTs K cl F ι (mergeT acc es) (qs.foldl (fun acc p => putTD acc p.1 p.2) accD)
  | _, _, qs, .nil, h, _ => by
    simp only [pairsD, Option.some.injEq] at h
    subst h
    exact ⟨[], [], rfl, .nil, fun acc accD r => r⟩
  | _, _, qs, .cons (d := d) (ds := ds) r t, h, ha => by
    simp only [pairsD] at h
    cases e1 : pairD d with
    | none => rw [e1] at h; cases h
    | some p =>
      cases e2 : pairsD ds with
      | none => rw [e1, e2] at h; cases h
      | some ps' =>
        rw [e1, e2] at h
        cases h
        rw [List.all_cons, Bool.and_eq_true] at ha
        obtain ⟨qa, es, h1, h2, h3⟩ := pairs_t S t e2 ha.2
        have ed := pairD_eq e1
        subst ed
        obtain ⟨q, eq⟩ := Option.isSome_iff_exists.mp (show (tkD p.1).isSome = true from ha.1)
        obtain ⟨k, v⟩ := p
        obtain ⟨ks, ek0, eks⟩ := tk_tup eq
        dsimp only at ek0
        subst ek0
        cases r with
        | tup s0 t0 =>
          cases t0 with
          | cons rk t1 =>
            cases t1 with
            | cons rv t2 =>
              cases t2
              cases rk with
              | tup s1 t3 =>
                have ev := ksD_vals t3 eks
                subst ev
                subst h1
                exact ⟨_ :: qa, (_, q, _) :: es, rfl, .cons ⟨SqT.of (S.sub _ _ s0), S.sub _ _ s1⟩ h2, fun acc accD ra => h3 _ _ (RTs.put eq rv ra)⟩
theorem c_dict (hc : X.calm = true) (hu : X.A.units + 64 < cLine) : CallR X (.type "dict") (rN X.K cl dictP) := weakC (CallR.or (call_dictP hc) (call_dictT hc (by omega))) fun vs H Q ⟨F, ι, st, ds, z, S, r, e, k⟩ => by
  unfold dictP at e
  split at e
  · obtain ⟨v, rfl, rv⟩ := rbs1 r
    obtain ⟨xs, h1, e⟩ := Option.bind_eq_some_iff.mp e
    obtain ⟨qs, h2, e⟩ := Option.bind_eq_some_iff.mp e
    obtain ⟨a, us, rfl, sq, ru⟩ := rv.lstS S h1
    split at e
    · rename_i hk
      cases e
      obtain ⟨ps, kvs, rfl, hp, hm⟩ := pairs_k S ru h2 hk
      refine .inl ⟨a, ps, kvs, rfl, sq, hp, fun p hpn => ?_⟩
      obtain ⟨y, T⟩ := newF (o := .dK (mergeK [] kvs)) S hpn
      exact k _ _ _ y T (.dicK upd_same ((hm [] [] .nil).ext y))
    · split at e
      · rename_i hk
        cases e
        obtain ⟨ps, es, rfl, hp, hm⟩ := pairs_t S ru h2 hk
        refine .inr ⟨a, ps, es, rfl, sq, hp, fun p hpn => ?_⟩
        obtain ⟨y, T⟩ := newF (o := .dT (mergeT [] es)) S hpn
        exact k _ _ _ y T (.dicT upd_same ((hm [] [] .nil).ext y))
      · cases e
  · cases e
end
end DL
end
section
/-! DV11: C(..) by a promise of positional values. -/
namespace DL
open PySem PySem.Spec PyProof.Rows L2
section
variable {X : Cx} {cl : Str → Option Addr} {B : Base} {W : WX} {pos : Pos}
def tMakeRS (C : Addr) (sp : Sp) (E : L2.St → XK) (t : TA) : TE := fun σ H Q => t σ H fun vs H1 => ∀ x dx, H1 x = none → H1 dx = none → dx ≠ x → sp (.ref x :: vs) (upd (upd H1 dx (.own x)) x (.ins C dx [])) (fun v H2 => v = .non ∧ Q (.ref x) H2) (E σ)
theorem run_makeRS {CX : CXT} {k : Nat} {f C : Addr} {sp : Sp} {E : L2.St → XK} {pins : List (Addr × Obj)} {σ : L2.St} {H : Hp} {s : Shared} {Q : VK} {us : List Value} {vs : List V} (M : Mk X.K C f) (F : FnR X.prog X.w X.K X.mg X.base CX k f sp) (hr : Room (k + 1) X.A)
    (hx : PassesAt CX X σ (E σ)) (I : Inv X pins σ H s) (r : Vals vs us)
    (h : ∀ x dx, H x = none → H dx = none → dx ≠ x → sp (.ref x :: vs) (upd (upd H dx (.own x)) x (.ins C dx [])) (fun v H2 => v = .non ∧ Q (.ref x) H2) (E σ)) :
    wpAny (model X.prog X.w) X.A (call (.ref C) us) (EP X pins σ Q) X.xe s := by
  have hq := h (s.heap.objs.size + 1) s.heap.objs.size (I.hok.fresh (Nat.le_succ _)) (I.hok.fresh (Nat.le_refl _)) (Nat.ne_of_lt (Nat.lt_succ_self _))
  have I2 := Inv.made (C := C) I
  refine wpAny_call (make_map (f := f) I.kIn M.makes M.init (beq_iff_eq.mp M.fn) (codeAny_mono (F _ X.stack _ _ (Value.ref (s.heap.objs.size + 1) :: us) (V.ref (s.heap.objs.size + 1) :: vs) _ (E σ) (hr.make C us []) (I2.env0.make C us []) (.cons rfl r) hq) fun r s' hq' => ?_))
  cases r with
  | error e => exact hx pins _ _ e s' I2 hq'
  | ok fl =>
    cases fl with
    | ret u =>
      obtain ⟨v, H', I3, rv, ev, q3⟩ := I2.after hq'
      subst ev
      exact ⟨rv, ⟨V.ref (s.heap.objs.size + 1), H', I3, rfl, q3⟩⟩
    | next => exact False.elim hq'
    | brk => exact False.elim hq'
    | cont => exact False.elim hq'
theorem pe_makeRS {CX : CXT} {k : Nat} {f C : Addr} {sp : Sp} {E : L2.St → XK} {x : Str} {p : Pos} {e : Expr} {es : List Expr} {t : TA} (M : Mk X.K C f) (F : FnR X.prog X.w X.K X.mg X.base CX k f sp) (hr : Room (k + 1) X.A) (hg : Gl X x) (hm : X.mg x = some (.ref C)) (hx : ∀ σ, PassesAt CX X σ (E σ)) (ha : PA X (e :: es) t)
    (hdb : (x == ("__debug__" : Str)) = false := by decide) (he : starEach (e :: es) X.env = (false, eval e X.env) :: starEach es X.env := by rfl) (hpl : (backTo pos (starEach es X.env)).any (·.1) = false := by rfl) : PE X (.Call (.Name x p) (e :: es) [] pos) (tMakeRS C sp E t) := by
  refine ⟨fun pins s σ H Q I h => ?_⟩
  refine wpAny_Call_Name_kw (ld_glob I hg hm ?_ hdb)
  exact PySem.W.callWith_K (h₀ := X.base) I.ok.mod.kin M.kp (thn (ha.run pos pins s σ H _ I h) fun us s1 ⟨vs, H1, I1, r, q⟩ => ⟨I1.kIn, run_makeRS M F hr (hx σ) I1 r q⟩) he hpl
def eMakeR (c : Str) (b : BM) (f : Env → M (List D)) : Env → M D := fun ρ => (f ρ).bind fun ds st => match b (.loc st.length :: ds) (st ++ [.ins c []]) with
  | .ok .non st' => .ok (.loc st.length) st'
  | .exc e st' => .exc e st'
  | _ => .stuck
theorem de_makeR {k : Nat} {f C : Addr} {b : BM} {c x : Str} {p : Pos} {e : Expr} {es : List Expr} {g : Env → M (List D)} (hC : cl c = some C) (Mk' : Mk X.K C f) (Fo : FnR X.prog X.w X.K X.mg X.base (L2.CX X.prog X.w) k f (spR X.K cl b))
    (hr : Room (k + 1) X.A) (hg : Gl X x) (hm : X.mg x = some (.ref C)) (tk : Takes X W) (ha : DA X cl B W (e :: es) g)
    (hdb : (x == ("__debug__" : Str)) = false := by decide) (he : starEach (e :: es) X.env = (false, eval e X.env) :: starEach es X.env := by rfl) (hpl : (backTo pos (starEach es X.env)).any (·.1) = false := by rfl) :
    DE X cl B W (.Call (.Name x p) (e :: es) [] pos) (eMakeR c b g) :=
  weakE (pe_makeRS (E := WE W) Mk' Fo hr hg hm (passAt tk) ha hdb he hpl) fun σ H Q ⟨F, ι, st, ρ, A, q⟩ => ⟨F, ι, st, ρ, A, Post.bind back_V q fun ds st2 F2 ι2 H2 vs x2 S2 r2 q2 x dx hx hdx ne => by
    have r2 : RVs X.K cl F2 ι2 vs ds := r2
    obtain ⟨y1, T1⟩ := newH (o := .own x) S2 hdx
    have hx1 : upd H2 dx (.own x) x = none := by rw [upd_ne (Ne.symm ne)]; exact hx
    obtain ⟨y2, T2⟩ := newH (o := .ins C dx []) T1 hx1
    obtain ⟨n1, n2⟩ := T1.none_of hx1
    have T3 := T2.newLoc (o := .ins c []) upd_same n1 n2 (.ins hC upd_same .nil)
    have y3 : Ext F2 F2 ι2 (ι2 ++ [x]) H2 (upd (upd H2 dx (.own x)) x (.ins C dx [])) := ⟨fun _ _ e => e, List.prefix_append _ _, (y1.trans y2).h, (y1.trans y2).t, fun _ _ e => .inl e, fun a ha => by
      rcases List.mem_append.mp ha with h | h
      · exact .inl h
      · rw [List.mem_singleton.mp h]; exact .inr hx⟩
    have rx : RV X.K cl F2 (ι2 ++ [x]) (.ref x) (.loc st2.length) := .loc (by rw [← S2.len]; simp)
    refine ⟨F2, ι2 ++ [x], _, .loc st2.length :: ds, T3, .cons rx (r2.up (fun _ _ e => e) (List.prefix_append _ _)), ?_⟩
    cases eb : b (.loc st2.length :: ds) (st2 ++ [.ins c []]) with
    | stuck => rw [eb] at q2; exact q2.elim
    | exc e st' => rw [eb] at q2; exact fun F' ι' H' cv dd y => q2 F' ι' H' cv dd (y3.trans y)
    | ok d st' =>
      rw [eb] at q2
      intro F' ι' H' v y S r
      cases d with
      | non =>
        have r : RV X.K cl F' ι' v .non := r
        cases r
        exact ⟨rfl, q2 F' ι' H' _ (y3.trans y) S (.loc (prefix_get y.i (by rw [← S2.len]; simp)))⟩
      | _ => exact q2.elim⟩
end
end DL
end
section
/-! DV12: small things that the generator's terms lean on. -/
namespace DL
open PySem PySem.Spec PyProof.Rows L2
theorem lenS {g : Env → M (List D)} {n : Nat} (h : ∀ ρ st ds st', g ρ st = .ok ds st' → ds.length = n) : ∀ ρ st ds st', g ρ st = .ok ds st' → ds.length + 1 = n + 1 := fun ρ st ds st' e => congrArg (· + 1) (h ρ st ds st' e)
theorem lt64 {n : Nat} (h : n + 64 < cLine) : n < cLine := by omega
end DL
end
section
/-! DV13: what the end leans on: the classes' table, the law's promise. -/
namespace DL
open PySem PySem.Spec PyProof.Rows L2
/-- the own classes, by a table -/
def tabC (t : List (Str × Addr)) : Str → Option Addr := fun c => t.lookup c
theorem tabC_mem {t : List (Str × Addr)} {c : Str} {C : Addr} (h : tabC t c = some C) : (c, C) ∈ t := PySem.mem_of_lookup h
/-- a class's own facts -/
structure OneC (K : PySem.W.Frag) (C : Addr) : Prop where
  ci : ClsI K C
  bt : ∀ n ∈ tyNames, PySem.W.kitOne K (.ref C) (.type n) = some false
  tb : ∀ n ∈ tyNames, PySem.W.kitOne K (.type n) (.ref C) = some false
theorem oneC {K : PySem.W.Frag} {C : Addr} (pg : PySem.W.plainGet K C Str.empty = true) (hd : PySem.W.hasDictIn K C = true) (po : PySem.W.plainOver K C = true) (sa : PySem.W.findIn K (.ref C) "__setattr__" = some (some (.builtin "object.__setattr__")))
    (ha : PySem.W.findIn K (.ref C) "__class__" = some (some (.builtin "object.__class__"))) (hn : PySem.W.specialIn K (.builtin "object.__class__") "__get__" = some (some (.builtin "getset_descriptor.__get__"))) (htk : PySem.W.takesIn K (.builtin "object.__class__") = some true)
    (hm : PySem.W.mroIn K C (.type "object") = some true)
    (b1 : PySem.W.kitOne K (.ref C) (.type "NoneType") = some false) (b2 : PySem.W.kitOne K (.ref C) (.type "bool") = some false) (b3 : PySem.W.kitOne K (.ref C) (.type "int") = some false) (b4 : PySem.W.kitOne K (.ref C) (.type "str") = some false)
    (b5 : PySem.W.kitOne K (.ref C) (.type "list") = some false) (b6 : PySem.W.kitOne K (.ref C) (.type "tuple") = some false) (b7 : PySem.W.kitOne K (.ref C) (.type "dict") = some false)
    (e1 : PySem.W.kitOne K (.type "NoneType") (.ref C) = some false) (e2 : PySem.W.kitOne K (.type "bool") (.ref C) = some false) (e3 : PySem.W.kitOne K (.type "int") (.ref C) = some false) (e4 : PySem.W.kitOne K (.type "str") (.ref C) = some false)
    (e5 : PySem.W.kitOne K (.type "list") (.ref C) = some false) (e6 : PySem.W.kitOne K (.type "tuple") (.ref C) = some false) (e7 : PySem.W.kitOne K (.type "dict") (.ref C) = some false) : OneC K C := by
  refine ⟨⟨⟨pg, hd, po, sa⟩, ha, hn, htk, hm⟩, fun n h => ?_, fun n h => ?_⟩
  · simp only [tyNames, List.mem_cons, List.not_mem_nil, or_false] at h
    rcases h with rfl | rfl | rfl | rfl | rfl | rfl | rfl <;> assumption
  · simp only [tyNames, List.mem_cons, List.not_mem_nil, or_false] at h
    rcases h with rfl | rfl | rfl | rfl | rfl | rfl | rfl <;> assumption
theorem cf_of {K : PySem.W.Frag} {t : List (Str × Addr)} {sub : Str → Str → Bool} (h1 : ∀ p ∈ t, OneC K p.2) (h2 : ∀ p ∈ t, ∀ q ∈ t, PySem.W.kitOne K (.ref p.2) (.ref q.2) = some (sub p.1 q.1)) : CF K (tabC t) sub :=
  ⟨fun c C h => (h1 _ (tabC_mem h)).ci, fun c C n h hn => (h1 _ (tabC_mem h)).bt n hn, fun c C n h hn => (h1 _ (tabC_mem h)).tb n hn, fun c C c' C' h h' => h2 _ (tabC_mem h) _ (tabC_mem h')⟩
/-- the law's promise: True, at every list of at most n ints -/
def spTrue (K : PySem.W.Frag) (n : Nat) : Sp := fun vs H Q E => ∃ a ns, vs = [.ref a] ∧ SqL K H a ((ns : List Int).map V.int) ∧ ns.length ≤ n ∧ ∀ H', Q (.bl true) H'
theorem ints_rel {K : PySem.W.Frag} {cl : Str → Option Addr} {F : Hp} {ι : List Addr} : ∀ ns : List Int, RVs K cl F ι (ns.map V.int) (ns.map D.int)
  | [] => .nil
  | i :: ns => .cons (.int i) (ints_rel ns)
theorem law_of {P : Program} {w : World} {K : PySem.W.Frag} {mg : Str → Option Value} {base : Heap} {cl : Str → Option Addr} {k n : Nat} {f : Addr} {fd : FuncData} {ps : List Str} {b : BM} (F : FnOk P w K mg base (L2.CX P w) k f fd ps (spD K cl 1 b))
    (plain : ∀ ns : List Int, ns.length ≤ n → ∃ st, b [.lst (ns.map .int)] [] = .ok (.bool true) st) : FnOk P w K mg base (L2.CX P w) k f fd ps (spTrue K n) :=
  F.imp fun vs H Q E ⟨a, ns, ev, hs, hl, q⟩ => by
    subst ev
    obtain ⟨st, e⟩ := plain ns hl
    refine ⟨rfl, H, [], [], [.lst (ns.map .int)], ⟨fun _ _ h => h, rfl, List.nodup_nil, fun _ h => (nomatch h), fun _ _ h => (nomatch h)⟩, .cons (.lst hs (ints_rel ns)) .nil, ?_⟩
    rw [e]
    intro F' ι' H' v x S r
    have r : RV K cl F' ι' v (.bool true) := r
    cases r
    exact q H'
end DL
end
section
/-! PL1: the mirrors, step by step. -/
namespace DL
open PySem PySem.Spec PyProof.Rows L2

def lookR {α : Type} (o : Option α) (st : Store) : R α := match o with
  | some a => .ok a st
  | none => .stuck
section
variable {α β : Type} {ρ : Env} {st : Store}
theorem mbind_eq (m : M α) (f : α → M β) : M.bind m f st = (m st).bind f := rfl
theorem mret_eq (a : α) : M.ret a st = .ok a st := rfl
theorem mstuck_eq : (M.stuck : M α) st = .stuck := rfl
theorem mlook_eq (o : Store → Option α) : M.look o st = lookR (o st) st := rfl
theorem lookR_some (a : α) : lookR (some a) st = .ok a st := rfl
theorem lookR_none : lookR (none : Option α) st = .stuck := rfl
theorem noX_ok (a : α) : (R.ok a st).noX = .ok a st := rfl
theorem noX_stuck : (R.stuck : R α).noX = .stuck := rfl
/-! ### slots -/
def slotV (o : Option Slot) (st : Store) : R D := match o with
  | some (.val d) => .ok d st
  | _ => .stuck
def slotO (o : Option Slot) (st : Store) : R D := match o with
  | some (.own d) => .ok (.lst d) st
  | _ => .stuck
def slotB (o : Option Slot) (st : Store) : R D := match o with
  | some (.bor d) => .ok (.lst d) st
  | _ => .stuck
theorem slotV_val (d : D) : slotV (some (.val d)) st = .ok d st := rfl
theorem slotO_own (d : List D) : slotO (some (.own d)) st = .ok (.lst d) st := rfl
theorem slotB_bor (d : List D) : slotB (some (.bor d)) st = .ok (.lst d) st := rfl
theorem eVar_eq (i : Nat) : eVar i ρ st = slotV ρ[i]? st := by
  unfold eVar slotV
  cases ρ[i]? with
  | none => rfl
  | some s => cases s <;> rfl
theorem eOwn_eq (i : Nat) : eOwn i ρ st = slotO ρ[i]? st := by
  unfold eOwn slotO
  cases ρ[i]? with
  | none => rfl
  | some s => cases s <;> rfl
theorem eBor_eq (i : Nat) : eBor i ρ st = slotB ρ[i]? st := by
  unfold eBor slotB
  cases ρ[i]? with
  | none => rfl
  | some s => cases s <;> rfl
/-! ### expressions -/
theorem eConst_eq (d : D) : eConst d ρ st = .ok d st := rfl
theorem e1_eq (p : P1) (f : Env → M D) : e1 p f ρ st = (f ρ st).bind fun x => M.look (p x) := rfl
theorem e2_eq (p : P2) (f g : Env → M D) : e2 p f g ρ st = (f ρ st).bind fun x => M.bind (g ρ) fun y => M.look (p x y) := rfl
theorem eNilA_eq : eNilA ρ st = .ok [] st := rfl
theorem eConsA_eq (f : Env → M D) (g : Env → M (List D)) : eConsA f g ρ st = (f ρ st).bind fun x => M.bind (g ρ) fun xs => M.ret (x :: xs) := rfl
def tupR (xs : List D) : M D := M.look fun _ => if xs.length ≤ sizeLine then some (.tup xs) else none
def lstR (xs : List D) : M (List D) := M.look fun _ => if xs.length ≤ sizeLine then some xs else none
theorem eTup_eq (f : Env → M (List D)) : eTup f ρ st = (f ρ st).bind tupR := rfl
theorem fLst_eq (f : Env → M (List D)) : fLst f ρ st = (f ρ st).bind lstR := rfl
theorem tupR_eq {xs : List D} (h : xs.length ≤ 16777216) : tupR xs st = .ok (.tup xs) st := by
  unfold tupR
  rw [mlook_eq, if_pos (show xs.length ≤ sizeLine from h)]
  rfl
theorem lstR_eq {xs : List D} (h : xs.length ≤ 16777216) : lstR xs st = .ok xs st := by
  unfold lstR
  rw [mlook_eq, if_pos (show xs.length ≤ sizeLine from h)]
  rfl
theorem eFrz_eq (f : Env → M (List D)) : eFrz f ρ st = (f ρ st).bind fun xs => M.ret (.lst xs) := rfl
theorem tTru_eq (f : Env → M D) : tTru f ρ st = (f ρ st).bind fun x => M.look (tru x) := rfl
def toB (d : D) : M Bool := M.look fun _ => match d with
  | .bool b => some b
  | _ => none
theorem toB_bool (b : Bool) : toB (.bool b) st = .ok b st := rfl
theorem tOfB_eq (f : Env → M D) : tOfB f ρ st = (f ρ st).bind toB := rfl
def mAndK (g : Env → M Bool) (ρ : Env) (c : Bool) : M Bool := if c = true then g ρ else M.ret false
def mOrK (g : Env → M Bool) (ρ : Env) (c : Bool) : M Bool := if c = true then M.ret true else g ρ
theorem mAnd_eq (f g : Env → M Bool) : mAnd f g ρ st = (f ρ st).bind (mAndK g ρ) := rfl
theorem mOr_eq (f g : Env → M Bool) : mOr f g ρ st = (f ρ st).bind (mOrK g ρ) := rfl
theorem mAndK_t (g : Env → M Bool) : mAndK g ρ true st = g ρ st := rfl
theorem mAndK_f (g : Env → M Bool) : mAndK g ρ false st = .ok false st := rfl
theorem mOrK_f (g : Env → M Bool) : mOrK g ρ false st = g ρ st := rfl
theorem mOrK_t (g : Env → M Bool) : mOrK g ρ true st = .ok true st := rfl
theorem mNot_eq (f : Env → M Bool) : mNot f ρ st = (f ρ st).bind fun c => M.ret (!c) := rfl
def eAndK (g : Env → M D) (ρ : Env) (c : D) : M D := match c with
  | .bool true => g ρ
  | .bool false => M.ret (.bool false)
  | _ => M.stuck
def eOrK (g : Env → M D) (ρ : Env) (c : D) : M D := match c with
  | .bool true => M.ret (.bool true)
  | .bool false => g ρ
  | _ => M.stuck
def eNotK (c : D) : M D := match c with
  | .bool b => M.ret (.bool (!b))
  | _ => M.stuck
def eIfK (f g : Env → M D) (ρ : Env) (b : Bool) : M D := if b = true then f ρ else g ρ
theorem eAnd_eq (f g : Env → M D) : eAnd f g ρ st = (f ρ st).bind (eAndK g ρ) := rfl
theorem eOr_eq (f g : Env → M D) : eOr f g ρ st = (f ρ st).bind (eOrK g ρ) := rfl
theorem eNot_eq (f : Env → M D) : eNot f ρ st = (f ρ st).bind eNotK := rfl
theorem eIf_eq (c : Env → M Bool) (f g : Env → M D) : eIf c f g ρ st = (c ρ st).bind (eIfK f g ρ) := rfl
theorem eAndK_t (g : Env → M D) : eAndK g ρ (.bool true) st = g ρ st := rfl
theorem eAndK_f (g : Env → M D) : eAndK g ρ (.bool false) st = .ok (.bool false) st := rfl
theorem eOrK_f (g : Env → M D) : eOrK g ρ (.bool false) st = g ρ st := rfl
theorem eOrK_t (g : Env → M D) : eOrK g ρ (.bool true) st = .ok (.bool true) st := rfl
theorem eNotK_eq (b : Bool) : eNotK (.bool b) st = .ok (.bool (!b)) st := rfl
theorem eIfK_t (f g : Env → M D) : eIfK f g ρ true st = f ρ st := rfl
theorem eIfK_f (f g : Env → M D) : eIfK f g ρ false st = g ρ st := rfl
theorem eC1_eq (c : C1) (f : Env → M D) : eC1 c f ρ st = (f ρ st).bind fun x => M.look fun st => (c x st).map .bool := rfl
theorem eC2_eq (c : C2) (f g : Env → M D) : eC2 c f g ρ st = (f ρ st).bind fun x => M.bind (g ρ) fun y => M.look fun st => (c x y st).map .bool := rfl
theorem eN_eq (p : PN) (f : Env → M (List D)) : eN p f ρ st = (f ρ st).bind fun xs => M.look (p xs) := rfl
theorem fN_eq (p : PL) (f : Env → M (List D)) : fN p f ρ st = (f ρ st).bind fun xs => M.look (p xs) := rfl
def chainK (p' : C2) (h : Env → M D) (ρ : Env) (y : D) (b : Bool) : M D := if b = true then M.bind (h ρ) fun z => M.look fun st => (p' y z st).map .bool else M.ret (.bool false)
theorem eChain_eq (p p' : C2) (f g h : Env → M D) : eChain p p' f g h ρ st = (f ρ st).bind fun x => M.bind (g ρ) fun y => M.bind (M.look (p x y)) (chainK p' h ρ y) := rfl
theorem chainK_t (p' : C2) (h : Env → M D) (y : D) : chainK p' h ρ y true st = (h ρ st).bind fun z => M.look fun st => (p' y z st).map .bool := rfl
theorem chainK_f (p' : C2) (h : Env → M D) (y : D) : chainK p' h ρ y false st = .ok (.bool false) st := rfl
theorem eCall_eq (b : BM) (f : Env → M (List D)) : eCall b f ρ st = (f ρ st).bind b := rfl
theorem tYesM_eq : tYesM ρ st = .ok true st := rfl
theorem oNone_eq : oNone ρ st = .ok none st := rfl
def oK (d : D) : M (Option Int) := M.look fun _ => match d with
  | .int i => some (some i)
  | _ => none
theorem oK_eq (i : Int) : oK (.int i) st = .ok (some i) st := rfl
theorem oSome_eq (f : Env → M D) : oSome f ρ st = (f ρ st).bind oK := rfl
theorem fSlL_eq (f : Env → M D) (l h : Env → M (Option Int)) : fSlL f l h ρ st = (f ρ st).bind fun x => M.bind (l ρ) fun i => M.bind (h ρ) fun j => M.look fun st => (lstS x st).map fun xs => cutD xs i j := rfl
def slTK (x : D) (i j : Option Int) : M D := M.look fun _ => match x with
  | .tup xs => some (.tup (cutD xs i j))
  | _ => none
theorem eSlT_eq (f : Env → M D) (l h : Env → M (Option Int)) : eSlT f l h ρ st = (f ρ st).bind fun x => M.bind (l ρ) fun i => M.bind (h ρ) fun j => slTK x i j := rfl
theorem slTK_eq (xs : List D) (i j : Option Int) : slTK (.tup xs) i j st = .ok (.tup (cutD xs i j)) st := rfl
theorem fCat_eq (f g : Env → M D) : fCat f g ρ st = (f ρ st).bind fun x => M.bind (g ρ) fun y => M.look (catS x y) := rfl
theorem eLoc_eq (f : Env → M (List D)) : eLoc f ρ st = (f ρ st).bind fun xs st => .ok (.loc st.length) (st ++ [.lst xs]) := rfl
theorem eGet1_eq (f g : Env → M D) : eGet1 f g ρ st = (f ρ st).bind fun x => M.bind (M.look fun st => (dicS x st).map fun _ => ()) fun _ => M.bind (g ρ) fun y => M.look (getP x y .non) := rfl
theorem eMeth_eq (c m : Str) (b : BM) (fo : Env → M D) (g : Env → M (List D)) : eMeth c m b fo g ρ st = (fo ρ st).bind fun o => M.bind (M.look fun st => (insS o st).bind fun p => if p.1 = c ∧ p.2.lookup m = none then some () else none) fun _ => M.bind (g ρ) fun ds => b (o :: ds) := rfl
def makeK (c : Str) (b : BM) (ds : List D) : M D := fun st => match b (.loc st.length :: ds) (st ++ [.ins c []]) with
  | .ok .non st' => .ok (.loc st.length) st'
  | .exc e st' => .exc e st'
  | _ => .stuck
theorem eMakeR_eq (c : Str) (b : BM) (f : Env → M (List D)) : eMakeR c b f ρ st = (f ρ st).bind (makeK c b) := rfl
theorem makeK_ok {c : Str} {b : BM} {ds : List D} {st st' : Store} (h : b (.loc st.length :: ds) (st ++ [.ins c []]) = .ok .non st') : makeK c b ds st = .ok (.loc st.length) st' := by
  unfold makeK
  rw [h]
theorem makeK_exc {c : Str} {b : BM} {ds : List D} {st st' : Store} {e : XD} (h : b (.loc st.length :: ds) (st ++ [.ins c []]) = .exc e st') : makeK c b ds st = .exc e st' := by
  unfold makeK
  rw [h]
/-! ### what is walked -/
theorem fSeq_eq (f : Env → M D) : fSeq f ρ st = (f ρ st).bind fun d => M.look fun _ => seqOf d := rfl
theorem fRng1_eq (f : Env → M D) : fRng1 f ρ st = (f ρ st).bind fun d => M.look fun _ => rng1 d := rfl
theorem fRng2_eq (f g : Env → M D) : fRng2 f g ρ st = (f ρ st).bind fun d => M.bind (g ρ) fun e => M.look fun _ => rng2 d e := rfl
theorem fZip_eq (f g : Env → M D) : fZip f g ρ st = (f ρ st).bind fun x => M.bind (g ρ) fun y => M.look fun _ => zipD x y := rfl
theorem seqOf_lst (xs : List D) : seqOf (.lst xs) = some xs := rfl
theorem seqOf_tup (xs : List D) : seqOf (.tup xs) = some xs := rfl
theorem zipD_tup (xs ys : List D) : zipD (.tup xs) (.tup ys) = some (zipL xs ys) := rfl
theorem zipD_lst (xs ys : List D) : zipD (.lst xs) (.lst ys) = some (zipL xs ys) := rfl
theorem rng1_eq {j : Int} (h : -4611686018427387904 ≤ j) (h2 : j < 4611686018427387904) : rng1 (.int j) = some (intsD 0 j.toNat) := by
  show (if _ then _ else _) = _
  rw [if_pos ⟨h, h2⟩]
theorem rng2_eq {i j : Int} (h : -4611686018427387904 ≤ i) (h2 : i < 4611686018427387904) (h3 : -4611686018427387904 ≤ j) (h4 : j < 4611686018427387904) : rng2 (.int i) (.int j) = some (intsD i (j - i).toNat) := by
  show (if _ then _ else _) = _
  rw [if_pos ⟨h, h2, h3, h4⟩]
/-! ### comprehensions -/
def compK (vs : List Nat) (g : GM) (t : Env → M Bool) (e : Env → M D) (ρ : Env) (xs : List D) : M (List D) := fun st => (compL g t e xs [] (wipeE ρ vs) st).noX
theorem fComp_eq (vs : List Nat) (src : Env → M (List D)) (g : GM) (t : Env → M Bool) (e : Env → M D) : fComp vs src g t e ρ st = (src ρ st).bind (compK vs g t e ρ) := rfl
/-- a comprehension whose parts change nothing -/
theorem compL_pure {g : GM} {t : Env → M Bool} {el : Env → M D} (tt : D → Bool) (ff : D → D) : ∀ (xs acc : List D) (ρ : Env), (∀ x ∈ xs, ∃ ρ1, g x ρ = some ρ1 ∧ t ρ1 st = .ok (tt x) st ∧ (tt x = true → el ρ1 st = .ok (ff x) st)) → acc.length + xs.length ≤ 16777216 →
    compL g t el xs acc ρ st = .ok (acc ++ (xs.filter tt).map ff) st
  | [], acc, ρ, _, _ => by
    unfold compL
    rw [List.filter_nil, List.map_nil, List.append_nil]
  | x :: xs, acc, ρ, h, hl => by
    obtain ⟨ρ1, h1, h2, h3⟩ := h x List.mem_cons_self
    rw [List.length_cons] at hl
    unfold compL
    simp only [h1, h2, R.bind_ok]
    by_cases c : tt x = true
    · have : acc.length < sizeLine := by show acc.length < 16777216; omega
      simp only [c, if_true, mbind_eq, h3 c, R.bind_ok, if_pos this]
      rw [compL_pure tt ff xs _ ρ (fun y hy => h y (List.mem_cons_of_mem _ hy)) (by rw [List.length_append]; simp only [List.length_cons, List.length_nil]; omega)]
      rw [List.filter_cons_of_pos c, List.map_cons, List.append_assoc]
      rfl
    · rw [if_neg c, List.filter_cons_of_neg c]
      exact compL_pure tt ff xs _ ρ (fun y hy => h y (List.mem_cons_of_mem _ hy)) (by omega)
theorem compK_pure {vs : List Nat} {g : GM} {t : Env → M Bool} {el : Env → M D} (tt : D → Bool) (ff : D → D) {xs : List D} (h : ∀ x ∈ xs, ∃ ρ1, g x (wipeE ρ vs) = some ρ1 ∧ t ρ1 st = .ok (tt x) st ∧ (tt x = true → el ρ1 st = .ok (ff x) st)) (hl : xs.length ≤ 16777216) :
    compK vs g t el ρ xs st = .ok ((xs.filter tt).map ff) st := by
  unfold compK
  rw [compL_pure tt ff xs [] _ h (by simpa using hl)]
  rfl
/-- .. all of it -/
theorem compK_all {vs : List Nat} {g : GM} {el : Env → M D} (ff : D → D) {xs : List D} (h : ∀ x ∈ xs, ∃ ρ1, g x (wipeE ρ vs) = some ρ1 ∧ el ρ1 st = .ok (ff x) st) (hl : xs.length ≤ 16777216) :
    compK vs g tYesM el ρ xs st = .ok (xs.map ff) st := by
  rw [compK_pure (fun _ => true) ff (fun x hx => by obtain ⟨ρ1, h1, h2⟩ := h x hx; exact ⟨ρ1, h1, rfl, fun _ => h2⟩) hl, List.filter_eq_self.mpr fun _ _ => rfl]
/-! ### statements -/
theorem sNext_eq : sNext ρ st = .next ρ st := rfl
theorem sSeq_eq (f g : SM) : sSeq f g ρ st = (f ρ st).then g := rfl
theorem sBrk_eq : sBrk ρ st = .brk ρ st := rfl
theorem sCont_eq : sCont ρ st = .cont ρ st := rfl
theorem sRet_eq (f : Env → M D) : sRet f ρ st = (f ρ st).then ρ SR.ret := rfl
theorem sRetN_eq : sRetN ρ st = .ret .non st := rfl
theorem sStuck_eq : sStuck ρ st = .stuck := rfl
theorem sExpr_eq (f : Env → M D) : sExpr f ρ st = (f ρ st).then ρ fun _ st => .next ρ st := rfl
def sIfK (f g : SM) (ρ : Env) (b : Bool) (st : Store) : SR := if b = true then f ρ st else g ρ st
theorem sIf_eq (c : Env → M Bool) (f g : SM) : sIf c f g ρ st = (c ρ st).then ρ (sIfK f g ρ) := rfl
theorem sIfK_t (f g : SM) : sIfK f g ρ true st = f ρ st := rfl
theorem sIfK_f (f g : SM) : sIfK f g ρ false st = g ρ st := rfl
def asgR (o : Option Env) (st : Store) : SR := match o with
  | some ρ' => .next ρ' st
  | none => .stuck
theorem asgR_some : asgR (some ρ) st = .next ρ st := rfl
def asgK (g : GM) (ρ : Env) (d : D) (st : Store) : SR := asgR (g d ρ) st
theorem asgK_eq (g : GM) (d : D) : asgK g ρ d st = asgR (g d ρ) st := rfl
theorem sAsg_eq (f : Env → M D) (g : GM) : sAsg f g ρ st = (f ρ st).then ρ (asgK g ρ) := by
  rfl
theorem gVar_eq (i : Nat) (d : D) : gVar i d ρ = some (ρ.set i (.val d)) := rfl
theorem gTupM_eq (gs : GMs) (ds : List D) : gTupM gs (.tup ds) ρ = gs ds ρ := rfl
theorem gsCons_eq (g : GM) (gs : GMs) (d : D) (ds : List D) : gsCons g gs (d :: ds) ρ = (g d ρ).bind (gs ds) := rfl
theorem gsNil_eq : gsNil [] ρ = some ρ := rfl
def ownK (i : Nat) (ρ : Env) (xs : List D) (st : Store) : SR := .next (ρ.set i (.own xs)) st
theorem ownK_eq (i : Nat) (xs : List D) : ownK i ρ xs st = .next (ρ.set i (.own xs)) st := rfl
theorem sOwn_eq (i : Nat) (f : Env → M (List D)) : sOwn i f ρ st = (f ρ st).then ρ (ownK i ρ) := rfl
def frzR (i : Nat) (g : SM) (ρ : Env) (o : Option Slot) (st : Store) : SR := match o with
  | some (.own xs) => g (ρ.set i (.val (.lst xs))) st
  | _ => .stuck
theorem sFrz_eq (i : Nat) (g : SM) : sFrz i g ρ st = frzR i g ρ ρ[i]? st := by
  unfold sFrz frzR
  cases ρ[i]? with
  | none => rfl
  | some s => cases s <;> rfl
theorem frzR_eq (i : Nat) (g : SM) (xs : List D) : frzR i g ρ (some (.own xs)) st = g (ρ.set i (.val (.lst xs))) st := rfl
def forK (g : GM) (body : SM) (ρ : Env) (xs : List D) (st : Store) : SR := forL g body xs ρ st
theorem forK_eq (g : GM) (body : SM) (xs : List D) : forK g body ρ xs st = forL g body xs ρ st := rfl
theorem sFor_eq (src : Env → M (List D)) (g : GM) (body : SM) : sFor src g body ρ st = (src ρ st).then ρ (forK g body ρ) := rfl
theorem sWhile_eq (n : Nat) (c : Env → M Bool) (body : SM) : sWhile n c body ρ st = whileL c body n ρ st := rfl
theorem bOf_eq (n : Nat) (f : SM) (ds : List D) : bOf n f ds st = (f (ds.map .val ++ List.replicate (n - ds.length) .none) st).out := rfl
theorem out_next : (SR.next ρ st).out = .ok .non st := rfl
theorem out_ret (d : D) : (SR.ret d st).out = .ok d st := rfl
theorem out_exc (e : XD) : (SR.exc e ρ st).out = .exc e st := rfl
theorem oVal_eq (f : Env → M D) : oVal f ρ st = (f ρ st).bind fun d => M.ret (.val d) := rfl
theorem oOwn_eq (f : Env → M (List D)) : oOwn f ρ st = (f ρ st).bind fun xs => M.ret (.own xs) := rfl
theorem osNil_eq : osNil ρ st = .ok [] st := rfl
theorem osCons_eq (f : Env → M Slot) (g : Env → M (List Slot)) : osCons f g ρ st = (f ρ st).bind fun s => M.bind (g ρ) fun ss => M.ret (s :: ss) := rfl
def parK (is : List Nat) (ρ : Env) (ss : List Slot) (st : Store) : SR := if ss.length = is.length then .next (setAllE ρ is ss) st else .stuck
theorem sPar_eq (is : List Nat) (f : Env → M (List Slot)) : sPar is f ρ st = (f ρ st).then ρ (parK is ρ) := rfl
theorem parK_1 (i : Nat) (s : Slot) : parK [i] ρ [s] st = .next (ρ.set i s) st := rfl
theorem parK_2 (i j : Nat) (s t : Slot) : parK [i, j] ρ [s, t] st = .next ((ρ.set i s).set j t) st := rfl
theorem parK_3 (i j k : Nat) (s t u : Slot) : parK [i, j, k] ρ [s, t, u] st = .next (((ρ.set i s).set j t).set k u) st := rfl
theorem parK_4 (i j k l : Nat) (s t u v : Slot) : parK [i, j, k, l] ρ [s, t, u, v] st = .next ((((ρ.set i s).set j t).set k u).set l v) st := rfl
/-! ### lists of one's own -/
def listAtR (i : Nat) (o : Option Slot) (ρ : Env) (st : Store) : Bool := listAt i ρ st
theorem listAt_own {i : Nat} {xs : List D} (h : ρ[i]? = some (.own xs)) : listAt i ρ st = true := by
  unfold listAt
  rw [h]
theorem appendTo_own {i : Nat} {xs : List D} {d : D} (h : ρ[i]? = some (.own xs)) (hl : xs.length < 16777216) : appendTo i d ρ st = .next (ρ.set i (.own (xs ++ [d]))) st := by
  unfold appendTo
  rw [h]
  exact if_pos hl
/-- a list of one's own, appended to -/
theorem sAppend_own {i : Nat} {xs : List D} (f : Env → M D) (h : ρ[i]? = some (.own xs)) : sAppend i f ρ st = (f ρ st).then ρ (fun d st => appendTo i d ρ st) := by
  unfold sAppend
  rw [listAt_own h, if_pos rfl]
theorem sAppendX_own {i : Nat} {xs : List D} (f : XM) (h : ρ[i]? = some (.own xs)) : sAppendX i f ρ st = (f ρ st).then ρ (fun p st => appendTo i p.1 p.2 st) := by
  unfold sAppendX
  rw [listAt_own h, if_pos rfl]
theorem sExprX_eq (f : XM) : sExprX f ρ st = (f ρ st).then ρ fun p st => .next p.2 st := rfl
theorem xPopAt_own {i : Nat} {xs : List D} (f : Env → M D) (h : ρ[i]? = some (.own xs)) : xPopAt i f ρ st = (f ρ st).bind fun d => M.look fun _ => (popAt xs d).map fun p => (p.1, ρ.set i (.own p.2)) := by
  unfold xPopAt
  rw [h]
  rfl
theorem popAt_nat {xs : List D} {k : Nat} (h : k < xs.length) (hl : xs.length ≤ 16777216) : popAt xs (.int k) = some (xs[k], xs.eraseIdx k) := by
  unfold popAt ixN
  simp only
  rw [if_pos ⟨by omega, by omega⟩, if_pos (by omega), if_pos (by omega)]
  simp only [Option.bind_some, Int.toNat_natCast, List.getElem?_eq_getElem h, Option.map_some]
/-! ### data -/
theorem atI_nat {α : Type} (xs : List α) (k : Nat) : atI xs (k : Int) = xs[k]? := by
  unfold atI ixN
  rw [if_pos (by omega)]
  by_cases h : k < xs.length
  · rw [if_pos (by omega)]
    rfl
  · rw [if_neg (by omega), List.getElem?_eq_none (by omega)]
    rfl
theorem atI_0 {α : Type} (x : α) (xs : List α) : atI (x :: xs) 0 = some x := atI_nat (x :: xs) 0
theorem atI_1 {α : Type} (x y : α) (xs : List α) : atI (x :: y :: xs) 1 = some y := atI_nat (x :: y :: xs) 1
theorem atI_2 {α : Type} (x y z : α) (xs : List α) : atI (x :: y :: z :: xs) 2 = some z := atI_nat (x :: y :: z :: xs) 2
theorem atI_3 {α : Type} (x y z w : α) (xs : List α) : atI (x :: y :: z :: w :: xs) 3 = some w := atI_nat (x :: y :: z :: w :: xs) 3
theorem atI_last {α : Type} (x : α) (xs : List α) : atI (xs ++ [x]) (-1) = some x := by
  unfold atI ixN
  rw [if_neg (by omega), if_pos (by rw [List.length_append, List.length_singleton]; omega), List.length_append, List.length_singleton]
  have : ((-1 : Int) + ((xs.length + 1 : Nat) : Int)).toNat = xs.length := by omega
  rw [this]
  simp
theorem atI_int {α : Type} (xs : List α) {i : Int} (h : 0 ≤ i) : atI xs i = xs[i.toNat]? := by
  have : i = ((i.toNat : Nat) : Int) := by omega
  rw [this, atI_nat, Int.toNat_natCast]
theorem ixP_tup (xs : List D) (i : Int) : ixP (.tup xs) (.int i) st = atI xs i := rfl
theorem ixP_lst (xs : List D) (i : Int) : ixP (.lst xs) (.int i) st = atI xs i := rfl
theorem ixP_loc {l : Nat} {xs : List D} (h : st[l]? = some (.lst xs)) (i : Int) : ixP (.loc l) (.int i) st = atI xs i := by
  show ((match st[l]? with | some (.lst xs) => some xs | _ => none).bind fun xs => atI xs i) = _
  rw [h]
  rfl
theorem tru_bool (b : Bool) : tru (.bool b) st = some b := rfl
theorem tru_tup (b : List D) : tru (.tup b) st = some (!b.isEmpty) := rfl
theorem tru_lst (b : List D) : tru (.lst b) st = some (!b.isEmpty) := rfl
theorem tru_int (i : Int) : tru (.int i) st = some (i != 0) := rfl
theorem tru_non : tru .non st = some false := rfl
theorem lenP_tup (xs : List D) : lenP [.tup xs] st = some (.int xs.length) := rfl
theorem lenP_lst (xs : List D) : lenP [.lst xs] st = some (.int xs.length) := rfl
theorem lenP_str {x : Str} (h : x.length ≤ 16777216) : lenP [.str x] st = some (.int x.length) := by
  show (if _ then _ else _) = _
  rw [if_pos (show x.length ≤ sizeLine from h)]
theorem leP_int (i j : Int) : leP (.int i) (.int j) st = some (decide (i ≤ j)) := rfl
theorem ltP_int (i j : Int) : ltP (.int i) (.int j) st = some (decide (i < j)) := rfl
theorem ltP_str (i j : Str) : ltP (.str i) (.str j) st = some (decide (i.cps.toList < j.cps.toList)) := rfl
theorem gtP_int (i j : Int) : gtP (.int i) (.int j) st = some (decide (j < i)) := rfl
theorem geP_int (i j : Int) : geP (.int i) (.int j) st = some (decide (j ≤ i)) := rfl
theorem addP_int (i j : Int) : addP (.int i) (.int j) st = some (.int (i + j)) := rfl
theorem addI_int (i j : Int) : addI (.int i) (.int j) st = some (.int (i + j)) := rfl
theorem subI_int (i j : Int) : subI (.int i) (.int j) st = some (.int (i - j)) := rfl
theorem negP_int (i : Int) : negP (.int i) st = some (.int (-i)) := rfl
theorem modI_int {i j : Int} (h : 0 < j) : modI (.int i) (.int j) st = some (.int (i % j)) := by
  show (if decide (0 < j) = true then _ else _) = _
  rw [if_pos (decide_eq_true h)]
theorem divI_int {i j : Int} (h : 0 < j) (h2 : j < 1073741824) : divI (.int i) (.int j) st = some (.int (i / j)) := by
  show (if decide (0 < j ∧ j < 1073741824) = true then _ else _) = _
  rw [if_pos (decide_eq_true ⟨h, h2⟩)]
theorem mulI_l {i j : Int} (h : -18446744073709551616 < i) (h2 : i < 18446744073709551616) : mulI (.int i) (.int j) st = some (.int (i * j)) := by
  show (if decide _ = true then _ else _) = _
  rw [if_pos (decide_eq_true (.inl ⟨h, h2⟩))]
theorem mulI_r {i j : Int} (h : -18446744073709551616 < j) (h2 : j < 18446744073709551616) : mulI (.int i) (.int j) st = some (.int (i * j)) := by
  show (if decide _ = true then _ else _) = _
  rw [if_pos (decide_eq_true (.inr ⟨h, h2⟩))]
theorem powI_int {i j : Int} (h : 0 ≤ j) (h2 : j ≤ 1000000) (h3 : i.natAbs < 18446744073709551616) : powI (.int i) (.int j) st = some (.int (i ^ j.toNat)) := by
  show (if decide _ = true then _ else _) = _
  rw [if_pos (decide_eq_true ⟨h, h2, h3⟩)]
theorem intP_int (i : Int) : intP [.int i] st = some (.int i) := rfl
theorem intP_bool (b : Bool) : intP [.bool b] st = some (.int (if b then 1 else 0)) := rfl
theorem boolP_int (i : Int) : boolP [.int i] st = some (.bool (i != 0)) := rfl
theorem boolP_bool (b : Bool) : boolP [.bool b] st = some (.bool b) := rfl
theorem absP_int (i : Int) : absP [.int i] st = some (.int (if i < 0 then -i else i)) := rfl
theorem tupP_lst (xs : List D) : tupP [.lst xs] st = some (.tup xs) := rfl
theorem tupP_tup (xs : List D) : tupP [.tup xs] st = some (.tup xs) := rfl
theorem lstP_lst (xs : List D) : lstP [.lst xs] st = some xs := rfl
theorem lstP_tup (xs : List D) : lstP [.tup xs] st = some xs := rfl
theorem isBP_bool (a b : Bool) : isBP (.bool a) (.bool b) st = some (decide (a = b)) := rfl
theorem notBP_bool (a b : Bool) : notBP (.bool a) (.bool b) st = some (!decide (a = b)) := rfl
theorem bools_map {α : Type} (p : α → Bool) : ∀ xs : List α, bools (xs.map fun x => .bool (p x)) = some (xs.map p)
  | [] => rfl
  | x :: xs => by
    rw [List.map_cons, bools, bools_map p xs]
    rfl
theorem allP_map {α : Type} (p : α → Bool) (xs : List α) : allP [.lst (xs.map fun x => .bool (p x))] st = some (.bool (xs.all p)) := by
  show ((bools _).map fun bs => D.bool (bs.all id)) = _
  rw [bools_map, Option.map_some]
  congr 2
  rw [List.all_map]
  rfl
theorem anyP_map {α : Type} (p : α → Bool) (xs : List α) : anyP [.lst (xs.map fun x => .bool (p x))] st = some (.bool (xs.any p)) := by
  show ((bools _).map fun bs => D.bool (bs.any id)) = _
  rw [bools_map, Option.map_some]
  congr 2
  rw [List.any_map]
  rfl
end

/-! ### a wish -/
def R.wp {α : Type} (r : R α) (Q : α → Store → Prop) : Prop := match r with
  | .ok a st => Q a st
  | _ => False
def SR.wp (r : SR) (N : Env → Store → Prop) (T : D → Store → Prop) (B C : Env → Store → Prop) : Prop := match r with
  | .next ρ st => N ρ st
  | .ret d st => T d st
  | .brk ρ st => B ρ st
  | .cont ρ st => C ρ st
  | _ => False
section
variable {α β : Type} {ρ : Env} {st : Store} {N : Env → Store → Prop} {T : D → Store → Prop} {B C : Env → Store → Prop}
theorem wp_ok (a : α) (Q : α → Store → Prop) : (R.ok a st).wp Q = Q a st := rfl
theorem wp_next : (SR.next ρ st).wp N T B C = N ρ st := rfl
theorem wp_ret (d : D) : (SR.ret d st).wp N T B C = T d st := rfl
theorem wp_brk : (SR.brk ρ st).wp N T B C = B ρ st := rfl
theorem wp_cont : (SR.cont ρ st).wp N T B C = C ρ st := rfl
theorem wp_bind {r : R α} {f : α → M β} {Q : β → Store → Prop} (h : r.wp fun a st => (f a st).wp Q) : (r.bind f).wp Q := by
  cases r with
  | ok a st => exact h
  | exc e st => exact h
  | stuck => exact h
theorem wp_rthen {r : R α} {k : α → Store → SR} (h : r.wp fun a st => (k a st).wp N T B C) : (r.then ρ k).wp N T B C := by
  cases r with
  | ok a st => exact h
  | exc e st => exact h.elim
  | stuck => exact h.elim
theorem wp_then {r : SR} {g : SM} (h : r.wp (fun ρ st => (g ρ st).wp N T B C) T B C) : (r.then g).wp N T B C := by
  cases r <;> exact h
theorem wp_mono {r : R α} {Q Q' : α → Store → Prop} (h : r.wp Q) (k : ∀ a st, Q a st → Q' a st) : r.wp Q' := by
  cases r with
  | ok a st => exact k _ _ h
  | exc e st => exact h.elim
  | stuck => exact h.elim
theorem wps_mono {r : SR} {N' : Env → Store → Prop} {T' : D → Store → Prop} {B' C' : Env → Store → Prop} (h : r.wp N T B C) (k : ∀ a st, N a st → N' a st) (k2 : ∀ a st, T a st → T' a st) (k3 : ∀ a st, B a st → B' a st) (k4 : ∀ a st, C a st → C' a st) : r.wp N' T' B' C' := by
  cases r with
  | next a st => exact k _ _ h
  | ret a st => exact k2 _ _ h
  | brk a st => exact k3 _ _ h
  | cont a st => exact k4 _ _ h
  | exc e _ st => exact h.elim
  | stuck => exact h.elim
theorem wp_out {r : SR} {Q : D → Store → Prop} (h : r.wp (fun _ st => Q .non st) Q (fun _ _ => False) fun _ _ => False) : r.out.wp Q := by
  cases r <;> first | exact h | exact h.elim
theorem wp_ex {r : R α} {Q : α → Store → Prop} (h : r.wp Q) : ∃ a st, r = .ok a st ∧ Q a st := by
  cases r with
  | ok a st => exact ⟨a, st, rfl, h⟩
  | exc e st => exact h.elim
  | stuck => exact h.elim
theorem ok_of_wp {r : R α} {a : α} (h : r.wp fun b s => b = a ∧ s = st) : r = .ok a st := by
  obtain ⟨b, s, e, rfl, rfl⟩ := wp_ex h
  exact e
/-- a for, by what holds with the rest still ahead -/
theorem forL_wp {g : GM} {body : SM} (I : List D → Env → Store → Prop) (step : ∀ x xs ρ st, I (x :: xs) ρ st → ∃ ρ1, g x ρ = some ρ1 ∧ (body ρ1 st).wp (I xs) T N (I xs)) (fin : ∀ ρ st, I [] ρ st → N ρ st) : ∀ (xs : List D) (ρ : Env) (st : Store), I xs ρ st → (forL g body xs ρ st).wp N T B C
  | [], ρ, st, h => fin ρ st h
  | x :: xs, ρ, st, h => by
    obtain ⟨ρ1, h1, h2⟩ := step x xs ρ st h
    unfold forL
    simp only [h1]
    cases e : body ρ1 st with
    | next a s => rw [e] at h2; exact forL_wp I step fin xs a s h2
    | ret a s => rw [e] at h2; exact h2
    | brk a s => rw [e] at h2; exact h2
    | cont a s => rw [e] at h2; exact forL_wp I step fin xs a s h2
    | exc x _ s => rw [e] at h2; exact h2.elim
    | stuck => rw [e] at h2; exact h2.elim
theorem forL_nil_wp {g : GM} {body : SM} (h : N ρ st) : (forL g body [] ρ st).wp N T B C := h
theorem forL_cons_wp {g : GM} {body : SM} {x : D} {xs : List D} {ρ1 : Env} (hg : g x ρ = some ρ1) (h : (body ρ1 st).wp (fun ρ s => (forL g body xs ρ s).wp N T B C) T N (fun ρ s => (forL g body xs ρ s).wp N T B C)) : (forL g body (x :: xs) ρ st).wp N T B C := by
  unfold forL
  simp only [hg]
  cases e : body ρ1 st with
  | next a s => rw [e] at h; exact h
  | ret a s => rw [e] at h; exact h
  | brk a s => rw [e] at h; exact h
  | cont a s => rw [e] at h; exact h
  | exc x _ s => rw [e] at h; exact h.elim
  | stuck => rw [e] at h; exact h.elim
/-- a while, by a bound of its turns -/
theorem whileL_wp {c : Env → M Bool} {body : SM} (I : Nat → Env → Store → Prop) (step : ∀ n ρ st, I n ρ st → (c ρ st).wp fun b st' => if b = true then ∃ m, n = m + 1 ∧ (body ρ st').wp (I m) T N (I m) else N ρ st') : ∀ (k n : Nat) (ρ : Env) (st : Store), n < k → I n ρ st → (whileL c body k ρ st).wp N T B C
  | 0, n, ρ, st, hk, h => absurd hk (Nat.not_lt_zero _)
  | k + 1, n, ρ, st, hk, h => by
    have z := step n ρ st h
    unfold whileL
    refine wp_rthen (wp_mono z fun b st' z3 => ?_)
    clear z
    have z := z3
    clear z3
    by_cases hb : b = true
    · rw [if_pos hb] at z ⊢
      obtain ⟨m, rfl, z⟩ := z
      cases e : body ρ st' with
      | next a s => rw [e] at z; exact whileL_wp I step k m a s (by omega) z
      | ret a s => rw [e] at z; exact z
      | brk a s => rw [e] at z; exact z
      | cont a s => rw [e] at z; exact whileL_wp I step k m a s (by omega) z
      | exc x _ s => rw [e] at z; exact z.elim
      | stuck => rw [e] at z; exact z.elim
    · rw [if_neg hb] at z ⊢
      exact z
/-- a comprehension, by what holds with the rest still ahead -/
theorem compL_wp {g : GM} {t : Env → M Bool} {el : Env → M D} {ρ : Env} (I : List D → List D → Store → Prop) {Q : List D → Store → Prop}
    (step : ∀ x xs acc st, I (x :: xs) acc st → acc.length < 16777216 ∧ ∃ ρ1, g x ρ = some ρ1 ∧ (t ρ1 st).wp fun b st' => if b = true then (el ρ1 st').wp fun y st'' => I xs (acc ++ [y]) st'' else I xs acc st') (fin : ∀ acc st, I [] acc st → Q acc st) : ∀ (xs acc : List D) (st : Store), I xs acc st → (compL g t el xs acc ρ st).wp Q
  | [], acc, st, h => fin acc st h
  | x :: xs, acc, st, h => by
    obtain ⟨hl, ρ1, h1, h2⟩ := step x xs acc st h
    unfold compL
    simp only [h1]
    refine wp_bind (wp_mono h2 fun b st' h3 => ?_)
    by_cases hb : b = true
    · rw [if_pos hb] at h3 ⊢
      rw [mbind_eq]
      refine wp_bind (wp_mono h3 fun y st'' h4 => ?_)
      rw [if_pos (show acc.length < sizeLine from hl)]
      exact compL_wp I step fin xs (acc ++ [y]) st'' h4
    · rw [if_neg hb] at h3 ⊢
      exact compL_wp I step fin xs acc st' h3
theorem noX_wp {r : R α} {Q : α → Store → Prop} (h : r.wp Q) : r.noX.wp Q := by
  cases r with
  | ok a st => exact h
  | exc e st => exact h.elim
  | stuck => exact h.elim
end
end DL
end
section
/-! PL2: kinds, equality, in, dicts, all the way in. -/
namespace DL
open PySem PySem.Spec PyProof.Rows L2

section
variable {st : Store}
/-! ### kinds -/
theorem isB_int_int (i : Int) : isB "int" (.int i) st = some true := rfl
theorem isB_int_bool (i : Bool) : isB "int" (.bool i) st = some true := rfl
theorem isB_int_str (i : Str) : isB "int" (.str i) st = some false := rfl
theorem isB_int_non : isB "int" .non st = some false := rfl
theorem isB_int_tup (i : List D) : isB "int" (.tup i) st = some false := rfl
theorem isB_int_lst (i : List D) : isB "int" (.lst i) st = some false := rfl
theorem isB_bool_int (i : Int) : isB "bool" (.int i) st = some false := rfl
theorem isB_bool_bool (i : Bool) : isB "bool" (.bool i) st = some true := rfl
theorem isB_bool_str (i : Str) : isB "bool" (.str i) st = some false := rfl
theorem isB_bool_non : isB "bool" .non st = some false := rfl
theorem isB_bool_tup (i : List D) : isB "bool" (.tup i) st = some false := rfl
theorem isB_bool_lst (i : List D) : isB "bool" (.lst i) st = some false := rfl
theorem isB_str_int (i : Int) : isB "str" (.int i) st = some false := rfl
theorem isB_str_bool (i : Bool) : isB "str" (.bool i) st = some false := rfl
theorem isB_str_str (i : Str) : isB "str" (.str i) st = some true := rfl
theorem isB_str_non : isB "str" .non st = some false := rfl
theorem isB_str_tup (i : List D) : isB "str" (.tup i) st = some false := rfl
theorem isB_str_lst (i : List D) : isB "str" (.lst i) st = some false := rfl
theorem isB_tup_int (i : Int) : isB "tuple" (.int i) st = some false := rfl
theorem isB_tup_bool (i : Bool) : isB "tuple" (.bool i) st = some false := rfl
theorem isB_tup_str (i : Str) : isB "tuple" (.str i) st = some false := rfl
theorem isB_tup_non : isB "tuple" .non st = some false := rfl
theorem isB_tup_tup (i : List D) : isB "tuple" (.tup i) st = some true := rfl
theorem isB_tup_lst (i : List D) : isB "tuple" (.lst i) st = some false := rfl
theorem isBs_lt_int (i : Int) : isBs ["list", "tuple"] (.int i) st = some false := rfl
theorem isBs_lt_bool (i : Bool) : isBs ["list", "tuple"] (.bool i) st = some false := rfl
theorem isBs_lt_str (i : Str) : isBs ["list", "tuple"] (.str i) st = some false := rfl
theorem isBs_lt_non : isBs ["list", "tuple"] .non st = some false := rfl
theorem isBs_lt_tup (i : List D) : isBs ["list", "tuple"] (.tup i) st = some true := rfl
theorem isBs_lt_lst (i : List D) : isBs ["list", "tuple"] (.lst i) st = some true := rfl
variable {sub : Str → Str → Bool} {c : Str}
theorem isC_int (i : Int) : isC sub c (.int i) st = some false := rfl
theorem isC_bool (i : Bool) : isC sub c (.bool i) st = some false := rfl
theorem isC_str (i : Str) : isC sub c (.str i) st = some false := rfl
theorem isC_non : isC sub c .non st = some false := rfl
theorem isC_tup (i : List D) : isC sub c (.tup i) st = some false := rfl
theorem isC_lst (i : List D) : isC sub c (.lst i) st = some false := rfl
theorem isC_loc {l : Nat} {c' : Str} {fs : List (Str × D)} (h : st[l]? = some (.ins c' fs)) : isC sub c (.loc l) st = some (sub c' c) := by
  show (((st[l]?).map tyO).bind (isTyC sub c)) = _
  rw [h]
  rfl
/-- values that stand by themselves -/
def nl : D → Bool
  | .non => true
  | .bool _ => true
  | .int _ => true
  | .str _ => true
  | .tup _ => true
  | .lst _ => true
  | _ => false
/-! ### data of a depth -/
theorem fit_tup (n : Nat) {ds : List D} (h : ∀ d ∈ ds, fit n d = true) : fit (n + 1) (.tup ds) = true := List.all_eq_true.mpr h
theorem fit_lst (n : Nat) {ds : List D} (h : ∀ d ∈ ds, fit n d = true) : fit (n + 1) (.lst ds) = true := List.all_eq_true.mpr h
theorem fit_int (n : Nat) (i : Int) : fit n (.int i) = true := by cases n <;> rfl
theorem fit_bool (n : Nat) (i : Bool) : fit n (.bool i) = true := by cases n <;> rfl
theorem fit_str (n : Nat) (i : Str) : fit n (.str i) = true := by cases n <;> rfl
theorem fit_non (n : Nat) : fit n .non = true := by cases n <;> rfl
theorem fit_up : ∀ (n : Nat) (d : D), fit n d = true → fit (n + 1) d = true := by
  intro n
  induction n with
  | zero => intro d h; cases d <;> first | rfl | cases h
  | succ n ih =>
    intro d h
    cases d with
    | tup ds => exact fit_tup _ fun d hd => ih d (List.all_eq_true.mp h d hd)
    | lst ds => exact fit_lst _ fun d hd => ih d (List.all_eq_true.mp h d hd)
    | _ => first | rfl | cases h
theorem fit_le {n m : Nat} {d : D} (h : n ≤ m) (e : fit n d = true) : fit m d = true := by
  induction h with
  | refl => exact e
  | step _ ih => exact fit_up _ _ ih
theorem fit_nl {n : Nat} {d : D} (h : fit n d = true) : nl d = true := by
  cases d <;> first | rfl | (cases n <;> cases h)
/-- no list in it is too long -/
def sm : Nat → D → Bool
  | _, .non => true
  | _, .bool _ => true
  | _, .int _ => true
  | _, .str _ => true
  | n + 1, .tup ds => decide (ds.length ≤ 16777216) && ds.all (sm n)
  | n + 1, .lst ds => decide (ds.length ≤ 16777216) && ds.all (sm n)
  | _, _ => false
theorem sm_tup {n : Nat} {ds : List D} (hl : ds.length ≤ 16777216) (h : ∀ d ∈ ds, sm n d = true) : sm (n + 1) (.tup ds) = true := by
  show (decide _ && _) = true
  rw [Bool.and_eq_true]
  exact ⟨decide_eq_true hl, List.all_eq_true.mpr h⟩
theorem sm_lst {n : Nat} {ds : List D} (hl : ds.length ≤ 16777216) (h : ∀ d ∈ ds, sm n d = true) : sm (n + 1) (.lst ds) = true := by
  show (decide _ && _) = true
  rw [Bool.and_eq_true]
  exact ⟨decide_eq_true hl, List.all_eq_true.mpr h⟩
theorem sm_tup' {n : Nat} {ds : List D} (h : sm (n + 1) (.tup ds) = true) : ds.length ≤ 16777216 ∧ ∀ d ∈ ds, sm n d = true := by
  have h : (decide _ && _) = true := h
  rw [Bool.and_eq_true] at h
  exact ⟨of_decide_eq_true h.1, List.all_eq_true.mp h.2⟩
theorem sm_lst' {n : Nat} {ds : List D} (h : sm (n + 1) (.lst ds) = true) : ds.length ≤ 16777216 ∧ ∀ d ∈ ds, sm n d = true := by
  have h : (decide _ && _) = true := h
  rw [Bool.and_eq_true] at h
  exact ⟨of_decide_eq_true h.1, List.all_eq_true.mp h.2⟩
theorem sm_int (n : Nat) (i : Int) : sm n (.int i) = true := by cases n <;> rfl
theorem sm_bool (n : Nat) (i : Bool) : sm n (.bool i) = true := by cases n <;> rfl
theorem sm_str (n : Nat) (i : Str) : sm n (.str i) = true := by cases n <;> rfl
theorem sm_non (n : Nat) : sm n .non = true := by cases n <;> rfl
theorem sm_nl {n : Nat} {d : D} (h : sm n d = true) : nl d = true := by
  cases d <;> first | rfl | (cases n <;> cases h)
/-- a tuple for each list, all the way in -/
def fixN : Nat → D → D
  | n + 1, .tup ds => .tup (ds.map (fixN n))
  | n + 1, .lst ds => .tup (ds.map (fixN n))
  | _, d => d
/-- no lists in it -/
def noL : Nat → D → Bool
  | n + 1, .tup ds => ds.all (noL n)
  | _, .lst _ => false
  | _, _ => true
theorem fixN_noL : ∀ (n : Nat) (d : D), noL n d = true → fixN n d = d := by
  intro n
  induction n with
  | zero => intro d h; cases d <;> rfl
  | succ n ih =>
    intro d h
    cases d with
    | tup ds =>
      show D.tup (ds.map (fixN n)) = _
      rw [List.map_congr_left (fun d hd => ih d (List.all_eq_true.mp h d hd)), List.map_id']
    | lst ds => cases h
    | _ => rfl
/-! ### equality -/
mutual
/-- data in which == is equality -/
def clean : D → Bool
  | .non => true
  | .int _ => true
  | .str _ => true
  | .tup ds => cleans ds
  | .lst ds => cleans ds
  | _ => false
def cleans : List D → Bool
  | [] => true
  | d :: ds => clean d && cleans ds
end
theorem cleans_iff : ∀ ds : List D, cleans ds = true ↔ ∀ d ∈ ds, clean d = true
  | [] => by simp [cleans]
  | d :: ds => by simp [cleans, cleans_iff ds]
theorem clean_tup {ds : List D} (h : ∀ d ∈ ds, clean d = true) : clean (.tup ds) = true := (cleans_iff ds).mpr h
theorem clean_lst {ds : List D} (h : ∀ d ∈ ds, clean d = true) : clean (.lst ds) = true := (cleans_iff ds).mpr h
mutual
theorem deq_iff : ∀ d e : D, clean d = true → clean e = true → (PyData.eqv (toPy d) (toPy e) = true ↔ d = e)
  | .non, e, _, he => by cases e <;> simp [toPy, PyData.eqv, clean] at he ⊢
  | .int i, e, _, he => by cases e <;> simp [toPy, PyData.eqv, clean] at he ⊢
  | .str i, e, _, he => by cases e <;> simp [toPy, PyData.eqv, clean] at he ⊢
  | .tup ds, e, hd, he => by
    cases e with
    | tup es =>
      have z := deqs_iff ds es (by simpa only [clean] using hd) (by simpa only [clean] using he)
      simp only [toPy, PyData.eqv, D.tup.injEq]
      exact z
    | _ => simp [toPy, PyData.eqv, clean] at he ⊢
  | .lst ds, e, hd, he => by
    cases e with
    | lst es =>
      have z := deqs_iff ds es (by simpa only [clean] using hd) (by simpa only [clean] using he)
      simp only [toPy, PyData.eqv, D.lst.injEq]
      exact z
    | _ => simp [toPy, PyData.eqv, clean] at he ⊢
  | .bool _, _, h, _ => by simp [clean] at h
  | .dic _, _, h, _ => by simp [clean] at h
  | .dit _, _, h, _ => by simp [clean] at h
  | .ins _ _, _, h, _ => by simp [clean] at h
  | .loc _, _, h, _ => by simp [clean] at h
theorem deqs_iff : ∀ ds es : List D, cleans ds = true → cleans es = true → (PyData.eqvAll (toPys ds) (toPys es) = true ↔ ds = es)
  | [], [], _, _ => by simp [toPys, PyData.eqvAll]
  | [], _ :: _, _, _ => by simp [toPys, PyData.eqvAll]
  | _ :: _, [], _, _ => by simp [toPys, PyData.eqvAll]
  | d :: ds, e :: es, hd, he => by
    simp only [cleans, Bool.and_eq_true] at hd he
    simp only [toPys, PyData.eqvAll, Bool.and_eq_true, List.cons.injEq, deq_iff d e hd.1 he.1, deqs_iff ds es hd.2 he.2]
end
theorem deq_clean {d e : D} (hd : clean d = true) (he : clean e = true) : (deq d e = true ↔ d = e) := deq_iff d e hd he
theorem eqP_fit {d e : D} (hd : fit 60 d = true) (he : fit 60 e = true) : eqP d e st = some (deq d e) := if_pos ⟨hd, he⟩
theorem neP_fit {d e : D} (hd : fit 60 d = true) (he : fit 60 e = true) : neP d e st = some (!deq d e) := if_pos ⟨hd, he⟩
theorem deq_int (i j : Int) : deq (.int i) (.int j) = decide (i = j) := by
  simp only [deq, toPy, PyData.eqv]
  rfl
theorem deq_str (i j : Str) : deq (.str i) (.str j) = decide (i = j) := by
  simp only [deq, toPy, PyData.eqv]
  rfl
theorem deq_bool (i j : Bool) : deq (.bool i) (.bool j) = decide (i = j) := by
  simp only [deq, toPy, PyData.eqv]
  rfl
theorem eqP_int (i j : Int) : eqP (.int i) (.int j) st = some (decide (i = j)) := by rw [← deq_int]; exact eqP_fit (fit_int _ _) (fit_int _ _)
theorem neP_int (i j : Int) : neP (.int i) (.int j) st = some (!decide (i = j)) := by rw [← deq_int]; exact neP_fit (fit_int _ _) (fit_int _ _)
theorem eqP_str (i j : Str) : eqP (.str i) (.str j) st = some (decide (i = j)) := by rw [← deq_str]; exact eqP_fit (fit_str _ _) (fit_str _ _)
theorem neP_str (i j : Str) : neP (.str i) (.str j) st = some (!decide (i = j)) := by rw [← deq_str]; exact neP_fit (fit_str _ _) (fit_str _ _)
theorem eqP_bool (i j : Bool) : eqP (.bool i) (.bool j) st = some (decide (i = j)) := by rw [← deq_bool]; exact eqP_fit (fit_bool _ _) (fit_bool _ _)
theorem neP_bool (i j : Bool) : neP (.bool i) (.bool j) st = some (!decide (i = j)) := by rw [← deq_bool]; exact neP_fit (fit_bool _ _) (fit_bool _ _)
/-- a list of depth, compared with the empty one -/
theorem neP_nil {xs : List D} (h : ∀ x ∈ xs, fit 59 x = true) : neP (.lst xs) (.lst []) st = some (!xs.isEmpty) := by
  rw [neP_fit (fit_lst 59 h) rfl]
  cases xs <;> rfl
theorem eqP_nil {xs : List D} (h : ∀ x ∈ xs, fit 59 x = true) : eqP (.lst xs) (.lst []) st = some xs.isEmpty := by
  rw [eqP_fit (fit_lst 59 h) rfl]
  cases xs <;> rfl
theorem eqP_clean {d e : D} (hd : fit 60 d = true) (he : fit 60 e = true) (cd : clean d = true) (ce : clean e = true) [Decidable (d = e)] : eqP d e st = some (decide (d = e)) := by
  rw [eqP_fit hd he]
  congr 1
  by_cases h : d = e
  · rw [decide_eq_true h]; exact (deq_clean cd ce).mpr h
  · rw [decide_eq_false h]
    cases z : deq d e with
    | false => rfl
    | true => exact absurd ((deq_clean cd ce).mp z) h
theorem inP_lst {d : D} {xs : List D} (hd : fit 60 d = true) (hx : ∀ x ∈ xs, fit 60 x = true) : inP d (.lst xs) st = some (xs.any fun y => deq y d) := by
  show (if _ then _ else _) = _
  exact if_pos ⟨hd, List.all_eq_true.mpr hx⟩
theorem notInP_lst {d : D} {xs : List D} (hd : fit 60 d = true) (hx : ∀ x ∈ xs, fit 60 x = true) : notInP d (.lst xs) st = some (!xs.any fun y => deq y d) := by
  show (inP d (.lst xs) st).map _ = _
  rw [inP_lst hd hx]
  rfl
theorem any_deq {α : Type} [DecidableEq α] {f : α → D} (inj : ∀ a b, f a = f b → a = b) (cl : ∀ a, clean (f a) = true) (x : α) (xs : List α) : ((xs.map f).any fun y => deq y (f x)) = decide (x ∈ xs) := by
  rw [Bool.eq_iff_iff, List.any_eq_true, decide_eq_true_iff]
  constructor
  · rintro ⟨y, hy, e⟩
    obtain ⟨a, ha, rfl⟩ := List.mem_map.mp hy
    rw [inj _ _ ((deq_clean (cl _) (cl _)).mp e).symm]
    exact ha
  · intro h
    exact ⟨f x, List.mem_map_of_mem h, (deq_clean (cl _) (cl _)).mpr rfl⟩
/-! ### dicts whose keys are tuples -/
theorem find_map_same {α : Type} (p : α → Bool) (g : α → α) (hg : ∀ x, p (g x) = p x) : ∀ xs : List α, ((xs.map g).find? p).isSome = (xs.find? p).isSome
  | [] => rfl
  | x :: xs => by
    rw [List.map_cons, List.find?_cons, List.find?_cons, hg]
    cases p x
    · exact find_map_same p g hg xs
    · rfl
theorem putTD_get {kds : List (D × D)} {k d j : D} (hk : (tkD k).isSome = true) : (dGetT (putTD kds k d) j).isSome = ((decide (tkD j = tkD k)) || (dGetT kds j).isSome) := by
  unfold dGetT
  cases hj : tkD j with
  | none =>
    have : ¬ (none = tkD k) := fun z => by rw [← z] at hk; cases hk
    simp [this]
  | some q =>
    unfold putTD
    simp only [Option.isSome_map]
    split
    · rename_i h
      rw [find_map_same _ _ (fun x => by by_cases e : tkD x.1 = tkD k <;> simp [e])]
      by_cases e : some q = tkD k
      · rw [← e] at h
        simp only [e, decide_true, Bool.true_or]
        rw [List.find?_isSome, ← e]
        obtain ⟨p, hp, e2⟩ := List.any_eq_true.mp h
        exact ⟨p, hp, e2⟩
      · simp [e]
    · rename_i h
      rw [List.find?_append]
      by_cases e : some q = tkD k
      · simp [e, List.find?_cons]
      · have : ¬ (tkD k = some q) := fun z => e z.symm
        simp [e, this, List.find?_cons]
def foldT (ks : List D) : List (D × D) := ks.foldl (fun acc k => putTD acc k (.bool true)) []
theorem foldT_get (ks : List D) (hk : ∀ k ∈ ks, (tkD k).isSome = true) (j : D) : (dGetT (foldT ks) j).isSome = ks.any fun k => decide (tkD j = tkD k) := by
  unfold foldT
  have gen : ∀ (ks : List D) (acc : List (D × D)), (∀ k ∈ ks, (tkD k).isSome = true) → (dGetT (ks.foldl (fun acc k => putTD acc k (.bool true)) acc) j).isSome = ((dGetT acc j).isSome || ks.any fun k => decide (tkD j = tkD k)) := by
    intro ks
    induction ks with
    | nil => intro acc _; simp
    | cons k ks ih =>
      intro acc h
      rw [List.foldl_cons, ih _ fun k hk => h k (List.mem_cons_of_mem _ hk), putTD_get (h k List.mem_cons_self), List.any_cons]
      cases (dGetT acc j).isSome <;> simp
  rw [gen ks [] hk]
  have : dGetT [] j = none := by unfold dGetT; cases tkD j <;> rfl
  rw [this]
  rfl
theorem inDP_dit {kds : List (D × D)} {k : D} (h : isTK k = true) : inDP k (.dit kds) st = some (dGetT kds k).isSome := by
  show (if _ then _ else _) = _
  rw [if_pos h]
theorem notInDP_dit {kds : List (D × D)} {k : D} (h : isTK k = true) : notInDP k (.dit kds) st = some (!(dGetT kds k).isSome) := by
  show (inDP k (.dit kds) st).map _ = _
  rw [inDP_dit h]
  rfl
theorem lenDP_dit {kds : List (D × D)} : lenDP [.dit kds] st = some (.int kds.length) := rfl
theorem lenDP_dic {kds : List (D × D)} : lenDP [.dic kds] st = some (.int kds.length) := rfl
theorem putTD_len (kds : List (D × D)) (k d : D) : (putTD kds k d).length ≤ kds.length + 1 := by
  unfold putTD
  split
  · rw [List.length_map]; omega
  · rw [List.length_append, List.length_singleton]; omega
/-- a dict comprehension over tuples, each for True -/
theorem dcompT_pure {g : GM} {fk fv : Env → M D} {ρ : Env} (kk : D → D) : ∀ (xs : List D) (acc : List (D × D)), (∀ x ∈ xs, ∃ ρ1, g x ρ = some ρ1 ∧ fk ρ1 st = .ok (kk x) st ∧ fv ρ1 st = .ok (.bool true) st ∧ (tkD (kk x)).isSome = true) → acc.length + xs.length ≤ 16777216 →
    dcompT g tYesM fk fv xs acc ρ st = .ok ((xs.map kk).foldl (fun acc k => putTD acc k (.bool true)) acc) st
  | [], acc, _, _ => rfl
  | x :: xs, acc, h, hl => by
    obtain ⟨ρ1, h1, h2, h3, h4⟩ := h x List.mem_cons_self
    rw [List.length_cons] at hl
    unfold dcompT
    have : acc.length < sizeLine := by show acc.length < 16777216; omega
    simp only [h1, tYesM_eq, R.bind_ok, if_true, mbind_eq, h2, h3]
    rw [if_pos ⟨h4, this⟩, dcompT_pure kk xs _ (fun y hy => h y (List.mem_cons_of_mem _ hy)) (by have := putTD_len acc (kk x) (.bool true); omega), List.map_cons, List.foldl_cons]
end
end DL
end
section
/-! PL3: tables of hearers as data; more steps. -/
namespace DL
open PySem PySem.Spec PyProof.Rows L2
abbrev Ans := Str × List Int × Int
def toldD (t : List Int) : D := .tup (t.map .int)
def ansD (a : Ans) : D := .tup [.str a.1, toldD a.2.1, .int a.2.2]
def rowD (r : List Ans) : D := .tup (r.map ansD)
def tabD (t : List (List Ans)) : D := .tup (t.map rowD)
section
variable {st : Store} {ρ : Env}
theorem map_int_inj : ∀ {xs ys : List Int}, xs.map D.int = ys.map D.int → xs = ys
  | [], [], _ => rfl
  | [], _ :: _, h => nomatch h
  | _ :: _, [], h => nomatch h
  | x :: xs, y :: ys, h => by
    rw [List.map_cons, List.map_cons] at h
    injection h with h1 h2
    injection h1 with h1
    rw [h1, map_int_inj h2]
theorem toldD_inj {a b : List Int} (h : toldD a = toldD b) : a = b := by
  injection h with h
  exact map_int_inj h
theorem ansD_inj {a b : Ans} (h : ansD a = ansD b) : a = b := by
  obtain ⟨a1, a2, a3⟩ := a
  obtain ⟨b1, b2, b3⟩ := b
  unfold ansD at h
  injection h with h
  injection h with h1 h
  injection h with h2 h
  injection h with h3 h
  injection h1 with h1
  injection h3 with h3
  have := toldD_inj h2
  simp only at h1 h3 this
  rw [h1, h3, this]
theorem map_inj {α : Type} {f : α → D} (inj : ∀ {a b}, f a = f b → a = b) : ∀ {xs ys : List α}, xs.map f = ys.map f → xs = ys
  | [], [], _ => rfl
  | [], _ :: _, h => nomatch h
  | _ :: _, [], h => nomatch h
  | x :: xs, y :: ys, h => by
    rw [List.map_cons, List.map_cons] at h
    injection h with h1 h2
    rw [inj h1, map_inj inj h2]
theorem rowD_inj {a b : List Ans} (h : rowD a = rowD b) : a = b := by
  injection h with h
  exact map_inj ansD_inj h
theorem tabD_inj {a b : List (List Ans)} (h : tabD a = tabD b) : a = b := by
  injection h with h
  exact map_inj rowD_inj h
theorem clean_map {α : Type} {f : α → D} (h : ∀ a, clean (f a) = true) (xs : List α) : ∀ d ∈ xs.map f, clean d = true := fun d hd => by
  obtain ⟨a, _, rfl⟩ := List.mem_map.mp hd
  exact h a
theorem fit_map {α : Type} {n : Nat} {f : α → D} (h : ∀ a, fit n (f a) = true) (xs : List α) : ∀ d ∈ xs.map f, fit n d = true := fun d hd => by
  obtain ⟨a, _, rfl⟩ := List.mem_map.mp hd
  exact h a
theorem noL_map {α : Type} {n : Nat} {f : α → D} (h : ∀ a, noL n (f a) = true) (xs : List α) : (xs.map f).all (noL n) = true := List.all_eq_true.mpr fun d hd => by
  obtain ⟨a, _, rfl⟩ := List.mem_map.mp hd
  exact h a
theorem noL_int (n : Nat) (i : Int) : noL n (.int i) = true := by cases n <;> rfl
theorem noL_str (n : Nat) (i : Str) : noL n (.str i) = true := by cases n <;> rfl
theorem clean_told (t : List Int) : clean (toldD t) = true := clean_tup (clean_map (fun _ => rfl) t)
theorem clean_ans (a : Ans) : clean (ansD a) = true := by
  have := clean_told a.2.1
  simp only [ansD, clean, cleans, this, Bool.and_self]
theorem clean_row (r : List Ans) : clean (rowD r) = true := clean_tup (clean_map clean_ans r)
theorem clean_tab (r : List (List Ans)) : clean (tabD r) = true := clean_tup (clean_map clean_row r)
theorem fit_told (n : Nat) (t : List Int) : fit (n + 1) (toldD t) = true := fit_tup n (fit_map (fun i => fit_int n i) t)
theorem fit_ans (n : Nat) (a : Ans) : fit (n + 2) (ansD a) = true := by
  refine fit_tup (n + 1) fun d hd => ?_
  simp only [List.mem_cons, List.not_mem_nil, or_false] at hd
  rcases hd with rfl | rfl | rfl
  · exact fit_str _ _
  · exact fit_told n _
  · exact fit_int _ _
theorem fit_row (n : Nat) (r : List Ans) : fit (n + 3) (rowD r) = true := fit_tup (n + 2) (fit_map (fun a => fit_ans n a) r)
theorem fit_tab (n : Nat) (r : List (List Ans)) : fit (n + 4) (tabD r) = true := fit_tup (n + 3) (fit_map (fun a => fit_row n a) r)
theorem noL_told (n : Nat) (t : List Int) : noL (n + 1) (toldD t) = true := noL_map (fun i => noL_int n i) t
theorem noL_ans (n : Nat) (a : Ans) : noL (n + 2) (ansD a) = true := by
  show List.all _ _ = true
  simp only [List.all_cons, List.all_nil, noL_str, noL_int, noL_told, Bool.and_self]
theorem noL_row (n : Nat) (r : List Ans) : noL (n + 3) (rowD r) = true := noL_map (fun a => noL_ans n a) r
theorem noL_tab (n : Nat) (r : List (List Ans)) : noL (n + 4) (tabD r) = true := noL_map (fun a => noL_row n a) r
/-- a table that is small enough -/
theorem sm_told (n : Nat) {t : List Int} (h : t.length ≤ 16777216) : sm (n + 1) (toldD t) = true := sm_tup (by rw [List.length_map]; exact h) fun d hd => by
  obtain ⟨a, _, rfl⟩ := List.mem_map.mp hd
  exact sm_int n a
theorem sm_ans (n : Nat) {a : Ans} (h : a.2.1.length ≤ 16777216) : sm (n + 2) (ansD a) = true := by
  refine sm_tup (by simp) fun d hd => ?_
  simp only [List.mem_cons, List.not_mem_nil, or_false] at hd
  rcases hd with rfl | rfl | rfl
  · exact sm_str _ _
  · exact sm_told n h
  · exact sm_int _ _
theorem sm_row (n : Nat) {r : List Ans} (hl : r.length ≤ 16777216) (h : ∀ a ∈ r, a.2.1.length ≤ 16777216) : sm (n + 3) (rowD r) = true := sm_tup (by rw [List.length_map]; exact hl) fun d hd => by
  obtain ⟨a, ha, rfl⟩ := List.mem_map.mp hd
  exact sm_ans n (h a ha)
theorem sm_tab (n : Nat) {t : List (List Ans)} (hl : t.length ≤ 16777216) (h : ∀ r ∈ t, r.length ≤ 16777216 ∧ ∀ a ∈ r, a.2.1.length ≤ 16777216) : sm (n + 4) (tabD t) = true := sm_tup (by rw [List.length_map]; exact hl) fun d hd => by
  obtain ⟨a, ha, rfl⟩ := List.mem_map.mp hd
  exact sm_row n (h a ha).1 (h a ha).2
theorem all_tt {α : Type} (xs : List α) : (xs.all fun _ => true) = true := List.all_eq_true.mpr fun _ _ => rfl
/-! ### more steps -/
/-- all, of a comprehension with one answer each -/
theorem allP_of {xs : List D} {p : D → Bool} : allP [.lst (xs.map fun x => .bool (p x))] st = some (.bool (xs.all p)) := allP_map p xs
theorem fldP_loc {cs : List Str} {f c : Str} {l : Nat} {fs : List (Str × D)} {d : D} (h : st[l]? = some (.ins c fs)) (hc : c ∈ cs) (hf : fs.lookup f = some d) : fldP cs f (.loc l) st = some d := by
  show ((match st[l]? with | some (.ins c fs) => some (c, fs) | _ => none).bind fun p => if p.1 ∈ cs then p.2.lookup f else none) = _
  rw [h]
  show (if c ∈ cs then fs.lookup f else none) = _
  rw [if_pos hc, hf]
theorem insS_loc {c : Str} {l : Nat} {fs : List (Str × D)} (h : st[l]? = some (.ins c fs)) : insS (.loc l) st = some (c, fs) := by
  show (match st[l]? with | some (.ins c fs) => some (c, fs) | _ => none) = _
  rw [h]
theorem bLen_eq {n : Nat} {b : BM} {ds : List D} (h : ds.length = n) : bLen n b ds st = b ds st := by
  unfold bLen
  rw [if_pos h]
theorem bVar_eq {n nmax m : Nat} {f : SM} {ds : List D} (h : n ≤ ds.length ∧ ds.length ≤ n + nmax) : bVar n nmax m f ds st = bOf m f (ds.take n ++ [.tup (ds.drop n)]) st := by
  unfold bVar
  rw [if_pos h]
def supK (fb : SM) (ρ : Env) (_ : D) : M D := fun st => (fb ρ st).out
theorem supK_eq (fb : SM) (d : D) : supK fb ρ d st = (fb ρ st).out := rfl
theorem bSup_eq {cs : List Str} {n : Nat} {b2 : BM} {fa : Env → M (List D)} {fb : SM} {l : Nat} {ds : List D} {c : Str} {fs : List (Str × D)} (h : st[l]? = some (.ins c fs)) (hc : c ∈ cs) : bSup cs n b2 fa fb (.loc l :: ds) st = (fa (bEnv n (.loc l :: ds)) st).bind fun us => M.bind (b2 (.loc l :: us)) (supK fb (bEnv n (.loc l :: ds))) := by
  unfold bSup
  simp only [insS_loc h]
  exact if_pos hc
theorem setFldM_loc {cs : List Str} {f c : Str} {l : Nat} {fs : List (Str × D)} {d : D} (h : st[l]? = some (.ins c fs)) (hc : c ∈ cs) (hl : fs.length < 1000) : setFldM cs f (.loc l) d st = .ok () (st.set l (.ins c (putD f d fs))) := by
  show (match st[l]? with | some (.ins c fs) => (if c ∈ cs ∧ fs.length < 1000 then R.ok () (st.set l (.ins c (putD f d fs))) else .stuck) | _ => .stuck) = _
  rw [h]
  show (if c ∈ cs ∧ fs.length < 1000 then R.ok () (st.set l (.ins c (putD f d fs))) else .stuck) = _
  rw [if_pos ⟨hc, hl⟩]
theorem sSetFld_eq (cs : List Str) (f : Str) (fo fv : Env → M D) : sSetFld cs f fo fv ρ st = ((fv ρ st).bind fun d => M.bind (fo ρ) fun o => setFldM cs f o d).then ρ fun _ st => .next ρ st := rfl
theorem eMeth_loc {c m : Str} {l : Nat} {fs : List (Str × D)} (b : BM) (g : Env → M (List D)) (h : st[l]? = some (.ins c fs)) (hm : fs.lookup m = none) :
    (M.bind (M.look fun st => (insS (.loc l) st).bind fun p => if p.1 = c ∧ p.2.lookup m = none then some () else none) fun _ => M.bind (g ρ) fun ds => b (.loc l :: ds)) st = (g ρ st).bind fun ds => b (.loc l :: ds) := by
  rw [mbind_eq, mlook_eq, insS_loc h]
  rw [Option.bind_some]
  show ((lookR (if c = c ∧ fs.lookup m = none then some () else none) st).bind _) = _
  rw [if_pos ⟨rfl, hm⟩]
  rfl
/-- a dict comprehension with unlike keys -/
theorem dcompL_pure {g : GM} {fk fv : Env → M D} {ρ : Env} (kk vv : D → D) : ∀ (xs : List D) (acc : List (D × D)), (∀ x ∈ xs, ∃ ρ1, g x ρ = some ρ1 ∧ fk ρ1 st = .ok (kk x) st ∧ fv ρ1 st = .ok (vv x) st ∧ (kD (kk x)).isSome = true) → (∀ x ∈ xs, ∀ p ∈ acc, kD p.1 ≠ kD (kk x)) → (xs.map fun x => kD (kk x)).Nodup → acc.length + xs.length ≤ 16777216 →
    dcompL g tYesM fk fv xs acc ρ st = .ok (acc ++ xs.map fun x => (kk x, vv x)) st
  | [], acc, _, _, _, _ => by rw [List.map_nil, List.append_nil]; rfl
  | x :: xs, acc, h, ha, hn, hl => by
    obtain ⟨ρ1, h1, h2, h3, h4⟩ := h x List.mem_cons_self
    rw [List.length_cons] at hl
    rw [List.map_cons, List.nodup_cons] at hn
    unfold dcompL
    have : acc.length < sizeLine := by show acc.length < 16777216; omega
    simp only [h1, tYesM_eq, R.bind_ok, if_true, mbind_eq, h2, h3]
    have e : putKD acc (kk x) (vv x) = acc ++ [(kk x, vv x)] := by
      unfold putKD
      rw [if_neg]
      intro z
      obtain ⟨p, hp, e⟩ := List.any_eq_true.mp z
      exact ha x List.mem_cons_self p hp (of_decide_eq_true e)
    rw [if_pos ⟨h4, this⟩, e, dcompL_pure kk vv xs _ (fun y hy => h y (List.mem_cons_of_mem _ hy)) (fun y hy p hp => ?_) hn.2 (by rw [List.length_append, List.length_singleton]; omega), List.map_cons, List.append_assoc]
    · rfl
    · rcases List.mem_append.mp hp with hp | hp
      · exact ha y (List.mem_cons_of_mem _ hy) p hp
      · rw [List.mem_singleton.mp hp]
        intro z
        exact hn.1 (z ▸ List.mem_map_of_mem hy)
def dcompK (vs : List Nat) (g : GM) (t : Env → M Bool) (fk fv : Env → M D) (ρ : Env) (xs : List D) : M D := fun st => (dcompL g t fk fv xs [] (wipeE ρ vs) st).noX.bind fun kds => M.ret (.dic kds)
theorem eDComp_eq (vs : List Nat) (src : Env → M (List D)) (g : GM) (t : Env → M Bool) (fk fv : Env → M D) : eDComp vs src g t fk fv ρ st = (src ρ st).bind (dcompK vs g t fk fv ρ) := by
  show ((src ρ st).bind fun xs st => (dcompL g t fk fv xs [] (wipeE ρ vs) st).noX).bind (fun kds => M.ret (D.dic kds)) = _
  cases src ρ st <;> rfl
def dcompTK (vs : List Nat) (g : GM) (t : Env → M Bool) (fk fv : Env → M D) (ρ : Env) (xs : List D) : M D := fun st => (dcompT g t fk fv xs [] (wipeE ρ vs) st).noX.bind fun kds => M.ret (.dit kds)
theorem eDCompT_eq (vs : List Nat) (src : Env → M (List D)) (g : GM) (t : Env → M Bool) (fk fv : Env → M D) : eDCompT vs src g t fk fv ρ st = (src ρ st).bind (dcompTK vs g t fk fv ρ) := by
  show ((src ρ st).bind fun xs st => (dcompT g t fk fv xs [] (wipeE ρ vs) st).noX).bind (fun kds => M.ret (D.dit kds)) = _
  cases src ρ st <;> rfl
theorem dcompK_pure {vs : List Nat} {g : GM} {fk fv : Env → M D} (kk vv : D → D) {xs : List D} (h : ∀ x ∈ xs, ∃ ρ1, g x (wipeE ρ vs) = some ρ1 ∧ fk ρ1 st = .ok (kk x) st ∧ fv ρ1 st = .ok (vv x) st ∧ (kD (kk x)).isSome = true) (hn : (xs.map fun x => kD (kk x)).Nodup) (hl : xs.length ≤ 16777216) :
    dcompK vs g tYesM fk fv ρ xs st = .ok (.dic (xs.map fun x => (kk x, vv x))) st := by
  unfold dcompK
  rw [dcompL_pure kk vv xs [] h (fun _ _ p hp => nomatch hp) hn (by simpa using hl)]
  rfl
theorem dcompTK_pure {vs : List Nat} {g : GM} {fk fv : Env → M D} (kk : D → D) {xs : List D} (h : ∀ x ∈ xs, ∃ ρ1, g x (wipeE ρ vs) = some ρ1 ∧ fk ρ1 st = .ok (kk x) st ∧ fv ρ1 st = .ok (.bool true) st ∧ (tkD (kk x)).isSome = true) (hl : xs.length ≤ 16777216) :
    dcompTK vs g tYesM fk fv ρ xs st = .ok (.dit (foldT (xs.map kk))) st := by
  unfold dcompTK
  rw [dcompT_pure kk xs [] h (by simpa using hl)]
  rfl
/-- d.get -/
theorem getP_dic {kds : List (D × D)} {y z : D} (h : (kD y).isSome = true) : getP (.dic kds) y z st = some ((dGet kds y).getD z) := by
  show (if _ then _ else _) = _
  rw [if_pos h]
theorem dicS_dic (kds : List (D × D)) : dicS (.dic kds) st = some kds := rfl
theorem dGet_str (kds : List (D × D)) (s : Str) : dGet kds (.str s) = (kds.find? fun p => decide (kD p.1 = some (.inr s))).map (·.2) := rfl
/-! ### comprehensions of two clauses -/
def comp2K (vs vs1 : List Nat) (g : GM) (t : Env → M Bool) (src1 : Env → M (List D)) (g1 : GM) (t1 : Env → M Bool) (e : Env → M D) (ρ : Env) (xs : List D) : M (List D) := fun st => (comp2L g t src1 g1 t1 e vs1 xs [] (wipeE ρ vs) st).noX
theorem fComp2_eq (vs vs1 : List Nat) (src : Env → M (List D)) (g : GM) (t : Env → M Bool) (src1 : Env → M (List D)) (g1 : GM) (t1 : Env → M Bool) (e : Env → M D) : fComp2 vs vs1 src g t src1 g1 t1 e ρ st = (src ρ st).bind (comp2K vs vs1 g t src1 g1 t1 e ρ) := rfl
theorem comp2L_pure {g g1 : GM} {src1 : Env → M (List D)} {el : Env → M D} {vs1 : List Nat} (ss : D → List D) (ff : D → D → D) : ∀ (xs acc : List D) (ρ : Env), (∀ x ∈ xs, ∃ ρ1, g x ρ = some ρ1 ∧ src1 ρ1 st = .ok (ss x) st ∧ ∀ y ∈ ss x, ∃ ρ2, g1 y (wipeE ρ1 vs1) = some ρ2 ∧ el ρ2 st = .ok (ff x y) st) → acc.length + (xs.flatMap ss).length ≤ 16777216 →
    comp2L g tYesM src1 g1 tYesM el vs1 xs acc ρ st = .ok (acc ++ xs.flatMap fun x => (ss x).map (ff x)) st
  | [], acc, ρ, _, _ => by
    rw [List.flatMap_nil, List.append_nil]; rfl
  | x :: xs, acc, ρ, h, hl => by
    obtain ⟨ρ1, h1, h2, h3⟩ := h x List.mem_cons_self
    rw [List.flatMap_cons, List.length_append] at hl
    unfold comp2L
    simp only [h1, tYesM_eq, R.bind_ok, if_true, mbind_eq, h2]
    rw [compL_pure (fun _ => true) (ff x) (ss x) acc (wipeE ρ1 vs1) (fun y hy => by
      obtain ⟨ρ2, e1, e2⟩ := h3 y hy
      exact ⟨ρ2, e1, rfl, fun _ => e2⟩) (by omega)]
    rw [R.bind_ok, List.filter_eq_self.mpr fun _ _ => rfl, comp2L_pure ss ff xs _ ρ (fun y hy => h y (List.mem_cons_of_mem _ hy)) (by rw [List.length_append, List.length_map]; omega), List.flatMap_cons, List.append_assoc]
theorem comp2K_pure {vs vs1 : List Nat} {g g1 : GM} {src1 : Env → M (List D)} {el : Env → M D} (ss : D → List D) (ff : D → D → D) {xs : List D} (h : ∀ x ∈ xs, ∃ ρ1, g x (wipeE ρ vs) = some ρ1 ∧ src1 ρ1 st = .ok (ss x) st ∧ ∀ y ∈ ss x, ∃ ρ2, g1 y (wipeE ρ1 vs1) = some ρ2 ∧ el ρ2 st = .ok (ff x y) st) (hl : (xs.flatMap ss).length ≤ 16777216) :
    comp2K vs vs1 g tYesM src1 g1 tYesM el ρ xs st = .ok (xs.flatMap fun x => (ss x).map (ff x)) st := by
  unfold comp2K
  rw [comp2L_pure ss ff xs [] _ h (by simpa using hl)]
  rfl
/-! ### sorted(set(..)) of texts -/
theorem ksD_str : ∀ xs : List Str, ksD (xs.map .str) = some (xs.map .inr)
  | [] => rfl
  | x :: xs => by
    rw [List.map_cons, ksD, ksD_str xs]
    rfl
theorem oneB_str {ks : List Key} (h : ∀ k ∈ ks, ∃ x, k = .inr x) : oneB ks = true := by
  cases ks with
  | nil => rfl
  | cons k ks =>
    obtain ⟨x, rfl⟩ := h k List.mem_cons_self
    show List.all _ _ = true
    refine List.all_eq_true.mpr fun l hl => ?_
    obtain ⟨y, rfl⟩ := h l (List.mem_cons_of_mem _ hl)
    exact decide_eq_true rfl
theorem fSortSet_eq (f : Env → M D) : fSortSet f ρ st = (f ρ st).bind fun d => M.look (sortSetP d) := rfl
theorem sortSetP_str {xs : List Str} (hl : xs.length + 1 < 4096) : sortSetP (.lst (xs.map .str)) st = some (sortD ((ddK [] (xs.map .inr)).map dK)) := by
  have e : setKs (.lst (xs.map .str)) st = some (ddK [] (xs.map .inr)) := by
    unfold setKs
    show (some (xs.map D.str)).bind _ = _
    rw [Option.bind_some, ksD_str, Option.bind_some]
    have : (xs.map Sum.inr : List Key).length + 1 < scanBound := by
      rw [List.length_map]
      have : (4096 : Nat) ≤ scanBound := by decide
      omega
    rw [if_pos this]
  unfold sortSetP
  rw [e, Option.bind_some, if_pos (oneB_str fun k hk => by
    rcases ddK_mem.mp hk with h | h
    · cases h
    · obtain ⟨x, _, rfl⟩ := List.mem_map.mp h
      exact ⟨x, rfl⟩)]
/-! ### the pen -/
def setIxM (d o k : D) : M Unit := fun st => match o, k with
  | .loc l, .int k => match st[l]? with
    | some (.lst xs) => match ixN xs.length k with
      | some j => .ok () (st.set l (.lst (xs.set j d)))
      | none => .stuck
    | _ => .stuck
  | _, _ => .stuck
theorem sSetIx_eq (fo fi fv : Env → M D) : sSetIx fo fi fv ρ st = ((fv ρ st).bind fun d => M.bind (fo ρ) fun o => M.bind (fi ρ) (setIxM d o)).then ρ fun _ st => .next ρ st := by
  unfold sSetIx
  congr 1
def penO (cells : List Int) (a r : Int) : O := .lst [.lst (cells.map .int), .int a, .int r]
theorem pen_ix {a b c : D} {rest : Store} (i : Int) : ixP (.loc 0) (.int i) (.lst [a, b, c] :: rest) = atI [a, b, c] i := rfl
theorem pen_set1 {a b c d : D} {rest : Store} : setIxM d (.loc 0) (.int 1) (.lst [a, b, c] :: rest) = .ok () (.lst [a, d, c] :: rest) := rfl
theorem pen_set2 {a b c d : D} {rest : Store} : setIxM d (.loc 0) (.int 2) (.lst [a, b, c] :: rest) = .ok () (.lst [a, b, d] :: rest) := rfl
/-- a pen with which no more than so many cells were begun -/
def Pen (n : Nat) (o : O) : Prop := ∃ cells a r, o = penO cells a r ∧ 0 ≤ a ∧ a ≤ n ∧ cells.length ≤ 63
theorem Pen.up {n m : Nat} {o : O} (h : Pen n o) (l : n ≤ m) : Pen m o := by
  obtain ⟨c, a, r, e, h1, h2, h3⟩ := h
  exact ⟨c, a, r, e, h1, by omega, h3⟩
theorem lstS_lst (xs : List D) : lstS (.lst xs) st = some xs := rfl
def locK (xs : List D) : M D := fun st => .ok (.loc st.length) (st ++ [.lst xs])
theorem eLoc_eqK (f : Env → M (List D)) : eLoc f ρ st = (f ρ st).bind locK := rfl
theorem locK_eq (xs : List D) : locK xs st = .ok (.loc st.length) (st ++ [.lst xs]) := rfl
theorem bOfB_eq (ms : List Bool) (n : Nat) (f : SM) (ds : List D) : bOfB ms n f ds st = (f (slotsB ms ds ++ List.replicate (n - ms.length) .none) st).out := rfl
theorem slotsB_t (ms : List Bool) (xs : List D) (ds : List D) : slotsB (true :: ms) (.lst xs :: ds) = .bor xs :: slotsB ms ds := rfl
theorem slotsB_f (ms : List Bool) (d : D) (ds : List D) : slotsB (false :: ms) (d :: ds) = .val d :: slotsB ms ds := rfl
theorem slotsB_n : slotsB [] [] = [] := rfl
theorem perm_erase {α : Type} (xs ys : List α) (k : Nat) (h : k < xs.length) : (xs.eraseIdx k ++ (ys ++ [xs[k]])).Perm (xs ++ ys) := by
  have e : xs.Perm (xs[k] :: xs.eraseIdx k) := by
    clear ys
    induction xs generalizing k with
    | nil => simp at h
    | cons x xs ih =>
      cases k with
      | zero => simp
      | succ k =>
        have hk : k < xs.length := by simpa using h
        rw [List.eraseIdx_cons_succ, List.getElem_cons_succ]
        exact ((ih k hk).cons x).trans (List.Perm.swap _ _ _)
  have e2 : (xs.eraseIdx k ++ (ys ++ [xs[k]])).Perm ((xs[k] :: xs.eraseIdx k) ++ ys) := by
    rw [List.cons_append, ← List.append_assoc]
    exact List.perm_append_comm
  exact e2.trans (e.symm.append_right ys)
end
end DL
end
section
open PySem PySem.Spec PyProof.Rows L2 DL
local macro_rules | `(tactic| walk_at "ev") => `(tactic| simp only [mbind_eq, mret_eq, mlook_eq, lookR_some, R.bind_ok, R.then_ok, SR.then_next, SR.then_ret, SR.then_brk, SR.then_cont, noX_ok, slotV_val, slotO_own, slotB_bor, eVar_eq, eOwn_eq, eBor_eq, List.getElem?_cons_zero, List.getElem?_cons_succ, List.set_cons_zero, List.set_cons_succ, eConst_eq, e1_eq, e2_eq, eNilA_eq, eConsA_eq, eTup_eq, fLst_eq, tupR_eq, lstR_eq, List.length_cons, List.length_nil, Nat.reduceAdd, Nat.reduceLeDiff, eFrz_eq, tTru_eq, toB_bool, tOfB_eq, mAnd_eq, mOr_eq, mAndK_t, mAndK_f, mOrK_f, mOrK_t, mNot_eq, Bool.not_true, Bool.not_false, eAnd_eq, eOr_eq, eNot_eq, eIf_eq, eAndK_t, eAndK_f, eOrK_t, eOrK_f, eNotK_eq, eIfK_t, eIfK_f, eC1_eq, eC2_eq, eN_eq, fN_eq, eChain_eq, chainK_t, chainK_f, eCall_eq, tYesM_eq, oNone_eq, oK_eq, oSome_eq, fSlL_eq, eSlT_eq, slTK_eq, fCat_eq, eMakeR_eq, fSeq_eq, fRng1_eq, fRng2_eq, fZip_eq, seqOf_lst, seqOf_tup, zipD_tup, zipD_lst, fComp_eq, sNext_eq, sSeq_eq, sBrk_eq, sCont_eq, sRet_eq, sRetN_eq, sExpr_eq, sIf_eq, sIfK_t, sIfK_f, asgR_some, asgK_eq, sAsg_eq, gVar_eq, gTupM_eq, gsCons_eq, gsNil_eq, ownK_eq, sOwn_eq, sFrz_eq, frzR_eq, forK_eq, sFor_eq, sWhile_eq, bOf_eq, out_next, out_ret, oVal_eq, oOwn_eq, osNil_eq, osCons_eq, sPar_eq, parK_1, parK_2, parK_3, parK_4, sExprX_eq, atI_0, atI_1, atI_2, atI_3, ixP_tup, ixP_lst, tru_bool, tru_tup, tru_lst, tru_int, tru_non, List.isEmpty_nil, List.isEmpty_cons, lenP_tup, lenP_lst, leP_int, ltP_int, gtP_int, geP_int, addP_int, addI_int, subI_int, negP_int, intP_int, intP_bool, boolP_int, boolP_bool, absP_int, tupP_lst, tupP_tup, lstP_lst, lstP_tup, isBP_bool, notBP_bool, allP_map, anyP_map, Option.map_some, Option.bind_some, List.map_cons, List.map_nil, List.cons_append, List.nil_append, Nat.reduceSub, List.reduceReplicate, wipeE, List.filter_nil, isB_int_int, isB_int_bool, isB_int_str, isB_int_non, isB_int_tup, isB_int_lst, isB_bool_int, isB_bool_bool, isB_bool_str, isB_bool_non, isB_bool_tup, isB_bool_lst, isB_str_int, isB_str_bool, isB_str_str, isB_str_non, isB_str_tup, isB_str_lst, isB_tup_int, isB_tup_bool, isB_tup_str, isB_tup_non, isB_tup_tup, isB_tup_lst, isBs_lt_int, isBs_lt_bool, isBs_lt_str, isBs_lt_non, isBs_lt_tup, isBs_lt_lst, isC_int, isC_bool, isC_str, isC_non, isC_tup, isC_lst, eqP_int, neP_int, eqP_str, neP_str, eqP_bool, neP_bool, lenDP_dit, lenDP_dic, inDP_dit, notInDP_dit, eDComp_eq, eDCompT_eq, fComp2_eq, fSortSet_eq, dicS_dic, eGet1_eq, eMeth_eq, sSetFld_eq, Int.reduceEq, Int.reduceLT, Int.reduceLE, Int.reduceAdd, Int.reduceSub, Int.reduceNeg, Int.reduceToNat, Int.reducePow, decide_true, decide_false, Bool.true_and, Bool.false_and, Int.cast_ofNat_Int, all_tt, DL.atI_last, supK_eq, sSetIx_eq, pen_ix, pen_set1, pen_set2, bOfB_eq, slotsB_t, slotsB_f, slotsB_n, lstS_lst, eLoc_eqK, locK_eq])
local macro_rules | `(tactic| walk_at "ew") => `(tactic| simp only [mbind_eq, mret_eq, mlook_eq, lookR_some, R.bind_ok, R.then_ok, SR.then_next, SR.then_ret, SR.then_brk, SR.then_cont, noX_ok, slotV_val, slotO_own, slotB_bor, eVar_eq, eOwn_eq, eBor_eq, List.getElem?_cons_zero, List.getElem?_cons_succ, List.set_cons_zero, List.set_cons_succ, eConst_eq, e1_eq, e2_eq, eNilA_eq, eConsA_eq, eTup_eq, fLst_eq, tupR_eq, lstR_eq, List.length_cons, List.length_nil, Nat.reduceAdd, Nat.reduceLeDiff, eFrz_eq, tTru_eq, toB_bool, tOfB_eq, mAnd_eq, mOr_eq, mAndK_t, mAndK_f, mOrK_f, mOrK_t, mNot_eq, Bool.not_true, Bool.not_false, eAnd_eq, eOr_eq, eNot_eq, eIf_eq, eAndK_t, eAndK_f, eOrK_t, eOrK_f, eNotK_eq, eIfK_t, eIfK_f, eC1_eq, eC2_eq, eN_eq, fN_eq, eChain_eq, chainK_t, chainK_f, eCall_eq, tYesM_eq, oNone_eq, oK_eq, oSome_eq, fSlL_eq, eSlT_eq, slTK_eq, fCat_eq, eMakeR_eq, fSeq_eq, fRng1_eq, fRng2_eq, fZip_eq, seqOf_lst, seqOf_tup, zipD_tup, zipD_lst, fComp_eq, sNext_eq, sSeq_eq, sBrk_eq, sCont_eq, sRet_eq, sRetN_eq, sExpr_eq, sIf_eq, sIfK_t, sIfK_f, asgR_some, asgK_eq, sAsg_eq, gVar_eq, gTupM_eq, gsCons_eq, gsNil_eq, ownK_eq, sOwn_eq, sFrz_eq, frzR_eq, forK_eq, sFor_eq, sWhile_eq, bOf_eq, out_next, out_ret, oVal_eq, oOwn_eq, osNil_eq, osCons_eq, sPar_eq, parK_1, parK_2, parK_3, parK_4, sExprX_eq, atI_0, atI_1, atI_2, atI_3, ixP_tup, ixP_lst, tru_bool, tru_tup, tru_lst, tru_int, tru_non, List.isEmpty_nil, List.isEmpty_cons, lenP_tup, lenP_lst, leP_int, ltP_int, gtP_int, geP_int, addP_int, addI_int, subI_int, negP_int, intP_int, intP_bool, boolP_int, boolP_bool, absP_int, tupP_lst, tupP_tup, lstP_lst, lstP_tup, isBP_bool, notBP_bool, allP_map, anyP_map, Option.map_some, Option.bind_some, List.map_cons, List.map_nil, List.cons_append, List.nil_append, Nat.reduceSub, List.reduceReplicate, wipeE, List.filter_nil, isB_int_int, isB_int_bool, isB_int_str, isB_int_non, isB_int_tup, isB_int_lst, isB_bool_int, isB_bool_bool, isB_bool_str, isB_bool_non, isB_bool_tup, isB_bool_lst, isB_str_int, isB_str_bool, isB_str_str, isB_str_non, isB_str_tup, isB_str_lst, isB_tup_int, isB_tup_bool, isB_tup_str, isB_tup_non, isB_tup_tup, isB_tup_lst, isBs_lt_int, isBs_lt_bool, isBs_lt_str, isBs_lt_non, isBs_lt_tup, isBs_lt_lst, isC_int, isC_bool, isC_str, isC_non, isC_tup, isC_lst, eqP_int, neP_int, eqP_str, neP_str, eqP_bool, neP_bool, lenDP_dit, lenDP_dic, inDP_dit, notInDP_dit, eDComp_eq, eDCompT_eq, fComp2_eq, fSortSet_eq, dicS_dic, eGet1_eq, eMeth_eq, sSetFld_eq, Int.reduceEq, Int.reduceLT, Int.reduceLE, Int.reduceAdd, Int.reduceSub, Int.reduceNeg, Int.reduceToNat, Int.reducePow, decide_true, decide_false, Bool.true_and, Bool.false_and, Int.cast_ofNat_Int, all_tt, DL.atI_last, supK_eq, sSetIx_eq, pen_ix, pen_set1, pen_set2, bOfB_eq, slotsB_t, slotsB_f, slotsB_n, lstS_lst, eLoc_eqK, locK_eq, wp_ok, wp_next, wp_ret, wp_brk, wp_cont, Bool.false_eq_true, if_false, if_true])
section
open PySem PySem.Spec PyProof.Rows L2 DL
namespace Law_k63
def top (i : Nat) : Stmt := PySem.Challenge.pw_whoeversends_k63_papers_on_rows_bent.main.body.getD i (.Pass ⟨0, 0, 0, 0⟩)
abbrev s_is_integer : Stmt := top 8
abbrev s_is_within : Stmt := top 9
abbrev s_is_name : Stmt := top 10
abbrev s_is_listed : Stmt := top 11
abbrev s_is_row_of : Stmt := top 12
abbrev s_are_ascending : Stmt := top 13
abbrev s_fixed : Stmt := top 15
abbrev s_Paper_init : Stmt := inClass (top 16) 0
abbrev s_is_bit : Stmt := top 19
abbrev s_is_answer : Stmt := top 23
abbrev s_is_hearer_row : Stmt := top 24
abbrev s_is_table : Stmt := top 25
abbrev s_Hearer_init : Stmt := inClass (top 26) 0
abbrev s_Hearer_answer : Stmt := inClass (top 26) 2
abbrev s_need_hearer : Stmt := top 27
abbrev s_Same_init : Stmt := inClass (top 29) 0
abbrev s_Unlike_init : Stmt := inClass (top 30) 0
abbrev s_sign_of : Stmt := top 31
abbrev s_need_row_of : Stmt := top 32
abbrev s_need_rows_of : Stmt := top 33
abbrev s_is_pair : Stmt := top 35
abbrev s_are_same : Stmt := top 36
abbrev s_is_unlike : Stmt := top 37
abbrev s_shows_same : Stmt := top 38
abbrev s_law_pen : Stmt := top 40
abbrev s_law_draw : Stmt := top 41
abbrev s_law_pick : Stmt := top 42
abbrev s_law_mixed : Stmt := top 43
abbrev s_law_s_hearer : Stmt := top 44
abbrev s_law_s_answer : Stmt := top 45
abbrev s_law_parts : Stmt := top 46
abbrev s_law : Stmt := top 47
def sub (a b : Str) : Bool := decide (a = b) || (decide (a = "Denial") && decide (b = "Paper")) || (decide (a = "Same") && decide (b = "Paper")) || (decide (a = "Unlike") && decide (b = "Denial")) || (decide (a = "Unlike") && decide (b = "Paper"))
/-- is_integer(value) -/
def m_is_integer : SM := (sRet (eAnd (eC1 (isB "int") (eVar 0)) (eNot (eC1 (isB "bool") (eVar 0)))))
def b_is_integer : BM := bOf 1 m_is_integer
/-- is_within(value, least, most) -/
def m_is_within : SM := (sRet (eAnd (eCall b_is_integer (eConsA (eVar 0) eNilA)) (eChain leP leP (eVar 1) (eVar 0) (eVar 2))))
def b_is_within : BM := bOf 3 m_is_within
/-- is_name(value) -/
def m_is_name : SM := (sSeq (sIf (mOr (mNot (tTru (eC1 (isB "str") (eVar 0)))) (mNot (tOfB (eChain leP leP (eConst (.int 1)) (eN lenP (eConsA (eVar 0) eNilA)) (eConst (.int 8)))))) (sRet (eConst (.bool false))) sNext) (sRet (eAnd (eC2 inS (e2 ixP (eVar 0) (eConst (.int 0))) (eConst (.str "abcdefghijklmnopqrstuvwxyz"))) (eN allP (eConsA (eFrz (fComp [1] (fStr (eVar 0)) (gVar 1) tYesM (eOr (eC2 inS (eVar 1) (eConst (.str "abcdefghijklmnopqrstuvwxyz"))) (eC2 inS (eVar 1) (eConst (.str "0123456789")))))) eNilA)))))
def b_is_name : BM := bOf 2 m_is_name
/-- is_listed(value) -/
def m_is_listed : SM := (sRet (eC1 (isBs ["list", "tuple"]) (eVar 0)))
def b_is_listed : BM := bOf 1 m_is_listed
/-- is_row_of(value, many) -/
def m_is_row_of : SM := (sRet (eAnd (eCall b_is_listed (eConsA (eVar 0) eNilA)) (eC2 eqP (eN lenP (eConsA (eVar 0) eNilA)) (eVar 1))))
def b_is_row_of : BM := bOf 2 m_is_row_of
/-- are_ascending(some) -/
def m_are_ascending : SM := (sRet (eN allP (eConsA (eFrz (fComp [1, 2] (fZip (eVar 0) (eFrz (fSlL (eVar 0) (oSome (eConst (.int 1))) oNone))) (gTupM (gsCons (gVar 1) (gsCons (gVar 2) gsNil))) tYesM (eC2 ltP (eVar 1) (eVar 2)))) eNilA)))
def b_are_ascending : BM := bOf 3 m_are_ascending
/-- fixed(value) -/
def m_fixed (self : BM) : SM := (sSeq (sIf (tTru (eC1 (isBs ["list", "tuple"]) (eVar 0))) (sRet (eN tupP (eConsA (eFrz (fComp [1] (fSeq (eVar 0)) (gVar 1) tYesM (eCall self (eConsA (eVar 1) eNilA)))) eNilA))) sNext) (sRet (eVar 0)))
def bn_fixed : Nat → BM
  | 0 => fun _ _ => .stuck
  | n + 1 => bOf 2 (m_fixed (bn_fixed n))
def b_fixed : BM := bn_fixed 12
/-- Paper.__init__(self, word, *parts) -/
def m_Paper_init : SM := (sSeq (sSetFld ["Paper", "Denial", "Same", "Unlike"] "word" (eVar 0) (eVar 1)) (sSetFld ["Paper", "Denial", "Same", "Unlike"] "parts" (eVar 0) (eCall b_fixed (eConsA (eVar 2) eNilA))))
def r_Paper_init : BM := bVar 2 4 3 m_Paper_init
/-- is_bit(value) -/
def m_is_bit : SM := (sRet (eCall b_is_within (eConsA (eVar 0) (eConsA (eConst (.int 0)) (eConsA (eConst (.int 1)) eNilA)))))
def b_is_bit : BM := bOf 1 m_is_bit
/-- is_answer(value, many) -/
def m_is_answer : SM := (sSeq (sIf (mOr (mNot (tTru (eCall b_is_row_of (eConsA (eVar 0) (eConsA (eConst (.int 3)) eNilA))))) (mOr (mNot (tTru (eCall b_is_name (eConsA (e2 ixP (eVar 0) (eConst (.int 0))) eNilA)))) (mNot (tTru (eCall b_is_within (eConsA (e2 ixP (eVar 0) (eConst (.int 2))) (eConsA (eConst (.int 0)) (eConsA (e2 subI (eVar 1) (eConst (.int 1))) eNilA)))))))) (sRet (eConst (.bool false))) sNext) (sRet (eAnd (eCall b_is_listed (eConsA (e2 ixP (eVar 0) (eConst (.int 1))) eNilA)) (eAnd (eC2 leP (eN lenP (eConsA (e2 ixP (eVar 0) (eConst (.int 1))) eNilA)) (eConst (.int 10))) (eN allP (eConsA (eFrz (fComp [2] (fSeq (e2 ixP (eVar 0) (eConst (.int 1)))) (gVar 2) tYesM (eCall b_is_bit (eConsA (eVar 2) eNilA)))) eNilA))))))
def b_is_answer : BM := bOf 3 m_is_answer
/-- is_hearer_row(value, many) -/
def m_is_hearer_row : SM := (sSeq (sIf (mOr (mNot (tTru (eCall b_is_listed (eConsA (eVar 0) eNilA)))) (mNot (tTru (eN allP (eConsA (eFrz (fComp [2] (fSeq (eVar 0)) (gVar 2) tYesM (eCall b_is_answer (eConsA (eVar 2) (eConsA (eVar 1) eNilA))))) eNilA))))) (sRet (eConst (.bool false))) sNext) (sRet (eCall b_are_ascending (eConsA (eFrz (fComp [2] (fSeq (eVar 0)) (gVar 2) tYesM (e2 ixP (eVar 2) (eConst (.int 0))))) eNilA))))
def b_is_hearer_row : BM := bOf 3 m_is_hearer_row
/-- is_table(value) -/
def m_is_table : SM := (sSeq (sIf (mOr (mNot (tTru (eCall b_is_listed (eConsA (eVar 0) eNilA)))) (mNot (tOfB (eChain leP leP (eConst (.int 1)) (eN lenP (eConsA (eVar 0) eNilA)) (eConst (.int 2000)))))) (sRet (eConst (.bool false))) sNext) (sRet (eN allP (eConsA (eFrz (fComp [1] (fSeq (eVar 0)) (gVar 1) tYesM (eCall b_is_hearer_row (eConsA (eVar 1) (eConsA (eN lenP (eConsA (eVar 0) eNilA)) eNilA))))) eNilA))))
def b_is_table : BM := bOf 2 m_is_table
/-- Hearer.__init__(self, rows) -/
def m_Hearer_init : SM := (sSeq (sIf (mNot (tTru (eCall b_is_table (eConsA (eVar 1) eNilA)))) sStuck sNext) (sSeq (sSetFld ["Hearer"] "rows" (eVar 0) (eCall b_fixed (eConsA (eVar 1) eNilA))) (sSeq (sSetFld ["Hearer"] "heard_letters" (eVar 0) (eN tupP (eConsA (eFrz (fSortSet (eFrz (fComp2 [2, 3, 4, 5] [3, 4, 5] (fSeq (e1 (fldP ["Hearer"] "rows") (eVar 0))) (gVar 2) tYesM (fSeq (eVar 2)) (gTupM (gsCons (gVar 3) (gsCons (gVar 4) (gsCons (gVar 5) gsNil)))) tYesM (eVar 3))))) eNilA))) (sSetFld ["Hearer"] "by_heard" (eVar 0) (eFrz (fComp [2] (fSeq (e1 (fldP ["Hearer"] "rows") (eVar 0))) (gVar 2) tYesM (eDComp [3, 4, 5] (fSeq (eVar 2)) (gTupM (gsCons (gVar 3) (gsCons (gVar 4) (gsCons (gVar 5) gsNil)))) tYesM (eVar 3) (eTup (eConsA (eVar 4) (eConsA (eVar 5) eNilA))))))))))
def b_Hearer_init : BM := bOf 6 m_Hearer_init
def r_Hearer_init : BM := bLen 2 b_Hearer_init
/-- Hearer.answer(self, at, heard) -/
def m_Hearer_answer : SM := (sRet (eGet1 (e2 ixP (e1 (fldP ["Hearer"] "by_heard") (eVar 0)) (eVar 1)) (eVar 2)))
def b_Hearer_answer : BM := bOf 3 m_Hearer_answer
/-- need_hearer(value) -/
def m_need_hearer : SM := (sIf (mNot (tTru (eC1 (isC sub "Hearer") (eVar 0)))) sStuck sNext)
def b_need_hearer : BM := bOf 1 m_need_hearer
/-- Same.__init__(self, pairs) -/
def m_Same_init : SM := (sSetFld ["Same"] "pairs" (eVar 0) (e2 ixP (e1 (fldP ["Paper", "Denial", "Same", "Unlike"] "parts") (eVar 0)) (eConst (.int 0))))
def b_Same_init : BM := bSup ["Same"] 2 r_Paper_init (eConsA (eConst (.str "same")) (eConsA (eVar 1) eNilA)) m_Same_init
def r_Same_init : BM := bLen 2 b_Same_init
/-- Unlike.__init__(self, heard) -/
def m_Unlike_init : SM := (sSetFld ["Unlike"] "heard" (eVar 0) (e2 ixP (e1 (fldP ["Paper", "Denial", "Same", "Unlike"] "parts") (eVar 0)) (eConst (.int 0))))
def b_Unlike_init : BM := bSup ["Unlike"] 2 r_Paper_init (eConsA (eConst (.str "unlike")) (eConsA (eVar 1) eNilA)) m_Unlike_init
def r_Unlike_init : BM := bLen 2 b_Unlike_init
/-- sign_of(row) -/
def m_sign_of : SM := (sRet (eN tupP (eConsA (eFrz (fComp [1, 2, 3] (fSeq (eVar 0)) (gTupM (gsCons (gVar 1) (gsCons (gVar 2) (gsCons (gVar 3) gsNil)))) tYesM (eTup (eConsA (eVar 1) (eConsA (eVar 2) eNilA))))) eNilA)))
def b_sign_of : BM := bOf 4 m_sign_of
/-- need_row_of(hearer, at, part) -/
def m_need_row_of : SM := (sIf (mNot (tTru (eCall b_is_within (eConsA (eVar 1) (eConsA (eConst (.int 0)) (eConsA (e2 subI (eN lenP (eConsA (e1 (fldP ["Hearer"] "rows") (eVar 0)) eNilA)) (eConst (.int 1))) eNilA)))))) sStuck sNext)
def b_need_row_of : BM := bOf 3 m_need_row_of
/-- need_rows_of(one, at, other, to) -/
def m_need_rows_of : SM := (sSeq (sExpr (eCall b_need_hearer (eConsA (eVar 0) eNilA))) (sSeq (sExpr (eCall b_need_row_of (eConsA (eVar 0) (eConsA (eVar 1) (eConsA (eConst (.str "at")) eNilA))))) (sSeq (sExpr (eCall b_need_hearer (eConsA (eVar 2) eNilA))) (sExpr (eCall b_need_row_of (eConsA (eVar 2) (eConsA (eVar 3) (eConsA (eConst (.str "to")) eNilA))))))))
def b_need_rows_of : BM := bOf 4 m_need_rows_of
/-- is_pair(one, other, value) -/
def m_is_pair : SM := (sSeq (sIf (mOr (mNot (tTru (eC1 (isB "tuple") (eVar 2)))) (tOfB (eC2 neP (eN lenP (eConsA (eVar 2) eNilA)) (eConst (.int 2))))) (sRet (eConst (.bool false))) sNext) (sRet (eAnd (eCall b_is_within (eConsA (e2 ixP (eVar 2) (eConst (.int 0))) (eConsA (eConst (.int 0)) (eConsA (e2 subI (eN lenP (eConsA (e1 (fldP ["Hearer"] "rows") (eVar 0)) eNilA)) (eConst (.int 1))) eNilA)))) (eCall b_is_within (eConsA (e2 ixP (eVar 2) (eConst (.int 1))) (eConsA (eConst (.int 0)) (eConsA (e2 subI (eN lenP (eConsA (e1 (fldP ["Hearer"] "rows") (eVar 1)) eNilA)) (eConst (.int 1))) eNilA)))))))
def b_is_pair : BM := bOf 3 m_is_pair
/-- are_same(one, at, other, to, pairs) -/
def m_are_same : SM := (sSeq (sIf (mOr (mNot (tTru (eC1 (isB "tuple") (eVar 4)))) (mNot (tTru (eN allP (eConsA (eFrz (fComp [8] (fSeq (eVar 4)) (gVar 8) tYesM (eCall b_is_pair (eConsA (eVar 0) (eConsA (eVar 2) (eConsA (eVar 8) eNilA)))))) eNilA))))) (sRet (eConst (.bool false))) sNext) (sSeq (sAsg (eDCompT [8] (fSeq (eVar 4)) (gVar 8) tYesM (eVar 8) (eConst (.bool true))) (gVar 5)) (sSeq (sIf (mOr (tOfB (eC2 notInDP (eTup (eConsA (eVar 1) (eConsA (eVar 3) eNilA))) (eVar 5))) (tOfB (eC2 neP (eN lenDP (eConsA (eVar 5) eNilA)) (eN lenP (eConsA (eVar 4) eNilA))))) (sRet (eConst (.bool false))) sNext) (sSeq (sFor (fSeq (eVar 4)) (gTupM (gsCons (gVar 6) (gsCons (gVar 7) gsNil))) (sSeq (sPar [9, 10] (osCons (oVal (e2 ixP (e1 (fldP ["Hearer"] "rows") (eVar 0)) (eVar 6))) (osCons (oVal (e2 ixP (e1 (fldP ["Hearer"] "rows") (eVar 2)) (eVar 7))) osNil))) (sSeq (sIf (tOfB (eC2 neP (eCall b_sign_of (eConsA (eVar 9) eNilA)) (eCall b_sign_of (eConsA (eVar 10) eNilA)))) (sRet (eConst (.bool false))) sNext) (sIf (mNot (tTru (eN allP (eConsA (eFrz (fComp [11, 12] (fZip (eVar 9) (eVar 10)) (gTupM (gsCons (gVar 11) (gsCons (gVar 12) gsNil))) tYesM (eC2 inDP (eTup (eConsA (e2 ixP (eVar 11) (eConst (.int 2))) (eConsA (e2 ixP (eVar 12) (eConst (.int 2))) eNilA))) (eVar 5)))) eNilA)))) (sRet (eConst (.bool false))) sNext)))) (sRet (eConst (.bool true)))))))
def b_are_same : BM := bOf 13 m_are_same
/-- is_unlike(one, at, other, to, heard) -/
def m_is_unlike : SM := (sSeq (sIf (mOr (mNot (tTru (eC1 (isB "tuple") (eVar 4)))) (mOr (tOfB (eC2 eqP (eN lenP (eConsA (eVar 4) eNilA)) (eConst (.int 0)))) (mNot (tTru (eN allP (eConsA (eFrz (fComp [5] (fSeq (eVar 4)) (gVar 5) tYesM (eCall b_is_name (eConsA (eVar 5) eNilA)))) eNilA)))))) (sRet (eConst (.bool false))) sNext) (sSeq (sFor (fSeq (eSlT (eVar 4) oNone (oSome (e1 negP (eConst (.int 1)))))) (gVar 5) (sSeq (sPar [6, 7] (osCons (oVal (eMeth "Hearer" "answer" b_Hearer_answer (eVar 0) (eConsA (eVar 1) (eConsA (eVar 5) eNilA)))) (osCons (oVal (eMeth "Hearer" "answer" b_Hearer_answer (eVar 2) (eConsA (eVar 3) (eConsA (eVar 5) eNilA)))) osNil))) (sSeq (sIf (mOr (tOfB (eC1 (fun d _ => some (isNone d)) (eVar 6))) (tOfB (eC1 (fun d _ => some (isNone d)) (eVar 7)))) (sRet (eConst (.bool false))) sNext) (sPar [1, 3] (osCons (oVal (e2 ixP (eVar 6) (eConst (.int 1)))) (osCons (oVal (e2 ixP (eVar 7) (eConst (.int 1)))) osNil)))))) (sSeq (sPar [6, 7] (osCons (oVal (eMeth "Hearer" "answer" b_Hearer_answer (eVar 0) (eConsA (eVar 1) (eConsA (e2 ixP (eVar 4) (e1 negP (eConst (.int 1)))) eNilA)))) (osCons (oVal (eMeth "Hearer" "answer" b_Hearer_answer (eVar 2) (eConsA (eVar 3) (eConsA (e2 ixP (eVar 4) (e1 negP (eConst (.int 1)))) eNilA)))) osNil))) (sSeq (sIf (mOr (tOfB (eC1 (fun d _ => some (isNone d)) (eVar 6))) (tOfB (eC1 (fun d _ => some (isNone d)) (eVar 7)))) (sRet (eC2 neP (eC1 (fun d _ => some (isNone d)) (eVar 6)) (eC1 (fun d _ => some (isNone d)) (eVar 7)))) sNext) (sRet (eC2 neP (e2 ixP (eVar 6) (eConst (.int 0))) (e2 ixP (eVar 7) (eConst (.int 0)))))))))
def b_is_unlike : BM := bOf 8 m_is_unlike
/-- shows_same(one, at, other, to, value) -/
def m_shows_same : SM := (sSeq (sExpr (eCall b_need_rows_of (eConsA (eVar 0) (eConsA (eVar 1) (eConsA (eVar 2) (eConsA (eVar 3) eNilA)))))) (sSeq (sIf (tTru (eC1 (isC sub "Same") (eVar 4))) (sRet (eCall b_are_same (eConsA (eVar 0) (eConsA (eVar 1) (eConsA (eVar 2) (eConsA (eVar 3) (eConsA (e1 (fldP ["Same"] "pairs") (eVar 4)) eNilA))))))) sNext) (sRet (eAnd (eC1 (isC sub "Unlike") (eVar 4)) (eCall b_is_unlike (eConsA (eVar 0) (eConsA (eVar 1) (eConsA (eVar 2) (eConsA (eVar 3) (eConsA (e1 (fldP ["Unlike"] "heard") (eVar 4)) eNilA))))))))))
def b_shows_same : BM := bOf 5 m_shows_same
/-- _law_pen(script) -/
def m_law_pen : SM := (sRet (eLoc (fLst (eConsA (eFrz (fComp [1] (fSlL (eVar 0) oNone (oSome (eConst (.int 63)))) (gVar 1) tYesM (eN intP (eConsA (eVar 1) eNilA)))) (eConsA (eConst (.int 0)) (eConsA (eConst (.int 0)) eNilA))))))
def b_law_pen : BM := bOf 2 m_law_pen
/-- _law_draw(pen, many) -/
def m_law_draw : SM := (sSeq (sIf (tOfB (eC2 gtP (e2 ixP (eVar 0) (eConst (.int 2))) (eConst (.int 0)))) (sSeq (sAsg (eN intP (eConsA (e2 ixP (eVar 0) (eConst (.int 2))) eNilA)) (gVar 5)) (sSeq (sSetIx (eVar 0) (eConst (.int 2)) (e2 divI (eVar 5) (eVar 1))) (sRet (e2 modI (eN intP (eConsA (eVar 5) eNilA)) (eVar 1))))) sNext) (sSeq (sAsg (e2 ixP (eVar 0) (eConst (.int 1))) (gVar 2)) (sSeq (sSetIx (eVar 0) (eConst (.int 1)) (e2 addP (eVar 2) (eConst (.int 1)))) (sSeq (sAsg (e2 addP (e2 mulI (eConst (.int 73153)) (eVar 2)) (eConst (.int 10639))) (gVar 3)) (sSeq (sIf (tOfB (eC2 neP (e2 ixP (eVar 0) (eConst (.int 0))) (eFrz (fLst eNilA)))) (sAsg (e2 ixP (e2 ixP (eVar 0) (eConst (.int 0))) (e2 modI (eN intP (eConsA (eVar 2) eNilA)) (eN lenP (eConsA (e2 ixP (eVar 0) (eConst (.int 0))) eNilA)))) (gVar 3)) sNext) (sSeq (sIf (mAnd (tOfB (eC2 ltP (eVar 2) (eN lenP (eConsA (e2 ixP (eVar 0) (eConst (.int 0))) eNilA)))) (tOfB (eC2 geP (eN absP (eConsA (eVar 3) eNilA)) (e2 powI (eConst (.int 10)) (eConst (.int 18)))))) (sSeq (sAsg (e2 addP (e2 mulI (eConst (.int 2)) (e2 subI (eN absP (eConsA (eVar 3) eNilA)) (e2 powI (eConst (.int 10)) (eConst (.int 18))))) (eN intP (eConsA (eC2 ltP (eVar 3) (eConst (.int 0))) eNilA))) (gVar 5)) (sSeq (sSetIx (eVar 0) (eConst (.int 2)) (e2 divI (eN intP (eConsA (eVar 5) eNilA)) (eVar 1))) (sRet (e2 modI (eN intP (eConsA (eVar 5) eNilA)) (eVar 1))))) sNext) (sSeq (sAsg (e2 modI (eN intP (eConsA (e2 powI (e2 addP (e2 addP (e2 modI (eN intP (eConsA (eVar 3) eNilA)) (eConst (.int 2147483579))) (e2 mulI (eConst (.int 36667)) (eVar 2))) (eConst (.int 7487))) (eConst (.int 5))) eNilA)) (eConst (.int 2147483587))) (gVar 4)) (sSeq (sAsg (e2 modI (eN intP (eConsA (e2 powI (e2 addP (e2 addP (e2 mulI (eVar 4) (e2 addP (e2 mulI (eConst (.int 2)) (eVar 2)) (eConst (.int 7487)))) (e2 mulI (e2 mulI (eConst (.int 36667)) (eVar 2)) (eVar 2))) (eConst (.int 73153))) (eConst (.int 3))) eNilA)) (eConst (.int 2147483563))) (gVar 4)) (sRet (e2 modI (eN intP (eConsA (e2 divI (eVar 4) (eConst (.int 64))) eNilA)) (eVar 1)))))))))))
def b_law_draw : BM := bOf 6 m_law_draw
/-- _law_pick(pen, some) -/
def m_law_pick : SM := (sRet (e2 ixP (eVar 1) (eCall b_law_draw (eConsA (eVar 0) (eConsA (eN lenP (eConsA (eVar 1) eNilA)) eNilA)))))
def b_law_pick : BM := bOf 2 m_law_pick
/-- _law_pick@b(pen, some) -/
def m_law_pick_b : SM := (sRet (e2 ixP (eBor 1) (eCall b_law_draw (eConsA (eVar 0) (eConsA (eN lenP (eConsA (eBor 1) eNilA)) eNilA)))))
def b_law_pick_b : BM := bOfB [false, true] 2 m_law_pick_b
/-- _law_mixed(pen, some) -/
def m_law_mixed : SM := (sSeq (sPar [2, 3] (osCons (oOwn (fN lstP (eConsA (eVar 1) eNilA))) (osCons (oOwn (fLst eNilA)) osNil))) (sSeq (sWhile 100000 (tOfB (eC2 neP (eOwn 2) (eFrz (fLst eNilA)))) (sAppendX 3 (xPopAt 2 (eCall b_law_draw (eConsA (eVar 0) (eConsA (eN lenP (eConsA (eOwn 2) eNilA)) eNilA)))))) (sFrz 3 (sRet (eVar 3)))))
def b_law_mixed : BM := bOf 4 m_law_mixed
/-- _law_mixed@b(pen, some) -/
def m_law_mixed_b : SM := (sSeq (sPar [2, 3] (osCons (oOwn (fN lstP (eConsA (eBor 1) eNilA))) (osCons (oOwn (fLst eNilA)) osNil))) (sSeq (sWhile 100000 (tOfB (eC2 neP (eOwn 2) (eFrz (fLst eNilA)))) (sAppendX 3 (xPopAt 2 (eCall b_law_draw (eConsA (eVar 0) (eConsA (eN lenP (eConsA (eOwn 2) eNilA)) eNilA)))))) (sFrz 3 (sRet (eVar 3)))))
def b_law_mixed_b : BM := bOfB [false, true] 4 m_law_mixed_b
/-- _law_s_hearer(pen, names, most) -/
def m_law_s_hearer : SM := (sSeq (sPar [4, 5] (osCons (oVal (e2 addP (eConst (.int 1)) (eCall b_law_draw (eConsA (eVar 0) (eConsA (eVar 2) eNilA))))) (osCons (oOwn (fLst eNilA)) osNil))) (sSeq (sFor (fRng1 (eVar 4)) (gVar 3) (sSeq (sOwn 6 (fLst eNilA)) (sSeq (sFor (fN sortP (eConsA (eVar 1) eNilA)) (gVar 7) (sIf (tOfB (eC2 gtP (eCall b_law_draw (eConsA (eVar 0) (eConsA (eConst (.int 8)) eNilA))) (eConst (.int 0)))) (sAppend 6 (eTup (eConsA (eVar 7) (eConsA (eCall b_law_pick (eConsA (eVar 0) (eConsA (eFrz (fLst (eConsA (eTup eNilA) (eConsA (eTup (eConsA (eConst (.int 0)) eNilA)) (eConsA (eTup (eConsA (eConst (.int 1)) eNilA)) (eConsA (eTup (eConsA (eConst (.int 0)) eNilA)) (eConsA (eTup (eConsA (eConst (.int 1)) eNilA)) (eConsA (eTup (eConsA (eConst (.int 1)) (eConsA (eConst (.int 0)) eNilA))) eNilA)))))))) eNilA))) (eConsA (eCall b_law_draw (eConsA (eVar 0) (eConsA (eVar 4) eNilA))) eNilA))))) sNext)) (sAppend 5 (eN tupP (eConsA (eOwn 6) eNilA)))))) (sRet (eN tupP (eConsA (eOwn 5) eNilA)))))
def b_law_s_hearer : BM := bOf 8 m_law_s_hearer
/-- _law_s_answer(hearer, at, heard) -/
def m_law_s_answer : SM := (sSeq (sAsg (eFrz (fComp [4, 5, 6] (fSeq (e2 ixP (eVar 0) (eVar 1))) (gTupM (gsCons (gVar 4) (gsCons (gVar 5) (gsCons (gVar 6) gsNil)))) (tOfB (eC2 eqP (eVar 4) (eVar 2))) (eTup (eConsA (eVar 5) (eConsA (eVar 6) eNilA))))) (gVar 3)) (sRet (eIf (tOfB (eC2 neP (eVar 3) (eFrz (fLst eNilA)))) (eTup (eConsA (eN tupP (eConsA (e2 ixP (e2 ixP (eVar 3) (eConst (.int 0))) (eConst (.int 0))) eNilA)) (eConsA (e2 ixP (e2 ixP (eVar 3) (eConst (.int 0))) (eConst (.int 1))) eNilA))) (eConst .non))))
def b_law_s_answer : BM := bOf 7 m_law_s_answer
/-- _law_parts(one, at, other, to, names) -/
def m_law_parts : SM := (sSeq (sFor (fSlL (eVar 4) oNone (oSome (e1 negP (eConst (.int 1))))) (gVar 5) (sSeq (sPar [6, 7] (osCons (oVal (eCall b_law_s_answer (eConsA (eVar 0) (eConsA (eVar 1) (eConsA (eVar 5) eNilA))))) (osCons (oVal (eCall b_law_s_answer (eConsA (eVar 2) (eConsA (eVar 3) (eConsA (eVar 5) eNilA))))) osNil))) (sSeq (sIf (mOr (tOfB (eC1 (fun d _ => some (isNone d)) (eVar 6))) (tOfB (eC1 (fun d _ => some (isNone d)) (eVar 7)))) (sRet (eConst (.bool false))) sNext) (sPar [1, 3] (osCons (oVal (e2 ixP (eVar 6) (eConst (.int 1)))) (osCons (oVal (e2 ixP (eVar 7) (eConst (.int 1)))) osNil)))))) (sSeq (sIf (tOfB (eC2 eqP (eN lenP (eConsA (eVar 4) eNilA)) (eConst (.int 0)))) (sRet (eConst (.bool false))) sNext) (sSeq (sPar [6, 7] (osCons (oVal (eCall b_law_s_answer (eConsA (eVar 0) (eConsA (eVar 1) (eConsA (e2 ixP (eVar 4) (e1 negP (eConst (.int 1)))) eNilA))))) (osCons (oVal (eCall b_law_s_answer (eConsA (eVar 2) (eConsA (eVar 3) (eConsA (e2 ixP (eVar 4) (e1 negP (eConst (.int 1)))) eNilA))))) osNil))) (sRet (eOr (eC2 neP (eC1 (fun d _ => some (isNone d)) (eVar 6)) (eC1 (fun d _ => some (isNone d)) (eVar 7))) (eAnd (eC1 (fun d _ => some (!isNone d)) (eVar 6)) (eC2 neP (e2 ixP (eVar 6) (eConst (.int 0))) (e2 ixP (eVar 7) (eConst (.int 0))))))))))
def b_law_parts : BM := bOf 8 m_law_parts
/-- law(script) -/
def m_law : SM := (sSeq (sAsg (eCall b_law_pen (eConsA (eVar 0) eNilA)) (gVar 1)) (sSeq (sAsg (eFrz (fLst (eConsA (eConst (.str "a")) (eConsA (eConst (.str "b")) (eConsA (eConst (.str "u")) eNilA))))) (gVar 2)) (sSeq (sFor (fRng1 (eConst (.int 8))) (gVar 3) (sSeq (sAsg (e2 addP (eConst (.int 2)) (eCall b_law_draw (eConsA (eVar 1) (eConsA (eConst (.int 4)) eNilA)))) (gVar 4)) (sSeq (sAsg (eFrz (fComp [9] (fRng1 (eConst (.int 2))) (gVar 9) tYesM (e2 ixP (eCall b_law_s_hearer (eConsA (eVar 1) (eConsA (eVar 2) (eConsA (eConst (.int 1)) eNilA)))) (eConst (.int 0))))) (gVar 5)) (sSeq (sAsg (eN tupP (eConsA (eFrz (fComp [13] (fRng1 (eVar 4)) (gVar 13) tYesM (eN tupP (eConsA (eFrz (fComp [28, 29, 30] (fSeq (eCall b_law_pick (eConsA (eVar 1) (eConsA (eVar 5) eNilA)))) (gTupM (gsCons (gVar 28) (gsCons (gVar 29) (gsCons (gVar 30) gsNil)))) tYesM (eTup (eConsA (eVar 28) (eConsA (eVar 29) (eConsA (eCall b_law_draw (eConsA (eVar 1) (eConsA (eVar 4) eNilA))) eNilA)))))) eNilA)))) eNilA)) (gVar 6)) (sSeq (sAsg (eCall b_law_pick (eConsA (eVar 1) (eConsA (eFrz (fLst (eConsA (eVar 6) (eConsA (eVar 6) (eConsA (eN tupP (eConsA (eFrz (fComp [13] (fRng1 (eVar 4)) (gVar 13) tYesM (eN tupP (eConsA (eFrz (fComp [28, 29, 30] (fSeq (eCall b_law_pick (eConsA (eVar 1) (eConsA (eVar 5) eNilA)))) (gTupM (gsCons (gVar 28) (gsCons (gVar 29) (gsCons (gVar 30) gsNil)))) tYesM (eTup (eConsA (eVar 28) (eConsA (eVar 29) (eConsA (eCall b_law_draw (eConsA (eVar 1) (eConsA (eVar 4) eNilA))) eNilA)))))) eNilA)))) eNilA)) eNilA))))) eNilA))) (gVar 7)) (sSeq (sPar [11, 12] (osCons (oVal (eMakeR "Hearer" r_Hearer_init (eConsA (eVar 6) eNilA))) (osCons (oVal (eMakeR "Hearer" r_Hearer_init (eConsA (eVar 7) eNilA))) osNil))) (sSeq (sPar [13, 14] (osCons (oVal (eCall b_law_draw (eConsA (eVar 1) (eConsA (eVar 4) eNilA)))) (osCons (oVal (eCall b_law_draw (eConsA (eVar 1) (eConsA (eVar 4) eNilA)))) osNil))) (sSeq (sAsg (eFrz (fComp [19] (fSeq (eTup (eConsA (eVar 6) (eConsA (eVar 7) eNilA)))) (gVar 19) tYesM (eFrz (fComp [23] (fSeq (eVar 19)) (gVar 23) tYesM (eFrz (fComp [24] (fSeq (eVar 23)) (gVar 24) tYesM (eSlT (eVar 24) oNone (oSome (eConst (.int 2)))))))))) (gVar 8)) (sSeq (sFor (fRng1 (eConst (.int 10))) (gVar 9) (sSeq (sPar [16, 20] (osCons (oOwn (fLst (eConsA (eTup (eConsA (eVar 13) (eConsA (eVar 14) eNilA))) eNilA))) (osCons (oVal (eConst (.int 0))) osNil))) (sSeq (sWhile 100000 (tOfB (eC2 ltP (eVar 20) (eN lenP (eConsA (eOwn 16) eNilA)))) (sSeq (sFor (fZip (e2 ixP (eVar 6) (e2 ixP (e2 ixP (eOwn 16) (eVar 20)) (eConst (.int 0)))) (e2 ixP (eVar 7) (e2 ixP (e2 ixP (eOwn 16) (eVar 20)) (eConst (.int 1))))) (gTupM (gsCons (gVar 24) (gsCons (gVar 25) gsNil))) (sIf (tOfB (eC2 notInP (eTup (eConsA (e2 ixP (eVar 24) (eConst (.int 2))) (eConsA (e2 ixP (eVar 25) (eConst (.int 2))) eNilA))) (eOwn 16))) (sAppend 16 (eTup (eConsA (e2 ixP (eVar 24) (eConst (.int 2))) (eConsA (e2 ixP (eVar 25) (eConst (.int 2))) eNilA)))) sNext)) (sAsg (e2 addP (eVar 20) (eConst (.int 1))) (gVar 20)))) (sSeq (sAsg (eCall b_law_draw (eConsA (eVar 1) (eConsA (eConst (.int 6)) eNilA))) (gVar 15)) (sSeq (sIf (tOfB (eC2 eqP (eVar 15) (eConst (.int 0)))) (sExprX (xPopAt 16 (eCall b_law_draw (eConsA (eVar 1) (eConsA (eN lenP (eConsA (eOwn 16) eNilA)) eNilA))))) (sIf (tOfB (eC2 eqP (eVar 15) (eConst (.int 1)))) (sAppend 16 (eCall b_law_pick_b (eConsA (eVar 1) (eConsA (eOwn 16) eNilA)))) (sIf (tOfB (eC2 eqP (eVar 15) (eConst (.int 2)))) (sAppend 16 (eTup (eConsA (eCall b_law_draw (eConsA (eVar 1) (eConsA (eVar 4) eNilA))) (eConsA (eCall b_law_draw (eConsA (eVar 1) (eConsA (eVar 4) eNilA))) eNilA)))) (sIf (tOfB (eC2 eqP (eVar 15) (eConst (.int 3)))) (sOwn 16 (fComp [21] (fRng1 (eVar 4)) (gVar 21) tYesM (eTup (eConsA (eVar 21) (eConsA (eVar 21) eNilA))))) sNext)))) (sSeq (sAsg (eCall b_law_mixed_b (eConsA (eVar 1) (eConsA (eOwn 16) eNilA))) (gVar 16)) (sSeq (sAsg (eAnd (eC2 inP (eTup (eConsA (eVar 13) (eConsA (eVar 14) eNilA))) (eVar 16)) (eC2 eqP (eN lenDP (eConsA (eN dictP (eConsA (eFrz (fComp [32] (fSeq (eVar 16)) (gVar 32) tYesM (eTup (eConsA (eVar 32) (eConsA (eConst (.bool true)) eNilA))))) eNilA)) eNilA)) (eN lenP (eConsA (eVar 16) eNilA)))) (gVar 17)) (sSeq (sFor (fSeq (eVar 16)) (gTupM (gsCons (gVar 21) (gsCons (gVar 22) gsNil))) (sAsg (eAnd (eVar 17) (eAnd (eC2 eqP (e2 ixP (e2 ixP (eVar 8) (eConst (.int 0))) (eVar 21)) (e2 ixP (e2 ixP (eVar 8) (eConst (.int 1))) (eVar 22))) (eC2 eqP (eFrz (fComp [24, 25] (fZip (e2 ixP (eVar 6) (eVar 21)) (e2 ixP (eVar 7) (eVar 22))) (gTupM (gsCons (gVar 24) (gsCons (gVar 25) gsNil))) (tOfB (eC2 notInP (eTup (eConsA (e2 ixP (eVar 24) (eConst (.int 2))) (eConsA (e2 ixP (eVar 25) (eConst (.int 2))) eNilA))) (eVar 16))) (eConst (.int 1)))) (eFrz (fLst eNilA))))) (gVar 17))) (sSeq (sIf (tOfB (eC2 neP (eCall b_shows_same (eConsA (eVar 11) (eConsA (eVar 13) (eConsA (eVar 12) (eConsA (eVar 14) (eConsA (eMakeR "Same" r_Same_init (eConsA (eVar 16) eNilA)) eNilA)))))) (eVar 17))) (sRet (eConst (.bool false))) sNext) (sSeq (sAsg (eFrz (fComp [26] (fRng1 (eCall b_law_draw (eConsA (eVar 1) (eConsA (eConst (.int 5)) eNilA)))) (gVar 26) tYesM (eCall b_law_pick (eConsA (eVar 1) (eConsA (eFrz (fCat (eVar 2) (eFrz (fLst (eConsA (eConst (.str "q")) eNilA))))) eNilA))))) (gVar 18)) (sIf (tOfB (eC2 neP (eCall b_shows_same (eConsA (eVar 11) (eConsA (eVar 13) (eConsA (eVar 12) (eConsA (eVar 14) (eConsA (eMakeR "Unlike" r_Unlike_init (eConsA (eVar 18) eNilA)) eNilA)))))) (eCall b_law_parts (eConsA (eVar 6) (eConsA (eVar 13) (eConsA (eVar 7) (eConsA (eVar 14) (eConsA (eVar 18) eNilA)))))))) (sRet (eConst (.bool false))) sNext))))))))))) (sSeq (sAsg (eFrz (fLst (eConsA (eConst .non) (eConsA (eConst (.int 5)) (eConsA (eConst (.str "same")) (eConsA (eMakeR "Same" r_Same_init (eConsA (eConst .non) eNilA)) (eConsA (eMakeR "Same" r_Same_init (eConsA (eTup eNilA) eNilA)) (eConsA (eMakeR "Same" r_Same_init (eConsA (eFrz (fLst (eConsA (eConst .non) eNilA))) eNilA)) (eConsA (eMakeR "Same" r_Same_init (eConsA (eFrz (fLst (eConsA (eTup (eConsA (eVar 13) (eConsA (eVar 14) (eConsA (eConst (.int 0)) eNilA)))) eNilA))) eNilA)) (eConsA (eMakeR "Same" r_Same_init (eConsA (eFrz (fLst (eConsA (eTup (eConsA (eVar 13) eNilA)) eNilA))) eNilA)) (eConsA (eMakeR "Same" r_Same_init (eConsA (eFrz (fLst (eConsA (eTup (eConsA (eVar 13) (eConsA (eVar 4) eNilA))) eNilA))) eNilA)) (eConsA (eMakeR "Same" r_Same_init (eConsA (eFrz (fLst (eConsA (eTup (eConsA (e1 negP (eConst (.int 1))) (eConsA (eVar 14) eNilA))) eNilA))) eNilA)) (eConsA (eMakeR "Same" r_Same_init (eConsA (eFrz (fLst (eConsA (eTup (eConsA (eConst .non) (eConsA (eVar 14) eNilA))) eNilA))) eNilA)) (eConsA (eMakeR "Unlike" r_Unlike_init (eConsA (eConst .non) eNilA)) (eConsA (eMakeR "Unlike" r_Unlike_init (eConsA (eTup eNilA) eNilA)) (eConsA (eMakeR "Unlike" r_Unlike_init (eConsA (eConst (.int 5)) eNilA)) (eConsA (eMakeR "Unlike" r_Unlike_init (eConsA (eFrz (fLst (eConsA (eConst .non) eNilA))) eNilA)) (eConsA (eMakeR "Unlike" r_Unlike_init (eConsA (eFrz (fLst (eConsA (eConst (.str "A")) eNilA))) eNilA)) (eConsA (eMakeR "Paper" r_Paper_init (eConsA (eConst (.str "same")) (eConsA (eTup (eConsA (eTup (eConsA (eVar 13) (eConsA (eVar 14) eNilA))) eNilA)) eNilA))) (eConsA (eMakeR "Denial" r_Paper_init (eConsA (eConst (.str "unlike")) (eConsA (eTup (eConsA (eConst (.str "a")) eNilA)) eNilA))) (eConsA (eTup (eConsA (eTup (eConsA (eVar 13) (eConsA (eVar 14) eNilA))) eNilA)) eNilA))))))))))))))))))))) (gVar 10)) (sSeq (sIf (tOfB (eC2 neP (eFrz (fComp [27] (fSeq (eVar 10)) (gVar 27) (tOfB (eC2 notBP (eCall b_shows_same (eConsA (eVar 11) (eConsA (eVar 13) (eConsA (eVar 12) (eConsA (eVar 14) (eConsA (eVar 27) eNilA)))))) (eConst (.bool false)))) (eVar 27))) (eFrz (fLst eNilA)))) (sRet (eConst (.bool false))) sNext) (sIf (mOr (mAnd (tOfB (eC2 gtP (eVar 4) (eConst (.int 1)))) (mAnd (tOfB (eC2 eqP (eVar 6) (eVar 7))) (tOfB (eC2 notBP (eCall b_shows_same (eConsA (eVar 11) (eConsA (eConst (.int 1)) (eConsA (eVar 11) (eConsA (eConst (.int 1)) (eConsA (eMakeR "Same" r_Same_init (eConsA (eFrz (fComp [31] (fRng1 (eVar 4)) (gVar 31) tYesM (eTup (eConsA (eVar 31) (eConsA (eVar 31) eNilA))))) eNilA)) eNilA)))))) (eConst (.bool true)))))) (tOfB (eC2 notBP (eCall b_shows_same (eConsA (eVar 11) (eConsA (eConst (.int 1)) (eConsA (eVar 11) (eConsA (eConst (.int 1)) (eConsA (eMakeR "Same" r_Same_init (eConsA (eFrz (fComp [31] (fRng1 (eVar 4)) (gVar 31) tYesM (eTup (eConsA (eIf (tOfB (eC2 ltP (eVar 31) (eConst (.int 2)))) (eN boolP (eConsA (eVar 31) eNilA)) (eVar 31)) (eConsA (eVar 31) eNilA))))) eNilA)) eNilA)))))) (eConst (.bool false))))) (sRet (eConst (.bool false))) sNext)))))))))))) (sRet (eConst (.bool true))))))
def b_law : BM := bOf 33 m_law
structure Facts (P : Program) (K : PySem.W.Frag) (mg : Str → Option Value) (cl : Str → Option Addr) where
  cf : CF K cl sub
  C_Denial : Addr
  g_Denial : mg "Denial" = some (.ref C_Denial)
  c_Denial : cl "Denial" = some C_Denial
  C_Hearer : Addr
  g_Hearer : mg "Hearer" = some (.ref C_Hearer)
  c_Hearer : cl "Hearer" = some C_Hearer
  C_Paper : Addr
  g_Paper : mg "Paper" = some (.ref C_Paper)
  c_Paper : cl "Paper" = some C_Paper
  C_Same : Addr
  g_Same : mg "Same" = some (.ref C_Same)
  c_Same : cl "Same" = some C_Same
  C_Unlike : Addr
  g_Unlike : mg "Unlike" = some (.ref C_Unlike)
  c_Unlike : cl "Unlike" = some C_Unlike
  a_Denial_parts : NoAttr K C_Denial "parts"
  a_Denial_word : NoAttr K C_Denial "word"
  a_Hearer_by_heard : NoAttr K C_Hearer "by_heard"
  a_Hearer_heard_letters : NoAttr K C_Hearer "heard_letters"
  a_Hearer_rows : NoAttr K C_Hearer "rows"
  a_Paper_parts : NoAttr K C_Paper "parts"
  a_Paper_word : NoAttr K C_Paper "word"
  a_Same_pairs : NoAttr K C_Same "pairs"
  a_Same_parts : NoAttr K C_Same "parts"
  a_Same_word : NoAttr K C_Same "word"
  a_Unlike_heard : NoAttr K C_Unlike "heard"
  a_Unlike_parts : NoAttr K C_Unlike "parts"
  a_Unlike_word : NoAttr K C_Unlike "word"
  t_FIGURES : Tok
  k_FIGURES : mg "FIGURES" = some (.str "0123456789" t_FIGURES)
  t_LETTERS : Tok
  k_LETTERS : mg "LETTERS" = some (.str "abcdefghijklmnopqrstuvwxyz" t_LETTERS)
  t_LONGEST : Tok
  k_LONGEST : mg "LONGEST" = some (.int 8 t_LONGEST)
  t_MOST_ROWS : Tok
  k_MOST_ROWS : mg "MOST_ROWS" = some (.int 2000 t_MOST_ROWS)
  t_MOST_TOLD : Tok
  k_MOST_TOLD : mg "MOST_TOLD" = some (.int 10 t_MOST_TOLD)
  n_abs : mg "abs" = none
  n_all : mg "all" = none
  n_bool : mg "bool" = none
  n_dict : mg "dict" = none
  n_int : mg "int" = none
  n_isinstance : mg "isinstance" = none
  n_len : mg "len" = none
  n_list : mg "list" = none
  n_range : mg "range" = none
  n_set : mg "set" = none
  n_sorted : mg "sorted" = none
  n_str : mg "str" = none
  n_tuple : mg "tuple" = none
  n_zip : mg "zip" = none
  f_is_integer : Addr
  d_is_integer : FuncData
  F_is_integer : Fun K "is_integer" "is_integer" s_is_integer f_is_integer d_is_integer
  g_is_integer : mg "is_integer" = some (.ref f_is_integer)
  b_is_integer : Binds K d_is_integer ["value"] []
  f_is_within : Addr
  d_is_within : FuncData
  F_is_within : Fun K "is_within" "is_within" s_is_within f_is_within d_is_within
  g_is_within : mg "is_within" = some (.ref f_is_within)
  b_is_within : Binds K d_is_within ["value", "least", "most"] []
  f_is_name : Addr
  d_is_name : FuncData
  F_is_name : Fun K "is_name" "is_name" s_is_name f_is_name d_is_name
  g_is_name : mg "is_name" = some (.ref f_is_name)
  b_is_name : Binds K d_is_name ["value"] []
  f_is_listed : Addr
  d_is_listed : FuncData
  F_is_listed : Fun K "is_listed" "is_listed" s_is_listed f_is_listed d_is_listed
  g_is_listed : mg "is_listed" = some (.ref f_is_listed)
  b_is_listed : Binds K d_is_listed ["value"] []
  f_is_row_of : Addr
  d_is_row_of : FuncData
  F_is_row_of : Fun K "is_row_of" "is_row_of" s_is_row_of f_is_row_of d_is_row_of
  g_is_row_of : mg "is_row_of" = some (.ref f_is_row_of)
  b_is_row_of : Binds K d_is_row_of ["value", "many"] []
  f_are_ascending : Addr
  d_are_ascending : FuncData
  F_are_ascending : Fun K "are_ascending" "are_ascending" s_are_ascending f_are_ascending d_are_ascending
  g_are_ascending : mg "are_ascending" = some (.ref f_are_ascending)
  b_are_ascending : Binds K d_are_ascending ["some"] []
  f_fixed : Addr
  d_fixed : FuncData
  F_fixed : Fun K "fixed" "fixed" s_fixed f_fixed d_fixed
  g_fixed : mg "fixed" = some (.ref f_fixed)
  b_fixed : Binds K d_fixed ["value"] []
  f_Paper_init : Addr
  d_Paper_init : FuncData
  F_Paper_init : Fun K "__init__" "Paper.__init__" s_Paper_init f_Paper_init d_Paper_init
  f_is_bit : Addr
  d_is_bit : FuncData
  F_is_bit : Fun K "is_bit" "is_bit" s_is_bit f_is_bit d_is_bit
  g_is_bit : mg "is_bit" = some (.ref f_is_bit)
  b_is_bit : Binds K d_is_bit ["value"] []
  f_is_answer : Addr
  d_is_answer : FuncData
  F_is_answer : Fun K "is_answer" "is_answer" s_is_answer f_is_answer d_is_answer
  g_is_answer : mg "is_answer" = some (.ref f_is_answer)
  b_is_answer : Binds K d_is_answer ["value", "many"] []
  f_is_hearer_row : Addr
  d_is_hearer_row : FuncData
  F_is_hearer_row : Fun K "is_hearer_row" "is_hearer_row" s_is_hearer_row f_is_hearer_row d_is_hearer_row
  g_is_hearer_row : mg "is_hearer_row" = some (.ref f_is_hearer_row)
  b_is_hearer_row : Binds K d_is_hearer_row ["value", "many"] []
  f_is_table : Addr
  d_is_table : FuncData
  F_is_table : Fun K "is_table" "is_table" s_is_table f_is_table d_is_table
  g_is_table : mg "is_table" = some (.ref f_is_table)
  b_is_table : Binds K d_is_table ["value"] []
  f_Hearer_init : Addr
  d_Hearer_init : FuncData
  F_Hearer_init : Fun K "__init__" "Hearer.__init__" s_Hearer_init f_Hearer_init d_Hearer_init
  b_Hearer_init : Binds K d_Hearer_init ["self", "rows"] []
  f_Hearer_answer : Addr
  d_Hearer_answer : FuncData
  F_Hearer_answer : Fun K "answer" "Hearer.answer" s_Hearer_answer f_Hearer_answer d_Hearer_answer
  b_Hearer_answer : Binds K d_Hearer_answer ["self", "at", "heard"] []
  f_need_hearer : Addr
  d_need_hearer : FuncData
  F_need_hearer : Fun K "need_hearer" "need_hearer" s_need_hearer f_need_hearer d_need_hearer
  g_need_hearer : mg "need_hearer" = some (.ref f_need_hearer)
  b_need_hearer : Binds K d_need_hearer ["value"] []
  f_Same_init : Addr
  d_Same_init : FuncData
  cc_Same_init : Addr
  F_Same_init : FunS P K "__init__" "Same.__init__" s_Same_init f_Same_init d_Same_init cc_Same_init C_Same
  b_Same_init : Binds K d_Same_init ["self", "pairs"] []
  f_Unlike_init : Addr
  d_Unlike_init : FuncData
  cc_Unlike_init : Addr
  F_Unlike_init : FunS P K "__init__" "Unlike.__init__" s_Unlike_init f_Unlike_init d_Unlike_init cc_Unlike_init C_Unlike
  b_Unlike_init : Binds K d_Unlike_init ["self", "heard"] []
  f_sign_of : Addr
  d_sign_of : FuncData
  F_sign_of : Fun K "sign_of" "sign_of" s_sign_of f_sign_of d_sign_of
  g_sign_of : mg "sign_of" = some (.ref f_sign_of)
  b_sign_of : Binds K d_sign_of ["row"] []
  f_need_row_of : Addr
  d_need_row_of : FuncData
  F_need_row_of : Fun K "need_row_of" "need_row_of" s_need_row_of f_need_row_of d_need_row_of
  g_need_row_of : mg "need_row_of" = some (.ref f_need_row_of)
  b_need_row_of : Binds K d_need_row_of ["hearer", "at", "part"] []
  f_need_rows_of : Addr
  d_need_rows_of : FuncData
  F_need_rows_of : Fun K "need_rows_of" "need_rows_of" s_need_rows_of f_need_rows_of d_need_rows_of
  g_need_rows_of : mg "need_rows_of" = some (.ref f_need_rows_of)
  b_need_rows_of : Binds K d_need_rows_of ["one", "at", "other", "to"] []
  f_is_pair : Addr
  d_is_pair : FuncData
  F_is_pair : Fun K "is_pair" "is_pair" s_is_pair f_is_pair d_is_pair
  g_is_pair : mg "is_pair" = some (.ref f_is_pair)
  b_is_pair : Binds K d_is_pair ["one", "other", "value"] []
  f_are_same : Addr
  d_are_same : FuncData
  F_are_same : Fun K "are_same" "are_same" s_are_same f_are_same d_are_same
  g_are_same : mg "are_same" = some (.ref f_are_same)
  b_are_same : Binds K d_are_same ["one", "at", "other", "to", "pairs"] []
  f_is_unlike : Addr
  d_is_unlike : FuncData
  F_is_unlike : Fun K "is_unlike" "is_unlike" s_is_unlike f_is_unlike d_is_unlike
  g_is_unlike : mg "is_unlike" = some (.ref f_is_unlike)
  b_is_unlike : Binds K d_is_unlike ["one", "at", "other", "to", "heard"] []
  f_shows_same : Addr
  d_shows_same : FuncData
  F_shows_same : Fun K "shows_same" "shows_same" s_shows_same f_shows_same d_shows_same
  g_shows_same : mg "shows_same" = some (.ref f_shows_same)
  b_shows_same : Binds K d_shows_same ["one", "at", "other", "to", "value"] []
  f_law_pen : Addr
  d_law_pen : FuncData
  F_law_pen : Fun K "_law_pen" "_law_pen" s_law_pen f_law_pen d_law_pen
  g_law_pen : mg "_law_pen" = some (.ref f_law_pen)
  b_law_pen : Binds K d_law_pen ["script"] []
  f_law_draw : Addr
  d_law_draw : FuncData
  F_law_draw : Fun K "_law_draw" "_law_draw" s_law_draw f_law_draw d_law_draw
  g_law_draw : mg "_law_draw" = some (.ref f_law_draw)
  b_law_draw : Binds K d_law_draw ["pen", "many"] []
  f_law_pick : Addr
  d_law_pick : FuncData
  F_law_pick : Fun K "_law_pick" "_law_pick" s_law_pick f_law_pick d_law_pick
  g_law_pick : mg "_law_pick" = some (.ref f_law_pick)
  b_law_pick : Binds K d_law_pick ["pen", "some"] []
  f_law_mixed : Addr
  d_law_mixed : FuncData
  F_law_mixed : Fun K "_law_mixed" "_law_mixed" s_law_mixed f_law_mixed d_law_mixed
  g_law_mixed : mg "_law_mixed" = some (.ref f_law_mixed)
  b_law_mixed : Binds K d_law_mixed ["pen", "some"] []
  f_law_s_hearer : Addr
  d_law_s_hearer : FuncData
  F_law_s_hearer : Fun K "_law_s_hearer" "_law_s_hearer" s_law_s_hearer f_law_s_hearer d_law_s_hearer
  g_law_s_hearer : mg "_law_s_hearer" = some (.ref f_law_s_hearer)
  b_law_s_hearer : Binds K d_law_s_hearer ["pen", "names", "most"] []
  f_law_s_answer : Addr
  d_law_s_answer : FuncData
  F_law_s_answer : Fun K "_law_s_answer" "_law_s_answer" s_law_s_answer f_law_s_answer d_law_s_answer
  g_law_s_answer : mg "_law_s_answer" = some (.ref f_law_s_answer)
  b_law_s_answer : Binds K d_law_s_answer ["hearer", "at", "heard"] []
  f_law_parts : Addr
  d_law_parts : FuncData
  F_law_parts : Fun K "_law_parts" "_law_parts" s_law_parts f_law_parts d_law_parts
  g_law_parts : mg "_law_parts" = some (.ref f_law_parts)
  b_law_parts : Binds K d_law_parts ["one", "at", "other", "to", "names"] []
  f_law : Addr
  d_law : FuncData
  F_law : Fun K "law" "law" s_law f_law d_law
  g_law : mg "law" = some (.ref f_law)
  b_law : Binds K d_law ["script"] []
  S_Same_init_Same : SupC K C_Same C_Same "__init__" f_Paper_init
  S_Unlike_init_Unlike : SupC K C_Unlike C_Unlike "__init__" f_Paper_init
  H_Hearer_answer : Meth K C_Hearer "answer" f_Hearer_answer
  M_Denial : Mk K C_Denial f_Paper_init
  M_Hearer : Mk K C_Hearer f_Hearer_init
  M_Paper : Mk K C_Paper f_Paper_init
  M_Same : Mk K C_Same f_Same_init
  M_Unlike : Mk K C_Unlike f_Unlike_init
section
variable {P : Program} {w : World} {K : PySem.W.Frag} {mg : Str → Option Value} {base : Heap} {cl : Str → Option Addr} (T : Facts P K mg cl)
include T
omit T in
theorem sc_is_integer : FnScope [("value" : Str)] [("value" : Str)] (defScope s_is_integer) := ⟨rfl, rfl, rfl, by decide +kernel, rfl, by decide +kernel, by decide +kernel⟩
theorem ok_is_integer : FnOk P w K mg base (L2.CX P w) 1 T.f_is_integer T.d_is_integer [("value" : Str)] (spD K cl 1 b_is_integer) := by
  refine def_ok (k := 0) T.F_is_integer sc_is_integer fun cdv A outer s H E B hr tk => ?_
  have hu : (A.deeper (envOfC "is_integer" (defScope s_is_integer) s.heap.objs.size T.f_is_integer cdv)).units + 64 < cLine := hr.units
  have nd := (sc_is_integer).nd
  exact (dss_one (ds_ret (de_and (de_isB "int" T.cf (pe_callB call_isi (by rfl) T.n_isinstance (by decide +kernel) (pa_cons (DE.b (de_var 0 (pv 0))) (pa_cons (pe_bltn (by rfl) T.n_int (by decide +kernel) rfl) pa_nil)))) (de_one (de_not (de_isB "bool" T.cf (pe_callB call_isi (by rfl) T.n_isinstance (by decide +kernel) (pa_cons (DE.b (de_var 0 (pv 0))) (pa_cons (pe_bltn (by rfl) T.n_bool (by decide +kernel) rfl) pa_nil)))))))))
omit T in
theorem sc_is_within : FnScope [("value" : Str), ("least" : Str), ("most" : Str)] [("value" : Str), ("least" : Str), ("most" : Str)] (defScope s_is_within) := ⟨rfl, rfl, rfl, by decide +kernel, rfl, by decide +kernel, by decide +kernel⟩
theorem ok_is_within : FnOk P w K mg base (L2.CX P w) 2 T.f_is_within T.d_is_within [("value" : Str), ("least" : Str), ("most" : Str)] (spD K cl 3 b_is_within) := by
  have O_is_integer := ok_is_integer (P := P) (w := w) (base := base) T
  refine def_ok (k := 1) T.F_is_within sc_is_within fun cdv A outer s H E B hr tk => ?_
  have hu : (A.deeper (envOfC "is_within" (defScope s_is_within) s.heap.objs.size T.f_is_within cdv)).units + 64 < cLine := hr.units
  have nd := (sc_is_within).nd
  exact (dss_one (ds_ret (de_and (de_call O_is_integer (hr.mono (by omega)) (by rfl) T.g_is_integer T.F_is_integer.kp T.b_is_integer tk (da_cons (de_var 0 (pv 0)) da_nil) (na_cons na_nil)) (de_one (de_chain o_le o_le (DE.b (de_var 1 (pv 1))) (DE.b (de_var 0 (pv 0))) (DE.b (de_var 2 (pv 2))))))))
omit T in
theorem sc_is_name : FnScope [("value" : Str), ("sign" : Str)] [("value" : Str)] (defScope s_is_name) := ⟨rfl, rfl, rfl, by decide +kernel, rfl, by decide +kernel, by decide +kernel⟩
theorem ok_is_name : FnOk P w K mg base (L2.CX P w) 1 T.f_is_name T.d_is_name [("value" : Str)] (spD K cl 1 b_is_name) := by
  refine def_ok (k := 0) T.F_is_name sc_is_name fun cdv A outer s H E B hr tk => ?_
  have hu : (A.deeper (envOfC "is_name" (defScope s_is_name) s.heap.objs.size T.f_is_name cdv)).units + 64 < cLine := hr.units
  have nd := (sc_is_name).nd
  exact (dss_cons (ds_if (DW.t (dw_or (dt_not (dt_tru (DE.b (de_isB "str" T.cf (pe_callB call_isi (by rfl) T.n_isinstance (by decide +kernel) (pa_cons (DE.b (de_var 0 (pv 0))) (pa_cons (pe_bltn (by rfl) T.n_str (by decide +kernel) rfl) pa_nil))))))) (dw_or1 (dt_not (dt_chain o_le o_le (DE.b de_int) (DE.b (de_nary (pe_callB c_len (by rfl) T.n_len (by decide +kernel) (dab_cons (DE.b (de_var 0 (pv 0))) dab_nil)))) (DE.b (de_const (pe_glob (v := .int _) (by rfl) T.k_LONGEST ⟨_, rfl⟩) fun _ _ => .int _))))))) (dss_one (ds_ret de_bool)) dss_nil) (dss_one (ds_ret (de_and (de_c2 o_inS (DE.b (de_ix (DE.b (de_var 0 (pv 0))) (DE.b de_int) fun _ _ => rfl)) (DE.b (de_const (pe_glob (v := .str _) (by rfl) T.k_LETTERS ⟨_, rfl⟩) fun _ _ => .str _)) (by rfl)) (de_one (de_nary (pe_callB (c_all rfl) (by rfl) T.n_all (by decide +kernel) (dab_cons (DF.b (df_comp (pe_lc (own := [("sign", 1)]) rfl nd (di_str (de_var 0 (pv 0))) (blkOk_by (by walk_at "blk_go")) (fun _ _ _ _ _ => (dg_name 1 (pg_name nd (by rfl) (by first | exact Or.inl rfl | exact Or.inr rfl)))) (fun _ _ _ _ _ => dts_nil) (fun _ _ _ _ _ => (de_or (de_c2 o_inS (DE.b (de_var 1 (pv 1))) (DE.b (de_const (pe_glob (v := .str _) (by rfl) T.k_LETTERS ⟨_, rfl⟩) fun _ _ => .str _)) (by rfl)) (de_one (de_c2 o_inS (DE.b (de_var 1 (pv 1))) (DE.b (de_const (pe_glob (v := .str _) (by rfl) T.k_FIGURES ⟨_, rfl⟩) fun _ _ => .str _)) (by rfl)))))) (by decide))) dab_nil))))))))
omit T in
theorem sc_is_listed : FnScope [("value" : Str)] [("value" : Str)] (defScope s_is_listed) := ⟨rfl, rfl, rfl, by decide +kernel, rfl, by decide +kernel, by decide +kernel⟩
theorem ok_is_listed : FnOk P w K mg base (L2.CX P w) 1 T.f_is_listed T.d_is_listed [("value" : Str)] (spD K cl 1 b_is_listed) := by
  refine def_ok (k := 0) T.F_is_listed sc_is_listed fun cdv A outer s H E B hr tk => ?_
  have hu : (A.deeper (envOfC "is_listed" (defScope s_is_listed) s.heap.objs.size T.f_is_listed cdv)).units + 64 < cLine := hr.units
  have nd := (sc_is_listed).nd
  exact (dss_one (ds_ret (de_isBs ["list", "tuple"] T.cf (by decide) (pe_callB call_isiT (by rfl) T.n_isinstance (by decide +kernel) (pa_cons (DE.b (de_var 0 (pv 0))) (pa_cons (pe_tup (pa_cons (pe_bltn (by rfl) T.n_list (by decide +kernel) rfl) (pa_cons (pe_bltn (by rfl) T.n_tuple (by decide +kernel) rfl) pa_nil))) pa_nil))))))
omit T in
theorem sc_is_row_of : FnScope [("value" : Str), ("many" : Str)] [("value" : Str), ("many" : Str)] (defScope s_is_row_of) := ⟨rfl, rfl, rfl, by decide +kernel, rfl, by decide +kernel, by decide +kernel⟩
theorem ok_is_row_of : FnOk P w K mg base (L2.CX P w) 2 T.f_is_row_of T.d_is_row_of [("value" : Str), ("many" : Str)] (spD K cl 2 b_is_row_of) := by
  have O_is_listed := ok_is_listed (P := P) (w := w) (base := base) T
  refine def_ok (k := 1) T.F_is_row_of sc_is_row_of fun cdv A outer s H E B hr tk => ?_
  have hu : (A.deeper (envOfC "is_row_of" (defScope s_is_row_of) s.heap.objs.size T.f_is_row_of cdv)).units + 64 < cLine := hr.units
  have nd := (sc_is_row_of).nd
  exact (dss_one (ds_ret (de_and (de_call O_is_listed (hr.mono (by omega)) (by rfl) T.g_is_listed T.F_is_listed.kp T.b_is_listed tk (da_cons (de_var 0 (pv 0)) da_nil) (na_cons na_nil)) (de_one (de_c2 (o_eq hu) (DE.b (de_nary (pe_callB c_len (by rfl) T.n_len (by decide +kernel) (dab_cons (DE.b (de_var 0 (pv 0))) dab_nil)))) (DE.b (de_var 1 (pv 1))) (nomark _))))))
omit T in
theorem sc_are_ascending : FnScope [("some" : Str), ("one" : Str), ("other" : Str)] [("some" : Str)] (defScope s_are_ascending) := ⟨rfl, rfl, rfl, by decide +kernel, rfl, by decide +kernel, by decide +kernel⟩
theorem ok_are_ascending : FnOk P w K mg base (L2.CX P w) 1 T.f_are_ascending T.d_are_ascending [("some" : Str)] (spD K cl 1 b_are_ascending) := by
  refine def_ok (k := 0) T.F_are_ascending sc_are_ascending fun cdv A outer s H E B hr tk => ?_
  have hu : (A.deeper (envOfC "are_ascending" (defScope s_are_ascending) s.heap.objs.size T.f_are_ascending cdv)).units + 64 < cLine := hr.units
  have nd := (sc_are_ascending).nd
  exact (dss_one (ds_ret (de_nary (pe_callB (c_all rfl) (by rfl) T.n_all (by decide +kernel) (dab_cons (DF.b (df_comp (pe_lc (own := [("one", 1), ("other", 2)]) rfl nd (di_zip (by rfl) T.n_zip (de_var 0 (pv 0)) (DF.e (df_slL (DE.b (de_var 0 (pv 0))) (dpo_some (DE.b de_int)) dpo_none))) (blkOk_by (by walk_at "blk_go")) (fun _ _ _ _ _ => (dg_tup rfl (dgs_cons (dg_name 1 (pg_name nd (by rfl) (by first | exact Or.inl rfl | exact Or.inr rfl))) (dgs_cons (dg_name 2 (pg_name nd (by rfl) (by first | exact Or.inl rfl | exact Or.inr rfl))) dgs_nil)) (glS (glS gl0)))) (fun _ _ _ _ _ => dts_nil) (fun _ _ _ _ _ => (de_c2 o_lt (DE.b (de_var 1 (pv 1))) (DE.b (de_var 2 (pv 2))) (nomark _)))) (by decide))) dab_nil)))))
omit T in
theorem sc_fixed : FnScope [("value" : Str), ("part" : Str)] [("value" : Str)] (defScope s_fixed) := ⟨rfl, rfl, rfl, by decide +kernel, rfl, by decide +kernel, by decide +kernel⟩
theorem okn_fixed : ∀ n : Nat, FnOk P w K mg base (L2.CX P w) (1 + n) T.f_fixed T.d_fixed [("value" : Str)] (spD K cl 1 (bn_fixed n))
  | 0 => fnok_stuck
  | n + 1 => by
    have ih := okn_fixed n
    refine def_ok (k := 1 + n) T.F_fixed sc_fixed fun cdv A outer s H E B hr tk => ?_
    have hu : (A.deeper (envOfC "fixed" (defScope s_fixed) s.heap.objs.size T.f_fixed cdv)).units + 64 < cLine := hr.units
    have nd := (sc_fixed).nd
    exact (dss_cons (ds_if (dt_tru (DE.b (de_isBs ["list", "tuple"] T.cf (by decide) (pe_callB call_isiT (by rfl) T.n_isinstance (by decide +kernel) (pa_cons (DE.b (de_var 0 (pv 0))) (pa_cons (pe_tup (pa_cons (pe_bltn (by rfl) T.n_list (by decide +kernel) rfl) (pa_cons (pe_bltn (by rfl) T.n_tuple (by decide +kernel) rfl) pa_nil))) pa_nil)))))) (dss_one (ds_ret (de_nary (pe_callTy c_tuple (by rfl) T.n_tuple (by decide +kernel) (dab_cons (DF.b (df_comp (pe_lc (own := [("part", 1)]) rfl nd (di_seq (de_var 0 (pv 0))) (blkOk_by (by walk_at "blk_go")) (fun _ _ _ _ _ => (dg_name 1 (pg_name nd (by rfl) (by first | exact Or.inl rfl | exact Or.inr rfl)))) (fun _ _ _ _ _ => dts_nil) (fun _ _ _ _ _ => (de_call ih (hr.mono (by omega)) (by rfl) T.g_fixed T.F_fixed.kp T.b_fixed L2.takes0 (da_cons (de_var 1 (pv 1)) da_nil) (na_cons na_nil)))) (by decide))) dab_nil))))) dss_nil) (dss_one (ds_ret (de_var 0 (pv 0)))))
theorem ok_fixed : FnOk P w K mg base (L2.CX P w) 13 T.f_fixed T.d_fixed [("value" : Str)] (spD K cl 1 b_fixed) := okn_fixed T 12
omit T in
theorem sc_Paper_init : FnScope [("self" : Str), ("word" : Str), ("parts" : Str)] ([("self" : Str), ("word" : Str)] ++ [("parts" : Str)]) (defScope s_Paper_init) := ⟨rfl, rfl, rfl, by decide +kernel, rfl, by decide +kernel, by decide +kernel⟩
omit T in
theorem bd_Paper_init (kV doc pm : Value) (an : Option Addr) (cdv ct : Value) : ∀ us rest : List Value, us.length = 2 → rest.length ≤ 4 → bindArgs (PySem.W.fnOf "__init__" "Paper.__init__" (defArgs s_Paper_init) (defBody s_Paper_init) (defScope s_Paper_init) .none kV doc pm an cdv ct) ⟨us ++ rest, []⟩ = (newTuple rest >>= fun t => pure (([("self" : Str), ("word" : Str)] ++ [("parts" : Str)]).zip (us ++ [t])))
  | [_, _], [], _, _ => rfl
  | [_, _], [_], _, _ => rfl
  | [_, _], [_, _], _, _ => rfl
  | [_, _], [_, _, _], _, _ => rfl
  | [_, _], [_, _, _, _], _, _ => rfl
  | [_, _], _ :: _ :: _ :: _ :: _ :: _, _, h => absurd h (by simp only [List.length_cons]; omega)
theorem rok_Paper_init : FnR P w K mg base (L2.CX P w) 14 T.f_Paper_init (spR K cl r_Paper_init) := by
  have O_fixed := ok_fixed (P := P) (w := w) (base := base) T
  refine var_ok (k := 13) (pre := [("self" : Str), ("word" : Str)]) (nmax := 4) T.F_Paper_init sc_Paper_init (by decide +kernel) (fun kV doc pm an cdv ct us rest h1 h2 => bd_Paper_init kV doc pm an cdv ct us rest h1 h2) fun cdv A outer s H E B hr tk => ?_
  have hu : (A.deeper (envOfC "Paper.__init__" (defScope s_Paper_init) s.heap.objs.size T.f_Paper_init cdv)).units + 64 < cLine := hr.units
  have nd := (sc_Paper_init).nd
  exact (dss_cons (ds_setFld ["Paper", "Denial", "Same", "Unlike"] T.cf (.cons T.c_Paper T.a_Paper_word (.cons T.c_Denial T.a_Denial_word (.cons T.c_Same T.a_Same_word (.cons T.c_Unlike T.a_Unlike_word .nil)))) (de_var 0 (pv 0)) (de_var 1 (pv 1))) (dss_one (ds_setFld ["Paper", "Denial", "Same", "Unlike"] T.cf (.cons T.c_Paper T.a_Paper_parts (.cons T.c_Denial T.a_Denial_parts (.cons T.c_Same T.a_Same_parts (.cons T.c_Unlike T.a_Unlike_parts .nil)))) (de_var 0 (pv 0)) (de_call O_fixed (hr.mono (by omega)) (by rfl) T.g_fixed T.F_fixed.kp T.b_fixed tk (da_cons (de_var 2 (pv 2)) da_nil) (na_cons na_nil)))))
omit T in
theorem sc_is_bit : FnScope [("value" : Str)] [("value" : Str)] (defScope s_is_bit) := ⟨rfl, rfl, rfl, by decide +kernel, rfl, by decide +kernel, by decide +kernel⟩
theorem ok_is_bit : FnOk P w K mg base (L2.CX P w) 3 T.f_is_bit T.d_is_bit [("value" : Str)] (spD K cl 1 b_is_bit) := by
  have O_is_within := ok_is_within (P := P) (w := w) (base := base) T
  refine def_ok (k := 2) T.F_is_bit sc_is_bit fun cdv A outer s H E B hr tk => ?_
  have hu : (A.deeper (envOfC "is_bit" (defScope s_is_bit) s.heap.objs.size T.f_is_bit cdv)).units + 64 < cLine := hr.units
  have nd := (sc_is_bit).nd
  exact (dss_one (ds_ret (de_call O_is_within (hr.mono (by omega)) (by rfl) T.g_is_within T.F_is_within.kp T.b_is_within tk (da_cons (de_var 0 (pv 0)) (da_cons de_int (da_cons de_int da_nil))) (na_cons (na_cons (na_cons na_nil))))))
omit T in
theorem sc_is_answer : FnScope [("value" : Str), ("many" : Str), ("one" : Str)] [("value" : Str), ("many" : Str)] (defScope s_is_answer) := ⟨rfl, rfl, rfl, by decide +kernel, rfl, by decide +kernel, by decide +kernel⟩
theorem ok_is_answer : FnOk P w K mg base (L2.CX P w) 4 T.f_is_answer T.d_is_answer [("value" : Str), ("many" : Str)] (spD K cl 2 b_is_answer) := by
  have O_is_row_of := ok_is_row_of (P := P) (w := w) (base := base) T
  have O_is_name := ok_is_name (P := P) (w := w) (base := base) T
  have O_is_within := ok_is_within (P := P) (w := w) (base := base) T
  have O_is_listed := ok_is_listed (P := P) (w := w) (base := base) T
  have O_is_bit := ok_is_bit (P := P) (w := w) (base := base) T
  refine def_ok (k := 3) T.F_is_answer sc_is_answer fun cdv A outer s H E B hr tk => ?_
  have hu : (A.deeper (envOfC "is_answer" (defScope s_is_answer) s.heap.objs.size T.f_is_answer cdv)).units + 64 < cLine := hr.units
  have nd := (sc_is_answer).nd
  exact (dss_cons (ds_if (DW.t (dw_or (dt_not (dt_tru (DE.b (de_call O_is_row_of (hr.mono (by omega)) (by rfl) T.g_is_row_of T.F_is_row_of.kp T.b_is_row_of tk (da_cons (de_var 0 (pv 0)) (da_cons de_int da_nil)) (na_cons (na_cons na_nil)))))) (dw_or (dt_not (dt_tru (DE.b (de_call O_is_name (hr.mono (by omega)) (by rfl) T.g_is_name T.F_is_name.kp T.b_is_name tk (da_cons (de_ix (DE.b (de_var 0 (pv 0))) (DE.b de_int) fun _ _ => rfl) da_nil) (na_cons na_nil))))) (dw_or1 (dt_not (dt_tru (DE.b (de_call O_is_within (hr.mono (by omega)) (by rfl) T.g_is_within T.F_is_within.kp T.b_is_within tk (da_cons (de_ix (DE.b (de_var 0 (pv 0))) (DE.b de_int) fun _ _ => rfl) (da_cons de_int (da_cons (de_bin o_sub (DE.b (de_var 1 (pv 1))) (DE.b de_int)) da_nil))) (na_cons (na_cons (na_cons na_nil))))))))))) (dss_one (ds_ret de_bool)) dss_nil) (dss_one (ds_ret (de_and (de_call O_is_listed (hr.mono (by omega)) (by rfl) T.g_is_listed T.F_is_listed.kp T.b_is_listed tk (da_cons (de_ix (DE.b (de_var 0 (pv 0))) (DE.b de_int) fun _ _ => rfl) da_nil) (na_cons na_nil)) (de_and (de_c2 o_le (DE.b (de_nary (pe_callB c_len (by rfl) T.n_len (by decide +kernel) (dab_cons (DE.b (de_ix (DE.b (de_var 0 (pv 0))) (DE.b de_int) fun _ _ => rfl)) dab_nil)))) (DE.b (de_const (pe_glob (v := .int _) (by rfl) T.k_MOST_TOLD ⟨_, rfl⟩) fun _ _ => .int _)) (nomark _)) (de_one (de_nary (pe_callB (c_all rfl) (by rfl) T.n_all (by decide +kernel) (dab_cons (DF.b (df_comp (pe_lc (own := [("one", 2)]) rfl nd (di_seq (de_ix (DE.b (de_var 0 (pv 0))) (DE.b de_int) fun _ _ => rfl)) (blkOk_by (by walk_at "blk_go")) (fun _ _ _ _ _ => (dg_name 2 (pg_name nd (by rfl) (by first | exact Or.inl rfl | exact Or.inr rfl)))) (fun _ _ _ _ _ => dts_nil) (fun _ _ _ _ _ => (de_call O_is_bit (hr.mono (by omega)) (by rfl) T.g_is_bit T.F_is_bit.kp T.b_is_bit L2.takes0 (da_cons (de_var 2 (pv 2)) da_nil) (na_cons na_nil)))) (by decide))) dab_nil)))))))))
omit T in
theorem sc_is_hearer_row : FnScope [("value" : Str), ("many" : Str), ("one" : Str)] [("value" : Str), ("many" : Str)] (defScope s_is_hearer_row) := ⟨rfl, rfl, rfl, by decide +kernel, rfl, by decide +kernel, by decide +kernel⟩
theorem ok_is_hearer_row : FnOk P w K mg base (L2.CX P w) 5 T.f_is_hearer_row T.d_is_hearer_row [("value" : Str), ("many" : Str)] (spD K cl 2 b_is_hearer_row) := by
  have O_is_listed := ok_is_listed (P := P) (w := w) (base := base) T
  have O_is_answer := ok_is_answer (P := P) (w := w) (base := base) T
  have O_are_ascending := ok_are_ascending (P := P) (w := w) (base := base) T
  refine def_ok (k := 4) T.F_is_hearer_row sc_is_hearer_row fun cdv A outer s H E B hr tk => ?_
  have hu : (A.deeper (envOfC "is_hearer_row" (defScope s_is_hearer_row) s.heap.objs.size T.f_is_hearer_row cdv)).units + 64 < cLine := hr.units
  have nd := (sc_is_hearer_row).nd
  exact (dss_cons (ds_if (DW.t (dw_or (dt_not (dt_tru (DE.b (de_call O_is_listed (hr.mono (by omega)) (by rfl) T.g_is_listed T.F_is_listed.kp T.b_is_listed tk (da_cons (de_var 0 (pv 0)) da_nil) (na_cons na_nil))))) (dw_or1 (dt_not (dt_tru (DE.b (de_nary (pe_callB (c_all rfl) (by rfl) T.n_all (by decide +kernel) (dab_cons (DF.b (df_comp (pe_lc (own := [("one", 2)]) rfl nd (di_seq (de_var 0 (pv 0))) (blkOk_by (by walk_at "blk_go")) (fun _ _ _ _ _ => (dg_name 2 (pg_name nd (by rfl) (by first | exact Or.inl rfl | exact Or.inr rfl)))) (fun _ _ _ _ _ => dts_nil) (fun _ _ _ _ _ => (de_call O_is_answer (hr.mono (by omega)) (by rfl) T.g_is_answer T.F_is_answer.kp T.b_is_answer L2.takes0 (da_cons (de_var 2 (pv 2)) (da_cons (de_var 1 (pv 1)) da_nil)) (na_cons (na_cons na_nil))))) (by decide))) dab_nil))))))))) (dss_one (ds_ret de_bool)) dss_nil) (dss_one (ds_ret (de_call O_are_ascending (hr.mono (by omega)) (by rfl) T.g_are_ascending T.F_are_ascending.kp T.b_are_ascending tk (da_cons (DF.e (df_comp (pe_lc (own := [("one", 2)]) rfl nd (di_seq (de_var 0 (pv 0))) (blkOk_by (by walk_at "blk_go")) (fun _ _ _ _ _ => (dg_name 2 (pg_name nd (by rfl) (by first | exact Or.inl rfl | exact Or.inr rfl)))) (fun _ _ _ _ _ => dts_nil) (fun _ _ _ _ _ => (de_ix (DE.b (de_var 2 (pv 2))) (DE.b de_int) fun _ _ => rfl))) (by decide))) da_nil) (na_cons na_nil)))))
omit T in
theorem sc_is_table : FnScope [("value" : Str), ("row" : Str)] [("value" : Str)] (defScope s_is_table) := ⟨rfl, rfl, rfl, by decide +kernel, rfl, by decide +kernel, by decide +kernel⟩
theorem ok_is_table : FnOk P w K mg base (L2.CX P w) 6 T.f_is_table T.d_is_table [("value" : Str)] (spD K cl 1 b_is_table) := by
  have O_is_listed := ok_is_listed (P := P) (w := w) (base := base) T
  have O_is_hearer_row := ok_is_hearer_row (P := P) (w := w) (base := base) T
  refine def_ok (k := 5) T.F_is_table sc_is_table fun cdv A outer s H E B hr tk => ?_
  have hu : (A.deeper (envOfC "is_table" (defScope s_is_table) s.heap.objs.size T.f_is_table cdv)).units + 64 < cLine := hr.units
  have nd := (sc_is_table).nd
  exact (dss_cons (ds_if (DW.t (dw_or (dt_not (dt_tru (DE.b (de_call O_is_listed (hr.mono (by omega)) (by rfl) T.g_is_listed T.F_is_listed.kp T.b_is_listed tk (da_cons (de_var 0 (pv 0)) da_nil) (na_cons na_nil))))) (dw_or1 (dt_not (dt_chain o_le o_le (DE.b de_int) (DE.b (de_nary (pe_callB c_len (by rfl) T.n_len (by decide +kernel) (dab_cons (DE.b (de_var 0 (pv 0))) dab_nil)))) (DE.b (de_const (pe_glob (v := .int _) (by rfl) T.k_MOST_ROWS ⟨_, rfl⟩) fun _ _ => .int _))))))) (dss_one (ds_ret de_bool)) dss_nil) (dss_one (ds_ret (de_nary (pe_callB (c_all rfl) (by rfl) T.n_all (by decide +kernel) (dab_cons (DF.b (df_comp (pe_lc (own := [("row", 1)]) rfl nd (di_seq (de_var 0 (pv 0))) (blkOk_by (by walk_at "blk_go")) (fun _ _ _ _ _ => (dg_name 1 (pg_name nd (by rfl) (by first | exact Or.inl rfl | exact Or.inr rfl)))) (fun _ _ _ _ _ => dts_nil) (fun _ _ _ _ _ => (de_call O_is_hearer_row (hr.mono (by omega)) (by rfl) T.g_is_hearer_row T.F_is_hearer_row.kp T.b_is_hearer_row L2.takes0 (da_cons (de_var 1 (pv 1)) (da_cons (de_nary (pe_callB c_len (by rfl) T.n_len (by decide +kernel) (dab_cons (DE.b (de_var 0 (pv 0))) dab_nil))) da_nil)) (na_cons (na_cons na_nil))))) (by decide))) dab_nil))))))
omit T in
theorem sc_Hearer_init : FnScope [("self" : Str), ("rows" : Str), ("row" : Str), ("heard" : Str), ("told" : Str), ("later" : Str)] [("self" : Str), ("rows" : Str)] (defScope s_Hearer_init) := ⟨rfl, rfl, rfl, by decide +kernel, rfl, by decide +kernel, by decide +kernel⟩
theorem ok_Hearer_init : FnOk P w K mg base (L2.CX P w) 14 T.f_Hearer_init T.d_Hearer_init [("self" : Str), ("rows" : Str)] (spD K cl 2 b_Hearer_init) := by
  have O_is_table := ok_is_table (P := P) (w := w) (base := base) T
  have O_fixed := ok_fixed (P := P) (w := w) (base := base) T
  refine def_ok (k := 13) T.F_Hearer_init sc_Hearer_init fun cdv A outer s H E B hr tk => ?_
  have hu : (A.deeper (envOfC "Hearer.__init__" (defScope s_Hearer_init) s.heap.objs.size T.f_Hearer_init cdv)).units + 64 < cLine := hr.units
  have nd := (sc_Hearer_init).nd
  exact (dss_cons (ds_if (dt_not (dt_tru (DE.b (de_call O_is_table (hr.mono (by omega)) (by rfl) T.g_is_table T.F_is_table.kp T.b_is_table tk (da_cons (de_var 1 (pv 1)) da_nil) (na_cons na_nil))))) (dss_one ds_never) dss_nil) (dss_cons (ds_setFld ["Hearer"] T.cf (.cons T.c_Hearer T.a_Hearer_rows .nil) (de_var 0 (pv 0)) (de_call O_fixed (hr.mono (by omega)) (by rfl) T.g_fixed T.F_fixed.kp T.b_fixed tk (da_cons (de_var 1 (pv 1)) da_nil) (na_cons na_nil))) (dss_cons (ds_setFld ["Hearer"] T.cf (.cons T.c_Hearer T.a_Hearer_heard_letters .nil) (de_var 0 (pv 0)) (de_nary (pe_callTy c_tuple (by rfl) T.n_tuple (by decide +kernel) (dab_cons (DF.b (df_sortSet (pe_callB (cr_sortedSetM rfl) (by rfl) T.n_sorted (by decide +kernel) (pa_cons (pe_callTy (cr_setOfK rfl) (by rfl) T.n_set (by decide +kernel) (pa_cons (DF.b (df_comp2 (pe_lc2 (own := [("row", 2), ("heard", 3), ("told", 4), ("later", 5)]) (vs1 := [3, 4, 5]) rfl nd (di_seq (de_fld ["Hearer"] T.cf (.cons T.c_Hearer T.a_Hearer_rows .nil) (de_var 0 (pv 0)) rfl)) (blkOk_by (by walk_at "blk_go")) (by decide) (fun _ _ _ _ _ => (dg_name 2 (pg_name nd (by rfl) (by first | exact Or.inl rfl | exact Or.inr rfl)))) (fun _ _ _ _ _ => dts_nil) (fun _ _ _ _ _ => (di_seq (de_var 2 (pv 2)))) (fun _ _ _ _ _ => (dg_tup rfl (dgs_cons (dg_name 3 (pg_name nd (by rfl) (by first | exact Or.inl rfl | exact Or.inr rfl))) (dgs_cons (dg_name 4 (pg_name nd (by rfl) (by first | exact Or.inl rfl | exact Or.inr rfl))) (dgs_cons (dg_name 5 (pg_name nd (by rfl) (by first | exact Or.inl rfl | exact Or.inr rfl))) dgs_nil))) (glS (glS (glS gl0))))) (fun _ _ _ _ _ => dts_nil) (fun _ _ _ _ _ => (de_var 3 (pv 3)))) (by decide) (by decide) (gok_var 2))) pa_nil)) pa_nil)))) dab_nil)))) (dss_one (ds_setFld ["Hearer"] T.cf (.cons T.c_Hearer T.a_Hearer_by_heard .nil) (de_var 0 (pv 0)) (DF.e (df_comp (pe_lc (own := [("row", 2)]) rfl nd (di_seq (de_fld ["Hearer"] T.cf (.cons T.c_Hearer T.a_Hearer_rows .nil) (de_var 0 (pv 0)) rfl)) (blkOk_by (by walk_at "blk_go")) (fun _ _ _ _ _ => (dg_name 2 (pg_name nd (by rfl) (by first | exact Or.inl rfl | exact Or.inr rfl)))) (fun _ _ _ _ _ => dts_nil) (fun _ _ _ _ _ => (de_dcomp (pe_dc (own := [("heard", 3), ("told", 4), ("later", 5)]) rfl nd (di_seq (de_var 2 (pv 2))) (blkOk_by (by walk_at "blk_go")) (fun _ _ _ _ _ => (dg_tup rfl (dgs_cons (dg_name 3 (pg_name nd (by rfl) (by first | exact Or.inl rfl | exact Or.inr rfl))) (dgs_cons (dg_name 4 (pg_name nd (by rfl) (by first | exact Or.inl rfl | exact Or.inr rfl))) (dgs_cons (dg_name 5 (pg_name nd (by rfl) (by first | exact Or.inl rfl | exact Or.inr rfl))) dgs_nil))) (glS (glS (glS gl0))))) (fun _ _ _ _ _ => dts_nil) (fun _ _ _ _ _ => (de_var 3 (pv 3))) (fun _ _ _ _ _ => (de_tup (da_cons (de_var 4 (pv 4)) (da_cons (de_var 5 (pv 5)) da_nil))))) (by decide)))) (by decide))))))))
theorem rok_Hearer_init : FnR P w K mg base (L2.CX P w) 14 T.f_Hearer_init (spR K cl r_Hearer_init) := fnr_of (ok_Hearer_init T) T.b_Hearer_init
omit T in
theorem sc_Hearer_answer : FnScope [("self" : Str), ("at" : Str), ("heard" : Str)] [("self" : Str), ("at" : Str), ("heard" : Str)] (defScope s_Hearer_answer) := ⟨rfl, rfl, rfl, by decide +kernel, rfl, by decide +kernel, by decide +kernel⟩
theorem ok_Hearer_answer : FnOk P w K mg base (L2.CX P w) 1 T.f_Hearer_answer T.d_Hearer_answer [("self" : Str), ("at" : Str), ("heard" : Str)] (spD K cl 3 b_Hearer_answer) := by
  refine def_ok (k := 0) T.F_Hearer_answer sc_Hearer_answer fun cdv A outer s H E B hr tk => ?_
  have hu : (A.deeper (envOfC "Hearer.answer" (defScope s_Hearer_answer) s.heap.objs.size T.f_Hearer_answer cdv)).units + 64 < cLine := hr.units
  have nd := (sc_Hearer_answer).nd
  exact (dss_one (ds_ret (de_get1 hu (DE.b (de_ix (DE.b (de_fld ["Hearer"] T.cf (.cons T.c_Hearer T.a_Hearer_by_heard .nil) (de_var 0 (pv 0)) rfl)) (DE.b (de_var 1 (pv 1))) fun _ _ => rfl)) (de_var 2 (pv 2)) ⟨by rfl, by rfl, by rfl, by rfl⟩)))
omit T in
theorem sc_need_hearer : FnScope [("value" : Str)] [("value" : Str)] (defScope s_need_hearer) := ⟨rfl, rfl, rfl, by decide +kernel, rfl, by decide +kernel, by decide +kernel⟩
theorem ok_need_hearer : FnOk P w K mg base (L2.CX P w) 1 T.f_need_hearer T.d_need_hearer [("value" : Str)] (spD K cl 1 b_need_hearer) := by
  refine def_ok (k := 0) T.F_need_hearer sc_need_hearer fun cdv A outer s H E B hr tk => ?_
  have hu : (A.deeper (envOfC "need_hearer" (defScope s_need_hearer) s.heap.objs.size T.f_need_hearer cdv)).units + 64 < cLine := hr.units
  have nd := (sc_need_hearer).nd
  exact (dss_one (ds_if (dt_not (dt_tru (DE.b (de_isC "Hearer" T.cf T.c_Hearer (pe_callB call_isi (by rfl) T.n_isinstance (by decide +kernel) (pa_cons (DE.b (de_var 0 (pv 0))) (pa_cons (pe_glob (by rfl) T.g_Hearer rfl) pa_nil))))))) (dss_one ds_never) dss_nil))
omit T in
theorem sc_Same_init : FnScopeS [("self" : Str), ("pairs" : Str)] [("self" : Str), ("pairs" : Str)] (defScope s_Same_init) := ⟨rfl, rfl, rfl, by decide +kernel, rfl, by decide +kernel, by decide +kernel, by decide +kernel, by decide +kernel, by decide +kernel⟩
theorem ok_Same_init : FnOk P w K mg base (L2.CX P w) 15 T.f_Same_init T.d_Same_init [("self" : Str), ("pairs" : Str)] (spD K cl 2 b_Same_init) := by
  have R_Paper_init := rok_Paper_init (P := P) (w := w) (base := base) T
  refine sup_ok (k := 14) (cs := ["Same"]) T.F_Same_init sc_Same_init rfl rfl rfl (by decide) (.cons T.c_Same T.S_Same_init_Same .nil) (R_Paper_init.mono (by omega)) fun cda A outer s H E B hr tk => ?_
  have hu : (A.deeper (supEnv "Same.__init__" (defScope s_Same_init) s.heap.objs.size T.f_Same_init (.ref cda) T.cc_Same_init)).units + 64 < cLine := hr.units
  have nd := (sc_Same_init).nd
  exact ⟨(da_cons de_str (da_cons (de_var 1 (pv 1)) da_nil)), (dss_one (ds_setFld ["Same"] T.cf (.cons T.c_Same T.a_Same_pairs .nil) (de_var 0 (pv 0)) (de_ix (DE.b (de_fld ["Paper", "Denial", "Same", "Unlike"] T.cf (.cons T.c_Paper T.a_Paper_parts (.cons T.c_Denial T.a_Denial_parts (.cons T.c_Same T.a_Same_parts (.cons T.c_Unlike T.a_Unlike_parts .nil)))) (de_var 0 (pv 0)) rfl)) (DE.b de_int) fun _ _ => rfl)))⟩
theorem rok_Same_init : FnR P w K mg base (L2.CX P w) 15 T.f_Same_init (spR K cl r_Same_init) := fnr_of (ok_Same_init T) T.b_Same_init
omit T in
theorem sc_Unlike_init : FnScopeS [("self" : Str), ("heard" : Str)] [("self" : Str), ("heard" : Str)] (defScope s_Unlike_init) := ⟨rfl, rfl, rfl, by decide +kernel, rfl, by decide +kernel, by decide +kernel, by decide +kernel, by decide +kernel, by decide +kernel⟩
theorem ok_Unlike_init : FnOk P w K mg base (L2.CX P w) 15 T.f_Unlike_init T.d_Unlike_init [("self" : Str), ("heard" : Str)] (spD K cl 2 b_Unlike_init) := by
  have R_Paper_init := rok_Paper_init (P := P) (w := w) (base := base) T
  refine sup_ok (k := 14) (cs := ["Unlike"]) T.F_Unlike_init sc_Unlike_init rfl rfl rfl (by decide) (.cons T.c_Unlike T.S_Unlike_init_Unlike .nil) (R_Paper_init.mono (by omega)) fun cda A outer s H E B hr tk => ?_
  have hu : (A.deeper (supEnv "Unlike.__init__" (defScope s_Unlike_init) s.heap.objs.size T.f_Unlike_init (.ref cda) T.cc_Unlike_init)).units + 64 < cLine := hr.units
  have nd := (sc_Unlike_init).nd
  exact ⟨(da_cons de_str (da_cons (de_var 1 (pv 1)) da_nil)), (dss_one (ds_setFld ["Unlike"] T.cf (.cons T.c_Unlike T.a_Unlike_heard .nil) (de_var 0 (pv 0)) (de_ix (DE.b (de_fld ["Paper", "Denial", "Same", "Unlike"] T.cf (.cons T.c_Paper T.a_Paper_parts (.cons T.c_Denial T.a_Denial_parts (.cons T.c_Same T.a_Same_parts (.cons T.c_Unlike T.a_Unlike_parts .nil)))) (de_var 0 (pv 0)) rfl)) (DE.b de_int) fun _ _ => rfl)))⟩
theorem rok_Unlike_init : FnR P w K mg base (L2.CX P w) 15 T.f_Unlike_init (spR K cl r_Unlike_init) := fnr_of (ok_Unlike_init T) T.b_Unlike_init
omit T in
theorem sc_sign_of : FnScope [("row" : Str), ("heard" : Str), ("told" : Str), ("later" : Str)] [("row" : Str)] (defScope s_sign_of) := ⟨rfl, rfl, rfl, by decide +kernel, rfl, by decide +kernel, by decide +kernel⟩
theorem ok_sign_of : FnOk P w K mg base (L2.CX P w) 1 T.f_sign_of T.d_sign_of [("row" : Str)] (spD K cl 1 b_sign_of) := by
  refine def_ok (k := 0) T.F_sign_of sc_sign_of fun cdv A outer s H E B hr tk => ?_
  have hu : (A.deeper (envOfC "sign_of" (defScope s_sign_of) s.heap.objs.size T.f_sign_of cdv)).units + 64 < cLine := hr.units
  have nd := (sc_sign_of).nd
  exact (dss_one (ds_ret (de_nary (pe_callTy c_tuple (by rfl) T.n_tuple (by decide +kernel) (dab_cons (DF.b (df_comp (pe_lc (own := [("heard", 1), ("told", 2), ("later", 3)]) rfl nd (di_seq (de_var 0 (pv 0))) (blkOk_by (by walk_at "blk_go")) (fun _ _ _ _ _ => (dg_tup rfl (dgs_cons (dg_name 1 (pg_name nd (by rfl) (by first | exact Or.inl rfl | exact Or.inr rfl))) (dgs_cons (dg_name 2 (pg_name nd (by rfl) (by first | exact Or.inl rfl | exact Or.inr rfl))) (dgs_cons (dg_name 3 (pg_name nd (by rfl) (by first | exact Or.inl rfl | exact Or.inr rfl))) dgs_nil))) (glS (glS (glS gl0))))) (fun _ _ _ _ _ => dts_nil) (fun _ _ _ _ _ => (de_tup (da_cons (de_var 1 (pv 1)) (da_cons (de_var 2 (pv 2)) da_nil))))) (by decide))) dab_nil)))))
omit T in
theorem sc_need_row_of : FnScope [("hearer" : Str), ("at" : Str), ("part" : Str)] [("hearer" : Str), ("at" : Str), ("part" : Str)] (defScope s_need_row_of) := ⟨rfl, rfl, rfl, by decide +kernel, rfl, by decide +kernel, by decide +kernel⟩
theorem ok_need_row_of : FnOk P w K mg base (L2.CX P w) 3 T.f_need_row_of T.d_need_row_of [("hearer" : Str), ("at" : Str), ("part" : Str)] (spD K cl 3 b_need_row_of) := by
  have O_is_within := ok_is_within (P := P) (w := w) (base := base) T
  refine def_ok (k := 2) T.F_need_row_of sc_need_row_of fun cdv A outer s H E B hr tk => ?_
  have hu : (A.deeper (envOfC "need_row_of" (defScope s_need_row_of) s.heap.objs.size T.f_need_row_of cdv)).units + 64 < cLine := hr.units
  have nd := (sc_need_row_of).nd
  exact (dss_one (ds_if (dt_not (dt_tru (DE.b (de_call O_is_within (hr.mono (by omega)) (by rfl) T.g_is_within T.F_is_within.kp T.b_is_within tk (da_cons (de_var 1 (pv 1)) (da_cons de_int (da_cons (de_bin o_sub (DE.b (de_nary (pe_callB c_len (by rfl) T.n_len (by decide +kernel) (dab_cons (DE.b (de_fld ["Hearer"] T.cf (.cons T.c_Hearer T.a_Hearer_rows .nil) (de_var 0 (pv 0)) rfl)) dab_nil)))) (DE.b de_int)) da_nil))) (na_cons (na_cons (na_cons na_nil))))))) (dss_one ds_never) dss_nil))
omit T in
theorem sc_need_rows_of : FnScope [("one" : Str), ("at" : Str), ("other" : Str), ("to" : Str)] [("one" : Str), ("at" : Str), ("other" : Str), ("to" : Str)] (defScope s_need_rows_of) := ⟨rfl, rfl, rfl, by decide +kernel, rfl, by decide +kernel, by decide +kernel⟩
theorem ok_need_rows_of : FnOk P w K mg base (L2.CX P w) 4 T.f_need_rows_of T.d_need_rows_of [("one" : Str), ("at" : Str), ("other" : Str), ("to" : Str)] (spD K cl 4 b_need_rows_of) := by
  have O_need_hearer := ok_need_hearer (P := P) (w := w) (base := base) T
  have O_need_row_of := ok_need_row_of (P := P) (w := w) (base := base) T
  refine def_ok (k := 3) T.F_need_rows_of sc_need_rows_of fun cdv A outer s H E B hr tk => ?_
  have hu : (A.deeper (envOfC "need_rows_of" (defScope s_need_rows_of) s.heap.objs.size T.f_need_rows_of cdv)).units + 64 < cLine := hr.units
  have nd := (sc_need_rows_of).nd
  exact (dss_cons (ds_expr (DE.b (de_call O_need_hearer (hr.mono (by omega)) (by rfl) T.g_need_hearer T.F_need_hearer.kp T.b_need_hearer tk (da_cons (de_var 0 (pv 0)) da_nil) (na_cons na_nil)))) (dss_cons (ds_expr (DE.b (de_call O_need_row_of (hr.mono (by omega)) (by rfl) T.g_need_row_of T.F_need_row_of.kp T.b_need_row_of tk (da_cons (de_var 0 (pv 0)) (da_cons (de_var 1 (pv 1)) (da_cons de_str da_nil))) (na_cons (na_cons (na_cons na_nil)))))) (dss_cons (ds_expr (DE.b (de_call O_need_hearer (hr.mono (by omega)) (by rfl) T.g_need_hearer T.F_need_hearer.kp T.b_need_hearer tk (da_cons (de_var 2 (pv 2)) da_nil) (na_cons na_nil)))) (dss_one (ds_expr (DE.b (de_call O_need_row_of (hr.mono (by omega)) (by rfl) T.g_need_row_of T.F_need_row_of.kp T.b_need_row_of tk (da_cons (de_var 2 (pv 2)) (da_cons (de_var 3 (pv 3)) (da_cons de_str da_nil))) (na_cons (na_cons (na_cons na_nil))))))))))
omit T in
theorem sc_is_pair : FnScope [("one" : Str), ("other" : Str), ("value" : Str)] [("one" : Str), ("other" : Str), ("value" : Str)] (defScope s_is_pair) := ⟨rfl, rfl, rfl, by decide +kernel, rfl, by decide +kernel, by decide +kernel⟩
theorem ok_is_pair : FnOk P w K mg base (L2.CX P w) 3 T.f_is_pair T.d_is_pair [("one" : Str), ("other" : Str), ("value" : Str)] (spD K cl 3 b_is_pair) := by
  have O_is_within := ok_is_within (P := P) (w := w) (base := base) T
  refine def_ok (k := 2) T.F_is_pair sc_is_pair fun cdv A outer s H E B hr tk => ?_
  have hu : (A.deeper (envOfC "is_pair" (defScope s_is_pair) s.heap.objs.size T.f_is_pair cdv)).units + 64 < cLine := hr.units
  have nd := (sc_is_pair).nd
  exact (dss_cons (ds_if (DW.t (dw_or (dt_not (dt_tru (DE.b (de_isB "tuple" T.cf (pe_callB call_isi (by rfl) T.n_isinstance (by decide +kernel) (pa_cons (DE.b (de_var 2 (pv 2))) (pa_cons (pe_bltn (by rfl) T.n_tuple (by decide +kernel) rfl) pa_nil))))))) (dw_or1 (dt_c2 (o_ne hu) (DE.b (de_nary (pe_callB c_len (by rfl) T.n_len (by decide +kernel) (dab_cons (DE.b (de_var 2 (pv 2))) dab_nil)))) (DE.b de_int) (nomark _))))) (dss_one (ds_ret de_bool)) dss_nil) (dss_one (ds_ret (de_and (de_call O_is_within (hr.mono (by omega)) (by rfl) T.g_is_within T.F_is_within.kp T.b_is_within tk (da_cons (de_ix (DE.b (de_var 2 (pv 2))) (DE.b de_int) fun _ _ => rfl) (da_cons de_int (da_cons (de_bin o_sub (DE.b (de_nary (pe_callB c_len (by rfl) T.n_len (by decide +kernel) (dab_cons (DE.b (de_fld ["Hearer"] T.cf (.cons T.c_Hearer T.a_Hearer_rows .nil) (de_var 0 (pv 0)) rfl)) dab_nil)))) (DE.b de_int)) da_nil))) (na_cons (na_cons (na_cons na_nil)))) (de_one (de_call O_is_within (hr.mono (by omega)) (by rfl) T.g_is_within T.F_is_within.kp T.b_is_within tk (da_cons (de_ix (DE.b (de_var 2 (pv 2))) (DE.b de_int) fun _ _ => rfl) (da_cons de_int (da_cons (de_bin o_sub (DE.b (de_nary (pe_callB c_len (by rfl) T.n_len (by decide +kernel) (dab_cons (DE.b (de_fld ["Hearer"] T.cf (.cons T.c_Hearer T.a_Hearer_rows .nil) (de_var 1 (pv 1)) rfl)) dab_nil)))) (DE.b de_int)) da_nil))) (na_cons (na_cons (na_cons na_nil)))))))))
omit T in
theorem sc_are_same : FnScope [("one" : Str), ("at" : Str), ("other" : Str), ("to" : Str), ("pairs" : Str), ("known" : Str), ("mine" : Str), ("its" : Str), ("pair" : Str), ("row" : Str), ("that" : Str), ("answer" : Str), ("reply" : Str)] [("one" : Str), ("at" : Str), ("other" : Str), ("to" : Str), ("pairs" : Str)] (defScope s_are_same) := ⟨rfl, rfl, rfl, by decide +kernel, rfl, by decide +kernel, by decide +kernel⟩
theorem ok_are_same : FnOk P w K mg base (L2.CX P w) 4 T.f_are_same T.d_are_same [("one" : Str), ("at" : Str), ("other" : Str), ("to" : Str), ("pairs" : Str)] (spD K cl 5 b_are_same) := by
  have O_is_pair := ok_is_pair (P := P) (w := w) (base := base) T
  have O_sign_of := ok_sign_of (P := P) (w := w) (base := base) T
  refine def_ok (k := 3) T.F_are_same sc_are_same fun cdv A outer s H E B hr tk => ?_
  have hu : (A.deeper (envOfC "are_same" (defScope s_are_same) s.heap.objs.size T.f_are_same cdv)).units + 64 < cLine := hr.units
  have nd := (sc_are_same).nd
  exact (dss_cons (ds_if (DW.t (dw_or (dt_not (dt_tru (DE.b (de_isB "tuple" T.cf (pe_callB call_isi (by rfl) T.n_isinstance (by decide +kernel) (pa_cons (DE.b (de_var 4 (pv 4))) (pa_cons (pe_bltn (by rfl) T.n_tuple (by decide +kernel) rfl) pa_nil))))))) (dw_or1 (dt_not (dt_tru (DE.b (de_nary (pe_callB (c_all rfl) (by rfl) T.n_all (by decide +kernel) (dab_cons (DF.b (df_comp (pe_lc (own := [("pair", 8)]) rfl nd (di_seq (de_var 4 (pv 4))) (blkOk_by (by walk_at "blk_go")) (fun _ _ _ _ _ => (dg_name 8 (pg_name nd (by rfl) (by first | exact Or.inl rfl | exact Or.inr rfl)))) (fun _ _ _ _ _ => dts_nil) (fun _ _ _ _ _ => (de_call O_is_pair (hr.mono (by omega)) (by rfl) T.g_is_pair T.F_is_pair.kp T.b_is_pair L2.takes0 (da_cons (de_var 0 (pv 0)) (da_cons (de_var 2 (pv 2)) (da_cons (de_var 8 (pv 8)) da_nil))) (na_cons (na_cons (na_cons na_nil)))))) (by decide))) dab_nil))))))))) (dss_one (ds_ret de_bool)) dss_nil) (dss_cons (ds_asg (de_dcompT (lt64 hu) (pe_dx (kdT _ (lt64 hu)) (own := [("pair", 8)]) rfl nd (di_seq (de_var 4 (pv 4))) (blkOk_by (by walk_at "blk_go")) (fun _ _ _ _ _ => (dg_name 8 (pg_name nd (by rfl) (by first | exact Or.inl rfl | exact Or.inr rfl)))) (fun _ _ _ _ _ => dts_nil) (fun _ _ _ _ _ => (de_var 8 (pv 8))) (fun _ _ _ _ _ => de_bool)) (by decide)) (dg_name 5 (pg_name nd (by rfl) (by first | exact Or.inl rfl | exact Or.inr rfl)))) (dss_cons (ds_if (DW.t (dw_or (dt_c2 (o_notInD hu) (DE.b (de_tup (da_cons (de_var 1 (pv 1)) (da_cons (de_var 3 (pv 3)) da_nil)))) (DE.b (de_var 5 (pv 5))) (by rfl)) (dw_or1 (dt_c2 (o_ne hu) (DE.b (de_nary (pe_callB c_lenD (by rfl) T.n_len (by decide +kernel) (dab_cons (DE.b (de_var 5 (pv 5))) dab_nil)))) (DE.b (de_nary (pe_callB c_len (by rfl) T.n_len (by decide +kernel) (dab_cons (DE.b (de_var 4 (pv 4))) dab_nil)))) (nomark _))))) (dss_one (ds_ret de_bool)) dss_nil) (dss_cons (ds_for (passes_of rfl) rfl (di_seq (de_var 4 (pv 4))) (dg_tup rfl (dgs_cons (dg_name 6 (pg_name nd (by rfl) (by first | exact Or.inl rfl | exact Or.inr rfl))) (dgs_cons (dg_name 7 (pg_name nd (by rfl) (by first | exact Or.inl rfl | exact Or.inr rfl))) dgs_nil)) (glS (glS gl0))) (dss_cons (ds_par (i := 9) (j := 10) (ps_par rfl nd (by rfl) (by rfl) (by decide) (by rfl) (by rfl) (dos_cons (DE.o (de_ix (DE.b (de_fld ["Hearer"] T.cf (.cons T.c_Hearer T.a_Hearer_rows .nil) (de_var 0 (pv 0)) rfl)) (DE.b (de_var 6 (pv 6))) fun _ _ => rfl)) (dos_cons (DE.o (de_ix (DE.b (de_fld ["Hearer"] T.cf (.cons T.c_Hearer T.a_Hearer_rows .nil) (de_var 2 (pv 2)) rfl)) (DE.b (de_var 7 (pv 7))) fun _ _ => rfl)) dos_nil)) (by rfl))) (dss_cons (ds_if (dt_c2 (o_ne hu) (DE.b (de_call O_sign_of (hr.mono (by omega)) (by rfl) T.g_sign_of T.F_sign_of.kp T.b_sign_of tk (da_cons (de_var 9 (pv 9)) da_nil) (na_cons na_nil))) (DE.b (de_call O_sign_of (hr.mono (by omega)) (by rfl) T.g_sign_of T.F_sign_of.kp T.b_sign_of tk (da_cons (de_var 10 (pv 10)) da_nil) (na_cons na_nil))) (nomark _)) (dss_one (ds_ret de_bool)) dss_nil) (dss_one (ds_if (dt_not (dt_tru (DE.b (de_nary (pe_callB (c_all rfl) (by rfl) T.n_all (by decide +kernel) (dab_cons (DF.b (df_comp (pe_lc (own := [("answer", 11), ("reply", 12)]) rfl nd (di_zip (by rfl) T.n_zip (de_var 9 (pv 9)) (de_var 10 (pv 10))) (blkOk_by (by walk_at "blk_go")) (fun _ _ _ _ _ => (dg_tup rfl (dgs_cons (dg_name 11 (pg_name nd (by rfl) (by first | exact Or.inl rfl | exact Or.inr rfl))) (dgs_cons (dg_name 12 (pg_name nd (by rfl) (by first | exact Or.inl rfl | exact Or.inr rfl))) dgs_nil)) (glS (glS gl0)))) (fun _ _ _ _ _ => dts_nil) (fun _ _ _ _ _ => (de_c2 (o_inD hu) (DE.b (de_tup (da_cons (de_ix (DE.b (de_var 11 (pv 11))) (DE.b de_int) fun _ _ => rfl) (da_cons (de_ix (DE.b (de_var 12 (pv 12))) (DE.b de_int) fun _ _ => rfl) da_nil)))) (DE.b (de_var 5 (pv 5))) (by rfl)))) (by decide))) dab_nil)))))) (dss_one (ds_ret de_bool)) dss_nil))))) (dss_one (ds_ret de_bool))))))
omit T in
theorem sc_is_unlike : FnScope [("one" : Str), ("at" : Str), ("other" : Str), ("to" : Str), ("heard" : Str), ("letter" : Str), ("mine" : Str), ("its" : Str)] [("one" : Str), ("at" : Str), ("other" : Str), ("to" : Str), ("heard" : Str)] (defScope s_is_unlike) := ⟨rfl, rfl, rfl, by decide +kernel, rfl, by decide +kernel, by decide +kernel⟩
theorem ok_is_unlike : FnOk P w K mg base (L2.CX P w) 2 T.f_is_unlike T.d_is_unlike [("one" : Str), ("at" : Str), ("other" : Str), ("to" : Str), ("heard" : Str)] (spD K cl 5 b_is_unlike) := by
  have O_is_name := ok_is_name (P := P) (w := w) (base := base) T
  have O_Hearer_answer := ok_Hearer_answer (P := P) (w := w) (base := base) T
  refine def_ok (k := 1) T.F_is_unlike sc_is_unlike fun cdv A outer s H E B hr tk => ?_
  have hu : (A.deeper (envOfC "is_unlike" (defScope s_is_unlike) s.heap.objs.size T.f_is_unlike cdv)).units + 64 < cLine := hr.units
  have nd := (sc_is_unlike).nd
  exact (dss_cons (ds_if (DW.t (dw_or (dt_not (dt_tru (DE.b (de_isB "tuple" T.cf (pe_callB call_isi (by rfl) T.n_isinstance (by decide +kernel) (pa_cons (DE.b (de_var 4 (pv 4))) (pa_cons (pe_bltn (by rfl) T.n_tuple (by decide +kernel) rfl) pa_nil))))))) (dw_or (dt_c2 (o_eq hu) (DE.b (de_nary (pe_callB c_len (by rfl) T.n_len (by decide +kernel) (dab_cons (DE.b (de_var 4 (pv 4))) dab_nil)))) (DE.b de_int) (nomark _)) (dw_or1 (dt_not (dt_tru (DE.b (de_nary (pe_callB (c_all rfl) (by rfl) T.n_all (by decide +kernel) (dab_cons (DF.b (df_comp (pe_lc (own := [("letter", 5)]) rfl nd (di_seq (de_var 4 (pv 4))) (blkOk_by (by walk_at "blk_go")) (fun _ _ _ _ _ => (dg_name 5 (pg_name nd (by rfl) (by first | exact Or.inl rfl | exact Or.inr rfl)))) (fun _ _ _ _ _ => dts_nil) (fun _ _ _ _ _ => (de_call O_is_name (hr.mono (by omega)) (by rfl) T.g_is_name T.F_is_name.kp T.b_is_name L2.takes0 (da_cons (de_var 5 (pv 5)) da_nil) (na_cons na_nil)))) (by decide))) dab_nil)))))))))) (dss_one (ds_ret de_bool)) dss_nil) (dss_cons (ds_for (passes_of rfl) rfl (di_seq (de_slT (DE.b (de_var 4 (pv 4))) dpo_none (dpo_some (DE.b (de_neg (DE.b de_int)))))) (dg_name 5 (pg_name nd (by rfl) (by first | exact Or.inl rfl | exact Or.inr rfl))) (dss_cons (ds_par (i := 6) (j := 7) (ps_par rfl nd (by rfl) (by rfl) (by decide) (by rfl) (by rfl) (dos_cons (DE.o (de_meth T.cf T.c_Hearer T.H_Hearer_answer O_Hearer_answer (hr.mono (by omega)) T.b_Hearer_answer tk (de_var 0 (pv 0)) (da_cons (de_var 1 (pv 1)) (da_cons (de_var 5 (pv 5)) da_nil)) (lenS (na_cons (na_cons na_nil))))) (dos_cons (DE.o (de_meth T.cf T.c_Hearer T.H_Hearer_answer O_Hearer_answer (hr.mono (by omega)) T.b_Hearer_answer tk (de_var 2 (pv 2)) (da_cons (de_var 3 (pv 3)) (da_cons (de_var 5 (pv 5)) da_nil)) (lenS (na_cons (na_cons na_nil))))) dos_nil)) (by rfl))) (dss_cons (ds_if (DW.t (dw_or (dt_isN (DE.b (de_var 6 (pv 6)))) (dw_or1 (dt_isN (DE.b (de_var 7 (pv 7))))))) (dss_one (ds_ret de_bool)) dss_nil) (dss_one (ds_par (i := 1) (j := 3) (ps_par rfl nd (by rfl) (by rfl) (by decide) (by rfl) (by rfl) (dos_cons (DE.o (de_ix (DE.b (de_var 6 (pv 6))) (DE.b de_int) fun _ _ => rfl)) (dos_cons (DE.o (de_ix (DE.b (de_var 7 (pv 7))) (DE.b de_int) fun _ _ => rfl)) dos_nil)) (by rfl))))))) (dss_cons (ds_par (i := 6) (j := 7) (ps_par rfl nd (by rfl) (by rfl) (by decide) (by rfl) (by rfl) (dos_cons (DE.o (de_meth T.cf T.c_Hearer T.H_Hearer_answer O_Hearer_answer (hr.mono (by omega)) T.b_Hearer_answer tk (de_var 0 (pv 0)) (da_cons (de_var 1 (pv 1)) (da_cons (de_ix (DE.b (de_var 4 (pv 4))) (DE.b (de_neg (DE.b de_int))) fun _ _ => rfl) da_nil)) (lenS (na_cons (na_cons na_nil))))) (dos_cons (DE.o (de_meth T.cf T.c_Hearer T.H_Hearer_answer O_Hearer_answer (hr.mono (by omega)) T.b_Hearer_answer tk (de_var 2 (pv 2)) (da_cons (de_var 3 (pv 3)) (da_cons (de_ix (DE.b (de_var 4 (pv 4))) (DE.b (de_neg (DE.b de_int))) fun _ _ => rfl) da_nil)) (lenS (na_cons (na_cons na_nil))))) dos_nil)) (by rfl))) (dss_cons (ds_if (DW.t (dw_or (dt_isN (DE.b (de_var 6 (pv 6)))) (dw_or1 (dt_isN (DE.b (de_var 7 (pv 7))))))) (dss_one (ds_ret (de_c2 (o_ne hu) (DE.b (de_isN (DE.b (de_var 6 (pv 6))))) (DE.b (de_isN (DE.b (de_var 7 (pv 7))))) (nomark _)))) dss_nil) (dss_one (ds_ret (de_c2 (o_ne hu) (DE.b (de_ix (DE.b (de_var 6 (pv 6))) (DE.b de_int) fun _ _ => rfl)) (DE.b (de_ix (DE.b (de_var 7 (pv 7))) (DE.b de_int) fun _ _ => rfl)) (nomark _))))))))
omit T in
theorem sc_shows_same : FnScope [("one" : Str), ("at" : Str), ("other" : Str), ("to" : Str), ("value" : Str)] [("one" : Str), ("at" : Str), ("other" : Str), ("to" : Str), ("value" : Str)] (defScope s_shows_same) := ⟨rfl, rfl, rfl, by decide +kernel, rfl, by decide +kernel, by decide +kernel⟩
theorem ok_shows_same : FnOk P w K mg base (L2.CX P w) 5 T.f_shows_same T.d_shows_same [("one" : Str), ("at" : Str), ("other" : Str), ("to" : Str), ("value" : Str)] (spD K cl 5 b_shows_same) := by
  have O_need_rows_of := ok_need_rows_of (P := P) (w := w) (base := base) T
  have O_are_same := ok_are_same (P := P) (w := w) (base := base) T
  have O_is_unlike := ok_is_unlike (P := P) (w := w) (base := base) T
  refine def_ok (k := 4) T.F_shows_same sc_shows_same fun cdv A outer s H E B hr tk => ?_
  have hu : (A.deeper (envOfC "shows_same" (defScope s_shows_same) s.heap.objs.size T.f_shows_same cdv)).units + 64 < cLine := hr.units
  have nd := (sc_shows_same).nd
  exact (dss_cons (ds_expr (DE.b (de_call O_need_rows_of (hr.mono (by omega)) (by rfl) T.g_need_rows_of T.F_need_rows_of.kp T.b_need_rows_of tk (da_cons (de_var 0 (pv 0)) (da_cons (de_var 1 (pv 1)) (da_cons (de_var 2 (pv 2)) (da_cons (de_var 3 (pv 3)) da_nil)))) (na_cons (na_cons (na_cons (na_cons na_nil))))))) (dss_cons (ds_if (dt_tru (DE.b (de_isC "Same" T.cf T.c_Same (pe_callB call_isi (by rfl) T.n_isinstance (by decide +kernel) (pa_cons (DE.b (de_var 4 (pv 4))) (pa_cons (pe_glob (by rfl) T.g_Same rfl) pa_nil)))))) (dss_one (ds_ret (de_call O_are_same (hr.mono (by omega)) (by rfl) T.g_are_same T.F_are_same.kp T.b_are_same tk (da_cons (de_var 0 (pv 0)) (da_cons (de_var 1 (pv 1)) (da_cons (de_var 2 (pv 2)) (da_cons (de_var 3 (pv 3)) (da_cons (de_fld ["Same"] T.cf (.cons T.c_Same T.a_Same_pairs .nil) (de_var 4 (pv 4)) rfl) da_nil))))) (na_cons (na_cons (na_cons (na_cons (na_cons na_nil)))))))) dss_nil) (dss_one (ds_ret (de_and (de_isC "Unlike" T.cf T.c_Unlike (pe_callB call_isi (by rfl) T.n_isinstance (by decide +kernel) (pa_cons (DE.b (de_var 4 (pv 4))) (pa_cons (pe_glob (by rfl) T.g_Unlike rfl) pa_nil)))) (de_one (de_call O_is_unlike (hr.mono (by omega)) (by rfl) T.g_is_unlike T.F_is_unlike.kp T.b_is_unlike tk (da_cons (de_var 0 (pv 0)) (da_cons (de_var 1 (pv 1)) (da_cons (de_var 2 (pv 2)) (da_cons (de_var 3 (pv 3)) (da_cons (de_fld ["Unlike"] T.cf (.cons T.c_Unlike T.a_Unlike_heard .nil) (de_var 4 (pv 4)) rfl) da_nil))))) (na_cons (na_cons (na_cons (na_cons (na_cons na_nil))))))))))))
omit T in
theorem sc_law_pen : FnScope [("script" : Str), ("cell" : Str)] [("script" : Str)] (defScope s_law_pen) := ⟨rfl, rfl, rfl, by decide +kernel, rfl, by decide +kernel, by decide +kernel⟩
theorem ok_law_pen : FnOk P w K mg base (L2.CX P w) 1 T.f_law_pen T.d_law_pen [("script" : Str)] (spD K cl 1 b_law_pen) := by
  refine def_ok (k := 0) T.F_law_pen sc_law_pen fun cdv A outer s H E B hr tk => ?_
  have hu : (A.deeper (envOfC "_law_pen" (defScope s_law_pen) s.heap.objs.size T.f_law_pen cdv)).units + 64 < cLine := hr.units
  have nd := (sc_law_pen).nd
  exact (dss_one (ds_ret (DF.loc (df_lst (da_cons (DF.e (df_comp (pe_lc (own := [("cell", 1)]) rfl nd (di_lst (df_slL (DE.b (de_var 0 (pv 0))) dpo_none (dpo_some (DE.b de_int)))) (blkOk_by (by walk_at "blk_go")) (fun _ _ _ _ _ => (dg_name 1 (pg_name nd (by rfl) (by first | exact Or.inl rfl | exact Or.inr rfl)))) (fun _ _ _ _ _ => dts_nil) (fun _ _ _ _ _ => (de_nary (pe_callTy c_int (by rfl) T.n_int (by decide +kernel) (dab_cons (DE.b (de_var 1 (pv 1))) dab_nil))))) (by decide))) (da_cons de_int (da_cons de_int da_nil)))))))
omit T in
theorem sc_law_draw : FnScope [("pen" : Str), ("many" : Str), ("at" : Str), ("cell" : Str), ("mixed" : Str), ("rest" : Str)] [("pen" : Str), ("many" : Str)] (defScope s_law_draw) := ⟨rfl, rfl, rfl, by decide +kernel, rfl, by decide +kernel, by decide +kernel⟩
theorem ok_law_draw : FnOk P w K mg base (L2.CX P w) 1 T.f_law_draw T.d_law_draw [("pen" : Str), ("many" : Str)] (spD K cl 2 b_law_draw) := by
  refine def_ok (k := 0) T.F_law_draw sc_law_draw fun cdv A outer s H E B hr tk => ?_
  have hu : (A.deeper (envOfC "_law_draw" (defScope s_law_draw) s.heap.objs.size T.f_law_draw cdv)).units + 64 < cLine := hr.units
  have nd := (sc_law_draw).nd
  exact (dss_cons (ds_if (dt_c2 o_gt (DE.b (de_ix (DE.b (de_var 0 (pv 0))) (DE.b de_int) fun _ _ => rfl)) (DE.b de_int) (nomark _)) (dss_cons (ds_asg (de_nary (pe_callTy c_int (by rfl) T.n_int (by decide +kernel) (dab_cons (DE.b (de_ix (DE.b (de_var 0 (pv 0))) (DE.b de_int) fun _ _ => rfl)) dab_nil))) (dg_name 5 (pg_name nd (by rfl) (by first | exact Or.inl rfl | exact Or.inr rfl)))) (dss_cons (ds_setIx (ps_asg (de_bin o_div (DE.b (de_var 5 (pv 5))) (DE.b (de_var 1 (pv 1)))) (pg_sub (de_var 0 (pv 0)) de_int set_list))) (dss_one (ds_ret (de_bin o_mod (DE.b (de_nary (pe_callTy c_int (by rfl) T.n_int (by decide +kernel) (dab_cons (DE.b (de_var 5 (pv 5))) dab_nil)))) (DE.b (de_var 1 (pv 1)))))))) dss_nil) (dss_cons (ds_asg (de_ix (DE.b (de_var 0 (pv 0))) (DE.b de_int) fun _ _ => rfl) (dg_name 2 (pg_name nd (by rfl) (by first | exact Or.inl rfl | exact Or.inr rfl)))) (dss_cons (ds_setIx (ps_asg (de_bin o_add (DE.b (de_var 2 (pv 2))) (DE.b de_int)) (pg_sub (de_var 0 (pv 0)) de_int set_list))) (dss_cons (ds_asg (de_bin o_add (DE.b (de_bin o_mul (DE.b de_int) (DE.b (de_var 2 (pv 2))))) (DE.b de_int)) (dg_name 3 (pg_name nd (by rfl) (by first | exact Or.inl rfl | exact Or.inr rfl)))) (dss_cons (ds_if (dt_c2 (o_ne hu) (DE.b (de_ix (DE.b (de_var 0 (pv 0))) (DE.b de_int) fun _ _ => rfl)) (DF.b (df_lst da_nil)) (nomark _)) (dss_one (ds_asg (de_ix (DE.b (de_ix (DE.b (de_var 0 (pv 0))) (DE.b de_int) fun _ _ => rfl)) (DE.b (de_bin o_mod (DE.b (de_nary (pe_callTy c_int (by rfl) T.n_int (by decide +kernel) (dab_cons (DE.b (de_var 2 (pv 2))) dab_nil)))) (DE.b (de_nary (pe_callB c_len (by rfl) T.n_len (by decide +kernel) (dab_cons (DE.b (de_ix (DE.b (de_var 0 (pv 0))) (DE.b de_int) fun _ _ => rfl)) dab_nil)))))) fun _ _ => rfl) (dg_name 3 (pg_name nd (by rfl) (by first | exact Or.inl rfl | exact Or.inr rfl))))) dss_nil) (dss_cons (ds_if (DW.t (dw_and (dt_c2 o_lt (DE.b (de_var 2 (pv 2))) (DE.b (de_nary (pe_callB c_len (by rfl) T.n_len (by decide +kernel) (dab_cons (DE.b (de_ix (DE.b (de_var 0 (pv 0))) (DE.b de_int) fun _ _ => rfl)) dab_nil)))) (nomark _)) (dw_and1 (dt_c2 o_ge (DE.b (de_nary (pe_callB c_abs (by rfl) T.n_abs (by decide +kernel) (dab_cons (DE.b (de_var 3 (pv 3))) dab_nil)))) (DE.b (de_bin o_pow (DE.b de_int) (DE.b de_int))) (nomark _))))) (dss_cons (ds_asg (de_bin o_add (DE.b (de_bin o_mul (DE.b de_int) (DE.b (de_bin o_sub (DE.b (de_nary (pe_callB c_abs (by rfl) T.n_abs (by decide +kernel) (dab_cons (DE.b (de_var 3 (pv 3))) dab_nil)))) (DE.b (de_bin o_pow (DE.b de_int) (DE.b de_int))))))) (DE.b (de_nary (pe_callTy c_int (by rfl) T.n_int (by decide +kernel) (dab_cons (DE.b (de_c2 o_lt (DE.b (de_var 3 (pv 3))) (DE.b de_int) (nomark _))) dab_nil))))) (dg_name 5 (pg_name nd (by rfl) (by first | exact Or.inl rfl | exact Or.inr rfl)))) (dss_cons (ds_setIx (ps_asg (de_bin o_div (DE.b (de_nary (pe_callTy c_int (by rfl) T.n_int (by decide +kernel) (dab_cons (DE.b (de_var 5 (pv 5))) dab_nil)))) (DE.b (de_var 1 (pv 1)))) (pg_sub (de_var 0 (pv 0)) de_int set_list))) (dss_one (ds_ret (de_bin o_mod (DE.b (de_nary (pe_callTy c_int (by rfl) T.n_int (by decide +kernel) (dab_cons (DE.b (de_var 5 (pv 5))) dab_nil)))) (DE.b (de_var 1 (pv 1)))))))) dss_nil) (dss_cons (ds_asg (de_bin o_mod (DE.b (de_nary (pe_callTy c_int (by rfl) T.n_int (by decide +kernel) (dab_cons (DE.b (de_bin o_pow (DE.b (de_bin o_add (DE.b (de_bin o_add (DE.b (de_bin o_mod (DE.b (de_nary (pe_callTy c_int (by rfl) T.n_int (by decide +kernel) (dab_cons (DE.b (de_var 3 (pv 3))) dab_nil)))) (DE.b de_int))) (DE.b (de_bin o_mul (DE.b de_int) (DE.b (de_var 2 (pv 2))))))) (DE.b de_int))) (DE.b de_int))) dab_nil)))) (DE.b de_int)) (dg_name 4 (pg_name nd (by rfl) (by first | exact Or.inl rfl | exact Or.inr rfl)))) (dss_cons (ds_asg (de_bin o_mod (DE.b (de_nary (pe_callTy c_int (by rfl) T.n_int (by decide +kernel) (dab_cons (DE.b (de_bin o_pow (DE.b (de_bin o_add (DE.b (de_bin o_add (DE.b (de_bin o_mul (DE.b (de_var 4 (pv 4))) (DE.b (de_bin o_add (DE.b (de_bin o_mul (DE.b de_int) (DE.b (de_var 2 (pv 2))))) (DE.b de_int))))) (DE.b (de_bin o_mul (DE.b (de_bin o_mul (DE.b de_int) (DE.b (de_var 2 (pv 2))))) (DE.b (de_var 2 (pv 2))))))) (DE.b de_int))) (DE.b de_int))) dab_nil)))) (DE.b de_int)) (dg_name 4 (pg_name nd (by rfl) (by first | exact Or.inl rfl | exact Or.inr rfl)))) (dss_one (ds_ret (de_bin o_mod (DE.b (de_nary (pe_callTy c_int (by rfl) T.n_int (by decide +kernel) (dab_cons (DE.b (de_bin o_div (DE.b (de_var 4 (pv 4))) (DE.b de_int))) dab_nil)))) (DE.b (de_var 1 (pv 1))))))))))))))
omit T in
theorem sc_law_pick : FnScope [("pen" : Str), ("some" : Str)] [("pen" : Str), ("some" : Str)] (defScope s_law_pick) := ⟨rfl, rfl, rfl, by decide +kernel, rfl, by decide +kernel, by decide +kernel⟩
theorem ok_law_pick : FnOk P w K mg base (L2.CX P w) 2 T.f_law_pick T.d_law_pick [("pen" : Str), ("some" : Str)] (spD K cl 2 b_law_pick) := by
  have O_law_draw := ok_law_draw (P := P) (w := w) (base := base) T
  refine def_ok (k := 1) T.F_law_pick sc_law_pick fun cdv A outer s H E B hr tk => ?_
  have hu : (A.deeper (envOfC "_law_pick" (defScope s_law_pick) s.heap.objs.size T.f_law_pick cdv)).units + 64 < cLine := hr.units
  have nd := (sc_law_pick).nd
  exact (dss_one (ds_ret (de_ix (DE.b (de_var 1 (pv 1))) (DE.b (de_call O_law_draw (hr.mono (by omega)) (by rfl) T.g_law_draw T.F_law_draw.kp T.b_law_draw tk (da_cons (de_var 0 (pv 0)) (da_cons (de_nary (pe_callB c_len (by rfl) T.n_len (by decide +kernel) (dab_cons (DE.b (de_var 1 (pv 1))) dab_nil))) da_nil)) (na_cons (na_cons na_nil)))) fun _ _ => rfl)))
theorem ok_law_pick_b : FnOk P w K mg base (L2.CX P w) 2 T.f_law_pick T.d_law_pick [("pen" : Str), ("some" : Str)] (spB K cl [false, true] b_law_pick_b) := by
  have O_law_draw := ok_law_draw (P := P) (w := w) (base := base) T
  refine defB_ok (k := 1) [false, true] rfl T.F_law_pick sc_law_pick fun cdv A outer s H E B hr tk => ?_
  have hu : (A.deeper (envOfC "_law_pick" (defScope s_law_pick) s.heap.objs.size T.f_law_pick cdv)).units + 64 < cLine := hr.units
  have nd := (sc_law_pick).nd
  exact (dss_one (ds_ret (de_ix (db_bor 1 (pv 1)) (DE.b (de_call O_law_draw (hr.mono (by omega)) (by rfl) T.g_law_draw T.F_law_draw.kp T.b_law_draw tk (da_cons (de_var 0 (pv 0)) (da_cons (de_nary (pe_callB c_len (by rfl) T.n_len (by decide +kernel) (dab_cons (db_bor 1 (pv 1)) dab_nil))) da_nil)) (na_cons (na_cons na_nil)))) fun _ _ => rfl)))
omit T in
theorem sc_law_mixed : FnScope [("pen" : Str), ("some" : Str), ("left" : Str), ("found" : Str)] [("pen" : Str), ("some" : Str)] (defScope s_law_mixed) := ⟨rfl, rfl, rfl, by decide +kernel, rfl, by decide +kernel, by decide +kernel⟩
theorem ok_law_mixed : FnOk P w K mg base (L2.CX P w) 2 T.f_law_mixed T.d_law_mixed [("pen" : Str), ("some" : Str)] (spD K cl 2 b_law_mixed) := by
  have O_law_draw := ok_law_draw (P := P) (w := w) (base := base) T
  refine def_ok (k := 1) T.F_law_mixed sc_law_mixed fun cdv A outer s H E B hr tk => ?_
  have hu : (A.deeper (envOfC "_law_mixed" (defScope s_law_mixed) s.heap.objs.size T.f_law_mixed cdv)).units + 64 < cLine := hr.units
  have nd := (sc_law_mixed).nd
  exact (dss_cons (ds_par (i := 2) (j := 3) (ps_par rfl nd (by rfl) (by rfl) (by decide) (by rfl) (by rfl) (dos_cons (DF.o (df_nary (pe_callTy c_list (by rfl) T.n_list (by decide +kernel) (dab_cons (DE.b (de_var 1 (pv 1))) dab_nil)))) (dos_cons (DF.o (df_lst da_nil)) dos_nil)) (by rfl))) (dss_cons (ds_while 100000 (passes_of rfl) (dt_c2 (o_ne hu) (db_own 2 (pv 2)) (DF.b (df_lst da_nil)) (nomark _)) (dss_one (ds_appendX 3 (ps_expr (pe_bm PySem.F.plainAttrs_list PySem.F.slot_list_append PySem.F.type_list_append mt_append (pv 3) (pa_cons (dx_popAt 2 (pe_bm PySem.F.plainAttrs_list PySem.F.slot_list_pop PySem.F.type_list_pop mt_popAt (pv 2) (pa_cons (de_call O_law_draw (hr.mono (by omega)) (by rfl) T.g_law_draw T.F_law_draw.kp T.b_law_draw tk (da_cons (de_var 0 (pv 0)) (da_cons (de_nary (pe_callB c_len (by rfl) T.n_len (by decide +kernel) (dab_cons (db_own 2 (pv 2)) dab_nil))) da_nil)) (na_cons (na_cons na_nil))) pa_nil))) pa_nil)))))) (dss_frz 3 (dss_one (ds_ret (de_var 3 (pv 3)))))))
theorem ok_law_mixed_b : FnOk P w K mg base (L2.CX P w) 2 T.f_law_mixed T.d_law_mixed [("pen" : Str), ("some" : Str)] (spB K cl [false, true] b_law_mixed_b) := by
  have O_law_draw := ok_law_draw (P := P) (w := w) (base := base) T
  refine defB_ok (k := 1) [false, true] rfl T.F_law_mixed sc_law_mixed fun cdv A outer s H E B hr tk => ?_
  have hu : (A.deeper (envOfC "_law_mixed" (defScope s_law_mixed) s.heap.objs.size T.f_law_mixed cdv)).units + 64 < cLine := hr.units
  have nd := (sc_law_mixed).nd
  exact (dss_cons (ds_par (i := 2) (j := 3) (ps_par rfl nd (by rfl) (by rfl) (by decide) (by rfl) (by rfl) (dos_cons (DF.o (df_nary (pe_callTy c_list (by rfl) T.n_list (by decide +kernel) (dab_cons (db_bor 1 (pv 1)) dab_nil)))) (dos_cons (DF.o (df_lst da_nil)) dos_nil)) (by rfl))) (dss_cons (ds_while 100000 (passes_of rfl) (dt_c2 (o_ne hu) (db_own 2 (pv 2)) (DF.b (df_lst da_nil)) (nomark _)) (dss_one (ds_appendX 3 (ps_expr (pe_bm PySem.F.plainAttrs_list PySem.F.slot_list_append PySem.F.type_list_append mt_append (pv 3) (pa_cons (dx_popAt 2 (pe_bm PySem.F.plainAttrs_list PySem.F.slot_list_pop PySem.F.type_list_pop mt_popAt (pv 2) (pa_cons (de_call O_law_draw (hr.mono (by omega)) (by rfl) T.g_law_draw T.F_law_draw.kp T.b_law_draw tk (da_cons (de_var 0 (pv 0)) (da_cons (de_nary (pe_callB c_len (by rfl) T.n_len (by decide +kernel) (dab_cons (db_own 2 (pv 2)) dab_nil))) da_nil)) (na_cons (na_cons na_nil))) pa_nil))) pa_nil)))))) (dss_frz 3 (dss_one (ds_ret (de_var 3 (pv 3)))))))
omit T in
theorem sc_law_s_hearer : FnScope [("pen" : Str), ("names" : Str), ("most" : Str), ("at" : Str), ("many" : Str), ("found" : Str), ("row" : Str), ("name" : Str)] [("pen" : Str), ("names" : Str), ("most" : Str)] (defScope s_law_s_hearer) := ⟨rfl, rfl, rfl, by decide +kernel, rfl, by decide +kernel, by decide +kernel⟩
theorem ok_law_s_hearer : FnOk P w K mg base (L2.CX P w) 3 T.f_law_s_hearer T.d_law_s_hearer [("pen" : Str), ("names" : Str), ("most" : Str)] (spD K cl 3 b_law_s_hearer) := by
  have O_law_draw := ok_law_draw (P := P) (w := w) (base := base) T
  have O_law_pick := ok_law_pick (P := P) (w := w) (base := base) T
  refine def_ok (k := 2) T.F_law_s_hearer sc_law_s_hearer fun cdv A outer s H E B hr tk => ?_
  have hu : (A.deeper (envOfC "_law_s_hearer" (defScope s_law_s_hearer) s.heap.objs.size T.f_law_s_hearer cdv)).units + 64 < cLine := hr.units
  have nd := (sc_law_s_hearer).nd
  exact (dss_cons (ds_par (i := 4) (j := 5) (ps_par rfl nd (by rfl) (by rfl) (by decide) (by rfl) (by rfl) (dos_cons (DE.o (de_bin o_add (DE.b de_int) (DE.b (de_call O_law_draw (hr.mono (by omega)) (by rfl) T.g_law_draw T.F_law_draw.kp T.b_law_draw tk (da_cons (de_var 0 (pv 0)) (da_cons (de_var 2 (pv 2)) da_nil)) (na_cons (na_cons na_nil)))))) (dos_cons (DF.o (df_lst da_nil)) dos_nil)) (by rfl))) (dss_cons (ds_for (passes_of rfl) rfl (di_rng1 (by rfl) T.n_range (de_var 4 (pv 4))) (dg_name 3 (pg_name nd (by rfl) (by first | exact Or.inl rfl | exact Or.inr rfl))) (dss_cons (ds_own (df_lst da_nil) (pg_name nd (by rfl) (by first | exact Or.inl rfl | exact Or.inr rfl))) (dss_cons (ds_for (passes_of rfl) rfl (di_lst (df_nary (pe_callB c_sorted (by rfl) T.n_sorted (by decide +kernel) (dab_cons (DE.b (de_var 1 (pv 1))) dab_nil)))) (dg_name 7 (pg_name nd (by rfl) (by first | exact Or.inl rfl | exact Or.inr rfl))) (dss_one (ds_if (dt_c2 o_gt (DE.b (de_call O_law_draw (hr.mono (by omega)) (by rfl) T.g_law_draw T.F_law_draw.kp T.b_law_draw tk (da_cons (de_var 0 (pv 0)) (da_cons de_int da_nil)) (na_cons (na_cons na_nil)))) (DE.b de_int) (nomark _)) (dss_one (ds_append 6 (ps_expr (pe_bm PySem.F.plainAttrs_list PySem.F.slot_list_append PySem.F.type_list_append mt_append (pv 6) (pa_cons (de_tup (da_cons (de_var 7 (pv 7)) (da_cons (de_call O_law_pick (hr.mono (by omega)) (by rfl) T.g_law_pick T.F_law_pick.kp T.b_law_pick tk (da_cons (de_var 0 (pv 0)) (da_cons (DF.e (df_lst (da_cons (de_tup da_nil) (da_cons (de_tup (da_cons de_int da_nil)) (da_cons (de_tup (da_cons de_int da_nil)) (da_cons (de_tup (da_cons de_int da_nil)) (da_cons (de_tup (da_cons de_int da_nil)) (da_cons (de_tup (da_cons de_int (da_cons de_int da_nil))) da_nil)))))))) da_nil)) (na_cons (na_cons na_nil))) (da_cons (de_call O_law_draw (hr.mono (by omega)) (by rfl) T.g_law_draw T.F_law_draw.kp T.b_law_draw tk (da_cons (de_var 0 (pv 0)) (da_cons (de_var 4 (pv 4)) da_nil)) (na_cons (na_cons na_nil))) da_nil)))) pa_nil))))) dss_nil))) (dss_one (ds_append 5 (ps_expr (pe_bm PySem.F.plainAttrs_list PySem.F.slot_list_append PySem.F.type_list_append mt_append (pv 5) (pa_cons (de_nary (pe_callTy c_tuple (by rfl) T.n_tuple (by decide +kernel) (dab_cons (db_own 6 (pv 6)) dab_nil))) pa_nil)))))))) (dss_one (ds_ret (de_nary (pe_callTy c_tuple (by rfl) T.n_tuple (by decide +kernel) (dab_cons (db_own 5 (pv 5)) dab_nil)))))))
omit T in
theorem sc_law_s_answer : FnScope [("hearer" : Str), ("at" : Str), ("heard" : Str), ("some" : Str), ("name" : Str), ("told" : Str), ("later" : Str)] [("hearer" : Str), ("at" : Str), ("heard" : Str)] (defScope s_law_s_answer) := ⟨rfl, rfl, rfl, by decide +kernel, rfl, by decide +kernel, by decide +kernel⟩
theorem ok_law_s_answer : FnOk P w K mg base (L2.CX P w) 1 T.f_law_s_answer T.d_law_s_answer [("hearer" : Str), ("at" : Str), ("heard" : Str)] (spD K cl 3 b_law_s_answer) := by
  refine def_ok (k := 0) T.F_law_s_answer sc_law_s_answer fun cdv A outer s H E B hr tk => ?_
  have hu : (A.deeper (envOfC "_law_s_answer" (defScope s_law_s_answer) s.heap.objs.size T.f_law_s_answer cdv)).units + 64 < cLine := hr.units
  have nd := (sc_law_s_answer).nd
  exact (dss_cons (ds_frzComp (ps_setLc (i := 3) (own := [("name", 4), ("told", 5), ("later", 6)]) rfl nd (by rfl) (by rfl) (sw_true rfl rfl rfl (by decide +kernel)) (di_seq (de_ix (DE.b (de_var 0 (pv 0))) (DE.b (de_var 1 (pv 1))) fun _ _ => rfl)) (blkOk_by (by walk_at "blk_go")) (fun _ _ _ _ _ => (dg_tup rfl (dgs_cons (dg_name 4 (pg_name nd (by rfl) (by first | exact Or.inl rfl | exact Or.inr rfl))) (dgs_cons (dg_name 5 (pg_name nd (by rfl) (by first | exact Or.inl rfl | exact Or.inr rfl))) (dgs_cons (dg_name 6 (pg_name nd (by rfl) (by first | exact Or.inl rfl | exact Or.inr rfl))) dgs_nil))) (glS (glS (glS gl0))))) (fun _ _ _ _ _ => (dts_one (dt_c2 (o_eq hu) (DE.b (de_var 4 (pv 4))) (DE.b (de_var 2 (pv 2))) (nomark _)))) (fun _ _ _ _ _ => (de_tup (da_cons (de_var 5 (pv 5)) (da_cons (de_var 6 (pv 6)) da_nil))))) (by decide)) (dss_one (ds_ret (de_if (dt_c2 (o_ne hu) (DE.b (de_var 3 (pv 3))) (DF.b (df_lst da_nil)) (nomark _)) (de_tup (da_cons (de_nary (pe_callTy c_tuple (by rfl) T.n_tuple (by decide +kernel) (dab_cons (DE.b (de_ix (DE.b (de_ix (DE.b (de_var 3 (pv 3))) (DE.b de_int) fun _ _ => rfl)) (DE.b de_int) fun _ _ => rfl)) dab_nil))) (da_cons (de_ix (DE.b (de_ix (DE.b (de_var 3 (pv 3))) (DE.b de_int) fun _ _ => rfl)) (DE.b de_int) fun _ _ => rfl) da_nil))) de_non))))
omit T in
theorem sc_law_parts : FnScope [("one" : Str), ("at" : Str), ("other" : Str), ("to" : Str), ("names" : Str), ("name" : Str), ("here" : Str), ("there" : Str)] [("one" : Str), ("at" : Str), ("other" : Str), ("to" : Str), ("names" : Str)] (defScope s_law_parts) := ⟨rfl, rfl, rfl, by decide +kernel, rfl, by decide +kernel, by decide +kernel⟩
theorem ok_law_parts : FnOk P w K mg base (L2.CX P w) 2 T.f_law_parts T.d_law_parts [("one" : Str), ("at" : Str), ("other" : Str), ("to" : Str), ("names" : Str)] (spD K cl 5 b_law_parts) := by
  have O_law_s_answer := ok_law_s_answer (P := P) (w := w) (base := base) T
  refine def_ok (k := 1) T.F_law_parts sc_law_parts fun cdv A outer s H E B hr tk => ?_
  have hu : (A.deeper (envOfC "_law_parts" (defScope s_law_parts) s.heap.objs.size T.f_law_parts cdv)).units + 64 < cLine := hr.units
  have nd := (sc_law_parts).nd
  exact (dss_cons (ds_for (passes_of rfl) rfl (di_lst (df_slL (DE.b (de_var 4 (pv 4))) dpo_none (dpo_some (DE.b (de_neg (DE.b de_int)))))) (dg_name 5 (pg_name nd (by rfl) (by first | exact Or.inl rfl | exact Or.inr rfl))) (dss_cons (ds_par (i := 6) (j := 7) (ps_par rfl nd (by rfl) (by rfl) (by decide) (by rfl) (by rfl) (dos_cons (DE.o (de_call O_law_s_answer (hr.mono (by omega)) (by rfl) T.g_law_s_answer T.F_law_s_answer.kp T.b_law_s_answer tk (da_cons (de_var 0 (pv 0)) (da_cons (de_var 1 (pv 1)) (da_cons (de_var 5 (pv 5)) da_nil))) (na_cons (na_cons (na_cons na_nil))))) (dos_cons (DE.o (de_call O_law_s_answer (hr.mono (by omega)) (by rfl) T.g_law_s_answer T.F_law_s_answer.kp T.b_law_s_answer tk (da_cons (de_var 2 (pv 2)) (da_cons (de_var 3 (pv 3)) (da_cons (de_var 5 (pv 5)) da_nil))) (na_cons (na_cons (na_cons na_nil))))) dos_nil)) (by rfl))) (dss_cons (ds_if (DW.t (dw_or (dt_isN (DE.b (de_var 6 (pv 6)))) (dw_or1 (dt_isN (DE.b (de_var 7 (pv 7))))))) (dss_one (ds_ret de_bool)) dss_nil) (dss_one (ds_par (i := 1) (j := 3) (ps_par rfl nd (by rfl) (by rfl) (by decide) (by rfl) (by rfl) (dos_cons (DE.o (de_ix (DE.b (de_var 6 (pv 6))) (DE.b de_int) fun _ _ => rfl)) (dos_cons (DE.o (de_ix (DE.b (de_var 7 (pv 7))) (DE.b de_int) fun _ _ => rfl)) dos_nil)) (by rfl))))))) (dss_cons (ds_if (dt_c2 (o_eq hu) (DE.b (de_nary (pe_callB c_len (by rfl) T.n_len (by decide +kernel) (dab_cons (DE.b (de_var 4 (pv 4))) dab_nil)))) (DE.b de_int) (nomark _)) (dss_one (ds_ret de_bool)) dss_nil) (dss_cons (ds_par (i := 6) (j := 7) (ps_par rfl nd (by rfl) (by rfl) (by decide) (by rfl) (by rfl) (dos_cons (DE.o (de_call O_law_s_answer (hr.mono (by omega)) (by rfl) T.g_law_s_answer T.F_law_s_answer.kp T.b_law_s_answer tk (da_cons (de_var 0 (pv 0)) (da_cons (de_var 1 (pv 1)) (da_cons (de_ix (DE.b (de_var 4 (pv 4))) (DE.b (de_neg (DE.b de_int))) fun _ _ => rfl) da_nil))) (na_cons (na_cons (na_cons na_nil))))) (dos_cons (DE.o (de_call O_law_s_answer (hr.mono (by omega)) (by rfl) T.g_law_s_answer T.F_law_s_answer.kp T.b_law_s_answer tk (da_cons (de_var 2 (pv 2)) (da_cons (de_var 3 (pv 3)) (da_cons (de_ix (DE.b (de_var 4 (pv 4))) (DE.b (de_neg (DE.b de_int))) fun _ _ => rfl) da_nil))) (na_cons (na_cons (na_cons na_nil))))) dos_nil)) (by rfl))) (dss_one (ds_ret (de_or (de_c2 (o_ne hu) (DE.b (de_isN (DE.b (de_var 6 (pv 6))))) (DE.b (de_isN (DE.b (de_var 7 (pv 7))))) (nomark _)) (de_one (de_and (de_notN (DE.b (de_var 6 (pv 6)))) (de_one (de_c2 (o_ne hu) (DE.b (de_ix (DE.b (de_var 6 (pv 6))) (DE.b de_int) fun _ _ => rfl)) (DE.b (de_ix (DE.b (de_var 7 (pv 7))) (DE.b de_int) fun _ _ => rfl)) (nomark _)))))))))))
omit T in
theorem sc_law : FnScope [("script" : Str), ("pen" : Str), ("names" : Str), ("turn" : Str), ("many" : Str), ("kinds" : Str), ("one" : Str), ("other" : Str), ("signs" : Str), ("lap" : Str), ("odd" : Str), ("mine" : Str), ("its" : Str), ("at" : Str), ("to" : Str), ("way" : Str), ("pairs" : Str), ("due" : Str), ("some" : Str), ("rows" : Str), ("begun" : Str), ("left" : Str), ("right" : Str), ("row" : Str), ("answer" : Str), ("reply" : Str), ("step" : Str), ("value" : Str), ("name" : Str), ("told" : Str), ("later" : Str), ("spot" : Str), ("pair" : Str)] [("script" : Str)] (defScope s_law) := ⟨rfl, rfl, rfl, by decide +kernel, rfl, by decide +kernel, by decide +kernel⟩
theorem ok_law : FnOk P w K mg base (L2.CX P w) 17 T.f_law T.d_law [("script" : Str)] (spD K cl 1 b_law) := by
  have O_law_pen := ok_law_pen (P := P) (w := w) (base := base) T
  have O_law_draw := ok_law_draw (P := P) (w := w) (base := base) T
  have O_law_s_hearer := ok_law_s_hearer (P := P) (w := w) (base := base) T
  have O_law_pick := ok_law_pick (P := P) (w := w) (base := base) T
  have O_law_pick_b := ok_law_pick_b (P := P) (w := w) (base := base) T
  have O_law_mixed_b := ok_law_mixed_b (P := P) (w := w) (base := base) T
  have O_shows_same := ok_shows_same (P := P) (w := w) (base := base) T
  have O_law_parts := ok_law_parts (P := P) (w := w) (base := base) T
  have R_Hearer_init := rok_Hearer_init (P := P) (w := w) (base := base) T
  have R_Same_init := rok_Same_init (P := P) (w := w) (base := base) T
  have R_Unlike_init := rok_Unlike_init (P := P) (w := w) (base := base) T
  have R_Paper_init := rok_Paper_init (P := P) (w := w) (base := base) T
  refine def_ok (k := 16) T.F_law sc_law fun cdv A outer s H E B hr tk => ?_
  have hu : (A.deeper (envOfC "law" (defScope s_law) s.heap.objs.size T.f_law cdv)).units + 64 < cLine := hr.units
  have nd := (sc_law).nd
  exact (dss_cons (ds_asg (de_call O_law_pen (hr.mono (by omega)) (by rfl) T.g_law_pen T.F_law_pen.kp T.b_law_pen tk (da_cons (de_var 0 (pv 0)) da_nil) (na_cons na_nil)) (dg_name 1 (pg_name nd (by rfl) (by first | exact Or.inl rfl | exact Or.inr rfl)))) (dss_cons (ds_asg (DF.e (df_lst (da_cons de_str (da_cons de_str (da_cons de_str da_nil))))) (dg_name 2 (pg_name nd (by rfl) (by first | exact Or.inl rfl | exact Or.inr rfl)))) (dss_cons (ds_for (passes_of rfl) rfl (di_rng1 (by rfl) T.n_range de_int) (dg_name 3 (pg_name nd (by rfl) (by first | exact Or.inl rfl | exact Or.inr rfl))) (dss_cons (ds_asg (de_bin o_add (DE.b de_int) (DE.b (de_call O_law_draw (hr.mono (by omega)) (by rfl) T.g_law_draw T.F_law_draw.kp T.b_law_draw tk (da_cons (de_var 1 (pv 1)) (da_cons de_int da_nil)) (na_cons (na_cons na_nil))))) (dg_name 4 (pg_name nd (by rfl) (by first | exact Or.inl rfl | exact Or.inr rfl)))) (dss_cons (ds_asg (DF.e (df_comp (pe_lc (own := [("lap", 9)]) rfl nd (di_rng1 (by rfl) T.n_range de_int) (blkOk_by (by walk_at "blk_go")) (fun _ _ _ _ _ => (dg_name 9 (pg_name nd (by rfl) (by first | exact Or.inl rfl | exact Or.inr rfl)))) (fun _ _ _ _ _ => dts_nil) (fun _ _ _ _ _ => (de_ix (DE.b (de_call O_law_s_hearer (hr.mono (by omega)) (by rfl) T.g_law_s_hearer T.F_law_s_hearer.kp T.b_law_s_hearer L2.takes0 (da_cons (de_var 1 (pv 1)) (da_cons (de_var 2 (pv 2)) (da_cons de_int da_nil))) (na_cons (na_cons (na_cons na_nil))))) (DE.b de_int) fun _ _ => rfl))) (by decide))) (dg_name 5 (pg_name nd (by rfl) (by first | exact Or.inl rfl | exact Or.inr rfl)))) (dss_cons (ds_asg (de_nary (pe_callTy c_tuple (by rfl) T.n_tuple (by decide +kernel) (dab_cons (DF.b (df_comp (pe_lc (own := [("at", 13)]) rfl nd (di_rng1 (by rfl) T.n_range (de_var 4 (pv 4))) (blkOk_by (by walk_at "blk_go")) (fun _ _ _ _ _ => (dg_name 13 (pg_name nd (by rfl) (by first | exact Or.inl rfl | exact Or.inr rfl)))) (fun _ _ _ _ _ => dts_nil) (fun _ _ _ _ _ => (de_nary (pe_callTy c_tuple (by rfl) T.n_tuple (by decide +kernel) (dab_cons (DF.b (df_comp (pe_lc (own := [("name", 28), ("told", 29), ("later", 30)]) rfl nd (di_seq (de_call O_law_pick (hr.mono (by omega)) (by rfl) T.g_law_pick T.F_law_pick.kp T.b_law_pick L2.takes0 (da_cons (de_var 1 (pv 1)) (da_cons (de_var 5 (pv 5)) da_nil)) (na_cons (na_cons na_nil)))) (blkOk_by (by walk_at "blk_go")) (fun _ _ _ _ _ => (dg_tup rfl (dgs_cons (dg_name 28 (pg_name nd (by rfl) (by first | exact Or.inl rfl | exact Or.inr rfl))) (dgs_cons (dg_name 29 (pg_name nd (by rfl) (by first | exact Or.inl rfl | exact Or.inr rfl))) (dgs_cons (dg_name 30 (pg_name nd (by rfl) (by first | exact Or.inl rfl | exact Or.inr rfl))) dgs_nil))) (glS (glS (glS gl0))))) (fun _ _ _ _ _ => dts_nil) (fun _ _ _ _ _ => (de_tup (da_cons (de_var 28 (pv 28)) (da_cons (de_var 29 (pv 29)) (da_cons (de_call O_law_draw (hr.mono (by omega)) (by rfl) T.g_law_draw T.F_law_draw.kp T.b_law_draw L2.takes0 (da_cons (de_var 1 (pv 1)) (da_cons (de_var 4 (pv 4)) da_nil)) (na_cons (na_cons na_nil))) da_nil)))))) (by decide))) dab_nil))))) (by decide))) dab_nil))) (dg_name 6 (pg_name nd (by rfl) (by first | exact Or.inl rfl | exact Or.inr rfl)))) (dss_cons (ds_asg (de_call O_law_pick (hr.mono (by omega)) (by rfl) T.g_law_pick T.F_law_pick.kp T.b_law_pick tk (da_cons (de_var 1 (pv 1)) (da_cons (DF.e (df_lst (da_cons (de_var 6 (pv 6)) (da_cons (de_var 6 (pv 6)) (da_cons (de_nary (pe_callTy c_tuple (by rfl) T.n_tuple (by decide +kernel) (dab_cons (DF.b (df_comp (pe_lc (own := [("at", 13)]) rfl nd (di_rng1 (by rfl) T.n_range (de_var 4 (pv 4))) (blkOk_by (by walk_at "blk_go")) (fun _ _ _ _ _ => (dg_name 13 (pg_name nd (by rfl) (by first | exact Or.inl rfl | exact Or.inr rfl)))) (fun _ _ _ _ _ => dts_nil) (fun _ _ _ _ _ => (de_nary (pe_callTy c_tuple (by rfl) T.n_tuple (by decide +kernel) (dab_cons (DF.b (df_comp (pe_lc (own := [("name", 28), ("told", 29), ("later", 30)]) rfl nd (di_seq (de_call O_law_pick (hr.mono (by omega)) (by rfl) T.g_law_pick T.F_law_pick.kp T.b_law_pick L2.takes0 (da_cons (de_var 1 (pv 1)) (da_cons (de_var 5 (pv 5)) da_nil)) (na_cons (na_cons na_nil)))) (blkOk_by (by walk_at "blk_go")) (fun _ _ _ _ _ => (dg_tup rfl (dgs_cons (dg_name 28 (pg_name nd (by rfl) (by first | exact Or.inl rfl | exact Or.inr rfl))) (dgs_cons (dg_name 29 (pg_name nd (by rfl) (by first | exact Or.inl rfl | exact Or.inr rfl))) (dgs_cons (dg_name 30 (pg_name nd (by rfl) (by first | exact Or.inl rfl | exact Or.inr rfl))) dgs_nil))) (glS (glS (glS gl0))))) (fun _ _ _ _ _ => dts_nil) (fun _ _ _ _ _ => (de_tup (da_cons (de_var 28 (pv 28)) (da_cons (de_var 29 (pv 29)) (da_cons (de_call O_law_draw (hr.mono (by omega)) (by rfl) T.g_law_draw T.F_law_draw.kp T.b_law_draw L2.takes0 (da_cons (de_var 1 (pv 1)) (da_cons (de_var 4 (pv 4)) da_nil)) (na_cons (na_cons na_nil))) da_nil)))))) (by decide))) dab_nil))))) (by decide))) dab_nil))) da_nil))))) da_nil)) (na_cons (na_cons na_nil))) (dg_name 7 (pg_name nd (by rfl) (by first | exact Or.inl rfl | exact Or.inr rfl)))) (dss_cons (ds_parU (is := [11, 12]) (ps_asg (pe_tup (dos_cons (DE.o (de_makeR T.c_Hearer T.M_Hearer R_Hearer_init (hr.mono (by omega)) (by rfl) T.g_Hearer tk (da_cons (de_var 6 (pv 6)) da_nil))) (dos_cons (DE.o (de_makeR T.c_Hearer T.M_Hearer R_Hearer_init (hr.mono (by omega)) (by rfl) T.g_Hearer tk (da_cons (de_var 7 (pv 7)) da_nil))) dos_nil))) (pg_tup (n := 2) rfl (pgs_cons (pg_name (i := 11) nd (by rfl) (by first | exact Or.inl rfl | exact Or.inr rfl)) (pgs_cons (pg_name (i := 12) nd (by rfl) (by first | exact Or.inl rfl | exact Or.inr rfl)) pgs_nil)))) rfl (by decide)) (dss_cons (ds_parU (is := [13, 14]) (ps_asg (pe_tup (dos_cons (DE.o (de_call O_law_draw (hr.mono (by omega)) (by rfl) T.g_law_draw T.F_law_draw.kp T.b_law_draw tk (da_cons (de_var 1 (pv 1)) (da_cons (de_var 4 (pv 4)) da_nil)) (na_cons (na_cons na_nil)))) (dos_cons (DE.o (de_call O_law_draw (hr.mono (by omega)) (by rfl) T.g_law_draw T.F_law_draw.kp T.b_law_draw tk (da_cons (de_var 1 (pv 1)) (da_cons (de_var 4 (pv 4)) da_nil)) (na_cons (na_cons na_nil)))) dos_nil))) (pg_tup (n := 2) rfl (pgs_cons (pg_name (i := 13) nd (by rfl) (by first | exact Or.inl rfl | exact Or.inr rfl)) (pgs_cons (pg_name (i := 14) nd (by rfl) (by first | exact Or.inl rfl | exact Or.inr rfl)) pgs_nil)))) rfl (by decide)) (dss_cons (ds_frzComp (ps_setLc (i := 8) (own := [("rows", 19)]) rfl nd (by rfl) (by rfl) (sw_true rfl rfl rfl (by decide +kernel)) (di_seq (de_tup (da_cons (de_var 6 (pv 6)) (da_cons (de_var 7 (pv 7)) da_nil)))) (blkOk_by (by walk_at "blk_go")) (fun _ _ _ _ _ => (dg_name 19 (pg_name nd (by rfl) (by first | exact Or.inl rfl | exact Or.inr rfl)))) (fun _ _ _ _ _ => dts_nil) (fun _ _ _ _ _ => (DF.e (df_comp (pe_lc (own := [("row", 23)]) rfl nd (di_seq (de_var 19 (pv 19))) (blkOk_by (by walk_at "blk_go")) (fun _ _ _ _ _ => (dg_name 23 (pg_name nd (by rfl) (by first | exact Or.inl rfl | exact Or.inr rfl)))) (fun _ _ _ _ _ => dts_nil) (fun _ _ _ _ _ => (DF.e (df_comp (pe_lc (own := [("answer", 24)]) rfl nd (di_seq (de_var 23 (pv 23))) (blkOk_by (by walk_at "blk_go")) (fun _ _ _ _ _ => (dg_name 24 (pg_name nd (by rfl) (by first | exact Or.inl rfl | exact Or.inr rfl)))) (fun _ _ _ _ _ => dts_nil) (fun _ _ _ _ _ => (de_slT (DE.b (de_var 24 (pv 24))) dpo_none (dpo_some (DE.b de_int))))) (by decide))))) (by decide))))) (by decide)) (dss_cons (ds_for (passes_of rfl) rfl (di_rng1 (by rfl) T.n_range de_int) (dg_name 9 (pg_name nd (by rfl) (by first | exact Or.inl rfl | exact Or.inr rfl))) (dss_cons (ds_parU (is := [16, 20]) (ps_asg (pe_tup (dos_cons (DF.o (df_lst (da_cons (de_tup (da_cons (de_var 13 (pv 13)) (da_cons (de_var 14 (pv 14)) da_nil))) da_nil))) (dos_cons (DE.o de_int) dos_nil))) (pg_tup (n := 2) rfl (pgs_cons (pg_name (i := 16) nd (by rfl) (by first | exact Or.inl rfl | exact Or.inr rfl)) (pgs_cons (pg_name (i := 20) nd (by rfl) (by first | exact Or.inl rfl | exact Or.inr rfl)) pgs_nil)))) rfl (by decide)) (dss_cons (ds_while 100000 (passes_of rfl) (dt_c2 o_lt (DE.b (de_var 20 (pv 20))) (DE.b (de_nary (pe_callB c_len (by rfl) T.n_len (by decide +kernel) (dab_cons (db_own 16 (pv 16)) dab_nil)))) (nomark _)) (dss_cons (ds_for (passes_of rfl) rfl (di_zip (by rfl) T.n_zip (de_ix (DE.b (de_var 6 (pv 6))) (DE.b (de_ix (DE.b (de_ix (db_own 16 (pv 16)) (DE.b (de_var 20 (pv 20))) fun _ _ => rfl)) (DE.b de_int) fun _ _ => rfl)) fun _ _ => rfl) (de_ix (DE.b (de_var 7 (pv 7))) (DE.b (de_ix (DE.b (de_ix (db_own 16 (pv 16)) (DE.b (de_var 20 (pv 20))) fun _ _ => rfl)) (DE.b de_int) fun _ _ => rfl)) fun _ _ => rfl)) (dg_tup rfl (dgs_cons (dg_name 24 (pg_name nd (by rfl) (by first | exact Or.inl rfl | exact Or.inr rfl))) (dgs_cons (dg_name 25 (pg_name nd (by rfl) (by first | exact Or.inl rfl | exact Or.inr rfl))) dgs_nil)) (glS (glS gl0))) (dss_one (ds_if (dt_c2 (o_notIn hu) (DE.b (de_tup (da_cons (de_ix (DE.b (de_var 24 (pv 24))) (DE.b de_int) fun _ _ => rfl) (da_cons (de_ix (DE.b (de_var 25 (pv 25))) (DE.b de_int) fun _ _ => rfl) da_nil)))) (db_own 16 (pv 16)) (by rfl)) (dss_one (ds_append 16 (ps_expr (pe_bm PySem.F.plainAttrs_list PySem.F.slot_list_append PySem.F.type_list_append mt_append (pv 16) (pa_cons (de_tup (da_cons (de_ix (DE.b (de_var 24 (pv 24))) (DE.b de_int) fun _ _ => rfl) (da_cons (de_ix (DE.b (de_var 25 (pv 25))) (DE.b de_int) fun _ _ => rfl) da_nil))) pa_nil))))) dss_nil))) (dss_one (ds_asg (de_bin o_add (DE.b (de_var 20 (pv 20))) (DE.b de_int)) (dg_name 20 (pg_name nd (by rfl) (by first | exact Or.inl rfl | exact Or.inr rfl))))))) (dss_cons (ds_asg (de_call O_law_draw (hr.mono (by omega)) (by rfl) T.g_law_draw T.F_law_draw.kp T.b_law_draw tk (da_cons (de_var 1 (pv 1)) (da_cons de_int da_nil)) (na_cons (na_cons na_nil))) (dg_name 15 (pg_name nd (by rfl) (by first | exact Or.inl rfl | exact Or.inr rfl)))) (dss_cons (ds_if (dt_c2 (o_eq hu) (DE.b (de_var 15 (pv 15))) (DE.b de_int) (nomark _)) (dss_one (ds_exprX (dx_popAt 16 (pe_bm PySem.F.plainAttrs_list PySem.F.slot_list_pop PySem.F.type_list_pop mt_popAt (pv 16) (pa_cons (de_call O_law_draw (hr.mono (by omega)) (by rfl) T.g_law_draw T.F_law_draw.kp T.b_law_draw tk (da_cons (de_var 1 (pv 1)) (da_cons (de_nary (pe_callB c_len (by rfl) T.n_len (by decide +kernel) (dab_cons (db_own 16 (pv 16)) dab_nil))) da_nil)) (na_cons (na_cons na_nil))) pa_nil))))) (dss_one (ds_if (dt_c2 (o_eq hu) (DE.b (de_var 15 (pv 15))) (DE.b de_int) (nomark _)) (dss_one (ds_append 16 (ps_expr (pe_bm PySem.F.plainAttrs_list PySem.F.slot_list_append PySem.F.type_list_append mt_append (pv 16) (pa_cons (de_callB O_law_pick_b (hr.mono (by omega)) (by rfl) T.g_law_pick T.F_law_pick.kp T.b_law_pick tk (dam_val (de_var 1 (pv 1)) (dam_own 16 (pv 16) dam_nil))) pa_nil))))) (dss_one (ds_if (dt_c2 (o_eq hu) (DE.b (de_var 15 (pv 15))) (DE.b de_int) (nomark _)) (dss_one (ds_append 16 (ps_expr (pe_bm PySem.F.plainAttrs_list PySem.F.slot_list_append PySem.F.type_list_append mt_append (pv 16) (pa_cons (de_tup (da_cons (de_call O_law_draw (hr.mono (by omega)) (by rfl) T.g_law_draw T.F_law_draw.kp T.b_law_draw tk (da_cons (de_var 1 (pv 1)) (da_cons (de_var 4 (pv 4)) da_nil)) (na_cons (na_cons na_nil))) (da_cons (de_call O_law_draw (hr.mono (by omega)) (by rfl) T.g_law_draw T.F_law_draw.kp T.b_law_draw tk (da_cons (de_var 1 (pv 1)) (da_cons (de_var 4 (pv 4)) da_nil)) (na_cons (na_cons na_nil))) da_nil))) pa_nil))))) (dss_one (ds_if (dt_c2 (o_eq hu) (DE.b (de_var 15 (pv 15))) (DE.b de_int) (nomark _)) (dss_one (ds_own (df_comp (pe_lc (own := [("left", 21)]) rfl nd (di_rng1 (by rfl) T.n_range (de_var 4 (pv 4))) (blkOk_by (by walk_at "blk_go")) (fun _ _ _ _ _ => (dg_name 21 (pg_name nd (by rfl) (by first | exact Or.inl rfl | exact Or.inr rfl)))) (fun _ _ _ _ _ => dts_nil) (fun _ _ _ _ _ => (de_tup (da_cons (de_var 21 (pv 21)) (da_cons (de_var 21 (pv 21)) da_nil))))) (by decide)) (pg_name nd (by rfl) (by first | exact Or.inl rfl | exact Or.inr rfl)))) dss_nil))))))) (dss_cons (ds_asg (de_callB O_law_mixed_b (hr.mono (by omega)) (by rfl) T.g_law_mixed T.F_law_mixed.kp T.b_law_mixed tk (dam_val (de_var 1 (pv 1)) (dam_own 16 (pv 16) dam_nil))) (dg_name 16 (pg_name nd (by rfl) (by first | exact Or.inl rfl | exact Or.inr rfl)))) (dss_cons (ds_asg (de_and (de_c2 (o_in hu) (DE.b (de_tup (da_cons (de_var 13 (pv 13)) (da_cons (de_var 14 (pv 14)) da_nil)))) (DE.b (de_var 16 (pv 16))) (by rfl)) (de_one (de_c2 (o_eq hu) (DE.b (de_nary (pe_callB c_lenD (by rfl) T.n_len (by decide +kernel) (dab_cons (DE.b (de_nary (pe_callTy (c_dict rfl hu) (by rfl) T.n_dict (by decide +kernel) (dab_cons (DF.b (df_comp (pe_lc (own := [("pair", 32)]) rfl nd (di_seq (de_var 16 (pv 16))) (blkOk_by (by walk_at "blk_go")) (fun _ _ _ _ _ => (dg_name 32 (pg_name nd (by rfl) (by first | exact Or.inl rfl | exact Or.inr rfl)))) (fun _ _ _ _ _ => dts_nil) (fun _ _ _ _ _ => (de_tup (da_cons (de_var 32 (pv 32)) (da_cons de_bool da_nil))))) (by decide))) dab_nil)))) dab_nil)))) (DE.b (de_nary (pe_callB c_len (by rfl) T.n_len (by decide +kernel) (dab_cons (DE.b (de_var 16 (pv 16))) dab_nil)))) (nomark _)))) (dg_name 17 (pg_name nd (by rfl) (by first | exact Or.inl rfl | exact Or.inr rfl)))) (dss_cons (ds_for (passes_of rfl) rfl (di_seq (de_var 16 (pv 16))) (dg_tup rfl (dgs_cons (dg_name 21 (pg_name nd (by rfl) (by first | exact Or.inl rfl | exact Or.inr rfl))) (dgs_cons (dg_name 22 (pg_name nd (by rfl) (by first | exact Or.inl rfl | exact Or.inr rfl))) dgs_nil)) (glS (glS gl0))) (dss_one (ds_asg (de_and (de_var 17 (pv 17)) (de_and (de_c2 (o_eq hu) (DE.b (de_ix (DE.b (de_ix (DE.b (de_var 8 (pv 8))) (DE.b de_int) fun _ _ => rfl)) (DE.b (de_var 21 (pv 21))) fun _ _ => rfl)) (DE.b (de_ix (DE.b (de_ix (DE.b (de_var 8 (pv 8))) (DE.b de_int) fun _ _ => rfl)) (DE.b (de_var 22 (pv 22))) fun _ _ => rfl)) (nomark _)) (de_one (de_c2 (o_eq hu) (DF.b (df_comp (pe_lc (own := [("answer", 24), ("reply", 25)]) rfl nd (di_zip (by rfl) T.n_zip (de_ix (DE.b (de_var 6 (pv 6))) (DE.b (de_var 21 (pv 21))) fun _ _ => rfl) (de_ix (DE.b (de_var 7 (pv 7))) (DE.b (de_var 22 (pv 22))) fun _ _ => rfl)) (blkOk_by (by walk_at "blk_go")) (fun _ _ _ _ _ => (dg_tup rfl (dgs_cons (dg_name 24 (pg_name nd (by rfl) (by first | exact Or.inl rfl | exact Or.inr rfl))) (dgs_cons (dg_name 25 (pg_name nd (by rfl) (by first | exact Or.inl rfl | exact Or.inr rfl))) dgs_nil)) (glS (glS gl0)))) (fun _ _ _ _ _ => (dts_one (dt_c2 (o_notIn hu) (DE.b (de_tup (da_cons (de_ix (DE.b (de_var 24 (pv 24))) (DE.b de_int) fun _ _ => rfl) (da_cons (de_ix (DE.b (de_var 25 (pv 25))) (DE.b de_int) fun _ _ => rfl) da_nil)))) (DE.b (de_var 16 (pv 16))) (by rfl)))) (fun _ _ _ _ _ => de_int)) (by decide))) (DF.b (df_lst da_nil)) (nomark _))))) (dg_name 17 (pg_name nd (by rfl) (by first | exact Or.inl rfl | exact Or.inr rfl)))))) (dss_cons (ds_if (dt_c2 (o_ne hu) (DE.b (de_call O_shows_same (hr.mono (by omega)) (by rfl) T.g_shows_same T.F_shows_same.kp T.b_shows_same tk (da_cons (de_var 11 (pv 11)) (da_cons (de_var 13 (pv 13)) (da_cons (de_var 12 (pv 12)) (da_cons (de_var 14 (pv 14)) (da_cons (de_makeR T.c_Same T.M_Same R_Same_init (hr.mono (by omega)) (by rfl) T.g_Same tk (da_cons (de_var 16 (pv 16)) da_nil)) da_nil))))) (na_cons (na_cons (na_cons (na_cons (na_cons na_nil))))))) (DE.b (de_var 17 (pv 17))) (nomark _)) (dss_one (ds_ret de_bool)) dss_nil) (dss_cons (ds_frzComp (ps_setLc (i := 18) (own := [("step", 26)]) rfl nd (by rfl) (by rfl) (sw_true rfl rfl rfl (by decide +kernel)) (di_rng1 (by rfl) T.n_range (de_call O_law_draw (hr.mono (by omega)) (by rfl) T.g_law_draw T.F_law_draw.kp T.b_law_draw tk (da_cons (de_var 1 (pv 1)) (da_cons de_int da_nil)) (na_cons (na_cons na_nil)))) (blkOk_by (by walk_at "blk_go")) (fun _ _ _ _ _ => (dg_name 26 (pg_name nd (by rfl) (by first | exact Or.inl rfl | exact Or.inr rfl)))) (fun _ _ _ _ _ => dts_nil) (fun _ _ _ _ _ => (de_call O_law_pick (hr.mono (by omega)) (by rfl) T.g_law_pick T.F_law_pick.kp T.b_law_pick L2.takes0 (da_cons (de_var 1 (pv 1)) (da_cons (DF.e (df_cat (DE.b (de_var 2 (pv 2))) (DF.b (df_lst (da_cons de_str da_nil))))) da_nil)) (na_cons (na_cons na_nil))))) (by decide)) (dss_one (ds_if (dt_c2 (o_ne hu) (DE.b (de_call O_shows_same (hr.mono (by omega)) (by rfl) T.g_shows_same T.F_shows_same.kp T.b_shows_same tk (da_cons (de_var 11 (pv 11)) (da_cons (de_var 13 (pv 13)) (da_cons (de_var 12 (pv 12)) (da_cons (de_var 14 (pv 14)) (da_cons (de_makeR T.c_Unlike T.M_Unlike R_Unlike_init (hr.mono (by omega)) (by rfl) T.g_Unlike tk (da_cons (de_var 18 (pv 18)) da_nil)) da_nil))))) (na_cons (na_cons (na_cons (na_cons (na_cons na_nil))))))) (DE.b (de_call O_law_parts (hr.mono (by omega)) (by rfl) T.g_law_parts T.F_law_parts.kp T.b_law_parts tk (da_cons (de_var 6 (pv 6)) (da_cons (de_var 13 (pv 13)) (da_cons (de_var 7 (pv 7)) (da_cons (de_var 14 (pv 14)) (da_cons (de_var 18 (pv 18)) da_nil))))) (na_cons (na_cons (na_cons (na_cons (na_cons na_nil))))))) (nomark _)) (dss_one (ds_ret de_bool)) dss_nil)))))))))))) (dss_cons (ds_asg (DF.e (df_lst (da_cons de_non (da_cons de_int (da_cons de_str (da_cons (de_makeR T.c_Same T.M_Same R_Same_init (hr.mono (by omega)) (by rfl) T.g_Same tk (da_cons de_non da_nil)) (da_cons (de_makeR T.c_Same T.M_Same R_Same_init (hr.mono (by omega)) (by rfl) T.g_Same tk (da_cons (de_tup da_nil) da_nil)) (da_cons (de_makeR T.c_Same T.M_Same R_Same_init (hr.mono (by omega)) (by rfl) T.g_Same tk (da_cons (DF.e (df_lst (da_cons de_non da_nil))) da_nil)) (da_cons (de_makeR T.c_Same T.M_Same R_Same_init (hr.mono (by omega)) (by rfl) T.g_Same tk (da_cons (DF.e (df_lst (da_cons (de_tup (da_cons (de_var 13 (pv 13)) (da_cons (de_var 14 (pv 14)) (da_cons de_int da_nil)))) da_nil))) da_nil)) (da_cons (de_makeR T.c_Same T.M_Same R_Same_init (hr.mono (by omega)) (by rfl) T.g_Same tk (da_cons (DF.e (df_lst (da_cons (de_tup (da_cons (de_var 13 (pv 13)) da_nil)) da_nil))) da_nil)) (da_cons (de_makeR T.c_Same T.M_Same R_Same_init (hr.mono (by omega)) (by rfl) T.g_Same tk (da_cons (DF.e (df_lst (da_cons (de_tup (da_cons (de_var 13 (pv 13)) (da_cons (de_var 4 (pv 4)) da_nil))) da_nil))) da_nil)) (da_cons (de_makeR T.c_Same T.M_Same R_Same_init (hr.mono (by omega)) (by rfl) T.g_Same tk (da_cons (DF.e (df_lst (da_cons (de_tup (da_cons (de_neg (DE.b de_int)) (da_cons (de_var 14 (pv 14)) da_nil))) da_nil))) da_nil)) (da_cons (de_makeR T.c_Same T.M_Same R_Same_init (hr.mono (by omega)) (by rfl) T.g_Same tk (da_cons (DF.e (df_lst (da_cons (de_tup (da_cons de_non (da_cons (de_var 14 (pv 14)) da_nil))) da_nil))) da_nil)) (da_cons (de_makeR T.c_Unlike T.M_Unlike R_Unlike_init (hr.mono (by omega)) (by rfl) T.g_Unlike tk (da_cons de_non da_nil)) (da_cons (de_makeR T.c_Unlike T.M_Unlike R_Unlike_init (hr.mono (by omega)) (by rfl) T.g_Unlike tk (da_cons (de_tup da_nil) da_nil)) (da_cons (de_makeR T.c_Unlike T.M_Unlike R_Unlike_init (hr.mono (by omega)) (by rfl) T.g_Unlike tk (da_cons de_int da_nil)) (da_cons (de_makeR T.c_Unlike T.M_Unlike R_Unlike_init (hr.mono (by omega)) (by rfl) T.g_Unlike tk (da_cons (DF.e (df_lst (da_cons de_non da_nil))) da_nil)) (da_cons (de_makeR T.c_Unlike T.M_Unlike R_Unlike_init (hr.mono (by omega)) (by rfl) T.g_Unlike tk (da_cons (DF.e (df_lst (da_cons de_str da_nil))) da_nil)) (da_cons (de_makeR T.c_Paper T.M_Paper R_Paper_init (hr.mono (by omega)) (by rfl) T.g_Paper tk (da_cons de_str (da_cons (de_tup (da_cons (de_tup (da_cons (de_var 13 (pv 13)) (da_cons (de_var 14 (pv 14)) da_nil))) da_nil)) da_nil))) (da_cons (de_makeR T.c_Denial T.M_Denial R_Paper_init (hr.mono (by omega)) (by rfl) T.g_Denial tk (da_cons de_str (da_cons (de_tup (da_cons de_str da_nil)) da_nil))) (da_cons (de_tup (da_cons (de_tup (da_cons (de_var 13 (pv 13)) (da_cons (de_var 14 (pv 14)) da_nil))) da_nil)) da_nil))))))))))))))))))))) (dg_name 10 (pg_name nd (by rfl) (by first | exact Or.inl rfl | exact Or.inr rfl)))) (dss_cons (ds_if (dt_c2 (o_ne hu) (DF.b (df_comp (pe_lc (own := [("value", 27)]) rfl nd (di_seq (de_var 10 (pv 10))) (blkOk_by (by walk_at "blk_go")) (fun _ _ _ _ _ => (dg_name 27 (pg_name nd (by rfl) (by first | exact Or.inl rfl | exact Or.inr rfl)))) (fun _ _ _ _ _ => (dts_one (dt_c2 o_notB (DE.b (de_call O_shows_same (hr.mono (by omega)) (by rfl) T.g_shows_same T.F_shows_same.kp T.b_shows_same L2.takes0 (da_cons (de_var 11 (pv 11)) (da_cons (de_var 13 (pv 13)) (da_cons (de_var 12 (pv 12)) (da_cons (de_var 14 (pv 14)) (da_cons (de_var 27 (pv 27)) da_nil))))) (na_cons (na_cons (na_cons (na_cons (na_cons na_nil))))))) (DE.b de_bool) (nomark _)))) (fun _ _ _ _ _ => (de_var 27 (pv 27)))) (by decide))) (DF.b (df_lst da_nil)) (nomark _)) (dss_one (ds_ret de_bool)) dss_nil) (dss_one (ds_if (DW.t (dw_or (DW.t (dw_and (dt_c2 o_gt (DE.b (de_var 4 (pv 4))) (DE.b de_int) (nomark _)) (dw_and (dt_c2 (o_eq hu) (DE.b (de_var 6 (pv 6))) (DE.b (de_var 7 (pv 7))) (nomark _)) (dw_and1 (dt_c2 o_notB (DE.b (de_call O_shows_same (hr.mono (by omega)) (by rfl) T.g_shows_same T.F_shows_same.kp T.b_shows_same tk (da_cons (de_var 11 (pv 11)) (da_cons de_int (da_cons (de_var 11 (pv 11)) (da_cons de_int (da_cons (de_makeR T.c_Same T.M_Same R_Same_init (hr.mono (by omega)) (by rfl) T.g_Same tk (da_cons (DF.e (df_comp (pe_lc (own := [("spot", 31)]) rfl nd (di_rng1 (by rfl) T.n_range (de_var 4 (pv 4))) (blkOk_by (by walk_at "blk_go")) (fun _ _ _ _ _ => (dg_name 31 (pg_name nd (by rfl) (by first | exact Or.inl rfl | exact Or.inr rfl)))) (fun _ _ _ _ _ => dts_nil) (fun _ _ _ _ _ => (de_tup (da_cons (de_var 31 (pv 31)) (da_cons (de_var 31 (pv 31)) da_nil))))) (by decide))) da_nil)) da_nil))))) (na_cons (na_cons (na_cons (na_cons (na_cons na_nil))))))) (DE.b de_bool) (nomark _)))))) (dw_or1 (dt_c2 o_notB (DE.b (de_call O_shows_same (hr.mono (by omega)) (by rfl) T.g_shows_same T.F_shows_same.kp T.b_shows_same tk (da_cons (de_var 11 (pv 11)) (da_cons de_int (da_cons (de_var 11 (pv 11)) (da_cons de_int (da_cons (de_makeR T.c_Same T.M_Same R_Same_init (hr.mono (by omega)) (by rfl) T.g_Same tk (da_cons (DF.e (df_comp (pe_lc (own := [("spot", 31)]) rfl nd (di_rng1 (by rfl) T.n_range (de_var 4 (pv 4))) (blkOk_by (by walk_at "blk_go")) (fun _ _ _ _ _ => (dg_name 31 (pg_name nd (by rfl) (by first | exact Or.inl rfl | exact Or.inr rfl)))) (fun _ _ _ _ _ => dts_nil) (fun _ _ _ _ _ => (de_tup (da_cons (de_if (dt_c2 o_lt (DE.b (de_var 31 (pv 31))) (DE.b de_int) (nomark _)) (de_nary (pe_callTy c_bool (by rfl) T.n_bool (by decide +kernel) (dab_cons (DE.b (de_var 31 (pv 31))) dab_nil))) (de_var 31 (pv 31))) (da_cons (de_var 31 (pv 31)) da_nil))))) (by decide))) da_nil)) da_nil))))) (na_cons (na_cons (na_cons (na_cons (na_cons na_nil))))))) (DE.b de_bool) (nomark _))))) (dss_one (ds_ret de_bool)) dss_nil))))))))))))) (dss_one (ds_ret de_bool)))))
end
theorem all_mk {l : PySem.W.OpenLaw} {w : World} {K : PySem.W.Frag} {h : Heap} {mg : Str → Option Value} {fa : Addr} (X : K.In h) (G : h.Ns mainGlobals mg) (hfa : mg "law" = some (.ref fa)) (plain : ∀ ns : List Int, ns.length ≤ 63 → ∃ st, b_law [.lst (ns.map .int)] [] = .ok (.bool true) st)
    {C_Denial : Addr}
    {C_Hearer : Addr}
    {C_Paper : Addr}
    {C_Same : Addr}
    {C_Unlike : Addr}
    {f_is_integer : Addr} {od_is_integer an_is_integer : Option Addr} {sl_is_integer : Array (Option Value)} {oc_is_integer kV_is_integer dc_is_integer pm_is_integer ct_is_integer : Value}
    {cd_is_integer : Value}
    {f_is_within : Addr} {od_is_within an_is_within : Option Addr} {sl_is_within : Array (Option Value)} {oc_is_within kV_is_within dc_is_within pm_is_within ct_is_within : Value}
    {cd_is_within : Value}
    {f_is_name : Addr} {od_is_name an_is_name : Option Addr} {sl_is_name : Array (Option Value)} {oc_is_name kV_is_name dc_is_name pm_is_name ct_is_name : Value}
    {cd_is_name : Value}
    {f_is_listed : Addr} {od_is_listed an_is_listed : Option Addr} {sl_is_listed : Array (Option Value)} {oc_is_listed kV_is_listed dc_is_listed pm_is_listed ct_is_listed : Value}
    {cd_is_listed : Value}
    {f_is_row_of : Addr} {od_is_row_of an_is_row_of : Option Addr} {sl_is_row_of : Array (Option Value)} {oc_is_row_of kV_is_row_of dc_is_row_of pm_is_row_of ct_is_row_of : Value}
    {cd_is_row_of : Value}
    {f_are_ascending : Addr} {od_are_ascending an_are_ascending : Option Addr} {sl_are_ascending : Array (Option Value)} {oc_are_ascending kV_are_ascending dc_are_ascending pm_are_ascending ct_are_ascending : Value}
    {cd_are_ascending : Value}
    {f_fixed : Addr} {od_fixed an_fixed : Option Addr} {sl_fixed : Array (Option Value)} {oc_fixed kV_fixed dc_fixed pm_fixed ct_fixed : Value}
    {cd_fixed : Value}
    {f_Paper_init : Addr} {od_Paper_init an_Paper_init : Option Addr} {sl_Paper_init : Array (Option Value)} {oc_Paper_init kV_Paper_init dc_Paper_init pm_Paper_init ct_Paper_init : Value}
    {cd_Paper_init : Value}
    {f_is_bit : Addr} {od_is_bit an_is_bit : Option Addr} {sl_is_bit : Array (Option Value)} {oc_is_bit kV_is_bit dc_is_bit pm_is_bit ct_is_bit : Value}
    {cd_is_bit : Value}
    {f_is_answer : Addr} {od_is_answer an_is_answer : Option Addr} {sl_is_answer : Array (Option Value)} {oc_is_answer kV_is_answer dc_is_answer pm_is_answer ct_is_answer : Value}
    {cd_is_answer : Value}
    {f_is_hearer_row : Addr} {od_is_hearer_row an_is_hearer_row : Option Addr} {sl_is_hearer_row : Array (Option Value)} {oc_is_hearer_row kV_is_hearer_row dc_is_hearer_row pm_is_hearer_row ct_is_hearer_row : Value}
    {cd_is_hearer_row : Value}
    {f_is_table : Addr} {od_is_table an_is_table : Option Addr} {sl_is_table : Array (Option Value)} {oc_is_table kV_is_table dc_is_table pm_is_table ct_is_table : Value}
    {cd_is_table : Value}
    {f_Hearer_init : Addr} {od_Hearer_init an_Hearer_init : Option Addr} {sl_Hearer_init : Array (Option Value)} {oc_Hearer_init kV_Hearer_init dc_Hearer_init pm_Hearer_init ct_Hearer_init : Value}
    {cd_Hearer_init : Value}
    {f_Hearer_answer : Addr} {od_Hearer_answer an_Hearer_answer : Option Addr} {sl_Hearer_answer : Array (Option Value)} {oc_Hearer_answer kV_Hearer_answer dc_Hearer_answer pm_Hearer_answer ct_Hearer_answer : Value}
    {cd_Hearer_answer : Value}
    {f_need_hearer : Addr} {od_need_hearer an_need_hearer : Option Addr} {sl_need_hearer : Array (Option Value)} {oc_need_hearer kV_need_hearer dc_need_hearer pm_need_hearer ct_need_hearer : Value}
    {cd_need_hearer : Value}
    {f_Same_init : Addr} {od_Same_init an_Same_init : Option Addr} {sl_Same_init : Array (Option Value)} {oc_Same_init kV_Same_init dc_Same_init pm_Same_init ct_Same_init : Value}
    {cc_Same_init cda_Same_init : Addr} {ccl_Same_init cl_Same_init : Value} {cdd_Same_init cld_Same_init : Option Addr} {ccs_Same_init csl_Same_init : Array (Option Value)} {fv_Same_init : Array Value} {file_Same_init : Str} {tf_Same_init : Tok}
    {f_Unlike_init : Addr} {od_Unlike_init an_Unlike_init : Option Addr} {sl_Unlike_init : Array (Option Value)} {oc_Unlike_init kV_Unlike_init dc_Unlike_init pm_Unlike_init ct_Unlike_init : Value}
    {cc_Unlike_init cda_Unlike_init : Addr} {ccl_Unlike_init cl_Unlike_init : Value} {cdd_Unlike_init cld_Unlike_init : Option Addr} {ccs_Unlike_init csl_Unlike_init : Array (Option Value)} {fv_Unlike_init : Array Value} {file_Unlike_init : Str} {tf_Unlike_init : Tok}
    {f_sign_of : Addr} {od_sign_of an_sign_of : Option Addr} {sl_sign_of : Array (Option Value)} {oc_sign_of kV_sign_of dc_sign_of pm_sign_of ct_sign_of : Value}
    {cd_sign_of : Value}
    {f_need_row_of : Addr} {od_need_row_of an_need_row_of : Option Addr} {sl_need_row_of : Array (Option Value)} {oc_need_row_of kV_need_row_of dc_need_row_of pm_need_row_of ct_need_row_of : Value}
    {cd_need_row_of : Value}
    {f_need_rows_of : Addr} {od_need_rows_of an_need_rows_of : Option Addr} {sl_need_rows_of : Array (Option Value)} {oc_need_rows_of kV_need_rows_of dc_need_rows_of pm_need_rows_of ct_need_rows_of : Value}
    {cd_need_rows_of : Value}
    {f_is_pair : Addr} {od_is_pair an_is_pair : Option Addr} {sl_is_pair : Array (Option Value)} {oc_is_pair kV_is_pair dc_is_pair pm_is_pair ct_is_pair : Value}
    {cd_is_pair : Value}
    {f_are_same : Addr} {od_are_same an_are_same : Option Addr} {sl_are_same : Array (Option Value)} {oc_are_same kV_are_same dc_are_same pm_are_same ct_are_same : Value}
    {cd_are_same : Value}
    {f_is_unlike : Addr} {od_is_unlike an_is_unlike : Option Addr} {sl_is_unlike : Array (Option Value)} {oc_is_unlike kV_is_unlike dc_is_unlike pm_is_unlike ct_is_unlike : Value}
    {cd_is_unlike : Value}
    {f_shows_same : Addr} {od_shows_same an_shows_same : Option Addr} {sl_shows_same : Array (Option Value)} {oc_shows_same kV_shows_same dc_shows_same pm_shows_same ct_shows_same : Value}
    {cd_shows_same : Value}
    {f_law_pen : Addr} {od_law_pen an_law_pen : Option Addr} {sl_law_pen : Array (Option Value)} {oc_law_pen kV_law_pen dc_law_pen pm_law_pen ct_law_pen : Value}
    {cd_law_pen : Value}
    {f_law_draw : Addr} {od_law_draw an_law_draw : Option Addr} {sl_law_draw : Array (Option Value)} {oc_law_draw kV_law_draw dc_law_draw pm_law_draw ct_law_draw : Value}
    {cd_law_draw : Value}
    {f_law_pick : Addr} {od_law_pick an_law_pick : Option Addr} {sl_law_pick : Array (Option Value)} {oc_law_pick kV_law_pick dc_law_pick pm_law_pick ct_law_pick : Value}
    {cd_law_pick : Value}
    {f_law_mixed : Addr} {od_law_mixed an_law_mixed : Option Addr} {sl_law_mixed : Array (Option Value)} {oc_law_mixed kV_law_mixed dc_law_mixed pm_law_mixed ct_law_mixed : Value}
    {cd_law_mixed : Value}
    {f_law_s_hearer : Addr} {od_law_s_hearer an_law_s_hearer : Option Addr} {sl_law_s_hearer : Array (Option Value)} {oc_law_s_hearer kV_law_s_hearer dc_law_s_hearer pm_law_s_hearer ct_law_s_hearer : Value}
    {cd_law_s_hearer : Value}
    {f_law_s_answer : Addr} {od_law_s_answer an_law_s_answer : Option Addr} {sl_law_s_answer : Array (Option Value)} {oc_law_s_answer kV_law_s_answer dc_law_s_answer pm_law_s_answer ct_law_s_answer : Value}
    {cd_law_s_answer : Value}
    {f_law_parts : Addr} {od_law_parts an_law_parts : Option Addr} {sl_law_parts : Array (Option Value)} {oc_law_parts kV_law_parts dc_law_parts pm_law_parts ct_law_parts : Value}
    {cd_law_parts : Value}
    {f_law : Addr} {od_law an_law : Option Addr} {sl_law : Array (Option Value)} {oc_law kV_law dc_law pm_law ct_law : Value}
    {cd_law : Value}
    {t_FIGURES : Tok}
    {t_LETTERS : Tok}
    {t_LONGEST : Tok}
    {t_MOST_ROWS : Tok}
    {t_MOST_TOLD : Tok}
    (aC_Denial : PySem.W.nsIn K mainGlobals "Denial" = some (some (.ref C_Denial)))
    (aC_Hearer : PySem.W.nsIn K mainGlobals "Hearer" = some (some (.ref C_Hearer)))
    (aC_Paper : PySem.W.nsIn K mainGlobals "Paper" = some (some (.ref C_Paper)))
    (aC_Same : PySem.W.nsIn K mainGlobals "Same" = some (some (.ref C_Same)))
    (aC_Unlike : PySem.W.nsIn K mainGlobals "Unlike" = some (some (.ref C_Unlike)))
    (k_FIGURES : PySem.W.nsIn K mainGlobals "FIGURES" = some (some (.str "0123456789" t_FIGURES)))
    (k_LETTERS : PySem.W.nsIn K mainGlobals "LETTERS" = some (some (.str "abcdefghijklmnopqrstuvwxyz" t_LETTERS)))
    (k_LONGEST : PySem.W.nsIn K mainGlobals "LONGEST" = some (some (.int 8 t_LONGEST)))
    (k_MOST_ROWS : PySem.W.nsIn K mainGlobals "MOST_ROWS" = some (some (.int 2000 t_MOST_ROWS)))
    (k_MOST_TOLD : PySem.W.nsIn K mainGlobals "MOST_TOLD" = some (some (.int 10 t_MOST_TOLD)))
    (n_abs : PySem.W.nsIn K mainGlobals "abs" = some none)
    (n_all : PySem.W.nsIn K mainGlobals "all" = some none)
    (n_bool : PySem.W.nsIn K mainGlobals "bool" = some none)
    (n_dict : PySem.W.nsIn K mainGlobals "dict" = some none)
    (n_int : PySem.W.nsIn K mainGlobals "int" = some none)
    (n_isinstance : PySem.W.nsIn K mainGlobals "isinstance" = some none)
    (n_len : PySem.W.nsIn K mainGlobals "len" = some none)
    (n_list : PySem.W.nsIn K mainGlobals "list" = some none)
    (n_range : PySem.W.nsIn K mainGlobals "range" = some none)
    (n_set : PySem.W.nsIn K mainGlobals "set" = some none)
    (n_sorted : PySem.W.nsIn K mainGlobals "sorted" = some none)
    (n_str : PySem.W.nsIn K mainGlobals "str" = some none)
    (n_tuple : PySem.W.nsIn K mainGlobals "tuple" = some none)
    (n_zip : PySem.W.nsIn K mainGlobals "zip" = some none)
    (a_is_integer : PySem.W.nsIn K mainGlobals "is_integer" = some (some (.ref f_is_integer)))
    (l_is_integer : K.lookup f_is_integer = some ⟨oc_is_integer, od_is_integer, .func (PySem.W.fnOf "is_integer" "is_integer" (defArgs s_is_integer) (defBody s_is_integer) (defScope s_is_integer) .none kV_is_integer dc_is_integer pm_is_integer an_is_integer cd_is_integer ct_is_integer), sl_is_integer⟩)
    (c_is_integer : PySem.W.codeIn K cd_is_integer "is_integer" = true)
    (kp_is_integer : PySem.W.keepIn K (.ref f_is_integer) = true)
    (a_is_within : PySem.W.nsIn K mainGlobals "is_within" = some (some (.ref f_is_within)))
    (l_is_within : K.lookup f_is_within = some ⟨oc_is_within, od_is_within, .func (PySem.W.fnOf "is_within" "is_within" (defArgs s_is_within) (defBody s_is_within) (defScope s_is_within) .none kV_is_within dc_is_within pm_is_within an_is_within cd_is_within ct_is_within), sl_is_within⟩)
    (c_is_within : PySem.W.codeIn K cd_is_within "is_within" = true)
    (kp_is_within : PySem.W.keepIn K (.ref f_is_within) = true)
    (a_is_name : PySem.W.nsIn K mainGlobals "is_name" = some (some (.ref f_is_name)))
    (l_is_name : K.lookup f_is_name = some ⟨oc_is_name, od_is_name, .func (PySem.W.fnOf "is_name" "is_name" (defArgs s_is_name) (defBody s_is_name) (defScope s_is_name) .none kV_is_name dc_is_name pm_is_name an_is_name cd_is_name ct_is_name), sl_is_name⟩)
    (c_is_name : PySem.W.codeIn K cd_is_name "is_name" = true)
    (kp_is_name : PySem.W.keepIn K (.ref f_is_name) = true)
    (a_is_listed : PySem.W.nsIn K mainGlobals "is_listed" = some (some (.ref f_is_listed)))
    (l_is_listed : K.lookup f_is_listed = some ⟨oc_is_listed, od_is_listed, .func (PySem.W.fnOf "is_listed" "is_listed" (defArgs s_is_listed) (defBody s_is_listed) (defScope s_is_listed) .none kV_is_listed dc_is_listed pm_is_listed an_is_listed cd_is_listed ct_is_listed), sl_is_listed⟩)
    (c_is_listed : PySem.W.codeIn K cd_is_listed "is_listed" = true)
    (kp_is_listed : PySem.W.keepIn K (.ref f_is_listed) = true)
    (a_is_row_of : PySem.W.nsIn K mainGlobals "is_row_of" = some (some (.ref f_is_row_of)))
    (l_is_row_of : K.lookup f_is_row_of = some ⟨oc_is_row_of, od_is_row_of, .func (PySem.W.fnOf "is_row_of" "is_row_of" (defArgs s_is_row_of) (defBody s_is_row_of) (defScope s_is_row_of) .none kV_is_row_of dc_is_row_of pm_is_row_of an_is_row_of cd_is_row_of ct_is_row_of), sl_is_row_of⟩)
    (c_is_row_of : PySem.W.codeIn K cd_is_row_of "is_row_of" = true)
    (kp_is_row_of : PySem.W.keepIn K (.ref f_is_row_of) = true)
    (a_are_ascending : PySem.W.nsIn K mainGlobals "are_ascending" = some (some (.ref f_are_ascending)))
    (l_are_ascending : K.lookup f_are_ascending = some ⟨oc_are_ascending, od_are_ascending, .func (PySem.W.fnOf "are_ascending" "are_ascending" (defArgs s_are_ascending) (defBody s_are_ascending) (defScope s_are_ascending) .none kV_are_ascending dc_are_ascending pm_are_ascending an_are_ascending cd_are_ascending ct_are_ascending), sl_are_ascending⟩)
    (c_are_ascending : PySem.W.codeIn K cd_are_ascending "are_ascending" = true)
    (kp_are_ascending : PySem.W.keepIn K (.ref f_are_ascending) = true)
    (a_fixed : PySem.W.nsIn K mainGlobals "fixed" = some (some (.ref f_fixed)))
    (l_fixed : K.lookup f_fixed = some ⟨oc_fixed, od_fixed, .func (PySem.W.fnOf "fixed" "fixed" (defArgs s_fixed) (defBody s_fixed) (defScope s_fixed) .none kV_fixed dc_fixed pm_fixed an_fixed cd_fixed ct_fixed), sl_fixed⟩)
    (c_fixed : PySem.W.codeIn K cd_fixed "fixed" = true)
    (kp_fixed : PySem.W.keepIn K (.ref f_fixed) = true)
    (a_Paper_init : PySem.W.findIn K (.ref C_Paper) "__init__" = some (some (.ref f_Paper_init)))
    (i_Paper_init : PySem.W.isFn K (.ref f_Paper_init) = true)
    (l_Paper_init : K.lookup f_Paper_init = some ⟨oc_Paper_init, od_Paper_init, .func (PySem.W.fnOf "__init__" "Paper.__init__" (defArgs s_Paper_init) (defBody s_Paper_init) (defScope s_Paper_init) .none kV_Paper_init dc_Paper_init pm_Paper_init an_Paper_init cd_Paper_init ct_Paper_init), sl_Paper_init⟩)
    (c_Paper_init : PySem.W.codeIn K cd_Paper_init "Paper.__init__" = true)
    (kp_Paper_init : PySem.W.keepIn K (.ref f_Paper_init) = true)
    (a_is_bit : PySem.W.nsIn K mainGlobals "is_bit" = some (some (.ref f_is_bit)))
    (l_is_bit : K.lookup f_is_bit = some ⟨oc_is_bit, od_is_bit, .func (PySem.W.fnOf "is_bit" "is_bit" (defArgs s_is_bit) (defBody s_is_bit) (defScope s_is_bit) .none kV_is_bit dc_is_bit pm_is_bit an_is_bit cd_is_bit ct_is_bit), sl_is_bit⟩)
    (c_is_bit : PySem.W.codeIn K cd_is_bit "is_bit" = true)
    (kp_is_bit : PySem.W.keepIn K (.ref f_is_bit) = true)
    (a_is_answer : PySem.W.nsIn K mainGlobals "is_answer" = some (some (.ref f_is_answer)))
    (l_is_answer : K.lookup f_is_answer = some ⟨oc_is_answer, od_is_answer, .func (PySem.W.fnOf "is_answer" "is_answer" (defArgs s_is_answer) (defBody s_is_answer) (defScope s_is_answer) .none kV_is_answer dc_is_answer pm_is_answer an_is_answer cd_is_answer ct_is_answer), sl_is_answer⟩)
    (c_is_answer : PySem.W.codeIn K cd_is_answer "is_answer" = true)
    (kp_is_answer : PySem.W.keepIn K (.ref f_is_answer) = true)
    (a_is_hearer_row : PySem.W.nsIn K mainGlobals "is_hearer_row" = some (some (.ref f_is_hearer_row)))
    (l_is_hearer_row : K.lookup f_is_hearer_row = some ⟨oc_is_hearer_row, od_is_hearer_row, .func (PySem.W.fnOf "is_hearer_row" "is_hearer_row" (defArgs s_is_hearer_row) (defBody s_is_hearer_row) (defScope s_is_hearer_row) .none kV_is_hearer_row dc_is_hearer_row pm_is_hearer_row an_is_hearer_row cd_is_hearer_row ct_is_hearer_row), sl_is_hearer_row⟩)
    (c_is_hearer_row : PySem.W.codeIn K cd_is_hearer_row "is_hearer_row" = true)
    (kp_is_hearer_row : PySem.W.keepIn K (.ref f_is_hearer_row) = true)
    (a_is_table : PySem.W.nsIn K mainGlobals "is_table" = some (some (.ref f_is_table)))
    (l_is_table : K.lookup f_is_table = some ⟨oc_is_table, od_is_table, .func (PySem.W.fnOf "is_table" "is_table" (defArgs s_is_table) (defBody s_is_table) (defScope s_is_table) .none kV_is_table dc_is_table pm_is_table an_is_table cd_is_table ct_is_table), sl_is_table⟩)
    (c_is_table : PySem.W.codeIn K cd_is_table "is_table" = true)
    (kp_is_table : PySem.W.keepIn K (.ref f_is_table) = true)
    (a_Hearer_init : PySem.W.findIn K (.ref C_Hearer) "__init__" = some (some (.ref f_Hearer_init)))
    (i_Hearer_init : PySem.W.isFn K (.ref f_Hearer_init) = true)
    (l_Hearer_init : K.lookup f_Hearer_init = some ⟨oc_Hearer_init, od_Hearer_init, .func (PySem.W.fnOf "__init__" "Hearer.__init__" (defArgs s_Hearer_init) (defBody s_Hearer_init) (defScope s_Hearer_init) .none kV_Hearer_init dc_Hearer_init pm_Hearer_init an_Hearer_init cd_Hearer_init ct_Hearer_init), sl_Hearer_init⟩)
    (c_Hearer_init : PySem.W.codeIn K cd_Hearer_init "Hearer.__init__" = true)
    (kp_Hearer_init : PySem.W.keepIn K (.ref f_Hearer_init) = true)
    (a_Hearer_answer : PySem.W.findIn K (.ref C_Hearer) "answer" = some (some (.ref f_Hearer_answer)))
    (i_Hearer_answer : PySem.W.isFn K (.ref f_Hearer_answer) = true)
    (l_Hearer_answer : K.lookup f_Hearer_answer = some ⟨oc_Hearer_answer, od_Hearer_answer, .func (PySem.W.fnOf "answer" "Hearer.answer" (defArgs s_Hearer_answer) (defBody s_Hearer_answer) (defScope s_Hearer_answer) .none kV_Hearer_answer dc_Hearer_answer pm_Hearer_answer an_Hearer_answer cd_Hearer_answer ct_Hearer_answer), sl_Hearer_answer⟩)
    (c_Hearer_answer : PySem.W.codeIn K cd_Hearer_answer "Hearer.answer" = true)
    (kp_Hearer_answer : PySem.W.keepIn K (.ref f_Hearer_answer) = true)
    (a_need_hearer : PySem.W.nsIn K mainGlobals "need_hearer" = some (some (.ref f_need_hearer)))
    (l_need_hearer : K.lookup f_need_hearer = some ⟨oc_need_hearer, od_need_hearer, .func (PySem.W.fnOf "need_hearer" "need_hearer" (defArgs s_need_hearer) (defBody s_need_hearer) (defScope s_need_hearer) .none kV_need_hearer dc_need_hearer pm_need_hearer an_need_hearer cd_need_hearer ct_need_hearer), sl_need_hearer⟩)
    (c_need_hearer : PySem.W.codeIn K cd_need_hearer "need_hearer" = true)
    (kp_need_hearer : PySem.W.keepIn K (.ref f_need_hearer) = true)
    (a_Same_init : PySem.W.findIn K (.ref C_Same) "__init__" = some (some (.ref f_Same_init)))
    (i_Same_init : PySem.W.isFn K (.ref f_Same_init) = true)
    (l_Same_init : K.lookup f_Same_init = some ⟨oc_Same_init, od_Same_init, .func (PySem.W.ksFn "__init__" "Same.__init__" (defArgs s_Same_init) (defBody s_Same_init) (defScope s_Same_init) .none kV_Same_init dc_Same_init pm_Same_init an_Same_init (.ref cda_Same_init) ct_Same_init cc_Same_init), sl_Same_init⟩)
    (c_Same_init : PySem.W.codeIn K (.ref cda_Same_init) "Same.__init__" = true)
    (q1_Same_init : K.lookup cda_Same_init = some ⟨ccl_Same_init, cdd_Same_init, .fields fv_Same_init, ccs_Same_init⟩)
    (q2_Same_init : fv_Same_init[2]? = some (.str file_Same_init tf_Same_init))
    (q3_Same_init : ((l.prog.main.file : Str) == file_Same_init) = true)
    (q4_Same_init : K.lookup cc_Same_init = some ⟨cl_Same_init, cld_Same_init, .cell (some (.ref C_Same)), csl_Same_init⟩)
    (kp_Same_init : PySem.W.keepIn K (.ref f_Same_init) = true)
    (dD_Same_init : PySem.W.isClsIn K C_Same = true)
    (a_Unlike_init : PySem.W.findIn K (.ref C_Unlike) "__init__" = some (some (.ref f_Unlike_init)))
    (i_Unlike_init : PySem.W.isFn K (.ref f_Unlike_init) = true)
    (l_Unlike_init : K.lookup f_Unlike_init = some ⟨oc_Unlike_init, od_Unlike_init, .func (PySem.W.ksFn "__init__" "Unlike.__init__" (defArgs s_Unlike_init) (defBody s_Unlike_init) (defScope s_Unlike_init) .none kV_Unlike_init dc_Unlike_init pm_Unlike_init an_Unlike_init (.ref cda_Unlike_init) ct_Unlike_init cc_Unlike_init), sl_Unlike_init⟩)
    (c_Unlike_init : PySem.W.codeIn K (.ref cda_Unlike_init) "Unlike.__init__" = true)
    (q1_Unlike_init : K.lookup cda_Unlike_init = some ⟨ccl_Unlike_init, cdd_Unlike_init, .fields fv_Unlike_init, ccs_Unlike_init⟩)
    (q2_Unlike_init : fv_Unlike_init[2]? = some (.str file_Unlike_init tf_Unlike_init))
    (q3_Unlike_init : ((l.prog.main.file : Str) == file_Unlike_init) = true)
    (q4_Unlike_init : K.lookup cc_Unlike_init = some ⟨cl_Unlike_init, cld_Unlike_init, .cell (some (.ref C_Unlike)), csl_Unlike_init⟩)
    (kp_Unlike_init : PySem.W.keepIn K (.ref f_Unlike_init) = true)
    (dD_Unlike_init : PySem.W.isClsIn K C_Unlike = true)
    (a_sign_of : PySem.W.nsIn K mainGlobals "sign_of" = some (some (.ref f_sign_of)))
    (l_sign_of : K.lookup f_sign_of = some ⟨oc_sign_of, od_sign_of, .func (PySem.W.fnOf "sign_of" "sign_of" (defArgs s_sign_of) (defBody s_sign_of) (defScope s_sign_of) .none kV_sign_of dc_sign_of pm_sign_of an_sign_of cd_sign_of ct_sign_of), sl_sign_of⟩)
    (c_sign_of : PySem.W.codeIn K cd_sign_of "sign_of" = true)
    (kp_sign_of : PySem.W.keepIn K (.ref f_sign_of) = true)
    (a_need_row_of : PySem.W.nsIn K mainGlobals "need_row_of" = some (some (.ref f_need_row_of)))
    (l_need_row_of : K.lookup f_need_row_of = some ⟨oc_need_row_of, od_need_row_of, .func (PySem.W.fnOf "need_row_of" "need_row_of" (defArgs s_need_row_of) (defBody s_need_row_of) (defScope s_need_row_of) .none kV_need_row_of dc_need_row_of pm_need_row_of an_need_row_of cd_need_row_of ct_need_row_of), sl_need_row_of⟩)
    (c_need_row_of : PySem.W.codeIn K cd_need_row_of "need_row_of" = true)
    (kp_need_row_of : PySem.W.keepIn K (.ref f_need_row_of) = true)
    (a_need_rows_of : PySem.W.nsIn K mainGlobals "need_rows_of" = some (some (.ref f_need_rows_of)))
    (l_need_rows_of : K.lookup f_need_rows_of = some ⟨oc_need_rows_of, od_need_rows_of, .func (PySem.W.fnOf "need_rows_of" "need_rows_of" (defArgs s_need_rows_of) (defBody s_need_rows_of) (defScope s_need_rows_of) .none kV_need_rows_of dc_need_rows_of pm_need_rows_of an_need_rows_of cd_need_rows_of ct_need_rows_of), sl_need_rows_of⟩)
    (c_need_rows_of : PySem.W.codeIn K cd_need_rows_of "need_rows_of" = true)
    (kp_need_rows_of : PySem.W.keepIn K (.ref f_need_rows_of) = true)
    (a_is_pair : PySem.W.nsIn K mainGlobals "is_pair" = some (some (.ref f_is_pair)))
    (l_is_pair : K.lookup f_is_pair = some ⟨oc_is_pair, od_is_pair, .func (PySem.W.fnOf "is_pair" "is_pair" (defArgs s_is_pair) (defBody s_is_pair) (defScope s_is_pair) .none kV_is_pair dc_is_pair pm_is_pair an_is_pair cd_is_pair ct_is_pair), sl_is_pair⟩)
    (c_is_pair : PySem.W.codeIn K cd_is_pair "is_pair" = true)
    (kp_is_pair : PySem.W.keepIn K (.ref f_is_pair) = true)
    (a_are_same : PySem.W.nsIn K mainGlobals "are_same" = some (some (.ref f_are_same)))
    (l_are_same : K.lookup f_are_same = some ⟨oc_are_same, od_are_same, .func (PySem.W.fnOf "are_same" "are_same" (defArgs s_are_same) (defBody s_are_same) (defScope s_are_same) .none kV_are_same dc_are_same pm_are_same an_are_same cd_are_same ct_are_same), sl_are_same⟩)
    (c_are_same : PySem.W.codeIn K cd_are_same "are_same" = true)
    (kp_are_same : PySem.W.keepIn K (.ref f_are_same) = true)
    (a_is_unlike : PySem.W.nsIn K mainGlobals "is_unlike" = some (some (.ref f_is_unlike)))
    (l_is_unlike : K.lookup f_is_unlike = some ⟨oc_is_unlike, od_is_unlike, .func (PySem.W.fnOf "is_unlike" "is_unlike" (defArgs s_is_unlike) (defBody s_is_unlike) (defScope s_is_unlike) .none kV_is_unlike dc_is_unlike pm_is_unlike an_is_unlike cd_is_unlike ct_is_unlike), sl_is_unlike⟩)
    (c_is_unlike : PySem.W.codeIn K cd_is_unlike "is_unlike" = true)
    (kp_is_unlike : PySem.W.keepIn K (.ref f_is_unlike) = true)
    (a_shows_same : PySem.W.nsIn K mainGlobals "shows_same" = some (some (.ref f_shows_same)))
    (l_shows_same : K.lookup f_shows_same = some ⟨oc_shows_same, od_shows_same, .func (PySem.W.fnOf "shows_same" "shows_same" (defArgs s_shows_same) (defBody s_shows_same) (defScope s_shows_same) .none kV_shows_same dc_shows_same pm_shows_same an_shows_same cd_shows_same ct_shows_same), sl_shows_same⟩)
    (c_shows_same : PySem.W.codeIn K cd_shows_same "shows_same" = true)
    (kp_shows_same : PySem.W.keepIn K (.ref f_shows_same) = true)
    (a_law_pen : PySem.W.nsIn K mainGlobals "_law_pen" = some (some (.ref f_law_pen)))
    (l_law_pen : K.lookup f_law_pen = some ⟨oc_law_pen, od_law_pen, .func (PySem.W.fnOf "_law_pen" "_law_pen" (defArgs s_law_pen) (defBody s_law_pen) (defScope s_law_pen) .none kV_law_pen dc_law_pen pm_law_pen an_law_pen cd_law_pen ct_law_pen), sl_law_pen⟩)
    (c_law_pen : PySem.W.codeIn K cd_law_pen "_law_pen" = true)
    (kp_law_pen : PySem.W.keepIn K (.ref f_law_pen) = true)
    (a_law_draw : PySem.W.nsIn K mainGlobals "_law_draw" = some (some (.ref f_law_draw)))
    (l_law_draw : K.lookup f_law_draw = some ⟨oc_law_draw, od_law_draw, .func (PySem.W.fnOf "_law_draw" "_law_draw" (defArgs s_law_draw) (defBody s_law_draw) (defScope s_law_draw) .none kV_law_draw dc_law_draw pm_law_draw an_law_draw cd_law_draw ct_law_draw), sl_law_draw⟩)
    (c_law_draw : PySem.W.codeIn K cd_law_draw "_law_draw" = true)
    (kp_law_draw : PySem.W.keepIn K (.ref f_law_draw) = true)
    (a_law_pick : PySem.W.nsIn K mainGlobals "_law_pick" = some (some (.ref f_law_pick)))
    (l_law_pick : K.lookup f_law_pick = some ⟨oc_law_pick, od_law_pick, .func (PySem.W.fnOf "_law_pick" "_law_pick" (defArgs s_law_pick) (defBody s_law_pick) (defScope s_law_pick) .none kV_law_pick dc_law_pick pm_law_pick an_law_pick cd_law_pick ct_law_pick), sl_law_pick⟩)
    (c_law_pick : PySem.W.codeIn K cd_law_pick "_law_pick" = true)
    (kp_law_pick : PySem.W.keepIn K (.ref f_law_pick) = true)
    (a_law_mixed : PySem.W.nsIn K mainGlobals "_law_mixed" = some (some (.ref f_law_mixed)))
    (l_law_mixed : K.lookup f_law_mixed = some ⟨oc_law_mixed, od_law_mixed, .func (PySem.W.fnOf "_law_mixed" "_law_mixed" (defArgs s_law_mixed) (defBody s_law_mixed) (defScope s_law_mixed) .none kV_law_mixed dc_law_mixed pm_law_mixed an_law_mixed cd_law_mixed ct_law_mixed), sl_law_mixed⟩)
    (c_law_mixed : PySem.W.codeIn K cd_law_mixed "_law_mixed" = true)
    (kp_law_mixed : PySem.W.keepIn K (.ref f_law_mixed) = true)
    (a_law_s_hearer : PySem.W.nsIn K mainGlobals "_law_s_hearer" = some (some (.ref f_law_s_hearer)))
    (l_law_s_hearer : K.lookup f_law_s_hearer = some ⟨oc_law_s_hearer, od_law_s_hearer, .func (PySem.W.fnOf "_law_s_hearer" "_law_s_hearer" (defArgs s_law_s_hearer) (defBody s_law_s_hearer) (defScope s_law_s_hearer) .none kV_law_s_hearer dc_law_s_hearer pm_law_s_hearer an_law_s_hearer cd_law_s_hearer ct_law_s_hearer), sl_law_s_hearer⟩)
    (c_law_s_hearer : PySem.W.codeIn K cd_law_s_hearer "_law_s_hearer" = true)
    (kp_law_s_hearer : PySem.W.keepIn K (.ref f_law_s_hearer) = true)
    (a_law_s_answer : PySem.W.nsIn K mainGlobals "_law_s_answer" = some (some (.ref f_law_s_answer)))
    (l_law_s_answer : K.lookup f_law_s_answer = some ⟨oc_law_s_answer, od_law_s_answer, .func (PySem.W.fnOf "_law_s_answer" "_law_s_answer" (defArgs s_law_s_answer) (defBody s_law_s_answer) (defScope s_law_s_answer) .none kV_law_s_answer dc_law_s_answer pm_law_s_answer an_law_s_answer cd_law_s_answer ct_law_s_answer), sl_law_s_answer⟩)
    (c_law_s_answer : PySem.W.codeIn K cd_law_s_answer "_law_s_answer" = true)
    (kp_law_s_answer : PySem.W.keepIn K (.ref f_law_s_answer) = true)
    (a_law_parts : PySem.W.nsIn K mainGlobals "_law_parts" = some (some (.ref f_law_parts)))
    (l_law_parts : K.lookup f_law_parts = some ⟨oc_law_parts, od_law_parts, .func (PySem.W.fnOf "_law_parts" "_law_parts" (defArgs s_law_parts) (defBody s_law_parts) (defScope s_law_parts) .none kV_law_parts dc_law_parts pm_law_parts an_law_parts cd_law_parts ct_law_parts), sl_law_parts⟩)
    (c_law_parts : PySem.W.codeIn K cd_law_parts "_law_parts" = true)
    (kp_law_parts : PySem.W.keepIn K (.ref f_law_parts) = true)
    (a_law : PySem.W.nsIn K mainGlobals "law" = some (some (.ref f_law)))
    (l_law : K.lookup f_law = some ⟨oc_law, od_law, .func (PySem.W.fnOf "law" "law" (defArgs s_law) (defBody s_law) (defScope s_law) .none kV_law dc_law pm_law an_law cd_law ct_law), sl_law⟩)
    (c_law : PySem.W.codeIn K cd_law "law" = true)
    (kp_law : PySem.W.keepIn K (.ref f_law) = true)
    (zS : PySem.W.nsIn K mainGlobals "super" = some none)
    (zT : (l.prog.main.scope.names.lookup ("super" : Str)).isSome = false)
    (zO : PySem.W.nsIn K PySem.cStatics "thirdparty.any" = some none)
    (s1_Same_init_Same : PySem.W.mroIn K C_Same (.ref C_Same) = some true)
    (s2_Same_init_Same : PySem.W.ks_superIn K C_Same C_Same "__init__" = some (some (.ref f_Paper_init)))
    (s3_Same_init_Same : PySem.W.typeIn K (.ref f_Paper_init) = some (.type "function"))
    (s4_Same_init_Same : PySem.W.fnIn K f_Paper_init = true)
    (s1_Unlike_init_Unlike : PySem.W.mroIn K C_Unlike (.ref C_Unlike) = some true)
    (s2_Unlike_init_Unlike : PySem.W.ks_superIn K C_Unlike C_Unlike "__init__" = some (some (.ref f_Paper_init)))
    (s3_Unlike_init_Unlike : PySem.W.typeIn K (.ref f_Paper_init) = some (.type "function"))
    (s4_Unlike_init_Unlike : PySem.W.fnIn K f_Paper_init = true)
    (hn : PySem.W.specialIn K (.builtin "object.__class__") "__get__" = some (some (.builtin "getset_descriptor.__get__")))
    (htk : PySem.W.takesIn K (.builtin "object.__class__") = some true)
    (pg_Denial : PySem.W.plainGet K C_Denial Str.empty = true)
    (hd_Denial : PySem.W.hasDictIn K C_Denial = true)
    (po_Denial : PySem.W.plainOver K C_Denial = true)
    (sa_Denial : PySem.W.findIn K (.ref C_Denial) "__setattr__" = some (some (.builtin "object.__setattr__")))
    (ha_Denial : PySem.W.findIn K (.ref C_Denial) "__class__" = some (some (.builtin "object.__class__")))
    (hm_Denial : PySem.W.mroIn K C_Denial (.type "object") = some true)
    (b0_Denial : PySem.W.kitOne K (.ref C_Denial) (.type "NoneType") = some false)
    (b1_Denial : PySem.W.kitOne K (.ref C_Denial) (.type "bool") = some false)
    (b2_Denial : PySem.W.kitOne K (.ref C_Denial) (.type "int") = some false)
    (b3_Denial : PySem.W.kitOne K (.ref C_Denial) (.type "str") = some false)
    (b4_Denial : PySem.W.kitOne K (.ref C_Denial) (.type "list") = some false)
    (b5_Denial : PySem.W.kitOne K (.ref C_Denial) (.type "tuple") = some false)
    (b6_Denial : PySem.W.kitOne K (.ref C_Denial) (.type "dict") = some false)
    (e0_Denial : PySem.W.kitOne K (.type "NoneType") (.ref C_Denial) = some false)
    (e1_Denial : PySem.W.kitOne K (.type "bool") (.ref C_Denial) = some false)
    (e2_Denial : PySem.W.kitOne K (.type "int") (.ref C_Denial) = some false)
    (e3_Denial : PySem.W.kitOne K (.type "str") (.ref C_Denial) = some false)
    (e4_Denial : PySem.W.kitOne K (.type "list") (.ref C_Denial) = some false)
    (e5_Denial : PySem.W.kitOne K (.type "tuple") (.ref C_Denial) = some false)
    (e6_Denial : PySem.W.kitOne K (.type "dict") (.ref C_Denial) = some false)
    (x_Denial_Denial : PySem.W.kitOne K (.ref C_Denial) (.ref C_Denial) = some true)
    (x_Denial_Hearer : PySem.W.kitOne K (.ref C_Denial) (.ref C_Hearer) = some false)
    (x_Denial_Paper : PySem.W.kitOne K (.ref C_Denial) (.ref C_Paper) = some true)
    (x_Denial_Same : PySem.W.kitOne K (.ref C_Denial) (.ref C_Same) = some false)
    (x_Denial_Unlike : PySem.W.kitOne K (.ref C_Denial) (.ref C_Unlike) = some false)
    (pg_Hearer : PySem.W.plainGet K C_Hearer Str.empty = true)
    (hd_Hearer : PySem.W.hasDictIn K C_Hearer = true)
    (po_Hearer : PySem.W.plainOver K C_Hearer = true)
    (sa_Hearer : PySem.W.findIn K (.ref C_Hearer) "__setattr__" = some (some (.builtin "object.__setattr__")))
    (ha_Hearer : PySem.W.findIn K (.ref C_Hearer) "__class__" = some (some (.builtin "object.__class__")))
    (hm_Hearer : PySem.W.mroIn K C_Hearer (.type "object") = some true)
    (b0_Hearer : PySem.W.kitOne K (.ref C_Hearer) (.type "NoneType") = some false)
    (b1_Hearer : PySem.W.kitOne K (.ref C_Hearer) (.type "bool") = some false)
    (b2_Hearer : PySem.W.kitOne K (.ref C_Hearer) (.type "int") = some false)
    (b3_Hearer : PySem.W.kitOne K (.ref C_Hearer) (.type "str") = some false)
    (b4_Hearer : PySem.W.kitOne K (.ref C_Hearer) (.type "list") = some false)
    (b5_Hearer : PySem.W.kitOne K (.ref C_Hearer) (.type "tuple") = some false)
    (b6_Hearer : PySem.W.kitOne K (.ref C_Hearer) (.type "dict") = some false)
    (e0_Hearer : PySem.W.kitOne K (.type "NoneType") (.ref C_Hearer) = some false)
    (e1_Hearer : PySem.W.kitOne K (.type "bool") (.ref C_Hearer) = some false)
    (e2_Hearer : PySem.W.kitOne K (.type "int") (.ref C_Hearer) = some false)
    (e3_Hearer : PySem.W.kitOne K (.type "str") (.ref C_Hearer) = some false)
    (e4_Hearer : PySem.W.kitOne K (.type "list") (.ref C_Hearer) = some false)
    (e5_Hearer : PySem.W.kitOne K (.type "tuple") (.ref C_Hearer) = some false)
    (e6_Hearer : PySem.W.kitOne K (.type "dict") (.ref C_Hearer) = some false)
    (x_Hearer_Denial : PySem.W.kitOne K (.ref C_Hearer) (.ref C_Denial) = some false)
    (x_Hearer_Hearer : PySem.W.kitOne K (.ref C_Hearer) (.ref C_Hearer) = some true)
    (x_Hearer_Paper : PySem.W.kitOne K (.ref C_Hearer) (.ref C_Paper) = some false)
    (x_Hearer_Same : PySem.W.kitOne K (.ref C_Hearer) (.ref C_Same) = some false)
    (x_Hearer_Unlike : PySem.W.kitOne K (.ref C_Hearer) (.ref C_Unlike) = some false)
    (pg_Paper : PySem.W.plainGet K C_Paper Str.empty = true)
    (hd_Paper : PySem.W.hasDictIn K C_Paper = true)
    (po_Paper : PySem.W.plainOver K C_Paper = true)
    (sa_Paper : PySem.W.findIn K (.ref C_Paper) "__setattr__" = some (some (.builtin "object.__setattr__")))
    (ha_Paper : PySem.W.findIn K (.ref C_Paper) "__class__" = some (some (.builtin "object.__class__")))
    (hm_Paper : PySem.W.mroIn K C_Paper (.type "object") = some true)
    (b0_Paper : PySem.W.kitOne K (.ref C_Paper) (.type "NoneType") = some false)
    (b1_Paper : PySem.W.kitOne K (.ref C_Paper) (.type "bool") = some false)
    (b2_Paper : PySem.W.kitOne K (.ref C_Paper) (.type "int") = some false)
    (b3_Paper : PySem.W.kitOne K (.ref C_Paper) (.type "str") = some false)
    (b4_Paper : PySem.W.kitOne K (.ref C_Paper) (.type "list") = some false)
    (b5_Paper : PySem.W.kitOne K (.ref C_Paper) (.type "tuple") = some false)
    (b6_Paper : PySem.W.kitOne K (.ref C_Paper) (.type "dict") = some false)
    (e0_Paper : PySem.W.kitOne K (.type "NoneType") (.ref C_Paper) = some false)
    (e1_Paper : PySem.W.kitOne K (.type "bool") (.ref C_Paper) = some false)
    (e2_Paper : PySem.W.kitOne K (.type "int") (.ref C_Paper) = some false)
    (e3_Paper : PySem.W.kitOne K (.type "str") (.ref C_Paper) = some false)
    (e4_Paper : PySem.W.kitOne K (.type "list") (.ref C_Paper) = some false)
    (e5_Paper : PySem.W.kitOne K (.type "tuple") (.ref C_Paper) = some false)
    (e6_Paper : PySem.W.kitOne K (.type "dict") (.ref C_Paper) = some false)
    (x_Paper_Denial : PySem.W.kitOne K (.ref C_Paper) (.ref C_Denial) = some false)
    (x_Paper_Hearer : PySem.W.kitOne K (.ref C_Paper) (.ref C_Hearer) = some false)
    (x_Paper_Paper : PySem.W.kitOne K (.ref C_Paper) (.ref C_Paper) = some true)
    (x_Paper_Same : PySem.W.kitOne K (.ref C_Paper) (.ref C_Same) = some false)
    (x_Paper_Unlike : PySem.W.kitOne K (.ref C_Paper) (.ref C_Unlike) = some false)
    (pg_Same : PySem.W.plainGet K C_Same Str.empty = true)
    (hd_Same : PySem.W.hasDictIn K C_Same = true)
    (po_Same : PySem.W.plainOver K C_Same = true)
    (sa_Same : PySem.W.findIn K (.ref C_Same) "__setattr__" = some (some (.builtin "object.__setattr__")))
    (ha_Same : PySem.W.findIn K (.ref C_Same) "__class__" = some (some (.builtin "object.__class__")))
    (hm_Same : PySem.W.mroIn K C_Same (.type "object") = some true)
    (b0_Same : PySem.W.kitOne K (.ref C_Same) (.type "NoneType") = some false)
    (b1_Same : PySem.W.kitOne K (.ref C_Same) (.type "bool") = some false)
    (b2_Same : PySem.W.kitOne K (.ref C_Same) (.type "int") = some false)
    (b3_Same : PySem.W.kitOne K (.ref C_Same) (.type "str") = some false)
    (b4_Same : PySem.W.kitOne K (.ref C_Same) (.type "list") = some false)
    (b5_Same : PySem.W.kitOne K (.ref C_Same) (.type "tuple") = some false)
    (b6_Same : PySem.W.kitOne K (.ref C_Same) (.type "dict") = some false)
    (e0_Same : PySem.W.kitOne K (.type "NoneType") (.ref C_Same) = some false)
    (e1_Same : PySem.W.kitOne K (.type "bool") (.ref C_Same) = some false)
    (e2_Same : PySem.W.kitOne K (.type "int") (.ref C_Same) = some false)
    (e3_Same : PySem.W.kitOne K (.type "str") (.ref C_Same) = some false)
    (e4_Same : PySem.W.kitOne K (.type "list") (.ref C_Same) = some false)
    (e5_Same : PySem.W.kitOne K (.type "tuple") (.ref C_Same) = some false)
    (e6_Same : PySem.W.kitOne K (.type "dict") (.ref C_Same) = some false)
    (x_Same_Denial : PySem.W.kitOne K (.ref C_Same) (.ref C_Denial) = some false)
    (x_Same_Hearer : PySem.W.kitOne K (.ref C_Same) (.ref C_Hearer) = some false)
    (x_Same_Paper : PySem.W.kitOne K (.ref C_Same) (.ref C_Paper) = some true)
    (x_Same_Same : PySem.W.kitOne K (.ref C_Same) (.ref C_Same) = some true)
    (x_Same_Unlike : PySem.W.kitOne K (.ref C_Same) (.ref C_Unlike) = some false)
    (pg_Unlike : PySem.W.plainGet K C_Unlike Str.empty = true)
    (hd_Unlike : PySem.W.hasDictIn K C_Unlike = true)
    (po_Unlike : PySem.W.plainOver K C_Unlike = true)
    (sa_Unlike : PySem.W.findIn K (.ref C_Unlike) "__setattr__" = some (some (.builtin "object.__setattr__")))
    (ha_Unlike : PySem.W.findIn K (.ref C_Unlike) "__class__" = some (some (.builtin "object.__class__")))
    (hm_Unlike : PySem.W.mroIn K C_Unlike (.type "object") = some true)
    (b0_Unlike : PySem.W.kitOne K (.ref C_Unlike) (.type "NoneType") = some false)
    (b1_Unlike : PySem.W.kitOne K (.ref C_Unlike) (.type "bool") = some false)
    (b2_Unlike : PySem.W.kitOne K (.ref C_Unlike) (.type "int") = some false)
    (b3_Unlike : PySem.W.kitOne K (.ref C_Unlike) (.type "str") = some false)
    (b4_Unlike : PySem.W.kitOne K (.ref C_Unlike) (.type "list") = some false)
    (b5_Unlike : PySem.W.kitOne K (.ref C_Unlike) (.type "tuple") = some false)
    (b6_Unlike : PySem.W.kitOne K (.ref C_Unlike) (.type "dict") = some false)
    (e0_Unlike : PySem.W.kitOne K (.type "NoneType") (.ref C_Unlike) = some false)
    (e1_Unlike : PySem.W.kitOne K (.type "bool") (.ref C_Unlike) = some false)
    (e2_Unlike : PySem.W.kitOne K (.type "int") (.ref C_Unlike) = some false)
    (e3_Unlike : PySem.W.kitOne K (.type "str") (.ref C_Unlike) = some false)
    (e4_Unlike : PySem.W.kitOne K (.type "list") (.ref C_Unlike) = some false)
    (e5_Unlike : PySem.W.kitOne K (.type "tuple") (.ref C_Unlike) = some false)
    (e6_Unlike : PySem.W.kitOne K (.type "dict") (.ref C_Unlike) = some false)
    (x_Unlike_Denial : PySem.W.kitOne K (.ref C_Unlike) (.ref C_Denial) = some true)
    (x_Unlike_Hearer : PySem.W.kitOne K (.ref C_Unlike) (.ref C_Hearer) = some false)
    (x_Unlike_Paper : PySem.W.kitOne K (.ref C_Unlike) (.ref C_Paper) = some true)
    (x_Unlike_Same : PySem.W.kitOne K (.ref C_Unlike) (.ref C_Same) = some false)
    (x_Unlike_Unlike : PySem.W.kitOne K (.ref C_Unlike) (.ref C_Unlike) = some true)
    (na_Denial_parts : PySem.W.findIn K (.ref C_Denial) "parts" = some none)
    (na_Denial_word : PySem.W.findIn K (.ref C_Denial) "word" = some none)
    (na_Hearer_by_heard : PySem.W.findIn K (.ref C_Hearer) "by_heard" = some none)
    (na_Hearer_heard_letters : PySem.W.findIn K (.ref C_Hearer) "heard_letters" = some none)
    (na_Hearer_rows : PySem.W.findIn K (.ref C_Hearer) "rows" = some none)
    (na_Paper_parts : PySem.W.findIn K (.ref C_Paper) "parts" = some none)
    (na_Paper_word : PySem.W.findIn K (.ref C_Paper) "word" = some none)
    (na_Same_pairs : PySem.W.findIn K (.ref C_Same) "pairs" = some none)
    (na_Same_parts : PySem.W.findIn K (.ref C_Same) "parts" = some none)
    (na_Same_word : PySem.W.findIn K (.ref C_Same) "word" = some none)
    (na_Unlike_heard : PySem.W.findIn K (.ref C_Unlike) "heard" = some none)
    (na_Unlike_parts : PySem.W.findIn K (.ref C_Unlike) "parts" = some none)
    (na_Unlike_word : PySem.W.findIn K (.ref C_Unlike) "word" = some none)
    (m1_Denial : PySem.W.makesIn K C_Denial = true)
    (m2_Denial : PySem.W.findIn K (.ref C_Denial) "__init__" = some (some (.ref f_Paper_init)))
    (m3_Denial : PySem.W.isFn K (.ref f_Paper_init) = true)
    (m4_Denial : PySem.W.keepIn K (.ref C_Denial) = true)
    (m1_Hearer : PySem.W.makesIn K C_Hearer = true)
    (m2_Hearer : PySem.W.findIn K (.ref C_Hearer) "__init__" = some (some (.ref f_Hearer_init)))
    (m3_Hearer : PySem.W.isFn K (.ref f_Hearer_init) = true)
    (m4_Hearer : PySem.W.keepIn K (.ref C_Hearer) = true)
    (m1_Paper : PySem.W.makesIn K C_Paper = true)
    (m2_Paper : PySem.W.findIn K (.ref C_Paper) "__init__" = some (some (.ref f_Paper_init)))
    (m3_Paper : PySem.W.isFn K (.ref f_Paper_init) = true)
    (m4_Paper : PySem.W.keepIn K (.ref C_Paper) = true)
    (m1_Same : PySem.W.makesIn K C_Same = true)
    (m2_Same : PySem.W.findIn K (.ref C_Same) "__init__" = some (some (.ref f_Same_init)))
    (m3_Same : PySem.W.isFn K (.ref f_Same_init) = true)
    (m4_Same : PySem.W.keepIn K (.ref C_Same) = true)
    (m1_Unlike : PySem.W.makesIn K C_Unlike = true)
    (m2_Unlike : PySem.W.findIn K (.ref C_Unlike) "__init__" = some (some (.ref f_Unlike_init)))
    (m3_Unlike : PySem.W.isFn K (.ref f_Unlike_init) = true)
    (m4_Unlike : PySem.W.keepIn K (.ref C_Unlike) = true)
    : ∃ fd : FuncData, (∀ (s : Shared) (v : Value), BindsTo s fd ⟨[v], []⟩ [("script", v)]) ∧ ∀ base : Heap, K.In base → base.Ns mainGlobals mg → FnOk l.prog w K mg base (L2.CX l.prog w) 17 fa fd ["script"] (spTrue K 63) := by
  have e := hfa.symm.trans (PySem.W.mg_of X G a_law)
  have e' : f_law = fa := by cases e; rfl
  subst e'
  have cf : CF K (tabC [(("Denial" : Str), C_Denial), (("Hearer" : Str), C_Hearer), (("Paper" : Str), C_Paper), (("Same" : Str), C_Same), (("Unlike" : Str), C_Unlike)]) sub := by
    refine cf_of (fun p hp => ?_) fun p hp r hr => ?_
    · simp only [List.mem_cons, List.not_mem_nil, or_false] at hp
      rcases hp with rfl | rfl | rfl | rfl | rfl
      · exact oneC pg_Denial hd_Denial po_Denial sa_Denial ha_Denial hn htk hm_Denial b0_Denial b1_Denial b2_Denial b3_Denial b4_Denial b5_Denial b6_Denial e0_Denial e1_Denial e2_Denial e3_Denial e4_Denial e5_Denial e6_Denial
      · exact oneC pg_Hearer hd_Hearer po_Hearer sa_Hearer ha_Hearer hn htk hm_Hearer b0_Hearer b1_Hearer b2_Hearer b3_Hearer b4_Hearer b5_Hearer b6_Hearer e0_Hearer e1_Hearer e2_Hearer e3_Hearer e4_Hearer e5_Hearer e6_Hearer
      · exact oneC pg_Paper hd_Paper po_Paper sa_Paper ha_Paper hn htk hm_Paper b0_Paper b1_Paper b2_Paper b3_Paper b4_Paper b5_Paper b6_Paper e0_Paper e1_Paper e2_Paper e3_Paper e4_Paper e5_Paper e6_Paper
      · exact oneC pg_Same hd_Same po_Same sa_Same ha_Same hn htk hm_Same b0_Same b1_Same b2_Same b3_Same b4_Same b5_Same b6_Same e0_Same e1_Same e2_Same e3_Same e4_Same e5_Same e6_Same
      · exact oneC pg_Unlike hd_Unlike po_Unlike sa_Unlike ha_Unlike hn htk hm_Unlike b0_Unlike b1_Unlike b2_Unlike b3_Unlike b4_Unlike b5_Unlike b6_Unlike e0_Unlike e1_Unlike e2_Unlike e3_Unlike e4_Unlike e5_Unlike e6_Unlike
    · simp only [List.mem_cons, List.not_mem_nil, or_false] at hp hr
      rcases hp with rfl | rfl | rfl | rfl | rfl <;> rcases hr with rfl | rfl | rfl | rfl | rfl
      · exact x_Denial_Denial
      · exact x_Denial_Hearer
      · exact x_Denial_Paper
      · exact x_Denial_Same
      · exact x_Denial_Unlike
      · exact x_Hearer_Denial
      · exact x_Hearer_Hearer
      · exact x_Hearer_Paper
      · exact x_Hearer_Same
      · exact x_Hearer_Unlike
      · exact x_Paper_Denial
      · exact x_Paper_Hearer
      · exact x_Paper_Paper
      · exact x_Paper_Same
      · exact x_Paper_Unlike
      · exact x_Same_Denial
      · exact x_Same_Hearer
      · exact x_Same_Paper
      · exact x_Same_Same
      · exact x_Same_Unlike
      · exact x_Unlike_Denial
      · exact x_Unlike_Hearer
      · exact x_Unlike_Paper
      · exact x_Unlike_Same
      · exact x_Unlike_Unlike
  let T : Facts l.prog K mg (tabC [(("Denial" : Str), C_Denial), (("Hearer" : Str), C_Hearer), (("Paper" : Str), C_Paper), (("Same" : Str), C_Same), (("Unlike" : Str), C_Unlike)]) := { cf := cf, f_is_integer := f_is_integer, d_is_integer := _, F_is_integer := fun_mk (st := s_is_integer) l_is_integer c_is_integer kp_is_integer, g_is_integer := PySem.W.mg_of X G a_is_integer, b_is_integer := ((fun_mk (st := s_is_integer) l_is_integer c_is_integer kp_is_integer).binds (ps := ["value"]) fun _ _ _ _ _ _ us hl => match us, hl with | [_], _ => rfl), f_is_within := f_is_within, d_is_within := _, F_is_within := fun_mk (st := s_is_within) l_is_within c_is_within kp_is_within, g_is_within := PySem.W.mg_of X G a_is_within, b_is_within := ((fun_mk (st := s_is_within) l_is_within c_is_within kp_is_within).binds (ps := ["value", "least", "most"]) fun _ _ _ _ _ _ us hl => match us, hl with | [_, _, _], _ => rfl), f_is_name := f_is_name, d_is_name := _, F_is_name := fun_mk (st := s_is_name) l_is_name c_is_name kp_is_name, g_is_name := PySem.W.mg_of X G a_is_name, b_is_name := ((fun_mk (st := s_is_name) l_is_name c_is_name kp_is_name).binds (ps := ["value"]) fun _ _ _ _ _ _ us hl => match us, hl with | [_], _ => rfl), f_is_listed := f_is_listed, d_is_listed := _, F_is_listed := fun_mk (st := s_is_listed) l_is_listed c_is_listed kp_is_listed, g_is_listed := PySem.W.mg_of X G a_is_listed, b_is_listed := ((fun_mk (st := s_is_listed) l_is_listed c_is_listed kp_is_listed).binds (ps := ["value"]) fun _ _ _ _ _ _ us hl => match us, hl with | [_], _ => rfl), f_is_row_of := f_is_row_of, d_is_row_of := _, F_is_row_of := fun_mk (st := s_is_row_of) l_is_row_of c_is_row_of kp_is_row_of, g_is_row_of := PySem.W.mg_of X G a_is_row_of, b_is_row_of := ((fun_mk (st := s_is_row_of) l_is_row_of c_is_row_of kp_is_row_of).binds (ps := ["value", "many"]) fun _ _ _ _ _ _ us hl => match us, hl with | [_, _], _ => rfl), f_are_ascending := f_are_ascending, d_are_ascending := _, F_are_ascending := fun_mk (st := s_are_ascending) l_are_ascending c_are_ascending kp_are_ascending, g_are_ascending := PySem.W.mg_of X G a_are_ascending, b_are_ascending := ((fun_mk (st := s_are_ascending) l_are_ascending c_are_ascending kp_are_ascending).binds (ps := ["some"]) fun _ _ _ _ _ _ us hl => match us, hl with | [_], _ => rfl), f_fixed := f_fixed, d_fixed := _, F_fixed := fun_mk (st := s_fixed) l_fixed c_fixed kp_fixed, g_fixed := PySem.W.mg_of X G a_fixed, b_fixed := ((fun_mk (st := s_fixed) l_fixed c_fixed kp_fixed).binds (ps := ["value"]) fun _ _ _ _ _ _ us hl => match us, hl with | [_], _ => rfl), f_Paper_init := f_Paper_init, d_Paper_init := _, F_Paper_init := fun_mk (st := s_Paper_init) l_Paper_init c_Paper_init kp_Paper_init, f_is_bit := f_is_bit, d_is_bit := _, F_is_bit := fun_mk (st := s_is_bit) l_is_bit c_is_bit kp_is_bit, g_is_bit := PySem.W.mg_of X G a_is_bit, b_is_bit := ((fun_mk (st := s_is_bit) l_is_bit c_is_bit kp_is_bit).binds (ps := ["value"]) fun _ _ _ _ _ _ us hl => match us, hl with | [_], _ => rfl), f_is_answer := f_is_answer, d_is_answer := _, F_is_answer := fun_mk (st := s_is_answer) l_is_answer c_is_answer kp_is_answer, g_is_answer := PySem.W.mg_of X G a_is_answer, b_is_answer := ((fun_mk (st := s_is_answer) l_is_answer c_is_answer kp_is_answer).binds (ps := ["value", "many"]) fun _ _ _ _ _ _ us hl => match us, hl with | [_, _], _ => rfl), f_is_hearer_row := f_is_hearer_row, d_is_hearer_row := _, F_is_hearer_row := fun_mk (st := s_is_hearer_row) l_is_hearer_row c_is_hearer_row kp_is_hearer_row, g_is_hearer_row := PySem.W.mg_of X G a_is_hearer_row, b_is_hearer_row := ((fun_mk (st := s_is_hearer_row) l_is_hearer_row c_is_hearer_row kp_is_hearer_row).binds (ps := ["value", "many"]) fun _ _ _ _ _ _ us hl => match us, hl with | [_, _], _ => rfl), f_is_table := f_is_table, d_is_table := _, F_is_table := fun_mk (st := s_is_table) l_is_table c_is_table kp_is_table, g_is_table := PySem.W.mg_of X G a_is_table, b_is_table := ((fun_mk (st := s_is_table) l_is_table c_is_table kp_is_table).binds (ps := ["value"]) fun _ _ _ _ _ _ us hl => match us, hl with | [_], _ => rfl), f_Hearer_init := f_Hearer_init, d_Hearer_init := _, F_Hearer_init := fun_mk (st := s_Hearer_init) l_Hearer_init c_Hearer_init kp_Hearer_init, b_Hearer_init := ((fun_mk (st := s_Hearer_init) l_Hearer_init c_Hearer_init kp_Hearer_init).binds (ps := ["self", "rows"]) fun _ _ _ _ _ _ us hl => match us, hl with | [_, _], _ => rfl), f_Hearer_answer := f_Hearer_answer, d_Hearer_answer := _, F_Hearer_answer := fun_mk (st := s_Hearer_answer) l_Hearer_answer c_Hearer_answer kp_Hearer_answer, b_Hearer_answer := ((fun_mk (st := s_Hearer_answer) l_Hearer_answer c_Hearer_answer kp_Hearer_answer).binds (ps := ["self", "at", "heard"]) fun _ _ _ _ _ _ us hl => match us, hl with | [_, _, _], _ => rfl), f_need_hearer := f_need_hearer, d_need_hearer := _, F_need_hearer := fun_mk (st := s_need_hearer) l_need_hearer c_need_hearer kp_need_hearer, g_need_hearer := PySem.W.mg_of X G a_need_hearer, b_need_hearer := ((fun_mk (st := s_need_hearer) l_need_hearer c_need_hearer kp_need_hearer).binds (ps := ["value"]) fun _ _ _ _ _ _ us hl => match us, hl with | [_], _ => rfl), f_Same_init := f_Same_init, d_Same_init := _, cc_Same_init := cc_Same_init, F_Same_init := ⟨⟨_, _, _, _, _, _, _, _, _, _, _, _, _, _, _, _, _, _, rfl, l_Same_init, c_Same_init, q1_Same_init, q2_Same_init, q3_Same_init, q4_Same_init⟩, kp_Same_init, dD_Same_init, zS, zT, zO⟩, b_Same_init := (fun s us _ hl => .of_eq (match us, hl with | [_, _], _ => rfl)), f_Unlike_init := f_Unlike_init, d_Unlike_init := _, cc_Unlike_init := cc_Unlike_init, F_Unlike_init := ⟨⟨_, _, _, _, _, _, _, _, _, _, _, _, _, _, _, _, _, _, rfl, l_Unlike_init, c_Unlike_init, q1_Unlike_init, q2_Unlike_init, q3_Unlike_init, q4_Unlike_init⟩, kp_Unlike_init, dD_Unlike_init, zS, zT, zO⟩, b_Unlike_init := (fun s us _ hl => .of_eq (match us, hl with | [_, _], _ => rfl)), f_sign_of := f_sign_of, d_sign_of := _, F_sign_of := fun_mk (st := s_sign_of) l_sign_of c_sign_of kp_sign_of, g_sign_of := PySem.W.mg_of X G a_sign_of, b_sign_of := ((fun_mk (st := s_sign_of) l_sign_of c_sign_of kp_sign_of).binds (ps := ["row"]) fun _ _ _ _ _ _ us hl => match us, hl with | [_], _ => rfl), f_need_row_of := f_need_row_of, d_need_row_of := _, F_need_row_of := fun_mk (st := s_need_row_of) l_need_row_of c_need_row_of kp_need_row_of, g_need_row_of := PySem.W.mg_of X G a_need_row_of, b_need_row_of := ((fun_mk (st := s_need_row_of) l_need_row_of c_need_row_of kp_need_row_of).binds (ps := ["hearer", "at", "part"]) fun _ _ _ _ _ _ us hl => match us, hl with | [_, _, _], _ => rfl), f_need_rows_of := f_need_rows_of, d_need_rows_of := _, F_need_rows_of := fun_mk (st := s_need_rows_of) l_need_rows_of c_need_rows_of kp_need_rows_of, g_need_rows_of := PySem.W.mg_of X G a_need_rows_of, b_need_rows_of := ((fun_mk (st := s_need_rows_of) l_need_rows_of c_need_rows_of kp_need_rows_of).binds (ps := ["one", "at", "other", "to"]) fun _ _ _ _ _ _ us hl => match us, hl with | [_, _, _, _], _ => rfl), f_is_pair := f_is_pair, d_is_pair := _, F_is_pair := fun_mk (st := s_is_pair) l_is_pair c_is_pair kp_is_pair, g_is_pair := PySem.W.mg_of X G a_is_pair, b_is_pair := ((fun_mk (st := s_is_pair) l_is_pair c_is_pair kp_is_pair).binds (ps := ["one", "other", "value"]) fun _ _ _ _ _ _ us hl => match us, hl with | [_, _, _], _ => rfl), f_are_same := f_are_same, d_are_same := _, F_are_same := fun_mk (st := s_are_same) l_are_same c_are_same kp_are_same, g_are_same := PySem.W.mg_of X G a_are_same, b_are_same := ((fun_mk (st := s_are_same) l_are_same c_are_same kp_are_same).binds (ps := ["one", "at", "other", "to", "pairs"]) fun _ _ _ _ _ _ us hl => match us, hl with | [_, _, _, _, _], _ => rfl), f_is_unlike := f_is_unlike, d_is_unlike := _, F_is_unlike := fun_mk (st := s_is_unlike) l_is_unlike c_is_unlike kp_is_unlike, g_is_unlike := PySem.W.mg_of X G a_is_unlike, b_is_unlike := ((fun_mk (st := s_is_unlike) l_is_unlike c_is_unlike kp_is_unlike).binds (ps := ["one", "at", "other", "to", "heard"]) fun _ _ _ _ _ _ us hl => match us, hl with | [_, _, _, _, _], _ => rfl), f_shows_same := f_shows_same, d_shows_same := _, F_shows_same := fun_mk (st := s_shows_same) l_shows_same c_shows_same kp_shows_same, g_shows_same := PySem.W.mg_of X G a_shows_same, b_shows_same := ((fun_mk (st := s_shows_same) l_shows_same c_shows_same kp_shows_same).binds (ps := ["one", "at", "other", "to", "value"]) fun _ _ _ _ _ _ us hl => match us, hl with | [_, _, _, _, _], _ => rfl), f_law_pen := f_law_pen, d_law_pen := _, F_law_pen := fun_mk (st := s_law_pen) l_law_pen c_law_pen kp_law_pen, g_law_pen := PySem.W.mg_of X G a_law_pen, b_law_pen := ((fun_mk (st := s_law_pen) l_law_pen c_law_pen kp_law_pen).binds (ps := ["script"]) fun _ _ _ _ _ _ us hl => match us, hl with | [_], _ => rfl), f_law_draw := f_law_draw, d_law_draw := _, F_law_draw := fun_mk (st := s_law_draw) l_law_draw c_law_draw kp_law_draw, g_law_draw := PySem.W.mg_of X G a_law_draw, b_law_draw := ((fun_mk (st := s_law_draw) l_law_draw c_law_draw kp_law_draw).binds (ps := ["pen", "many"]) fun _ _ _ _ _ _ us hl => match us, hl with | [_, _], _ => rfl), f_law_pick := f_law_pick, d_law_pick := _, F_law_pick := fun_mk (st := s_law_pick) l_law_pick c_law_pick kp_law_pick, g_law_pick := PySem.W.mg_of X G a_law_pick, b_law_pick := ((fun_mk (st := s_law_pick) l_law_pick c_law_pick kp_law_pick).binds (ps := ["pen", "some"]) fun _ _ _ _ _ _ us hl => match us, hl with | [_, _], _ => rfl), f_law_mixed := f_law_mixed, d_law_mixed := _, F_law_mixed := fun_mk (st := s_law_mixed) l_law_mixed c_law_mixed kp_law_mixed, g_law_mixed := PySem.W.mg_of X G a_law_mixed, b_law_mixed := ((fun_mk (st := s_law_mixed) l_law_mixed c_law_mixed kp_law_mixed).binds (ps := ["pen", "some"]) fun _ _ _ _ _ _ us hl => match us, hl with | [_, _], _ => rfl), f_law_s_hearer := f_law_s_hearer, d_law_s_hearer := _, F_law_s_hearer := fun_mk (st := s_law_s_hearer) l_law_s_hearer c_law_s_hearer kp_law_s_hearer, g_law_s_hearer := PySem.W.mg_of X G a_law_s_hearer, b_law_s_hearer := ((fun_mk (st := s_law_s_hearer) l_law_s_hearer c_law_s_hearer kp_law_s_hearer).binds (ps := ["pen", "names", "most"]) fun _ _ _ _ _ _ us hl => match us, hl with | [_, _, _], _ => rfl), f_law_s_answer := f_law_s_answer, d_law_s_answer := _, F_law_s_answer := fun_mk (st := s_law_s_answer) l_law_s_answer c_law_s_answer kp_law_s_answer, g_law_s_answer := PySem.W.mg_of X G a_law_s_answer, b_law_s_answer := ((fun_mk (st := s_law_s_answer) l_law_s_answer c_law_s_answer kp_law_s_answer).binds (ps := ["hearer", "at", "heard"]) fun _ _ _ _ _ _ us hl => match us, hl with | [_, _, _], _ => rfl), f_law_parts := f_law_parts, d_law_parts := _, F_law_parts := fun_mk (st := s_law_parts) l_law_parts c_law_parts kp_law_parts, g_law_parts := PySem.W.mg_of X G a_law_parts, b_law_parts := ((fun_mk (st := s_law_parts) l_law_parts c_law_parts kp_law_parts).binds (ps := ["one", "at", "other", "to", "names"]) fun _ _ _ _ _ _ us hl => match us, hl with | [_, _, _, _, _], _ => rfl), f_law := f_law, d_law := _, F_law := fun_mk (st := s_law) l_law c_law kp_law, g_law := PySem.W.mg_of X G a_law, b_law := ((fun_mk (st := s_law) l_law c_law kp_law).binds (ps := ["script"]) fun _ _ _ _ _ _ us hl => match us, hl with | [_], _ => rfl), S_Same_init_Same := ⟨s1_Same_init_Same, s2_Same_init_Same, s3_Same_init_Same, s4_Same_init_Same⟩, S_Unlike_init_Unlike := ⟨s1_Unlike_init_Unlike, s2_Unlike_init_Unlike, s3_Unlike_init_Unlike, s4_Unlike_init_Unlike⟩, a_Denial_parts := na_Denial_parts, a_Denial_word := na_Denial_word, a_Hearer_by_heard := na_Hearer_by_heard, a_Hearer_heard_letters := na_Hearer_heard_letters, a_Hearer_rows := na_Hearer_rows, a_Paper_parts := na_Paper_parts, a_Paper_word := na_Paper_word, a_Same_pairs := na_Same_pairs, a_Same_parts := na_Same_parts, a_Same_word := na_Same_word, a_Unlike_heard := na_Unlike_heard, a_Unlike_parts := na_Unlike_parts, a_Unlike_word := na_Unlike_word, t_FIGURES := t_FIGURES, k_FIGURES := PySem.W.mg_of X G k_FIGURES, t_LETTERS := t_LETTERS, k_LETTERS := PySem.W.mg_of X G k_LETTERS, t_LONGEST := t_LONGEST, k_LONGEST := PySem.W.mg_of X G k_LONGEST, t_MOST_ROWS := t_MOST_ROWS, k_MOST_ROWS := PySem.W.mg_of X G k_MOST_ROWS, t_MOST_TOLD := t_MOST_TOLD, k_MOST_TOLD := PySem.W.mg_of X G k_MOST_TOLD, n_abs := PySem.W.mg_none_of X G n_abs, n_all := PySem.W.mg_none_of X G n_all, n_bool := PySem.W.mg_none_of X G n_bool, n_dict := PySem.W.mg_none_of X G n_dict, n_int := PySem.W.mg_none_of X G n_int, n_isinstance := PySem.W.mg_none_of X G n_isinstance, n_len := PySem.W.mg_none_of X G n_len, n_list := PySem.W.mg_none_of X G n_list, n_range := PySem.W.mg_none_of X G n_range, n_set := PySem.W.mg_none_of X G n_set, n_sorted := PySem.W.mg_none_of X G n_sorted, n_str := PySem.W.mg_none_of X G n_str, n_tuple := PySem.W.mg_none_of X G n_tuple, n_zip := PySem.W.mg_none_of X G n_zip, H_Hearer_answer := ⟨a_Hearer_answer, i_Hearer_answer, kp_Hearer_answer⟩, M_Denial := ⟨m1_Denial, m2_Denial, m3_Denial, m4_Denial⟩, M_Hearer := ⟨m1_Hearer, m2_Hearer, m3_Hearer, m4_Hearer⟩, M_Paper := ⟨m1_Paper, m2_Paper, m3_Paper, m4_Paper⟩, M_Same := ⟨m1_Same, m2_Same, m3_Same, m4_Same⟩, M_Unlike := ⟨m1_Unlike, m2_Unlike, m3_Unlike, m4_Unlike⟩, C_Denial := C_Denial, g_Denial := PySem.W.mg_of X G aC_Denial, c_Denial := rfl, C_Hearer := C_Hearer, g_Hearer := PySem.W.mg_of X G aC_Hearer, c_Hearer := rfl, C_Paper := C_Paper, g_Paper := PySem.W.mg_of X G aC_Paper, c_Paper := rfl, C_Same := C_Same, g_Same := PySem.W.mg_of X G aC_Same, c_Same := rfl, C_Unlike := C_Unlike, g_Unlike := PySem.W.mg_of X G aC_Unlike, c_Unlike := rfl }
  exact ⟨_, fun s v => .of_eq rfl, fun base _ _ => law_of (ok_law T) plain⟩

end Law_k63
end
section
open PySem PySem.Spec PyProof.Rows L2 DL
namespace Law_k63
section
variable {st : Store}
def isI : D → Bool
  | .int _ => true
  | _ => false
def isLT : D → Bool
  | .lst _ => true
  | .tup _ => true
  | _ => false
theorem p_is_integer {d : D} (h : nl d = true) : b_is_integer [d] st = .ok (.bool (isI d)) st := by
  unfold b_is_integer m_is_integer
  cases d <;> first | (walk_at "ev"; done) | (walk_at "ev"; rfl) | cases h
/-- an integer within -/
def isW (a b : Int) : D → Bool
  | .int i => decide (a ≤ i) && decide (i ≤ b)
  | _ => false
theorem p_is_within {d : D} (h : nl d = true) (a b : Int) : b_is_within [d, .int a, .int b] st = .ok (.bool (isW a b d)) st := by
  unfold b_is_within m_is_within
  walk_at "ev"
  rw [p_is_integer h]
  cases d with
  | int i =>
    rw [isI]
    walk_at "ev"
    by_cases c : a ≤ i
    · rw [decide_eq_true c]
      walk_at "ev"
      simp only [isW, decide_eq_true c, Bool.true_and]
    · rw [decide_eq_false c]
      walk_at "ev"
      simp only [isW, decide_eq_false c, Bool.false_and]
  | loc l => cases h
  | dic l => cases h
  | dit l => cases h
  | ins c l => cases h
  | _ => simp only [isI]; walk_at "ev"; rfl
theorem p_is_listed {d : D} (h : nl d = true) : b_is_listed [d] st = .ok (.bool (isLT d)) st := by
  unfold b_is_listed m_is_listed
  cases d <;> first | (walk_at "ev"; done) | (walk_at "ev"; rfl) | cases h
theorem p_is_row_of_tup (xs : List D) (n : Int) : b_is_row_of [.tup xs, .int n] st = .ok (.bool (decide ((xs.length : Int) = n))) st := by
  unfold b_is_row_of m_is_row_of
  walk_at "ev"
  rw [p_is_listed rfl, isLT]
  walk_at "ev"
theorem p_is_name_a : b_is_name [.str "a"] st = .ok (.bool true) st := by kernel_rfl
theorem p_is_name_b : b_is_name [.str "b"] st = .ok (.bool true) st := by kernel_rfl
theorem p_is_name_u : b_is_name [.str "u"] st = .ok (.bool true) st := by kernel_rfl
theorem p_is_name_q : b_is_name [.str "q"] st = .ok (.bool true) st := by kernel_rfl
theorem p_is_name_A : b_is_name [.str "A"] st = .ok (.bool false) st := by kernel_rfl
theorem p_is_name_non : b_is_name [.non] st = .ok (.bool false) st := by kernel_rfl
theorem p_is_bit {d : D} (h : nl d = true) : b_is_bit [d] st = .ok (.bool (isW 0 1 d)) st := by
  unfold b_is_bit m_is_bit
  walk_at "ev"
  rw [p_is_within h]
  walk_at "ev"
/-- an answer in its right form -/
structure AnsOk (many : Int) (a : Ans) : Prop where
  nm : ∀ st, b_is_name [.str a.1] st = .ok (.bool true) st
  tl : a.2.1.length ≤ 10
  tb : ∀ b ∈ a.2.1, b = 0 ∨ b = 1
  lo : 0 ≤ a.2.2
  hi : a.2.2 < many
theorem p_is_answer {many : Int} {a : Ans} (h : AnsOk many a) : b_is_answer [ansD a, .int many] st = .ok (.bool true) st := by
  unfold b_is_answer m_is_answer ansD
  walk_at "ev"
  rw [p_is_row_of_tup]
  walk_at "ev"
  rw [h.nm]
  walk_at "ev"
  rw [p_is_within rfl]
  have e : isW 0 (many - 1) (.int a.2.2) = true := by
    have := h.lo; have := h.hi
    simp only [isW, Bool.and_eq_true, decide_eq_true_eq]; omega
  rw [e]
  unfold toldD
  walk_at "ev"
  rw [p_is_listed rfl, isLT]
  walk_at "ev"
  have e3 : decide (((a.2.1.map D.int).length : Int) ≤ 10) = true := by
    have := h.tl
    rw [List.length_map]
    exact decide_eq_true (by omega)
  rw [e3]
  walk_at "ev"
  rw [compK_all (fun d => .bool (isW 0 1 d)) (fun x hx => by
    obtain ⟨b, _, rfl⟩ := List.mem_map.mp hx
    refine ⟨_, rfl, ?_⟩
    walk_at "ev"
    rw [p_is_bit rfl]) (by have := h.tl; rw [List.length_map]; omega)]
  walk_at "ev"
  have e4 : (a.2.1.map D.int).all (isW 0 1) = true := by
    rw [List.all_map, List.all_eq_true]
    intro b hb
    rcases h.tb b hb with rfl | rfl <;> rfl
  rw [e4]
def fst3 : D → D
  | .tup (x :: _) => x
  | _ => .non
def lt2 : D → Bool
  | .tup [.str x, .str y] => decide (x.cps.toList < y.cps.toList)
  | _ => false
theorem p_are_ascending (xs : List Str) (hl : xs.length ≤ 16777216) : b_are_ascending [.lst (xs.map .str)] st = .ok (.bool ((xs.zip (xs.drop 1)).all fun p => decide (p.1.cps.toList < p.2.cps.toList))) st := by
  unfold b_are_ascending m_are_ascending
  walk_at "ev"
  have e : DL.cutD (xs.map D.str) (some 1) none = (xs.drop 1).map .str := by
    unfold DL.cutD
    show List.take (_ - _) (List.drop (min 1 _) _) = _
    rw [List.take_of_length_le (by simp only [List.length_drop, HT.sIx_none]; exact Nat.le_refl _), List.map_drop]
    cases xs with
    | nil => rfl
    | cons x xs => rw [Nat.min_eq_left (by simp)]
  rw [e]
  have ez : zipL (xs.map D.str) ((xs.drop 1).map D.str) = (xs.zip (xs.drop 1)).map fun p => .tup [.str p.1, .str p.2] := by
    unfold zipL
    rw [List.zip_map, List.map_map]
    rfl
  rw [ez, compK_all (fun d => .bool (lt2 d)) (fun x hx => by
    obtain ⟨p, _, rfl⟩ := List.mem_map.mp hx
    refine ⟨_, rfl, ?_⟩
    walk_at "ev"
    simp only [ltP_str, Option.map_some, lookR_some]
    rfl) (by
      rw [List.length_map, List.length_zip]; omega)]
  walk_at "ev"
  rw [List.all_map]
  rfl
/-- a row in its right form -/
structure RowOk (many : Int) (r : List Ans) : Prop where
  ok : ∀ a ∈ r, AnsOk many a
  asc : (((r.map (·.1)).zip ((r.map (·.1)).drop 1)).all fun p => decide (p.1.cps.toList < p.2.cps.toList)) = true
  len : r.length ≤ 1000
  nd : (r.map (·.1)).Nodup
theorem p_is_hearer_row {many : Int} {r : List Ans} (h : RowOk many r) : b_is_hearer_row [rowD r, .int many] st = .ok (.bool true) st := by
  unfold b_is_hearer_row m_is_hearer_row rowD
  have hl := h.len
  walk_at "ev"
  rw [p_is_listed rfl, isLT]
  walk_at "ev"
  rw [compK_all (fun d => .bool true) (fun x hx => by
    obtain ⟨a, ha, rfl⟩ := List.mem_map.mp hx
    refine ⟨_, rfl, ?_⟩
    walk_at "ev"
    exact p_is_answer (h.ok a ha)) (by rw [List.length_map]; omega)]
  walk_at "ev"
  rw [compK_all (fun d => fst3 d) (fun x hx => by
    obtain ⟨a, ha, rfl⟩ := List.mem_map.mp hx
    refine ⟨_, rfl, ?_⟩
    unfold ansD
    walk_at "ev"
    rfl) (by rw [List.length_map]; omega)]
  walk_at "ev"
  have e2 : (r.map ansD).map (fun d => fst3 d) = (r.map (·.1)).map .str := by
    rw [List.map_map, List.map_map]
    rfl
  rw [e2, p_are_ascending _ (by rw [List.length_map]; omega), h.asc]
  walk_at "ev"
/-- a table in its right form -/
structure TabOk (t : List (List Ans)) : Prop where
  ok : ∀ r ∈ t, RowOk t.length r
  lo : 1 ≤ t.length
  hi : t.length ≤ 1000
  tot : (t.flatMap fun r => r.map (·.1)).length + 1 < 4096
theorem p_is_table {t : List (List Ans)} (h : TabOk t) : b_is_table [tabD t] st = .ok (.bool true) st := by
  unfold b_is_table m_is_table tabD
  have h1 := h.lo
  have h2 := h.hi
  walk_at "ev"
  rw [p_is_listed rfl, isLT]
  walk_at "ev"
  have e1 : decide ((1 : Int) ≤ ((t.map rowD).length : Int)) = true := by rw [List.length_map]; exact decide_eq_true (by omega)
  rw [e1]
  walk_at "ev"
  have e2 : decide (((t.map rowD).length : Int) ≤ 2000) = true := by rw [List.length_map]; exact decide_eq_true (by omega)
  rw [e2]
  walk_at "ev"
  rw [compK_all (fun d => .bool true) (fun x hx => by
    obtain ⟨a, ha, rfl⟩ := List.mem_map.mp hx
    refine ⟨_, rfl, ?_⟩
    walk_at "ev"
    rw [List.length_map]
    exact p_is_hearer_row (h.ok a ha)) (by rw [List.length_map]; omega)]
  walk_at "ev"
end
end Law_k63
end
section
open PySem PySem.Spec PyProof.Rows L2 DL
namespace Law_k63
section
variable {st : Store}
theorem p_fixed_n : ∀ (n : Nat) (d : D), sm n d = true → bn_fixed (n + 1) [d] st = .ok (fixN n d) st := by
  intro n
  induction n with
  | zero =>
    intro d h
    show bOf 2 (m_fixed (bn_fixed 0)) [d] st = _
    unfold m_fixed
    cases d <;> first | (walk_at "ev"; rfl) | cases h
  | succ n ih =>
    intro d h
    show bOf 2 (m_fixed (bn_fixed (n + 1))) [d] st = _
    unfold m_fixed
    cases d with
    | tup ds =>
      obtain ⟨hl, hd⟩ := sm_tup' h
      walk_at "ev"
      rw [compK_all (fixN n) (fun x hx => by
        refine ⟨_, rfl, ?_⟩
        walk_at "ev"
        exact ih x (hd x hx)) hl]
      walk_at "ev"
      rfl
    | lst ds =>
      obtain ⟨hl, hd⟩ := sm_lst' h
      walk_at "ev"
      rw [compK_all (fixN n) (fun x hx => by
        refine ⟨_, rfl, ?_⟩
        walk_at "ev"
        exact ih x (hd x hx)) hl]
      walk_at "ev"
      rfl
    | loc l => cases h
    | dic l => cases h
    | dit l => cases h
    | ins c l => cases h
    | _ => walk_at "ev"; rfl
theorem p_fixed {d : D} (h : sm 11 d = true) : b_fixed [d] st = .ok (fixN 11 d) st := p_fixed_n 11 d h
/-! ### hearers -/
def hlD (t : List (List Ans)) : D := .tup (sortD ((ddK [] ((t.flatMap fun r => r.map (·.1)).map .inr)).map dK))
def valD (a : Ans) : D := .tup [toldD a.2.1, .int a.2.2]
def bhD (t : List (List Ans)) : D := .lst (t.map fun r => .dic (r.map fun a => (.str a.1, valD a)))
def hearerO (t : List (List Ans)) : O := .ins "Hearer" [("rows", tabD t), ("heard_letters", hlD t), ("by_heard", bhD t)]
def rowL : D → List D
  | .tup xs => xs
  | _ => []
def nth3 (k : Nat) : D → D
  | .tup xs => xs.getD k .non
  | _ => .non
theorem p_hearer_init {t : List (List Ans)} (h : TabOk t) : makeK "Hearer" r_Hearer_init [tabD t] st = .ok (.loc st.length) (st ++ [hearerO t]) := by
  refine makeK_ok ?_
  have h1 := h.lo
  have h2 := h.hi
  have hr : ∀ r ∈ t, r.length ≤ 1000 := fun r hr => (h.ok r hr).len
  have sl : ∀ (o o' : O), (st ++ [o]).set st.length o' = st ++ [o'] := fun o o' => by simp
  have gl : ∀ (o : O), (st ++ [o])[st.length]? = some o := fun o => by simp
  have q1 : ∀ x : D, putD "rows" x [] = [(("rows" : Str), x)] := fun _ => rfl
  have q2 : ∀ x y : D, putD "heard_letters" y [(("rows" : Str), x)] = [(("rows" : Str), x), (("heard_letters" : Str), y)] := fun x y => by kernel_rfl
  have q3 : ∀ x y z : D, putD "by_heard" z [(("rows" : Str), x), (("heard_letters" : Str), y)] = [(("rows" : Str), x), (("heard_letters" : Str), y), (("by_heard" : Str), z)] := fun x y z => by kernel_rfl
  show bLen 2 b_Hearer_init [.loc st.length, tabD t] _ = _
  refine (bLen_eq (by rfl)).trans ?_
  unfold b_Hearer_init m_Hearer_init
  walk_at "ev"
  rw [p_is_table h]
  walk_at "ev"
  rw [p_fixed (sm_tab 7 (by omega) fun r hr0 => ⟨by have := hr r hr0; omega, fun a ha => by have := ((h.ok r hr0).ok a ha).tl; omega⟩), fixN_noL _ _ (noL_tab 7 t)]
  walk_at "ev"
  rw [setFldM_loc (gl _) (by decide) (by simp)]
  walk_at "ev"
  simp only [q1, q2, q3, sl]
  rw [fldP_loc (c := "Hearer") (d := tabD t) (gl _) (by decide) (by rfl)]
  unfold tabD
  walk_at "ev"
  have eb : ((t.map rowD).flatMap rowL).length + 1 < 4096 := by
    have := h.tot
    have e : (t.map rowD).flatMap rowL = t.flatMap fun r => r.map ansD := by
      rw [List.flatMap_map]
      rfl
    rw [e]
    simp only [List.length_flatMap, List.length_map] at this ⊢
    exact this
  have ef : ((t.map rowD).flatMap fun x => (rowL x).map fun y => nth3 0 y) = (t.flatMap fun r => r.map (·.1)).map .str := by
    rw [List.flatMap_map, List.map_flatMap]
    congr 1
    funext r
    show (r.map ansD).map _ = _
    rw [List.map_map, List.map_map]
    rfl
  rw [comp2K_pure rowL (fun _ y => nth3 0 y) (fun x hx => by
    obtain ⟨r, hr0, rfl⟩ := List.mem_map.mp hx
    refine ⟨_, rfl, ?_, fun y hy => ?_⟩
    · unfold rowD
      walk_at "ev"
      rfl
    · obtain ⟨a, ha, rfl⟩ := List.mem_map.mp hy
      refine ⟨_, rfl, ?_⟩
      unfold ansD
      walk_at "ev"
      rfl) (by omega), ef]
  walk_at "ev"
  rw [sortSetP_str h.tot]
  walk_at "ev"
  rw [setFldM_loc (gl _) (by decide) (by simp)]
  walk_at "ev"
  simp only [q1, q2, q3, sl]
  rw [fldP_loc (c := "Hearer") (d := tabD t) (gl _) (by decide) (by rfl)]
  unfold tabD
  walk_at "ev"
  rw [compK_all (fun d => .dic ((rowL d).map fun y => (nth3 0 y, .tup [nth3 1 y, nth3 2 y]))) (fun x hx => by
    obtain ⟨r, hr0, rfl⟩ := List.mem_map.mp hx
    refine ⟨_, rfl, ?_⟩
    unfold rowD
    walk_at "ev"
    have z := hr r hr0
    rw [dcompK_pure (nth3 0) (fun y => .tup [nth3 1 y, nth3 2 y]) (fun y hy => by
      obtain ⟨a, ha, rfl⟩ := List.mem_map.mp hy
      refine ⟨_, rfl, ?_, ?_, rfl⟩
      · unfold ansD
        walk_at "ev"
        rfl
      · unfold ansD
        walk_at "ev"
        rfl) (by
      have nd := (h.ok r hr0).nd
      have e : ((r.map ansD).map fun x => kD (nth3 0 x)) = (r.map (·.1)).map fun s => some (.inr s) := by
        rw [List.map_map, List.map_map]
        rfl
      rw [e]
      exact List.Pairwise.map _ (fun a b hab z => hab (by injection z with z; injection z)) nd) (by rw [List.length_map]; omega)]
    rfl) (by rw [List.length_map]; omega)]
  walk_at "ev"
  rw [setFldM_loc (gl _) (by decide) (by simp)]
  walk_at "ev"
  simp only [q1, q2, q3, sl]
  unfold hearerO bhD tabD hlD
  rw [List.map_map]
  have e : ((fun d => D.dic ((rowL d).map fun y => (nth3 0 y, .tup [nth3 1 y, nth3 2 y]))) ∘ rowD) = fun r : List Ans => D.dic (r.map fun a => (.str a.1, valD a)) := by
    funext r
    show D.dic ((r.map ansD).map _) = _
    rw [List.map_map]
    rfl
  rw [e]
end
end Law_k63
end
section
open PySem PySem.Spec PyProof.Rows L2 DL
namespace Law_k63
section
variable {st : Store}
def rowAt (t : List (List Ans)) (i : Int) : List Ans := t.getD i.toNat []
theorem atI_map {α : Type} (f : α → D) (z : α) (xs : List α) {i : Int} (h : 0 ≤ i) (h2 : i < xs.length) : atI (xs.map f) i = some (f (xs.getD i.toNat z)) := by
  rw [atI_int _ h, List.getElem?_map, List.getElem?_eq_getElem (by omega), Option.map_some]
  congr 2
  rw [List.getD_eq_getElem?_getD, List.getElem?_eq_getElem (by omega), Option.getD_some]
theorem atI_tab (t : List (List Ans)) {i : Int} (h : 0 ≤ i) (h2 : i < t.length) : atI (t.map rowD) i = some (rowD (rowAt t i)) := atI_map rowD [] t h h2
/-- what a row answers -/
def ansOf (r : List Ans) (s : Str) : D := match r.find? fun a => decide (a.1 = s) with
  | some a => valD a
  | none => .non
theorem hl_rows {l : Nat} {t : List (List Ans)} (h : st[l]? = some (hearerO t)) : fldP ["Hearer"] "rows" (.loc l) st = some (tabD t) := fldP_loc h (by decide) (by rfl)
theorem hl_bh {l : Nat} {t : List (List Ans)} (h : st[l]? = some (hearerO t)) : fldP ["Hearer"] "by_heard" (.loc l) st = some (bhD t) := fldP_loc h (by decide) (by kernel_rfl)
theorem dGet_row (r : List Ans) (s : Str) : (dGet (r.map fun a => (.str a.1, valD a)) (.str s)).getD .non = ansOf r s := by
  rw [dGet_str, List.find?_map]
  unfold ansOf
  have e : ((fun p : D × D => decide (kD p.1 = some (.inr s))) ∘ fun a : Ans => (D.str a.1, valD a)) = fun a : Ans => decide (a.1 = s) := by
    funext a
    show decide (some (Sum.inr a.1 : Key) = some (.inr s)) = decide (a.1 = s)
    rw [decide_eq_decide]
    constructor
    · intro h; injection h with h; injection h
    · intro h; rw [h]
  rw [e]
  cases r.find? fun a => decide (a.1 = s) <;> rfl
theorem p_answer {l : Nat} {t : List (List Ans)} (h : st[l]? = some (hearerO t)) {i : Int} (h0 : 0 ≤ i) (h1 : i < t.length) (s : Str) : b_Hearer_answer [.loc l, .int i, .str s] st = .ok (ansOf (rowAt t i) s) st := by
  unfold b_Hearer_answer m_Hearer_answer
  walk_at "ev"
  rw [hl_bh h]
  unfold bhD
  walk_at "ev"
  rw [atI_map _ [] t h0 h1]
  walk_at "ev"
  rw [getP_dic rfl]
  walk_at "ev"
  rw [dGet_row]
  rfl
theorem p_need_hearer {l : Nat} {t : List (List Ans)} (h : st[l]? = some (hearerO t)) : b_need_hearer [.loc l] st = .ok .non st := by
  unfold b_need_hearer m_need_hearer
  walk_at "ev"
  rw [isC_loc h]
  have e : sub "Hearer" "Hearer" = true := by decide +kernel
  rw [e]
  walk_at "ev"
theorem p_need_row_of {l : Nat} {t : List (List Ans)} (h : st[l]? = some (hearerO t)) {i : Int} (h0 : 0 ≤ i) (h1 : i < t.length) (d : D) : b_need_row_of [.loc l, .int i, d] st = .ok .non st := by
  unfold b_need_row_of m_need_row_of
  walk_at "ev"
  rw [hl_rows h]
  unfold tabD
  walk_at "ev"
  rw [p_is_within rfl]
  have e : isW 0 (((t.map rowD).length : Int) - 1) (.int i) = true := by
    rw [List.length_map]
    simp only [isW, Bool.and_eq_true, decide_eq_true_eq]; omega
  rw [e]
  walk_at "ev"
theorem p_need_rows_of {l m : Nat} {t u : List (List Ans)} (h : st[l]? = some (hearerO t)) (h' : st[m]? = some (hearerO u)) {i j : Int} (h0 : 0 ≤ i) (h1 : i < t.length) (h2 : 0 ≤ j) (h3 : j < u.length) : b_need_rows_of [.loc l, .int i, .loc m, .int j] st = .ok .non st := by
  unfold b_need_rows_of m_need_rows_of
  walk_at "ev"
  rw [p_need_hearer h]
  walk_at "ev"
  rw [p_need_row_of h h0 h1]
  walk_at "ev"
  rw [p_need_hearer h']
  walk_at "ev"
  rw [p_need_row_of h' h2 h3]
  walk_at "ev"
def sgnD (r : List Ans) : D := .tup (r.map fun a => .tup [.str a.1, toldD a.2.1])
theorem p_sign_of {r : List Ans} (h : r.length ≤ 1000) : b_sign_of [rowD r] st = .ok (sgnD r) st := by
  unfold b_sign_of m_sign_of rowD
  walk_at "ev"
  rw [compK_all (fun d => .tup [nth3 0 d, nth3 1 d]) (fun x hx => by
    obtain ⟨a, ha, rfl⟩ := List.mem_map.mp hx
    refine ⟨_, rfl, ?_⟩
    unfold ansD
    walk_at "ev"
    rfl) (by rw [List.length_map]; omega)]
  walk_at "ev"
  rw [List.map_map]
  rfl
/-! ### pairs -/
abbrev PI2 := Int × Int
def prD (p : PI2) : D := .tup [.int p.1, .int p.2]
theorem prD_inj {a b : PI2} (h : prD a = prD b) : a = b := by
  injection h with h
  injection h with h1 h
  injection h with h2 h
  injection h1 with h1
  injection h2 with h2
  exact Prod.ext h1 h2
def isPair (n m : Int) : D → Bool
  | .tup [x, y] => isW 0 (n - 1) x && isW 0 (m - 1) y
  | _ => false
theorem p_is_pair {l m : Nat} {t u : List (List Ans)} (h : st[l]? = some (hearerO t)) (h' : st[m]? = some (hearerO u)) {d : D} (hd : sm 5 d = true) : b_is_pair [.loc l, .loc m, d] st = .ok (.bool (isPair t.length u.length d)) st := by
  unfold b_is_pair m_is_pair
  cases d with
  | tup xs =>
    have hx := (sm_tup' hd).2
    walk_at "ev"
    match xs, hx with
    | [], _ => walk_at "ev"; rfl
    | [x], _ => walk_at "ev"; rfl
    | [x, y], hx =>
      walk_at "ev"
      rw [hl_rows h]
      unfold tabD
      walk_at "ev"
      rw [p_is_within (sm_nl (hx x (by simp))), List.length_map]
      have er : isPair t.length u.length (.tup [x, y]) = (isW 0 ((t.length : Int) - 1) x && isW 0 ((u.length : Int) - 1) y) := rfl
      rw [er]
      cases isW 0 ((t.length : Int) - 1) x with
      | false => walk_at "ev"
      | true =>
        walk_at "ev"
        rw [hl_rows h']
        unfold tabD
        walk_at "ev"
        rw [p_is_within (sm_nl (hx y (by simp))), List.length_map]
        walk_at "ev"
    | x :: y :: z :: r, _ =>
      walk_at "ev"
      have e : decide (((r.length + 1 + 1 + 1 : Nat) : Int) = 2) = false := decide_eq_false (by omega)
      rw [e]
      walk_at "ev"
      rfl
  | loc l => cases hd
  | dic l => cases hd
  | dit l => cases hd
  | ins c l => cases hd
  | _ => walk_at "ev"; rfl
/-- what is asked of a pair -/
def good (t u : List (List Ans)) (ps : List PI2) (p : PI2) : Bool := deq (sgnD (rowAt t p.1)) (sgnD (rowAt u p.2)) && (((rowAt t p.1).zip (rowAt u p.2)).all fun q => decide ((q.1.2.2, q.2.2.2) ∈ ps))
def dueB (t u : List (List Ans)) (i j : Int) (ps : List PI2) : Bool := decide ((i, j) ∈ ps) && decide (((foldT (ps.map prD)).length : Int) = (ps.length : Int)) && ps.all (good t u ps)
theorem clean_pr (p : PI2) : clean (prD p) = true := rfl
theorem fit_pr (n : Nat) (p : PI2) : fit (n + 1) (prD p) = true := by
  refine fit_tup n fun d hd => ?_
  simp only [List.mem_cons, List.not_mem_nil, or_false] at hd
  rcases hd with rfl | rfl <;> exact fit_int _ _
theorem sm_pr (n : Nat) (p : PI2) : sm (n + 1) (prD p) = true := by
  refine sm_tup (by simp) fun d hd => ?_
  simp only [List.mem_cons, List.not_mem_nil, or_false] at hd
  rcases hd with rfl | rfl <;> exact sm_int _ _
theorem tk_pr (p : PI2) : tkD (prD p) = some [.inl p.1, .inl p.2] := rfl
theorem known_has (ps : List PI2) (p : PI2) : (dGetT (foldT (ps.map prD)) (prD p)).isSome = decide (p ∈ ps) := by
  rw [foldT_get _ (fun k hk => by obtain ⟨q, _, rfl⟩ := List.mem_map.mp hk; rfl), List.any_map, Bool.eq_iff_iff, List.any_eq_true, decide_eq_true_iff]
  constructor
  · rintro ⟨q, hq, e⟩
    have e := of_decide_eq_true e
    rw [tk_pr, tk_pr] at e
    injection e with e
    injection e with e1 e
    injection e with e2 e
    injection e1 with e1
    injection e2 with e2
    rw [Prod.ext (x := p) e1 e2]
    exact hq
  · intro h
    exact ⟨p, h, decide_eq_true rfl⟩
end
end Law_k63
end
section
open PySem PySem.Spec PyProof.Rows L2 DL
namespace Law_k63
section
variable {st : Store}
theorem zip_rows (r s : List Ans) : zipL (r.map ansD) (s.map ansD) = (r.zip s).map fun q => .tup [ansD q.1, ansD q.2] := by
  unfold zipL
  rw [List.zip_map, List.map_map]
  rfl
theorem rowAt_mem {t : List (List Ans)} {i : Int} (h : 0 ≤ i) (h2 : i < t.length) : rowAt t i ∈ t := by
  unfold rowAt
  rw [List.getD_eq_getElem?_getD, List.getElem?_eq_getElem (by omega), Option.getD_some]
  exact List.getElem_mem _
theorem fit_sgn (r : List Ans) : fit 60 (sgnD r) = true := by
  refine fit_tup 59 fun d hd => ?_
  obtain ⟨a, _, rfl⟩ := List.mem_map.mp hd
  refine fit_tup 58 fun e he => ?_
  simp only [List.mem_cons, List.not_mem_nil, or_false] at he
  rcases he with rfl | rfl
  · exact fit_str _ _
  · exact fit_told 57 _
def laterOf : D → D
  | .tup [x, y] => .tup [nth3 2 x, nth3 2 y]
  | _ => .non
theorem p_are_same {l m : Nat} {t u : List (List Ans)} (h : st[l]? = some (hearerO t)) (h' : st[m]? = some (hearerO u)) (ht : TabOk t) (hu : TabOk u) {i j : Int} {ps : List PI2}
    (hp : ∀ p ∈ ps, (0 ≤ p.1 ∧ p.1 < t.length) ∧ 0 ≤ p.2 ∧ p.2 < u.length) (hl : ps.length ≤ 10000) : b_are_same [.loc l, .int i, .loc m, .int j, .tup (ps.map prD)] st = .ok (.bool (dueB t u i j ps)) st := by
  refine ok_of_wp ?_
  unfold b_are_same m_are_same
  walk_at "ev"
  rw [compK_all (fun _ => .bool true) (fun x hx => by
    obtain ⟨p, hp0, rfl⟩ := List.mem_map.mp hx
    refine ⟨_, rfl, ?_⟩
    walk_at "ev"
    rw [p_is_pair h h' (sm_pr 4 p)]
    have e : isPair t.length u.length (prD p) = true := by
      obtain ⟨⟨a, b⟩, c, d⟩ := hp p hp0
      simp only [isPair, prD, isW, Bool.and_eq_true, decide_eq_true_eq]; omega
    rw [e]) (by rw [List.length_map]; omega)]
  walk_at "ev"
  rw [dcompTK_pure id (fun x hx => by
    obtain ⟨p, hp0, rfl⟩ := List.mem_map.mp hx
    refine ⟨_, rfl, ?_, ?_, rfl⟩
    · walk_at "ev"
      rfl
    · walk_at "ev") (by rw [List.length_map]; omega)]
  walk_at "ev"
  rw [List.map_id, notInDP_dit rfl, show D.tup [.int i, .int j] = prD (i, j) from rfl, known_has]
  unfold dueB
  by_cases c : (i, j) ∈ ps
  · rw [decide_eq_true c]
    walk_at "ev"
    rw [List.length_map]
    by_cases c2 : ((foldT (ps.map prD)).length : Int) = (ps.length : Int)
    · rw [decide_eq_true c2]
      walk_at "ev"
      refine wp_out (wp_then (forL_wp (fun rest ρ s => ∃ (qs : List PI2) (s6 s7 s9 s10 : Slot), rest = qs.map prD ∧ ps.all (good t u ps) = qs.all (good t u ps) ∧ (∀ q ∈ qs, q ∈ ps) ∧ s = st ∧
        ρ = [.val (.loc l), .val (.int i), .val (.loc m), .val (.int j), .val (.tup (ps.map prD)), .val (.dit (foldT (ps.map prD))), s6, s7, .none, s9, s10, .none, .none]) ?_ ?_ _ _ _ ?_))
      · rintro x xs ρ s ⟨qs, s6, s7, s9, s10, e, hall, hsub, rfl, rfl⟩
        cases qs with
        | nil => cases e
        | cons q qs =>
          rw [List.map_cons] at e
          injection e with e1 e2
          subst e1 e2
          refine ⟨_, rfl, ?_⟩
          obtain ⟨⟨b1, b2⟩, b3, b4⟩ := hp q (hsub q List.mem_cons_self)
          walk_at "ev"
          rw [hl_rows h]
          unfold tabD
          walk_at "ev"
          rw [atI_tab t b1 b2]
          walk_at "ev"
          rw [hl_rows h']
          unfold tabD
          walk_at "ev"
          rw [atI_tab u b3 b4]
          walk_at "ev"
          have l1 := (ht.ok _ (rowAt_mem b1 b2)).len
          have l2 := (hu.ok _ (rowAt_mem b3 b4)).len
          rw [p_sign_of l1]
          walk_at "ev"
          rw [p_sign_of l2]
          walk_at "ev"
          rw [neP_fit (fit_sgn _) (fit_sgn _)]
          walk_at "ev"
          have hg : good t u ps q = (deq (sgnD (rowAt t q.1)) (sgnD (rowAt u q.2)) && (((rowAt t q.1).zip (rowAt u q.2)).all fun q => decide ((q.1.2.2, q.2.2.2) ∈ ps))) := rfl
          cases hd : deq (sgnD (rowAt t q.1)) (sgnD (rowAt u q.2)) with
          | false =>
            rw [hd, Bool.false_and] at hg
            walk_at "ev"
            rw [hall, List.all_cons, hg]
            exact ⟨by simp, rfl⟩
          | true =>
            rw [hd, Bool.true_and] at hg
            walk_at "ev"
            unfold rowD
            walk_at "ev"
            rw [zip_rows, compK_all (fun d => .bool (dGetT (foldT (ps.map prD)) (laterOf d)).isSome) (fun x hx => by
              obtain ⟨p, hp0, rfl⟩ := List.mem_map.mp hx
              refine ⟨_, rfl, ?_⟩
              unfold ansD
              walk_at "ev"
              rw [inDP_dit rfl]
              rfl) (by rw [List.length_map, List.length_zip]; omega)]
            walk_at "ev"
            have e : (((rowAt t q.1).zip (rowAt u q.2)).map fun q => D.tup [ansD q.1, ansD q.2]).all (fun d => (dGetT (foldT (ps.map prD)) (laterOf d)).isSome) = ((rowAt t q.1).zip (rowAt u q.2)).all fun q => decide ((q.1.2.2, q.2.2.2) ∈ ps) := by
              rw [List.all_map]
              congr 1
              funext p
              exact known_has ps (p.1.2.2, p.2.2.2)
            rw [e, ← hg]
            cases hg2 : good t u ps q with
            | false =>
              walk_at "ev"
              rw [hall, List.all_cons, hg2]
              exact ⟨by simp, rfl⟩
            | true =>
              walk_at "ev"
              exact ⟨qs, _, _, _, _, rfl, by rw [hall, List.all_cons, hg2, Bool.true_and], fun q hq => hsub q (List.mem_cons_of_mem _ hq), rfl, rfl⟩
      · rintro ρ s ⟨qs, s6, s7, s9, s10, e, hall, hsub, rfl, rfl⟩
        cases qs with
        | cons _ _ => cases e
        | nil =>
          walk_at "ev"
          rw [hall]
          exact ⟨by simp, rfl⟩
      · exact ⟨ps, _, _, _, _, rfl, rfl, fun _ h => h, rfl, rfl⟩
    · rw [decide_eq_false c2]
      walk_at "ev"
      exact ⟨by simp, rfl⟩
  · rw [decide_eq_false c]
    walk_at "ev"
    exact ⟨by simp, rfl⟩
end
end Law_k63
end
section
open PySem PySem.Spec PyProof.Rows L2 DL
namespace Law_k63
section
variable {st : Store}
/-- pairs that are none -/
theorem p_are_same_no {l m : Nat} {t u : List (List Ans)} (h : st[l]? = some (hearerO t)) (h' : st[m]? = some (hearerO u)) {i j : Int} {d : D} (hd : sm 6 d = true)
    (hn : ∀ xs, d = .tup xs → xs.all (isPair t.length u.length) = false) : b_are_same [.loc l, .int i, .loc m, .int j, d] st = .ok (.bool false) st := by
  unfold b_are_same m_are_same
  cases d with
  | tup xs =>
    walk_at "ev"
    obtain ⟨hx, hx2⟩ := sm_tup' hd
    rw [compK_all (fun x => .bool (isPair t.length u.length x)) (fun x hx => by
      refine ⟨_, rfl, ?_⟩
      walk_at "ev"
      rw [p_is_pair h h' (hx2 x hx)]) hx]
    walk_at "ev"
    rw [hn xs rfl]
    walk_at "ev"
  | loc l => cases hd
  | dic l => cases hd
  | dit l => cases hd
  | ins c l => cases hd
  | _ => walk_at "ev"
/-! ### heard letters that part -/
def ansF (r : List Ans) (s : Str) : Option Ans := r.find? fun a => decide (a.1 = s)
theorem ansOf_some {r : List Ans} {s : Str} {a : Ans} (h : ansF r s = some a) : ansOf r s = valD a := by
  unfold ansOf
  unfold ansF at h
  rw [h]
theorem ansOf_none {r : List Ans} {s : Str} (h : ansF r s = none) : ansOf r s = .non := by
  unfold ansOf
  unfold ansF at h
  rw [h]
def partsB (t u : List (List Ans)) : List Str → Int → Int → Bool
  | [], _, _ => false
  | [s], i, j => match ansF (rowAt t i) s, ansF (rowAt u j) s with
    | none, none => false
    | some a, some b => !deq (toldD a.2.1) (toldD b.2.1)
    | _, _ => true
  | s :: s2 :: r, i, j => match ansF (rowAt t i) s, ansF (rowAt u j) s with
    | some a, some b => partsB t u (s2 :: r) a.2.2 b.2.2
    | _, _ => false
theorem ansF_ok {t : List (List Ans)} (ht : TabOk t) {i : Int} (h : 0 ≤ i) (h2 : i < t.length) {s : Str} {a : Ans} (e : ansF (rowAt t i) s = some a) : 0 ≤ a.2.2 ∧ a.2.2 < t.length := by
  have m := List.mem_of_find?_eq_some e
  have z := (ht.ok _ (rowAt_mem h h2)).ok a m
  exact ⟨z.lo, z.hi⟩
theorem cut_last (xs : List D) (x : D) : DL.cutD (xs ++ [x]) none (some (-1)) = xs := by
  unfold DL.cutD
  show List.take (((-1 : Int) + ((xs ++ [x]).length : Int)).toNat - 0) (List.drop 0 _) = _
  rw [List.drop_zero, List.length_append, List.length_singleton]
  have : ((-1 : Int) + ((xs.length + 1 : Nat) : Int)).toNat - 0 = xs.length := by omega
  rw [this, List.take_left]
theorem parts_cons (t u : List (List Ans)) (s : Str) (qs : List Str) (z : Str) (i j : Int) : partsB t u (s :: (qs ++ [z])) i j = match ansF (rowAt t i) s, ansF (rowAt u j) s with
    | some a, some b => partsB t u (qs ++ [z]) a.2.2 b.2.2
    | _, _ => false := by
  cases qs <;> rfl
theorem isNone_val (a : Ans) : isNone (valD a) = false := rfl
theorem isNone_non : isNone .non = true := rfl
theorem ix_val1 (a : Ans) : ixP (valD a) (.int 1) st = some (.int a.2.2) := rfl
theorem ix_val0 (a : Ans) : ixP (valD a) (.int 0) st = some (toldD a.2.1) := rfl
theorem hl_meth {l : Nat} {t : List (List Ans)} (h : st[l]? = some (hearerO t)) : ((insS (.loc l) st).bind fun p => if p.1 = (("Hearer" : Str)) ∧ p.2.lookup ("answer" : Str) = none then some () else none) = some () := by
  rw [insS_loc h, Option.bind_some]
  exact if_pos ⟨rfl, by kernel_rfl⟩
theorem p_is_unlike_names {l m : Nat} {t u : List (List Ans)} (h : st[l]? = some (hearerO t)) (h' : st[m]? = some (hearerO u)) (ht : TabOk t) (hu : TabOk u) {i j : Int} (hi : 0 ≤ i ∧ i < t.length) (hj : 0 ≤ j ∧ j < u.length)
    {ns : List Str} {z : Str} (hn : ∀ s ∈ ns ++ [z], ∀ st, b_is_name [.str s] st = .ok (.bool true) st) (hl : ns.length ≤ 10000) :
    b_is_unlike [.loc l, .int i, .loc m, .int j, .tup ((ns ++ [z]).map .str)] st = .ok (.bool (partsB t u (ns ++ [z]) i j)) st := by
  refine ok_of_wp ?_
  unfold b_is_unlike m_is_unlike
  walk_at "ev"
  have e1 : decide ((((ns ++ [z]).map D.str).length : Int) = 0) = false := decide_eq_false (by rw [List.length_map, List.length_append, List.length_singleton]; omega)
  rw [e1]
  walk_at "ev"
  rw [compK_all (fun _ => .bool true) (fun x hx => by
    obtain ⟨s, hs, rfl⟩ := List.mem_map.mp hx
    refine ⟨_, rfl, ?_⟩
    walk_at "ev"
    exact hn s hs st) (by rw [List.length_map, List.length_append, List.length_singleton]; omega)]
  walk_at "ev"
  rw [List.map_append, List.map_cons, List.map_nil, cut_last]
  refine wp_out (wp_then (forL_wp (fun rest ρ s => ∃ (qs : List Str) (i' j' : Int) (s5 s6 s7 : Slot), rest = qs.map .str ∧ (0 ≤ i' ∧ i' < t.length) ∧ (0 ≤ j' ∧ j' < u.length) ∧ partsB t u (ns ++ [z]) i j = partsB t u (qs ++ [z]) i' j' ∧ s = st ∧
    ρ = [.val (.loc l), .val (.int i'), .val (.loc m), .val (.int j'), .val (.tup (ns.map .str ++ [.str z])), s5, s6, s7]) ?_ ?_ _ _ _ ?_))
  · rintro x xs ρ s ⟨qs, i', j', s5, s6, s7, e, hi', hj', hall, rfl, rfl⟩
    cases qs with
    | nil => cases e
    | cons q qs =>
      rw [List.map_cons] at e
      injection e with e1 e2
      subst e1 e2
      refine ⟨_, rfl, ?_⟩
      rw [List.cons_append, parts_cons] at hall
      walk_at "ev"
      rw [hl_meth h]
      walk_at "ev"
      rw [p_answer h hi'.1 hi'.2]
      walk_at "ev"
      rw [hl_meth h']
      walk_at "ev"
      rw [p_answer h' hj'.1 hj'.2]
      walk_at "ev"
      cases ea : ansF (rowAt t i') q with
      | none =>
        rw [ansOf_none ea, isNone_non]
        walk_at "ev"
        rw [hall, ea]
        exact ⟨rfl, rfl⟩
      | some a =>
        rw [ansOf_some ea, isNone_val]
        walk_at "ev"
        cases eb : ansF (rowAt u j') q with
        | none =>
          rw [ansOf_none eb, isNone_non]
          walk_at "ev"
          rw [hall, ea, eb]
          exact ⟨rfl, rfl⟩
        | some b =>
          rw [ansOf_some eb, isNone_val]
          walk_at "ev"
          rw [ix_val1]
          walk_at "ev"
          rw [ix_val1]
          walk_at "ev"
          exact ⟨qs, _, _, _, _, _, rfl, ansF_ok ht hi'.1 hi'.2 ea, ansF_ok hu hj'.1 hj'.2 eb, by rw [hall, ea, eb], rfl, rfl⟩
  · rintro ρ s ⟨qs, i', j', s5, s6, s7, e, hi', hj', hall, rfl, rfl⟩
    cases qs with
    | cons _ _ => cases e
    | nil =>
      rw [hall, List.nil_append]
      unfold partsB
      walk_at "ev"
      rw [hl_meth h]
      walk_at "ev"
      rw [p_answer h hi'.1 hi'.2]
      walk_at "ev"
      rw [hl_meth h']
      walk_at "ev"
      rw [p_answer h' hj'.1 hj'.2]
      walk_at "ev"
      cases ea : ansF (rowAt t i') z with
      | none =>
        rw [ansOf_none ea, isNone_non]
        walk_at "ev"
        cases eb : ansF (rowAt u j') z with
        | none =>
          rw [ansOf_none eb, isNone_non]
          walk_at "ev"
          exact ⟨rfl, rfl⟩
        | some b =>
          rw [ansOf_some eb, isNone_val]
          walk_at "ev"
          exact ⟨rfl, rfl⟩
      | some a =>
        rw [ansOf_some ea, isNone_val]
        walk_at "ev"
        cases eb : ansF (rowAt u j') z with
        | none =>
          rw [ansOf_none eb, isNone_non]
          walk_at "ev"
          exact ⟨rfl, rfl⟩
        | some b =>
          rw [ansOf_some eb, isNone_val]
          walk_at "ev"
          rw [ix_val0]
          walk_at "ev"
          rw [ix_val0]
          walk_at "ev"
          rw [neP_fit (fit_told 59 _) (fit_told 59 _)]
          walk_at "ev"
          exact ⟨rfl, rfl⟩
  · exact ⟨ns, i, j, _, _, _, rfl, hi, hj, rfl, rfl, rfl⟩
/-- heard letters that are none -/
theorem p_is_unlike_no {l m : Nat} {i j : Int} {d : D} (hd : d = .non ∨ d = .int 5 ∨ d = .tup [] ∨ d = .tup [.non] ∨ d = .tup [.str "A"]) : b_is_unlike [.loc l, .int i, .loc m, .int j, d] st = .ok (.bool false) st := by
  unfold b_is_unlike m_is_unlike
  rcases hd with rfl | rfl | rfl | rfl | rfl
  · walk_at "ev"
  · walk_at "ev"
  · walk_at "ev"
  · walk_at "ev"
    rw [compK_all (fun _ => .bool false) (fun x hx => by
      rw [List.mem_singleton.mp hx]
      refine ⟨_, rfl, ?_⟩
      walk_at "ev"
      exact p_is_name_non) (by simp)]
    walk_at "ev"
    rfl
  · walk_at "ev"
    rw [compK_all (fun _ => .bool false) (fun x hx => by
      rw [List.mem_singleton.mp hx]
      refine ⟨_, rfl, ?_⟩
      walk_at "ev"
      exact p_is_name_A) (by simp)]
    walk_at "ev"
    rfl
end
end Law_k63
end
section
open PySem PySem.Spec PyProof.Rows L2 DL
namespace Law_k63
section
variable {st : Store}
def paperO (c w : Str) (d : D) : O := .ins c [("word", .str w), ("parts", .tup [fixN 10 d])]
def sameO (d : D) : O := .ins "Same" [("word", .str "same"), ("parts", .tup [fixN 10 d]), ("pairs", fixN 10 d)]
def unlikeO (d : D) : O := .ins "Unlike" [("word", .str "unlike"), ("parts", .tup [fixN 10 d]), ("heard", fixN 10 d)]
theorem put_w (x : D) : putD "word" x [] = [(("word" : Str), x)] := rfl
theorem put_p (x y : D) : putD "parts" y [(("word" : Str), x)] = [(("word" : Str), x), (("parts" : Str), y)] := by kernel_rfl
theorem put_s (x y z : D) : putD "pairs" z [(("word" : Str), x), (("parts" : Str), y)] = [(("word" : Str), x), (("parts" : Str), y), (("pairs" : Str), z)] := by kernel_rfl
theorem put_h (x y z : D) : putD "heard" z [(("word" : Str), x), (("parts" : Str), y)] = [(("word" : Str), x), (("parts" : Str), y), (("heard" : Str), z)] := by kernel_rfl
theorem set_end (o o' : O) : (st ++ [o]).set st.length o' = st ++ [o'] := by simp
theorem get_end (o : O) : (st ++ [o])[st.length]? = some o := by simp
theorem p_paper_init {c w : Str} {d : D} (hc : c ∈ (["Paper", "Denial", "Same", "Unlike"] : List Str)) (hd : sm 10 d = true) : r_Paper_init [.loc st.length, .str w, d] (st ++ [.ins c []]) = .ok .non (st ++ [paperO c w d]) := by
  unfold r_Paper_init
  refine (bVar_eq (by simp)).trans ?_
  show bOf 3 m_Paper_init [.loc st.length, .str w, .tup [d]] _ = _
  unfold m_Paper_init
  walk_at "ev"
  rw [setFldM_loc (get_end _) hc (by simp)]
  walk_at "ev"
  rw [put_w, set_end, p_fixed (sm_tup (by simp) (by simpa using hd))]
  walk_at "ev"
  rw [setFldM_loc (get_end _) hc (by simp)]
  walk_at "ev"
  rw [put_p, set_end]
  rfl
theorem p_make_paper {d : D} {w : Str} (hd : sm 10 d = true) : makeK "Paper" r_Paper_init [.str w, d] st = .ok (.loc st.length) (st ++ [paperO "Paper" w d]) := makeK_ok (p_paper_init (by simp) hd)
theorem p_make_denial {d : D} {w : Str} (hd : sm 10 d = true) : makeK "Denial" r_Paper_init [.str w, d] st = .ok (.loc st.length) (st ++ [paperO "Denial" w d]) := makeK_ok (p_paper_init (by simp) hd)
theorem p_make_same {d : D} (hd : sm 10 d = true) : makeK "Same" r_Same_init [d] st = .ok (.loc st.length) (st ++ [sameO d]) := by
  refine makeK_ok ?_
  unfold r_Same_init
  refine (bLen_eq (by rfl)).trans ?_
  unfold b_Same_init
  refine (bSup_eq (get_end _) (by simp)).trans ?_
  unfold bEnv m_Same_init
  walk_at "ev"
  rw [p_paper_init (by simp) hd]
  walk_at "ev"
  unfold paperO
  rw [fldP_loc (get_end _) (by simp) (d := .tup [fixN 10 d]) (by kernel_rfl)]
  walk_at "ev"
  rw [setFldM_loc (get_end _) (by simp) (by simp)]
  walk_at "ev"
  rw [put_s, set_end]
  rfl
theorem p_make_unlike {d : D} (hd : sm 10 d = true) : makeK "Unlike" r_Unlike_init [d] st = .ok (.loc st.length) (st ++ [unlikeO d]) := by
  refine makeK_ok ?_
  unfold r_Unlike_init
  refine (bLen_eq (by rfl)).trans ?_
  unfold b_Unlike_init
  refine (bSup_eq (get_end _) (by simp)).trans ?_
  unfold bEnv m_Unlike_init
  walk_at "ev"
  rw [p_paper_init (by simp) hd]
  walk_at "ev"
  unfold paperO
  rw [fldP_loc (get_end _) (by simp) (d := .tup [fixN 10 d]) (by kernel_rfl)]
  walk_at "ev"
  rw [setFldM_loc (get_end _) (by simp) (by simp)]
  walk_at "ev"
  rw [put_h, set_end]
  rfl
theorem sub_ss : sub "Same" "Same" = true := by decide +kernel
theorem sub_us : sub "Unlike" "Same" = false := by decide +kernel
theorem sub_uu : sub "Unlike" "Unlike" = true := by decide +kernel
theorem sub_ps : sub "Paper" "Same" = false := by decide +kernel
theorem sub_pu : sub "Paper" "Unlike" = false := by decide +kernel
theorem sub_ds : sub "Denial" "Same" = false := by decide +kernel
theorem sub_du : sub "Denial" "Unlike" = false := by decide +kernel
section
variable {l m : Nat} {t u : List (List Ans)} {i j : Int}
theorem p_shows_nl (h : st[l]? = some (hearerO t)) (h' : st[m]? = some (hearerO u)) (h0 : 0 ≤ i) (h1 : i < t.length) (h2 : 0 ≤ j) (h3 : j < u.length) {d : D} (hd : nl d = true) : b_shows_same [.loc l, .int i, .loc m, .int j, d] st = .ok (.bool false) st := by
  unfold b_shows_same m_shows_same
  cases d with
  | loc l => cases hd
  | dic l => cases hd
  | dit l => cases hd
  | ins c l => cases hd
  | _ =>
    walk_at "ev"
    rw [p_need_rows_of h h' h0 h1 h2 h3]
    walk_at "ev"
theorem p_shows_paper (h : st[l]? = some (hearerO t)) (h' : st[m]? = some (hearerO u)) (h0 : 0 ≤ i) (h1 : i < t.length) (h2 : 0 ≤ j) (h3 : j < u.length) {v : Nat} {w : Str} {d : D} (hv : st[v]? = some (paperO "Paper" w d) ∨ st[v]? = some (paperO "Denial" w d)) : b_shows_same [.loc l, .int i, .loc m, .int j, .loc v] st = .ok (.bool false) st := by
  unfold b_shows_same m_shows_same
  walk_at "ev"
  rw [p_need_rows_of h h' h0 h1 h2 h3]
  walk_at "ev"
  rcases hv with hv | hv
  · rw [isC_loc hv, sub_ps]
    walk_at "ev"
    rw [isC_loc hv, sub_pu]
    walk_at "ev"
  · rw [isC_loc hv, sub_ds]
    walk_at "ev"
    rw [isC_loc hv, sub_du]
    walk_at "ev"
theorem p_shows_same (h : st[l]? = some (hearerO t)) (h' : st[m]? = some (hearerO u)) (h0 : 0 ≤ i) (h1 : i < t.length) (h2 : 0 ≤ j) (h3 : j < u.length) {v : Nat} {d : D} (hv : st[v]? = some (sameO d)) {b : Bool} (hb : b_are_same [.loc l, .int i, .loc m, .int j, fixN 10 d] st = .ok (.bool b) st) : b_shows_same [.loc l, .int i, .loc m, .int j, .loc v] st = .ok (.bool b) st := by
  unfold b_shows_same m_shows_same
  walk_at "ev"
  rw [p_need_rows_of h h' h0 h1 h2 h3]
  walk_at "ev"
  rw [isC_loc hv, sub_ss]
  walk_at "ev"
  rw [fldP_loc hv (by simp) (d := fixN 10 d) (by kernel_rfl)]
  walk_at "ev"
  rw [hb]
  walk_at "ev"
theorem p_shows_unlike (h : st[l]? = some (hearerO t)) (h' : st[m]? = some (hearerO u)) (h0 : 0 ≤ i) (h1 : i < t.length) (h2 : 0 ≤ j) (h3 : j < u.length) {v : Nat} {d : D} (hv : st[v]? = some (unlikeO d)) {b : Bool} (hb : b_is_unlike [.loc l, .int i, .loc m, .int j, fixN 10 d] st = .ok (.bool b) st) : b_shows_same [.loc l, .int i, .loc m, .int j, .loc v] st = .ok (.bool b) st := by
  unfold b_shows_same m_shows_same
  walk_at "ev"
  rw [p_need_rows_of h h' h0 h1 h2 h3]
  walk_at "ev"
  rw [isC_loc hv, sub_us]
  walk_at "ev"
  rw [isC_loc hv, sub_uu]
  walk_at "ev"
  rw [fldP_loc hv (by simp) (d := fixN 10 d) (by kernel_rfl)]
  walk_at "ev"
  rw [hb]
  walk_at "ev"
end
end
end Law_k63
end
section
open PySem PySem.Spec PyProof.Rows L2 DL
namespace Law_k63
section
variable {rest : Store}
theorem p_draw {n : Nat} {o : O} (hp : Pen n o) (hn : n ≤ 1000000) {many : Int} (hm : 0 < many) (hm2 : many < 1073741824) :
    ∃ i o', b_law_draw [.loc 0, .int many] (o :: rest) = .ok (.int i) (o' :: rest) ∧ 0 ≤ i ∧ i < many ∧ Pen (n + 1) o' := by
  obtain ⟨cells, a, r, rfl, h1, h2, h3⟩ := hp
  have md : ∀ x : Int, 0 ≤ x % many ∧ x % many < many := fun x => ⟨Int.emod_nonneg _ (by omega), Int.emod_lt_of_pos _ hm⟩
  unfold b_law_draw m_law_draw penO
  walk_at "ev"
  by_cases c : 0 < r
  · rw [decide_eq_true c]
    walk_at "ev"
    rw [divI_int hm hm2]
    walk_at "ev"
    rw [modI_int hm]
    walk_at "ev"
    exact ⟨_, _, rfl, (md r).1, (md r).2, cells, a, _, rfl, h1, by omega, h3⟩
  · rw [decide_eq_false c]
    walk_at "ev"
    rw [mulI_l (by omega) (by omega)]
    walk_at "ev"
    rw [neP_nil (fun x hx => by obtain ⟨i, _, rfl⟩ := List.mem_map.mp hx; exact fit_int _ _)]
    walk_at "ev"
    cases he : (cells.map D.int).isEmpty with
    | true =>
      walk_at "ev"
      generalize 73153 * a + 10639 = x
      rw [List.length_map]
      by_cases c2 : a < (cells.length : Int) ∧ (1000000000000000000 : Int) ≤ (if x < 0 then -x else x)
      · rw [decide_eq_true c2.1]
        walk_at "ev"
        rw [powI_int (by omega) (by omega) (by decide)]
        walk_at "ev"
        rw [decide_eq_true c2.2]
        walk_at "ev"
        rw [powI_int (by omega) (by omega) (by decide)]
        walk_at "ev"
        rw [mulI_l (by omega) (by omega)]
        walk_at "ev"
        rw [divI_int hm hm2]
        walk_at "ev"
        rw [modI_int hm]
        walk_at "ev"
        exact ⟨_, _, rfl, (md _).1, (md _).2, cells, a + 1, _, rfl, by omega, by omega, h3⟩
      · by_cases c3 : a < (cells.length : Int)
        · rw [decide_eq_true c3]
          walk_at "ev"
          rw [powI_int (by omega) (by omega) (by decide)]
          walk_at "ev"
          rw [decide_eq_false (fun z => c2 ⟨c3, z⟩)]
          walk_at "ev"
          rw [modI_int (by omega)]
          walk_at "ev"
          rw [mulI_l (by omega) (by omega)]
          walk_at "ev"
          have m1 := Int.emod_nonneg x (show (2147483579 : Int) ≠ 0 by omega)
          have m2 := Int.emod_lt_of_pos x (show (0 : Int) < 2147483579 by omega)
          rw [powI_int (by omega) (by omega) (by omega)]
          walk_at "ev"
          rw [modI_int (by omega)]
          walk_at "ev"
          generalize hy : ((x % 2147483579 + 36667 * a + 7487) ^ 5 : Int) % 2147483587 = y
          have y1 : 0 ≤ y := by rw [← hy]; exact Int.emod_nonneg _ (by omega)
          have y2 : y < 2147483587 := by rw [← hy]; exact Int.emod_lt_of_pos _ (by omega)
          rw [mulI_l (by omega) (by omega)]
          walk_at "ev"
          rw [mulI_l (by omega) (by omega)]
          walk_at "ev"
          rw [mulI_l (by omega) (by omega)]
          walk_at "ev"
          rw [mulI_l (by omega) (by omega)]
          walk_at "ev"
          have b1 : y * (2 * a + 7487) ≤ 2147483587 * 2007487 := Int.mul_le_mul (by omega) (by omega) (by omega) (by omega)
          have b2 : 0 ≤ y * (2 * a + 7487) := Int.mul_nonneg y1 (by omega)
          have b3 : 36667 * a * a ≤ 36667000000 * 1000000 := Int.mul_le_mul (by omega) (by omega) (by omega) (by omega)
          have b4 : 0 ≤ 36667 * a * a := Int.mul_nonneg (by omega) (by omega)
          rw [powI_int (by omega) (by omega) (by omega)]
          walk_at "ev"
          rw [modI_int (by omega)]
          walk_at "ev"
          rw [divI_int (by omega) (by omega)]
          walk_at "ev"
          rw [modI_int hm]
          walk_at "ev"
          exact ⟨_, _, rfl, (md _).1, (md _).2, cells, a + 1, _, rfl, by omega, by omega, h3⟩
        · rw [decide_eq_false c3]
          walk_at "ev"
          rw [modI_int (by omega)]
          walk_at "ev"
          rw [mulI_l (by omega) (by omega)]
          walk_at "ev"
          have m1 := Int.emod_nonneg x (show (2147483579 : Int) ≠ 0 by omega)
          have m2 := Int.emod_lt_of_pos x (show (0 : Int) < 2147483579 by omega)
          rw [powI_int (by omega) (by omega) (by omega)]
          walk_at "ev"
          rw [modI_int (by omega)]
          walk_at "ev"
          generalize hy : ((x % 2147483579 + 36667 * a + 7487) ^ 5 : Int) % 2147483587 = y
          have y1 : 0 ≤ y := by rw [← hy]; exact Int.emod_nonneg _ (by omega)
          have y2 : y < 2147483587 := by rw [← hy]; exact Int.emod_lt_of_pos _ (by omega)
          rw [mulI_l (by omega) (by omega)]
          walk_at "ev"
          rw [mulI_l (by omega) (by omega)]
          walk_at "ev"
          rw [mulI_l (by omega) (by omega)]
          walk_at "ev"
          rw [mulI_l (by omega) (by omega)]
          walk_at "ev"
          have b1 : y * (2 * a + 7487) ≤ 2147483587 * 2007487 := Int.mul_le_mul (by omega) (by omega) (by omega) (by omega)
          have b2 : 0 ≤ y * (2 * a + 7487) := Int.mul_nonneg y1 (by omega)
          have b3 : 36667 * a * a ≤ 36667000000 * 1000000 := Int.mul_le_mul (by omega) (by omega) (by omega) (by omega)
          have b4 : 0 ≤ 36667 * a * a := Int.mul_nonneg (by omega) (by omega)
          rw [powI_int (by omega) (by omega) (by omega)]
          walk_at "ev"
          rw [modI_int (by omega)]
          walk_at "ev"
          rw [divI_int (by omega) (by omega)]
          walk_at "ev"
          rw [modI_int hm]
          walk_at "ev"
          exact ⟨_, _, rfl, (md _).1, (md _).2, cells, a + 1, _, rfl, by omega, by omega, h3⟩
    | false =>
      walk_at "ev"
      have hl : 0 < cells.length := by
        cases cells with
        | nil => cases he
        | cons _ _ => simp
      rw [List.length_map]
      rw [modI_int (by omega)]
      walk_at "ev"
      rw [atI_map D.int 0 cells (Int.emod_nonneg _ (by omega)) (Int.emod_lt_of_pos _ (by omega))]
      walk_at "ev"
      generalize cells.getD (a % (cells.length : Int)).toNat 0 = x
      rw [List.length_map]
      by_cases c2 : a < (cells.length : Int) ∧ (1000000000000000000 : Int) ≤ (if x < 0 then -x else x)
      · rw [decide_eq_true c2.1]
        walk_at "ev"
        rw [powI_int (by omega) (by omega) (by decide)]
        walk_at "ev"
        rw [decide_eq_true c2.2]
        walk_at "ev"
        rw [powI_int (by omega) (by omega) (by decide)]
        walk_at "ev"
        rw [mulI_l (by omega) (by omega)]
        walk_at "ev"
        rw [divI_int hm hm2]
        walk_at "ev"
        rw [modI_int hm]
        walk_at "ev"
        exact ⟨_, _, rfl, (md _).1, (md _).2, cells, a + 1, _, rfl, by omega, by omega, h3⟩
      · by_cases c3 : a < (cells.length : Int)
        · rw [decide_eq_true c3]
          walk_at "ev"
          rw [powI_int (by omega) (by omega) (by decide)]
          walk_at "ev"
          rw [decide_eq_false (fun z => c2 ⟨c3, z⟩)]
          walk_at "ev"
          rw [modI_int (by omega)]
          walk_at "ev"
          rw [mulI_l (by omega) (by omega)]
          walk_at "ev"
          have m1 := Int.emod_nonneg x (show (2147483579 : Int) ≠ 0 by omega)
          have m2 := Int.emod_lt_of_pos x (show (0 : Int) < 2147483579 by omega)
          rw [powI_int (by omega) (by omega) (by omega)]
          walk_at "ev"
          rw [modI_int (by omega)]
          walk_at "ev"
          generalize hy : ((x % 2147483579 + 36667 * a + 7487) ^ 5 : Int) % 2147483587 = y
          have y1 : 0 ≤ y := by rw [← hy]; exact Int.emod_nonneg _ (by omega)
          have y2 : y < 2147483587 := by rw [← hy]; exact Int.emod_lt_of_pos _ (by omega)
          rw [mulI_l (by omega) (by omega)]
          walk_at "ev"
          rw [mulI_l (by omega) (by omega)]
          walk_at "ev"
          rw [mulI_l (by omega) (by omega)]
          walk_at "ev"
          rw [mulI_l (by omega) (by omega)]
          walk_at "ev"
          have b1 : y * (2 * a + 7487) ≤ 2147483587 * 2007487 := Int.mul_le_mul (by omega) (by omega) (by omega) (by omega)
          have b2 : 0 ≤ y * (2 * a + 7487) := Int.mul_nonneg y1 (by omega)
          have b3 : 36667 * a * a ≤ 36667000000 * 1000000 := Int.mul_le_mul (by omega) (by omega) (by omega) (by omega)
          have b4 : 0 ≤ 36667 * a * a := Int.mul_nonneg (by omega) (by omega)
          rw [powI_int (by omega) (by omega) (by omega)]
          walk_at "ev"
          rw [modI_int (by omega)]
          walk_at "ev"
          rw [divI_int (by omega) (by omega)]
          walk_at "ev"
          rw [modI_int hm]
          walk_at "ev"
          exact ⟨_, _, rfl, (md _).1, (md _).2, cells, a + 1, _, rfl, by omega, by omega, h3⟩
        · rw [decide_eq_false c3]
          walk_at "ev"
          rw [modI_int (by omega)]
          walk_at "ev"
          rw [mulI_l (by omega) (by omega)]
          walk_at "ev"
          have m1 := Int.emod_nonneg x (show (2147483579 : Int) ≠ 0 by omega)
          have m2 := Int.emod_lt_of_pos x (show (0 : Int) < 2147483579 by omega)
          rw [powI_int (by omega) (by omega) (by omega)]
          walk_at "ev"
          rw [modI_int (by omega)]
          walk_at "ev"
          generalize hy : ((x % 2147483579 + 36667 * a + 7487) ^ 5 : Int) % 2147483587 = y
          have y1 : 0 ≤ y := by rw [← hy]; exact Int.emod_nonneg _ (by omega)
          have y2 : y < 2147483587 := by rw [← hy]; exact Int.emod_lt_of_pos _ (by omega)
          rw [mulI_l (by omega) (by omega)]
          walk_at "ev"
          rw [mulI_l (by omega) (by omega)]
          walk_at "ev"
          rw [mulI_l (by omega) (by omega)]
          walk_at "ev"
          rw [mulI_l (by omega) (by omega)]
          walk_at "ev"
          have b1 : y * (2 * a + 7487) ≤ 2147483587 * 2007487 := Int.mul_le_mul (by omega) (by omega) (by omega) (by omega)
          have b2 : 0 ≤ y * (2 * a + 7487) := Int.mul_nonneg y1 (by omega)
          have b3 : 36667 * a * a ≤ 36667000000 * 1000000 := Int.mul_le_mul (by omega) (by omega) (by omega) (by omega)
          have b4 : 0 ≤ 36667 * a * a := Int.mul_nonneg (by omega) (by omega)
          rw [powI_int (by omega) (by omega) (by omega)]
          walk_at "ev"
          rw [modI_int (by omega)]
          walk_at "ev"
          rw [divI_int (by omega) (by omega)]
          walk_at "ev"
          rw [modI_int hm]
          walk_at "ev"
          exact ⟨_, _, rfl, (md _).1, (md _).2, cells, a + 1, _, rfl, by omega, by omega, h3⟩
end
end Law_k63
end
section
open PySem PySem.Spec PyProof.Rows L2 DL
namespace Law_k63
section
variable {rest : Store}
theorem p_pick {n : Nat} {o : O} (hp : Pen n o) (hn : n ≤ 1000000) {xs : List D} (h1 : 0 < xs.length) (h2 : xs.length < 1000000) : ∃ x o', b_law_pick [.loc 0, .lst xs] (o :: rest) = .ok x (o' :: rest) ∧ x ∈ xs ∧ Pen (n + 1) o' := by
  obtain ⟨i, o', e, i1, i2, hp'⟩ := p_draw (rest := rest) hp hn (many := xs.length) (by omega) (by omega)
  unfold b_law_pick m_law_pick
  walk_at "ev"
  rw [e]
  walk_at "ev"
  rw [atI_int _ i1, List.getElem?_eq_getElem (by omega)]
  walk_at "ev"
  exact ⟨_, _, rfl, List.getElem_mem _, hp'⟩
theorem p_pick_b {n : Nat} {o : O} (hp : Pen n o) (hn : n ≤ 1000000) {xs : List D} (h1 : 0 < xs.length) (h2 : xs.length < 1000000) : ∃ x o', b_law_pick_b [.loc 0, .lst xs] (o :: rest) = .ok x (o' :: rest) ∧ x ∈ xs ∧ Pen (n + 1) o' := by
  obtain ⟨i, o', e, i1, i2, hp'⟩ := p_draw (rest := rest) hp hn (many := xs.length) (by omega) (by omega)
  unfold b_law_pick_b m_law_pick_b
  walk_at "ev"
  rw [e]
  walk_at "ev"
  rw [atI_int _ i1, List.getElem?_eq_getElem (by omega)]
  walk_at "ev"
  exact ⟨_, _, rfl, List.getElem_mem _, hp'⟩
theorem p_mixed_b {n : Nat} {o : O} (hp : Pen n o) {xs : List D} (hn : n + xs.length ≤ 1000000) (h2 : xs.length < 10000) (hf : ∀ x ∈ xs, fit 59 x = true) : ∃ ys o', b_law_mixed_b [.loc 0, .lst xs] (o :: rest) = .ok (.lst ys) (o' :: rest) ∧ ys.Perm xs ∧ Pen (n + xs.length) o' := by
  have main : (b_law_mixed_b [.loc 0, .lst xs] (o :: rest)).wp fun d st => ∃ ys o', d = .lst ys ∧ st = o' :: rest ∧ ys.Perm xs ∧ Pen (n + xs.length) o' := by
    unfold b_law_mixed_b m_law_mixed_b
    walk_at "ew"
    refine wp_out (wp_then (whileL_wp (fun k ρ s => ∃ left found o', left.length = k ∧ (left ++ found).Perm xs ∧ Pen (n + found.length) o' ∧ s = o' :: rest ∧ ρ = [.val (.loc 0), .bor xs, .own left, .own found]) ?_ _ xs.length _ _ (by omega) ?_))
    · rintro k ρ s ⟨left, found, o', hk, hperm, hp', rfl, rfl⟩
      have hlen := hperm.length_eq
      rw [List.length_append] at hlen
      walk_at "ew"
      rw [neP_nil fun x hx => hf x (hperm.mem_iff.mp (List.mem_append_left _ hx))]
      walk_at "ew"
      cases left with
      | nil =>
        walk_at "ew"
        rw [List.nil_append] at hperm
        exact ⟨found, o', rfl, rfl, hperm, by rw [← hperm.length_eq]; exact hp'⟩
      | cons x left =>
        have hk2 : (x :: left).length = k := hk
        generalize hL : x :: left = L at *
        have hL0 : 0 < L.length := by rw [← hL]; simp
        have hLe : L.isEmpty = false := by rw [← hL]; rfl
        rw [hLe]
        walk_at "ew"
        refine ⟨k - 1, by omega, ?_⟩
        rw [sAppendX_own (xs := found) _ rfl, xPopAt_own (xs := L) _ rfl]
        walk_at "ew"
        obtain ⟨i, o2, e, i1, i2, hp2⟩ := p_draw (rest := rest) hp' (by omega) (many := L.length) (by omega) (by omega)
        rw [e]
        walk_at "ew"
        have ei : i = ((i.toNat : Nat) : Int) := by omega
        rw [ei, popAt_nat (by omega) (by omega)]
        walk_at "ew"
        rw [appendTo_own (xs := found) rfl (by omega)]
        walk_at "ew"
        refine ⟨_, _, o2, ?_, (perm_erase L found i.toNat (by omega)).trans hperm, ?_, rfl, rfl⟩
        · rw [List.length_eraseIdx_of_lt (by omega)]; omega
        · rw [List.length_append, List.length_singleton]; exact hp2
    · exact ⟨xs, [], o, rfl, by simp, hp, rfl, rfl⟩
  obtain ⟨d, st, e, ys, o', rfl, rfl, h1, h2⟩ := wp_ex main
  exact ⟨ys, o', e, h1, h2⟩
end
end Law_k63
end
section
open PySem PySem.Spec PyProof.Rows L2 DL
namespace Law_k63
section
variable {rest : Store}
theorem sort_abu (st : Store) : sortP [.lst ((["a", "b", "u"] : List Str).map .str)] st = some ((["a", "b", "u"] : List Str).map .str) := by
  have e : ∀ xs : List D, sortP [.lst xs] st = if oneSh xs = true then some (sortD xs) else none := fun _ => rfl
  rw [e]
  rw [if_pos (by kernel_rfl)]
  unfold sortD
  rw [List.mergeSort_of_pairwise (by
    simp only [List.map_cons, List.map_nil, List.pairwise_cons, List.mem_cons, List.not_mem_nil, or_false, forall_eq_or_imp, forall_eq, List.Pairwise.nil, and_true, false_implies, implies_true]
    decide +kernel)]
/-- what a drawn row is like -/
structure RowLike (nms : List Str) (many : Int) (r : List Ans) : Prop where
  nm : (r.map (·.1)).Sublist nms
  tl : ∀ a ∈ r, a.2.1.length ≤ 2
  tb : ∀ a ∈ r, ∀ b ∈ a.2.1, b = 0 ∨ b = 1
  lt : ∀ a ∈ r, 0 ≤ a.2.2 ∧ a.2.2 < many
def opts : List (List Int) := [[], [0], [1], [0], [1], [1, 0]]
theorem opts_eq : ([.tup [], .tup [.int 0], .tup [.int 1], .tup [.int 0], .tup [.int 1], .tup [.int 1, .int 0]] : List D) = opts.map toldD := rfl
theorem opts_ok : ∀ t ∈ opts, t.length ≤ 2 ∧ ∀ b ∈ t, b = 0 ∨ b = 1 := by decide
theorem p_s_hearer {n : Nat} {o : O} (hp : Pen n o) (hn : n ≤ 900000) {most : Int} (hm : 0 < most) (hm2 : most ≤ 1000) {nmD nms : List Str} (hs : ∀ st, sortP [.lst (nmD.map .str)] st = some (nms.map .str)) (hnl : nms.length ≤ 10) :
    ∃ t o' n', b_law_s_hearer [.loc 0, .lst (nmD.map .str), .int most] (o :: rest) = .ok (tabD t) (o' :: rest) ∧ 1 ≤ t.length ∧ (t.length : Int) ≤ most ∧ (∀ r ∈ t, RowLike nms t.length r) ∧ Pen n' o' ∧ n' ≤ n + 1 + t.length * 30 := by
  have main : (b_law_s_hearer [.loc 0, .lst (nmD.map .str), .int most] (o :: rest)).wp fun d st => ∃ t o' n', d = tabD t ∧ st = o' :: rest ∧ 1 ≤ t.length ∧ (t.length : Int) ≤ most ∧ (∀ r ∈ t, RowLike nms t.length r) ∧ Pen n' o' ∧ n' ≤ n + 1 + t.length * 30 := by
    unfold b_law_s_hearer m_law_s_hearer
    walk_at "ew"
    obtain ⟨i, o1, e, i1, i2, hp1⟩ := p_draw (rest := rest) hp (by omega) (many := most) hm (by omega)
    rw [e]
    walk_at "ew"
    rw [rng1_eq (by omega) (by omega)]
    walk_at "ew"
    generalize hmany : (1 + i) = many
    have hlen : (intsD 0 many.toNat).length = many.toNat := by simp [intsD]
    refine wp_out (wp_then (forL_wp (fun left ρ s => ∃ (t : List (List Ans)) (o' : O) (n' : Nat) (s3 s6 s7 : Slot), t.length + left.length = many.toNat ∧ (∀ r ∈ t, RowLike nms many r) ∧ Pen n' o' ∧ n' ≤ n + 1 + t.length * 30 ∧ s = o' :: rest ∧
      ρ = [.val (.loc 0), .val (.lst (nmD.map .str)), .val (.int most), s3, .val (.int many), .own (t.map rowD), s6, s7]) ?_ ?_ _ _ _ ?_))
    · rintro x xs ρ s ⟨t, o', n', s3, s6, s7, hl, hr, hp', hn', rfl, rfl⟩
      rw [List.length_cons] at hl
      refine ⟨_, rfl, ?_⟩
      walk_at "ew"
      rw [hs]
      walk_at "ew"
      refine wp_then (forL_wp (fun left ρ s => ∃ (r : List Ans) (o2 : O) (n2 : Nat) (todo : List Str) (s7 : Slot), left = todo.map .str ∧ (∃ dn, dn ++ todo = nms ∧ (r.map (·.1)).Sublist dn) ∧ (∀ a ∈ r, a.2.1.length ≤ 2) ∧ (∀ a ∈ r, ∀ b ∈ a.2.1, b = 0 ∨ b = 1) ∧ (∀ a ∈ r, 0 ≤ a.2.2 ∧ a.2.2 < many) ∧ Pen n2 o2 ∧ n2 + 3 * todo.length ≤ n' + 3 * nms.length ∧ s = o2 :: rest ∧
        ρ = [.val (.loc 0), .val (.lst (nmD.map .str)), .val (.int most), .val x, .val (.int many), .own (t.map rowD), .own (r.map ansD), s7]) ?_ ?_ _ _ _ ?_)
      · rintro y ys ρ s ⟨r, o2, n2, todo, s7, el, ⟨dn, edn, hsub⟩, ht1, ht2, ht3, hp2, hn2, rfl, rfl⟩
        cases todo with
        | nil => cases el
        | cons q todo =>
          rw [List.map_cons] at el
          injection el with e1 e2
          subst e1 e2
          rw [List.length_cons] at hn2
          refine ⟨_, rfl, ?_⟩
          walk_at "ew"
          obtain ⟨j, o3, e3, j1, j2, hp3⟩ := p_draw (rest := rest) hp2 (by omega) (many := 8) (by omega) (by omega)
          rw [e3]
          walk_at "ew"
          by_cases c : 0 < j
          · rw [decide_eq_true c]
            walk_at "ew"
            rw [sAppend_own (xs := r.map ansD) _ rfl]
            walk_at "ew"
            rw [opts_eq]
            obtain ⟨v, o4, e4, hv, hp4⟩ := p_pick (rest := rest) hp3 (by omega) (xs := opts.map toldD) (by decide) (by decide)
            obtain ⟨told, htold, rfl⟩ := List.mem_map.mp hv
            rw [e4]
            walk_at "ew"
            obtain ⟨k, o5, e5, k1, k2, hp5⟩ := p_draw (rest := rest) hp4 (by omega) (many := many) (by omega) (by omega)
            rw [e5]
            walk_at "ew"
            rw [appendTo_own (xs := r.map ansD) rfl (by
              have := hsub.length_le
              have h2 := congrArg List.length edn
              rw [List.length_append] at h2
              rw [List.length_map] at this ⊢
              omega)]
            walk_at "ew"
            obtain ⟨ok1, ok2⟩ := opts_ok told htold
            have ea : r.map ansD ++ [.tup [.str q, toldD told, .int k]] = (r ++ [(q, told, k)]).map ansD := by
              rw [List.map_append]
              rfl
            rw [ea]
            refine ⟨r ++ [(q, told, k)], o5, n2 + 1 + 1 + 1, todo, _, rfl, ⟨dn ++ [q], by rw [List.append_assoc]; exact edn, by rw [List.map_append]; exact hsub.append (List.Sublist.refl _)⟩, ?_, ?_, ?_, hp5, by omega, rfl, rfl⟩
            · intro a ha
              rcases List.mem_append.mp ha with ha | ha
              · exact ht1 a ha
              · rw [List.mem_singleton.mp ha]; exact ok1
            · intro a ha
              rcases List.mem_append.mp ha with ha | ha
              · exact ht2 a ha
              · rw [List.mem_singleton.mp ha]; exact ok2
            · intro a ha
              rcases List.mem_append.mp ha with ha | ha
              · exact ht3 a ha
              · rw [List.mem_singleton.mp ha]; exact ⟨k1, k2⟩
          · rw [decide_eq_false c]
            walk_at "ew"
            refine ⟨r, o3, n2 + 1, todo, _, rfl, ⟨dn ++ [q], by rw [List.append_assoc]; exact edn, hsub.trans (List.sublist_append_left _ _)⟩, ht1, ht2, ht3, hp3, by omega, rfl, rfl⟩
      · rintro ρ s ⟨r, o2, n2, todo, s7, el, ⟨dn, edn, hsub⟩, ht1, ht2, ht3, hp2, hn2, rfl, rfl⟩
        rw [sAppend_own (xs := t.map rowD) _ rfl]
        walk_at "ew"
        rw [appendTo_own (xs := t.map rowD) rfl (by rw [List.length_map]; omega)]
        walk_at "ew"
        have ea : t.map rowD ++ [.tup (r.map ansD)] = (t ++ [r]).map rowD := by
          rw [List.map_append]
          rfl
        rw [ea]
        refine ⟨t ++ [r], o2, n2, _, _, _, by rw [List.length_append, List.length_singleton]; omega, ?_, hp2, by rw [List.length_append, List.length_singleton]; omega, rfl, rfl⟩
        intro a ha
        rcases List.mem_append.mp ha with ha | ha
        · exact hr a ha
        · rw [List.mem_singleton.mp ha]
          exact ⟨by rw [← edn]; exact hsub.trans (List.sublist_append_left _ _), ht1, ht2, ht3⟩
      · exact ⟨[], o', n', nms, _, rfl, ⟨[], rfl, List.Sublist.refl _⟩, by simp, by simp, by simp, hp', by omega, rfl, rfl⟩
    · rintro ρ s ⟨t, o', n', s3, s6, s7, hl, hr, hp', hn', rfl, rfl⟩
      walk_at "ew"
      rw [List.length_nil] at hl
      have e1 : (t.length : Int) = many := by omega
      exact ⟨t, o', n', rfl, rfl, by omega, by omega, by rw [e1]; exact hr, hp', hn'⟩
    · exact ⟨[], o1, n + 1, _, _, _, by rw [hlen]; simp, by simp, hp1, by simp, rfl, rfl⟩
  obtain ⟨d, st, e, t, o', n', rfl, rfl, h1, h2, h3, h4, h5⟩ := wp_ex main
  exact ⟨t, o', n', e, h1, h2, h3, h4, h5⟩
end
end Law_k63
end
section
open PySem PySem.Spec PyProof.Rows L2 DL
namespace Law_k63
section
variable {st : Store}
def isNm (s : Str) (d : D) : Bool := match nth3 0 d with
  | .str q => decide (q = s)
  | _ => false
theorem p_s_answer {t : List (List Ans)} {i : Int} (h0 : 0 ≤ i) (h1 : i < t.length) (hl : (rowAt t i).length ≤ 1000) (s : Str) : b_law_s_answer [tabD t, .int i, .str s] st = .ok (ansOf (rowAt t i) s) st := by
  unfold b_law_s_answer m_law_s_answer tabD
  walk_at "ev"
  rw [atI_tab t h0 h1]
  generalize rowAt t i = r at *
  unfold rowD
  walk_at "ev"
  rw [compK_pure (isNm s) (fun d => .tup [nth3 1 d, nth3 2 d]) (fun x hx => by
    obtain ⟨a, ha, rfl⟩ := List.mem_map.mp hx
    refine ⟨_, rfl, ?_, fun _ => ?_⟩
    · unfold ansD
      walk_at "ev"
      rfl
    · unfold ansD
      walk_at "ev"
      rfl) (by rw [List.length_map]; omega)]
  walk_at "ev"
  have e : ((r.map ansD).filter (isNm s)).map (fun d => D.tup [nth3 1 d, nth3 2 d]) = (r.filter fun a => decide (a.1 = s)).map valD := by
    rw [List.filter_map, List.map_map]
    rfl
  rw [e, neP_nil (fun x hx => by
    obtain ⟨a, _, rfl⟩ := List.mem_map.mp hx
    refine fit_tup 58 fun d hd => ?_
    simp only [List.mem_cons, List.not_mem_nil, or_false] at hd
    rcases hd with rfl | rfl
    · exact fit_told 57 _
    · exact fit_int _ _)]
  walk_at "ev"
  have hd := List.head?_filter (p := fun a : Ans => decide (a.1 = s)) (l := r)
  cases ef : r.filter fun a => decide (a.1 = s) with
  | nil =>
    rw [ef] at hd
    walk_at "ev"
    rw [ansOf_none (show ansF r s = none from hd.symm)]
  | cons a as =>
    rw [ef] at hd
    walk_at "ev"
    unfold valD toldD
    walk_at "ev"
    rw [ansOf_some (show ansF r s = some a from hd.symm)]
    rfl
theorem cut_nil : DL.cutD [] none (some (-1)) = [] := rfl
theorem p_parts {t u : List (List Ans)} (ht : TabOk t) (hu : TabOk u) {i j : Int} (hi : 0 ≤ i ∧ i < t.length) (hj : 0 ≤ j ∧ j < u.length) (ns : List Str) (hl : ns.length ≤ 10000) :
    b_law_parts [tabD t, .int i, tabD u, .int j, .lst (ns.map .str)] st = .ok (.bool (partsB t u ns i j)) st := by
  refine ok_of_wp ?_
  unfold b_law_parts m_law_parts
  walk_at "ev"
  rcases List.eq_nil_or_concat ns with rfl | ⟨ns, z, rfl⟩
  · walk_at "ev"
    rw [cut_nil]
    unfold forL
    walk_at "ev"
    exact ⟨rfl, rfl⟩
  rw [List.concat_eq_append, List.map_append, List.map_cons, List.map_nil, cut_last]
  refine wp_out (wp_then (forL_wp (fun rest ρ s => ∃ (qs : List Str) (i' j' : Int) (s5 s6 s7 : Slot), rest = qs.map .str ∧ (0 ≤ i' ∧ i' < t.length) ∧ (0 ≤ j' ∧ j' < u.length) ∧ partsB t u (ns ++ [z]) i j = partsB t u (qs ++ [z]) i' j' ∧ s = st ∧
    ρ = [.val (tabD t), .val (.int i'), .val (tabD u), .val (.int j'), .val (.lst (ns.map .str ++ [.str z])), s5, s6, s7]) ?_ ?_ _ _ _ ?_))
  · rintro x xs ρ s ⟨qs, i', j', s5, s6, s7, e, hi', hj', hall, rfl, rfl⟩
    cases qs with
    | nil => cases e
    | cons q qs =>
      rw [List.map_cons] at e
      injection e with e1 e2
      subst e1 e2
      refine ⟨_, rfl, ?_⟩
      rw [List.cons_append, parts_cons] at hall
      walk_at "ev"
      rw [p_s_answer hi'.1 hi'.2 (ht.ok _ (rowAt_mem hi'.1 hi'.2)).len]
      walk_at "ev"
      rw [p_s_answer hj'.1 hj'.2 (hu.ok _ (rowAt_mem hj'.1 hj'.2)).len]
      walk_at "ev"
      cases ea : ansF (rowAt t i') q with
      | none =>
        rw [ansOf_none ea, isNone_non]
        walk_at "ev"
        rw [hall, ea]
        exact ⟨rfl, rfl⟩
      | some a =>
        rw [ansOf_some ea, isNone_val]
        walk_at "ev"
        cases eb : ansF (rowAt u j') q with
        | none =>
          rw [ansOf_none eb, isNone_non]
          walk_at "ev"
          rw [hall, ea, eb]
          exact ⟨rfl, rfl⟩
        | some b =>
          rw [ansOf_some eb, isNone_val]
          walk_at "ev"
          rw [ix_val1]
          walk_at "ev"
          rw [ix_val1]
          walk_at "ev"
          exact ⟨qs, _, _, _, _, _, rfl, ansF_ok ht hi'.1 hi'.2 ea, ansF_ok hu hj'.1 hj'.2 eb, by rw [hall, ea, eb], rfl, rfl⟩
  · rintro ρ s ⟨qs, i', j', s5, s6, s7, e, hi', hj', hall, rfl, rfl⟩
    cases qs with
    | cons _ _ => cases e
    | nil =>
      rw [hall, List.nil_append]
      unfold partsB
      walk_at "ev"
      have e1 : decide (((ns.map D.str ++ [D.str z]).length : Int) = 0) = false := decide_eq_false (by rw [List.length_append, List.length_singleton]; omega)
      rw [e1]
      walk_at "ev"
      rw [p_s_answer hi'.1 hi'.2 (ht.ok _ (rowAt_mem hi'.1 hi'.2)).len]
      walk_at "ev"
      rw [p_s_answer hj'.1 hj'.2 (hu.ok _ (rowAt_mem hj'.1 hj'.2)).len]
      walk_at "ev"
      cases ea : ansF (rowAt t i') z with
      | none =>
        rw [ansOf_none ea, isNone_non]
        cases eb : ansF (rowAt u j') z with
        | none =>
          rw [ansOf_none eb, isNone_non]
          walk_at "ev"
          exact ⟨rfl, rfl⟩
        | some b =>
          rw [ansOf_some eb, isNone_val]
          walk_at "ev"
          exact ⟨rfl, rfl⟩
      | some a =>
        rw [ansOf_some ea, isNone_val]
        cases eb : ansF (rowAt u j') z with
        | none =>
          rw [ansOf_none eb, isNone_non]
          walk_at "ev"
          exact ⟨rfl, rfl⟩
        | some b =>
          rw [ansOf_some eb, isNone_val]
          walk_at "ev"
          rw [isNone_val]
          walk_at "ev"
          rw [ix_val0]
          walk_at "ev"
          rw [ix_val0]
          walk_at "ev"
          rw [neP_fit (fit_told 59 _) (fit_told 59 _)]
          walk_at "ev"
          exact ⟨rfl, rfl⟩
  · exact ⟨ns, i, j, _, _, _, rfl, hi, hj, rfl, rfl, rfl⟩
theorem p_pen (ns : List Int) (hl : ns.length ≤ 63) : ∃ o, b_law_pen [.lst (ns.map .int)] [] = .ok (.loc 0) [o] ∧ Pen 0 o := by
  unfold b_law_pen m_law_pen
  walk_at "ev"
  have e : DL.cutD (ns.map D.int) none (some 63) = ns.map .int := by
    unfold DL.cutD
    show List.take (min 63 _ - 0) (List.drop 0 _) = _
    rw [List.drop_zero]
    exact List.take_of_length_le (by rw [List.length_map]; omega)
  rw [e, compK_all id (fun x hx => by
    obtain ⟨a, ha, rfl⟩ := List.mem_map.mp hx
    refine ⟨_, rfl, ?_⟩
    walk_at "ev"
    rfl) (by rw [List.length_map]; omega)]
  walk_at "ev"
  rw [List.map_id]
  exact ⟨_, rfl, ns, 0, 0, rfl, by omega, by omega, hl⟩
end
end Law_k63
end
section
open PySem PySem.Spec PyProof.Rows L2 DL
namespace Law_k63
def m_law_w0 : SM := (sIf (tOfB (eC2 notInP (eTup (eConsA (e2 ixP (eVar 24) (eConst (.int 2))) (eConsA (e2 ixP (eVar 25) (eConst (.int 2))) eNilA))) (eOwn 16))) (sAppend 16 (eTup (eConsA (e2 ixP (eVar 24) (eConst (.int 2))) (eConsA (e2 ixP (eVar 25) (eConst (.int 2))) eNilA)))) sNext)
def m_law_w1 : SM := (sSeq (sFor (fZip (e2 ixP (eVar 6) (e2 ixP (e2 ixP (eOwn 16) (eVar 20)) (eConst (.int 0)))) (e2 ixP (eVar 7) (e2 ixP (e2 ixP (eOwn 16) (eVar 20)) (eConst (.int 1))))) (gTupM (gsCons (gVar 24) (gsCons (gVar 25) gsNil))) m_law_w0) (sAsg (e2 addP (eVar 20) (eConst (.int 1))) (gVar 20)))
def m_law_w2 : SM := (sAsg (eAnd (eVar 17) (eAnd (eC2 eqP (e2 ixP (e2 ixP (eVar 8) (eConst (.int 0))) (eVar 21)) (e2 ixP (e2 ixP (eVar 8) (eConst (.int 1))) (eVar 22))) (eC2 eqP (eFrz (fComp [24, 25] (fZip (e2 ixP (eVar 6) (eVar 21)) (e2 ixP (eVar 7) (eVar 22))) (gTupM (gsCons (gVar 24) (gsCons (gVar 25) gsNil))) (tOfB (eC2 notInP (eTup (eConsA (e2 ixP (eVar 24) (eConst (.int 2))) (eConsA (e2 ixP (eVar 25) (eConst (.int 2))) eNilA))) (eVar 16))) (eConst (.int 1)))) (eFrz (fLst eNilA))))) (gVar 17))
def m_law_w3 : SM := (sSeq (sPar [16, 20] (osCons (oOwn (fLst (eConsA (eTup (eConsA (eVar 13) (eConsA (eVar 14) eNilA))) eNilA))) (osCons (oVal (eConst (.int 0))) osNil))) (sSeq (sWhile 100000 (tOfB (eC2 ltP (eVar 20) (eN lenP (eConsA (eOwn 16) eNilA)))) m_law_w1) (sSeq (sAsg (eCall b_law_draw (eConsA (eVar 1) (eConsA (eConst (.int 6)) eNilA))) (gVar 15)) (sSeq (sIf (tOfB (eC2 eqP (eVar 15) (eConst (.int 0)))) (sExprX (xPopAt 16 (eCall b_law_draw (eConsA (eVar 1) (eConsA (eN lenP (eConsA (eOwn 16) eNilA)) eNilA))))) (sIf (tOfB (eC2 eqP (eVar 15) (eConst (.int 1)))) (sAppend 16 (eCall b_law_pick_b (eConsA (eVar 1) (eConsA (eOwn 16) eNilA)))) (sIf (tOfB (eC2 eqP (eVar 15) (eConst (.int 2)))) (sAppend 16 (eTup (eConsA (eCall b_law_draw (eConsA (eVar 1) (eConsA (eVar 4) eNilA))) (eConsA (eCall b_law_draw (eConsA (eVar 1) (eConsA (eVar 4) eNilA))) eNilA)))) (sIf (tOfB (eC2 eqP (eVar 15) (eConst (.int 3)))) (sOwn 16 (fComp [21] (fRng1 (eVar 4)) (gVar 21) tYesM (eTup (eConsA (eVar 21) (eConsA (eVar 21) eNilA))))) sNext)))) (sSeq (sAsg (eCall b_law_mixed_b (eConsA (eVar 1) (eConsA (eOwn 16) eNilA))) (gVar 16)) (sSeq (sAsg (eAnd (eC2 inP (eTup (eConsA (eVar 13) (eConsA (eVar 14) eNilA))) (eVar 16)) (eC2 eqP (eN lenDP (eConsA (eN dictP (eConsA (eFrz (fComp [32] (fSeq (eVar 16)) (gVar 32) tYesM (eTup (eConsA (eVar 32) (eConsA (eConst (.bool true)) eNilA))))) eNilA)) eNilA)) (eN lenP (eConsA (eVar 16) eNilA)))) (gVar 17)) (sSeq (sFor (fSeq (eVar 16)) (gTupM (gsCons (gVar 21) (gsCons (gVar 22) gsNil))) m_law_w2) (sSeq (sIf (tOfB (eC2 neP (eCall b_shows_same (eConsA (eVar 11) (eConsA (eVar 13) (eConsA (eVar 12) (eConsA (eVar 14) (eConsA (eMakeR "Same" r_Same_init (eConsA (eVar 16) eNilA)) eNilA)))))) (eVar 17))) (sRet (eConst (.bool false))) sNext) (sSeq (sAsg (eFrz (fComp [26] (fRng1 (eCall b_law_draw (eConsA (eVar 1) (eConsA (eConst (.int 5)) eNilA)))) (gVar 26) tYesM (eCall b_law_pick (eConsA (eVar 1) (eConsA (eFrz (fCat (eVar 2) (eFrz (fLst (eConsA (eConst (.str "q")) eNilA))))) eNilA))))) (gVar 18)) (sIf (tOfB (eC2 neP (eCall b_shows_same (eConsA (eVar 11) (eConsA (eVar 13) (eConsA (eVar 12) (eConsA (eVar 14) (eConsA (eMakeR "Unlike" r_Unlike_init (eConsA (eVar 18) eNilA)) eNilA)))))) (eCall b_law_parts (eConsA (eVar 6) (eConsA (eVar 13) (eConsA (eVar 7) (eConsA (eVar 14) (eConsA (eVar 18) eNilA)))))))) (sRet (eConst (.bool false))) sNext))))))))))
def m_law_w4 : SM := (sSeq (sAsg (e2 addP (eConst (.int 2)) (eCall b_law_draw (eConsA (eVar 1) (eConsA (eConst (.int 4)) eNilA)))) (gVar 4)) (sSeq (sAsg (eFrz (fComp [9] (fRng1 (eConst (.int 2))) (gVar 9) tYesM (e2 ixP (eCall b_law_s_hearer (eConsA (eVar 1) (eConsA (eVar 2) (eConsA (eConst (.int 1)) eNilA)))) (eConst (.int 0))))) (gVar 5)) (sSeq (sAsg (eN tupP (eConsA (eFrz (fComp [13] (fRng1 (eVar 4)) (gVar 13) tYesM (eN tupP (eConsA (eFrz (fComp [28, 29, 30] (fSeq (eCall b_law_pick (eConsA (eVar 1) (eConsA (eVar 5) eNilA)))) (gTupM (gsCons (gVar 28) (gsCons (gVar 29) (gsCons (gVar 30) gsNil)))) tYesM (eTup (eConsA (eVar 28) (eConsA (eVar 29) (eConsA (eCall b_law_draw (eConsA (eVar 1) (eConsA (eVar 4) eNilA))) eNilA)))))) eNilA)))) eNilA)) (gVar 6)) (sSeq (sAsg (eCall b_law_pick (eConsA (eVar 1) (eConsA (eFrz (fLst (eConsA (eVar 6) (eConsA (eVar 6) (eConsA (eN tupP (eConsA (eFrz (fComp [13] (fRng1 (eVar 4)) (gVar 13) tYesM (eN tupP (eConsA (eFrz (fComp [28, 29, 30] (fSeq (eCall b_law_pick (eConsA (eVar 1) (eConsA (eVar 5) eNilA)))) (gTupM (gsCons (gVar 28) (gsCons (gVar 29) (gsCons (gVar 30) gsNil)))) tYesM (eTup (eConsA (eVar 28) (eConsA (eVar 29) (eConsA (eCall b_law_draw (eConsA (eVar 1) (eConsA (eVar 4) eNilA))) eNilA)))))) eNilA)))) eNilA)) eNilA))))) eNilA))) (gVar 7)) (sSeq (sPar [11, 12] (osCons (oVal (eMakeR "Hearer" r_Hearer_init (eConsA (eVar 6) eNilA))) (osCons (oVal (eMakeR "Hearer" r_Hearer_init (eConsA (eVar 7) eNilA))) osNil))) (sSeq (sPar [13, 14] (osCons (oVal (eCall b_law_draw (eConsA (eVar 1) (eConsA (eVar 4) eNilA)))) (osCons (oVal (eCall b_law_draw (eConsA (eVar 1) (eConsA (eVar 4) eNilA)))) osNil))) (sSeq (sAsg (eFrz (fComp [19] (fSeq (eTup (eConsA (eVar 6) (eConsA (eVar 7) eNilA)))) (gVar 19) tYesM (eFrz (fComp [23] (fSeq (eVar 19)) (gVar 23) tYesM (eFrz (fComp [24] (fSeq (eVar 23)) (gVar 24) tYesM (eSlT (eVar 24) oNone (oSome (eConst (.int 2)))))))))) (gVar 8)) (sSeq (sFor (fRng1 (eConst (.int 10))) (gVar 9) m_law_w3) (sSeq (sAsg (eFrz (fLst (eConsA (eConst .non) (eConsA (eConst (.int 5)) (eConsA (eConst (.str "same")) (eConsA (eMakeR "Same" r_Same_init (eConsA (eConst .non) eNilA)) (eConsA (eMakeR "Same" r_Same_init (eConsA (eTup eNilA) eNilA)) (eConsA (eMakeR "Same" r_Same_init (eConsA (eFrz (fLst (eConsA (eConst .non) eNilA))) eNilA)) (eConsA (eMakeR "Same" r_Same_init (eConsA (eFrz (fLst (eConsA (eTup (eConsA (eVar 13) (eConsA (eVar 14) (eConsA (eConst (.int 0)) eNilA)))) eNilA))) eNilA)) (eConsA (eMakeR "Same" r_Same_init (eConsA (eFrz (fLst (eConsA (eTup (eConsA (eVar 13) eNilA)) eNilA))) eNilA)) (eConsA (eMakeR "Same" r_Same_init (eConsA (eFrz (fLst (eConsA (eTup (eConsA (eVar 13) (eConsA (eVar 4) eNilA))) eNilA))) eNilA)) (eConsA (eMakeR "Same" r_Same_init (eConsA (eFrz (fLst (eConsA (eTup (eConsA (e1 negP (eConst (.int 1))) (eConsA (eVar 14) eNilA))) eNilA))) eNilA)) (eConsA (eMakeR "Same" r_Same_init (eConsA (eFrz (fLst (eConsA (eTup (eConsA (eConst .non) (eConsA (eVar 14) eNilA))) eNilA))) eNilA)) (eConsA (eMakeR "Unlike" r_Unlike_init (eConsA (eConst .non) eNilA)) (eConsA (eMakeR "Unlike" r_Unlike_init (eConsA (eTup eNilA) eNilA)) (eConsA (eMakeR "Unlike" r_Unlike_init (eConsA (eConst (.int 5)) eNilA)) (eConsA (eMakeR "Unlike" r_Unlike_init (eConsA (eFrz (fLst (eConsA (eConst .non) eNilA))) eNilA)) (eConsA (eMakeR "Unlike" r_Unlike_init (eConsA (eFrz (fLst (eConsA (eConst (.str "A")) eNilA))) eNilA)) (eConsA (eMakeR "Paper" r_Paper_init (eConsA (eConst (.str "same")) (eConsA (eTup (eConsA (eTup (eConsA (eVar 13) (eConsA (eVar 14) eNilA))) eNilA)) eNilA))) (eConsA (eMakeR "Denial" r_Paper_init (eConsA (eConst (.str "unlike")) (eConsA (eTup (eConsA (eConst (.str "a")) eNilA)) eNilA))) (eConsA (eTup (eConsA (eTup (eConsA (eVar 13) (eConsA (eVar 14) eNilA))) eNilA)) eNilA))))))))))))))))))))) (gVar 10)) (sSeq (sIf (tOfB (eC2 neP (eFrz (fComp [27] (fSeq (eVar 10)) (gVar 27) (tOfB (eC2 notBP (eCall b_shows_same (eConsA (eVar 11) (eConsA (eVar 13) (eConsA (eVar 12) (eConsA (eVar 14) (eConsA (eVar 27) eNilA)))))) (eConst (.bool false)))) (eVar 27))) (eFrz (fLst eNilA)))) (sRet (eConst (.bool false))) sNext) (sIf (mOr (mAnd (tOfB (eC2 gtP (eVar 4) (eConst (.int 1)))) (mAnd (tOfB (eC2 eqP (eVar 6) (eVar 7))) (tOfB (eC2 notBP (eCall b_shows_same (eConsA (eVar 11) (eConsA (eConst (.int 1)) (eConsA (eVar 11) (eConsA (eConst (.int 1)) (eConsA (eMakeR "Same" r_Same_init (eConsA (eFrz (fComp [31] (fRng1 (eVar 4)) (gVar 31) tYesM (eTup (eConsA (eVar 31) (eConsA (eVar 31) eNilA))))) eNilA)) eNilA)))))) (eConst (.bool true)))))) (tOfB (eC2 notBP (eCall b_shows_same (eConsA (eVar 11) (eConsA (eConst (.int 1)) (eConsA (eVar 11) (eConsA (eConst (.int 1)) (eConsA (eMakeR "Same" r_Same_init (eConsA (eFrz (fComp [31] (fRng1 (eVar 4)) (gVar 31) tYesM (eTup (eConsA (eIf (tOfB (eC2 ltP (eVar 31) (eConst (.int 2)))) (eN boolP (eConsA (eVar 31) eNilA)) (eVar 31)) (eConsA (eVar 31) eNilA))))) eNilA)) eNilA)))))) (eConst (.bool false))))) (sRet (eConst (.bool false))) sNext)))))))))))
def m_law_p : SM := (sSeq (sAsg (eCall b_law_pen (eConsA (eVar 0) eNilA)) (gVar 1)) (sSeq (sAsg (eFrz (fLst (eConsA (eConst (.str "a")) (eConsA (eConst (.str "b")) (eConsA (eConst (.str "u")) eNilA))))) (gVar 2)) (sSeq (sFor (fRng1 (eConst (.int 8))) (gVar 3) m_law_w4) (sRet (eConst (.bool true))))))
theorem m_law_pe : m_law = m_law_p := rfl

structure Ctx where
  many : Int
  t : List (List Ans)
  u : List (List Ans)
  l : Nat
  m : Nat
  i : Int
  j : Int
structure CtxOk (c : Ctx) : Prop where
  lt : (c.t.length : Int) = c.many
  lu : (c.u.length : Int) = c.many
  lo : 2 ≤ c.many
  hi : c.many ≤ 5
  ht : TabOk c.t
  hu : TabOk c.u
  i0 : 0 ≤ c.i
  i1 : c.i < c.many
  j0 : 0 ≤ c.j
  j1 : c.j < c.many
def abuD : D := .lst [.str "a", .str "b", .str "u"]
def sgD (r : List Ans) : D := .lst (r.map fun a => .tup [.str a.1, toldD a.2.1])
def sigD (t u : List (List Ans)) : D := .lst [.lst (t.map sgD), .lst (u.map sgD)]
inductive LapEnv (c : Ctx) (p16 p17 p18 p20 : Slot) : DL.Env → Prop
  | mk (s0 s3 s5 s9 s10 s15 s19 s21 s22 s23 s24 s25 s26 s27 s28 s29 s30 s31 s32 : Slot) : LapEnv c p16 p17 p18 p20 [s0, .val (.loc 0), .val abuD, s3, .val (.int c.many), s5, .val (tabD c.t), .val (tabD c.u), .val (sigD c.t c.u), s9, s10, .val (.loc c.l), .val (.loc c.m), .val (.int c.i), .val (.int c.j), s15, p16, p17, p18, s19, p20, s21, s22, s23, s24, s25, s26, s27, s28, s29, s30, s31, s32]
def InR (c : Ctx) (ps : List PI2) : Prop := ∀ p ∈ ps, (0 ≤ p.1 ∧ p.1 < c.many) ∧ 0 ≤ p.2 ∧ p.2 < c.many
theorem len_le {α : Type} [DecidableEq α] : ∀ (l l' : List α), l.Nodup → (∀ x ∈ l, x ∈ l') → l.length ≤ l'.length
  | [], _, _, _ => Nat.zero_le _
  | x :: l, l', nd, sub => by
    rw [List.nodup_cons] at nd
    have hx := sub x List.mem_cons_self
    have := len_le l (l'.erase x) nd.2 fun y hy => (List.mem_erase_of_ne (fun e => nd.1 (by rw [← e]; exact hy))).mpr (sub y (List.mem_cons_of_mem _ hy))
    rw [List.length_erase_of_mem hx] at this
    have := List.length_pos_of_mem hx
    rw [List.length_cons]
    omega
def allPs : List PI2 := (List.range 5).flatMap fun (a : Nat) => (List.range 5).map fun (b : Nat) => ((a : Int), (b : Int))
theorem ps_len {c : Ctx} (ok : CtxOk c) {ps : List PI2} (nd : ps.Nodup) (h : InR c ps) : ps.length ≤ 25 := by
  have := len_le ps allPs nd fun p hp => by
    obtain ⟨⟨a, b⟩, d, e⟩ := h p hp
    have := ok.hi
    refine List.mem_flatMap.mpr ⟨p.1.toNat, List.mem_range.mpr (by omega), List.mem_map.mpr ⟨p.2.toNat, List.mem_range.mpr (by omega), ?_⟩⟩
    exact Prod.ext (by show ((p.1.toNat : Nat) : Int) = p.1; omega) (by show ((p.2.toNat : Nat) : Int) = p.2; omega)
  have e : allPs.length = 25 := by decide
  omega
theorem rg (c : Ctx) (ok : CtxOk c) {p : PI2} (h : (0 ≤ p.1 ∧ p.1 < c.many) ∧ 0 ≤ p.2 ∧ p.2 < c.many) : (0 ≤ p.1 ∧ p.1 < c.t.length) ∧ 0 ≤ p.2 ∧ p.2 < c.u.length := by
  rw [ok.lt, ok.lu]; exact h
theorem fit_prs {n : Nat} (ps : List PI2) : ∀ x ∈ ps.map prD, fit (n + 1) x = true := fit_map (fun p => fit_pr n p) ps
section
variable {c : Ctx} {st : Store}
/-- one pair looked at: what comes next is put behind -/
theorem bfs_inner (ok : CtxOk c) (T : D → Store → Prop) (B : DL.Env → Store → Prop) (C : DL.Env → Store → Prop) (b : Int) : ∀ (qs : List (Ans × Ans)) (ps : List PI2) (ρ : DL.Env), (∀ q ∈ qs, (0 ≤ q.1.2.2 ∧ q.1.2.2 < c.many) ∧ 0 ≤ q.2.2.2 ∧ q.2.2.2 < c.many) → ps.Nodup → InR c ps → (∃ p17 p18, LapEnv c (.own (ps.map prD)) p17 p18 (.val (.int b)) ρ) →
    (forL (gTupM (gsCons (gVar 24) (gsCons (gVar 25) gsNil))) m_law_w0 (qs.map fun q => .tup [ansD q.1, ansD q.2]) ρ st).wp (fun ρ' s => s = st ∧ ∃ ps' p17 p18, LapEnv c (.own (ps'.map prD)) p17 p18 (.val (.int b)) ρ' ∧ ps'.Nodup ∧ InR c ps' ∧ (∀ p ∈ ps, p ∈ ps')) T B C
  | [], ps, ρ, hq, nd, hr, he => by
    obtain ⟨p17, p18, he⟩ := he
    exact ⟨rfl, ps, p17, p18, he, nd, hr, fun _ h => h⟩
  | q :: qs, ps, ρ, hq, nd, hr, he => by
    obtain ⟨p17, p18, ⟨⟩⟩ := he
    have hlen := ps_len ok nd hr
    rw [List.map_cons]
    refine forL_cons_wp rfl ?_
    unfold m_law_w0
    walk_at "ev"
    unfold ansD
    walk_at "ev"
    rw [show D.tup [.int q.1.2.2, .int q.2.2.2] = prD (q.1.2.2, q.2.2.2) from rfl]
    rw [notInP_lst (fit_pr 59 _) (fit_prs ps), any_deq (fun _ _ => prD_inj) clean_pr]
    by_cases hm : (q.1.2.2, q.2.2.2) ∈ ps
    · simp only [hm]
      walk_at "ev"
      exact bfs_inner ok T B C b qs ps _ (fun x hx => hq x (List.mem_cons_of_mem _ hx)) nd hr ⟨_, _, .mk ..⟩
    · simp only [hm]
      walk_at "ev"
      rw [sAppend_own (xs := ps.map prD) _ rfl]
      walk_at "ev"
      rw [appendTo_own (xs := ps.map prD) rfl (by rw [List.length_map]; omega)]
      walk_at "ev"
      rw [show ps.map prD ++ [.tup [.int q.1.2.2, .int q.2.2.2]] = (ps ++ [(q.1.2.2, q.2.2.2)]).map prD by rw [List.map_append]; rfl]
      rw [wp_next]
      refine wps_mono (bfs_inner ok T B C b qs (ps ++ [(q.1.2.2, q.2.2.2)]) _ (fun x hx => hq x (List.mem_cons_of_mem _ hx)) ?_ ?_ ⟨_, _, .mk ..⟩) ?_ (fun _ _ h => h) (fun _ _ h => h) (fun _ _ h => h)
      · rw [List.nodup_append]
        refine ⟨nd, by simp, fun a ha b hb e => hm ?_⟩
        rw [List.mem_singleton] at hb
        rw [← hb, ← e]
        exact ha
      · intro p hp
        rcases List.mem_append.mp hp with hp | hp
        · exact hr p hp
        · rw [List.mem_singleton.mp hp]
          exact hq q List.mem_cons_self
      · rintro ρ' s ⟨h1, ps', p17, p18, h2, h3, h4, h5⟩
        exact ⟨h1, ps', p17, p18, h2, h3, h4, fun p hp => h5 p (List.mem_append_left _ hp)⟩
end
end Law_k63
end
section
open PySem PySem.Spec PyProof.Rows L2 DL
namespace Law_k63
section
variable {c : Ctx} {st : Store}
theorem later_in {c : Ctx} (ok : CtxOk c) {t : List (List Ans)} (ht : TabOk t) (e : (t.length : Int) = c.many) {i : Int} (h : 0 ≤ i) (h2 : i < t.length) : ∀ a ∈ rowAt t i, 0 ≤ a.2.2 ∧ a.2.2 < c.many := fun a ha => by
  have z := (ht.ok _ (rowAt_mem h h2)).ok a ha
  rw [← e]
  exact ⟨z.lo, z.hi⟩
theorem ix_pr0 (p : PI2) : ixP (prD p) (.int 0) st = some (.int p.1) := rfl
theorem ix_pr1 (p : PI2) : ixP (prD p) (.int 1) st = some (.int p.2) := rfl
theorem ix_tab {t : List (List Ans)} {i : Int} (h : 0 ≤ i) (h2 : i < t.length) : ixP (tabD t) (.int i) st = some (rowD (rowAt t i)) := atI_tab t h h2
theorem zipD_row (r s : List Ans) : zipD (rowD r) (rowD s) = some ((r.zip s).map fun q => .tup [ansD q.1, ansD q.2]) := by
  show some (zipL _ _) = _
  rw [zip_rows]
structure BfsInv (c : Ctx) (st : Store) (k : Nat) (ρ : DL.Env) (s : Store) : Prop where
  es : s = st
  ex : ∃ (ps : List PI2) (b : Int) (p17 p18 : Slot), b + k = 25 ∧ 0 ≤ b ∧ LapEnv c (.own (ps.map prD)) p17 p18 (.val (.int b)) ρ ∧ ps.Nodup ∧ InR c ps ∧ (c.i, c.j) ∈ ps
structure BfsEnd (c : Ctx) (st : Store) (ρ : DL.Env) (s : Store) : Prop where
  es : s = st
  ex : ∃ (ps : List PI2) (p17 p18 p20 : Slot), LapEnv c (.own (ps.map prD)) p17 p18 p20 ρ ∧ ps.Nodup ∧ InR c ps ∧ (c.i, c.j) ∈ ps
theorem bfs (ok : CtxOk c) (T : D → Store → Prop) (B : DL.Env → Store → Prop) (C : DL.Env → Store → Prop) (ρ : DL.Env) (hi : BfsInv c st 25 ρ st) :
    (whileL (tOfB (eC2 ltP (eVar 20) (eN lenP (eConsA (eOwn 16) eNilA)))) m_law_w1 100000 ρ st).wp (BfsEnd c st) T B C := by
  refine whileL_wp (BfsInv c st) ?_ 100000 25 ρ st (by omega) hi
  rintro k ρ s ⟨rfl, ps, b, p17, p18, hk, hb, ⟨⟩, nd, hr, hm⟩
  have hlen := ps_len ok nd hr
  walk_at "ew"
  rw [List.length_map]
  by_cases hlt : b < (ps.length : Int)
  · simp only [hlt, decide_true, if_true]
    refine ⟨k - 1, by omega, ?_⟩
    unfold m_law_w1
    walk_at "ew"
    have hb2 : b.toNat < ps.length := by omega
    rw [atI_map prD (0, 0) ps hb hlt]
    have hp : ps.getD b.toNat (0, 0) ∈ ps := by
      rw [List.getD_eq_getElem?_getD, List.getElem?_eq_getElem hb2, Option.getD_some]
      exact List.getElem_mem _
    generalize hpe : ps.getD b.toNat (0, 0) = p at *
    walk_at "ew"
    rw [ix_pr0]
    walk_at "ew"
    obtain ⟨⟨r1, r2⟩, r3, r4⟩ := rg c ok (hr p hp)
    rw [ix_tab r1 r2]
    walk_at "ew"
    rw [atI_map prD (0, 0) ps hb hlt]
    rw [hpe]
    walk_at "ew"
    rw [ix_pr1]
    walk_at "ew"
    rw [ix_tab r3 r4]
    walk_at "ew"
    rw [zipD_row]
    walk_at "ew"
    refine wp_then (wps_mono (bfs_inner ok _ _ _ b _ ps _ (fun q hq => ?_) nd hr ⟨_, _, .mk ..⟩) ?_ (fun _ _ h => h) (fun _ _ h => h) (fun _ _ h => h))
    · have := List.of_mem_zip hq
      exact ⟨later_in ok ok.ht ok.lt r1 r2 _ this.1, later_in ok ok.hu ok.lu r3 r4 _ this.2⟩
    · rintro ρ' s' ⟨rfl, ps', q17, q18, ⟨⟩, nd', hr', hs'⟩
      walk_at "ew"
      exact ⟨rfl, ps', b + 1, _, _, by omega, by omega, .mk .., nd', hr', hs' _ hm⟩
  · simp only [hlt, decide_false, Bool.false_eq_true, if_false]
    exact ⟨rfl, ps, _, _, _, .mk .., nd, hr, hm⟩
end
end Law_k63
end
section
open PySem PySem.Spec PyProof.Rows L2 DL
namespace Law_k63
section
variable {c : Ctx} {st : Store}
theorem pairsD_map : ∀ ps : List PI2, pairsD ((ps.map prD).map fun d => .tup [d, .bool true]) = some (ps.map fun p => (prD p, .bool true))
  | [] => rfl
  | p :: ps => by
    simp only [List.map_cons, pairsD, pairsD_map ps]
    rfl
theorem dict_len (ps : List PI2) : ∃ d, dictP [.lst ((ps.map prD).map fun d => .tup [d, .bool true])] st = some d ∧ lenDP [d] st = some (.int (foldT (ps.map prD)).length) := by
  have e : dictP [.lst ((ps.map prD).map fun d => .tup [d, .bool true])] st = (pairsD ((ps.map prD).map fun d => .tup [d, .bool true])).bind fun ps => if (ps.all fun p => (kD p.1).isSome) = true then some (.dic (ps.foldl (fun acc p => putKD acc p.1 p.2) [])) else if (ps.all fun p => isTK p.1) = true then some (.dit (ps.foldl (fun acc p => putTD acc p.1 p.2) [])) else none := rfl
  rw [e, pairsD_map, Option.bind_some]
  cases ps with
  | nil => exact ⟨_, rfl, rfl⟩
  | cons p ps =>
    rw [if_neg (by intro z; exact absurd z (by simp [prD, kD])), if_pos (by rw [List.all_map]; exact List.all_eq_true.mpr fun _ _ => rfl)]
    refine ⟨_, rfl, ?_⟩
    show some (D.int _) = _
    unfold foldT
    rw [List.foldl_map, List.foldl_map]
theorem deq_lt (xs ys : List D) : deq (.lst xs) (.lst ys) = deq (.tup xs) (.tup ys) := by
  simp only [deq, toPy, PyData.eqv]
theorem fit_sg (r : List Ans) : fit 60 (sgD r) = true := by
  refine fit_lst 59 fun d hd => ?_
  obtain ⟨a, _, rfl⟩ := List.mem_map.mp hd
  refine fit_tup 58 fun e he => ?_
  simp only [List.mem_cons, List.not_mem_nil, or_false] at he
  rcases he with rfl | rfl
  · exact fit_str _ _
  · exact fit_told 57 _
theorem ix_sig0 (t u : List (List Ans)) : ixP (sigD t u) (.int 0) st = some (.lst (t.map sgD)) := rfl
theorem ix_sig1 (t u : List (List Ans)) : ixP (sigD t u) (.int 1) st = some (.lst (u.map sgD)) := rfl
theorem ix_sg {t : List (List Ans)} {i : Int} (h : 0 ≤ i) (h2 : i < t.length) : atI (t.map sgD) i = some (sgD (rowAt t i)) := atI_map sgD [] t h h2
structure DueInv (c : Ctx) (ps : List PI2) (st : Store) (b0 : Bool) (rest : List D) (ρ : DL.Env) (s : Store) : Prop where
  es : s = st
  ex : ∃ (qs : List PI2) (b : Bool) (p18 p20 : Slot), rest = qs.map prD ∧ (∀ q ∈ qs, q ∈ ps) ∧ (b0 && ps.all (good c.t c.u ps)) = (b && qs.all (good c.t c.u ps)) ∧ LapEnv c (.val (.lst (ps.map prD))) (.val (.bool b)) p18 p20 ρ
structure DueEnd (c : Ctx) (ps : List PI2) (st : Store) (b0 : Bool) (ρ : DL.Env) (s : Store) : Prop where
  es : s = st
  ex : ∃ (p18 p20 : Slot), LapEnv c (.val (.lst (ps.map prD))) (.val (.bool (b0 && ps.all (good c.t c.u ps)))) p18 p20 ρ
theorem due (ok : CtxOk c) {ps : List PI2} (hr : InR c ps) (b0 : Bool) (T : D → Store → Prop) (B : DL.Env → Store → Prop) (C : DL.Env → Store → Prop) (ρ : DL.Env) (hi : ∃ p18 p20, LapEnv c (.val (.lst (ps.map prD))) (.val (.bool b0)) p18 p20 ρ) :
    (forL (gTupM (gsCons (gVar 21) (gsCons (gVar 22) gsNil))) m_law_w2 (ps.map prD) ρ st).wp (DueEnd c ps st b0) T B C := by
  refine forL_wp (DueInv c ps st b0) ?_ ?_ _ _ _ ?_
  · rintro x xs ρ s ⟨rfl, qs, b, p18, p20, e, hsub, hall, ⟨⟩⟩
    cases qs with
    | nil => cases e
    | cons q qs =>
      rw [List.map_cons] at e
      injection e with e1 e2
      subst e1 e2
      refine ⟨_, rfl, ?_⟩
      obtain ⟨⟨r1, r2⟩, r3, r4⟩ := rg c ok (hr q (hsub q List.mem_cons_self))
      have hsub' : ∀ p ∈ qs, p ∈ ps := fun p hp => hsub p (List.mem_cons_of_mem _ hp)
      unfold m_law_w2
      walk_at "ew"
      rw [List.all_cons] at hall
      cases b with
      | false =>
        walk_at "ew"
        exact ⟨rfl, qs, false, _, _, rfl, hsub', by rw [hall]; rfl, .mk ..⟩
      | true =>
        walk_at "ew"
        rw [ix_sig0]
        walk_at "ew"
        rw [ix_sg r1 r2]
        walk_at "ew"
        rw [ix_sig1]
        walk_at "ew"
        rw [ix_sg r3 r4]
        walk_at "ew"
        rw [eqP_fit (fit_sg _) (fit_sg _)]
        walk_at "ew"
        have ed : deq (sgD (rowAt c.t q.1)) (sgD (rowAt c.u q.2)) = deq (sgnD (rowAt c.t q.1)) (sgnD (rowAt c.u q.2)) := deq_lt _ _
        rw [ed]
        have hg : good c.t c.u ps q = (deq (sgnD (rowAt c.t q.1)) (sgnD (rowAt c.u q.2)) && (((rowAt c.t q.1).zip (rowAt c.u q.2)).all fun q => decide ((q.1.2.2, q.2.2.2) ∈ ps))) := rfl
        cases hd : deq (sgnD (rowAt c.t q.1)) (sgnD (rowAt c.u q.2)) with
        | false =>
          rw [hd, Bool.false_and] at hg
          walk_at "ew"
          exact ⟨rfl, qs, false, _, _, rfl, hsub', by rw [hall, hg]; rfl, .mk ..⟩
        | true =>
          rw [hd, Bool.true_and] at hg
          walk_at "ew"
          rw [ix_tab r1 r2]
          walk_at "ew"
          rw [ix_tab r3 r4]
          walk_at "ew"
          rw [zipD_row]
          walk_at "ew"
          have l1 := (ok.ht.ok _ (rowAt_mem r1 r2)).len
          rw [compK_pure (fun d => !(ps.map prD).any fun y => deq y (laterOf d)) (fun _ => .int 1) (fun x hx => by
            obtain ⟨p, hp0, rfl⟩ := List.mem_map.mp hx
            refine ⟨_, rfl, ?_, fun _ => ?_⟩
            · unfold ansD
              walk_at "ev"
              rw [show D.tup [.int p.1.2.2, .int p.2.2.2] = prD (p.1.2.2, p.2.2.2) from rfl, notInP_lst (fit_pr 59 (p.1.2.2, p.2.2.2)) (fit_prs ps)]
              rfl
            · walk_at "ev") (by rw [List.length_map, List.length_zip]; omega)]
          walk_at "ew"
          rw [eqP_nil (fun x hx => by
            obtain ⟨p, _, rfl⟩ := List.mem_map.mp hx
            rfl)]
          walk_at "ew"
          have ee : (((((rowAt c.t q.1).zip (rowAt c.u q.2)).map fun q => D.tup [ansD q.1, ansD q.2]).filter fun d => !(ps.map prD).any fun y => deq y (laterOf d)).map fun _ => D.int 1).isEmpty = ((rowAt c.t q.1).zip (rowAt c.u q.2)).all fun q => decide ((q.1.2.2, q.2.2.2) ∈ ps) := by
            rw [List.isEmpty_map, Bool.eq_iff_iff, List.isEmpty_iff, List.filter_eq_nil_iff, List.all_eq_true]
            have key : ∀ p : Ans × Ans, ((ps.map prD).any fun y => deq y (laterOf (.tup [ansD p.1, ansD p.2]))) = decide ((p.1.2.2, p.2.2.2) ∈ ps) := fun p => (any_deq (fun _ _ => prD_inj) clean_pr (p.1.2.2, p.2.2.2) ps).trans (decide_eq_decide.mpr Iff.rfl)
            constructor
            · intro h p hp
              have := h _ (List.mem_map_of_mem hp)
              rw [key] at this
              simpa using this
            · rintro h x hx
              obtain ⟨p, hp, rfl⟩ := List.mem_map.mp hx
              rw [key]
              have := h p hp
              simpa using this
          rw [ee, ← hg]
          exact ⟨rfl, qs, _, _, _, rfl, hsub', by rw [hall, Bool.true_and], .mk ..⟩
  · rintro ρ s ⟨rfl, qs, b, p18, p20, e, hsub, hall, h⟩
    cases qs with
    | cons _ _ => cases e
    | nil =>
      rw [List.all_nil, Bool.and_true] at hall
      rw [← hall] at h
      exact ⟨rfl, _, _, h⟩
  · obtain ⟨p18, p20, h⟩ := hi
    exact ⟨rfl, ps, b0, p18, p20, rfl, fun _ h => h, rfl, h⟩
end
end Law_k63
end
section
open PySem PySem.Spec PyProof.Rows L2 DL
namespace Law_k63
section
variable {c : Ctx} {rest : Store}
theorem map_erase {α β : Type} (f : α → β) : ∀ (xs : List α) (i : Nat), (xs.map f).eraseIdx i = (xs.eraseIdx i).map f
  | [], _ => rfl
  | _ :: _, 0 => rfl
  | x :: xs, i + 1 => by
    rw [List.map_cons, List.eraseIdx_cons_succ, List.eraseIdx_cons_succ, List.map_cons, map_erase f xs i]
structure HasH (c : Ctx) (rest : Store) : Prop where
  h1 : ∃ k, c.l = k + 1 ∧ rest[k]? = some (hearerO c.t)
  h2 : ∃ k, c.m = k + 1 ∧ rest[k]? = some (hearerO c.u)
theorem HasH.ext (h : HasH c rest) (e : Store) : HasH c (rest ++ e) := by
  obtain ⟨⟨k, e1, h1⟩, ⟨k2, e2, h2⟩⟩ := h
  refine ⟨⟨k, e1, ?_⟩, ⟨k2, e2, ?_⟩⟩
  · rw [List.getElem?_append_left (List.getElem?_eq_some_iff.mp h1).1]; exact h1
  · rw [List.getElem?_append_left (List.getElem?_eq_some_iff.mp h2).1]; exact h2
theorem HasH.l (h : HasH c rest) (o : O) : (o :: rest)[c.l]? = some (hearerO c.t) := by
  obtain ⟨k, e1, h1⟩ := h.h1
  rw [e1, List.getElem?_cons_succ]; exact h1
theorem HasH.m (h : HasH c rest) (o : O) : (o :: rest)[c.m]? = some (hearerO c.u) := by
  obtain ⟨k, e1, h1⟩ := h.h2
  rw [e1, List.getElem?_cons_succ]; exact h1
structure PrsMid (c : Ctx) (n : Nat) (rest : Store) (ρ : DL.Env) (s : Store) : Prop where
  ex : ∃ (ps : List PI2) (o : O) (p17 p18 p20 : Slot), s = o :: rest ∧ Pen n o ∧ InR c ps ∧ ps.length ≤ 30 ∧ LapEnv c (.own (ps.map prD)) p17 p18 p20 ρ
structure LapEnd (c : Ctx) (n : Nat) (rest : Store) (ρ : DL.Env) (s : Store) : Prop where
  ex : ∃ (o : O) (e : Store) (p16 p17 p18 p20 : Slot), s = o :: (rest ++ e) ∧ Pen n o ∧ LapEnv c p16 p17 p18 p20 ρ
theorem fix_prs (ps : List PI2) : fixN 10 (.lst (ps.map prD)) = .tup (ps.map prD) := by
  show D.tup ((ps.map prD).map (fixN 9)) = _
  rw [List.map_map]
  rfl
theorem fix_strs (ps : List Str) : fixN 10 (.lst (ps.map .str)) = .tup (ps.map .str) := by
  show D.tup ((ps.map D.str).map (fixN 9)) = _
  rw [List.map_map]
  rfl
theorem sm_prs (n : Nat) {ps : List PI2} (h : ps.length ≤ 16777216) : sm (n + 2) (.lst (ps.map prD)) = true := sm_lst (by rw [List.length_map]; exact h) fun d hd => by
  obtain ⟨p, _, rfl⟩ := List.mem_map.mp hd
  exact sm_pr n p
theorem sm_strs (n : Nat) {ps : List Str} (h : ps.length ≤ 16777216) : sm (n + 2) (.lst (ps.map .str)) = true := sm_lst (by rw [List.length_map]; exact h) fun d hd => by
  obtain ⟨p, _, rfl⟩ := List.mem_map.mp hd
  exact sm_str _ p
theorem pairs_chain (ok : CtxOk c) {n : Nat} {o : O} (hp : Pen n o) (hn : n ≤ 900000) {ps : List PI2} (nd : ps.Nodup) (hr : InR c ps) (hm : (c.i, c.j) ∈ ps) (ρ : DL.Env) (he : ∃ p17 p18 p20, LapEnv c (.own (ps.map prD)) p17 p18 p20 ρ)
    (T : D → Store → Prop) (B : DL.Env → Store → Prop) (C : DL.Env → Store → Prop) :
    (sSeq (sAsg (eCall b_law_draw (eConsA (eVar 1) (eConsA (eConst (.int 6)) eNilA))) (gVar 15)) (sIf (tOfB (eC2 eqP (eVar 15) (eConst (.int 0)))) (sExprX (xPopAt 16 (eCall b_law_draw (eConsA (eVar 1) (eConsA (eN lenP (eConsA (eOwn 16) eNilA)) eNilA))))) (sIf (tOfB (eC2 eqP (eVar 15) (eConst (.int 1)))) (sAppend 16 (eCall b_law_pick_b (eConsA (eVar 1) (eConsA (eOwn 16) eNilA)))) (sIf (tOfB (eC2 eqP (eVar 15) (eConst (.int 2)))) (sAppend 16 (eTup (eConsA (eCall b_law_draw (eConsA (eVar 1) (eConsA (eVar 4) eNilA))) (eConsA (eCall b_law_draw (eConsA (eVar 1) (eConsA (eVar 4) eNilA))) eNilA)))) (sIf (tOfB (eC2 eqP (eVar 15) (eConst (.int 3)))) (sOwn 16 (fComp [21] (fRng1 (eVar 4)) (gVar 21) tYesM (eTup (eConsA (eVar 21) (eConsA (eVar 21) eNilA))))) sNext)))) ρ (o :: rest)).wp (PrsMid c (n + 3) rest) T B C := by
  obtain ⟨p17, p18, p20, ⟨⟩⟩ := he
  have hlen := ps_len ok nd hr
  have hpos := List.length_pos_of_mem hm
  have hlo := ok.lo
  have hhi := ok.hi
  walk_at "ew"
  obtain ⟨w, o1, e, w0, w1, hp1⟩ := p_draw (rest := rest) hp (by omega) (many := 6) (by omega) (by omega)
  rw [e]
  walk_at "ew"
  by_cases c0 : w = 0
  · simp only [c0, decide_true]
    walk_at "ew"
    rw [xPopAt_own (xs := ps.map prD) _ rfl]
    walk_at "ew"
    obtain ⟨i, o2, e2, i0, i1, hp2⟩ := p_draw (rest := rest) hp1 (by omega) (many := ((ps.map prD).length : Int)) (by rw [List.length_map]; omega) (by rw [List.length_map]; omega)
    rw [e2]
    walk_at "ew"
    rw [List.length_map] at i1
    rw [show i = ((i.toNat : Nat) : Int) by omega, popAt_nat (by rw [List.length_map]; omega) (by rw [List.length_map]; omega)]
    walk_at "ew"
    have ee : (ps.map prD).eraseIdx i.toNat = (ps.eraseIdx i.toNat).map prD := map_erase _ ps _
    rw [ee]
    refine ⟨ps.eraseIdx i.toNat, o2, _, _, _, rfl, hp2.up (by omega), fun p hp => hr p (List.mem_of_mem_eraseIdx hp), ?_, .mk ..⟩
    have := List.length_eraseIdx_le ps i.toNat
    omega
  simp only [c0, decide_false]
  walk_at "ew"
  by_cases c1 : w = 1
  · simp only [c1, decide_true]
    walk_at "ew"
    rw [sAppend_own (xs := ps.map prD) _ rfl]
    walk_at "ew"
    obtain ⟨x, o2, e2, hx, hp2⟩ := p_pick_b (rest := rest) hp1 (by omega) (xs := ps.map prD) (by rw [List.length_map]; omega) (by rw [List.length_map]; omega)
    rw [e2]
    walk_at "ew"
    obtain ⟨p, hp0, rfl⟩ := List.mem_map.mp hx
    rw [appendTo_own (xs := ps.map prD) rfl (by rw [List.length_map]; omega)]
    walk_at "ew"
    have ee : ps.map prD ++ [prD p] = (ps ++ [p]).map prD := by rw [List.map_append]; rfl
    rw [ee]
    refine ⟨ps ++ [p], o2, _, _, _, rfl, hp2.up (by omega), ?_, by rw [List.length_append, List.length_singleton]; omega, .mk ..⟩
    intro q hq
    rcases List.mem_append.mp hq with hq | hq
    · exact hr q hq
    · rw [List.mem_singleton.mp hq]; exact hr p hp0
  simp only [c1, decide_false]
  walk_at "ew"
  by_cases c2 : w = 2
  · simp only [c2, decide_true]
    walk_at "ew"
    rw [sAppend_own (xs := ps.map prD) _ rfl]
    walk_at "ew"
    obtain ⟨i, o2, e2, i0, i1, hp2⟩ := p_draw (rest := rest) hp1 (by omega) (many := c.many) (by omega) (by omega)
    rw [e2]
    walk_at "ew"
    obtain ⟨j, o3, e3, j0, j1, hp3⟩ := p_draw (rest := rest) hp2 (by omega) (many := c.many) (by omega) (by omega)
    rw [e3]
    walk_at "ew"
    rw [appendTo_own (xs := ps.map prD) rfl (by rw [List.length_map]; omega)]
    walk_at "ew"
    have ee : ps.map prD ++ [.tup [.int i, .int j]] = (ps ++ [(i, j)]).map prD := by rw [List.map_append]; rfl
    rw [ee]
    refine ⟨ps ++ [(i, j)], o3, _, _, _, rfl, hp3.up (by omega), ?_, by rw [List.length_append, List.length_singleton]; omega, .mk ..⟩
    intro q hq
    rcases List.mem_append.mp hq with hq | hq
    · exact hr q hq
    · rw [List.mem_singleton.mp hq]; exact ⟨⟨i0, i1⟩, j0, j1⟩
  simp only [c2, decide_false]
  walk_at "ew"
  by_cases c3 : w = 3
  · simp only [c3, decide_true]
    walk_at "ew"
    rw [rng1_eq (by omega) (by omega)]
    walk_at "ew"
    have hdl : (intsD 0 c.many.toNat).length = c.many.toNat := by simp [intsD]
    rw [compK_all (fun d => .tup [d, d]) (fun x hx => by
      refine ⟨_, rfl, ?_⟩
      walk_at "ev") (by omega)]
    walk_at "ew"
    have ee : (intsD 0 c.many.toNat).map (fun d => D.tup [d, d]) = ((List.range c.many.toNat).map fun (k : Nat) => ((k : Int), (k : Int))).map prD := by
      unfold intsD
      rw [List.map_map, List.map_map]
      refine List.map_congr_left fun k _ => ?_
      show D.tup [.int (0 + (k : Int)), .int (0 + (k : Int))] = .tup [.int k, .int k]
      rw [Int.zero_add]
    rw [ee]
    refine ⟨_, o1, _, _, _, rfl, hp1.up (by omega), ?_, by simp; omega, .mk ..⟩
    intro q hq
    obtain ⟨k, hk, rfl⟩ := List.mem_map.mp hq
    have := List.mem_range.mp hk
    exact ⟨⟨by omega, by omega⟩, by omega, by omega⟩
  simp only [c3, decide_false]
  walk_at "ew"
  exact ⟨ps, o1, _, _, _, rfl, hp1.up (by omega), hr, by omega, .mk ..⟩
end
end Law_k63
end
section
open PySem PySem.Spec PyProof.Rows L2 DL
namespace Law_k63
section
variable {c : Ctx} {rest : Store}
theorem seq_assoc {ρ : DL.Env} {st : Store} (f g h : SM) : sSeq f (sSeq g h) ρ st = (sSeq f g ρ st).then h := by
  unfold sSeq
  cases f ρ st <;> rfl
def unD : D → PI2
  | .tup [.int a, .int b] => (a, b)
  | _ => (0, 0)
theorem perm_prs {ys : List D} {ps : List PI2} (h : ys.Perm (ps.map prD)) : ∃ qs : List PI2, ys = qs.map prD ∧ qs.Perm ps := by
  refine ⟨ys.map unD, ?_, ?_⟩
  · rw [List.map_map]
    have : ∀ y ∈ ys, (prD ∘ unD) y = y := fun y hy => by
      obtain ⟨p, _, rfl⟩ := List.mem_map.mp (h.mem_iff.mp hy)
      rfl
    rw [List.map_congr_left this, List.map_id']
  · have z := h.map unD
    rw [List.map_map] at z
    have e : ps.map (unD ∘ prD) = ps := by
      have : ∀ p ∈ ps, (unD ∘ prD) p = p := fun _ _ => rfl
      rw [List.map_congr_left this, List.map_id']
    rw [e] at z
    exact z
def nq : List Str := ["a", "b", "u", "q"]
theorem nq_names : ∀ s ∈ nq, ∀ st, b_is_name [.str s] st = .ok (.bool true) st := by
  intro s hs st
  simp only [nq, List.mem_cons, List.not_mem_nil, or_false] at hs
  rcases hs with rfl | rfl | rfl | rfl
  · exact p_is_name_a
  · exact p_is_name_b
  · exact p_is_name_u
  · exact p_is_name_q
theorem pick_names {ρ : DL.Env} (h1 : ρ[1]? = some (.val (.loc 0))) (h2 : ρ[2]? = some (.val abuD)) {n : Nat} {o : O} (hp : Pen n o) (xs : List D) (hn : n + xs.length ≤ 900000) (hx : xs.length ≤ 1000) :
    (compK [26] (gVar 26) tYesM (eCall b_law_pick (eConsA (eVar 1) (eConsA (eFrz (fCat (eVar 2) (eFrz (fLst (eConsA (eConst (.str "q")) eNilA))))) eNilA))) ρ xs (o :: rest)).wp fun ys s => ∃ (ns : List Str) (o' : O), ys = ns.map .str ∧ s = o' :: rest ∧ ns.length = xs.length ∧ (∀ q ∈ ns, q ∈ nq) ∧ Pen (n + xs.length) o' := by
  unfold compK
  refine noX_wp (compL_wp (fun left acc s => ∃ (ns : List Str) (o' : O), acc = ns.map .str ∧ s = o' :: rest ∧ ns.length + left.length = xs.length ∧ (∀ q ∈ ns, q ∈ nq) ∧ Pen (n + ns.length) o') ?_ ?_ _ _ _ ?_)
  · rintro x left acc s ⟨ns, o', rfl, rfl, hl, hq, hp'⟩
    rw [List.length_cons] at hl
    refine ⟨by rw [List.length_map]; omega, _, rfl, ?_⟩
    walk_at "ew"
    have g1 : ((ρ.set 26 .none).set 26 (.val x))[1]? = some (.val (.loc 0)) := by
      rw [List.getElem?_set_ne (by omega), List.getElem?_set_ne (by omega), h1]
    have g2 : ((ρ.set 26 .none).set 26 (.val x))[2]? = some (.val abuD) := by
      rw [List.getElem?_set_ne (by omega), List.getElem?_set_ne (by omega), h2]
    rw [g1]
    walk_at "ew"
    rw [g2]
    walk_at "ew"
    have ec : catS abuD (.lst [.str "q"]) (o' :: rest) = some (nq.map .str) := rfl
    rw [ec]
    walk_at "ew"
    obtain ⟨y, o2, e2, hy, hp2⟩ := p_pick (rest := rest) hp' (by omega) (xs := nq.map .str) (by decide) (by decide)
    rw [e2]
    obtain ⟨q, hq0, rfl⟩ := List.mem_map.mp hy
    walk_at "ew"
    refine ⟨ns ++ [q], o2, by rw [List.map_append]; rfl, rfl, by rw [List.length_append, List.length_singleton]; omega, ?_, by rw [List.length_append, List.length_singleton]; exact hp2⟩
    intro z hz
    rcases List.mem_append.mp hz with hz | hz
    · exact hq z hz
    · rw [List.mem_singleton.mp hz]; exact hq0
  · rintro acc s ⟨ns, o', rfl, rfl, hl, hq, hp'⟩
    rw [List.length_nil] at hl
    refine ⟨ns, o', rfl, rfl, by omega, hq, ?_⟩
    rw [← hl]; exact hp'
  · exact ⟨[], o, rfl, rfl, by simp, by simp, hp⟩
structure DMid (c : Ctx) (qs : List PI2) (b : Bool) (st : Store) (ρ : DL.Env) (s : Store) : Prop where
  es : s = st
  ex : ∃ p18 p20, LapEnv c (.val (.lst (qs.map prD))) (.val (.bool b)) p18 p20 ρ
theorem lap (ok : CtxOk c) {n : Nat} {o : O} (hp : Pen n o) (hn : n ≤ 800000) (hh : HasH c rest) (ρ : DL.Env) (he : ∃ p16 p17 p18 p20, LapEnv c p16 p17 p18 p20 ρ)
    (T : D → Store → Prop) (B : DL.Env → Store → Prop) (C : DL.Env → Store → Prop) : (m_law_w3 ρ (o :: rest)).wp (LapEnd c (n + 50) rest) T B C := by
  obtain ⟨p16, p17, p18, p20, ⟨⟩⟩ := he
  have hlo := ok.lo
  have hhi := ok.hi
  unfold m_law_w3
  walk_at "ew"
  refine wp_then (wps_mono (bfs ok _ _ _ _ ⟨rfl, [(c.i, c.j)], 0, _, _, by omega, by omega, .mk .., by simp, ?_, by simp⟩) ?_ (fun _ _ h => h) (fun _ _ h => h) (fun _ _ h => h))
  · intro p hp
    rw [List.mem_singleton.mp hp]
    exact ⟨⟨ok.i0, ok.i1⟩, ok.j0, ok.j1⟩
  rintro ρ s ⟨rfl, ps, p17, p18, p20, henv, nd, hr, hm⟩
  show (sSeq _ (sSeq _ _) _ _).wp _ _ _ _
  rw [seq_assoc]
  refine wp_then (wps_mono (pairs_chain ok hp (by omega) nd hr hm _ ⟨_, _, _, henv⟩ _ _ _) ?_ (fun _ _ h => h) (fun _ _ h => h) (fun _ _ h => h))
  clear henv nd hr hm
  rintro ρ s ⟨ps, o1, p17, p18, p20, rfl, hp1, hr, hl, ⟨⟩⟩
  walk_at "ew"
  obtain ⟨ys, o2, e2, perm, hp2⟩ := p_mixed_b (rest := rest) hp1 (xs := ps.map prD) (by rw [List.length_map]; omega) (by rw [List.length_map]; omega) (fit_prs (n := 58) ps)
  rw [e2]
  obtain ⟨qs, rfl, permq⟩ := perm_prs perm
  have hrq : InR c qs := fun q hq => hr q (permq.mem_iff.mp hq)
  have hlq : qs.length ≤ 30 := by rw [permq.length_eq]; exact hl
  have hp2 := hp2.up (show n + 3 + (ps.map prD).length ≤ n + 33 by rw [List.length_map]; omega)
  clear perm permq hl hr e2
  walk_at "ew"
  rw [show D.tup [.int c.i, .int c.j] = prD (c.i, c.j) from rfl, inP_lst (fit_pr 59 _) (fit_prs (n := 59) qs), any_deq (fun _ _ => prD_inj) clean_pr]
  walk_at "ew"
  obtain ⟨dd, ed1, ed2⟩ := dict_len (st := o2 :: rest) qs
  refine wp_then (wps_mono (N := DMid c qs (decide ((c.i, c.j) ∈ qs) && decide (((foldT (qs.map prD)).length : Int) = (qs.length : Int))) (o2 :: rest)) ?_ ?_ (fun _ _ h => h) (fun _ _ h => h) (fun _ _ h => h))
  · by_cases hm : (c.i, c.j) ∈ qs
    · simp only [hm]
      walk_at "ew"
      rw [compK_all (fun d => .tup [d, .bool true]) (fun x hx => by
        refine ⟨_, rfl, ?_⟩
        walk_at "ev") (by rw [List.length_map]; omega)]
      walk_at "ew"
      rw [ed1]
      walk_at "ew"
      rw [ed2]
      walk_at "ew"
      rw [List.length_map]
      exact ⟨rfl, _, _, .mk ..⟩
    · simp only [hm]
      walk_at "ew"
      exact ⟨rfl, _, _, .mk ..⟩
  rintro ρ s ⟨rfl, p18, p20, ⟨⟩⟩
  walk_at "ew"
  refine wp_then (wps_mono (due ok hrq _ _ _ _ _ ⟨_, _, .mk ..⟩) ?_ (fun _ _ h => h) (fun _ _ h => h) (fun _ _ h => h))
  rintro ρ s ⟨rfl, p18, p20, ⟨⟩⟩
  have eD : dueB c.t c.u c.i c.j qs = (decide ((c.i, c.j) ∈ qs) && decide (((foldT (qs.map prD)).length : Int) = (qs.length : Int)) && qs.all (good c.t c.u qs)) := rfl
  rw [← eD]
  walk_at "ew"
  rw [p_make_same (sm_prs 8 (by omega))]
  walk_at "ew"
  have hh2 := hh.ext [sameO (.lst (qs.map prD))]
  have lt2 := ok.lt
  have lu2 := ok.lu
  have i0 := ok.i0
  have i1 := ok.i1
  have j0 := ok.j0
  have j1 := ok.j1
  rw [p_shows_same (hh2.l o2) (hh2.m o2) i0 (by omega) j0 (by omega) (d := .lst (qs.map prD)) (by simp) (b := dueB c.t c.u c.i c.j qs) (by
    rw [fix_prs]
    exact p_are_same (hh2.l o2) (hh2.m o2) ok.ht ok.hu (fun p hp => rg c ok (hrq p hp)) (by omega))]
  walk_at "ew"
  obtain ⟨k, o3, e3, k0, k1, hp3⟩ := p_draw (rest := rest ++ [sameO (.lst (qs.map prD))]) hp2 (by omega) (many := 5) (by omega) (by omega)
  rw [e3]
  walk_at "ew"
  rw [rng1_eq (by omega) (by omega)]
  walk_at "ew"
  have hkl : (intsD 0 k.toNat).length = k.toNat := by simp [intsD]
  refine wp_then (wp_rthen (wp_bind (wp_mono (pick_names rfl rfl hp3 _ (by omega) (by omega)) ?_)))
  rintro zs s ⟨ns, o4, rfl, rfl, hnl, hnq, hp4⟩
  walk_at "ew"
  rw [p_make_unlike (sm_strs 8 (by omega))]
  walk_at "ew"
  have hh3 := hh2.ext [unlikeO (.lst (ns.map .str))]
  have hU : b_is_unlike [.loc c.l, .int c.i, .loc c.m, .int c.j, fixN 10 (.lst (ns.map .str))] (o4 :: (rest ++ [sameO (.lst (qs.map prD))] ++ [unlikeO (.lst (ns.map .str))])) = .ok (.bool (partsB c.t c.u ns c.i c.j)) (o4 :: (rest ++ [sameO (.lst (qs.map prD))] ++ [unlikeO (.lst (ns.map .str))])) := by
    rw [fix_strs]
    rcases List.eq_nil_or_concat ns with rfl | ⟨ns', z, rfl⟩
    · exact p_is_unlike_no (.inr (.inr (.inl rfl)))
    · rw [List.concat_eq_append] at hnq hnl hh3 ⊢
      rw [List.length_append, List.length_singleton] at hnl
      exact p_is_unlike_names (hh3.l o4) (hh3.m o4) ok.ht ok.hu ⟨i0, by omega⟩ ⟨j0, by omega⟩ (fun q hq => nq_names q (hnq q hq)) (by omega)
  rw [p_shows_unlike (hh3.l o4) (hh3.m o4) i0 (by omega) j0 (by omega) (d := .lst (ns.map .str)) (by simp) hU]
  walk_at "ew"
  rw [p_parts ok.ht ok.hu ⟨i0, by omega⟩ ⟨j0, by omega⟩ ns (by omega)]
  walk_at "ew"
  exact ⟨o4, [sameO (.lst (qs.map prD))] ++ [unlikeO (.lst (ns.map .str))], _, _, _, _, by rw [List.append_assoc], hp4.up (by omega), .mk ..⟩
end
end Law_k63
end
section
open PySem PySem.Spec PyProof.Rows L2 DL
namespace Law_k63
section
variable {rest : Store}
def abu : List Str := ["a", "b", "u"]
theorem abuD_eq : abuD = .lst (abu.map .str) := rfl
theorem sublist_asc : ∀ {xs : List Str}, xs.Pairwise (fun x y => x.cps.toList < y.cps.toList) → ((xs.zip (xs.drop 1)).all fun p => decide (p.1.cps.toList < p.2.cps.toList)) = true
  | [], _ => rfl
  | [_], _ => rfl
  | x :: y :: xs, h => by
    have ih := sublist_asc (List.Pairwise.of_cons h)
    have h1 := (List.pairwise_cons.mp h).1 y List.mem_cons_self
    show (decide (x.cps.toList < y.cps.toList) && ((y :: xs).zip ((y :: xs).drop 1)).all _) = true
    rw [ih, decide_eq_true h1]
    rfl
theorem abu_pw : abu.Pairwise (fun x y => x.cps.toList < y.cps.toList) := by decide +kernel
theorem abu_nd : abu.Nodup := by decide +kernel
theorem abu_nm : ∀ s ∈ abu, ∀ st, b_is_name [.str s] st = .ok (.bool true) st := by
  intro s hs st
  simp only [abu, List.mem_cons, List.not_mem_nil, or_false] at hs
  rcases hs with rfl | rfl | rfl
  · exact p_is_name_a
  · exact p_is_name_b
  · exact p_is_name_u
theorem RowLike.len {many : Int} {r : List Ans} (h : RowLike abu many r) : r.length ≤ 3 := by
  have := h.nm.length_le
  rw [List.length_map] at this
  exact this
theorem RowLike.ok {many : Int} {r : List Ans} (h : RowLike abu many r) : RowOk many r where
  ok := fun a ha => ⟨abu_nm _ (h.nm.subset (List.mem_map_of_mem ha)), by have := h.tl a ha; omega, h.tb a ha, (h.lt a ha).1, (h.lt a ha).2⟩
  asc := sublist_asc (abu_pw.sublist h.nm)
  len := by have := h.len; omega
  nd := abu_nd.sublist h.nm
theorem tab_ok {t : List (List Ans)} (h : ∀ r ∈ t, RowLike abu t.length r) (lo : 1 ≤ t.length) (hi : t.length ≤ 1000) : TabOk t where
  ok := fun r hr => (h r hr).ok
  lo := lo
  hi := hi
  tot := by
    have : ∀ (u : List (List Ans)), (∀ r ∈ u, r ∈ t) → (u.flatMap fun r => r.map (·.1)).length ≤ 3 * u.length := by
      intro u
      induction u with
      | nil => intro _; simp
      | cons r u ih =>
        intro hs
        have h1 := ih fun r hr => hs r (List.mem_cons_of_mem _ hr)
        have h2 := (h r (hs r List.mem_cons_self)).len
        rw [List.flatMap_cons, List.length_append, List.length_map, List.length_cons]
        omega
    have := this t fun _ h => h
    omega
/-- the kinds of rows -/
theorem kinds {ρ : DL.Env} (h1 : ρ[1]? = some (.val (.loc 0))) (h2 : ρ[2]? = some (.val abuD)) {n : Nat} {o : O} (hp : Pen n o) (hn : n ≤ 800000) :
    (compK [9] (gVar 9) tYesM (e2 ixP (eCall b_law_s_hearer (eConsA (eVar 1) (eConsA (eVar 2) (eConsA (eConst (.int 1)) eNilA)))) (eConst (.int 0))) ρ (intsD 0 2) (o :: rest)).wp fun ys s => ∃ (ks : List (List Ans)) (o' : O), ys = ks.map rowD ∧ s = o' :: rest ∧ ks.length = 2 ∧ (∀ r ∈ ks, RowLike abu 1 r) ∧ Pen (n + 62) o' := by
  unfold compK
  refine noX_wp (compL_wp (fun left acc s => ∃ (ks : List (List Ans)) (o' : O), acc = ks.map rowD ∧ s = o' :: rest ∧ ks.length + left.length = 2 ∧ (∀ r ∈ ks, RowLike abu 1 r) ∧ Pen (n + 31 * ks.length) o') ?_ ?_ _ _ _ ?_)
  · rintro x left acc s ⟨ks, o', rfl, rfl, hl, hk, hp'⟩
    rw [List.length_cons] at hl
    refine ⟨by rw [List.length_map]; omega, _, rfl, ?_⟩
    walk_at "ew"
    have g1 : ((ρ.set 9 .none).set 9 (.val x))[1]? = some (.val (.loc 0)) := by
      rw [List.getElem?_set_ne (by omega), List.getElem?_set_ne (by omega), h1]
    have g2 : ((ρ.set 9 .none).set 9 (.val x))[2]? = some (.val abuD) := by
      rw [List.getElem?_set_ne (by omega), List.getElem?_set_ne (by omega), h2]
    rw [g1]
    walk_at "ew"
    rw [g2]
    walk_at "ew"
    obtain ⟨t, o2, n2, e2, t1, t2, t3, hp2, hn2⟩ := p_s_hearer (rest := rest) hp' (by omega) (most := 1) (by omega) (by omega) (nmD := abu) (nms := abu) sort_abu (by decide)
    rw [abuD_eq, e2]
    match t, t1, t2, t3 with
    | [r], _, _, t3 =>
      unfold tabD
      walk_at "ew"
      refine ⟨ks ++ [r], o2, by rw [List.map_append]; rfl, rfl, by rw [List.length_append, List.length_singleton]; omega, ?_, hp2.up (by rw [List.length_append, List.length_singleton]; rw [List.length_singleton] at hn2; omega)⟩
      intro z hz
      rcases List.mem_append.mp hz with hz | hz
      · exact hk z hz
      · rw [List.mem_singleton.mp hz]; exact t3 r List.mem_cons_self
    | a :: b :: r, _, t2, _ => rw [List.length_cons, List.length_cons] at t2; omega
  · rintro acc s ⟨ks, o', rfl, rfl, hl, hk, hp'⟩
    rw [List.length_nil] at hl
    refine ⟨ks, o', rfl, rfl, by omega, hk, ?_⟩
    exact hp'.up (by omega)
  · exact ⟨[], o, rfl, rfl, by simp [intsD], by simp, hp⟩
def elE : DL.Env → M D := (eN tupP (eConsA (eFrz (fComp [28, 29, 30] (fSeq (eCall b_law_pick (eConsA (eVar 1) (eConsA (eVar 5) eNilA)))) (gTupM (gsCons (gVar 28) (gsCons (gVar 29) (gsCons (gVar 30) gsNil)))) tYesM (eTup (eConsA (eVar 28) (eConsA (eVar 29) (eConsA (eCall b_law_draw (eConsA (eVar 1) (eConsA (eVar 4) eNilA))) eNilA)))))) eNilA))
theorem redo_row {ρ : DL.Env} {many : Int} {ks : List (List Ans)} (hk0 : ks.length = 2) (hk : ∀ r ∈ ks, RowLike abu 1 r) (hm : 0 < many) (hm2 : many ≤ 1000) (h1 : ρ[1]? = some (.val (.loc 0))) (h4 : ρ[4]? = some (.val (.int many))) (h5 : ρ[5]? = some (.val (.lst (ks.map rowD)))) (hl : ρ.length = 33) {n : Nat} {o : O} (hp : Pen n o) (hn : n ≤ 800000) :
    (elE ρ (o :: rest)).wp fun d s => ∃ (r : List Ans) (o' : O), d = rowD r ∧ s = o' :: rest ∧ RowLike abu many r ∧ Pen (n + 4) o' := by
  unfold elE
  walk_at "ew"
  rw [h1]
  walk_at "ew"
  rw [h5]
  walk_at "ew"
  obtain ⟨d, o1, e1, hd, hp1⟩ := p_pick (rest := rest) hp (by omega) (xs := ks.map rowD) (by rw [List.length_map]; omega) (by rw [List.length_map]; omega)
  rw [e1]
  obtain ⟨r0, hr0, rfl⟩ := List.mem_map.mp hd
  have rl := hk r0 hr0
  have rlen := rl.len
  unfold rowD
  walk_at "ew"
  refine wp_bind (wp_bind (wp_bind (wp_mono (Q := fun ys s => ∃ (r : List Ans) (o' : O), ys = r.map ansD ∧ s = o' :: rest ∧ RowLike abu many r ∧ Pen (n + 4) o') ?_ ?_)))
  · unfold compK
    refine noX_wp (compL_wp (fun left acc s => ∃ (todo r : List Ans) (o' : O), left = todo.map ansD ∧ acc = r.map ansD ∧ s = o' :: rest ∧ r.map (·.1) ++ todo.map (·.1) = r0.map (·.1) ∧ (∀ a ∈ todo, a ∈ r0) ∧ (∀ a ∈ r, ∃ b ∈ r0, b.2.1 = a.2.1) ∧ (∀ a ∈ r, 0 ≤ a.2.2 ∧ a.2.2 < many) ∧ Pen (n + 1 + r.length) o') ?_ ?_ _ _ _ ?_)
    · rintro x left acc s ⟨todo, r, o', el, rfl, rfl, hnm, hsub, htl, hlt, hp'⟩
      cases todo with
      | nil => cases el
      | cons q todo =>
        rw [List.map_cons] at el
        injection el with e1 e2
        subst e1 e2
        have hlen := congrArg List.length hnm
        rw [List.length_append, List.length_map, List.length_map, List.length_map, List.length_cons] at hlen
        refine ⟨by rw [List.length_map]; omega, _, rfl, ?_⟩
        unfold ansD
        walk_at "ew"
        have hL : ∀ i (s : Slot), (ρ.set i s).length = 33 := fun i s => by rw [List.length_set]; exact hl
        have hL2 : ∀ (ρ : DL.Env) i (s : Slot), ρ.length = 33 → (ρ.set i s).length = 33 := fun ρ i s h => by rw [List.length_set]; exact h
        have g28 : (((((((ρ.set 30 .none).set 29 .none).set 28 .none).set 28 (.val (.str q.1))).set 29 (.val (toldD q.2.1))).set 30 (.val (.int q.2.2))))[28]? = some (.val (.str q.1)) := by
          rw [List.getElem?_set_ne (by omega), List.getElem?_set_ne (by omega), List.getElem?_set_self (by simp only [List.length_set]; omega)]
        have g29 : (((((((ρ.set 30 .none).set 29 .none).set 28 .none).set 28 (.val (.str q.1))).set 29 (.val (toldD q.2.1))).set 30 (.val (.int q.2.2))))[29]? = some (.val (toldD q.2.1)) := by
          rw [List.getElem?_set_ne (by omega), List.getElem?_set_self (by simp only [List.length_set]; omega)]
        have g1 : (((((((ρ.set 30 .none).set 29 .none).set 28 .none).set 28 (.val (.str q.1))).set 29 (.val (toldD q.2.1))).set 30 (.val (.int q.2.2))))[1]? = some (.val (.loc 0)) := by
          rw [List.getElem?_set_ne (by omega), List.getElem?_set_ne (by omega), List.getElem?_set_ne (by omega), List.getElem?_set_ne (by omega), List.getElem?_set_ne (by omega), List.getElem?_set_ne (by omega), h1]
        have g4 : (((((((ρ.set 30 .none).set 29 .none).set 28 .none).set 28 (.val (.str q.1))).set 29 (.val (toldD q.2.1))).set 30 (.val (.int q.2.2))))[4]? = some (.val (.int many)) := by
          rw [List.getElem?_set_ne (by omega), List.getElem?_set_ne (by omega), List.getElem?_set_ne (by omega), List.getElem?_set_ne (by omega), List.getElem?_set_ne (by omega), List.getElem?_set_ne (by omega), h4]
        rw [g28]
        walk_at "ew"
        rw [g29]
        walk_at "ew"
        rw [g1]
        walk_at "ew"
        rw [g4]
        walk_at "ew"
        obtain ⟨k, o2, e2, k1, k2, hp2⟩ := p_draw (rest := rest) hp' (by omega) (many := many) (by omega) (by omega)
        rw [e2]
        walk_at "ew"
        refine ⟨todo, r ++ [(q.1, q.2.1, k)], o2, rfl, by rw [List.map_append]; rfl, rfl, by rw [List.map_append, List.append_assoc]; exact hnm, fun a ha => hsub a (List.mem_cons_of_mem _ ha), ?_, ?_, by rw [List.length_append, List.length_singleton]; exact hp2⟩
        · intro a ha
          rcases List.mem_append.mp ha with ha | ha
          · exact htl a ha
          · rw [List.mem_singleton.mp ha]; exact ⟨q, hsub q List.mem_cons_self, rfl⟩
        · intro a ha
          rcases List.mem_append.mp ha with ha | ha
          · exact hlt a ha
          · rw [List.mem_singleton.mp ha]; exact ⟨k1, k2⟩
    · rintro acc s ⟨todo, r, o', el, rfl, rfl, hnm, hsub, htl, hlt, hp'⟩
      cases todo with
      | cons _ _ => cases el
      | nil =>
        rw [List.map_nil, List.append_nil] at hnm
        have hlen := congrArg List.length hnm
        rw [List.length_map, List.length_map] at hlen
        refine ⟨r, o', rfl, rfl, ⟨by rw [hnm]; exact rl.nm, fun a ha => ?_, fun a ha => ?_, hlt⟩, hp'.up (by omega)⟩
        · obtain ⟨b, hb, e⟩ := htl a ha
          rw [← e]; exact rl.tl b hb
        · obtain ⟨b, hb, e⟩ := htl a ha
          rw [← e]; exact rl.tb b hb
    · exact ⟨r0, [], o1, rfl, rfl, rfl, rfl, fun _ h => h, by simp, by simp, hp1⟩
  · rintro ys s ⟨r, o', rfl, rfl, hr, hp'⟩
    walk_at "ew"
    exact ⟨r, o', rfl, rfl, hr, hp'⟩
def tabE : DL.Env → M D := (eN tupP (eConsA (eFrz (fComp [13] (fRng1 (eVar 4)) (gVar 13) tYesM elE)) eNilA))
theorem redo_tab {ρ : DL.Env} {many : Int} {ks : List (List Ans)} (hk0 : ks.length = 2) (hk : ∀ r ∈ ks, RowLike abu 1 r) (hm : 0 < many) (hm2 : many ≤ 1000) (h1 : ρ[1]? = some (.val (.loc 0))) (h4 : ρ[4]? = some (.val (.int many))) (h5 : ρ[5]? = some (.val (.lst (ks.map rowD)))) (hl : ρ.length = 33) {n : Nat} {o : O} (hp : Pen n o) (hn : n ≤ 700000) :
    (tabE ρ (o :: rest)).wp fun d s => ∃ (t : List (List Ans)) (o' : O), d = tabD t ∧ s = o' :: rest ∧ (t.length : Int) = many ∧ (∀ r ∈ t, RowLike abu t.length r) ∧ Pen (n + 4 * t.length) o' := by
  unfold tabE
  walk_at "ew"
  rw [h4]
  walk_at "ew"
  rw [rng1_eq (by omega) (by omega)]
  walk_at "ew"
  have hkl : (intsD 0 many.toNat).length = many.toNat := by simp [intsD]
  refine wp_bind (wp_bind (wp_bind (wp_mono (Q := fun ys s => ∃ (t : List (List Ans)) (o' : O), ys = t.map rowD ∧ s = o' :: rest ∧ t.length = many.toNat ∧ (∀ r ∈ t, RowLike abu many r) ∧ Pen (n + 4 * t.length) o') ?_ ?_)))
  · unfold compK
    refine noX_wp (compL_wp (fun left acc s => ∃ (t : List (List Ans)) (o' : O), acc = t.map rowD ∧ s = o' :: rest ∧ t.length + left.length = many.toNat ∧ (∀ r ∈ t, RowLike abu many r) ∧ Pen (n + 4 * t.length) o') ?_ ?_ _ _ _ ?_)
    · rintro x left acc s ⟨t, o', rfl, rfl, hlen, hr, hp'⟩
      rw [List.length_cons] at hlen
      refine ⟨by rw [List.length_map]; omega, _, rfl, ?_⟩
      walk_at "ew"
      refine wp_mono (redo_row hk0 hk hm hm2 (ρ := (ρ.set 13 .none).set 13 (.val x)) ?_ ?_ ?_ ?_ hp' (by omega)) ?_
      · rw [List.getElem?_set_ne (by omega), List.getElem?_set_ne (by omega), h1]
      · rw [List.getElem?_set_ne (by omega), List.getElem?_set_ne (by omega), h4]
      · rw [List.getElem?_set_ne (by omega), List.getElem?_set_ne (by omega), h5]
      · rw [List.length_set, List.length_set]; exact hl
      · rintro d s ⟨r, o2, rfl, rfl, rl, hp2⟩
        refine ⟨t ++ [r], o2, by rw [List.map_append]; rfl, rfl, by rw [List.length_append, List.length_singleton]; omega, ?_, hp2.up (by rw [List.length_append, List.length_singleton]; omega)⟩
        intro z hz
        rcases List.mem_append.mp hz with hz | hz
        · exact hr z hz
        · rw [List.mem_singleton.mp hz]; exact rl
    · rintro acc s ⟨t, o', rfl, rfl, hlen, hr, hp'⟩
      rw [List.length_nil] at hlen
      exact ⟨t, o', rfl, rfl, by omega, hr, hp'⟩
    · exact ⟨[], o, rfl, rfl, by rw [hkl]; simp, by simp, hp⟩
  · rintro ys s ⟨t, o', rfl, rfl, hlen, hr, hp'⟩
    walk_at "ew"
    have e : (t.length : Int) = many := by omega
    exact ⟨t, o', rfl, rfl, e, by rw [e]; exact hr, hp'⟩
end
end Law_k63
end
section
open PySem PySem.Spec PyProof.Rows L2 DL
namespace Law_k63
def sigE : DL.Env → M D := (eFrz (fComp [19] (fSeq (eTup (eConsA (eVar 6) (eConsA (eVar 7) eNilA)))) (gVar 19) tYesM (eFrz (fComp [23] (fSeq (eVar 19)) (gVar 23) tYesM (eFrz (fComp [24] (fSeq (eVar 23)) (gVar 24) tYesM (eSlT (eVar 24) oNone (oSome (eConst (.int 2))))))))))
def oddE : DL.Env → M D := (eFrz (fLst (eConsA (eConst .non) (eConsA (eConst (.int 5)) (eConsA (eConst (.str "same")) (eConsA (eMakeR "Same" r_Same_init (eConsA (eConst .non) eNilA)) (eConsA (eMakeR "Same" r_Same_init (eConsA (eTup eNilA) eNilA)) (eConsA (eMakeR "Same" r_Same_init (eConsA (eFrz (fLst (eConsA (eConst .non) eNilA))) eNilA)) (eConsA (eMakeR "Same" r_Same_init (eConsA (eFrz (fLst (eConsA (eTup (eConsA (eVar 13) (eConsA (eVar 14) (eConsA (eConst (.int 0)) eNilA)))) eNilA))) eNilA)) (eConsA (eMakeR "Same" r_Same_init (eConsA (eFrz (fLst (eConsA (eTup (eConsA (eVar 13) eNilA)) eNilA))) eNilA)) (eConsA (eMakeR "Same" r_Same_init (eConsA (eFrz (fLst (eConsA (eTup (eConsA (eVar 13) (eConsA (eVar 4) eNilA))) eNilA))) eNilA)) (eConsA (eMakeR "Same" r_Same_init (eConsA (eFrz (fLst (eConsA (eTup (eConsA (e1 negP (eConst (.int 1))) (eConsA (eVar 14) eNilA))) eNilA))) eNilA)) (eConsA (eMakeR "Same" r_Same_init (eConsA (eFrz (fLst (eConsA (eTup (eConsA (eConst .non) (eConsA (eVar 14) eNilA))) eNilA))) eNilA)) (eConsA (eMakeR "Unlike" r_Unlike_init (eConsA (eConst .non) eNilA)) (eConsA (eMakeR "Unlike" r_Unlike_init (eConsA (eTup eNilA) eNilA)) (eConsA (eMakeR "Unlike" r_Unlike_init (eConsA (eConst (.int 5)) eNilA)) (eConsA (eMakeR "Unlike" r_Unlike_init (eConsA (eFrz (fLst (eConsA (eConst .non) eNilA))) eNilA)) (eConsA (eMakeR "Unlike" r_Unlike_init (eConsA (eFrz (fLst (eConsA (eConst (.str "A")) eNilA))) eNilA)) (eConsA (eMakeR "Paper" r_Paper_init (eConsA (eConst (.str "same")) (eConsA (eTup (eConsA (eTup (eConsA (eVar 13) (eConsA (eVar 14) eNilA))) eNilA)) eNilA))) (eConsA (eMakeR "Denial" r_Paper_init (eConsA (eConst (.str "unlike")) (eConsA (eTup (eConsA (eConst (.str "a")) eNilA)) eNilA))) (eConsA (eTup (eConsA (eTup (eConsA (eVar 13) (eConsA (eVar 14) eNilA))) eNilA)) eNilA)))))))))))))))))))))
def filtS : SM := (sIf (tOfB (eC2 neP (eFrz (fComp [27] (fSeq (eVar 10)) (gVar 27) (tOfB (eC2 notBP (eCall b_shows_same (eConsA (eVar 11) (eConsA (eVar 13) (eConsA (eVar 12) (eConsA (eVar 14) (eConsA (eVar 27) eNilA)))))) (eConst (.bool false)))) (eVar 27))) (eFrz (fLst eNilA)))) (sRet (eConst (.bool false))) sNext)
def lastS : SM := (sIf (mOr (mAnd (tOfB (eC2 gtP (eVar 4) (eConst (.int 1)))) (mAnd (tOfB (eC2 eqP (eVar 6) (eVar 7))) (tOfB (eC2 notBP (eCall b_shows_same (eConsA (eVar 11) (eConsA (eConst (.int 1)) (eConsA (eVar 11) (eConsA (eConst (.int 1)) (eConsA (eMakeR "Same" r_Same_init (eConsA (eFrz (fComp [31] (fRng1 (eVar 4)) (gVar 31) tYesM (eTup (eConsA (eVar 31) (eConsA (eVar 31) eNilA))))) eNilA)) eNilA)))))) (eConst (.bool true)))))) (tOfB (eC2 notBP (eCall b_shows_same (eConsA (eVar 11) (eConsA (eConst (.int 1)) (eConsA (eVar 11) (eConsA (eConst (.int 1)) (eConsA (eMakeR "Same" r_Same_init (eConsA (eFrz (fComp [31] (fRng1 (eVar 4)) (gVar 31) tYesM (eTup (eConsA (eIf (tOfB (eC2 ltP (eVar 31) (eConst (.int 2)))) (eN boolP (eConsA (eVar 31) eNilA)) (eVar 31)) (eConsA (eVar 31) eNilA))))) eNilA)) eNilA)))))) (eConst (.bool false))))) (sRet (eConst (.bool false))) sNext)
def m_law_w4q : SM := (sSeq (sAsg (e2 addP (eConst (.int 2)) (eCall b_law_draw (eConsA (eVar 1) (eConsA (eConst (.int 4)) eNilA)))) (gVar 4)) (sSeq (sAsg (eFrz (fComp [9] (fRng1 (eConst (.int 2))) (gVar 9) tYesM (e2 ixP (eCall b_law_s_hearer (eConsA (eVar 1) (eConsA (eVar 2) (eConsA (eConst (.int 1)) eNilA)))) (eConst (.int 0))))) (gVar 5)) (sSeq (sAsg tabE (gVar 6)) (sSeq (sAsg (eCall b_law_pick (eConsA (eVar 1) (eConsA (eFrz (fLst (eConsA (eVar 6) (eConsA (eVar 6) (eConsA tabE eNilA))))) eNilA))) (gVar 7)) (sSeq (sPar [11, 12] (osCons (oVal (eMakeR "Hearer" r_Hearer_init (eConsA (eVar 6) eNilA))) (osCons (oVal (eMakeR "Hearer" r_Hearer_init (eConsA (eVar 7) eNilA))) osNil))) (sSeq (sPar [13, 14] (osCons (oVal (eCall b_law_draw (eConsA (eVar 1) (eConsA (eVar 4) eNilA)))) (osCons (oVal (eCall b_law_draw (eConsA (eVar 1) (eConsA (eVar 4) eNilA)))) osNil))) (sSeq (sAsg sigE (gVar 8)) (sSeq (sFor (fRng1 (eConst (.int 10))) (gVar 9) m_law_w3) (sSeq (sAsg oddE (gVar 10)) (sSeq filtS lastS))))))))))
theorem w4_eq : m_law_w4 = m_law_w4q := rfl
section
variable {c : Ctx} {rest st : Store}
theorem get_mono {st : Store} {k : Nat} {o : O} {e : Store} (h : st[k]? = some o) : (st ++ e)[k]? = some o := by
  rw [List.getElem?_append_left (List.getElem?_eq_some_iff.mp h).1]; exact h
def BadS (c : Ctx) (d : D) : Prop := ∀ st : Store, st[c.l]? = some (hearerO c.t) → st[c.m]? = some (hearerO c.u) → b_are_same [.loc c.l, .int c.i, .loc c.m, .int c.j, fixN 10 d] st = .ok (.bool false) st
inductive OddV (c : Ctx) (st : Store) : D → Prop
  | nl {d : D} : nl d = true → fit 58 d = true → OddV c st d
  | same {k : Nat} {d : D} : st[k]? = some (sameO d) → BadS c d → OddV c st (.loc k)
  | unl {k : Nat} {d : D} : st[k]? = some (unlikeO d) → (fixN 10 d = .non ∨ fixN 10 d = .int 5 ∨ fixN 10 d = .tup [] ∨ fixN 10 d = .tup [.non] ∨ fixN 10 d = .tup [.str "A"]) → OddV c st (.loc k)
  | pap {k : Nat} {w : Str} {d : D} : (st[k]? = some (paperO "Paper" w d) ∨ st[k]? = some (paperO "Denial" w d)) → OddV c st (.loc k)
theorem odd_shows (ok : CtxOk c) (h : st[c.l]? = some (hearerO c.t)) (h' : st[c.m]? = some (hearerO c.u)) {v : D} (hv : OddV c st v) : b_shows_same [.loc c.l, .int c.i, .loc c.m, .int c.j, v] st = .ok (.bool false) st := by
  have lt := ok.lt
  have lu := ok.lu
  have i0 := ok.i0
  have i1 := ok.i1
  have j0 := ok.j0
  have j1 := ok.j1
  cases hv with
  | nl hn _ => exact p_shows_nl h h' i0 (by omega) j0 (by omega) hn
  | same hk hb => exact p_shows_same h h' i0 (by omega) j0 (by omega) hk (hb st h h')
  | unl hk hb => exact p_shows_unlike h h' i0 (by omega) j0 (by omega) hk (p_is_unlike_no hb)
  | pap hk => exact p_shows_paper h h' i0 (by omega) j0 (by omega) hk
theorem bad_no {d : D} (hd : sm 6 (fixN 10 d) = true) (hn : ∀ xs, fixN 10 d = .tup xs → xs.all (isPair c.t.length c.u.length) = false) : BadS c d := fun st h h' => p_are_same_no h h' hd hn
theorem bad_nil (ok : CtxOk c) : BadS c (.tup []) := fun st h h' => by
  have := p_are_same (i := c.i) (j := c.j) h h' ok.ht ok.hu (ps := []) (by simp) (by simp)
  rw [show dueB c.t c.u c.i c.j [] = false by simp [dueB]] at this
  exact this
theorem odd (ok : CtxOk c) {ρ : DL.Env} {p16 p17 p18 p20 : Slot} (he : LapEnv c p16 p17 p18 p20 ρ) : ∃ vs e, oddE ρ st = .ok (.lst vs) (st ++ e) ∧ vs.length = 19 ∧ ∀ v ∈ vs, OddV c (st ++ e) v := by
  have lt := ok.lt
  have lu := ok.lu
  obtain ⟨⟩ := he
  unfold oddE
  walk_at "ew"
  rw [p_make_same rfl]
  walk_at "ew"
  rw [p_make_same rfl]
  walk_at "ew"
  rw [p_make_same rfl]
  walk_at "ew"
  rw [p_make_same rfl]
  walk_at "ew"
  rw [p_make_same rfl]
  walk_at "ew"
  rw [p_make_same rfl]
  walk_at "ew"
  rw [p_make_same rfl]
  walk_at "ew"
  rw [p_make_same rfl]
  walk_at "ew"
  rw [p_make_unlike rfl]
  walk_at "ew"
  rw [p_make_unlike rfl]
  walk_at "ew"
  rw [p_make_unlike rfl]
  walk_at "ew"
  rw [p_make_unlike rfl]
  walk_at "ew"
  rw [p_make_unlike rfl]
  walk_at "ew"
  rw [p_make_paper rfl]
  walk_at "ew"
  rw [p_make_denial rfl]
  walk_at "ew"
  refine ⟨_, [_] ++ [_] ++ [_] ++ [_] ++ [_] ++ [_] ++ [_] ++ [_] ++ [_] ++ [_] ++ [_] ++ [_] ++ [_] ++ [_] ++ [_], by simp only [← List.append_assoc]; rfl, rfl, ?_⟩
  simp only [← List.append_assoc]
  intro v hv
  simp only [List.mem_cons, List.not_mem_nil, or_false] at hv
  rcases hv with rfl | rfl | rfl | rfl | rfl | rfl | rfl | rfl | rfl | rfl | rfl | rfl | rfl | rfl | rfl | rfl | rfl | rfl | rfl
  · exact .nl rfl rfl
  · exact .nl rfl rfl
  · exact .nl rfl rfl
  · exact .same (by repeat (first | exact get_end _ | refine get_mono ?_)) (bad_no rfl fun xs e => by cases e)
  · exact .same (by repeat (first | exact get_end _ | refine get_mono ?_)) (bad_nil ok)
  · exact .same (by repeat (first | exact get_end _ | refine get_mono ?_)) (bad_no rfl fun xs e => by cases e; rfl)
  · exact .same (by repeat (first | exact get_end _ | refine get_mono ?_)) (bad_no rfl fun xs e => by cases e; rfl)
  · exact .same (by repeat (first | exact get_end _ | refine get_mono ?_)) (bad_no rfl fun xs e => by cases e; rfl)
  · exact .same (by repeat (first | exact get_end _ | refine get_mono ?_)) (bad_no rfl fun xs e => by
      cases e
      have z : isW 0 ((c.u.length : Int) - 1) (.int c.many) = false := by
        rw [lu]
        simp only [isW, Bool.and_eq_false_iff, decide_eq_false_iff_not]
        omega
      show (isW 0 ((c.t.length : Int) - 1) (.int c.i) && isW 0 ((c.u.length : Int) - 1) (.int c.many) && true) = false
      rw [z, Bool.and_false, Bool.false_and])
  · exact .same (by repeat (first | exact get_end _ | refine get_mono ?_)) (bad_no rfl fun xs e => by cases e; rfl)
  · exact .same (by repeat (first | exact get_end _ | refine get_mono ?_)) (bad_no rfl fun xs e => by cases e; rfl)
  · exact .unl (by repeat (first | exact get_end _ | refine get_mono ?_)) (by first | exact .inl rfl | exact .inr (.inl rfl) | exact .inr (.inr (.inl rfl)) | exact .inr (.inr (.inr (.inl rfl))) | exact .inr (.inr (.inr (.inr rfl))))
  · exact .unl (by repeat (first | exact get_end _ | refine get_mono ?_)) (by first | exact .inl rfl | exact .inr (.inl rfl) | exact .inr (.inr (.inl rfl)) | exact .inr (.inr (.inr (.inl rfl))) | exact .inr (.inr (.inr (.inr rfl))))
  · exact .unl (by repeat (first | exact get_end _ | refine get_mono ?_)) (by first | exact .inl rfl | exact .inr (.inl rfl) | exact .inr (.inr (.inl rfl)) | exact .inr (.inr (.inr (.inl rfl))) | exact .inr (.inr (.inr (.inr rfl))))
  · exact .unl (by repeat (first | exact get_end _ | refine get_mono ?_)) (by first | exact .inl rfl | exact .inr (.inl rfl) | exact .inr (.inr (.inl rfl)) | exact .inr (.inr (.inr (.inl rfl))) | exact .inr (.inr (.inr (.inr rfl))))
  · exact .unl (by repeat (first | exact get_end _ | refine get_mono ?_)) (by first | exact .inl rfl | exact .inr (.inl rfl) | exact .inr (.inr (.inl rfl)) | exact .inr (.inr (.inr (.inl rfl))) | exact .inr (.inr (.inr (.inr rfl))))
  · exact .pap (.inl (by repeat (first | exact get_end _ | refine get_mono ?_)))
  · exact .pap (.inr (by repeat (first | exact get_end _ | refine get_mono ?_)))
  · exact .nl rfl rfl
/-- none of them is let -/
theorem filt (ok : CtxOk c) {ρ : DL.Env} (h10 : ∃ vs, ρ[10]? = some (.val (.lst vs)) ∧ vs.length = 19 ∧ ∀ v ∈ vs, OddV c st v) (h11 : ρ[11]? = some (.val (.loc c.l))) (h12 : ρ[12]? = some (.val (.loc c.m))) (h13 : ρ[13]? = some (.val (.int c.i))) (h14 : ρ[14]? = some (.val (.int c.j))) (hl : ρ.length = 33)
    (h : st[c.l]? = some (hearerO c.t)) (h' : st[c.m]? = some (hearerO c.u)) : filtS ρ st = .next ρ st := by
  obtain ⟨vs, h10, hv0, hv⟩ := h10
  unfold filtS
  walk_at "ev"
  rw [h10]
  walk_at "ev"
  rw [compK_pure (fun _ => false) id (fun x hx => by
    refine ⟨_, rfl, ?_, fun z => nomatch z⟩
    have g : ∀ i, i ≠ 27 → ((ρ.set 27 .none).set 27 (.val x))[i]? = ρ[i]? := fun i hi => by
      rw [List.getElem?_set_ne (Ne.symm hi), List.getElem?_set_ne (Ne.symm hi)]
    walk_at "ev"
    rw [g 11 (by omega), h11]
    walk_at "ev"
    rw [g 13 (by omega), h13]
    walk_at "ev"
    rw [g 12 (by omega), h12]
    walk_at "ev"
    rw [g 14 (by omega), h14]
    walk_at "ev"
    rw [List.getElem?_set_self (by rw [List.length_set]; omega)]
    walk_at "ev"
    rw [odd_shows ok h h' (hv x hx)]
    walk_at "ev") (by omega)]
  walk_at "ev"
  have e : vs.filter (fun _ => false) = [] := by simp
  rw [e, List.map_nil, neP_nil (by simp)]
  walk_at "ev"
end
end Law_k63
end
section
open PySem PySem.Spec PyProof.Rows L2 DL
namespace Law_k63
section
variable {c : Ctx} {rest st : Store}
theorem foldT_nodup : ∀ (ks : List D), (∀ k ∈ ks, (tkD k).isSome = true) → ks.Pairwise (fun a b => tkD a ≠ tkD b) → (foldT ks).length = ks.length := by
  intro ks hk hp
  have gen : ∀ (ks : List D) (acc : List (D × D)), (∀ k ∈ ks, ∀ p ∈ acc, tkD p.1 ≠ tkD k) → ks.Pairwise (fun a b => tkD a ≠ tkD b) → (ks.foldl (fun acc k => putTD acc k (.bool true)) acc).length = acc.length + ks.length := by
    intro ks
    induction ks with
    | nil => intro acc _ _; rfl
    | cons k ks ih =>
      intro acc h hp
      rw [List.pairwise_cons] at hp
      have e : putTD acc k (.bool true) = acc ++ [(k, .bool true)] := by
        unfold putTD
        rw [if_neg]
        intro z
        obtain ⟨p, hp, e⟩ := List.any_eq_true.mp z
        exact h k List.mem_cons_self p hp (of_decide_eq_true e)
      rw [List.foldl_cons, e, ih _ ?_ hp.2, List.length_append, List.length_singleton, List.length_cons]
      · omega
      · intro j hj p hp'
        rcases List.mem_append.mp hp' with hp' | hp'
        · exact h j (List.mem_cons_of_mem _ hj) p hp'
        · rw [List.mem_singleton.mp hp']
          exact hp.1 j hj
  have := gen ks [] (fun _ _ _ h => nomatch h) hp
  rw [List.length_nil, Nat.zero_add] at this
  exact this
def diagP (many : Int) : List PI2 := (List.range many.toNat).map fun (k : Nat) => ((k : Int), (k : Int))
theorem diag_eq (many : Int) : (intsD 0 many.toNat).map (fun d => D.tup [d, d]) = (diagP many).map prD := by
  unfold intsD diagP
  rw [List.map_map, List.map_map]
  refine List.map_congr_left fun k _ => ?_
  show D.tup [.int (0 + (k : Int)), .int (0 + (k : Int))] = .tup [.int k, .int k]
  rw [Int.zero_add]
theorem diag_mem {many x : Int} (h : 0 ≤ x) (h2 : x < many) : (x, x) ∈ diagP many := List.mem_map.mpr ⟨x.toNat, List.mem_range.mpr (by omega), by
  have : ((x.toNat : Nat) : Int) = x := by omega
  rw [this]⟩
theorem clean_sgn (r : List Ans) : clean (sgnD r) = true := clean_tup fun d hd => by
  obtain ⟨a, _, rfl⟩ := List.mem_map.mp hd
  have := clean_told a.2.1
  simp only [clean, cleans, this, Bool.and_self]
theorem zip_self {α : Type} : ∀ (xs : List α) (q : α × α), q ∈ xs.zip xs → q.1 = q.2 ∧ q.1 ∈ xs
  | [], q, h => nomatch h
  | x :: xs, q, h => by
    rw [List.zip_cons_cons] at h
    rcases List.mem_cons.mp h with h | h
    · rw [h]; exact ⟨rfl, List.mem_cons_self⟩
    · obtain ⟨a, b⟩ := zip_self xs q h
      exact ⟨a, List.mem_cons_of_mem _ b⟩
theorem due_diag (ok : CtxOk c) : dueB c.t c.t 1 1 (diagP c.many) = true := by
  have lo := ok.lo
  unfold dueB
  rw [Bool.and_eq_true, Bool.and_eq_true]
  refine ⟨⟨decide_eq_true (diag_mem (by omega) (by omega)), decide_eq_true ?_⟩, List.all_eq_true.mpr fun p hp => ?_⟩
  · rw [foldT_nodup _ (fun k hk => by obtain ⟨p, _, rfl⟩ := List.mem_map.mp hk; rfl) ?_, List.length_map]
    unfold diagP
    rw [List.map_map]
    refine List.Pairwise.map _ (R := fun a b : Nat => a ≠ b) (fun a b hab z => hab ?_) List.nodup_range
    have z : (some [.inl (a : Int), .inl (a : Int)] : Option (List Key)) = some [.inl (b : Int), .inl (b : Int)] := z
    injection z with z
    injection z with z _
    injection z with z
    omega
  · obtain ⟨k, hk, rfl⟩ := List.mem_map.mp hp
    have hk := List.mem_range.mp hk
    unfold good
    rw [Bool.and_eq_true]
    refine ⟨(deq_clean (clean_sgn _) (clean_sgn _)).mpr rfl, List.all_eq_true.mpr fun q hq => decide_eq_true ?_⟩
    obtain ⟨e, hm⟩ := zip_self _ q hq
    have lt := ok.lt
    have z := later_in ok ok.ht ok.lt (i := (k : Int)) (by omega) (by omega) q.1 hm
    rw [← e]
    exact diag_mem z.1 z.2
def boD (d : D) : D := match d with
  | .int k => if k < 2 then .bool (k != 0) else .int k
  | d => d
theorem last (ok : CtxOk c) {n : Nat} {o : O} (hp : Pen n o) (hh : HasH c rest) {ρ : DL.Env} {p16 p17 p18 p20 : Slot} (he : LapEnv c p16 p17 p18 p20 ρ) (T : D → Store → Prop) (B : DL.Env → Store → Prop) (C : DL.Env → Store → Prop) : (lastS ρ (o :: rest)).wp (LapEnd c n rest) T B C := by
  obtain ⟨⟩ := he
  have lo := ok.lo
  have hi := ok.hi
  have lt := ok.lt
  have hkl : (intsD 0 c.many.toNat).length = c.many.toNat := by simp [intsD]
  have second : ∀ (st : Store), st[c.l]? = some (hearerO c.t) → ∀ k, st[k]? = some (sameO (.lst ((intsD 0 c.many.toNat).map fun d => .tup [boD d, d]))) → b_shows_same [.loc c.l, .int 1, .loc c.l, .int 1, .loc k] st = .ok (.bool false) st := by
    intro st h k hk
    refine p_shows_same h h (by omega) (by omega) (by omega) (by omega) hk ?_
    have e : fixN 10 (.lst ((intsD 0 c.many.toNat).map fun d => .tup [boD d, d])) = .tup (((intsD 0 c.many.toNat).map fun d => .tup [boD d, d]).map (fixN 9)) := rfl
    have all9 : ∀ x ∈ ((intsD 0 c.many.toNat).map fun d => D.tup [boD d, d]).map (fixN 9), sm 5 x = true := by
      intro x hx
      obtain ⟨y, hy, rfl⟩ := List.mem_map.mp hx
      obtain ⟨d, hd, rfl⟩ := List.mem_map.mp hy
      obtain ⟨k, _, rfl⟩ := List.mem_map.mp hd
      by_cases c2 : (0 + (k : Int)) < 2
      · simp only [boD, c2, if_true]; rfl
      · simp only [boD, c2, if_false]; rfl
    rw [e]
    refine p_are_same_no h h (sm_tup (by rw [List.length_map, List.length_map]; omega) all9) ?_
    rintro xs ⟨⟩
    rw [List.all_eq_false]
    refine ⟨.tup [.bool false, .int 0], ?_, by simp [isPair, isW]⟩
    refine List.mem_map.mpr ⟨.tup [.bool false, .int 0], List.mem_map.mpr ⟨.int 0, List.mem_map.mpr ⟨0, List.mem_range.mpr (by omega), rfl⟩, rfl⟩, rfl⟩
  have sm2 : sm 10 (.lst ((intsD 0 c.many.toNat).map fun d => .tup [boD d, d])) = true := by
    refine sm_lst (by rw [List.length_map]; omega) fun x hx => ?_
    obtain ⟨d, hd, rfl⟩ := List.mem_map.mp hx
    obtain ⟨k, _, rfl⟩ := List.mem_map.mp hd
    by_cases c2 : (0 + (k : Int)) < 2
    · simp only [boD, c2, if_true]; rfl
    · simp only [boD, c2, if_false]; rfl
  have ebo : ∀ (ρ : DL.Env) (st : Store), (compK [31] (gVar 31) tYesM (eTup (eConsA (eIf (tOfB (eC2 ltP (eVar 31) (eConst (.int 2)))) (eN boolP (eConsA (eVar 31) eNilA)) (eVar 31)) (eConsA (eVar 31) eNilA)))) ρ (intsD 0 c.many.toNat) st = .ok ((intsD 0 c.many.toNat).map fun d => .tup [boD d, d]) st ∨ ρ.length ≠ 33 := by
    intro ρ st
    by_cases hρ : ρ.length = 33
    · refine .inl (compK_all _ (fun x hx => ?_) (by omega))
      obtain ⟨k, _, rfl⟩ := List.mem_map.mp hx
      refine ⟨((List.set ρ 31 Slot.none).set 31 (Slot.val (D.int (0 + (k : Int))))), rfl, ?_⟩
      have g : (((List.set ρ 31 Slot.none).set 31 (Slot.val (D.int (0 + (k : Int))))))[31]? = some (.val (.int (0 + (k : Int)))) := List.getElem?_set_self (by rw [List.length_set]; omega)
      generalize (List.set ρ 31 Slot.none).set 31 (Slot.val (D.int (0 + (k : Int)))) = ρ2 at g
      walk_at "ev"
      rw [g]
      walk_at "ev"
      by_cases c2 : (0 + (k : Int)) < 2
      · simp only [boD, c2, if_true]
        walk_at "ev"
        rw [g]
        walk_at "ev"
        rw [g]
        walk_at "ev"
      · simp only [boD, c2, if_false]
        walk_at "ev"
        rw [g]
        walk_at "ev"
        rw [g]
        walk_at "ev"
    · exact .inr hρ
  unfold lastS
  walk_at "ew"
  have e1 : decide ((1 : Int) < c.many) = true := decide_eq_true (by omega)
  rw [e1]
  walk_at "ew"
  rw [eqP_fit (fit_tab 56 _) (fit_tab 56 _)]
  walk_at "ew"
  cases hd : deq (tabD c.t) (tabD c.u) with
  | true =>
    walk_at "ew"
    rw [rng1_eq (by omega) (by omega)]
    walk_at "ew"
    rw [compK_all (fun d => .tup [d, d]) (fun x hx => by
      refine ⟨_, rfl, ?_⟩
      walk_at "ev") (by omega)]
    walk_at "ew"
    rw [diag_eq, p_make_same (sm_prs 8 (by unfold diagP; rw [List.length_map, List.length_range]; omega))]
    walk_at "ew"
    have hh2 := hh.ext [sameO (.lst ((diagP c.many).map prD))]
    rw [p_shows_same (hh2.l o) (hh2.l o) (by omega) (by omega) (by omega) (by omega) (d := .lst ((diagP c.many).map prD)) (by simp) (b := dueB c.t c.t 1 1 (diagP c.many)) (by
      rw [fix_prs]
      refine p_are_same (hh2.l o) (hh2.l o) ok.ht ok.ht (fun p hp => ?_) (by unfold diagP; rw [List.length_map, List.length_range]; omega)
      obtain ⟨k, hk, rfl⟩ := List.mem_map.mp hp
      have hk := List.mem_range.mp hk
      exact ⟨⟨by omega, by omega⟩, by omega, by omega⟩), due_diag ok]
    walk_at "ew"
    rw [rng1_eq (by omega) (by omega)]
    walk_at "ew"
    rw [(ebo _ _).resolve_right (by simp)]
    walk_at "ew"
    rw [p_make_same sm2]
    walk_at "ew"
    have hh3 := hh2.ext [sameO (.lst ((intsD 0 c.many.toNat).map fun d => .tup [boD d, d]))]
    rw [second _ (hh3.l o) _ (by simp)]
    walk_at "ew"
    exact ⟨o, [_] ++ [_], _, _, _, _, by rw [List.append_assoc], hp, .mk ..⟩
  | false =>
    walk_at "ew"
    rw [rng1_eq (by omega) (by omega)]
    walk_at "ew"
    rw [(ebo _ _).resolve_right (by simp)]
    walk_at "ew"
    rw [p_make_same sm2]
    walk_at "ew"
    have hh3 := hh.ext [sameO (.lst ((intsD 0 c.many.toNat).map fun d => .tup [boD d, d]))]
    rw [second _ (hh3.l o) _ (by simp)]
    walk_at "ew"
    exact ⟨o, [_], _, _, _, _, rfl, hp, .mk ..⟩
end
end Law_k63
end
section
open PySem PySem.Spec PyProof.Rows L2 DL
namespace Law_k63
inductive TurnEnv : DL.Env → Prop
  | mk (s0 s3 s4 s5 s6 s7 s8 s9 s10 s11 s12 s13 s14 s15 s16 s17 s18 s19 s20 s21 s22 s23 s24 s25 s26 s27 s28 s29 s30 s31 s32 : Slot) : TurnEnv [s0, .val (.loc 0), .val abuD, s3, s4, s5, s6, s7, s8, s9, s10, s11, s12, s13, s14, s15, s16, s17, s18, s19, s20, s21, s22, s23, s24, s25, s26, s27, s28, s29, s30, s31, s32]
theorem LapEnv.turn {c : Ctx} {p16 p17 p18 p20 : Slot} {ρ : DL.Env} (h : LapEnv c p16 p17 p18 p20 ρ) : TurnEnv ρ := by
  obtain ⟨⟩ := h
  exact .mk ..
section
variable {rest st : Store}
structure TurnEnd (n : Nat) (ρ : DL.Env) (s : Store) : Prop where
  ex : ∃ (o : O) (rest : Store), s = o :: rest ∧ Pen n o ∧ TurnEnv ρ
def cut2 : D → D
  | .tup [a, b, _] => .tup [a, b]
  | _ => .non
theorem sig_eq {ρ : DL.Env} {t u : List (List Ans)} (h6 : ρ[6]? = some (.val (tabD t))) (h7 : ρ[7]? = some (.val (tabD u))) (hl : ρ.length = 33) (ht : TabOk t) (hu : TabOk u) : sigE ρ st = .ok (sigD t u) st := by
  unfold sigE
  walk_at "ev"
  rw [h6]
  walk_at "ev"
  rw [h7]
  walk_at "ev"
  rw [compK_all (fun d => .lst ((rowL d).map fun r => .lst ((rowL r).map cut2))) (fun x hx => by
    obtain ⟨v, hv, rfl⟩ : ∃ v, TabOk v ∧ x = tabD v := by
      simp only [List.mem_cons, List.not_mem_nil, or_false] at hx
      rcases hx with rfl | rfl
      · exact ⟨t, ht, rfl⟩
      · exact ⟨u, hu, rfl⟩
    refine ⟨_, rfl, ?_⟩
    unfold tabD
    walk_at "ev"
    rw [List.getElem?_set_self (by rw [List.length_set]; omega)]
    walk_at "ev"
    have hh := hv.hi
    rw [compK_all (fun r => .lst ((rowL r).map cut2)) (fun y hy => by
      obtain ⟨r, hr, rfl⟩ := List.mem_map.mp hy
      refine ⟨_, rfl, ?_⟩
      unfold rowD
      walk_at "ev"
      rw [List.getElem?_set_self (by simp only [List.length_set]; omega)]
      walk_at "ev"
      have hh2 := (hv.ok r hr).len
      rw [compK_all cut2 (fun z hz => by
        obtain ⟨a, ha, rfl⟩ := List.mem_map.mp hz
        refine ⟨_, rfl, ?_⟩
        unfold ansD
        walk_at "ev"
        rw [List.getElem?_set_self (by simp only [List.length_set]; omega)]
        walk_at "ev"
        rfl) (by rw [List.length_map]; omega)]
      walk_at "ev"
      rfl) (by rw [List.length_map]; omega)]
    walk_at "ev"
    rfl) (by simp)]
  walk_at "ev"
  unfold sigD sgD
  have e : ∀ v : List (List Ans), (rowL (tabD v)).map (fun r => D.lst ((rowL r).map cut2)) = v.map fun r => D.lst (r.map fun a => .tup [.str a.1, toldD a.2.1]) := by
    intro v
    show (v.map rowD).map _ = _
    rw [List.map_map]
    refine List.map_congr_left fun r _ => ?_
    show D.lst ((r.map ansD).map cut2) = _
    rw [List.map_map]
    rfl
  rw [e, e]
structure LapsInv (c : Ctx) (n : Nat) (left : List D) (ρ : DL.Env) (s : Store) : Prop where
  ex : ∃ (o : O) (rest : Store) (k : Nat) (p16 p17 p18 p20 : Slot), s = o :: rest ∧ k + left.length = 10 ∧ Pen (n + 50 * k) o ∧ HasH c rest ∧ LapEnv c p16 p17 p18 p20 ρ
theorem turn {n : Nat} {o : O} (hp : Pen n o) (hn : n ≤ 600000) {ρ : DL.Env} (he : TurnEnv ρ) (T : D → Store → Prop) (B : DL.Env → Store → Prop) (C : DL.Env → Store → Prop) : (m_law_w4 ρ (o :: rest)).wp (TurnEnd (n + 1000)) T B C := by
  obtain ⟨⟩ := he
  rw [w4_eq]
  unfold m_law_w4q
  walk_at "ew"
  obtain ⟨i, o1, e1, i0, i1, hp1⟩ := p_draw (rest := rest) hp (by omega) (many := 4) (by omega) (by omega)
  rw [e1]
  walk_at "ew"
  generalize hmany : 2 + i = many
  rw [rng1_eq (by omega) (by omega)]
  walk_at "ew"
  refine wp_then (wp_rthen (wp_bind (wp_mono (kinds rfl rfl hp1 (by omega)) ?_)))
  rintro ys s ⟨ks, o2, rfl, rfl, hk0, hk, hp2⟩
  walk_at "ew"
  refine wp_then (wp_rthen (wp_mono (redo_tab hk0 hk (many := many) (by omega) (by omega) rfl rfl rfl rfl hp2 (by omega)) ?_))
  rintro d s ⟨t, o3, rfl, rfl, ht, hrt, hp3⟩
  walk_at "ew"
  repeat (with_reducible (first | refine wp_then ?_ | refine wp_rthen ?_ | refine wp_bind ?_))
  refine wp_mono (redo_tab hk0 hk (many := many) (by omega) (by omega) rfl rfl rfl rfl hp3 (by omega)) ?_
  rintro d s ⟨u0, o4, rfl, rfl, hu0, hru0, hp4⟩
  walk_at "ew"
  obtain ⟨x, o5, e5, hx, hp5⟩ := p_pick (rest := rest) hp4 (by omega) (xs := [tabD t, tabD t, tabD u0]) (by simp) (by simp)
  rw [e5]
  obtain ⟨u, rfl, hu, hru⟩ : ∃ u, x = tabD u ∧ (u.length : Int) = many ∧ ∀ r ∈ u, RowLike abu u.length r := by
    simp only [List.mem_cons, List.not_mem_nil, or_false] at hx
    rcases hx with rfl | rfl | rfl
    · exact ⟨t, rfl, ht, hrt⟩
    · exact ⟨t, rfl, ht, hrt⟩
    · exact ⟨u0, rfl, hu0, hru0⟩
  have tok := tab_ok hrt (by omega) (by omega)
  have uok := tab_ok hru (by omega) (by omega)
  walk_at "ew"
  rw [p_hearer_init tok]
  walk_at "ew"
  rw [p_hearer_init uok]
  walk_at "ew"
  obtain ⟨a, o6, e6, a0, a1, hp6⟩ := p_draw (rest := rest ++ [hearerO t] ++ [hearerO u]) hp5 (by omega) (many := many) (by omega) (by omega)
  rw [e6]
  walk_at "ew"
  obtain ⟨b, o7, e7, b0, b1, hp7⟩ := p_draw (rest := rest ++ [hearerO t] ++ [hearerO u]) hp6 (by omega) (many := many) (by omega) (by omega)
  rw [e7]
  walk_at "ew"
  let c : Ctx := ⟨many, t, u, rest.length + 1, (rest ++ [hearerO t]).length + 1, a, b⟩
  have ok : CtxOk c := ⟨ht, hu, by show 2 ≤ many; omega, by show many ≤ 5; omega, tok, uok, a0, a1, b0, b1⟩
  have hh : HasH c (rest ++ [hearerO t] ++ [hearerO u]) := ⟨⟨rest.length, rfl, get_mono (get_end _)⟩, ⟨_, rfl, get_end _⟩⟩
  rw [sig_eq ?_ ?_ ?_ tok uok]
  rotate_left
  · rfl
  · rfl
  · rfl
  walk_at "ew"
  rw [rng1_eq (by omega) (by omega)]
  walk_at "ew"
  refine wp_then (forL_wp (LapsInv c (n + 150)) ?_ ?_ _ _ _ ?_)
  · rintro x xs ρ s ⟨o8, rest8, k, p16, p17, p18, p20, rfl, hk8, hp8, hh8, ⟨⟩⟩
    rw [List.length_cons] at hk8
    refine ⟨_, rfl, ?_⟩
    refine wps_mono (lap ok hp8 (by omega) hh8 _ ⟨_, _, _, _, .mk ..⟩ T (fun _ _ => False) (fun _ _ => False)) ?_ (fun _ _ h => h) (fun _ _ h => h.elim) (fun _ _ h => h.elim)
    rintro ρ' s' ⟨o9, e9, p16, p17, p18, p20, rfl, hp9, he9⟩
    exact ⟨o9, _, k + 1, _, _, _, _, rfl, by omega, hp9.up (by omega), hh8.ext _, he9⟩
  · rintro ρ s ⟨o8, rest8, k, p16, p17, p18, p20, rfl, hk8, hp8, hh8, he8⟩
    rw [List.length_nil] at hk8
    walk_at "ew"
    obtain ⟨vs, e, eo, vl, hv⟩ := odd (st := o8 :: rest8) ok he8
    rw [eo]
    obtain ⟨⟩ := he8
    walk_at "ew"
    have hhe := hh8.ext e
    have hv2 : ∀ v ∈ vs, OddV c (o8 :: (rest8 ++ e)) v := hv
    rw [filt ok ⟨vs, ?_, vl, hv2⟩ ?_ ?_ ?_ ?_ ?_ (hhe.l o8) (hhe.m o8)]
    rotate_left
    · rfl
    · rfl
    · rfl
    · rfl
    · rfl
    · rfl
    walk_at "ew"
    refine wps_mono (last ok hp8 hhe (.mk ..) T B C) ?_ (fun _ _ h => h) (fun _ _ h => h) (fun _ _ h => h)
    rintro ρ' s' ⟨o9, e9, p16, p17, p18, p20, rfl, hp9, he9⟩
    exact ⟨o9, _, rfl, hp9.up (by omega), he9.turn⟩
  · exact ⟨o7, _, 0, _, _, _, _, rfl, by simp [intsD], hp7.up (by omega), hh, .mk ..⟩
structure TurnsInv (left : List D) (ρ : DL.Env) (s : Store) : Prop where
  ex : ∃ (o : O) (rest : Store) (k : Nat), s = o :: rest ∧ k + left.length = 8 ∧ Pen (1000 * k) o ∧ TurnEnv ρ
theorem plain (ns : List Int) (hl : ns.length ≤ 63) : ∃ st, b_law [.lst (ns.map .int)] [] = .ok (.bool true) st := by
  have main : (b_law [.lst (ns.map .int)] []).wp fun d _ => d = .bool true := by
    unfold b_law
    rw [m_law_pe]
    unfold m_law_p
    walk_at "ew"
    obtain ⟨o, e, hp⟩ := p_pen ns hl
    rw [e]
    walk_at "ew"
    rw [rng1_eq (by omega) (by omega)]
    walk_at "ew"
    refine wp_out (wp_then (forL_wp TurnsInv ?_ ?_ _ _ _ ?_))
    · rintro x xs ρ s ⟨o1, rest, k, rfl, hk, hp1, ⟨⟩⟩
      rw [List.length_cons] at hk
      refine ⟨_, rfl, ?_⟩
      refine wps_mono (turn hp1 (by omega) (.mk ..) _ (fun _ _ => False) (fun _ _ => False)) ?_ (fun _ _ h => h) (fun _ _ h => h.elim) (fun _ _ h => h.elim)
      rintro ρ' s' ⟨o2, rest2, rfl, hp2, he2⟩
      exact ⟨o2, rest2, k + 1, rfl, by omega, hp2.up (by omega), he2⟩
    · rintro ρ s ⟨o1, rest, k, rfl, hk, hp1, he⟩
      walk_at "ew"
    · exact ⟨o, [], 0, rfl, by simp [intsD], hp, .mk ..⟩
  obtain ⟨d, st, e, rfl⟩ := wp_ex main
  exact ⟨st, e⟩
end
end Law_k63
end
end
open PySem PySem.W PyProof.Rows
set_option maxHeartbeats 0 in
theorem PySem.Challenge.cw_whoeversends_k63_papers_on_rows_bent_holds : PySem.Challenge.rw_whoeversends_k63_papers_on_rows_bent.Holds := by
  w_on; o_law; k_head; (case hw => w_witness2)
  k_fill
  refine L2.walk_of (l := PySem.Challenge.rw_whoeversends_k63_papers_on_rows_bent) (n := 63) (k := 17) (x := "script") (CX := fun w => L2.CX PySem.Challenge.rw_whoeversends_k63_papers_on_rows_bent.prog w) (sp := fun w => DL.spTrue _ 63) rfl (by decide) rfl ⟨rfl, by decide, by decide⟩ (fun w h Y => PySem.W.kIn_of Y) ?F (fun _ _ a ns hl _ hS => ⟨a, ns, rfl, hS, hl, fun _ => rfl⟩) (fun _ _ _ _ _ h => by obtain ⟨_, _, _, _, _, _, _, _, _, _, _, _, z⟩ := h; exact z)
  case F =>
    intro w mg fa h KX G hmg
    refine' Law_k63.all_mk KX G hmg Law_k63.plain ?aC_Denial ?aC_Hearer ?aC_Paper ?aC_Same ?aC_Unlike ?k_FIGURES ?k_LETTERS ?k_LONGEST ?k_MOST_ROWS ?k_MOST_TOLD ?n_abs ?n_all ?n_bool ?n_dict ?n_int ?n_isinstance ?n_len ?n_list ?n_range ?n_set ?n_sorted ?n_str ?n_tuple ?n_zip ?a_is_integer ?l_is_integer ?c_is_integer ?kp_is_integer ?a_is_within ?l_is_within ?c_is_within ?kp_is_within ?a_is_name ?l_is_name ?c_is_name ?kp_is_name ?a_is_listed ?l_is_listed ?c_is_listed ?kp_is_listed ?a_is_row_of ?l_is_row_of ?c_is_row_of ?kp_is_row_of ?a_are_ascending ?l_are_ascending ?c_are_ascending ?kp_are_ascending ?a_fixed ?l_fixed ?c_fixed ?kp_fixed ?a_Paper_init ?i_Paper_init ?l_Paper_init ?c_Paper_init ?kp_Paper_init ?a_is_bit ?l_is_bit ?c_is_bit ?kp_is_bit ?a_is_answer ?l_is_answer ?c_is_answer ?kp_is_answer ?a_is_hearer_row ?l_is_hearer_row ?c_is_hearer_row ?kp_is_hearer_row ?a_is_table ?l_is_table ?c_is_table ?kp_is_table ?a_Hearer_init ?i_Hearer_init ?l_Hearer_init ?c_Hearer_init ?kp_Hearer_init ?a_Hearer_answer ?i_Hearer_answer ?l_Hearer_answer ?c_Hearer_answer ?kp_Hearer_answer ?a_need_hearer ?l_need_hearer ?c_need_hearer ?kp_need_hearer ?a_Same_init ?i_Same_init ?l_Same_init ?c_Same_init ?q1_Same_init ?q2_Same_init ?q3_Same_init ?q4_Same_init ?kp_Same_init ?dD_Same_init ?a_Unlike_init ?i_Unlike_init ?l_Unlike_init ?c_Unlike_init ?q1_Unlike_init ?q2_Unlike_init ?q3_Unlike_init ?q4_Unlike_init ?kp_Unlike_init ?dD_Unlike_init ?a_sign_of ?l_sign_of ?c_sign_of ?kp_sign_of ?a_need_row_of ?l_need_row_of ?c_need_row_of ?kp_need_row_of ?a_need_rows_of ?l_need_rows_of ?c_need_rows_of ?kp_need_rows_of ?a_is_pair ?l_is_pair ?c_is_pair ?kp_is_pair ?a_are_same ?l_are_same ?c_are_same ?kp_are_same ?a_is_unlike ?l_is_unlike ?c_is_unlike ?kp_is_unlike ?a_shows_same ?l_shows_same ?c_shows_same ?kp_shows_same ?a_law_pen ?l_law_pen ?c_law_pen ?kp_law_pen ?a_law_draw ?l_law_draw ?c_law_draw ?kp_law_draw ?a_law_pick ?l_law_pick ?c_law_pick ?kp_law_pick ?a_law_mixed ?l_law_mixed ?c_law_mixed ?kp_law_mixed ?a_law_s_hearer ?l_law_s_hearer ?c_law_s_hearer ?kp_law_s_hearer ?a_law_s_answer ?l_law_s_answer ?c_law_s_answer ?kp_law_s_answer ?a_law_parts ?l_law_parts ?c_law_parts ?kp_law_parts ?a_law ?l_law ?c_law ?kp_law ?zS ?zT ?zO ?s1_Same_init_Same ?s2_Same_init_Same ?s3_Same_init_Same ?s4_Same_init_Same ?s1_Unlike_init_Unlike ?s2_Unlike_init_Unlike ?s3_Unlike_init_Unlike ?s4_Unlike_init_Unlike ?hn ?htk ?pg_Denial ?hd_Denial ?po_Denial ?sa_Denial ?ha_Denial ?hm_Denial ?b0_Denial ?b1_Denial ?b2_Denial ?b3_Denial ?b4_Denial ?b5_Denial ?b6_Denial ?e0_Denial ?e1_Denial ?e2_Denial ?e3_Denial ?e4_Denial ?e5_Denial ?e6_Denial ?x_Denial_Denial ?x_Denial_Hearer ?x_Denial_Paper ?x_Denial_Same ?x_Denial_Unlike ?pg_Hearer ?hd_Hearer ?po_Hearer ?sa_Hearer ?ha_Hearer ?hm_Hearer ?b0_Hearer ?b1_Hearer ?b2_Hearer ?b3_Hearer ?b4_Hearer ?b5_Hearer ?b6_Hearer ?e0_Hearer ?e1_Hearer ?e2_Hearer ?e3_Hearer ?e4_Hearer ?e5_Hearer ?e6_Hearer ?x_Hearer_Denial ?x_Hearer_Hearer ?x_Hearer_Paper ?x_Hearer_Same ?x_Hearer_Unlike ?pg_Paper ?hd_Paper ?po_Paper ?sa_Paper ?ha_Paper ?hm_Paper ?b0_Paper ?b1_Paper ?b2_Paper ?b3_Paper ?b4_Paper ?b5_Paper ?b6_Paper ?e0_Paper ?e1_Paper ?e2_Paper ?e3_Paper ?e4_Paper ?e5_Paper ?e6_Paper ?x_Paper_Denial ?x_Paper_Hearer ?x_Paper_Paper ?x_Paper_Same ?x_Paper_Unlike ?pg_Same ?hd_Same ?po_Same ?sa_Same ?ha_Same ?hm_Same ?b0_Same ?b1_Same ?b2_Same ?b3_Same ?b4_Same ?b5_Same ?b6_Same ?e0_Same ?e1_Same ?e2_Same ?e3_Same ?e4_Same ?e5_Same ?e6_Same ?x_Same_Denial ?x_Same_Hearer ?x_Same_Paper ?x_Same_Same ?x_Same_Unlike ?pg_Unlike ?hd_Unlike ?po_Unlike ?sa_Unlike ?ha_Unlike ?hm_Unlike ?b0_Unlike ?b1_Unlike ?b2_Unlike ?b3_Unlike ?b4_Unlike ?b5_Unlike ?b6_Unlike ?e0_Unlike ?e1_Unlike ?e2_Unlike ?e3_Unlike ?e4_Unlike ?e5_Unlike ?e6_Unlike ?x_Unlike_Denial ?x_Unlike_Hearer ?x_Unlike_Paper ?x_Unlike_Same ?x_Unlike_Unlike ?na_Denial_parts ?na_Denial_word ?na_Hearer_by_heard ?na_Hearer_heard_letters ?na_Hearer_rows ?na_Paper_parts ?na_Paper_word ?na_Same_pairs ?na_Same_parts ?na_Same_word ?na_Unlike_heard ?na_Unlike_parts ?na_Unlike_word ?m1_Denial ?m2_Denial ?m3_Denial ?m4_Denial ?m1_Hearer ?m2_Hearer ?m3_Hearer ?m4_Hearer ?m1_Paper ?m2_Paper ?m3_Paper ?m4_Paper ?m1_Same ?m2_Same ?m3_Same ?m4_Same ?m1_Unlike ?m2_Unlike ?m3_Unlike ?m4_Unlike
    (case aC_Denial => k_is)
    (case aC_Hearer => k_is)
    (case aC_Paper => k_is)
    (case aC_Same => k_is)
    (case aC_Unlike => k_is)
    (case k_FIGURES => k_is)
    (case k_LETTERS => k_is)
    (case k_LONGEST => k_is)
    (case k_MOST_ROWS => k_is)
    (case k_MOST_TOLD => k_is)
    (case n_abs => k_is)
    (case n_all => k_is)
    (case n_bool => k_is)
    (case n_dict => k_is)
    (case n_int => k_is)
    (case n_isinstance => k_is)
    (case n_len => k_is)
    (case n_list => k_is)
    (case n_range => k_is)
    (case n_set => k_is)
    (case n_sorted => k_is)
    (case n_str => k_is)
    (case n_tuple => k_is)
    (case n_zip => k_is)
    (case a_is_integer => k_is)
    (case l_is_integer => k_is)
    (case c_is_integer => k_is)
    (case kp_is_integer => k_is)
    (case a_is_within => k_is)
    (case l_is_within => k_is)
    (case c_is_within => k_is)
    (case kp_is_within => k_is)
    (case a_is_name => k_is)
    (case l_is_name => k_is)
    (case c_is_name => k_is)
    (case kp_is_name => k_is)
    (case a_is_listed => k_is)
    (case l_is_listed => k_is)
    (case c_is_listed => k_is)
    (case kp_is_listed => k_is)
    (case a_is_row_of => k_is)
    (case l_is_row_of => k_is)
    (case c_is_row_of => k_is)
    (case kp_is_row_of => k_is)
    (case a_are_ascending => k_is)
    (case l_are_ascending => k_is)
    (case c_are_ascending => k_is)
    (case kp_are_ascending => k_is)
    (case a_fixed => k_is)
    (case l_fixed => k_is)
    (case c_fixed => k_is)
    (case kp_fixed => k_is)
    (case a_Paper_init => k_is)
    (case i_Paper_init => k_is)
    (case l_Paper_init => k_is)
    (case c_Paper_init => k_is)
    (case kp_Paper_init => k_is)
    (case a_is_bit => k_is)
    (case l_is_bit => k_is)
    (case c_is_bit => k_is)
    (case kp_is_bit => k_is)
    (case a_is_answer => k_is)
    (case l_is_answer => k_is)
    (case c_is_answer => k_is)
    (case kp_is_answer => k_is)
    (case a_is_hearer_row => k_is)
    (case l_is_hearer_row => k_is)
    (case c_is_hearer_row => k_is)
    (case kp_is_hearer_row => k_is)
    (case a_is_table => k_is)
    (case l_is_table => k_is)
    (case c_is_table => k_is)
    (case kp_is_table => k_is)
    (case a_Hearer_init => k_is)
    (case i_Hearer_init => k_is)
    (case l_Hearer_init => k_is)
    (case c_Hearer_init => k_is)
    (case kp_Hearer_init => k_is)
    (case a_Hearer_answer => k_is)
    (case i_Hearer_answer => k_is)
    (case l_Hearer_answer => k_is)
    (case c_Hearer_answer => k_is)
    (case kp_Hearer_answer => k_is)
    (case a_need_hearer => k_is)
    (case l_need_hearer => k_is)
    (case c_need_hearer => k_is)
    (case kp_need_hearer => k_is)
    (case a_Same_init => k_is)
    (case i_Same_init => k_is)
    (case l_Same_init => k_is)
    (case c_Same_init => k_is)
    (case q1_Same_init => k_is)
    (case q2_Same_init => rfl)
    (case q3_Same_init => rfl)
    (case q4_Same_init => k_is)
    (case kp_Same_init => k_is)
    (case dD_Same_init => k_is)
    (case a_Unlike_init => k_is)
    (case i_Unlike_init => k_is)
    (case l_Unlike_init => k_is)
    (case c_Unlike_init => k_is)
    (case q1_Unlike_init => k_is)
    (case q2_Unlike_init => rfl)
    (case q3_Unlike_init => rfl)
    (case q4_Unlike_init => k_is)
    (case kp_Unlike_init => k_is)
    (case dD_Unlike_init => k_is)
    (case a_sign_of => k_is)
    (case l_sign_of => k_is)
    (case c_sign_of => k_is)
    (case kp_sign_of => k_is)
    (case a_need_row_of => k_is)
    (case l_need_row_of => k_is)
    (case c_need_row_of => k_is)
    (case kp_need_row_of => k_is)
    (case a_need_rows_of => k_is)
    (case l_need_rows_of => k_is)
    (case c_need_rows_of => k_is)
    (case kp_need_rows_of => k_is)
    (case a_is_pair => k_is)
    (case l_is_pair => k_is)
    (case c_is_pair => k_is)
    (case kp_is_pair => k_is)
    (case a_are_same => k_is)
    (case l_are_same => k_is)
    (case c_are_same => k_is)
    (case kp_are_same => k_is)
    (case a_is_unlike => k_is)
    (case l_is_unlike => k_is)
    (case c_is_unlike => k_is)
    (case kp_is_unlike => k_is)
    (case a_shows_same => k_is)
    (case l_shows_same => k_is)
    (case c_shows_same => k_is)
    (case kp_shows_same => k_is)
    (case a_law_pen => k_is)
    (case l_law_pen => k_is)
    (case c_law_pen => k_is)
    (case kp_law_pen => k_is)
    (case a_law_draw => k_is)
    (case l_law_draw => k_is)
    (case c_law_draw => k_is)
    (case kp_law_draw => k_is)
    (case a_law_pick => k_is)
    (case l_law_pick => k_is)
    (case c_law_pick => k_is)
    (case kp_law_pick => k_is)
    (case a_law_mixed => k_is)
    (case l_law_mixed => k_is)
    (case c_law_mixed => k_is)
    (case kp_law_mixed => k_is)
    (case a_law_s_hearer => k_is)
    (case l_law_s_hearer => k_is)
    (case c_law_s_hearer => k_is)
    (case kp_law_s_hearer => k_is)
    (case a_law_s_answer => k_is)
    (case l_law_s_answer => k_is)
    (case c_law_s_answer => k_is)
    (case kp_law_s_answer => k_is)
    (case a_law_parts => k_is)
    (case l_law_parts => k_is)
    (case c_law_parts => k_is)
    (case kp_law_parts => k_is)
    (case a_law => k_is)
    (case l_law => k_is)
    (case c_law => k_is)
    (case kp_law => k_is)
    (case zS => k_is)
    (case zT => decide +kernel)
    (case zO => k_is)
    (case s1_Same_init_Same => k_is)
    (case s2_Same_init_Same => ks_is)
    (case s3_Same_init_Same => k_is)
    (case s4_Same_init_Same => k_is)
    (case s1_Unlike_init_Unlike => k_is)
    (case s2_Unlike_init_Unlike => ks_is)
    (case s3_Unlike_init_Unlike => k_is)
    (case s4_Unlike_init_Unlike => k_is)
    (case hn => k_is)
    (case htk => k_is)
    (case pg_Denial => k_is)
    (case hd_Denial => k_is)
    (case po_Denial => k_is)
    (case sa_Denial => k_is)
    (case ha_Denial => k_is)
    (case hm_Denial => k_is)
    (case b0_Denial => kit_is)
    (case b1_Denial => kit_is)
    (case b2_Denial => kit_is)
    (case b3_Denial => kit_is)
    (case b4_Denial => kit_is)
    (case b5_Denial => kit_is)
    (case b6_Denial => kit_is)
    (case e0_Denial => kit_is)
    (case e1_Denial => kit_is)
    (case e2_Denial => kit_is)
    (case e3_Denial => kit_is)
    (case e4_Denial => kit_is)
    (case e5_Denial => kit_is)
    (case e6_Denial => kit_is)
    (case x_Denial_Denial => kit_is)
    (case x_Denial_Hearer => kit_is)
    (case x_Denial_Paper => kit_is)
    (case x_Denial_Same => kit_is)
    (case x_Denial_Unlike => kit_is)
    (case pg_Hearer => k_is)
    (case hd_Hearer => k_is)
    (case po_Hearer => k_is)
    (case sa_Hearer => k_is)
    (case ha_Hearer => k_is)
    (case hm_Hearer => k_is)
    (case b0_Hearer => kit_is)
    (case b1_Hearer => kit_is)
    (case b2_Hearer => kit_is)
    (case b3_Hearer => kit_is)
    (case b4_Hearer => kit_is)
    (case b5_Hearer => kit_is)
    (case b6_Hearer => kit_is)
    (case e0_Hearer => kit_is)
    (case e1_Hearer => kit_is)
    (case e2_Hearer => kit_is)
    (case e3_Hearer => kit_is)
    (case e4_Hearer => kit_is)
    (case e5_Hearer => kit_is)
    (case e6_Hearer => kit_is)
    (case x_Hearer_Denial => kit_is)
    (case x_Hearer_Hearer => kit_is)
    (case x_Hearer_Paper => kit_is)
    (case x_Hearer_Same => kit_is)
    (case x_Hearer_Unlike => kit_is)
    (case pg_Paper => k_is)
    (case hd_Paper => k_is)
    (case po_Paper => k_is)
    (case sa_Paper => k_is)
    (case ha_Paper => k_is)
    (case hm_Paper => k_is)
    (case b0_Paper => kit_is)
    (case b1_Paper => kit_is)
    (case b2_Paper => kit_is)
    (case b3_Paper => kit_is)
    (case b4_Paper => kit_is)
    (case b5_Paper => kit_is)
    (case b6_Paper => kit_is)
    (case e0_Paper => kit_is)
    (case e1_Paper => kit_is)
    (case e2_Paper => kit_is)
    (case e3_Paper => kit_is)
    (case e4_Paper => kit_is)
    (case e5_Paper => kit_is)
    (case e6_Paper => kit_is)
    (case x_Paper_Denial => kit_is)
    (case x_Paper_Hearer => kit_is)
    (case x_Paper_Paper => kit_is)
    (case x_Paper_Same => kit_is)
    (case x_Paper_Unlike => kit_is)
    (case pg_Same => k_is)
    (case hd_Same => k_is)
    (case po_Same => k_is)
    (case sa_Same => k_is)
    (case ha_Same => k_is)
    (case hm_Same => k_is)
    (case b0_Same => kit_is)
    (case b1_Same => kit_is)
    (case b2_Same => kit_is)
    (case b3_Same => kit_is)
    (case b4_Same => kit_is)
    (case b5_Same => kit_is)
    (case b6_Same => kit_is)
    (case e0_Same => kit_is)
    (case e1_Same => kit_is)
    (case e2_Same => kit_is)
    (case e3_Same => kit_is)
    (case e4_Same => kit_is)
    (case e5_Same => kit_is)
    (case e6_Same => kit_is)
    (case x_Same_Denial => kit_is)
    (case x_Same_Hearer => kit_is)
    (case x_Same_Paper => kit_is)
    (case x_Same_Same => kit_is)
    (case x_Same_Unlike => kit_is)
    (case pg_Unlike => k_is)
    (case hd_Unlike => k_is)
    (case po_Unlike => k_is)
    (case sa_Unlike => k_is)
    (case ha_Unlike => k_is)
    (case hm_Unlike => k_is)
    (case b0_Unlike => kit_is)
    (case b1_Unlike => kit_is)
    (case b2_Unlike => kit_is)
    (case b3_Unlike => kit_is)
    (case b4_Unlike => kit_is)
    (case b5_Unlike => kit_is)
    (case b6_Unlike => kit_is)
    (case e0_Unlike => kit_is)
    (case e1_Unlike => kit_is)
    (case e2_Unlike => kit_is)
    (case e3_Unlike => kit_is)
    (case e4_Unlike => kit_is)
    (case e5_Unlike => kit_is)
    (case e6_Unlike => kit_is)
    (case x_Unlike_Denial => kit_is)
    (case x_Unlike_Hearer => kit_is)
    (case x_Unlike_Paper => kit_is)
    (case x_Unlike_Same => kit_is)
    (case x_Unlike_Unlike => kit_is)
    (case na_Denial_parts => k_is)
    (case na_Denial_word => k_is)
    (case na_Hearer_by_heard => k_is)
    (case na_Hearer_heard_letters => k_is)
    (case na_Hearer_rows => k_is)
    (case na_Paper_parts => k_is)
    (case na_Paper_word => k_is)
    (case na_Same_pairs => k_is)
    (case na_Same_parts => k_is)
    (case na_Same_word => k_is)
    (case na_Unlike_heard => k_is)
    (case na_Unlike_parts => k_is)
    (case na_Unlike_word => k_is)
    (case m1_Denial => k_is)
    (case m2_Denial => k_is)
    (case m3_Denial => k_is)
    (case m4_Denial => k_is)
    (case m1_Hearer => k_is)
    (case m2_Hearer => k_is)
    (case m3_Hearer => k_is)
    (case m4_Hearer => k_is)
    (case m1_Paper => k_is)
    (case m2_Paper => k_is)
    (case m3_Paper => k_is)
    (case m4_Paper => k_is)
    (case m1_Same => k_is)
    (case m2_Same => k_is)
    (case m3_Same => k_is)
    (case m4_Same => k_is)
    (case m1_Unlike => k_is)
    (case m2_Unlike => k_is)
    (case m3_Unlike => k_is)
    (case m4_Unlike => k_is)
