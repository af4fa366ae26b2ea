import PyProof.Rows.All
import Wide.All
import OpenK.AllK
import Wide.FinOn
import HandS.ForMost
import HandS.Deep
import KE.DataEq
import HandS.Style
import HandS.IsInst
import HandS.TupAny
import HandS.Exc
import HandS.Wide
import HandS.Flow
import HandS.Zip
import HandS.TryOnly
import HandS.More
import HandS.SetFor
import HandS.WordsExc
import HandS.ExcCtx
import HandS.ExcInit
import HandS.ExcField
import HandS.ExcIs
import HandS.HotCalls
import HandS.ExcInitHot
import KE.KExcIs
import HandS.SortInts
import HandS.Conv
import KE.SortData
import KE.KItemsList
import HandS.ListItems
import KE.DataMinMax
import HandS.SortKw
import HandS.Iter
import KE.GoesMore
import KE.GoesZip
import HandS.Gcd
import HandS.Text
import HandS.StrMore
import HandS.StrSplit
import PySem.Challenge.RW_storedfresh_k66_notes_that_are_sent
set_option Elab.async false
set_option autoImplicit false
set_option linter.all false
set_option maxRecDepth 100000
set_option maxHeartbeats 4000000
/-! A small functional reading of a part of the language over plain data: each def of the text is a plain Lean function on
data (Fn); a list that a frame alone holds is kept by value (own), a list parameter that a def changes likewise (pin). -/
namespace SE
open PySem L2

abbrev D := PyData
/-- an exception of an own class: its class's name, its fields -/
structure Exn where
  cls : Str
  fs : List (Str × D)
/-- what a name holds -/
inductive O where
  | un
  | val (d : D)
  | own (xs : List D)
  | dct (tk : Bool) (kvs : List (D × D))
  | pin (w : Bool) (xs : List D)
  | scr (ns : List Int)
  | exn (e : Exn)
  | tpl (ds : List (Bool × D))
/-- the exception that a suite holds -/
structure ZI where
  a : Addr
  cls : Value
  d : Option Addr
  mg : Str → Option Value
inductive Res (α : Type) where
  | ok (a : α)
  | exc (e : Exn)
  | stuck
def Res.bind {α β : Type} (r : Res α) (f : α → Res β) : Res β := match r with
  | .ok a => f a
  | .exc e => .exc e
  | .stuck => .stuck
@[simp] theorem bind_ok {α β : Type} (a : α) (f : α → Res β) : (Res.ok a).bind f = f a := rfl
@[simp] theorem bind_stuck {α β : Type} (f : α → Res β) : (Res.stuck : Res α).bind f = .stuck := rfl
@[simp] theorem bind_exc {α β : Type} (e : Exn) (f : α → Res β) : (Res.exc e : Res α).bind f = .exc e := rfl
theorem bind_eq_ok {α β : Type} {r : Res α} {f : α → Res β} {b : β} (h : r.bind f = .ok b) : ∃ a, r = .ok a ∧ f a = .ok b := by
  cases r with
  | ok a => exact ⟨a, rfl, h⟩
  | exc e => cases h
  | stuck => cases h
abbrev Env := List O
abbrev M := Env → Res (O × Env)

/-! ### data in a heap -/
/-- a key as a datum -/
def keyD : Key → D
  | .inl i => .int i
  | .inr x => .str x
mutual
inductive Rp (K : PySem.W.Frag) (G : Hp) : V → D → Prop
  | non : Rp K G .non .none
  | bl (b : Bool) : Rp K G (.bl b) (.bool b)
  | int (i : Int) : Rp K G (.int i) (.int i)
  | str (x : Str) : Rp K G (.str x) (.str x)
  | lst {a : Addr} {vs : List V} {ds : List D} : G a = some (.lst vs) → RpAll K G vs ds → Rp K G (.ref a) (.list ds)
  | tup {a : Addr} {vs : List V} {ds : List D} : G a = some (.tup vs) → RpAll K G vs ds → Rp K G (.ref a) (.tuple ds)
  | dcK {a : Addr} {ks : List (Key × V)} {kvs : List (D × D)} : G a = some (.dK ks) → RpK K G ks kvs → Rp K G (.ref a) (.dict kvs)
  | dcT {a : Addr} {ks : List (List Key × V)} {kvs : List (D × D)} : G a = some (.dT ks) → RpT K G ks kvs → Rp K G (.ref a) (.dict kvs)
inductive RpAll (K : PySem.W.Frag) (G : Hp) : List V → List D → Prop
  | nil : RpAll K G [] []
  | cons {v : V} {vs : List V} {d : D} {ds : List D} : Rp K G v d → RpAll K G vs ds → RpAll K G (v :: vs) (d :: ds)
/-- what a dict with numbers and texts for keys holds -/
inductive RpK (K : PySem.W.Frag) (G : Hp) : List (Key × V) → List (D × D) → Prop
  | nil : RpK K G [] []
  | cons {k : Key} {v : V} {r : List (Key × V)} {d : D} {ds : List (D × D)} : Rp K G v d → RpK K G r ds → RpK K G ((k, v) :: r) ((keyD k, d) :: ds)
/-- what a dict with tuples for keys holds -/
inductive RpT (K : PySem.W.Frag) (G : Hp) : List (List Key × V) → List (D × D) → Prop
  | nil : RpT K G [] []
  | cons {k : List Key} {v : V} {r : List (List Key × V)} {d : D} {ds : List (D × D)} : Rp K G v d → RpT K G r ds → RpT K G ((k, v) :: r) ((.tuple (k.map keyD), d) :: ds)
end
section
variable {K : PySem.W.Frag} {ζ : Option ZI} {G G' H : Hp}
theorem sameT {a : Addr} {xs : List V} (e : Same G G') (h : SqT K G a xs) : SqT K G' a xs := by
  rcases h with (h | ⟨o, h⟩) | h
  · exact .inl (.inl (e _ _ h))
  · exact .inl (.inr ⟨o, e _ _ h⟩)
  · exact .inr h
mutual
theorem Rp.mono (e : Same G G') : ∀ (d : D) (v : V), Rp K G v d → Rp K G' v d
  | .none, _, h => by cases h; exact .non
  | .bool b, _, h => by cases h; exact .bl b
  | .int i, _, h => by cases h; exact .int i
  | .str x, _, h => by cases h; exact .str x
  | .list ds, _, h => by
    cases h with
    | lst hs ha => exact .lst (e _ _ hs) (RpAll.mono e ds _ ha)
  | .tuple ds, _, h => by
    cases h with
    | tup hs ha => exact .tup (e _ _ hs) (RpAll.mono e ds _ ha)
  | .dict kvs, _, h => by
    cases h with
    | dcK hs ha => exact .dcK (e _ _ hs) (RpK.mono e kvs _ ha)
    | dcT hs ha => exact .dcT (e _ _ hs) (RpT.mono e kvs _ ha)
theorem RpAll.mono (e : Same G G') : ∀ (ds : List D) (vs : List V), RpAll K G vs ds → RpAll K G' vs ds
  | [], _, h => by cases h; exact .nil
  | d :: ds, _, h => by
    cases h with
    | cons h1 h2 => exact .cons (Rp.mono e d _ h1) (RpAll.mono e ds _ h2)
theorem RpK.mono (e : Same G G') : ∀ (kvs : List (D × D)) (ks : List (Key × V)), RpK K G ks kvs → RpK K G' ks kvs
  | [], _, h => by cases h; exact .nil
  | (k, d) :: kvs, _, h => by
    cases h with
    | cons h1 h2 => exact .cons (Rp.mono e d _ h1) (RpK.mono e kvs _ h2)
theorem RpT.mono (e : Same G G') : ∀ (kvs : List (D × D)) (ks : List (List Key × V)), RpT K G ks kvs → RpT K G' ks kvs
  | [], _, h => by cases h; exact .nil
  | (k, d) :: kvs, _, h => by
    cases h with
    | cons h1 h2 => exact .cons (Rp.mono e d _ h1) (RpT.mono e kvs _ h2)
end
mutual
theorem Rp.dp : ∀ (d : D) (v : V), d.plain = true → Rp K G v d → Dp K G v d
  | .none, _, _, h => by cases h; exact .non
  | .bool b, _, _, h => by cases h; exact .bl b
  | .int i, _, _, h => by cases h; exact .int i
  | .str x, _, _, h => by cases h; exact .str x
  | .list ds, _, p, h => by
    cases h with
    | lst hs ha => exact .lst (.of hs) (RpAll.dp ds _ (by simpa [PyData.plain] using p) ha)
  | .tuple ds, _, p, h => by
    cases h with
    | tup hs ha => exact .tup (.of hs) (RpAll.dp ds _ (by simpa [PyData.plain] using p) ha)
  | .dict _, _, p, h => by simp [PyData.plain] at p
theorem RpAll.dp : ∀ (ds : List D) (vs : List V), PyData.plainAll ds = true → RpAll K G vs ds → DpAll K G vs ds
  | [], _, _, h => by cases h; exact .nil
  | d :: ds, _, p, h => by
    have p : d.plain = true ∧ PyData.plainAll ds = true := by simpa [PyData.plainAll] using p
    cases h with
    | cons h1 h2 => exact .cons (Rp.dp d _ p.1 h1) (RpAll.dp ds _ p.2 h2)
end
/-- what a dict holds, whatever its keys -/
def RpD (K : PySem.W.Frag) (G : Hp) (tk : Bool) (o : HO) (kvs : List (D × D)) : Prop := (tk = false ∧ ∃ ks, o = .dK ks ∧ RpK K G ks kvs) ∨ (tk = true ∧ ∃ ks, o = .dT ks ∧ RpT K G ks kvs)
theorem RpD.m {tk : Bool} {o : HO} {kvs : List (D × D)} (h : RpD K G tk o kvs) (e : Same G G') : RpD K G' tk o kvs := by
  rcases h with ⟨t, ks, h1, h2⟩ | ⟨t, ks, h1, h2⟩
  · exact .inl ⟨t, ks, h1, RpK.mono e _ _ h2⟩
  · exact .inr ⟨t, ks, h1, RpT.mono e _ _ h2⟩
theorem RpD.rp {tk : Bool} {a : Addr} {o : HO} {kvs : List (D × D)} (h : RpD K G tk o kvs) (e : G a = some o) : Rp K G (.ref a) (.dict kvs) := by
  rcases h with ⟨_, ks, rfl, h2⟩ | ⟨_, ks, rfl, h2⟩
  · exact .dcK e h2
  · exact .dcT e h2
theorem Rp.rpd {v : V} {kvs : List (D × D)} (h : Rp K G v (.dict kvs)) : ∃ a o tk, v = .ref a ∧ G a = some o ∧ RpD K G tk o kvs := by
  cases h with
  | dcK h1 h2 => exact ⟨_, _, _, rfl, h1, .inl ⟨rfl, _, rfl, h2⟩⟩
  | dcT h1 h2 => exact ⟨_, _, _, rfl, h1, .inr ⟨rfl, _, rfl, h2⟩⟩
theorem RpAll.length : ∀ {ds : List D} {vs : List V}, RpAll K G vs ds → vs.length = ds.length
  | [], _, h => by cases h; rfl
  | d :: ds, _, h => by
    cases h with
    | cons h1 h2 => rw [List.length_cons, List.length_cons, RpAll.length h2]
theorem RpAll.get : ∀ {ds : List D} {vs : List V} {i : Nat} {v : V}, RpAll K G vs ds → vs[i]? = some v → ∃ d, ds[i]? = some d ∧ Rp K G v d
  | [], _, _, _, h, e => by cases h; cases e
  | d :: ds, _, 0, v, h, e => by
    cases h with
    | cons h1 h2 => simp at e; subst e; exact ⟨d, rfl, h1⟩
  | d :: ds, _, i + 1, v, h, e => by
    cases h with
    | cons h1 h2 =>
      obtain ⟨x, e1, e2⟩ := RpAll.get (i := i) h2 (by simpa using e)
      exact ⟨x, by simpa using e1, e2⟩
theorem RpAll.getD : ∀ {ds : List D} {vs : List V} {i : Nat} {d : D}, RpAll K G vs ds → ds[i]? = some d → ∃ v, vs[i]? = some v ∧ Rp K G v d
  | [], _, _, _, h, e => by cases e
  | d :: ds, _, 0, v, h, e => by
    cases h with
    | cons h1 h2 => simp at e; subst e; exact ⟨_, rfl, h1⟩
  | d :: ds, _, i + 1, v, h, e => by
    cases h with
    | cons h1 h2 =>
      obtain ⟨x, e1, e2⟩ := RpAll.getD (i := i) h2 (by simpa using e)
      exact ⟨x, by simpa using e1, e2⟩
theorem RpAll.app : ∀ {ds es : List D} {vs us : List V}, RpAll K G vs ds → RpAll K G us es → RpAll K G (vs ++ us) (ds ++ es)
  | [], _, _, _, h, k => by cases h; exact k
  | d :: ds, _, _, _, h, k => by
    cases h with
    | cons h1 h2 => exact .cons h1 (RpAll.app h2 k)
theorem RpAll.drop : ∀ {ds : List D} {vs : List V} (n : Nat), RpAll K G vs ds → RpAll K G (vs.drop n) (ds.drop n)
  | _, _, 0, h => h
  | [], _, _ + 1, h => by cases h; exact .nil
  | d :: ds, _, n + 1, h => by
    cases h with
    | cons h1 h2 => exact RpAll.drop n h2
theorem RpAll.take : ∀ {ds : List D} {vs : List V} (n : Nat), RpAll K G vs ds → RpAll K G (vs.take n) (ds.take n)
  | _, _, 0, h => .nil
  | [], _, _ + 1, h => by cases h; exact .nil
  | d :: ds, _, n + 1, h => by
    cases h with
    | cons h1 h2 => exact .cons h1 (RpAll.take n h2)
theorem RpAll.set : ∀ {ds : List D} {vs : List V} (n : Nat) {v : V} {d : D}, RpAll K G vs ds → Rp K G v d → RpAll K G (vs.set n v) (ds.set n d)
  | [], _, _, _, _, h, _ => by cases h; exact .nil
  | d :: ds, _, 0, _, _, h, k => by
    cases h with
    | cons h1 h2 => exact .cons k h2
  | d :: ds, _, n + 1, _, _, h, k => by
    cases h with
    | cons h1 h2 => exact .cons h1 (RpAll.set n h2 k)
theorem RpAll.erase : ∀ {ds : List D} {vs : List V} (n : Nat), RpAll K G vs ds → RpAll K G (vs.eraseIdx n) (ds.eraseIdx n)
  | [], _, _, h => by cases h; exact .nil
  | d :: ds, _, 0, h => by
    cases h with
    | cons h1 h2 => exact h2
  | d :: ds, _, n + 1, h => by
    cases h with
    | cons h1 h2 => exact .cons h1 (RpAll.erase n h2)
theorem RpAll.rev {ds : List D} {vs : List V} (h : RpAll K G vs ds) : RpAll K G vs.reverse ds.reverse := by
  induction vs generalizing ds with
  | nil => cases h; exact .nil
  | cons v vs ih =>
    cases h with
    | cons h1 h2 => rw [List.reverse_cons, List.reverse_cons]; exact (ih h2).app (.cons h1 .nil)
theorem RpAll.dropLast : ∀ {ds : List D} {vs : List V}, RpAll K G vs ds → RpAll K G vs.dropLast ds.dropLast
  | [], _, h => by cases h; exact .nil
  | [d], _, h => by
    cases h with
    | cons h1 h2 => cases h2; exact .nil
  | d :: e :: ds, _, h => by
    cases h with
    | cons h1 h2 =>
      cases h2 with
      | cons h2 h3 => exact .cons h1 (RpAll.dropLast (.cons h2 h3))
theorem RpAll.rep {ds : List D} {vs : List V} (h : RpAll K G vs ds) : ∀ n : Nat, RpAll K G (List.replicate n vs).flatten (List.replicate n ds).flatten
  | 0 => .nil
  | n + 1 => by
    rw [List.replicate_succ, List.replicate_succ, List.flatten_cons, List.flatten_cons]
    exact h.app (RpAll.rep h n)
end

def RFs (K : PySem.W.Frag) (G : Hp) (fs : List (Str × V)) (es : List (Str × D)) : Prop := ∀ (f : Str) (x : D), es.lookup f = some x → ∃ v, fs.lookup f = some v ∧ Rp K G v x
theorem RFs.m {K : PySem.W.Frag} {G G' : Hp} {fs : List (Str × V)} {es : List (Str × D)} (h : RFs K G fs es) (e : Same G G') : RFs K G' fs es := fun f x hx => by
  obtain ⟨v, h1, h2⟩ := h f x hx
  exact ⟨v, h1, Rp.mono e _ _ h2⟩
/-! ### a frame's names -/
/-- the relation of one name -/
def RSl (K : PySem.W.Frag) (ζ : Option ZI) (G A : Hp) (L : Nat → Option Addr) (H : Hp) (i : Nat) : O → Option V → Prop
  | .un, _ => True
  | .val d, w => ∃ v, w = some v ∧ Rp K G v d
  | .own xs, w => ∃ p vs, w = some (.ref p) ∧ H p = some (.lst vs) ∧ G p = none ∧ A p = none ∧ RpAll K G vs xs
  | .dct tk xs, w => ∃ p o, w = some (.ref p) ∧ H p = some o ∧ G p = none ∧ A p = none ∧ RpD K G tk o xs
  | .pin true xs, w => ∃ p vs, L i = some p ∧ w = some (.ref p) ∧ H p = some (.lst vs) ∧ G p = none ∧ A p = none ∧ RpAll K G vs xs
  | .pin false xs, w => ∃ p vs, L i = some p ∧ w = some (.ref p) ∧ A p = some (.lst vs) ∧ RpAll K G vs xs
  | .tpl _, _ => True
  | .scr ns, w => ∃ p, w = some (.ref p) ∧ SqL K G p (ns.map V.int)
  | .exn e, w => ∃ (zi : ZI) (C dd : Addr) (fs : List (Str × V)), ζ = some zi ∧ w = some (.ref zi.a) ∧ zi.cls = .ref C ∧ zi.mg e.cls = some (.ref C) ∧ zi.d = some dd ∧ A dd = some (.xd fs) ∧ RFs K G fs e.fs
/-- the slot holds a list of its own -/
def O.mine : O → Bool
  | .own _ => true
  | .dct _ _ => true
  | .pin true _ => true
  | _ => false
def O.pinned : O → Bool
  | .pin _ _ => true
  | _ => false
structure REnv (K : PySem.W.Frag) (ζ : Option ZI) (G A : Hp) (L : Nat → Option Addr) (H : Hp) (σ : St) (env : Env) : Prop where
  len : env.length = σ.length
  gh : Same G H
  ah : Same A H
  ag : ∀ (a : Addr) (o : HO), A a = some o → G a = none
  sl : ∀ (i : Nat) (o : O) (w : Option V), env[i]? = some o → σ[i]? = some w → RSl K ζ G A L H i o w
  inj : ∀ (i j : Nat) (x y : O) (p : Addr), env[i]? = some x → env[j]? = some y → x.mine = true → y.mine = true → σ[i]? = some (some (.ref p)) → σ[j]? = some (some (.ref p)) → i = j
  lp : ∀ (i : Nat) (p : Addr), L i = some p → ∃ w xs, env[i]? = some (.pin w xs)
  tu : ∀ (a : Addr) (vs : List V), A a ≠ some (.tup vs)
/-- an address that nobody holds -/
def Lone (G A : Hp) (L : Nat → Option Addr) (σ : St) (env : Env) (p : Addr) : Prop := G p = none ∧ A p = none ∧ (∀ (i : Nat) (x : O), env[i]? = some x → x.mine = true → σ[i]? ≠ some (some (V.ref p))) ∧ ∀ i, L i ≠ some p
/-- the parts of a tuple, some of them lists that nobody holds -/
inductive Parts (K : PySem.W.Frag) (G A : Hp) (L : Nat → Option Addr) (H : Hp) (σ : St) (env : Env) : List V → List (Bool × D) → Prop
  | nil : Parts K G A L H σ env [] []
  | val {v : V} {d : D} {vs : List V} {ds : List (Bool × D)} : Rp K G v d → Parts K G A L H σ env vs ds → Parts K G A L H σ env (v :: vs) ((false, d) :: ds)
  | own {p : Addr} {us : List V} {xs : List D} {vs : List V} {ds : List (Bool × D)} : H p = some (.lst us) → Lone G A L σ env p → RpAll K G us xs → Parts K G A L H σ env vs ds → Parts K G A L H σ env (.ref p :: vs) ((true, .list xs) :: ds)
/-- a value that no name holds -/
def RVal (K : PySem.W.Frag) (G A : Hp) (L : Nat → Option Addr) (H : Hp) (σ : St) (env : Env) (r : O) (v : V) : Prop := match r with
  | .val d => Rp K G v d
  | .own xs => ∃ p vs, v = .ref p ∧ H p = some (.lst vs) ∧ G p = none ∧ A p = none ∧ RpAll K G vs xs ∧ (∀ (i : Nat) (x : O), env[i]? = some x → x.mine = true → σ[i]? ≠ some (some (V.ref p))) ∧ ∀ i, L i ≠ some p
  | .dct tk xs => ∃ p o, v = .ref p ∧ H p = some o ∧ G p = none ∧ A p = none ∧ RpD K G tk o xs ∧ (∀ (i : Nat) (x : O), env[i]? = some x → x.mine = true → σ[i]? ≠ some (some (V.ref p))) ∧ ∀ i, L i ≠ some p
  | .tpl ds => ∃ a vs, v = .ref a ∧ G a = some (.tup vs) ∧ Parts K G A L H σ env vs ds
  | _ => False
section
variable {K : PySem.W.Frag} {ζ : Option ZI} {G G' A : Hp} {L : Nat → Option Addr} {H H' : Hp} {σ : St} {env : Env}
theorem RpAll.m {ds : List D} {vs : List V} (h : RpAll K G vs ds) (e : Same G G') : RpAll K G' vs ds := RpAll.mono e _ _ h
theorem Rp.m {d : D} {v : V} (h : Rp K G v d) (e : Same G G') : Rp K G' v d := Rp.mono e _ _ h
theorem sameL {a : Addr} {xs : List V} (e : Same G G') (h : SqL K G a xs) : SqL K G' a xs := e.seq h
/-- the heap grows: G to G', H to H', the lists of one's own and the surroundings stand -/
theorem REnv.grow (R : REnv K ζ G A L H σ env) (e : Same G G') (gh : Same G' H') (hh : ∀ p o, G p = none → A p = none → H p = some o → H' p = some o ∧ G' p = none)
    (ah : Same A H') (ag : ∀ a o, A a = some o → G' a = none) : REnv K ζ G' A L H' σ env where
  len := R.len
  gh := gh
  ah := ah
  ag := ag
  sl := fun i o w h1 h2 => by
    have q := R.sl i o w h1 h2
    match o, q with
    | .un, _ => trivial
    | .tpl _, _ => trivial
    | .val d, q => obtain ⟨v, e1, q⟩ := q; exact ⟨v, e1, q.m e⟩
    | .own xs, q =>
      obtain ⟨p, vs, e1, e2, e3, e4, q⟩ := q
      exact ⟨p, vs, e1, (hh p _ e3 e4 e2).1, (hh p _ e3 e4 e2).2, e4, q.m e⟩
    | .dct tk xs, q =>
      obtain ⟨p, o, e1, e2, e3, e4, q⟩ := q
      exact ⟨p, o, e1, (hh p _ e3 e4 e2).1, (hh p _ e3 e4 e2).2, e4, q.m e⟩
    | .pin true xs, q =>
      obtain ⟨p, vs, e0, e1, e2, e3, e4, q⟩ := q
      exact ⟨p, vs, e0, e1, (hh p _ e3 e4 e2).1, (hh p _ e3 e4 e2).2, e4, q.m e⟩
    | .pin false xs, q =>
      obtain ⟨p, vs, e0, e1, e2, q⟩ := q
      exact ⟨p, vs, e0, e1, e2, q.m e⟩
    | .scr ns, q =>
      obtain ⟨p, e1, q⟩ := q
      exact ⟨p, e1, sameL e q⟩
    | .exn x, q =>
      obtain ⟨zi, C, dd, fs, z1, z2, z3, z4, z5, z6, z7⟩ := q
      exact ⟨zi, C, dd, fs, z1, z2, z3, z4, z5, z6, z7.m e⟩
  inj := R.inj
  lp := R.lp
  tu := R.tu
/-- a new object is laid that all may keep -/
theorem REnv.lay (R : REnv K ζ G A L H σ env) {p : Addr} (hp : H p = none) (o : HO) : REnv K ζ (upd G p o) A L (upd H p o) σ env := by
  have gp : G p = none := R.gh.free hp
  have ap : A p = none := R.ah.free hp
  have ne : ∀ {q : Addr} {u : HO}, H q = some u → q ≠ p := fun h z => by rw [z, hp] at h; cases h
  refine R.grow (fun b u h => ?_) (fun b u h => ?_) (fun q vs e1 e2 e3 => ?_) (fun b u h => ?_) (fun b u h => ?_)
  · rw [upd_ne (ne (R.gh _ _ h))]; exact h
  · by_cases hb : b = p
    · subst hb; rw [upd_same] at h; rw [upd_same]; exact h
    · rw [upd_ne hb] at h; rw [upd_ne hb]; exact R.gh _ _ h
  · rw [upd_ne (ne e3), upd_ne (ne e3)]; exact ⟨e3, e1⟩
  · rw [upd_ne (ne (R.ah _ _ h))]; exact R.ah _ _ h
  · rw [upd_ne (ne (R.ah _ _ h))]; exact R.ag _ _ h
theorem lay_same {p : Addr} (gp : G p = none) (o : HO) : Same G (upd G p o) := fun b u h => by
  rw [upd_ne (ne_of_none h gp)]; exact h
/-- a new object is laid that stays apart -/
theorem REnv.lay0 (R : REnv K ζ G A L H σ env) {p : Addr} (hp : H p = none) (o : HO) : REnv K ζ G A L (upd H p o) σ env := by
  have ne : ∀ {q : Addr} {u : HO}, H q = some u → q ≠ p := fun h z => by rw [z, hp] at h; cases h
  refine R.grow (fun b u h => h) (fun b u h => ?_) (fun q vs e1 e2 e3 => ?_) (fun b u h => ?_) R.ag
  · rw [upd_ne (ne (R.gh _ _ h))]; exact R.gh _ _ h
  · rw [upd_ne (ne e3)]; exact ⟨e3, e1⟩
  · rw [upd_ne (ne (R.ah _ _ h))]; exact R.ah _ _ h
theorem pin_alive (R : REnv K ζ G A L H σ env) {i : Nat} {p : Addr} (h : L i = some p) : ∃ u, H p = some u := by
  obtain ⟨w, xs, e⟩ := R.lp i p h
  have hi : i < σ.length := by rw [← R.len]; exact (List.getElem?_eq_some_iff.mp e).1
  have q := R.sl i _ σ[i] e (by simp [hi])
  cases w with
  | true => obtain ⟨p', vs, e0, _, e2, _⟩ := q; rw [h] at e0; cases e0; exact ⟨_, e2⟩
  | false => obtain ⟨p', vs, e0, _, e2, _⟩ := q; rw [h] at e0; cases e0; exact ⟨_, R.ah _ _ e2⟩
theorem slot_alive (R : REnv K ζ G A L H σ env) {i : Nat} {x : O} {p : Addr} (e : env[i]? = some x) (m : x.mine = true) (h : σ[i]? = some (some (.ref p))) : ∃ o, H p = some o ∧ G p = none ∧ A p = none := by
  have q := R.sl i _ _ e h
  match x, q with
  | .own xs, q => obtain ⟨p', vs, e1, e2, e3, e4, _⟩ := q; cases e1; exact ⟨_, e2, e3, e4⟩
  | .dct tk xs, q => obtain ⟨p', vs, e1, e2, e3, e4, _⟩ := q; cases e1; exact ⟨_, e2, e3, e4⟩
  | .pin true xs, q => obtain ⟨p', vs, _, e1, e2, e3, e4, _⟩ := q; cases e1; exact ⟨_, e2, e3, e4⟩
  | .un, _ => cases m
  | .tpl _, _ => cases m
  | .val _, _ => cases m
  | .pin false _, _ => cases m
  | .scr _, _ => cases m
  | .exn _, _ => cases m
/-- it is no tuple -/
theorem slot_kind (R : REnv K ζ G A L H σ env) {i : Nat} {x : O} {p : Addr} (e : env[i]? = some x) (m : x.mine = true) (h : σ[i]? = some (some (.ref p))) : ∃ o, H p = some o ∧ (∀ xs, o ≠ .tup xs) ∧ ∀ b xs, o ≠ .frz b (.tup xs) := by
  have q := R.sl i _ _ e h
  match x, q with
  | .own xs, q => obtain ⟨p', vs, e1, e2, _⟩ := q; cases e1; exact ⟨_, e2, fun _ z => (by cases z), fun _ _ z => (by cases z)⟩
  | .dct tk xs, q =>
    obtain ⟨p', vs, e1, e2, _, _, e5⟩ := q; cases e1
    refine ⟨_, e2, ?_⟩
    rcases e5 with ⟨_, ks, rfl, _⟩ | ⟨_, ks, rfl, _⟩ <;> exact ⟨fun _ z => (by cases z), fun _ _ z => (by cases z)⟩
  | .pin true xs, q => obtain ⟨p', vs, _, e1, e2, _⟩ := q; cases e1; exact ⟨_, e2, fun _ z => (by cases z), fun _ _ z => (by cases z)⟩
  | .un, _ => cases m
  | .tpl _, _ => cases m
  | .val _, _ => cases m
  | .pin false _, _ => cases m
  | .scr _, _ => cases m
  | .exn _, _ => cases m
/-- a list that was just made is nobody's -/
theorem RVal.new (R : REnv K ζ G A L H σ env) {p : Addr} (hp : H p = none) {vs : List V} {xs : List D} (h : RpAll K G vs xs) : RVal K G A L (upd H p (.lst vs)) σ env (.own xs) (.ref p) := by
  refine ⟨p, vs, rfl, upd_same, R.gh.free hp, R.ah.free hp, h, fun i x e m z => ?_, fun i z => ?_⟩
  · obtain ⟨vs, h1, _⟩ := slot_alive R e m z
    rw [hp] at h1; cases h1
  · obtain ⟨u, h1⟩ := pin_alive R z
    rw [hp] at h1; cases h1
end

/-! ### readings -/
def tM (K : PySem.W.Frag) (ζ : Option ZI) (m : M) : TE := fun σ H Q => ∃ G A L env r env', REnv K ζ G A L H σ env ∧ m env = .ok (r, env') ∧
  ∀ v H' G', Same G G' → REnv K ζ G' A L H' σ env' → RVal K G' A L H' σ env' r v → Q v H'
/-- what is wanted of a value behind an operation -/
def Post (K : PySem.W.Frag) (ζ : Option ZI) (G A : Hp) (L : Nat → Option Addr) (σ : St) (env : Env) (r : O) (Q : VK) : Prop := ∀ v H' G', Same G G' → REnv K ζ G' A L H' σ env → RVal K G' A L H' σ env r v → Q v H'
section
variable {K : PySem.W.Frag} {ζ : Option ZI} {G A : Hp} {L : Nat → Option Addr} {H : Hp} {σ : St} {env : Env} {r : O} {Q : VK}
theorem Post.val (R : REnv K ζ G A L H σ env) {d : D} {v : V} (h : Rp K G v d) (q : Post K ζ G A L σ env (.val d) Q) : Q v H := q v H G (fun _ _ z => z) R h
theorem Post.lst (R : REnv K ζ G A L H σ env) {xs : List D} {vs : List V} (h : RpAll K G vs xs) (q : Post K ζ G A L σ env (.own xs) Q) : ∀ p, H p = none → Q (.ref p) (upd H p (.lst vs)) :=
  fun p hp => q _ _ G (fun _ _ z => z) (R.lay0 hp _) (RVal.new R hp h)
theorem Post.tup (R : REnv K ζ G A L H σ env) {xs : List D} {vs : List V} (h : RpAll K G vs xs) (q : Post K ζ G A L σ env (.val (.tuple xs)) Q) : ∀ p, H p = none → Q (.ref p) (upd H p (.tup vs)) :=
  fun p hp => q _ _ (upd G p (.tup vs)) (lay_same (R.gh.free hp) _) (R.lay hp _) (.tup upd_same (h.m (lay_same (R.gh.free hp) _)))
/-- an object of one's own is given to all -/
theorem freezeO (R : REnv K ζ G A L H σ env) {p : Addr} {ob : HO} (hp : H p = some ob) (gp : G p = none) (ap : A p = none) (hs : ∀ (i : Nat) (x : O), env[i]? = some x → x.mine = true → σ[i]? ≠ some (some (V.ref p))) (hl : ∀ i, L i ≠ some p) : Same G (upd G p ob) ∧ REnv K ζ (upd G p ob) A L H σ env := by
  refine ⟨lay_same gp _, R.len, fun b u z => ?_, R.ah, fun b u z => ?_, fun i o w e1 e2 => ?_, R.inj, R.lp, R.tu⟩
  · by_cases hb : b = p
    · subst hb; rw [upd_same] at z; cases z; exact hp
    · rw [upd_ne hb] at z; exact R.gh _ _ z
  · have hb : b ≠ p := fun q => by rw [q, ap] at z; cases z
    rw [upd_ne hb]; exact R.ag _ _ z
  · have q := R.sl i o w e1 e2
    match o, q with
    | .un, _ => trivial
    | .tpl _, _ => trivial
    | .val d, q => obtain ⟨v, e1, q⟩ := q; exact ⟨v, e1, q.m (lay_same gp _)⟩
    | .own ys, q =>
      obtain ⟨p', vs', e3, e4, e5, e6, q⟩ := q
      have hb : p' ≠ p := fun z => hs i _ e1 rfl (by rw [e2, e3, z])
      exact ⟨p', vs', e3, e4, by rw [upd_ne hb]; exact e5, e6, q.m (lay_same gp _)⟩
    | .dct tk ys, q =>
      obtain ⟨p', vs', e3, e4, e5, e6, q⟩ := q
      have hb : p' ≠ p := fun z => hs i _ e1 rfl (by rw [e2, e3, z])
      exact ⟨p', vs', e3, e4, by rw [upd_ne hb]; exact e5, e6, q.m (lay_same gp _)⟩
    | .pin true ys, q =>
      obtain ⟨p', vs', e0, e3, e4, e5, e6, q⟩ := q
      have hb : p' ≠ p := fun z => hl i (by rw [e0, z])
      exact ⟨p', vs', e0, e3, e4, by rw [upd_ne hb]; exact e5, e6, q.m (lay_same gp _)⟩
    | .pin false ys, q =>
      obtain ⟨p', vs', e0, e3, e4, q⟩ := q
      exact ⟨p', vs', e0, e3, e4, q.m (lay_same gp _)⟩
    | .scr ns, q =>
      obtain ⟨p', e3, q⟩ := q
      exact ⟨p', e3, sameL (lay_same gp _) q⟩
    | .exn x, q =>
      obtain ⟨zi, C, dd, fs, z1, z2, z3, z4, z5, z6, z7⟩ := q
      exact ⟨zi, C, dd, fs, z1, z2, z3, z4, z5, z6, z7.m (lay_same gp _)⟩
theorem freeze (R : REnv K ζ G A L H σ env) {xs : List D} {v : V} (h : RVal K G A L H σ env (.own xs) v) : ∃ G', Same G G' ∧ REnv K ζ G' A L H σ env ∧ Rp K G' v (.list xs) := by
  obtain ⟨p, vs, rfl, hp, gp, ap, hv, hs, hl⟩ := h
  obtain ⟨s, R'⟩ := freezeO R hp gp ap hs hl
  exact ⟨_, s, R', .lst upd_same (hv.m s)⟩
theorem freezeD (R : REnv K ζ G A L H σ env) {tk : Bool} {xs : List (D × D)} {v : V} (h : RVal K G A L H σ env (.dct tk xs) v) : ∃ G', Same G G' ∧ REnv K ζ G' A L H σ env ∧ Rp K G' v (.dict xs) := by
  obtain ⟨p, o, rfl, hp, gp, ap, hv, hs, hl⟩ := h
  obtain ⟨s, R'⟩ := freezeO R hp gp ap hs hl
  exact ⟨_, s, R', (hv.m s).rp upd_same⟩
end
end SE

namespace SE
open PySem L2

theorem shaped_plain {d : D} (h : SeqAt.shaped d = true) : d.plain = true := by
  unfold SeqAt.shaped at h
  rw [Bool.and_eq_true] at h
  exact PyData.plain_of_canLay0 d h.1
/-! ### operands -/
inductive Opd where
  | m (m : M)
  | pk (i : Nat)
def O.live : O → Bool
  | .un => false
  | .tpl _ => false
  | _ => true
def pass : List Opd → Env → Res (List O × Env)
  | [], env => .ok ([], env)
  | .m f :: r, env => (f env).bind fun p => (pass r p.2).bind fun q => .ok (p.1 :: q.1, q.2)
  | .pk i :: r, env => if (env.getD i .un).live = true then (pass r env).bind fun q => .ok (q.2.getD i .un :: q.1, q.2) else .stuck
def tOpd (K : PySem.W.Frag) (ζ : Option ZI) : Opd → TE
  | .m m => tM K ζ m
  | .pk i => tVar i
def tAll (K : PySem.W.Frag) (ζ : Option ZI) : List Opd → TA
  | [] => tNil
  | o :: os => tCons (tOpd K ζ o) (tAll K ζ os)
section
variable {K : PySem.W.Frag} {ζ : Option ZI} {G A : Hp} {L : Nat → Option Addr} {H : Hp} {σ : St} {env : Env} {r : O} {v : V}
theorem same_refl (H : Hp) : Same H H := fun _ _ z => z
theorem tuA {A : Hp} {p : Addr} {ob : HO} (h : ∀ (a : Addr) (vs : List V), A a ≠ some (.tup vs)) (ht : ∀ vs, ob ≠ .tup vs) : ∀ (a : Addr) (vs : List V), upd A p ob a ≠ some (.tup vs) := fun a vs z => by
  by_cases e : a = p
  · subst e; rw [upd_same] at z; exact ht vs (Option.some.inj z)
  · rw [upd_ne e] at z; exact h a vs z
/-- an object of one's own waits with the surroundings -/
theorem protectO (R : REnv K ζ G A L H σ env) {p : Addr} {ob : HO} (hp : H p = some ob) (gp : G p = none) (ap : A p = none) (hs : ∀ (i : Nat) (x : O), env[i]? = some x → x.mine = true → σ[i]? ≠ some (some (V.ref p))) (hl : ∀ i, L i ≠ some p) (hx : ∀ fs, ob ≠ .xd fs) (ht : ∀ vs, ob ≠ .tup vs) :
    REnv K ζ G (upd A p ob) L H σ env ∧ ∀ G' H' env', Same G G' → REnv K ζ G' (upd A p ob) L H' σ env' → REnv K ζ G' A L H' σ env' ∧ H' p = some ob ∧ G' p = none ∧ ∀ (i : Nat) (x : O), env'[i]? = some x → x.mine = true → σ[i]? ≠ some (some (V.ref p)) := by
  constructor
  · refine ⟨R.len, R.gh, fun b u z => ?_, fun b u z => ?_, fun i o w e1 e2 => ?_, R.inj, R.lp, tuA R.tu ht⟩
    · by_cases hb : b = p
      · subst hb; rw [upd_same] at z; cases z; exact hp
      · rw [upd_ne hb] at z; exact R.ah _ _ z
    · by_cases hb : b = p
      · subst hb; exact gp
      · rw [upd_ne hb] at z; exact R.ag _ _ z
    · have q := R.sl i o w e1 e2
      match o, q with
      | .un, _ => trivial
      | .tpl _, _ => trivial
      | .val d, q => exact q
      | .own ys, q =>
        obtain ⟨p', vs', e3, e4, e5, e6, q⟩ := q
        have hb : p' ≠ p := fun z => hs i _ e1 rfl (by rw [e2, e3, z])
        exact ⟨p', vs', e3, e4, e5, by rw [upd_ne hb]; exact e6, q⟩
      | .dct tk ys, q =>
        obtain ⟨p', vs', e3, e4, e5, e6, q⟩ := q
        have hb : p' ≠ p := fun z => hs i _ e1 rfl (by rw [e2, e3, z])
        exact ⟨p', vs', e3, e4, e5, by rw [upd_ne hb]; exact e6, q⟩
      | .pin true ys, q =>
        obtain ⟨p', vs', e0, e3, e4, e5, e6, q⟩ := q
        have hb : p' ≠ p := fun z => hl i (by rw [e0, z])
        exact ⟨p', vs', e0, e3, e4, e5, by rw [upd_ne hb]; exact e6, q⟩
      | .pin false ys, q =>
        obtain ⟨p', vs', e0, e3, e4, q⟩ := q
        exact ⟨p', vs', e0, e3, lay_same ap _ _ _ e4, q⟩
      | .scr ns, q => exact q
      | .exn x, q =>
        obtain ⟨zi, C, dd, fs, z1, z2, z3, z4, z5, z6, z7⟩ := q
        exact ⟨zi, C, dd, fs, z1, z2, z3, z4, z5, lay_same ap _ _ _ z6, z7⟩
  · intro G' H' env' e R'
    have hA : Same A (upd A p ob) := lay_same ap _
    have an : ∀ {b : Addr}, upd A p ob b = none → A b = none := fun z => hA.free z
    refine ⟨⟨R'.len, R'.gh, fun b u z => R'.ah _ _ (hA _ _ z), fun b u z => R'.ag _ _ (hA _ _ z), fun i o w e1 e2 => ?_, R'.inj, R'.lp, fun a vs z => R'.tu a vs (hA _ _ z)⟩, R'.ah _ _ upd_same, R'.ag _ _ upd_same, fun i x e1 m z => ?_⟩
    · have q := R'.sl i o w e1 e2
      match o, q with
      | .un, _ => trivial
      | .tpl _, _ => trivial
      | .val d, q => exact q
      | .own ys, q =>
        obtain ⟨p', vs', e3, e4, e5, e6, q⟩ := q
        exact ⟨p', vs', e3, e4, e5, an e6, q⟩
      | .dct tk ys, q =>
        obtain ⟨p', vs', e3, e4, e5, e6, q⟩ := q
        exact ⟨p', vs', e3, e4, e5, an e6, q⟩
      | .pin true ys, q =>
        obtain ⟨p', vs', e0, e3, e4, e5, e6, q⟩ := q
        exact ⟨p', vs', e0, e3, e4, e5, an e6, q⟩
      | .pin false ys, q =>
        obtain ⟨p', vs', e0, e3, e4, q⟩ := q
        have hb : p' ≠ p := fun z => hl i (by rw [e0, z])
        rw [upd_ne hb] at e4
        exact ⟨p', vs', e0, e3, e4, q⟩
      | .scr ns, q => exact q
      | .exn x, q =>
        obtain ⟨zi, C, dd, fs, z1, z2, z3, z4, z5, z6, z7⟩ := q
        have hb : dd ≠ p := fun z => by rw [z, upd_same] at z6; exact hx _ (Option.some.inj z6)
        rw [upd_ne hb] at z6
        exact ⟨zi, C, dd, fs, z1, z2, z3, z4, z5, z6, z7⟩
    · obtain ⟨_, _, _, h3⟩ := slot_alive R' e1 m z
      rw [upd_same] at h3; cases h3
theorem rpd_xd {tk : Bool} {o : HO} {kvs : List (D × D)} (h : RpD K G tk o kvs) (fs : List (Str × V)) : o ≠ .xd fs := by
  rcases h with ⟨_, ks, rfl, _⟩ | ⟨_, ks, rfl, _⟩ <;> exact fun z => by cases z
theorem mine_tup {x : O} {i : Nat} {a : Addr} (R : REnv K ζ G A L H σ env) (e1 : env[i]? = some x) (m : x.mine = true) (e2 : σ[i]? = some (some (V.ref a))) (vs : List V) : H a ≠ some (.tup vs) := fun z => by
  obtain ⟨o, h1, h2, _⟩ := slot_kind R e1 m e2
  rw [h1] at z
  exact h2 vs (Option.some.inj z)
open Classical in
theorem tuM {A H : Hp} {P : Addr → Prop} (h : ∀ (a : Addr) (vs : List V), A a ≠ some (.tup vs)) (ht : ∀ a, P a → ∀ vs, H a ≠ some (.tup vs)) : ∀ (a : Addr) (vs : List V), (if P a then H a else A a) ≠ some (.tup vs) := fun a vs z => by
  by_cases e : P a
  · rw [if_pos e] at z; exact ht a e vs z
  · rw [if_neg e] at z; exact h a vs z
/-- the lists of a tuple wait with the surroundings -/
theorem rpd_tup {tk : Bool} {o : HO} {kvs : List (D × D)} (h : RpD K G tk o kvs) (fs : List V) : o ≠ .tup fs := by
  rcases h with ⟨_, ks, rfl, _⟩ | ⟨_, ks, rfl, _⟩ <;> exact fun z => by cases z
/-- the lists of a tuple wait with the surroundings -/
theorem protectP : ∀ {vs : List V} {ds : List (Bool × D)} {A : Hp}, REnv K ζ G A L H σ env → Parts K G A L H σ env vs ds → ∃ A', Same A A' ∧ REnv K ζ G A' L H σ env ∧
    ∀ G' H' env', Same G G' → REnv K ζ G' A' L H' σ env' → REnv K ζ G' A L H' σ env' ∧ Parts K G' A L H' σ env' vs ds
  | [], _, A, R, .nil => ⟨A, same_refl A, R, fun G' H' env' e R' => ⟨R', .nil⟩⟩
  | v :: vs, (false, d) :: ds, A, R, .val h t => by
    obtain ⟨A', hA, R1, back⟩ := protectP R t
    exact ⟨A', hA, R1, fun G' H' env' e R' => ⟨(back G' H' env' e R').1, .val (Rp.m h e) (back G' H' env' e R').2⟩⟩
  | .ref p :: vs, (true, .list xs) :: ds, A, R, .own hp hl hv t => by
    obtain ⟨A1, hA, R1, back⟩ := protectP R t
    by_cases ha : A1 p = none
    · obtain ⟨R2, back2⟩ := protectO R1 hp hl.1 ha hl.2.2.1 hl.2.2.2 (fun fs z => by cases z) (fun vs z => by cases z)
      refine ⟨upd A1 p (.lst _), hA.trans (lay_same ha _), R2, fun G' H' env' e R' => ?_⟩
      obtain ⟨R3, k1, k2, k3⟩ := back2 G' H' env' e R'
      obtain ⟨R4, t'⟩ := back G' H' env' e R3
      exact ⟨R4, .own k1 ⟨k2, hl.2.1, k3, hl.2.2.2⟩ (hv.m e) t'⟩
    · refine ⟨A1, hA, R1, fun G' H' env' e R' => ?_⟩
      obtain ⟨R4, t'⟩ := back G' H' env' e R'
      cases ea : A1 p with
      | none => exact absurd ea ha
      | some u =>
        have h1 := R1.ah _ _ ea
        rw [hp] at h1
        cases h1
        refine ⟨R4, .own (R'.ah _ _ ea) ⟨R'.ag _ _ ea, hl.2.1, fun i x e1 m z => ?_, hl.2.2.2⟩ (hv.m e) t'⟩
        obtain ⟨_, _, _, h3⟩ := slot_alive R' e1 m z
        rw [ea] at h3; cases h3
/-- a value waits while others are reckoned -/
theorem protect (R : REnv K ζ G A L H σ env) (h : RVal K G A L H σ env r v) : ∃ A', Same A A' ∧ REnv K ζ G A' L H σ env ∧
    ∀ G' H' env', Same G G' → REnv K ζ G' A' L H' σ env' → REnv K ζ G' A L H' σ env' ∧ RVal K G' A L H' σ env' r v := by
  match r, h with
  | .val d, h => exact ⟨A, same_refl A, R, fun G' H' env' e R' => ⟨R', Rp.m h e⟩⟩
  | .own xs, h =>
    obtain ⟨p, vs, rfl, hp, gp, ap, hv, hs, hl⟩ := h
    obtain ⟨R1, back⟩ := protectO R hp gp ap hs hl (fun fs z => by cases z) (fun vs z => by cases z)
    refine ⟨_, lay_same ap _, R1, fun G' H' env' e R' => ?_⟩
    obtain ⟨R2, k1, k2, k3⟩ := back G' H' env' e R'
    exact ⟨R2, p, vs, rfl, k1, k2, ap, hv.m e, k3, hl⟩
  | .dct tk xs, h =>
    obtain ⟨p, o, rfl, hp, gp, ap, hv, hs, hl⟩ := h
    obtain ⟨R1, back⟩ := protectO R hp gp ap hs hl (rpd_xd hv) (rpd_tup hv)
    refine ⟨_, lay_same ap _, R1, fun G' H' env' e R' => ?_⟩
    obtain ⟨R2, k1, k2, k3⟩ := back G' H' env' e R'
    exact ⟨R2, p, o, rfl, k1, k2, ap, hv.m e, k3, hl⟩
  | .tpl ds, h =>
    obtain ⟨a, vs, rfl, ha, hp⟩ := h
    obtain ⟨A', hA, R1, back⟩ := protectP R hp
    refine ⟨A', hA, R1, fun G' H' env' e R' => ?_⟩
    obtain ⟨R2, t⟩ := back G' H' env' e R'
    exact ⟨R2, a, vs, rfl, e _ _ ha, t⟩
theorem Lone.weakA {A' : Hp} {p : Addr} (hA : Same A A') (h : Lone G A' L σ env p) : Lone G A L σ env p := ⟨h.1, hA.free h.2.1, h.2.2⟩
theorem Parts.weakA {A' : Hp} (hA : Same A A') : ∀ {vs : List V} {ds : List (Bool × D)}, Parts K G A' L H σ env vs ds → Parts K G A L H σ env vs ds
  | _, _, .nil => .nil
  | _, _, .val h t => .val h (Parts.weakA hA t)
  | _, _, .own h1 h2 h3 t => .own h1 (h2.weakA hA) h3 (Parts.weakA hA t)
theorem RVal.weakA {A' : Hp} (hA : Same A A') (h : RVal K G A' L H σ env r v) : RVal K G A L H σ env r v := by
  match r, h with
  | .val d, h => exact h
  | .own xs, h =>
    obtain ⟨p, vs, e1, e2, e3, e4, q⟩ := h
    exact ⟨p, vs, e1, e2, e3, hA.free e4, q⟩
  | .dct tk xs, h =>
    obtain ⟨p, vs, e1, e2, e3, e4, q⟩ := h
    exact ⟨p, vs, e1, e2, e3, hA.free e4, q⟩
  | .tpl ds, h =>
    obtain ⟨a, vs, e1, e2, q⟩ := h
    exact ⟨a, vs, e1, e2, q.weakA hA⟩
theorem getD_some {env : Env} {i : Nat} {o : O} (h : env.getD i .un = o) (l : o.live = true) : env[i]? = some o := by
  rw [List.getD_eq_getElem?_getD] at h
  cases e : env[i]? with
  | none => rw [e] at h; subst h; cases l
  | some x => rw [e] at h; simp at h; rw [h]
/-- a name that is there has a value -/
theorem live_val (R : REnv K ζ G A L H σ env) {i : Nat} (l : (env.getD i .un).live = true) : ∃ v, σ[i]? = some (some v) := by
  have e := getD_some rfl l
  have hi : i < σ.length := by rw [← R.len]; exact (List.getElem?_eq_some_iff.mp e).1
  have q := R.sl i _ σ[i] e (by simp [hi])
  have fin : ∀ {v : V}, σ[i] = some v → ∃ v, σ[i]? = some (some v) := fun {v} h => ⟨v, by rw [← h]; simp [hi]⟩
  generalize env.getD i .un = o at l e q
  match o, q with
  | .un, _ => cases l
  | .tpl _, _ => cases l
  | .val d, q => obtain ⟨v, e1, _⟩ := q; exact fin e1
  | .own ys, q => obtain ⟨p, vs, e1, _⟩ := q; exact fin e1
  | .dct tk ys, q => obtain ⟨p, vs, e1, _⟩ := q; exact fin e1
  | .pin true ys, q => obtain ⟨p, vs, _, e1, _⟩ := q; exact fin e1
  | .pin false ys, q => obtain ⟨p, vs, _, e1, _⟩ := q; exact fin e1
  | .scr ns, q => obtain ⟨p, e1, _⟩ := q; exact fin e1
  | .exn x, q => obtain ⟨zi, C, dd, fs, z1, z2, _⟩ := q; exact fin z2
end
/-- an operand's value -/
def ROp (K : PySem.W.Frag) (G A : Hp) (L : Nat → Option Addr) (H : Hp) (σ : St) (env : Env) : Opd → O → V → Prop
  | .m _, r, v => RVal K G A L H σ env r v
  | .pk i, r, v => σ[i]? = some (some v) ∧ env.getD i .un = r
inductive ROps (K : PySem.W.Frag) (G A : Hp) (L : Nat → Option Addr) (H : Hp) (σ : St) (env : Env) : List Opd → List O → List V → Prop
  | nil : ROps K G A L H σ env [] [] []
  | cons {o : Opd} {os : List Opd} {r : O} {rs : List O} {v : V} {vs : List V} : ROp K G A L H σ env o r v → ROps K G A L H σ env os rs vs → ROps K G A L H σ env (o :: os) (r :: rs) (v :: vs)
theorem ROps.weakA {K : PySem.W.Frag} {G A A' : Hp} {L : Nat → Option Addr} {H : Hp} {σ : St} {env : Env} (hA : Same A A') {os : List Opd} {rs : List O} {vs : List V} (h : ROps K G A' L H σ env os rs vs) : ROps K G A L H σ env os rs vs := by
  induction h with
  | nil => exact .nil
  | @cons o os r rs v vs h1 _ ih =>
    refine .cons ?_ ih
    cases o with
    | m m => exact RVal.weakA hA h1
    | pk i => exact h1
/-- operands are reckoned -/
theorem pass_all {K : PySem.W.Frag} {ζ : Option ZI} : ∀ (os : List Opd) {G A : Hp} {L : Nat → Option Addr} {H : Hp} {σ : St} {env env' : Env} {rs : List O} {Q : List V → Hp → Prop}, REnv K ζ G A L H σ env → pass os env = .ok (rs, env') →
    (∀ vs H' G', Same G G' → REnv K ζ G' A L H' σ env' → ROps K G' A L H' σ env' os rs vs → Q vs H') → tAll K ζ os σ H Q
  | [], G, A, L, H, σ, env, env', rs, Q, R, h, q => by
    cases h
    exact q [] H G (same_refl G) R .nil
  | .m f :: os, G, A, L, H, σ, env, env', rs, Q, R, h, q => by
    obtain ⟨⟨r, e1⟩, h1, h⟩ := bind_eq_ok h
    obtain ⟨⟨rs1, e2⟩, h2, h⟩ := bind_eq_ok h
    cases h
    refine ⟨G, A, L, env, r, e1, R, h1, fun v H1 G1 s1 R1 hv => ?_⟩
    obtain ⟨A', hA, R1', back⟩ := protect R1 hv
    refine pass_all os R1' h2 fun vs H2 G2 s2 R2 ops => ?_
    obtain ⟨R3, hv'⟩ := back G2 H2 e2 s2 R2
    exact q (v :: vs) H2 G2 (s1.trans s2) R3 (.cons hv' (ops.weakA hA))
  | .pk i :: os, G, A, L, H, σ, env, env', rs, Q, R, h, q => by
    unfold pass at h
    by_cases l : (env.getD i .un).live = true
    · rw [if_pos l] at h
      obtain ⟨⟨rs1, e2⟩, h2, h⟩ := bind_eq_ok h
      cases h
      obtain ⟨v, hv⟩ := live_val R l
      refine ⟨v, hv, pass_all os R h2 fun vs H2 G2 s2 R2 ops => q (v :: vs) H2 G2 s2 R2 (.cons ⟨hv, rfl⟩ ops)⟩
    · rw [if_neg l] at h; cases h

/-! ### what an operation reads -/
def Rdy (K : PySem.W.Frag) (G H : Hp) (r : O) (v : V) : Prop := match r with
  | .un => False
  | .tpl _ => True
  | .val d => Rp K G v d
  | .own xs => ∃ p vs, v = .ref p ∧ H p = some (.lst vs) ∧ RpAll K G vs xs
  | .dct tk xs => ∃ p o, v = .ref p ∧ H p = some o ∧ RpD K G tk o xs
  | .pin _ xs => ∃ p vs, v = .ref p ∧ H p = some (.lst vs) ∧ RpAll K G vs xs
  | .scr ns => ∃ p, v = .ref p ∧ SqL K H p (ns.map V.int)
  | .exn _ => True
def O.d : O → Option D
  | .val d => some d
  | .own xs => some (.list xs)
  | .dct tk xs => some (.dict xs)
  | .pin _ xs => some (.list xs)
  | _ => none
/-- the dict that a name or a value holds -/
def keyKind : D → Option Bool
  | .tuple _ => some true
  | .int _ => some false
  | .str _ => some false
  | _ => none
def dictKind : List (D × D) → Option Bool
  | [] => none
  | kv :: _ => keyKind kv.1
def ddV : D → Option (Bool × List (D × D))
  | .dict xs => (dictKind xs).map fun t => (t, xs)
  | _ => none
def O.dd : O → Option (Bool × List (D × D))
  | .val d => ddV d
  | .dct tk xs => some (tk, xs)
  | _ => none
def O.l : O → Option (List D)
  | .val (.list xs) => some xs
  | .own xs => some xs
  | .pin _ xs => some xs
  | _ => none
section
variable {K : PySem.W.Frag} {ζ : Option ZI} {G A : Hp} {L : Nat → Option Addr} {H : Hp} {σ : St} {env : Env} {r : O} {v : V}
theorem ROp.rdy (R : REnv K ζ G A L H σ env) {o : Opd} (h : ROp K G A L H σ env o r v) (l : r.live = true) : Rdy K G H r v := by
  cases o with
  | m m =>
    match r, h with
    | .val d, h => exact h
    | .own xs, h => obtain ⟨p, vs, e1, e2, _, _, q, _⟩ := h; exact ⟨p, vs, e1, e2, q⟩
    | .dct tk xs, h => obtain ⟨p, vs, e1, e2, _, _, q, _⟩ := h; exact ⟨p, vs, e1, e2, q⟩
  | pk i =>
    obtain ⟨h1, h2⟩ := h
    have e := getD_some h2 l
    have q := R.sl i _ _ e h1
    match r, q with
    | .val d, q => obtain ⟨v', e1, k⟩ := q; cases e1; exact k
    | .own xs, q => obtain ⟨p, vs, e1, e2, _, _, k⟩ := q; cases e1; exact ⟨p, vs, rfl, e2, k⟩
    | .dct tk xs, q => obtain ⟨p, vs, e1, e2, _, _, k⟩ := q; cases e1; exact ⟨p, vs, rfl, e2, k⟩
    | .pin true xs, q => obtain ⟨p, vs, _, e1, e2, _, _, k⟩ := q; cases e1; exact ⟨p, vs, rfl, e2, k⟩
    | .pin false xs, q => obtain ⟨p, vs, _, e1, e2, k⟩ := q; cases e1; exact ⟨p, vs, rfl, R.ah _ _ e2, k⟩
    | .scr ns, q => obtain ⟨p, e1, k⟩ := q; cases e1; exact ⟨p, rfl, sameL R.gh k⟩
    | .exn x, q => exact trivial
theorem Rdy.d {d : D} (gh : Same G H) (h : Rdy K G H r v) (e : r.d = some d) : Rp K H v d := by
  match r, h with
  | .val d', h => cases e; exact Rp.m h gh
  | .own xs, h => obtain ⟨p, vs, rfl, e2, q⟩ := h; cases e; exact .lst e2 (q.m gh)
  | .dct tk xs, h => obtain ⟨p, vs, rfl, e2, q⟩ := h; cases e; exact (q.m gh).rp e2
  | .pin _ xs, h => obtain ⟨p, vs, rfl, e2, q⟩ := h; cases e; exact .lst e2 (q.m gh)
  | .scr ns, h => cases e
  | .exn x, h => cases e
  | .un, h => exact h.elim
  | .tpl _, h => cases e
theorem Rdy.l {xs : List D} (gh : Same G H) (h : Rdy K G H r v) (e : r.l = some xs) : ∃ p vs, v = .ref p ∧ H p = some (.lst vs) ∧ RpAll K G vs xs := by
  match r, h with
  | .val (.list ys), h =>
    cases e
    cases h with
    | lst h1 h2 => exact ⟨_, _, rfl, gh _ _ h1, h2⟩
  | .own ys, h => cases e; exact h
  | .dct tk ys, h => cases e
  | .pin _ ys, h => cases e; exact h
  | .scr ns, h => cases e
  | .exn x, h => cases e
  | .un, h => exact h.elim
  | .tpl _, h => cases e
theorem rpd_kind {t tk : Bool} {o : HO} {kvs : List (D × D)} (h : RpD K H tk o kvs) (e : dictKind kvs = some t) : tk = t := by
  rcases h with ⟨h1, ks, _, h2⟩ | ⟨h1, ks, _, h2⟩
  · subst h1
    cases h2 with
    | nil => cases e
    | @cons k v r d ds _ _ =>
      cases k with
      | inl i =>
        have e : some false = some t := e
        exact Option.some.inj e
      | inr x =>
        have e : some false = some t := e
        exact Option.some.inj e
  · subst h1
    cases h2 with
    | nil => cases e
    | @cons k v r d ds _ _ =>
      have e : some true = some t := e
      exact Option.some.inj e
theorem Rdy.dd {t : Bool} {xs : List (D × D)} (gh : Same G H) (h : Rdy K G H r v) (e : r.dd = some (t, xs)) : ∃ p o, v = .ref p ∧ H p = some o ∧ RpD K G t o xs := by
  cases r with
  | val d =>
    have e : ddV d = some (t, xs) := e
    have h : Rp K G v d := h
    cases d with
    | dict ys =>
      have e : (dictKind ys).map (fun t => (t, ys)) = some (t, xs) := e
      cases q : dictKind ys with
      | none => rw [q] at e; cases e
      | some t' =>
        rw [q] at e
        have e : (t', ys) = (t, xs) := Option.some.inj e
        cases e
        obtain ⟨a, o, tk, h1, h2, h3⟩ := Rp.rpd h
        have := rpd_kind h3 q
        subst this
        exact ⟨a, o, h1, gh _ _ h2, h3⟩
    | _ => cases e
  | dct tk ys =>
    have e : some (tk, ys) = some (t, xs) := e
    cases e
    exact h
  | _ => cases e
theorem dd_live {xs : Bool × List (D × D)} (e : r.dd = some xs) : r.live = true := by
  cases r with
  | val d => rfl
  | dct _ _ => rfl
  | _ => cases e
theorem l_d {xs : List D} (e : r.l = some xs) : r.d = some (.list xs) := by
  match r, e with
  | .val (.list ys), e => cases e; rfl
  | .own ys, e => cases e; rfl
  | .pin _ ys, e => cases e; rfl
theorem d_live {d : D} (e : r.d = some d) : r.live = true := by
  match r, e with
  | .val _, _ => rfl
  | .own _, _ => rfl
  | .dct _ _, _ => rfl
  | .pin _ _, _ => rfl
theorem Rdy.vald {d : D} (h : Rdy K G H (.val d) v) : Rp K G v d := h
end

/-! ### rules -/
theorem pew {X : Cx} {e : Expr} {t t' : TE} (h : PE X e t) (w : ∀ σ H Q, t' σ H Q → t σ H Q) : PE X e t' := ⟨fun pins s σ H Q I q => h.run pins s σ H Q I (w σ H Q q)⟩
theorem ptw {X : Cx} {e : Expr} {t t' : TT} (h : PT X e t) (w : ∀ σ H Q, t' σ H Q → t σ H Q) : PT X e t' := ⟨fun pins s σ H Q I q => h.run pins s σ H Q I (w σ H Q q)⟩
theorem psw {X : Cx} {e : Stmt} {t t' : TS} (h : PS X e t) (w : ∀ D σ H, t' D σ H → t D σ H) : PS X e t' := ⟨fun pins s σ H D I q => h.run pins s σ H D I (w D σ H q)⟩
def fin1 (f : O → Res O) (p : List O × Env) : Res (O × Env) := match p.1 with
  | [x] => if x.live = true then (f x).bind fun r => .ok (r, p.2) else .stuck
  | _ => .stuck
def fin2 (f : O → O → Res O) (p : List O × Env) : Res (O × Env) := match p.1 with
  | [x, y] => if (x.live && y.live) = true then (f x y).bind fun r => .ok (r, p.2) else .stuck
  | _ => .stuck
/-- an operation upon one, two operands -/
def m1 (f : O → Res O) (a : Opd) : M := fun env => (pass [a] env).bind (fin1 f)
def m2 (f : O → O → Res O) (a b : Opd) : M := fun env => (pass [a, b] env).bind (fin2 f)
def Sem1 (K : PySem.W.Frag) (f : O → Res O) (r : V → Hp → VK → Prop) : Prop := ∀ {ζ : Option ZI} {G A : Hp} {L : Nat → Option Addr} {H : Hp} {σ : St} {env : Env} {x : V} {rx r0 : O} {Q : VK}, REnv K ζ G A L H σ env → Rdy K G H rx x →
  f rx = .ok r0 → Post K ζ G A L σ env r0 Q → r x H Q
def Sem2 (K : PySem.W.Frag) (f : O → O → Res O) (r : R2) : Prop := ∀ {ζ : Option ZI} {G A : Hp} {L : Nat → Option Addr} {H : Hp} {σ : St} {env : Env} {x y : V} {rx ry r0 : O} {Q : VK}, REnv K ζ G A L H σ env → Rdy K G H rx x → Rdy K G H ry y →
  f rx ry = .ok r0 → Post K ζ G A L σ env r0 Q → r x y H Q
section
variable {K : PySem.W.Frag} {ζ : Option ZI}
theorem Post.of {G G' A : Hp} {L : Nat → Option Addr} {σ : St} {env : Env} {r : O} {Q : VK} (e : Same G G') (q : Post K ζ G A L σ env r Q) : Post K ζ G' A L σ env r Q := fun v H' G2 s R h => q v H' G2 (e.trans s) R h
theorem m1_ok {f : O → Res O} {r : V → Hp → VK → Prop} (hf : Sem1 K f r) {a : Opd} {σ : St} {H : Hp} {Q : VK} (h : tM K ζ (m1 f a) σ H Q) : tOpd K ζ a σ H fun x H1 => r x H1 Q := by
  obtain ⟨G, A, L, env, r0, env', R, e, q⟩ := h
  obtain ⟨⟨rs, e2⟩, h1, h⟩ := bind_eq_ok e
  have fin : tAll K ζ [a] σ H (fun vs H' => ∀ x, vs = [x] → r x H' Q) := pass_all [a] R h1 fun vs H' G' s R' ops => by
    cases ops with
    | cons o1 t =>
      cases t
      rintro x ⟨⟩
      unfold fin1 at h
      simp only at h
      split at h
      · rename_i l
        obtain ⟨r1, h2, h⟩ := bind_eq_ok h
        cases h
        exact hf R' (o1.rdy R' l) h2 (Post.of s q)
      · cases h
  have mono : ∀ {o : Opd} {Q Q' : VK}, (∀ v H, Q v H → Q' v H) → tOpd K ζ o σ H Q → tOpd K ζ o σ H Q' := fun {o Q Q'} w z => by
    cases o with
    | m m => obtain ⟨G, A, L, env, r, env', R, e, q⟩ := z; exact ⟨G, A, L, env, r, env', R, e, fun v H' G' s R h => w _ _ (q v H' G' s R h)⟩
    | pk i => obtain ⟨v, e, q⟩ := z; exact ⟨v, e, w _ _ q⟩
  exact mono (fun v H q => q v rfl) fin
theorem tOpd_mono {o : Opd} {σ : St} {H : Hp} {Q Q' : VK} (w : ∀ v H, Q v H → Q' v H) (z : tOpd K ζ o σ H Q) : tOpd K ζ o σ H Q' := by
  cases o with
  | m m => obtain ⟨G, A, L, env, r, env', R, e, q⟩ := z; exact ⟨G, A, L, env, r, env', R, e, fun v H' G' s R h => w _ _ (q v H' G' s R h)⟩
  | pk i => obtain ⟨v, e, q⟩ := z; exact ⟨v, e, w _ _ q⟩
theorem m2_ok {f : O → O → Res O} {r : R2} (hf : Sem2 K f r) {a b : Opd} {σ : St} {H : Hp} {Q : VK} (h : tM K ζ (m2 f a b) σ H Q) : tOp r (tOpd K ζ a) (tOpd K ζ b) σ H Q := by
  obtain ⟨G, A, L, env, r0, env', R, e, q⟩ := h
  obtain ⟨⟨rs, e2⟩, h1, h⟩ := bind_eq_ok e
  have fin : tAll K ζ [a, b] σ H (fun vs H' => ∀ x y, vs = [x, y] → r x y H' Q) := pass_all [a, b] R h1 fun vs H' G' s R' ops => by
    cases ops with
    | cons o1 t =>
      cases t with
      | cons o2 t =>
        cases t
        rintro x y ⟨⟩
        unfold fin2 at h
        simp only at h
        split at h
        · rename_i l
          rw [Bool.and_eq_true] at l
          obtain ⟨r1, h2, h⟩ := bind_eq_ok h
          cases h
          exact hf R' (o1.rdy R' l.1) (o2.rdy R' l.2) h2 (Post.of s q)
        · cases h
  exact tOpd_mono (fun v H q => tOpd_mono (fun w H q => q v w rfl) q) fin
end
/-- an operand's rule -/
def PO' (X : Cx) (ζ : Option ZI) (e : Expr) (o : Opd) : Prop := PE X e (tOpd X.K ζ o)
section
variable {X : Cx} {ζ : Option ZI} {W : WX} {a b : Expr} {oa ob : Opd} {pos : Pos}
theorem r_bin {op : Operator} {f : O → O → Res O} {r : R2} (ho : OpR X (binaryOp op) r) (hf : Sem2 X.K f r) (ha : PE X a (tOpd X.K ζ oa)) (hb : PE X b (tOpd X.K ζ ob)) : PE X (.BinOp a op b pos) (tM X.K ζ (m2 f oa ob)) :=
  pew (pe_op ho ha hb) fun _ _ _ => m2_ok hf
theorem r_cmp {op : CmpOp} {f : O → O → Res O} {r : R2} (ho : OpR X (compareOp op) r) (hf : Sem2 X.K f r) (ha : PE X a (tOpd X.K ζ oa)) (hb : PE X b (tOpd X.K ζ ob)) (hm : behindInMarks op b = false) : PE X (.Compare a [op] [b] pos) (tM X.K ζ (m2 f oa ob)) :=
  pew (pe_cmpR ho ha hb hm) fun _ _ _ => m2_ok hf
theorem r_un {op : UnaryOp} {f : O → Res O} {r : V → Hp → VK → Prop} (ho : UnR X (unaryOp op) r) (hf : Sem1 X.K f r) (ha : PE X a (tOpd X.K ζ oa)) : PE X (.UnaryOp op a pos) (tM X.K ζ (m1 f oa)) :=
  pew (pe_un ho ha) fun _ _ _ => m1_ok hf
theorem r_ix {f : O → O → Res O} {r : R2} (ho : IxR X r) (hf : Sem2 X.K f r) (ha : PE X a (tOpd X.K ζ oa)) (hb : PE X b (tOpd X.K ζ ob)) (hs : PlainIx b) : PE X (.Subscript a b pos) (tM X.K ζ (m2 f oa ob)) :=
  pew (pe_ix ho ha hb hs) fun _ _ _ => m2_ok hf
/-- a built-in called with one, two values -/
theorem r_c1 {id : String} {x : Str} {p : Pos} {f : O → Res O} {r : List V → Hp → VK → Prop} (hc : CallR X (.builtin id) r) (hf : Sem1 X.K f fun v H Q => r [v] H Q) (hg : Gl X x) (hm : X.mg x = none) (hv : bootBuiltins x = some (.builtin id)) (ha : PE X a (tOpd X.K ζ oa))
    (hn : x ≠ "__name__" := by decide) (hdb : (x == ("__debug__" : Str)) = false := by decide)
    (he : starEach [a] X.env = (false, eval a X.env) :: starEach [] X.env := by rfl) (hpl : (backTo pos (starEach [] X.env)).any (·.1) = false := by rfl) : PE X (.Call (.Name x p) [a] [] pos) (tM X.K ζ (m1 f oa)) :=
  pew (pe_callB hc hg hm hv (pa_cons ha pa_nil he) hn hdb he hpl) fun _ _ _ h => m1_ok hf h
theorem r_t1 {T : String} {x : Str} {p : Pos} {f : O → Res O} {r : List V → Hp → VK → Prop} (hc : CallR X (.type T) r) (hf : Sem1 X.K f fun v H Q => r [v] H Q) (hg : Gl X x) (hm : X.mg x = none) (hv : bootBuiltins x = some (.type T)) (ha : PE X a (tOpd X.K ζ oa))
    (hn : x ≠ "__name__" := by decide) (hdb : (x == ("__debug__" : Str)) = false := by decide)
    (he : starEach [a] X.env = (false, eval a X.env) :: starEach [] X.env := by rfl) (hpl : (backTo pos (starEach [] X.env)).any (·.1) = false := by rfl) : PE X (.Call (.Name x p) [a] [] pos) (tM X.K ζ (m1 f oa)) :=
  pew (pe_callTy hc hg hm hv (pa_cons ha pa_nil he) hn hdb he hpl) fun _ _ _ h => m1_ok hf h
theorem r_c2 {id : String} {x : Str} {p : Pos} {f : O → O → Res O} {r : List V → Hp → VK → Prop} (hc : CallR X (.builtin id) r) (hf : Sem2 X.K f fun v w H Q => r [v, w] H Q) (hg : Gl X x) (hm : X.mg x = none) (hv : bootBuiltins x = some (.builtin id)) (ha : PE X a (tOpd X.K ζ oa)) (hb : PE X b (tOpd X.K ζ ob))
    (hn : x ≠ "__name__" := by decide) (hdb : (x == ("__debug__" : Str)) = false := by decide)
    (he : starEach [a, b] X.env = (false, eval a X.env) :: starEach [b] X.env := by rfl) (he2 : starEach [b] X.env = (false, eval b X.env) :: starEach [] X.env := by rfl) (hpl : (backTo pos (starEach [b] X.env)).any (·.1) = false := by rfl) : PE X (.Call (.Name x p) [a, b] [] pos) (tM X.K ζ (m2 f oa ob)) :=
  pew (pe_callB hc hg hm hv (pa_cons ha (pa_cons hb pa_nil he2) he) hn hdb he hpl) fun _ _ _ h => m2_ok (r := fun v w H Q => r [v, w] H Q) hf h
end

/-! ### names, constants -/
def mC (d : D) : M := fun env => .ok (.val d, env)
/-- a name's value, kept from then on -/
def mV (i : Nat) : M := fun env => match env.getD i .un with
  | .val d => .ok (.val d, env)
  | .own xs => .ok (.val (.list xs), env.set i (.val (.list xs)))
  | .dct tk xs => .ok (.val (.dict xs), env.set i (.val (.dict xs)))
  | _ => .stuck
section
variable {K : PySem.W.Frag} {ζ : Option ZI} {G A : Hp} {L : Nat → Option Addr} {H : Hp} {σ : St} {env : Env}
theorem set_slot (R : REnv K ζ G A L H σ env) {i : Nat} {o : O} {w : Option V} (h : RSl K ζ G A L H i o w) (hp : ∀ x, env[i]? = some x → x.pinned = false) (ho : o.pinned = false)
    (hn : o.mine = true → ∀ p, w = some (.ref p) → ∀ j x, j ≠ i → env[j]? = some x → x.mine = true → σ[j]? ≠ some (some (V.ref p))) : REnv K ζ G A L H (σ.set i w) (env.set i o) where
  len := by rw [List.length_set, List.length_set]; exact R.len
  gh := R.gh
  ah := R.ah
  ag := R.ag
  sl := fun j u z e1 e2 => by
    by_cases hj : j = i
    · subst hj
      have hi : j < env.length := by
        have := (List.getElem?_eq_some_iff.mp e1).1
        rwa [List.length_set] at this
      have hi2 : j < σ.length := by rw [← R.len]; exact hi
      rw [List.getElem?_set_self hi] at e1
      rw [List.getElem?_set_self hi2] at e2
      cases e1; cases e2
      exact h
    · rw [List.getElem?_set_ne (Ne.symm hj)] at e1 e2
      exact R.sl j u z e1 e2
  inj := fun j k x y p e1 e2 m1 m2 z1 z2 => by
    by_cases hj : j = i
    · by_cases hk : k = i
      · rw [hj, hk]
      · subst hj
        have hi : j < env.length := by
          have := (List.getElem?_eq_some_iff.mp e1).1
          rwa [List.length_set] at this
        have hi2 : j < σ.length := by rw [← R.len]; exact hi
        rw [List.getElem?_set_self hi] at e1
        rw [List.getElem?_set_self hi2] at z1
        rw [List.getElem?_set_ne (Ne.symm hk)] at e2 z2
        cases e1; cases z1
        exact absurd z2 (hn m1 p rfl k y hk e2 m2)
    · by_cases hk : k = i
      · subst hk
        have hi : k < env.length := by
          have := (List.getElem?_eq_some_iff.mp e2).1
          rwa [List.length_set] at this
        have hi2 : k < σ.length := by rw [← R.len]; exact hi
        rw [List.getElem?_set_self hi] at e2
        rw [List.getElem?_set_self hi2] at z2
        rw [List.getElem?_set_ne (Ne.symm hj)] at e1 z1
        cases e2; cases z2
        exact absurd z1 (hn m2 p rfl j x hj e1 m1)
      · rw [List.getElem?_set_ne (Ne.symm hj)] at e1 z1
        rw [List.getElem?_set_ne (Ne.symm hk)] at e2 z2
        exact R.inj j k x y p e1 e2 m1 m2 z1 z2
  lp := fun j p e => by
    obtain ⟨w', xs, q⟩ := R.lp j p e
    have hj : j ≠ i := fun z => by
      subst z
      have := hp _ q
      cases this
    exact ⟨w', xs, by rw [List.getElem?_set_ne (Ne.symm hj)]; exact q⟩
  tu := R.tu
/-- the same at the env alone (the slot's value stands) -/
theorem set_env (R : REnv K ζ G A L H σ env) {i : Nat} {o : O} {w : Option V} (hw : σ[i]? = some w) (h : RSl K ζ G A L H i o w) (hp : ∀ x, env[i]? = some x → x.pinned = false) (ho : o.pinned = false)
    (hn : o.mine = true → ∀ p, w = some (.ref p) → ∀ j x, j ≠ i → env[j]? = some x → x.mine = true → σ[j]? ≠ some (some (V.ref p))) : REnv K ζ G A L H σ (env.set i o) := by
  have q := set_slot R h hp ho hn
  have e : σ.set i w = σ := by
    apply List.ext_getElem?
    intro j
    by_cases hj : j = i
    · subst hj
      rw [List.getElem?_set_self (List.getElem?_eq_some_iff.mp hw).1, hw]
    · rw [List.getElem?_set_ne (Ne.symm hj)]
  rwa [e] at q
end
section
variable {X : Cx} {ζ : Option ZI} {W : WX} {pos : Pos}
theorem r_c {e : Expr} {v : V} {d : D} (h : PE X e (tC v)) (r : ∀ G, Rp X.K G v d) : PE X e (tM X.K ζ (mC d)) := pew h fun σ H Q q => by
  obtain ⟨G, A, L, env, r0, env', R, e, q⟩ := q
  cases e
  exact q v H G (same_refl G) R (r G)
theorem r_int {i : Int} {j pos} : PE X (.Constant (.int i) j pos) (tM X.K ζ (mC (.int i))) := r_c pe_int fun _ => .int i
theorem r_bl {b : Bool} {j pos} : PE X (.Constant (.bool b) j pos) (tM X.K ζ (mC (.bool b))) := r_c pe_bl fun _ => .bl b
theorem r_non {j pos} : PE X (.Constant .none j pos) (tM X.K ζ (mC .none)) := r_c pe_non fun _ => .non
theorem r_str {x : Str} {j pos} : PE X (.Constant (.str x) j pos) (tM X.K ζ (mC (.str x))) := r_c pe_str fun _ => .str x
theorem r_pk {e : Expr} {i : Nat} (h : PE X e (tVar i)) : PE X e (tOpd X.K ζ (.pk i)) := h
theorem r_m {e : Expr} {m : M} (h : PE X e (tM X.K ζ m)) : PE X e (tOpd X.K ζ (.m m)) := h
/-- a slot gives up what it alone holds -/
theorem mine_un {K : PySem.W.Frag} {G A : Hp} {L : Nat → Option Addr} {H : Hp} {σ : St} {env : Env} (R : REnv K ζ G A L H σ env) {i : Nat} {x : O} {p : Addr} (eo : env[i]? = some x) (m : x.mine = true) (np : x.pinned = false) (hv : σ[i]? = some (some (V.ref p))) :
    REnv K ζ G A L H σ (env.set i .un) ∧ (∀ (j : Nat) (y : O), (env.set i .un)[j]? = some y → y.mine = true → σ[j]? ≠ some (some (V.ref p))) ∧ ∀ j, L j ≠ some p := by
  refine ⟨set_env R (w := some (.ref p)) hv trivial (fun y z => by rw [eo] at z; cases z; exact np) rfl (fun z => by cases z), fun j y ex my z => ?_, fun j z => ?_⟩
  · by_cases hj : j = i
    · subst hj
      rw [List.getElem?_set_self (List.getElem?_eq_some_iff.mp eo).1] at ex
      cases ex; cases my
    · rw [List.getElem?_set_ne (Ne.symm hj)] at ex
      exact hj (R.inj j i y _ p ex eo my m z hv)
  · obtain ⟨w, ys, ej⟩ := R.lp j p z
    have hj : j < σ.length := by rw [← R.len]; exact (List.getElem?_eq_some_iff.mp ej).1
    have hs := R.sl j _ σ[j] ej (by simp [hj])
    cases w with
    | true =>
      obtain ⟨p', _, h0, h1, _⟩ := hs
      rw [z] at h0; cases h0
      have := R.inj j i _ _ p ej eo rfl m (by rw [← h1]; simp [hj]) hv
      subst this
      rw [eo] at ej; cases ej; cases np
    | false =>
      obtain ⟨p', _, h0, _, h2, _⟩ := hs
      rw [z] at h0; cases h0
      obtain ⟨_, _, _, h3⟩ := slot_alive R eo m hv
      rw [h3] at h2; cases h2
/-- a slot's own is given to all, the slot keeps it -/
theorem mine_val {K : PySem.W.Frag} {G A : Hp} {L : Nat → Option Addr} {H : Hp} {σ : St} {env : Env} (R : REnv K ζ G A L H σ env) {i : Nat} {x : O} {p : Addr} {ob : HO} (eo : env[i]? = some x) (m : x.mine = true) (np : x.pinned = false) (hv : σ[i]? = some (some (V.ref p))) (hp : H p = some ob) {d : D}
    (rp : Rp K (upd G p ob) (.ref p) d) : Same G (upd G p ob) ∧ REnv K ζ (upd G p ob) A L H σ (env.set i (.val d)) := by
  obtain ⟨R1, k1, k2⟩ := mine_un R eo m np hv
  obtain ⟨_, _, gp, ap⟩ := slot_alive R eo m hv
  obtain ⟨s, R2⟩ := freezeO R1 hp gp ap k1 k2
  have R3 : REnv K ζ (upd G p ob) A L H σ ((env.set i .un).set i (.val d)) := set_env R2 (w := some (.ref p)) hv ⟨_, rfl, rp⟩ (fun x z => by
    rw [List.getElem?_set_self (List.getElem?_eq_some_iff.mp eo).1] at z
    cases z; rfl) rfl (fun z => by cases z)
  rw [List.set_set] at R3
  exact ⟨s, R3⟩
theorem r_v {e : Expr} {i : Nat} (h : PE X e (tVar i)) : PE X e (tM X.K ζ (mV i)) := pew h fun σ H Q q => by
  obtain ⟨G, A, L, env, r0, env', R, e, q⟩ := q
  unfold mV at e
  generalize ho : env.getD i .un = o at e
  match o, e with
  | .val d, e =>
    cases e
    obtain ⟨v, hv⟩ := live_val R (i := i) (by rw [ho] <;> rfl)
    have hs := R.sl i _ _ (getD_some ho rfl) hv
    obtain ⟨v', e1, hs⟩ := hs
    cases e1
    exact ⟨v, hv, q v H G (same_refl G) R hs⟩
  | .own xs, e =>
    cases e
    obtain ⟨v, hv⟩ := live_val R (i := i) (by rw [ho] <;> rfl)
    have eo := getD_some ho rfl
    obtain ⟨p, vs, e1, e2, e3, e4, hs⟩ := R.sl i _ _ eo hv
    cases e1
    have rp : Rp X.K (upd G p (.lst vs)) (.ref p) (.list xs) := .lst upd_same (hs.m (lay_same e3 _))
    obtain ⟨s, R3⟩ := mine_val R eo rfl rfl hv e2 rp
    exact ⟨_, hv, q _ H _ s R3 rp⟩
  | .dct tk xs, e =>
    cases e
    obtain ⟨v, hv⟩ := live_val R (i := i) (by rw [ho] <;> rfl)
    have eo := getD_some ho rfl
    obtain ⟨p, ob, e1, e2, e3, e4, hs⟩ := R.sl i _ _ eo hv
    cases e1
    have rp : Rp X.K (upd G p ob) (.ref p) (.dict xs) := (hs.m (lay_same e3 _)).rp upd_same
    obtain ⟨s, R3⟩ := mine_val R eo rfl rfl hv e2 rp
    exact ⟨_, hv, q _ H _ s R3 rp⟩
end
end SE

namespace SE
open PySem L2

/-! ### arithmetic -/
theorem sl_eq : (16777216 : Nat) = sizeLine := sizeLine_eq.symm
/-- a number of moderate size (told so that it is stuck at once where the number is not known) -/
def small (j : Int) : Bool := Nat.ble j.natAbs 1000000000000
theorem small_b {j : Int} (h : small j = true) : -1000000000000 ≤ j ∧ j ≤ 1000000000000 := by
  have := Nat.le_of_ble_eq_true h
  omega
theorem small_log {j : Int} (h : small j = true) : j.natAbs.log2 < 9000 := by
  have h1 := small_b h
  by_cases h0 : j.natAbs = 0
  · rw [h0]; decide
  · have : j.natAbs < 2 ^ 40 := by omega
    have := (Nat.log2_lt h0).mpr this
    omega
def oAdd : O → O → Res O
  | .val (.int i), .val (.int j) => .ok (.val (.int (i + j)))
  | .val (.str a), .val (.str b) => if a.length + b.length ≤ 16777216 then .ok (.val (.str (a ++ b))) else .stuck
  | .val (.tuple xs), .val (.tuple ys) => if xs.length + ys.length ≤ 16777216 then .ok (.val (.tuple (xs ++ ys))) else .stuck
  | x, y => match x.l, y.l with
    | some xs, some ys => if xs.length + ys.length ≤ 16777216 then .ok (.own (xs ++ ys)) else .stuck
    | _, _ => .stuck
def rAddA (K : PySem.W.Frag) : R2 := fun x y H Q => (rI0 fun i j => .int (i + j)) x y H Q ∨ (∃ i j, x = .str i ∧ y = .str j ∧ i.length + j.length ≤ sizeLine ∧ Q (.str (i ++ j)) H) ∨ rCatA K x y H Q ∨ rCat x y H Q
theorem op_addA {X : Cx} : OpR X (binaryOp .Add) (rAddA X.K) := op_add.or (op_add_str.or (op_catA.or op_cat))
theorem sem_add {K : PySem.W.Frag} : Sem2 K oAdd (rAddA K) := by
  intro ζ G A L H σ env x y rx ry r0 Q R hx hy e q
  have lists : ∀ {xs ys : List D}, rx.l = some xs → ry.l = some ys → (if xs.length + ys.length ≤ 16777216 then Res.ok (O.own (xs ++ ys)) else .stuck) = .ok r0 → rAddA K x y H Q := by
    intro xs ys e1 e2 e
    by_cases z : xs.length + ys.length ≤ 16777216
    · rw [if_pos z] at e
      cases e
      obtain ⟨p, vs, rfl, h1, h2⟩ := hx.l R.gh e1
      obtain ⟨p', vs', rfl, h3, h4⟩ := hy.l R.gh e2
      exact .inr (.inr (.inr ⟨_, _, _, _, rfl, rfl, h1, h3, by rw [h2.length, h4.length, ← sl_eq]; exact z, q.lst R (h2.app h4)⟩))
    · rw [if_neg z] at e; cases e
  unfold oAdd at e
  split at e
  · cases e; cases hx; cases hy
    exact .inl ⟨_, _, rfl, rfl, q.val R (.int _)⟩
  · rename_i a b
    by_cases z : a.length + b.length ≤ 16777216
    · rw [if_pos z] at e
      cases e; cases hx; cases hy
      exact .inr (.inl ⟨_, _, rfl, rfl, by rw [← sl_eq]; exact z, q.val R (.str _)⟩)
    · rw [if_neg z] at e; cases e
  · rename_i xs ys
    by_cases z : xs.length + ys.length ≤ 16777216
    · rw [if_pos z] at e
      cases e
      cases hx with
      | tup h1 h2 =>
        cases hy with
        | tup h3 h4 =>
          refine .inr (.inr (.inl ⟨_, _, _, _, rfl, rfl, sameT R.gh (.of h1), sameT R.gh (.of h3), by rw [h2.length, h4.length, ← sl_eq]; exact z, fun w => ?_, fun _ w => ?_, fun _ _ => q.tup R (h2.app h4)⟩))
          · subst w; cases h2; exact q.val R (.tup h3 h4)
          · subst w; cases h4; exact q.val R (.tup h1 (by rw [List.append_nil]; exact h2))
    · rw [if_neg z] at e; cases e
  · split at e
    · exact lists (by assumption) (by assumption) e
    · cases e
def oSub : O → O → Res O
  | .val (.int i), .val (.int j) => .ok (.val (.int (i - j)))
  | _, _ => .stuck
theorem sem_sub {K : PySem.W.Frag} : Sem2 K oSub (rI0 fun i j => .int (i - j)) := by
  intro ζ G A L H σ env x y rx ry r0 Q R hx hy e q
  unfold oSub at e
  split at e
  · cases e; cases hx; cases hy
    exact ⟨_, _, rfl, rfl, q.val R (.int _)⟩
  · cases e
def oMul : O → O → Res O
  | .val (.int i), .val (.int j) => if small i = true ∨ small j = true then .ok (.val (.int (i * j))) else .stuck
  | x, .val (.int k) => match x.l with
    | some xs => if small k = true ∧ xs.length * k.toNat ≤ 16777216 then .ok (.own (List.replicate k.toNat xs).flatten) else .stuck
    | _ => .stuck
  | _, _ => .stuck
theorem op_mulA {X : Cx} : OpR X (binaryOp .Mult) (fun x y H Q => rI CMul (fun i j => .int (i * j)) x y H Q ∨ rRep x y H Q) := op_mul.or op_rep
theorem sem_mul {K : PySem.W.Frag} : Sem2 K oMul (fun x y H Q => rI CMul (fun i j => .int (i * j)) x y H Q ∨ rRep x y H Q) := by
  intro ζ G A L H σ env x y rx ry r0 Q R hx hy e q
  unfold oMul at e
  split at e
  · split at e
    · rename_i z
      cases e; cases hx; cases hy
      exact .inl ⟨_, _, rfl, rfl, z.imp (fun z => by have := small_b z; omega) (fun z => by have := small_b z; omega), q.val R (.int _)⟩
    · cases e
  · split at e
    · rename_i xs e1
      split at e
      · rename_i z
        cases e; cases hy
        obtain ⟨p, vs, rfl, h1, h2⟩ := hx.l R.gh e1
        exact .inr ⟨_, _, _, rfl, rfl, h1, by have := small_b z.1; omega, by have := small_b z.1; omega, by rw [h2.length, ← sl_eq]; exact z.2, q.lst R (h2.rep _)⟩
      · cases e
    · cases e
  · cases e
def oMod : O → O → Res O
  | .val (.int i), .val (.int j) => if 0 < j then .ok (.val (.int (i % j))) else .stuck
  | _, _ => .stuck
theorem sem_mod {K : PySem.W.Frag} : Sem2 K oMod (rI (fun _ j => 0 < j) fun i j => .int (i % j)) := by
  intro ζ G A L H σ env x y rx ry r0 Q R hx hy e q
  unfold oMod at e
  split at e
  · split at e
    · rename_i z
      cases e; cases hx; cases hy
      exact ⟨_, _, rfl, rfl, z, q.val R (.int _)⟩
    · cases e
  · cases e
def oDiv : O → O → Res O
  | .val (.int i), .val (.int j) => if 0 < j ∧ small j = true then .ok (.val (.int (i / j))) else .stuck
  | _, _ => .stuck
theorem sem_div {K : PySem.W.Frag} : Sem2 K oDiv (rI CDivW fun i j => .int (i / j)) := by
  intro ζ G A L H σ env x y rx ry r0 Q R hx hy e q
  unfold oDiv at e
  split at e
  · split at e
    · rename_i z
      cases e; cases hx; cases hy
      exact ⟨_, _, rfl, rfl, ⟨z.1, small_log z.2⟩, q.val R (.int _)⟩
    · cases e
  · cases e
def oPow : O → O → Res O
  | .val (.int i), .val (.int j) => if 0 ≤ j ∧ Nat.ble j.natAbs 1000000 = true ∧ small i = true then .ok (.val (.int (i ^ j.toNat))) else .stuck
  | _, _ => .stuck
theorem sem_pow {K : PySem.W.Frag} : Sem2 K oPow (rI CPow fun i j => .int (i ^ j.toNat)) := by
  intro ζ G A L H σ env x y rx ry r0 Q R hx hy e q
  unfold oPow at e
  split at e
  · split at e
    · rename_i z
      cases e; cases hx; cases hy
      exact ⟨_, _, rfl, rfl, ⟨z.1, by have := Nat.le_of_ble_eq_true z.2.1; omega, by have := small_b z.2.2; omega⟩, q.val R (.int _)⟩
    · cases e
  · cases e
def oNeg : O → Res O
  | .val (.int i) => .ok (.val (.int (-i)))
  | _ => .stuck
theorem sem_neg {K : PySem.W.Frag} : Sem1 K oNeg (rU fun i => .int (-i)) := by
  intro ζ G A L H σ env x rx r0 Q R hx e q
  unfold oNeg at e
  split at e
  · cases e; cases hx
    exact ⟨_, rfl, q.val R (.int _)⟩
  · cases e

/-! ### comparisons -/
/-- == of two data, where the rules tell it -/
def eqD : D → D → Option Bool
  | .str a, .str b => some (a == b)
  | .str _, .none => some false
  | .none, .str _ => some false
  | .str _, .int _ => some false
  | .int _, .str _ => some false
  | d, e => if (SeqAt.shaped d && SeqAt.shaped e) = true then some (PyData.eqv d e) else none
def oEq (x y : O) : Res O := match x.d, y.d with
  | some d, some e => match eqD d e with
    | some b => .ok (.val (.bool b))
    | none => .stuck
  | _, _ => .stuck
def oNe (x y : O) : Res O := match x.d, y.d with
  | some d, some e => match eqD d e with
    | some b => .ok (.val (.bool (!b)))
    | none => .stuck
  | _, _ => .stuck
def rEqA (K : PySem.W.Frag) : R2 := fun x y H Q => rEq x y H Q ∨ rEqD K x y H Q
def rNeA (K : PySem.W.Frag) : R2 := fun x y H Q => rNe x y H Q ∨ rNeD K x y H Q
theorem op_eqA {X : Cx} (hu : X.A.units + 64 < cLine) : OpR X (compareOp .Eq) (rEqA X.K) := op_eq.or (op_eqD hu)
theorem op_neA {X : Cx} (hu : X.A.units + 64 < cLine) : OpR X (compareOp .NotEq) (rNeA X.K) := op_ne.or (op_neD hu)
theorem eqD_ok {K : PySem.W.Frag} {H : Hp} {x y : V} {d e : D} {b : Bool} (hx : Rp K H x d) (hy : Rp K H y e) (h : eqD d e = some b) :
    (scal x y = true ∧ decide (x = y) = b) ∨ (Dp K H x d ∧ Dp K H y e ∧ SeqAt.shaped d = true ∧ SeqAt.shaped e = true ∧ PyData.eqv d e = b) := by
  unfold eqD at h
  split at h
  · cases h; cases hx; cases hy
    exact .inl ⟨rfl, dec_str⟩
  · cases h; cases hx; cases hy; exact .inl ⟨rfl, by simp⟩
  · cases h; cases hx; cases hy; exact .inl ⟨rfl, by simp⟩
  · cases h; cases hx; cases hy; exact .inl ⟨rfl, by simp⟩
  · cases h; cases hx; cases hy; exact .inl ⟨rfl, by simp⟩
  · split at h
    · rename_i z
      rw [Bool.and_eq_true] at z
      cases h
      exact .inr ⟨Rp.dp _ _ (shaped_plain z.1) hx, Rp.dp _ _ (shaped_plain z.2) hy, z.1, z.2, rfl⟩
    · cases h
theorem sem_eq {K : PySem.W.Frag} : Sem2 K oEq (rEqA K) := by
  intro ζ G A L H σ env x y rx ry r0 Q R hx hy e q
  unfold oEq at e
  split at e
  · rename_i d d' e1 e2
    split at e
    · rename_i b eb
      cases e
      rcases eqD_ok (hx.d R.gh e1) (hy.d R.gh e2) eb with ⟨h1, h2⟩ | ⟨h1, h2, h3, h4, h5⟩
      · exact .inl ⟨h1, by rw [h2]; exact q.val R (.bl _)⟩
      · exact .inr ⟨_, _, h1, h2, h3, h4, by rw [h5]; exact q.val R (.bl _)⟩
    · cases e
  · cases e
theorem sem_ne {K : PySem.W.Frag} : Sem2 K oNe (rNeA K) := by
  intro ζ G A L H σ env x y rx ry r0 Q R hx hy e q
  unfold oNe at e
  split at e
  · rename_i d d' e1 e2
    split at e
    · rename_i b eb
      cases e
      rcases eqD_ok (hx.d R.gh e1) (hy.d R.gh e2) eb with ⟨h1, h2⟩ | ⟨h1, h2, h3, h4, h5⟩
      · exact .inl ⟨h1, by rw [h2]; exact q.val R (.bl _)⟩
      · exact .inr ⟨_, _, h1, h2, h3, h4, by rw [h5]; exact q.val R (.bl _)⟩
    · cases e
  · cases e
def oLt : O → O → Res O
  | .val (.int i), .val (.int j) => .ok (.val (.bool (decide (i < j))))
  | _, _ => .stuck
def oLe : O → O → Res O
  | .val (.int i), .val (.int j) => .ok (.val (.bool (decide (i ≤ j))))
  | _, _ => .stuck
def oGt : O → O → Res O
  | .val (.int i), .val (.int j) => .ok (.val (.bool (decide (j < i))))
  | _, _ => .stuck
def oGe : O → O → Res O
  | .val (.int i), .val (.int j) => .ok (.val (.bool (decide (j ≤ i))))
  | _, _ => .stuck
theorem sem_lt {K : PySem.W.Frag} : Sem2 K oLt (rI0 fun i j => .bl (decide (i < j))) := by
  intro ζ G A L H σ env x y rx ry r0 Q R hx hy e q
  unfold oLt at e
  split at e
  · cases e; cases hx; cases hy; exact ⟨_, _, rfl, rfl, q.val R (.bl _)⟩
  · cases e
theorem sem_le {K : PySem.W.Frag} : Sem2 K oLe (rI0 fun i j => .bl (decide (i ≤ j))) := by
  intro ζ G A L H σ env x y rx ry r0 Q R hx hy e q
  unfold oLe at e
  split at e
  · cases e; cases hx; cases hy; exact ⟨_, _, rfl, rfl, q.val R (.bl _)⟩
  · cases e
theorem sem_gt {K : PySem.W.Frag} : Sem2 K oGt (rI0 fun i j => .bl (decide (j < i))) := by
  intro ζ G A L H σ env x y rx ry r0 Q R hx hy e q
  unfold oGt at e
  split at e
  · cases e; cases hx; cases hy; exact ⟨_, _, rfl, rfl, q.val R (.bl _)⟩
  · cases e
theorem sem_ge {K : PySem.W.Frag} : Sem2 K oGe (rI0 fun i j => .bl (decide (j ≤ i))) := by
  intro ζ G A L H σ env x y rx ry r0 Q R hx hy e q
  unfold oGe at e
  split at e
  · cases e; cases hx; cases hy; exact ⟨_, _, rfl, rfl, q.val R (.bl _)⟩
  · cases e

/-! ### is -/
def rIsC : R2 := fun x y H Q => (y = .non ∨ ∃ b, y = .bl b) ∧ Q (.bl (decide (x = y))) H
def rIsNotC : R2 := fun x y H Q => (y = .non ∨ ∃ b, y = .bl b) ∧ Q (.bl (!decide (x = y))) H
theorem isC {x y : V} {v u : Value} (rx : RelV x v) (ry : RelV y u) (h : y = .non ∨ ∃ b, y = .bl b) : plainIs v u = true ∧ (v == u) = decide (x = y) := by
  have hu : (u = Value.none ∧ y = .non) ∨ ∃ b, u = Value.bool b ∧ y = .bl b := by
    rcases h with rfl | ⟨b, rfl⟩
    · exact .inl ⟨ry, rfl⟩
    · exact .inr ⟨b, ry, rfl⟩
  have key : plainIs v u = true ∧ (v = u ↔ x = y) := by
    rcases hu with ⟨rfl, rfl⟩ | ⟨b, rfl, rfl⟩ <;> cases x <;> first
      | (cases rx; exact ⟨rfl, by simp⟩)
      | (obtain ⟨t, rfl⟩ := rx; exact ⟨rfl, by simp⟩)
  refine ⟨key.1, ?_⟩
  by_cases z : x = y
  · rw [decide_eq_true z]; exact beq_iff_eq.mpr (key.2.mpr z)
  · rw [decide_eq_false z]; exact beq_eq_false_iff_ne.mpr fun w => z (key.2.mp w)
theorem op_isC {X : Cx} : OpR X (compareOp .Is) rIsC := by
  intro pins s σ H x y v u Q I rx ry h
  obtain ⟨h, q⟩ := h
  obtain ⟨h1, h2⟩ := isC rx ry h
  exact wpAny_is_plain h1 ⟨.bl _, H, I, by rw [h2] <;> rfl, q⟩
theorem op_isNotC {X : Cx} : OpR X (compareOp .IsNot) rIsNotC := by
  intro pins s σ H x y v u Q I rx ry h
  obtain ⟨h, q⟩ := h
  obtain ⟨h1, h2⟩ := isC rx ry h
  exact wpAny_isNot_plain h1 ⟨.bl _, H, I, by rw [h2] <;> rfl, q⟩
/-- x is None, x is True, x is False -/
def isD : D → D → Option Bool
  | .none, .none => some true
  | .bool a, .bool b => some (a == b)
  | _, .none => some false
  | _, .bool _ => some false
  | _, _ => none
def isO (x y : O) : Option Bool := match x.d, y.d with
  | some d, some e => isD d e
  | _, _ => none
def oIs (x y : O) : Res O := match isO x y with
  | some b => .ok (.val (.bool b))
  | none => .stuck
def oIsNot (x y : O) : Res O := match isO x y with
  | some b => .ok (.val (.bool (!b)))
  | none => .stuck
theorem isO_ok {K : PySem.W.Frag} {G H : Hp} {x y : V} {rx ry : O} {b : Bool} (gh : Same G H) (hx : Rdy K G H rx x) (hy : Rdy K G H ry y) (h : isO rx ry = some b) : (y = .non ∨ ∃ b, y = .bl b) ∧ decide (x = y) = b := by
  unfold isO at h
  split at h
  · rename_i d e e1 e2
    have h1 := hx.d gh e1
    have h2 := hy.d gh e2
    unfold isD at h
    split at h
    · cases h; cases h1; cases h2; exact ⟨.inl rfl, by simp⟩
    · cases h; cases h1; cases h2; exact ⟨.inr ⟨_, rfl⟩, dec_bl⟩
    · rename_i hne
      cases h; cases h2
      refine ⟨.inl rfl, decide_eq_false fun z => ?_⟩
      subst z; cases h1; exact hne rfl
    · rename_i hne
      cases h; cases h2
      refine ⟨.inr ⟨_, rfl⟩, decide_eq_false fun z => ?_⟩
      subst z; cases h1; exact hne _ rfl
    · cases h
  · cases h
theorem sem_is {K : PySem.W.Frag} : Sem2 K oIs rIsC := by
  intro ζ G A L H σ env x y rx ry r0 Q R hx hy e q
  unfold oIs at e
  split at e
  · rename_i b eb
    cases e
    obtain ⟨h1, h2⟩ := isO_ok R.gh hx hy eb
    exact ⟨h1, by rw [h2]; exact q.val R (.bl _)⟩
  · cases e
theorem sem_isNot {K : PySem.W.Frag} : Sem2 K oIsNot rIsNotC := by
  intro ζ G A L H σ env x y rx ry r0 Q R hx hy e q
  unfold oIsNot at e
  split at e
  · rename_i b eb
    cases e
    obtain ⟨h1, h2⟩ := isO_ok R.gh hx hy eb
    exact ⟨h1, by rw [h2]; exact q.val R (.bl _)⟩
  · cases e

/-! ### in -/
def inO (x y : O) : Option Bool := match x.d, y.l with
  | some d, some es => if (SeqAt.shaped d && SeqAt.shaped (.list es)) = true then some (es.any fun z => PyData.eqv z d) else none
  | _, _ => none
def oIn (x y : O) : Res O := match inO x y with
  | some b => .ok (.val (.bool b))
  | none => .stuck
def oNotIn (x y : O) : Res O := match inO x y with
  | some b => .ok (.val (.bool (!b)))
  | none => .stuck
theorem inO_ok {K : PySem.W.Frag} {G H : Hp} {x y : V} {rx ry : O} {b : Bool} (gh : Same G H) (hx : Rdy K G H rx x) (hy : Rdy K G H ry y) (h : inO rx ry = some b) :
    ∃ d ds, Dp K H x d ∧ Dp K H y (.list ds) ∧ SeqAt.shaped d = true ∧ SeqAt.shaped (.list ds) = true ∧ (ds.any fun z => PyData.eqv z d) = b := by
  unfold inO at h
  split at h
  · rename_i d es e1 e2
    split at h
    · rename_i z
      rw [Bool.and_eq_true] at z
      cases h
      exact ⟨d, es, Rp.dp _ _ (shaped_plain z.1) (hx.d gh e1), Rp.dp _ _ (shaped_plain z.2) (hy.d gh (l_d e2)), z.1, z.2, rfl⟩
    · cases h
  · cases h
theorem sem_in {K : PySem.W.Frag} : Sem2 K oIn (rInD K) := by
  intro ζ G A L H σ env x y rx ry r0 Q R hx hy e q
  unfold oIn at e
  split at e
  · rename_i b eb
    cases e
    obtain ⟨d, ds, h1, h2, h3, h4, h5⟩ := inO_ok R.gh hx hy eb
    exact ⟨d, ds, h1, h2, h3, h4, by rw [h5]; exact q.val R (.bl _)⟩
  · cases e
theorem sem_notIn {K : PySem.W.Frag} : Sem2 K oNotIn (rNotInD K) := by
  intro ζ G A L H σ env x y rx ry r0 Q R hx hy e q
  unfold oNotIn at e
  split at e
  · rename_i b eb
    cases e
    obtain ⟨d, ds, h1, h2, h3, h4, h5⟩ := inO_ok R.gh hx hy eb
    exact ⟨d, ds, h1, h2, h3, h4, by rw [h5]; exact q.val R (.bl _)⟩
  · cases e

/-! ### places -/
theorem atI_all {K : PySem.W.Frag} {G : Hp} {vs : List V} {ds : List D} {i : Int} {d : D} (h : RpAll K G vs ds) (e : atI ds i = some d) : ∃ v, atI vs i = some v ∧ Rp K G v d := by
  unfold atI at e ⊢
  rw [h.length]
  cases q : ixN ds.length i with
  | none => rw [q] at e; cases e
  | some j =>
    rw [q] at e
    exact h.getD e
def oIx : O → O → Res O
  | .val (.tuple xs), .val (.int i) => match atI xs i with
    | some d => .ok (.val d)
    | none => .stuck
  | .val (.str z), .val (.int i) => match atI z.cps.toList i with
    | some c => if z.length ≤ 16777216 then .ok (.val (.str ⟨#[c]⟩)) else .stuck
    | none => .stuck
  | x, .val (.int i) => match x.l with
    | some xs => match atI xs i with
      | some d => .ok (.val d)
      | none => .stuck
    | none => .stuck
  | _, _ => .stuck
theorem sem_ix {K : PySem.W.Frag} : Sem2 K oIx (rIx K) := by
  intro ζ G A L H σ env x y rx ry r0 Q R hx hy e q
  unfold oIx at e
  split at e
  · split at e
    · rename_i d ed
      cases e; cases hy
      cases hx with
      | tup h1 h2 =>
        obtain ⟨v, e1, rv⟩ := atI_all h2 ed
        exact .inr (.inl ⟨_, _, _, _, rfl, rfl, sameT R.gh (.of h1), e1, q.val R rv⟩)
    · cases e
  · split at e
    · rename_i c ec
      split at e
      · rename_i z
        cases e; cases hy; cases hx
        exact .inr (.inr ⟨_, _, _, rfl, rfl, by rw [← sl_eq]; exact z, ec, q.val R (.str _)⟩)
      · cases e
    · cases e
  · split at e
    · rename_i xs el
      split at e
      · rename_i d ed
        cases e; cases hy
        obtain ⟨p, vs, rfl, h1, h2⟩ := hx.l R.gh el
        obtain ⟨v, e1, rv⟩ := atI_all h2 ed
        exact .inl ⟨_, _, _, _, rfl, rfl, .of h1, e1, q.val R rv⟩
      · cases e
    · cases e
  · cases e

/-! ### built-ins -/
def oLen : O → Res O
  | .val (.str z) => if z.length ≤ 16777216 then .ok (.val (.int z.length)) else .stuck
  | .val (.tuple xs) => .ok (.val (.int xs.length))
  | x => match x.l with
    | some xs => .ok (.val (.int xs.length))
    | none => .stuck
theorem sem_len {X : Cx} : Sem1 X.K oLen fun v H Q => ∃ x n, [v] = [x] ∧ LenV X.K x H n ∧ Q (.int n) H := by
  intro ζ G A L H σ env x rx r0 Q R hx e q
  unfold oLen at e
  split at e
  · split at e
    · rename_i z
      cases e; cases hx
      exact ⟨_, _, rfl, ⟨by rw [← sl_eq]; exact z, rfl⟩, q.val R (.int _)⟩
    · cases e
  · cases e
    cases hx with
    | tup h1 h2 => exact ⟨_, _, rfl, .inr ⟨_, sameT R.gh (.of h1), rfl⟩, by rw [h2.length]; exact q.val R (.int _)⟩
  · split at e
    · rename_i xs el
      cases e
      obtain ⟨p, vs, rfl, h1, h2⟩ := hx.l R.gh el
      exact ⟨_, _, rfl, .inl ⟨_, .of h1, rfl⟩, by rw [h2.length]; exact q.val R (.int _)⟩
    · cases e
def oAbs : O → Res O
  | .val (.int i) => .ok (.val (.int (if i < 0 then -i else i)))
  | _ => .stuck
theorem sem_abs {K : PySem.W.Frag} : Sem1 K oAbs fun v H Q => ∃ i, [v] = [.int i] ∧ Q (.int (if i < 0 then -i else i)) H := by
  intro ζ G A L H σ env x rx r0 Q R hx e q
  unfold oAbs at e
  split at e
  · cases e; cases hx; exact ⟨_, rfl, q.val R (.int _)⟩
  · cases e
def oInt : O → Res O
  | .val (.int i) => .ok (.val (.int i))
  | .val (.bool b) => .ok (.val (.int (if b then 1 else 0)))
  | _ => .stuck
theorem sem_int {K : PySem.W.Frag} : Sem1 K oInt fun v H Q => (∃ i, [v] = [.int i] ∧ Q (.int i) H) ∨ ∃ k, [v] = [.bl k] ∧ Q (.int (if k then 1 else 0)) H := by
  intro ζ G A L H σ env x rx r0 Q R hx e q
  unfold oInt at e
  split at e
  · cases e; cases hx; exact .inl ⟨_, rfl, q.val R (.int _)⟩
  · cases e; cases hx; exact .inr ⟨_, rfl, q.val R (.int _)⟩
  · cases e
def oMax : O → O → Res O
  | .val (.int i), .val (.int j) => .ok (.val (.int (if j > i then j else i)))
  | _, _ => .stuck
def oMin : O → O → Res O
  | .val (.int i), .val (.int j) => .ok (.val (.int (if j < i then j else i)))
  | _, _ => .stuck
theorem sem_max {K : PySem.W.Frag} : Sem2 K oMax fun v w H Q => ∃ i j, [v, w] = [.int i, .int j] ∧ Q (.int (if j > i then j else i)) H := by
  intro ζ G A L H σ env x y rx ry r0 Q R hx hy e q
  unfold oMax at e
  split at e
  · cases e; cases hx; cases hy; exact ⟨_, _, rfl, q.val R (.int _)⟩
  · cases e
theorem sem_min {K : PySem.W.Frag} : Sem2 K oMin fun v w H Q => ∃ i j, [v, w] = [.int i, .int j] ∧ Q (.int (if j < i then j else i)) H := by
  intro ζ G A L H σ env x y rx ry r0 Q R hx hy e q
  unfold oMin at e
  split at e
  · cases e; cases hx; cases hy; exact ⟨_, _, rfl, q.val R (.int _)⟩
  · cases e
/-- a list of ints, of bools -/
def dInts : List D → Option (List Int)
  | [] => some []
  | .int i :: r => (dInts r).map (i :: ·)
  | _ => none
def dBools : List D → Option (List Bool)
  | [] => some []
  | .bool b :: r => (dBools r).map (b :: ·)
  | _ => none
theorem dInts_v {K : PySem.W.Frag} {G : Hp} : ∀ {ds : List D} {ns : List Int} {vs : List V}, dInts ds = some ns → RpAll K G vs ds → vs = ns.map V.int
  | [], ns, vs, e, h => by cases e; cases h; rfl
  | .int i :: ds, ns, vs, e, h => by
    cases h with
    | cons h1 h2 =>
      cases h1
      unfold dInts at e
      cases q : dInts ds with
      | none => rw [q] at e; cases e
      | some ms => rw [q] at e; cases e; rw [dInts_v q h2]; rfl
  | .none :: _, _, _, e, _ => by cases e
  | .bool _ :: _, _, _, e, _ => by cases e
  | .str _ :: _, _, _, e, _ => by cases e
  | .list _ :: _, _, _, e, _ => by cases e
  | .tuple _ :: _, _, _, e, _ => by cases e
  | .dict _ :: _, _, _, e, _ => by cases e
theorem dBools_v {K : PySem.W.Frag} {G : Hp} : ∀ {ds : List D} {ns : List Bool} {vs : List V}, dBools ds = some ns → RpAll K G vs ds → vs = ns.map V.bl
  | [], ns, vs, e, h => by cases e; cases h; rfl
  | .bool i :: ds, ns, vs, e, h => by
    cases h with
    | cons h1 h2 =>
      cases h1
      unfold dBools at e
      cases q : dBools ds with
      | none => rw [q] at e; cases e
      | some ms => rw [q] at e; cases e; rw [dBools_v q h2]; rfl
  | .none :: _, _, _, e, _ => by cases e
  | .int _ :: _, _, _, e, _ => by cases e
  | .str _ :: _, _, _, e, _ => by cases e
  | .list _ :: _, _, _, e, _ => by cases e
  | .tuple _ :: _, _, _, e, _ => by cases e
  | .dict _ :: _, _, _, e, _ => by cases e
def lints (x : O) : Option (List Int) := x.l.bind dInts
def lbools (x : O) : Option (List Bool) := x.l.bind dBools
theorem lints_ok {K : PySem.W.Frag} {G H : Hp} {r : O} {v : V} {ns : List Int} (gh : Same G H) (h : Rdy K G H r v) (e : lints r = some ns) : ∃ p, v = .ref p ∧ H p = some (.lst (ns.map V.int)) := by
  unfold lints at e
  cases q : r.l with
  | none => rw [q] at e; cases e
  | some xs =>
    rw [q] at e
    obtain ⟨p, vs, rfl, h1, h2⟩ := h.l gh q
    exact ⟨p, rfl, by rw [h1, dInts_v e h2]⟩
theorem lbools_ok {K : PySem.W.Frag} {G H : Hp} {r : O} {v : V} {ns : List Bool} (gh : Same G H) (h : Rdy K G H r v) (e : lbools r = some ns) : ∃ p, v = .ref p ∧ H p = some (.lst (ns.map V.bl)) := by
  unfold lbools at e
  cases q : r.l with
  | none => rw [q] at e; cases e
  | some xs =>
    rw [q] at e
    obtain ⟨p, vs, rfl, h1, h2⟩ := h.l gh q
    exact ⟨p, rfl, by rw [h1, dBools_v e h2]⟩
def oSum (x : O) : Res O := match lints x with
  | some ns => .ok (.val (.int ns.sum))
  | none => .stuck
theorem sem_sum {K : PySem.W.Frag} : Sem1 K oSum fun v H Q => rSum K [v] H Q := by
  intro ζ G A L H σ env x rx r0 Q R hx e q
  unfold oSum at e
  split at e
  · rename_i ns en
    cases e
    obtain ⟨p, rfl, hp⟩ := lints_ok R.gh hx en
    exact ⟨p, ns, rfl, .of hp, q.val R (.int _)⟩
  · cases e
def oAny (x : O) : Res O := match lbools x with
  | some ns => .ok (.val (.bool (ns.any id)))
  | none => .stuck
def oAll (x : O) : Res O := match lbools x with
  | some ns => .ok (.val (.bool (ns.all id)))
  | none => .stuck
theorem sem_any {K : PySem.W.Frag} : Sem1 K oAny fun v H Q => rAny K [v] H Q := by
  intro ζ G A L H σ env x rx r0 Q R hx e q
  unfold oAny at e
  split at e
  · rename_i ns en
    cases e
    obtain ⟨p, rfl, hp⟩ := lbools_ok R.gh hx en
    exact ⟨p, ns, rfl, .of hp, q.val R (.bl _)⟩
  · cases e
theorem sem_all {K : PySem.W.Frag} : Sem1 K oAll fun v H Q => rAll K [v] H Q := by
  intro ζ G A L H σ env x rx r0 Q R hx e q
  unfold oAll at e
  split at e
  · rename_i ns en
    cases e
    obtain ⟨p, rfl, hp⟩ := lbools_ok R.gh hx en
    exact ⟨p, ns, rfl, .of hp, q.val R (.bl _)⟩
  · cases e
/-- the greatest, the least of a list that is not empty -/
def maxL : List Int → Int
  | [] => 0
  | [a] => a
  | a :: r => max a (maxL r)
def minL : List Int → Int
  | [] => 0
  | [a] => a
  | a :: r => min a (minL r)
theorem maxL_ok : ∀ (ns : List Int), ns ≠ [] → maxL ns ∈ ns ∧ ∀ n ∈ ns, n ≤ maxL ns
  | [], h => absurd rfl h
  | [a], _ => by simp [maxL]
  | a :: b :: r, _ => by
    obtain ⟨h1, h2⟩ := maxL_ok (b :: r) (by simp)
    show max a (maxL (b :: r)) ∈ _ ∧ ∀ n ∈ a :: b :: r, n ≤ max a (maxL (b :: r))
    refine ⟨?_, fun n hn => ?_⟩
    · by_cases z : a ≤ maxL (b :: r)
      · rw [Int.max_eq_right z]; exact List.mem_cons_of_mem _ h1
      · rw [Int.max_eq_left (by omega)]; exact List.mem_cons_self
    · rcases List.mem_cons.mp hn with rfl | hn
      · omega
      · have := h2 n hn; omega
theorem minL_ok : ∀ (ns : List Int), ns ≠ [] → minL ns ∈ ns ∧ ∀ n ∈ ns, minL ns ≤ n
  | [], h => absurd rfl h
  | [a], _ => by simp [minL]
  | a :: b :: r, _ => by
    obtain ⟨h1, h2⟩ := minL_ok (b :: r) (by simp)
    show min a (minL (b :: r)) ∈ _ ∧ ∀ n ∈ a :: b :: r, min a (minL (b :: r)) ≤ n
    refine ⟨?_, fun n hn => ?_⟩
    · by_cases z : a ≤ minL (b :: r)
      · rw [Int.min_eq_left z]; exact List.mem_cons_self
      · rw [Int.min_eq_right (by omega)]; exact List.mem_cons_of_mem _ h1
    · rcases List.mem_cons.mp hn with rfl | hn
      · omega
      · have := h2 n hn; omega
theorem maxL_is {ns : List Int} {m : Int} (h1 : m ∈ ns) (h2 : ∀ n ∈ ns, n ≤ m) : m = maxL ns := by
  obtain ⟨h3, h4⟩ := maxL_ok ns (List.ne_nil_of_mem h1)
  have := h4 m h1
  have := h2 _ h3
  omega
theorem minL_is {ns : List Int} {m : Int} (h1 : m ∈ ns) (h2 : ∀ n ∈ ns, m ≤ n) : m = minL ns := by
  obtain ⟨h3, h4⟩ := minL_ok ns (List.ne_nil_of_mem h1)
  have := h4 m h1
  have := h2 _ h3
  omega
def oMaxL (x : O) : Res O := match lints x with
  | some (n :: ns) => .ok (.val (.int (maxL (n :: ns))))
  | _ => .stuck
def oMinL (x : O) : Res O := match lints x with
  | some (n :: ns) => .ok (.val (.int (minL (n :: ns))))
  | _ => .stuck
theorem sem_maxL {K : PySem.W.Frag} : Sem1 K oMaxL fun v H Q => rMax K [v] H Q := by
  intro ζ G A L H σ env x rx r0 Q R hx e q
  unfold oMaxL at e
  split at e
  · rename_i n ns en
    cases e
    obtain ⟨p, rfl, hp⟩ := lints_ok R.gh hx en
    exact ⟨p, n :: ns, rfl, .of hp, by simp, fun m h1 h2 => by rw [maxL_is h1 h2]; exact q.val R (.int _)⟩
  · cases e
theorem sem_minL {K : PySem.W.Frag} : Sem1 K oMinL fun v H Q => rMin K [v] H Q := by
  intro ζ G A L H σ env x rx r0 Q R hx e q
  unfold oMinL at e
  split at e
  · rename_i n ns en
    cases e
    obtain ⟨p, rfl, hp⟩ := lints_ok R.gh hx en
    exact ⟨p, n :: ns, rfl, .of hp, by simp, fun m h1 h2 => by rw [minL_is h1 h2]; exact q.val R (.int _)⟩
  · cases e
def oList : O → Res O
  | .scr ns => .ok (.own (ns.map .int))
  | .val (.tuple xs) => .ok (.own xs)
  | x => match x.l with
    | some xs => .ok (.own xs)
    | none => .stuck
theorem rp_ints {K : PySem.W.Frag} {G : Hp} : ∀ (ns : List Int), RpAll K G (ns.map V.int) (ns.map .int)
  | [] => .nil
  | n :: ns => .cons (.int n) (rp_ints ns)
theorem sem_list {X : Cx} : Sem1 X.K oList fun v H Q => ∃ p ys, [v] = [.ref p] ∧ (SqL X.K H p ys ∨ SqT X.K H p ys) ∧ ∀ l, H l = none → Q (.ref l) (upd H l (.lst ys)) := by
  intro ζ G A L H σ env x rx r0 Q R hx e q
  unfold oList at e
  split at e
  · cases e
    obtain ⟨p, rfl, h⟩ := hx
    exact ⟨p, _, rfl, .inl h, q.lst R (rp_ints _)⟩
  · cases e
    cases hx with
    | tup h1 h2 => exact ⟨_, _, rfl, .inr (sameT R.gh (.of h1)), q.lst R h2⟩
  · split at e
    · rename_i xs el
      cases e
      obtain ⟨p, vs, rfl, h1, h2⟩ := hx.l R.gh el
      exact ⟨_, _, rfl, .inl (.of h1), q.lst R h2⟩
    · cases e
def oTuple : O → Res O
  | .val (.tuple xs) => .ok (.val (.tuple xs))
  | x => match x.l with
    | some xs => .ok (.val (.tuple xs))
    | none => .stuck
theorem sem_tuple {X : Cx} : Sem1 X.K oTuple fun v H Q => ∃ p ys, [v] = [.ref p] ∧ ((SqL X.K H p ys ∧ ∀ l, H l = none → Q (.ref l) (upd H l (.tup ys))) ∨ (SqT X.K H p ys ∧ Q (.ref p) H)) := by
  intro ζ G A L H σ env x rx r0 Q R hx e q
  unfold oTuple at e
  split at e
  · cases e
    have hx' := hx
    cases hx with
    | tup h1 h2 => exact ⟨_, _, rfl, .inr ⟨sameT R.gh (.of h1), q.val R hx'⟩⟩
  · split at e
    · rename_i xs el
      cases e
      obtain ⟨p, vs, rfl, h1, h2⟩ := hx.l R.gh el
      exact ⟨_, _, rfl, .inl ⟨.of h1, q.tup R h2⟩⟩
    · cases e
/-- isinstance(x, T) -/
def tyD : D → String
  | .none => "NoneType"
  | .bool _ => "bool"
  | .int _ => "int"
  | .str _ => "str"
  | .list _ => "list"
  | .tuple _ => "tuple"
  | .dict _ => "dict"
def isiD (T : String) (d : D) : Bool := tyD d == T || (T == "int" && tyD d == "bool")
/-- no dict -/
def nodD : D → Bool
  | .dict _ => false
  | _ => true
def oIsi (T : String) (x : O) : Res O := match x.d with
  | some d => if nodD d = true then .ok (.val (.bool (isiD T d))) else .stuck
  | none => .stuck
end SE

namespace SE
open PySem L2

/-! ### isinstance -/
theorem kit_all : ∀ t ∈ ["NoneType", "bool", "int", "str", "list", "tuple", "dict"], ∀ T ∈ ["int", "bool", "str", "list", "tuple", "dict"], kitB t T = some (t == T || (T == "int" && t == "bool")) := by decide +kernel
theorem rp_ty {K : PySem.W.Frag} {H : Hp} {v : V} {d : D} (h : Rp K H v d) (nd : nodD d = true) : TyX K H v (.type (tyD d)) := by
  cases h with
  | non => exact .base .non
  | bl b => exact .base (.bl b)
  | int i => exact .base (.int i)
  | str x => exact .base (.str x)
  | lst h1 _ => exact .base (.lst h1)
  | tup h1 _ => exact .base (.tup h1)
  | dcK _ _ => cases nd
  | dcT _ _ => cases nd
theorem tyD_mem (d : D) : tyD d ∈ ["NoneType", "bool", "int", "str", "list", "tuple", "dict"] := by cases d <;> simp [tyD]
theorem sem_isi {K : PySem.W.Frag} {T : String} (hT : T ∈ ["int", "bool", "str", "list", "tuple", "dict"]) : Sem1 K (oIsi T) fun v H Q => rIsi K [v, .ty T] H Q := by
  intro ζ G A L H σ env x rx r0 Q R hx e q
  unfold oIsi at e
  split at e
  · rename_i d ed
    split at e
    rotate_left
    · cases e
    rename_i nd
    cases e
    exact ⟨x, .ty T, _, _, _, rfl, .ty T, rp_ty (hx.d R.gh ed) nd, kit_ty (kit_all _ (tyD_mem d) T hT), q.val R (.bl _)⟩
  · cases e
section
variable {X : Cx} {ζ : Option ZI} {W : WX} {a b c e : Expr} {oa ob oc : Opd} {pos : Pos}
theorem r_isi {T : String} {x : Str} {p p2 : Pos} (hT : T ∈ ["int", "bool", "str", "list", "tuple", "dict"]) (hm : X.mg "isinstance" = none) (hg2 : Gl X x) (hm2 : X.mg x = none) (hv2 : bootBuiltins x = some (.type T)) (ha : PE X a (tOpd X.K ζ oa)) (hg : Gl X "isinstance" := by rfl)
    (hv : bootBuiltins "isinstance" = some (.builtin "isinstance") := by decide +kernel) (hn : x ≠ "__name__" := by decide) (hdb : (x == ("__debug__" : Str)) = false := by decide)
    (he : starEach [a, .Name x p2] X.env = (false, eval a X.env) :: starEach [.Name x p2] X.env := by rfl) (he2 : starEach [.Name x p2] X.env = (false, eval (.Name x p2) X.env) :: starEach [] X.env := by rfl) (hpl : (backTo pos (starEach [.Name x p2] X.env)).any (·.1) = false := by rfl) :
    PE X (.Call (.Name "isinstance" p) [a, .Name x p2] [] pos) (tM X.K ζ (m1 (oIsi T) oa)) :=
  pew (pe_callB call_isi hg hm hv (pa_cons ha (pa_cons (pe_bltn (v := .ty T) hg2 hm2 hv2 rfl hn hdb) pa_nil he2) he) (by decide) (by decide) he hpl) fun _ _ _ h => m1_ok (sem_isi hT) h
end

/-! ### displays -/
/-- a value that all may keep -/
def frz (m : M) : M := fun env => (m env).bind fun p => match p.1 with
  | .val d => .ok (.val d, p.2)
  | .own xs => .ok (.val (.list xs), p.2)
  | .dct tk xs => .ok (.val (.dict xs), p.2)
  | _ => .stuck
theorem r_frz {X : Cx} {ζ : Option ZI} {e : Expr} {m : M} (h : PE X e (tM X.K ζ m)) : PE X e (tM X.K ζ (frz m)) := pew h fun σ H Q q => by
  obtain ⟨G, A, L, env, r0, env', R, e, q⟩ := q
  obtain ⟨⟨r, e1⟩, h1, h⟩ := bind_eq_ok e
  refine ⟨G, A, L, env, r, e1, R, h1, fun v H' G' s R' hv => ?_⟩
  match r, h, hv with
  | .val d, h, hv => cases h; exact q v H' G' s R' hv
  | .own xs, h, hv =>
    cases h
    obtain ⟨G2, s2, R2, rp⟩ := freeze R' hv
    exact q v H' G2 (s.trans s2) R2 rp
  | .dct tk xs, h, hv =>
    cases h
    obtain ⟨G2, s2, R2, rp⟩ := freezeD R' hv
    exact q v H' G2 (s.trans s2) R2 rp
def allV : List O → Option (List D)
  | [] => some []
  | .val d :: r => (allV r).map (d :: ·)
  | _ => none
theorem allV_ok {K : PySem.W.Frag} {ζ : Option ZI} {G A : Hp} {L : Nat → Option Addr} {H : Hp} {σ : St} {env : Env} (R : REnv K ζ G A L H σ env) {os : List Opd} {rs : List O} {vs : List V} (h : ROps K G A L H σ env os rs vs) : ∀ {ds : List D}, allV rs = some ds → RpAll K G vs ds := by
  induction h with
  | nil => intro ds e; cases e; exact .nil
  | @cons o os r rs v vs h1 _ ih =>
    intro ds e
    match r, e, h1 with
    | .val d, e, h1 =>
      unfold allV at e
      cases q : allV rs with
      | none => rw [q] at e; cases e
      | some ds' =>
        rw [q] at e; cases e
        exact .cons (h1.rdy R rfl) (ih q)
theorem rops_len {K : PySem.W.Frag} {G A : Hp} {L : Nat → Option Addr} {H : Hp} {σ : St} {env : Env} {os : List Opd} {rs : List O} {vs : List V} (h : ROps K G A L H σ env os rs vs) : vs.length = os.length := by
  induction h with
  | nil => rfl
  | cons _ _ ih => rw [List.length_cons, List.length_cons, ih]
def mTup (os : List Opd) : M := fun env => (pass os env).bind fun p => match allV p.1 with
  | some ds => .ok (.val (.tuple ds), p.2)
  | none => .stuck
def mLst (os : List Opd) : M := fun env => (pass os env).bind fun p => match allV p.1 with
  | some ds => .ok (.own ds, p.2)
  | none => .stuck
theorem le_line {n : Nat} (h : n ≤ 1000) : n ≤ sizeLine := by rw [← sl_eq]; omega
section
variable {X : Cx} {ζ : Option ZI} {W : WX} {es : List Expr} {os : List Opd} {pos : Pos}
theorem r_tup {x1} (h : PA X es (tAll X.K ζ os)) (hl : os.length ≤ 1000) : PE X (.Tuple es x1 pos) (tM X.K ζ (mTup os)) := pew (pe_tup h) fun σ H Q q => by
  obtain ⟨G, A, L, env, r0, env', R, e, q⟩ := q
  obtain ⟨⟨rs, e1⟩, h1, h⟩ := bind_eq_ok e
  refine pass_all os R h1 fun vs H' G' s R' ops => ?_
  simp only at h
  split at h
  · rename_i ds ed
    cases h
    exact ⟨by rw [rops_len ops]; exact le_line hl, (Post.of s q).tup R' (allV_ok R' ops ed)⟩
  · cases h
theorem r_lst (h : PA X es (tAll X.K ζ os)) (hl : os.length ≤ 1000) : PE X (.List es pos) (tM X.K ζ (mLst os)) := pew (pe_lst h) fun σ H Q q => by
  obtain ⟨G, A, L, env, r0, env', R, e, q⟩ := q
  obtain ⟨⟨rs, e1⟩, h1, h⟩ := bind_eq_ok e
  refine pass_all os R h1 fun vs H' G' s R' ops => ?_
  simp only at h
  split at h
  · rename_i ds ed
    cases h
    exact ⟨by rw [rops_len ops]; exact le_line hl, (Post.of s q).lst R' (allV_ok R' ops ed)⟩
  · cases h
end

/-! ### slices -/
def cutD {α : Type} (xs : List α) (lo hi : Option Int) : List α := (xs.drop (HT.sIx xs.length 0 lo)).take (HT.sIx xs.length xs.length hi - HT.sIx xs.length 0 lo)
theorem cut_all {K : PySem.W.Frag} {G : Hp} {vs : List V} {ds : List D} (h : RpAll K G vs ds) (lo hi : Option Int) : RpAll K G (cutV vs lo hi) (cutD ds lo hi) := by
  unfold cutV cutD
  rw [h.length]
  exact (h.drop _).take _
theorem cut_whole {α : Type} (xs : List α) (lo hi : Option Int) (h : HT.sIx xs.length 0 lo = 0 ∧ HT.sIx xs.length xs.length hi = xs.length) : cutD xs lo hi = xs := by
  unfold cutD
  rw [h.1, h.2]
  simp
def oSl (lo hi : Option Int) : O → Res O
  | .val (.tuple xs) => .ok (.val (.tuple (cutD xs lo hi)))
  | .val (.str z) => if z.length ≤ 16777216 then .ok (.val (.str (cutS z lo hi))) else .stuck
  | x => match x.l with
    | some xs => .ok (.own (cutD xs lo hi))
    | none => .stuck
def rSl (K : PySem.W.Frag) : V → Option Int → Option Int → Hp → VK → Prop := fun x lo hi H Q => rSlL K x lo hi H Q ∨ rSlA K x lo hi H Q ∨ rSlS x lo hi H Q
theorem sl_any {X : Cx} : SlR X (rSl X.K) := sl_list.or (sl_tupA.or sl_str)
theorem sem_sl {K : PySem.W.Frag} (lo hi : Option Int) : Sem1 K (oSl lo hi) fun v H Q => rSl K v lo hi H Q := by
  intro ζ G A L H σ env x rx r0 Q R hx e q
  unfold oSl at e
  split at e
  · cases e
    have hx' := hx
    cases hx with
    | tup h1 h2 =>
      refine .inr (.inl ⟨_, _, rfl, sameT R.gh (.of h1), fun w => ?_, fun _ => q.tup R (cut_all h2 lo hi)⟩)
      rw [h2.length] at w
      rw [cut_whole _ _ _ w] at q
      exact q.val R hx'
  · split at e
    · rename_i z
      cases e; cases hx
      exact .inr (.inr ⟨_, rfl, by rw [← sl_eq]; exact z, q.val R (.str _)⟩)
    · cases e
  · split at e
    · rename_i xs el
      cases e
      obtain ⟨p, vs, rfl, h1, h2⟩ := hx.l R.gh el
      exact .inl ⟨_, _, rfl, .of h1, q.lst R (cut_all h2 lo hi)⟩
    · cases e
def oI : O → Option Int
  | .val (.int i) => some i
  | _ => none
def mSl0 (o : Opd) : M := m1 (oSl none none) o
def mSlL (o l : Opd) : M := m2 (fun x y => match oI y with | some i => oSl (some i) none x | none => .stuck) o l
def mSlH (o u : Opd) : M := m2 (fun x y => match oI y with | some i => oSl none (some i) x | none => .stuck) o u
def fin3 (p : List O × Env) : Res (O × Env) := match p.1 with
  | [x, y, z] => match oI y, oI z with
    | some i, some j => if x.live = true then (oSl (some i) (some j) x).bind fun r => .ok (r, p.2) else .stuck
    | _, _ => .stuck
  | _ => .stuck
def mSl2 (o : Opd) (l u : M) : M := fun env => (pass [o, .m l, .m u] env).bind fin3
theorem oI_ok {K : PySem.W.Frag} {G H : Hp} {r : O} {v : V} {i : Int} (h : Rdy K G H r v) (e : oI r = some i) : v = .int i := by
  unfold oI at e
  split at e
  · cases e; cases h; rfl
  · cases e
theorem oI_live {r : O} {i : Int} (e : oI r = some i) : r.live = true := by
  unfold oI at e
  split at e
  · rfl
  · cases e
section
variable {X : Cx} {ζ : Option ZI} {W : WX} {a b c : Expr} {oa ob oc : Opd} {pos p2 : Pos}
theorem r_sl0 (ha : PE X a (tOpd X.K ζ oa)) : PE X (.Subscript a (.Slice none none none p2) pos) (tM X.K ζ (mSl0 oa)) :=
  pew (pe_slice sl_any ha po_none po_none) fun σ H Q q => m1_ok (sem_sl none none) q
theorem sem2_lo {K : PySem.W.Frag} : Sem2 K (fun x y => match oI y with | some i => oSl (some i) none x | none => .stuck) fun x y H Q => ∃ i, y = .int i ∧ rSl K x (some i) none H Q := by
  intro ζ G A L H σ env x y rx ry r0 Q R hx hy e q
  simp only at e
  split at e
  · rename_i i ei
    exact ⟨i, oI_ok hy ei, sem_sl (some i) none R hx e q⟩
  · cases e
theorem sem2_hi {K : PySem.W.Frag} : Sem2 K (fun x y => match oI y with | some i => oSl none (some i) x | none => .stuck) fun x y H Q => ∃ i, y = .int i ∧ rSl K x none (some i) H Q := by
  intro ζ G A L H σ env x y rx ry r0 Q R hx hy e q
  simp only at e
  split at e
  · rename_i i ei
    exact ⟨i, oI_ok hy ei, sem_sl none (some i) R hx e q⟩
  · cases e
theorem r_slL (ha : PE X a (tOpd X.K ζ oa)) (hb : PE X b (tOpd X.K ζ ob)) : PE X (.Subscript a (.Slice (some b) none none p2) pos) (tM X.K ζ (mSlL oa ob)) :=
  pew (pe_slice sl_any ha (po_some hb) po_none) fun σ H Q q => m2_ok (r := fun x y H Q => ∃ i, y = .int i ∧ rSl X.K x (some i) none H Q) sem2_lo q
theorem r_slH (ha : PE X a (tOpd X.K ζ oa)) (hb : PE X b (tOpd X.K ζ ob)) : PE X (.Subscript a (.Slice none (some b) none p2) pos) (tM X.K ζ (mSlH oa ob)) :=
  pew (pe_slice sl_any ha po_none (po_some hb)) fun σ H Q q => m2_ok (r := fun x y H Q => ∃ i, y = .int i ∧ rSl X.K x none (some i) H Q) sem2_hi q
theorem r_sl2 {mb mc : M} (ha : PE X a (tOpd X.K ζ oa)) (hb : PE X b (tM X.K ζ mb)) (hc : PE X c (tM X.K ζ mc)) : PE X (.Subscript a (.Slice (some b) (some c) none p2) pos) (tM X.K ζ (mSl2 oa mb mc)) :=
  pew (pe_slice sl_any ha (po_some hb) (po_some hc)) fun σ H Q q => by
    obtain ⟨G, A, L, env, r0, env', R, e, q⟩ := q
    obtain ⟨⟨rs, e9⟩, h1, h⟩ := bind_eq_ok (show (pass [oa, .m mb, .m mc] env).bind fin3 = _ from e)
    -- the end, for a value v of the first
    have fin : ∀ {ra rb rc : O} {e3 : Env} {G2 G3 : Hp} {H3 : Hp} {v w z : V}, fin3 ([ra, rb, rc], e3) = .ok (r0, env') → Same G G3 → REnv X.K ζ G3 A L H3 σ e3 → Rp X.K G2 w (rb.d.getD .none) → Rp X.K G3 z (rc.d.getD .none) → (ra.live = true → Rdy X.K G3 H3 ra v) →
        ∃ i, w = .int i ∧ ∃ j, z = .int j ∧ rSl X.K v (some i) (some j) H3 Q := by
      intro ra rb rc e3 G2 G3 H3 v w z h s R3 hw hz hv
      unfold fin3 at h
      simp only at h
      split at h
      · rename_i i j ei ej
        split at h
        · rename_i l
          obtain ⟨r1, h2, h⟩ := bind_eq_ok h
          cases h
          have e1 : rb = .val (.int i) := by unfold oI at ei; split at ei <;> cases ei; rfl
          have e2 : rc = .val (.int j) := by unfold oI at ej; split at ej <;> cases ej; rfl
          subst e1 e2
          cases (show Rp X.K G2 w (.int i) from hw)
          cases (show Rp X.K G3 z (.int j) from hz)
          exact ⟨i, rfl, j, rfl, sem_sl (some i) (some j) R3 (hv l) h2 (Post.of s q)⟩
        · cases h
      · cases h
    have two : ∀ {rb rc : O} {ra : O} {e3 : Env}, fin3 ([ra, rb, rc], e3) = .ok (r0, env') → (∃ i, rb = .val (.int i)) ∧ ∃ j, rc = .val (.int j) := by
      intro rb rc ra e3 h
      unfold fin3 at h
      simp only at h
      split at h
      · rename_i i j ei ej
        have e1 : rb = .val (.int i) := by unfold oI at ei; split at ei <;> cases ei; rfl
        have e2 : rc = .val (.int j) := by unfold oI at ej; split at ej <;> cases ej; rfl
        exact ⟨⟨i, e1⟩, j, e2⟩
      · cases h
    cases oa with
    | m ma =>
      obtain ⟨⟨ra, e1⟩, g1, h1⟩ := bind_eq_ok h1
      obtain ⟨⟨_, _⟩, h1, k1⟩ := bind_eq_ok h1
      obtain ⟨⟨rb, e2⟩, g2, h1⟩ := bind_eq_ok h1
      obtain ⟨⟨_, _⟩, h1, k2⟩ := bind_eq_ok h1
      obtain ⟨⟨rc, e3⟩, g3, h1⟩ := bind_eq_ok h1
      cases h1; cases k2; cases k1
      obtain ⟨⟨i, rfl⟩, j, rfl⟩ := two h
      refine ⟨G, A, L, env, ra, e1, R, g1, fun v H1 G1 s1 R1 hv => ?_⟩
      obtain ⟨A', hA, R1', back⟩ := protect R1 hv
      refine ⟨G1, A', L, e1, _, e2, R1', g2, fun w H2 G2 s2 R2 hw => ?_⟩
      cases (show Rp X.K G2 w (.int i) from hw)
      refine ⟨i, rfl, G2, A', L, e2, _, e3, R2, g3, fun z H3 G3 s3 R3 hz => ?_⟩
      obtain ⟨R4, hv'⟩ := back G3 H3 e3 (s2.trans s3) R3
      obtain ⟨i', ei, j', ej, q'⟩ := fin (v := v) (w := .int i) h (s1.trans (s2.trans s3)) R4 (Rp.int (G := G2) i) hz fun l => ROp.rdy R4 (o := .m ma) hv' l
      cases ei; subst ej
      exact ⟨j', rfl, q'⟩
    | pk k =>
      unfold pass at h1
      by_cases l : (env.getD k .un).live = true
      · rw [if_pos l] at h1
        obtain ⟨v, hv⟩ := live_val R l
        obtain ⟨⟨_, _⟩, h1, k1⟩ := bind_eq_ok h1
        obtain ⟨⟨rb, e2⟩, g2, h1⟩ := bind_eq_ok h1
        obtain ⟨⟨_, _⟩, h1, k2⟩ := bind_eq_ok h1
        obtain ⟨⟨rc, e3⟩, g3, h1⟩ := bind_eq_ok h1
        cases h1; cases k2; cases k1
        obtain ⟨⟨i, rfl⟩, j, rfl⟩ := two h
        refine ⟨v, hv, G, A, L, env, _, e2, R, g2, fun w H2 G2 s2 R2 hw => ?_⟩
        cases (show Rp X.K G2 w (.int i) from hw)
        refine ⟨i, rfl, G2, A, L, e2, _, e3, R2, g3, fun z H3 G3 s3 R3 hz => ?_⟩
        obtain ⟨i', ei, j', ej, q'⟩ := fin (v := v) (w := .int i) h (s2.trans s3) R3 (Rp.int (G := G2) i) hz fun l => ROp.rdy R3 (o := .pk k) ⟨hv, rfl⟩ l
        cases ei; subst ej
        exact ⟨j', rfl, q'⟩
      · rw [if_neg l] at h1; cases h1
end
end SE

namespace SE
open PySem L2

/-! ### tests -/
abbrev T := Env → Res (Bool × Env)
def tT (K : PySem.W.Frag) (ζ : Option ZI) (t : T) : TT := fun σ H Q => ∃ G A L env b env', REnv K ζ G A L H σ env ∧ t env = .ok (b, env') ∧ ∀ H' G', Same G G' → REnv K ζ G' A L H' σ env' → Q b H'
def truthO : O → Option Bool
  | .val .none => some false
  | .val (.bool b) => some b
  | .val (.int i) => some (i != 0)
  | .val (.str z) => if z.length ≤ 16777216 then some ((z.length : Int) != 0) else none
  | .val (.tuple xs) => some (!xs.isEmpty)
  | x => x.l.map fun xs => !xs.isEmpty
theorem isEmpty_all {K : PySem.W.Frag} {G : Hp} {vs : List V} {ds : List D} (h : RpAll K G vs ds) : vs.isEmpty = ds.isEmpty := by
  cases h <;> rfl
theorem truthO_ok {K : PySem.W.Frag} {G H : Hp} {r : O} {v : V} {b : Bool} (gh : Same G H) (h : Rdy K G H r v) (e : truthO r = some b) : TruV K v H b := by
  unfold truthO at e
  split at e
  · cases e; cases h; rfl
  · cases e; cases h; rfl
  · cases e; cases h; rfl
  · split at e
    · rename_i z
      cases e; cases h
      exact ⟨by rw [← sl_eq]; exact z, rfl⟩
    · cases e
  · cases e
    cases h with
    | tup h1 h2 => exact .inr (.inl ⟨_, sameT gh (.of h1), by rw [isEmpty_all h2]⟩)
  · cases q : r.l with
    | none => rw [q] at e; cases e
    | some xs =>
      rw [q] at e; cases e
      obtain ⟨p, vs, rfl, h1, h2⟩ := h.l gh q
      exact .inl ⟨_, .of h1, by rw [isEmpty_all h2]⟩
theorem truthO_live {r : O} {b : Bool} (e : truthO r = some b) : r.live = true := by
  cases r with
  | un => cases e
  | tpl _ => cases e
  | _ => rfl
def fint (p : List O × Env) : Res (Bool × Env) := match p.1 with
  | [x] => match truthO x with
    | some b => .ok (b, p.2)
    | none => .stuck
  | _ => .stuck
def t1 (o : Opd) : T := fun env => (pass [o] env).bind fint
def tbv (p : O × Env) : Res (Bool × Env) := match p.1 with
  | .val (.bool b) => .ok (b, p.2)
  | _ => .stuck
/-- an operation's truth value as a test -/
def tb (m : M) : T := fun env => (m env).bind tbv
theorem tb_ok {K : PySem.W.Frag} {ζ : Option ZI} {m : M} {σ : St} {H : Hp} {Q : Bool → Hp → Prop} (h : tT K ζ (tb m) σ H Q) : tM K ζ m σ H fun x H' => ∃ k, x = .bl k ∧ Q k H' := by
  obtain ⟨G, A, L, env, b, env', R, e, q⟩ := h
  obtain ⟨⟨r, e1⟩, h1, h⟩ := bind_eq_ok e
  unfold tbv at h
  simp only at h
  split at h
  · cases h
    refine ⟨G, A, L, env, _, _, R, h1, fun v H' G' s R' hv => ?_⟩
    cases (show Rp K G' v (.bool _) from hv)
    exact ⟨_, rfl, q H' G' s R'⟩
  · cases h
def tAndS (a b : T) : T := fun env => (a env).bind fun p => if p.1 = true then b p.2 else .ok (false, p.2)
def tOrS (a b : T) : T := fun env => (a env).bind fun p => if p.1 = true then .ok (true, p.2) else b p.2
def tNotS (a : T) : T := fun env => (a env).bind fun p => .ok (!p.1, p.2)
theorem pww {X : Cx} {e : Expr} {t t' : TT} (h : PW X e t) (w : ∀ σ H Q, t' σ H Q → t σ H Q) : PW X e t' := ⟨fun wh pins s σ H Q I q => h.run wh pins s σ H Q I (w σ H Q q)⟩
section
variable {X : Cx} {ζ : Option ZI} {W : WX} {a b c : Expr} {oa ob oc : Opd} {pos : Pos} {rest : List Expr}
theorem rt_val (ha : PE X a (tOpd X.K ζ oa)) (he : ∀ whole, isTrue a X.env whole = (do let v ← whole; standAt a.pos; holding [v] (truthy v))) : PT X a (tT X.K ζ (t1 oa)) :=
  ptw (pt_truth ha he) fun σ H Q q => by
    obtain ⟨G, A, L, env, r0, env', R, e, q⟩ := q
    obtain ⟨⟨rs, e2⟩, h1, h⟩ := bind_eq_ok e
    have fin : tAll X.K ζ [oa] σ H (fun vs H' => ∀ x, vs = [x] → ∃ k, TruV X.K x H' k ∧ Q k H') := pass_all [oa] R h1 fun vs H' G' s R' ops => by
      cases ops with
      | cons o1 t =>
        cases t
        rintro x ⟨⟩
        unfold fint at h
        simp only at h
        split at h
        · rename_i b eb
          cases h
          exact ⟨_, truthO_ok R'.gh (o1.rdy R' (truthO_live eb)) eb, q H' G' s R'⟩
        · cases h
    exact tOpd_mono (fun v H q => q v rfl) fin
theorem rt_cmp {op : CmpOp} {f : O → O → Res O} {r : R2} (ho : OpR X (compareOp op) r) (hf : Sem2 X.K f r) (ha : PE X a (tOpd X.K ζ oa)) (hb : PE X b (tOpd X.K ζ ob)) (hm : behindInMarks op b = false) : PT X (.Compare a [op] [b] pos) (tT X.K ζ (tb (m2 f oa ob))) :=
  ptw (pt_cmpR ho ha hb hm) fun σ H Q q => m2_ok hf (tb_ok q)
theorem rt_not {t : T} (ha : PT X a (tT X.K ζ t)) : PT X (.UnaryOp .Not a pos) (tT X.K ζ (tNotS t)) := ptw (pt_not ha) fun σ H Q q => by
  obtain ⟨G, A, L, env, b, env', R, e, q⟩ := q
  obtain ⟨⟨c, e1⟩, h1, h⟩ := bind_eq_ok e
  cases h
  exact ⟨G, A, L, env, c, e1, R, h1, q⟩
theorem rt_and1 {t : T} (ha : PT X a (tT X.K ζ t)) : PW X (.BoolOp .And [a] pos) (tT X.K ζ t) := pw_and1 ha
theorem rt_or1 {t : T} (ha : PT X a (tT X.K ζ t)) : PW X (.BoolOp .Or [a] pos) (tT X.K ζ t) := pw_or1 ha
theorem rt_and {t u : T} (ha : PT X a (tT X.K ζ t)) (hb : PW X (.BoolOp .And (b :: rest) pos) (tT X.K ζ u)) : PW X (.BoolOp .And (a :: b :: rest) pos) (tT X.K ζ (tAndS t u)) := pww (pw_and ha hb) fun σ H Q q => by
  obtain ⟨G, A, L, env, d, env', R, e, q⟩ := q
  obtain ⟨⟨c, e1⟩, h1, h⟩ := bind_eq_ok e
  refine ⟨G, A, L, env, c, e1, R, h1, fun H' G' s R' => ?_⟩
  cases c with
  | true =>
    rw [if_pos rfl] at h ⊢
    exact ⟨G', A, L, e1, d, env', R', h, fun H2 G2 s2 R2 => q H2 G2 (s.trans s2) R2⟩
  | false =>
    rw [if_neg Bool.false_ne_true] at h ⊢
    cases h
    exact q H' G' s R'
theorem rt_or {t u : T} (ha : PT X a (tT X.K ζ t)) (hb : PW X (.BoolOp .Or (b :: rest) pos) (tT X.K ζ u)) : PW X (.BoolOp .Or (a :: b :: rest) pos) (tT X.K ζ (tOrS t u)) := pww (pw_or ha hb) fun σ H Q q => by
  obtain ⟨G, A, L, env, d, env', R, e, q⟩ := q
  obtain ⟨⟨c, e1⟩, h1, h⟩ := bind_eq_ok e
  refine ⟨G, A, L, env, c, e1, R, h1, fun H' G' s R' => ?_⟩
  cases c with
  | true =>
    rw [if_pos rfl] at h ⊢
    cases h
    exact q H' G' s R'
  | false =>
    rw [if_neg Bool.false_ne_true] at h ⊢
    exact ⟨G', A, L, e1, d, env', R', h, fun H2 G2 s2 R2 => q H2 G2 (s.trans s2) R2⟩
end

/-! ### and, or, not, if as values -/
def mAnd (a b : M) : M := fun env => (a env).bind fun p => match truthO p.1 with
  | some true => b p.2
  | some false => .ok p
  | none => .stuck
def mOr (a b : M) : M := fun env => (a env).bind fun p => match truthO p.1 with
  | some true => .ok p
  | some false => b p.2
  | none => .stuck
def oNot (x : O) : Res O := match truthO x with
  | some b => .ok (.val (.bool (!b)))
  | none => .stuck
def mIf (t : T) (a b : M) : M := fun env => (t env).bind fun p => if p.1 = true then a p.2 else b p.2
theorem RVal.rdy {K : PySem.W.Frag} {G A : Hp} {L : Nat → Option Addr} {H : Hp} {σ : St} {env : Env} {r : O} {v : V} (h : RVal K G A L H σ env r v) : Rdy K G H r v := by
  match r, h with
  | .val d, h => exact h
  | .own xs, h => obtain ⟨p, vs, e1, e2, _, _, q, _⟩ := h; exact ⟨p, vs, e1, e2, q⟩
  | .dct tk xs, h => obtain ⟨p, vs, e1, e2, _, _, q, _⟩ := h; exact ⟨p, vs, e1, e2, q⟩
  | .tpl _, _ => exact trivial
section
variable {X : Cx} {ζ : Option ZI} {W : WX} {a b c : Expr} {oa ob oc : Opd} {pos : Pos} {rest : List Expr} {ma mb : M}
theorem r_one {op} (h : PE X a (tM X.K ζ ma)) : PE X (.BoolOp op [a] pos) (tM X.K ζ ma) := pe_one h
theorem r_and (ha : PE X a (tM X.K ζ ma)) (hb : PE X (.BoolOp .And (b :: rest) pos) (tM X.K ζ mb)) : PE X (.BoolOp .And (a :: b :: rest) pos) (tM X.K ζ (mAnd ma mb)) := pew (pe_andT ha hb) fun σ H Q q => by
  obtain ⟨G, A, L, env, r0, env', R, e, q⟩ := q
  obtain ⟨⟨r, e1⟩, h1, h⟩ := bind_eq_ok e
  refine ⟨G, A, L, env, r, e1, R, h1, fun v H' G' s R' hv => ?_⟩
  simp only at h
  split at h
  · rename_i et
    refine ⟨true, truthO_ok R'.gh hv.rdy et, ?_⟩
    rw [if_pos rfl]
    exact ⟨G', A, L, e1, r0, env', R', h, fun v H2 G2 s2 R2 => q v H2 G2 (s.trans s2) R2⟩
  · rename_i et
    refine ⟨false, truthO_ok R'.gh hv.rdy et, ?_⟩
    rw [if_neg Bool.false_ne_true]
    cases h
    exact q v H' G' s R' hv
  · cases h
theorem r_or (ha : PE X a (tM X.K ζ ma)) (hb : PE X (.BoolOp .Or (b :: rest) pos) (tM X.K ζ mb)) : PE X (.BoolOp .Or (a :: b :: rest) pos) (tM X.K ζ (mOr ma mb)) := pew (pe_orT ha hb) fun σ H Q q => by
  obtain ⟨G, A, L, env, r0, env', R, e, q⟩ := q
  obtain ⟨⟨r, e1⟩, h1, h⟩ := bind_eq_ok e
  refine ⟨G, A, L, env, r, e1, R, h1, fun v H' G' s R' hv => ?_⟩
  simp only at h
  split at h
  · rename_i et
    refine ⟨true, truthO_ok R'.gh hv.rdy et, ?_⟩
    rw [if_pos rfl]
    cases h
    exact q v H' G' s R' hv
  · rename_i et
    refine ⟨false, truthO_ok R'.gh hv.rdy et, ?_⟩
    rw [if_neg Bool.false_ne_true]
    exact ⟨G', A, L, e1, r0, env', R', h, fun v H2 G2 s2 R2 => q v H2 G2 (s.trans s2) R2⟩
  · cases h
theorem sem_not {K : PySem.W.Frag} : Sem1 K oNot fun x H Q => ∃ k, TruV K x H k ∧ Q (.bl (!k)) H := by
  intro ζ G A L H σ env x rx r0 Q R hx e q
  unfold oNot at e
  split at e
  · rename_i b eb
    cases e
    exact ⟨b, truthO_ok R.gh hx eb, q.val R (.bl _)⟩
  · cases e
theorem r_not (ha : PE X a (tOpd X.K ζ oa)) : PE X (.UnaryOp .Not a pos) (tM X.K ζ (m1 oNot oa)) := pew (pe_notT ha) fun σ H Q q => m1_ok sem_not q
theorem r_if {t : T} (hc : PT X c (tT X.K ζ t)) (ha : PE X a (tM X.K ζ ma)) (hb : PE X b (tM X.K ζ mb)) : PE X (.IfExp c a b pos) (tM X.K ζ (mIf t ma mb)) := pew (pe_ifExp hc ha hb) fun σ H Q q => by
  obtain ⟨G, A, L, env, r0, env', R, e, q⟩ := q
  obtain ⟨⟨d, e1⟩, h1, h⟩ := bind_eq_ok e
  refine ⟨G, A, L, env, d, e1, R, h1, fun H' G' s R' => ?_⟩
  cases d with
  | true =>
    rw [if_pos rfl] at h ⊢
    exact ⟨G', A, L, e1, r0, env', R', h, fun v H2 G2 s2 R2 => q v H2 G2 (s.trans s2) R2⟩
  | false =>
    rw [if_neg Bool.false_ne_true] at h ⊢
    exact ⟨G', A, L, e1, r0, env', R', h, fun v H2 G2 s2 R2 => q v H2 G2 (s.trans s2) R2⟩
/-- a op b op' c, upon ints: b's value waits as it is -/
def mChain (f g : O → O → Res O) (a b c : M) : M := fun env => (pass [.m a, .m b] env).bind fun p => match p.1 with
  | [.val x, .val y] => (f (.val x) (.val y)).bind fun k => match k with
    | .val (.bool true) => (c p.2).bind fun z => match z.1 with
      | .val w => (g (.val y) (.val w)).bind fun r => .ok (r, z.2)
      | _ => .stuck
    | .val (.bool false) => .ok (.val (.bool false), p.2)
    | _ => .stuck
  | _ => .stuck
theorem chain_ok {K : PySem.W.Frag} {ζ : Option ZI} {f g : O → O → Res O} {r r' : R2} {ma mb mc : M} (hf : Sem2 K f r) (hg : Sem2 K g r') {σ : St} {H : Hp} {Q : VK} (h : tM K ζ (mChain f g ma mb mc) σ H Q) : tChain r r' (tM K ζ ma) (tM K ζ mb) (tM K ζ mc) σ H Q := by
  obtain ⟨G, A, L, env, r0, env', R, e, q⟩ := h
  obtain ⟨⟨rs, e2⟩, h1, h⟩ := bind_eq_ok e
  have fin : tAll K ζ [.m ma, .m mb] σ H (fun vs H' => ∀ x y, vs = [x, y] → r x y H' fun z H3 => ∃ k, z = .bl k ∧ (if k = true then tM K ζ mc σ H3 fun w' H4 => r' y w' H4 Q else Q (.bl false) H3)) := pass_all [.m ma, .m mb] R h1 fun vs H' G' s R' ops => by
    cases ops with
    | cons o1 t =>
      cases t with
      | cons o2 t =>
        cases t
        rintro x y ⟨⟩
        simp only at h
        split at h
        · rename_i dx dy e1
          simp only [List.cons.injEq, and_true] at e1
          obtain ⟨rfl, rfl⟩ := e1
          obtain ⟨k, h2, h⟩ := bind_eq_ok h
          refine hf R' (o1.rdy R' rfl) (o2.rdy R' rfl) h2 fun z H3 G3 s3 R3 hz => ?_
          have hy := Rp.m (Rdy.vald (ROp.rdy R' o2 rfl)) s3
          split at h
          · cases (show Rp K G3 z (.bool true) from hz)
            refine ⟨true, rfl, ?_⟩
            rw [if_pos rfl]
            obtain ⟨⟨w, e3⟩, h3, h⟩ := bind_eq_ok h
            refine ⟨G3, A, L, e2, w, e3, R3, h3, fun w' H4 G4 s4 R4 hw => ?_⟩
            simp only at h
            split at h
            · obtain ⟨r1, h4, h⟩ := bind_eq_ok h
              cases h
              exact hg R4 (rx := .val dy) (ry := .val _) (Rp.m hy s4) hw h4 (Post.of (s.trans (s3.trans s4)) q)
            · cases h
          · cases (show Rp K G3 z (.bool false) from hz)
            refine ⟨false, rfl, ?_⟩
            rw [if_neg Bool.false_ne_true]
            cases h
            exact q _ H3 G3 (s.trans s3) R3 (Rp.bl false)
          · cases h
        · cases h
  exact tOpd_mono (o := .m ma) (fun v H q => tOpd_mono (o := .m mb) (fun w H q => q v w rfl) q) fin
theorem r_chain {op op' : CmpOp} {f g : O → O → Res O} {r r' : R2} {mc : M} (ho : OpR X (compareOp op) r) (hf : Sem2 X.K f r) (ho' : OpR X (compareOp op') r') (hg : Sem2 X.K g r') (ha : PE X a (tM X.K ζ ma)) (hb : PE X b (tM X.K ζ mb)) (hc : PE X c (tM X.K ζ mc))
    (hm : lastMarks [op, op'] [b, c] = false) : PE X (.Compare a [op, op'] [b, c] pos) (tM X.K ζ (mChain f g ma mb mc)) := pew (pe_chain ho ho' ha hb hc hm) fun σ H Q q => chain_ok hf hg q
theorem rt_chain {op op' : CmpOp} {f g : O → O → Res O} {r r' : R2} {mc : M} (ho : OpR X (compareOp op) r) (hf : Sem2 X.K f r) (ho' : OpR X (compareOp op') r') (hg : Sem2 X.K g r') (ha : PE X a (tM X.K ζ ma)) (hb : PE X b (tM X.K ζ mb)) (hc : PE X c (tM X.K ζ mc))
    (hm : lastMarks [op, op'] [b, c] = false) : PT X (.Compare a [op, op'] [b, c] pos) (tT X.K ζ (tb (mChain f g ma mb mc))) := ptw (pt_chain ho ho' ha hb hc hm) fun σ H Q q => chain_ok hf hg (tb_ok q)
end

/-! ### statements -/
inductive SRes where
  | next (env : Env)
  | ret (r : O) (env : Env)
  | brk (env : Env)
  | cont (env : Env)
  | exc (e : Exn) (env : Env)
  | stuck
abbrev S := Env → SRes
/-- an exception in the air: its class, its dict -/
def RExn (K : PySem.W.Frag) (mg : Str → Option Value) (G A H : Hp) (cls : Value) (d : Option Addr) (e : Exn) : Prop := ∃ (C dd : Addr) (fs : List (Str × V)), cls = .ref C ∧ mg e.cls = some (.ref C) ∧ d = some dd ∧ H dd = some (.xd fs) ∧ A dd = none ∧ G dd = none ∧ RFs K G fs e.fs
def SWant (K : PySem.W.Frag) (ζ : Option ZI) (mg : Str → Option Value) (W : WX) (G A : Hp) (L : Nat → Option Addr) (D : Ends) : SRes → Prop
  | .next e => ∀ σ' H' G', Same G G' → REnv K ζ G' A L H' σ' e → D.nx σ' H'
  | .ret r e => ∀ v σ' H' G', Same G G' → REnv K ζ G' A L H' σ' e → RVal K G' A L H' σ' e r v → D.rt v H'
  | .brk e => ∀ σ' H' G', Same G G' → REnv K ζ G' A L H' σ' e → D.bk σ' H'
  | .cont e => ∀ σ' H' G', Same G G' → REnv K ζ G' A L H' σ' e → D.ct σ' H'
  | .exc x e => ∀ cls d σ' H' G', Same G G' → REnv K ζ G' A L H' σ' e → RExn K mg G' A H' cls d x → W cls d σ' H'
  | .stuck => False
def tS (K : PySem.W.Frag) (ζ : Option ZI) (mg : Str → Option Value) (W : WX) (s : S) : TS := fun D σ H => ∃ G A L env, REnv K ζ G A L H σ env ∧ SWant K ζ mg W G A L D (s env)
theorem SWant.of {K : PySem.W.Frag} {ζ : Option ZI} {mg : Str → Option Value} {W : WX} {G G' A : Hp} {L : Nat → Option Addr} {D : Ends} {r : SRes} (e : Same G G') (h : SWant K ζ mg W G A L D r) : SWant K ζ mg W G' A L D r := by
  cases r with
  | next e1 => exact fun σ' H' G2 s => h σ' H' G2 (e.trans s)
  | ret r e1 => exact fun v σ' H' G2 s => h v σ' H' G2 (e.trans s)
  | brk e1 => exact fun σ' H' G2 s => h σ' H' G2 (e.trans s)
  | cont e1 => exact fun σ' H' G2 s => h σ' H' G2 (e.trans s)
  | exc x e1 => exact fun cls d σ' H' G2 s => h cls d σ' H' G2 (e.trans s)
  | stuck => exact h
def SRes.bind (r : SRes) (f : Env → SRes) : SRes := match r with
  | .next e => f e
  | r => r
def sSeq (s t : S) : S := fun env => (s env).bind t
def sNop : S := fun env => .next env
def ofRes {α : Type} (r : Res α) (f : α → SRes) : SRes := match r with
  | .ok a => f a
  | .exc _ => .stuck
  | .stuck => .stuck
@[simp] theorem ofRes_ok {α : Type} (a : α) (f : α → SRes) : ofRes (.ok a) f = f a := rfl
def sSet (i : Nat) (m : M) : S := fun env => ofRes (m env) fun p => if (p.2.getD i .un).pinned = true then .stuck else .next (p.2.set i p.1)
def sRet (m : M) : S := fun env => ofRes (m env) fun p => .ret p.1 p.2
def sExpr (m : M) : S := fun env => ofRes (m env) fun p => .next p.2
def sIf (t : T) (a b : S) : S := fun env => ofRes (t env) fun p => if p.1 = true then a p.2 else b p.2
def sBrk : S := fun env => .brk env
def sCont : S := fun env => .cont env
/-- a name's list, handed on for good -/
def mMv (i : Nat) : M := fun env => match env.getD i .un with
  | .val d => .ok (.val d, env)
  | .own xs => .ok (.own xs, env.set i .un)
  | .dct tk xs => .ok (.dct tk xs, env.set i .un)
  | _ => .stuck
section
variable {K : PySem.W.Frag} {ζ : Option ZI} {G A : Hp} {L : Nat → Option Addr} {H : Hp} {σ : St} {env : Env}
theorem set_un (R : REnv K ζ G A L H σ env) {i : Nat} {xs : List D} (eo : env[i]? = some (.own xs)) {v : V} (hv : σ[i]? = some (some v)) : REnv K ζ G A L H σ (env.set i .un) ∧ RVal K G A L H σ (env.set i .un) (.own xs) v := by
  obtain ⟨p, vs, e1, e2, e3, e4, hs⟩ := R.sl i _ _ eo hv
  cases e1
  obtain ⟨R1, k1, k2⟩ := mine_un R eo rfl rfl hv
  exact ⟨R1, p, vs, rfl, e2, e3, e4, hs, k1, k2⟩
theorem set_unD (R : REnv K ζ G A L H σ env) {i : Nat} {tk : Bool} {xs : List (D × D)} (eo : env[i]? = some (.dct tk xs)) {v : V} (hv : σ[i]? = some (some v)) : REnv K ζ G A L H σ (env.set i .un) ∧ RVal K G A L H σ (env.set i .un) (.dct tk xs) v := by
  obtain ⟨p, vs, e1, e2, e3, e4, hs⟩ := R.sl i _ _ eo hv
  cases e1
  obtain ⟨R1, k1, k2⟩ := mine_un R eo rfl rfl hv
  exact ⟨R1, p, vs, rfl, e2, e3, e4, hs, k1, k2⟩
theorem set_val (R : REnv K ζ G A L H σ env) {i : Nat} {r : O} {v : V} (h : RVal K G A L H σ env r v) (hp : ¬ (env.getD i .un).pinned = true) : REnv K ζ G A L H (σ.set i (some v)) (env.set i r) := by
  have hp' : ∀ x, env[i]? = some x → x.pinned = false := fun x e => by
    rw [List.getD_eq_getElem?_getD, e] at hp
    simpa using hp
  match r, h with
  | .val d, h => exact set_slot R ⟨v, rfl, h⟩ hp' rfl (fun z => by cases z)
  | .own xs, h =>
    obtain ⟨p, vs, rfl, h1, h2, h3, h4, h5, _⟩ := h
    exact set_slot R ⟨p, vs, rfl, h1, h2, h3, h4⟩ hp' rfl (fun _ q z j x _ e m => by cases z; exact h5 j x e m)
  | .dct tk xs, h =>
    obtain ⟨p, vs, rfl, h1, h2, h3, h4, h5, _⟩ := h
    exact set_slot R ⟨p, vs, rfl, h1, h2, h3, h4⟩ hp' rfl (fun _ q z j x _ e m => by cases z; exact h5 j x e m)
  | .tpl _, _ => exact set_slot R trivial hp' rfl (fun z => by cases z)
end
section
variable {X : Cx} {ζ : Option ZI} {W : WX} {e c : Expr} {st : Stmt} {rest a b : List Stmt} {s t : S} {m : M} {pos : Pos}
theorem r_mv {i : Nat} (h : PE X e (tVar i)) : PE X e (tM X.K ζ (mMv i)) := pew h fun σ H Q q => by
  obtain ⟨G, A, L, env, r0, env', R, e, q⟩ := q
  unfold mMv at e
  generalize ho : env.getD i .un = o at e
  match o, e with
  | .val d, e =>
    cases e
    obtain ⟨v, hv⟩ := live_val R (i := i) (by rw [ho] <;> rfl)
    obtain ⟨v', e1, hs⟩ := R.sl i _ _ (getD_some ho rfl) hv
    cases e1
    exact ⟨v, hv, q v H G (same_refl G) R hs⟩
  | .own xs, e =>
    cases e
    obtain ⟨v, hv⟩ := live_val R (i := i) (by rw [ho] <;> rfl)
    obtain ⟨R1, rv⟩ := set_un R (getD_some ho rfl) hv
    exact ⟨_, hv, q _ H G (same_refl G) R1 rv⟩
  | .dct tk xs, e =>
    cases e
    obtain ⟨v, hv⟩ := live_val R (i := i) (by rw [ho] <;> rfl)
    obtain ⟨R1, rv⟩ := set_unD R (getD_some ho rfl) hv
    exact ⟨_, hv, q _ H G (same_refl G) R1 rv⟩
theorem rs_nil : PSs X [] (tS X.K ζ X.mg W sNop) := ⟨fun pins s σ H D I q => pss_nil.run pins s σ H D I (by
  obtain ⟨G, A, L, env, R, q⟩ := q
  exact q σ H G (same_refl G) R)⟩
theorem rs_cons (h1 : PS X st (tS X.K ζ X.mg W s)) (h2 : PSs X rest (tS X.K ζ X.mg W t)) : PSs X (st :: rest) (tS X.K ζ X.mg W (sSeq s t)) := ⟨fun pins s0 σ H D I q => (pss_cons h1 h2).run pins s0 σ H D I (by
  obtain ⟨G, A, L, env, R, q⟩ := q
  refine ⟨G, A, L, env, R, ?_⟩
  unfold sSeq at q
  generalize s env = r at q ⊢
  cases r with
  | next e1 => exact fun σ' H' G' s' R' => ⟨G', A, L, e1, R', q.of s'⟩
  | _ => exact q)⟩
theorem rs_one (h1 : PS X st (tS X.K ζ X.mg W s)) : PSs X [st] (tS X.K ζ X.mg W s) := pss_one h1
theorem rs_expr (he : PE X e (tM X.K ζ m)) (hs : swapsWith e none pos.line X.env = pure false := by rfl) : PS X (.Expr e pos) (tS X.K ζ X.mg W (sExpr m)) := psw (ps_expr he hs) fun D σ H q => by
  obtain ⟨G, A, L, env, R, q⟩ := q
  unfold sExpr at q
  cases h : m env with
  | ok p =>
    rw [h] at q
    exact ⟨G, A, L, env, p.1, p.2, R, h, fun v H' G' s R' _ => q σ H' G' s R'⟩
  | exc e => rw [h] at q; exact q.elim
  | stuck => rw [h] at q; exact q.elim
theorem rs_doc {x j p2} : PS X (.Expr (.Constant (.str x) j p2) pos) (tS X.K ζ X.mg W sNop) := psw ps_doc fun D σ H q => by
  obtain ⟨G, A, L, env, R, q⟩ := q
  exact q σ H G (same_refl G) R
theorem rs_pass : PS X (.Pass pos) (tS X.K ζ X.mg W sNop) := psw ps_pass fun D σ H q => by
  obtain ⟨G, A, L, env, R, q⟩ := q
  exact q σ H G (same_refl G) R
theorem rs_brk : PS X (.Break pos) (tS X.K ζ X.mg W sBrk) := psw ps_break fun D σ H q => by
  obtain ⟨G, A, L, env, R, q⟩ := q
  exact q σ H G (same_refl G) R
theorem rs_cont : PS X (.Continue pos) (tS X.K ζ X.mg W sCont) := psw ps_continue fun D σ H q => by
  obtain ⟨G, A, L, env, R, q⟩ := q
  exact q σ H G (same_refl G) R
theorem rs_ret (he : PE X e (tM X.K ζ m)) : PS X (.Return (some e) pos) (tS X.K ζ X.mg W (sRet m)) := psw (ps_ret he) fun D σ H q => by
  obtain ⟨G, A, L, env, R, q⟩ := q
  unfold sRet at q
  cases h : m env with
  | ok p =>
    rw [h] at q
    exact ⟨G, A, L, env, p.1, p.2, R, h, fun v H' G' s R' hv => q v σ H' G' s R' hv⟩
  | exc e => rw [h] at q; exact q.elim
  | stuck => rw [h] at q; exact q.elim
def sRetN : S := fun env => .ret (.val .none) env
theorem rs_retN : PS X (.Return none pos) (tS X.K ζ X.mg W sRetN) := psw ps_retN fun D σ H q => by
  obtain ⟨G, A, L, env, R, q⟩ := q
  exact q .non σ H G (same_refl G) R Rp.non
theorem set_ok {i : Nat} {D : Ends} {σ : St} {H : Hp} (q : tS X.K ζ X.mg W (sSet i m) D σ H) : tM X.K ζ m σ H fun v H1 => D.nx (σ.set i (some v)) H1 := by
  obtain ⟨G, A, L, env, R, q⟩ := q
  unfold sSet at q
  cases h : m env with
  | ok p =>
    rw [h] at q
    refine ⟨G, A, L, env, p.1, p.2, R, h, fun v H' G' s R' hv => ?_⟩
    simp only [ofRes] at q
    split at q
    · exact q.elim
    · rename_i hp
      exact q _ H' G' s (set_val R' hv hp)
  | exc e => rw [h] at q; exact q.elim
  | stuck => rw [h] at q; exact q.elim
theorem rs_set {i : Nat} {x : Str} {pos' : Pos} (hN : X.N.Nodup) (hi : X.N[i]? = some x) (hx : Loc X.env.scope x) (he : PE X e (tM X.K ζ m)) (hs : swapsWith e (some (.Name x pos')) pos.line X.env = pure false := by rfl) (hf : X.fn x = true ∨ X.env.scope.names.lookup x = some .local := by first | exact .inl rfl | exact .inr rfl | assumption) :
    PS X (.Assign [.Name x pos'] e pos) (tS X.K ζ X.mg W (sSet i m)) := psw (ps_set hN hi hx he hs hf) fun D σ H q => set_ok q
theorem rs_if {t : T} {u v : S} (hc : PT X c (tT X.K ζ t)) (ha : PSs X a (tS X.K ζ X.mg W u)) (hb : PSs X b (tS X.K ζ X.mg W v)) : PS X (.If c a b pos) (tS X.K ζ X.mg W (sIf t u v)) := psw (ps_if hc ha hb) fun D σ H q => by
  obtain ⟨G, A, L, env, R, q⟩ := q
  unfold sIf at q
  cases h : t env with
  | ok p =>
    rw [h] at q
    refine ⟨G, A, L, env, p.1, p.2, R, h, fun H' G' s R' => ?_⟩
    simp only [ofRes] at q
    cases hp : p.1 with
    | true =>
      rw [hp, if_pos rfl] at q
      rw [if_pos rfl]
      exact ⟨G', A, L, p.2, R', q.of s⟩
    | false =>
      rw [hp, if_neg Bool.false_ne_true] at q
      rw [if_neg Bool.false_ne_true]
      exact ⟨G', A, L, p.2, R', q.of s⟩
  | exc e => rw [h] at q; exact q.elim
  | stuck => rw [h] at q; exact q.elim
end
end SE

namespace SE
open PySem L2 RZ

/-! ### targets -/
abbrev Bnd := D → Env → Option Env
def bName (i : Nat) : Bnd := fun d env => if (env.getD i .un).pinned = true then none else some (env.set i (.val d))
def bAll : List Bnd → List D → Env → Option Env
  | [], [], env => some env
  | b :: bs, d :: ds, env => (b d env).bind fun e => bAll bs ds e
  | _, _, _ => none
def bTup (bs : List Bnd) : Bnd := fun d env => match d with
  | .tuple ds => bAll bs ds env
  | .list ds => bAll bs ds env
  | _ => none
/-- the slots but those of sl stand -/
def But (sl : List Nat) (σ σ' : St) : Prop := σ'.length = σ.length ∧ ∀ j, j ∉ sl → σ'[j]? = σ[j]?
theorem But.refl (sl : List Nat) (σ : St) : But sl σ σ := ⟨rfl, fun _ _ => rfl⟩
theorem But.trans {sl : List Nat} {a b c : St} (h : But sl a b) (k : But sl b c) : But sl a c := ⟨k.1.trans h.1, fun j hj => (k.2 j hj).trans (h.2 j hj)⟩
def tG (K : PySem.W.Frag) (ζ : Option ZI) (sl : List Nat) (g : Bnd) : TG := fun v σ H Q => ∃ G A L env d env', REnv K ζ G A L H σ env ∧ Rp K G v d ∧ g d env = some env' ∧ ∀ σ', But sl σ σ' → REnv K ζ G A L H σ' env' → Q σ' H
def tGs (K : PySem.W.Frag) (ζ : Option ZI) (sl : List Nat) (bs : List Bnd) : TGs := fun vs σ H Q => ∃ G A L env ds env', REnv K ζ G A L H σ env ∧ RpAll K G vs ds ∧ bAll bs ds env = some env' ∧ ∀ σ', But sl σ σ' → REnv K ζ G A L H σ' env' → Q σ' H
theorem pgw {X : Cx} {e : Expr} {t t' : TG} (h : PG X e t) (w : ∀ v σ H Q, t' v σ H Q → t v σ H Q) : PG X e t' := ⟨fun pins s σ H v u Q I r q => h.run pins s σ H v u Q I r (w v σ H Q q)⟩
theorem pgsw {X : Cx} {e : List Expr} {t t' : TGs} (h : PGs X e t) (w : ∀ v σ H Q, t' v σ H Q → t v σ H Q) : PGs X e t' := ⟨fun pins s σ H v u Q I r q => h.run pins s σ H v u Q I r (w v σ H Q q)⟩
theorem pg_or {X : Cx} {e : Expr} {t t' : TG} (h : PG X e t) (h' : PG X e t') : PG X e fun v σ H Q => t v σ H Q ∨ t' v σ H Q := ⟨fun pins s σ H v u Q I r q => q.elim (h.run pins s σ H v u Q I r) (h'.run pins s σ H v u Q I r)⟩
section
variable {X : Cx} {ζ : Option ZI} {W : WX} {pos : Pos} {sl : List Nat}
theorem rg_name {i : Nat} {x : Str} (hm : i ∈ sl) (hN : X.N.Nodup) (hi : X.N[i]? = some x) (hx : Loc X.env.scope x) (hf : X.fn x = true ∨ X.env.scope.names.lookup x = some .local := by first | exact .inl rfl | exact .inr rfl | assumption) : PG X (.Name x pos) (tG X.K ζ sl (bName i)) := pgw (pg_name hN hi hx hf) fun v σ H Q q => by
  obtain ⟨G, A, L, env, d, env', R, rp, e, q⟩ := q
  unfold bName at e
  split at e
  · cases e
  · rename_i hp
    cases e
    refine q _ ⟨List.length_set, fun j hj => ?_⟩ (set_val (r := .val d) R rp hp)
    rw [List.getElem?_set_ne (fun z => hj (by rw [← z]; exact hm))]
theorem rgs_nil : PGs X [] (tGs X.K ζ sl []) := pgsw pgs_nil fun vs σ H Q q => by
  obtain ⟨G, A, L, env, ds, env', R, rp, e, q⟩ := q
  cases ds with
  | nil => cases e; cases rp; exact ⟨rfl, q σ (.refl _ _) R⟩
  | cons d ds => cases e
theorem rgs_cons {e : Expr} {es : List Expr} {b : Bnd} {bs : List Bnd} (h1 : PG X e (tG X.K ζ sl b)) (h2 : PGs X es (tGs X.K ζ sl bs))
    (hs : (assignEach (e :: es) X.env).map (·.2) = assign e X.env :: (assignEach es X.env).map (·.2) := by rfl) : PGs X (e :: es) (tGs X.K ζ sl (b :: bs)) := pgsw (pgs_cons h1 h2 hs) fun vs σ H Q q => by
  obtain ⟨G, A, L, env, ds, env', R, rp, e, q⟩ := q
  cases ds with
  | nil => cases e
  | cons d ds =>
    cases rp with
    | cons r1 r2 =>
      unfold bAll at e
      cases e1 : b d env with
      | none => rw [e1] at e; cases e
      | some ev =>
        rw [e1] at e
        refine ⟨_, _, rfl, G, A, L, env, d, ev, R, r1, e1, fun σ1 u1 R1 => ⟨G, A, L, ev, ds, env', R1, r2, e, fun σ2 u2 R2 => q σ2 (u1.trans u2) R2⟩⟩
theorem bAll_len : ∀ {bs : List Bnd} {ds : List D} {env env' : Env}, bAll bs ds env = some env' → ds.length = bs.length
  | [], [], _, _, _ => rfl
  | b :: bs, d :: ds, env, env', e => by
    unfold bAll at e
    cases e1 : b d env with
    | none => rw [e1] at e; cases e
    | some ev => rw [e1] at e; rw [List.length_cons, List.length_cons, bAll_len e]
  | [], _ :: _, _, _, e => by cases e
  | _ :: _, [], _, _, e => by cases e
theorem rg_tup {es : List Expr} {k : Nat} {bs : List Bnd} (hc : X.calm = true) (h : PGs X es (tGs X.K ζ sl bs))
    (hn : (assignEach es X.env).length = bs.length := by rfl) (hst : (assignEach es X.env).findIdx? (·.1) = none := by rfl) : PG X (.Tuple es k pos) (tG X.K ζ sl (bTup bs)) :=
  pgw (pg_or (pg_tup hc h hn hst) (pg_lst hc h hn hst)) fun v σ H Q q => by
    obtain ⟨G, A, L, env, d, env', R, rp, e, q⟩ := q
    unfold bTup at e
    split at e
    · cases rp with
      | tup h1 h2 => exact .inl ⟨_, _, rfl, sameT R.gh (.of h1), by rw [h2.length]; exact bAll_len e, G, A, L, env, _, env', R, h2, e, q⟩
    · cases rp with
      | lst h1 h2 => exact .inr ⟨_, _, rfl, .of (R.gh _ _ h1), by rw [h2.length]; exact bAll_len e, G, A, L, env, _, env', R, h2, e, q⟩
    · cases e
/-- a, b = e -/
def sUnp (b : Bnd) (m : M) : S := fun env => ofRes (m env) fun p => match p.1.d with
  | some d => match b d p.2 with
    | some e => .next e
    | none => .stuck
  | none => .stuck
theorem rs_unp {tg e : Expr} {b : Bnd} {m : M} (he : PE X e (tM X.K ζ m)) (hg : PG X tg (tG X.K ζ sl b)) (hs : swapsWithSole [tg] e pos.line X.env = pure false := by rfl) (hw : swappedStores [tg] e X.env = pure none := by rfl)
    (h1 : (assignEach [tg] X.env).map (·.2) = [assign tg X.env] := by rfl) : PS X (.Assign [tg] e pos) (tS X.K ζ X.mg W (sUnp b (frz m))) := psw (ps_asg (r_frz he) hg hs hw h1) fun D σ H q => by
  obtain ⟨G, A, L, env, R, q⟩ := q
  unfold sUnp at q
  cases h : frz m env with
  | ok p =>
    rw [h] at q
    refine ⟨G, A, L, env, p.1, p.2, R, h, fun v H' G' s R' hv => ?_⟩
    simp only [ofRes] at q
    -- frozen
    have key : ∃ d, p.1 = .val d := by
      unfold frz at h
      obtain ⟨⟨r, e1⟩, _, h⟩ := bind_eq_ok h
      simp only at h
      split at h <;> cases h <;> exact ⟨_, rfl⟩
    obtain ⟨d, ed⟩ := key
    rw [ed] at q hv
    simp only [O.d] at q
    split at q
    · rename_i ev eb
      exact ⟨G', A, L, p.2, d, ev, R', hv, eb, fun σ' _ R2 => q σ' H' G' s R2⟩
    · exact q.elim
  | exc e => rw [h] at q; exact q.elim
  | stuck => rw [h] at q; exact q.elim
end

/-! ### what is walked -/
structure Wk (K : PySem.W.Frag) (J : It) (G0 A : Hp) (ds : List D) : Prop where
  go : ∀ i d G H, Same G0 G → Same G H → Same A H → ds[i]? = some d → J.go i H ∧ ∀ x H', J.yld i H x H' → ∃ G', Same G G' ∧ Rp K G' x d ∧ ((H' = H ∧ G' = G) ∨ ∃ p o, H p = none ∧ H' = upd H p o ∧ G' = upd G p o)
  stop : ∀ G H, Same G0 G → Same G H → Same A H → J.stop ds.length H
/-- no heap at all -/
def noH : Hp := fun _ => none
theorem noH_same {H : Hp} : Same noH H := fun _ _ z => by cases z
abbrev Src := Env → Res (List D × Env)
def tI (K : PySem.W.Frag) (ζ : Option ZI) (src : Src) : TI := fun σ H R => ∃ G A L env ds env', REnv K ζ G A L H σ env ∧ src env = .ok (ds, env') ∧ ∀ J H' G', Same G G' → REnv K ζ G' A L H' σ env' → Wk K J G' noH ds → R J H'
theorem piw {X : Cx} {tg e : Expr} {t t' : TI} (h : PI X tg e t) (w : ∀ σ H R, t' σ H R → t σ H R) : PI X tg e t' := ⟨fun pins s σ H R I q => h.run pins s σ H R I (w σ H R q)⟩
theorem pi_or {X : Cx} {tg e : Expr} {t t' : TI} (h : PI X tg e t) (h' : PI X tg e t') : PI X tg e fun σ H R => t σ H R ∨ t' σ H R := ⟨fun pins s σ H R I q => q.elim (h.run pins s σ H R I) (h'.run pins s σ H R I)⟩
theorem wk_list {K : PySem.W.Frag} {G A : Hp} {a : Addr} {vs : List V} {ds : List D} (h : G a = some (.lst vs)) (hv : RpAll K G vs ds) : Wk K (Itl K a) G A ds where
  go := fun i d G1 H1 s g _ e => by
    obtain ⟨v, e1, rp⟩ := hv.getD e
    have hs : SqL K H1 a vs := .of (g _ _ (s _ _ h))
    refine ⟨⟨vs, v, hs, e1⟩, fun x H' y => ?_⟩
    obtain ⟨rfl, y⟩ := y
    have := y vs hs
    rw [e1] at this
    cases this
    exact ⟨G1, same_refl _, rp.m s, .inl ⟨rfl, rfl⟩⟩
  stop := fun G1 H1 s g _ => ⟨vs, .of (g _ _ (s _ _ h)), by rw [hv.length]; exact Nat.le_refl _⟩
theorem sqT_inj {K : PySem.W.Frag} {H : Hp} {a : Addr} {vs us : List V} (h : SqT K H a vs) : Itt K a = Itt K a := rfl
theorem wk_tup {K : PySem.W.Frag} {G A : Hp} {a : Addr} {vs : List V} {ds : List D} (h : SqT K G a vs) (hv : RpAll K G vs ds) : Wk K (Itt K a) G A ds where
  go := fun i d G1 H1 s g _ e => by
    obtain ⟨v, e1, rp⟩ := hv.getD e
    have hs : SqT K H1 a vs := sameT g (sameT s h)
    refine ⟨⟨vs, v, hs, e1⟩, fun x H' y => ?_⟩
    obtain ⟨rfl, y⟩ := y
    have := y vs hs
    rw [e1] at this
    cases this
    exact ⟨G1, same_refl _, rp.m s, .inl ⟨rfl, rfl⟩⟩
  stop := fun G1 H1 s g _ => ⟨vs, sameT g (sameT s h), by rw [hv.length]; exact Nat.le_refl _⟩
def chars (z : Str) : List D := z.cps.toList.map fun c => .str ⟨#[c]⟩
theorem wk_str {K : PySem.W.Frag} {G A : Hp} (z : Str) : Wk K (Its z) G A (chars z) where
  go := fun i d G1 H1 s g _ e => by
    unfold chars at e
    rw [List.getElem?_map] at e
    have hi : i < z.cps.size := by
      by_cases h : i < z.cps.size
      · exact h
      · rw [List.getElem?_eq_none (by simpa using h)] at e; cases e
    refine ⟨hi, fun x H' y => ?_⟩
    obtain ⟨rfl, c, ec, rfl⟩ := y
    have e2 : z.cps.toList[i]? = some c := by rw [Array.getElem?_toList]; exact ec
    rw [e2] at e
    cases e
    exact ⟨G1, same_refl _, .str _, .inl ⟨rfl, rfl⟩⟩
  stop := fun G1 H1 s g _ => by
    show z.cps.size ≤ (chars z).length
    unfold chars
    rw [List.length_map, Array.length_toList]
    exact Nat.le_refl _
def rng (lo : Int) (n : Nat) : List D := (List.range n).map fun (k : Nat) => .int (lo + k)
theorem rng_get {lo : Int} {n i : Nat} {d : D} (e : (rng lo n)[i]? = some d) : i < n ∧ d = .int (lo + i) := by
  unfold rng at e
  rw [List.getElem?_map] at e
  by_cases h : i < n
  · rw [List.getElem?_range h] at e
    cases e
    exact ⟨h, rfl⟩
  · rw [List.getElem?_eq_none (by simpa using h)] at e; cases e
theorem rng_len (lo : Int) (n : Nat) : (rng lo n).length = n := by unfold rng; simp
theorem wk_rng {K : PySem.W.Frag} {G A : Hp} (lo : Int) (n : Nat) : Wk K (Itr lo n) G A (rng lo n) where
  go := fun i d G1 H1 s g _ e => by
    obtain ⟨hi, rfl⟩ := rng_get e
    refine ⟨hi, fun x H' y => ?_⟩
    obtain ⟨rfl, rfl⟩ := y
    exact ⟨G1, same_refl _, .int _, .inl ⟨rfl, rfl⟩⟩
  stop := fun G1 H1 s g _ => by rw [rng_len]; exact Nat.le_refl _
def rngC (lo c : Int) (n : Nat) : List D := (List.range n).map fun (k : Nat) => .int (lo + k * c)
theorem wk_rngC {K : PySem.W.Frag} {G A : Hp} (lo c : Int) (n : Nat) : Wk K (Itc lo c n) G A (rngC lo c n) where
  go := fun i d G1 H1 s g _ e => by
    unfold rngC at e
    rw [List.getElem?_map] at e
    by_cases h : i < n
    · rw [List.getElem?_range h] at e
      cases e
      refine ⟨h, fun x H' y => ?_⟩
      obtain ⟨rfl, rfl⟩ := y
      exact ⟨G1, same_refl _, .int _, .inl ⟨rfl, rfl⟩⟩
    · rw [List.getElem?_eq_none (by simpa using h)] at e; cases e
  stop := fun G1 H1 s g _ => by
    show n ≤ (rngC lo c n).length
    unfold rngC
    simp
def enumFrom (i : Nat) : List D → List D
  | [] => []
  | d :: ds => .tuple [.int i, d] :: enumFrom (i + 1) ds
theorem enum_len : ∀ (i : Nat) (ds : List D), (enumFrom i ds).length = ds.length
  | _, [] => rfl
  | i, d :: ds => by unfold enumFrom; rw [List.length_cons, List.length_cons, enum_len]
theorem enum_get : ∀ {i : Nat} {ds : List D} {j : Nat} {e : D}, (enumFrom i ds)[j]? = some e → ∃ d, ds[j]? = some d ∧ e = .tuple [.int ((i + j : Nat) : Int), d]
  | i, [], j, e, h => by cases h
  | i, d :: ds, 0, e, h => by cases h; exact ⟨d, rfl, rfl⟩
  | i, d :: ds, j + 1, e, h => by
    obtain ⟨d', h1, h2⟩ := enum_get (i := i + 1) (ds := ds) (j := j) (by simpa [enumFrom] using h)
    exact ⟨d', by simpa using h1, by rw [h2]; congr 3; omega⟩
theorem wk_enum {K : PySem.W.Frag} {G A : Hp} {a : Addr} {vs : List V} {ds : List D} (h : G a = some (.lst vs)) (hv : RpAll K G vs ds) : Wk K (Ite K a) G A (enumFrom 0 ds) where
  go := fun i d G1 H1 s g _ e => by
    obtain ⟨d', e0, rfl⟩ := enum_get e
    obtain ⟨v, e1, rp⟩ := hv.getD e0
    have hs : SqL K H1 a vs := .of (g _ _ (s _ _ h))
    refine ⟨⟨vs, v, hs, e1⟩, fun x H' y => ?_⟩
    obtain ⟨t, x', rfl, ht, rfl, y⟩ := y
    have := y vs hs
    rw [e1] at this
    cases this
    have gt := g.free ht
    refine ⟨upd G1 t (.tup [.int (i : Nat), v]), lay_same gt _, ?_, .inr ⟨t, _, ht, rfl, rfl⟩⟩
    have e0 : ((0 + i : Nat) : Int) = ((i : Nat) : Int) := by simp
    rw [e0]
    exact .tup (upd_same) (.cons (.int _) (.cons ((rp.m s).m (lay_same gt _)) .nil))
  stop := fun G1 H1 s g _ => ⟨vs, .of (g _ _ (s _ _ h)), by rw [hv.length, enum_len]; exact Nat.le_refl _⟩
def zipD : List D → List D → List D
  | d :: ds, e :: es => .tuple [d, e] :: zipD ds es
  | _, _ => []
theorem zip_get : ∀ {ds es : List D} {j : Nat} {e : D}, (zipD ds es)[j]? = some e → ∃ x y, ds[j]? = some x ∧ es[j]? = some y ∧ e = .tuple [x, y]
  | [], _, j, e, h => by cases h
  | _ :: _, [], j, e, h => by cases h
  | d :: ds, e' :: es, 0, e, h => by cases h; exact ⟨d, e', rfl, rfl, rfl⟩
  | d :: ds, e' :: es, j + 1, e, h => by
    obtain ⟨x, y, h1, h2, h3⟩ := zip_get (ds := ds) (es := es) (j := j) (by simpa [zipD] using h)
    exact ⟨x, y, by simpa using h1, by simpa using h2, h3⟩
theorem zip_len : ∀ (ds es : List D), ds.length ≤ (zipD ds es).length ∨ es.length ≤ (zipD ds es).length
  | [], _ => .inl (Nat.zero_le _)
  | _ :: _, [] => .inr (Nat.zero_le _)
  | d :: ds, e :: es => by
    unfold zipD
    rw [List.length_cons, List.length_cons, List.length_cons]
    rcases zip_len ds es with h | h
    · exact .inl (by omega)
    · exact .inr (by omega)
theorem wk_zip {K : PySem.W.Frag} {G A : Hp} {a b : Addr} {vs us : List V} {ds es : List D} (h : G a = some (.lst vs)) (hv : RpAll K G vs ds) (h' : G b = some (.lst us)) (hu : RpAll K G us es) : Wk K (Itz K a b) G A (zipD ds es) where
  go := fun i d G1 H1 s g _ e => by
    obtain ⟨d1, d2, e0, e0', rfl⟩ := zip_get e
    obtain ⟨v, e1, rp⟩ := hv.getD e0
    obtain ⟨u, e2, rp2⟩ := hu.getD e0'
    have hs : SqL K H1 a vs := .of (g _ _ (s _ _ h))
    have hs2 : SqL K H1 b us := .of (g _ _ (s _ _ h'))
    refine ⟨⟨vs, us, v, u, hs, hs2, e1, e2⟩, fun x H' y => ?_⟩
    obtain ⟨t, x', y', rfl, ht, rfl, y1, y2⟩ := y
    have q1 := y1 vs hs
    have q2 := y2 us hs2
    rw [e1] at q1
    rw [e2] at q2
    cases q1; cases q2
    have gt := g.free ht
    exact ⟨upd G1 t (.tup [v, u]), lay_same gt _, .tup (upd_same) (.cons ((rp.m s).m (lay_same gt _)) (.cons ((rp2.m s).m (lay_same gt _)) .nil)), .inr ⟨t, _, ht, rfl, rfl⟩⟩
  stop := fun G1 H1 s g _ => ⟨vs, us, .of (g _ _ (s _ _ h)), .of (g _ _ (s _ _ h')), by rw [hv.length, hu.length]; exact zip_len ds es⟩
theorem wk_zipT {K : PySem.W.Frag} {G A : Hp} {a b : Addr} {vs us : List V} {ds es : List D} (h : SqT K G a vs) (hv : RpAll K G vs ds) (h' : SqT K G b us) (hu : RpAll K G us es) : Wk K (ItzT K a b) G A (zipD ds es) where
  go := fun i d G1 H1 s g _ e => by
    obtain ⟨d1, d2, e0, e0', rfl⟩ := zip_get e
    obtain ⟨v, e1, rp⟩ := hv.getD e0
    obtain ⟨u, e2, rp2⟩ := hu.getD e0'
    have hs : SqT K H1 a vs := sameT g (sameT s h)
    have hs2 : SqT K H1 b us := sameT g (sameT s h')
    refine ⟨⟨vs, us, v, u, hs, hs2, e1, e2⟩, fun x H' y => ?_⟩
    obtain ⟨t, x', y', rfl, ht, rfl, y1, y2⟩ := y
    have q1 := y1 vs hs
    have q2 := y2 us hs2
    rw [e1] at q1
    rw [e2] at q2
    cases q1; cases q2
    have gt := g.free ht
    exact ⟨upd G1 t (.tup [v, u]), lay_same gt _, .tup (upd_same) (.cons ((rp.m s).m (lay_same gt _)) (.cons ((rp2.m s).m (lay_same gt _)) .nil)), .inr ⟨t, _, ht, rfl, rfl⟩⟩
  stop := fun G1 H1 s g _ => ⟨vs, us, sameT g (sameT s h), sameT g (sameT s h'), by rw [hv.length, hu.length]; exact zip_len ds es⟩

/-! ### sources -/
def itemsD : D → Option (List D)
  | .list ds => some ds
  | .tuple ds => some ds
  | .str z => some (chars z)
  | _ => none
def fsrc (p : O × Env) : Res (List D × Env) := match p.1 with
  | .val d => match itemsD d with
    | some ds => .ok (ds, p.2)
    | none => .stuck
  | _ => .stuck
def srcM (m : M) : Src := fun env => (frz m env).bind fsrc
def srcR1 (m : M) : Src := fun env => (m env).bind fun p => match p.1 with
  | .val (.int j) => if small j = true then .ok (rng 0 j.toNat, p.2) else .stuck
  | _ => .stuck
def srcR2 (a b : M) : Src := fun env => (pass [.m a, .m b] env).bind fun p => match p.1 with
  | [.val (.int i), .val (.int j)] => if small i = true ∧ small j = true then .ok (rng i (j - i).toNat, p.2) else .stuck
  | _ => .stuck
/-- downward by ones -/
def srcRd (a b : M) : Src := fun env => (pass [.m a, .m b] env).bind fun p => match p.1 with
  | [.val (.int i), .val (.int j)] => if small i = true ∧ small j = true then .ok (rngC i (-1) (i - j).toNat, p.2) else .stuck
  | _ => .stuck
def srcEn (m : M) : Src := fun env => (frz m env).bind fun p => match p.1 with
  | .val (.list ds) => .ok (enumFrom 0 ds, p.2)
  | _ => .stuck
def srcZip (a b : M) : Src := fun env => (pass [.m (frz a), .m (frz b)] env).bind fun p => match p.1 with
  | [.val (.list ds), .val (.list es)] => .ok (zipD ds es, p.2)
  | [.val (.tuple ds), .val (.tuple es)] => .ok (zipD ds es, p.2)
  | _ => .stuck
section
variable {X : Cx} {ζ : Option ZI} {W : WX} {tg e a b : Expr} {m ma mb : M} {p pos tpos : Pos} {elts : List Expr} {kk : Nat}
theorem ri_m (he : PE X e (tM X.K ζ m)) : PI X tg e (tI X.K ζ (srcM m)) := piw (pi_or (pi_list (r_frz he)) (pi_or (pi_tup (r_frz he)) (pi_str (r_frz he)))) fun σ H Rr q => by
  obtain ⟨G, A, L, env, ds, env', R, h, q⟩ := q
  obtain ⟨⟨r, e1⟩, h1, h⟩ := bind_eq_ok h
  unfold fsrc at h
  simp only at h
  split at h
  · rename_i d
    cases d with
    | list ds' =>
      cases h
      refine .inl ⟨G, A, L, env, _, _, R, h1, fun v H' G' s R' hv => ?_⟩
      cases (show Rp X.K G' v (.list ds) from hv) with
      | lst k1 k2 => exact ⟨_, rfl, ⟨_, .of (R'.gh _ _ k1)⟩, q _ H' G' s R' (wk_list k1 k2)⟩
    | tuple ds' =>
      cases h
      refine .inr (.inl ⟨G, A, L, env, _, _, R, h1, fun v H' G' s R' hv => ?_⟩)
      cases (show Rp X.K G' v (.tuple ds) from hv) with
      | tup k1 k2 => exact ⟨_, rfl, ⟨_, sameT R'.gh (.of k1)⟩, q _ H' G' s R' (wk_tup (.of k1) k2)⟩
    | str z =>
      cases h
      refine .inr (.inr ⟨G, A, L, env, _, _, R, h1, fun v H' G' s R' hv => ?_⟩)
      cases (show Rp X.K G' v (.str z) from hv)
      exact ⟨z, rfl, q _ H' G' s R' (wk_str z)⟩
    | _ => cases h
  · cases h
theorem ri_r1 (hm : X.mg "range" = none) (he : PE X e (tM X.K ζ m)) (hg : Gl X "range" := by rfl) (hs : starEach [e] X.env = [(false, eval e X.env)] := by rfl) (hs2 : starEach [e] X.env = (false, eval e X.env) :: starEach [] X.env := by rfl) : PI X tg (.Call (.Name "range" p) [e] [] pos) (tI X.K ζ (srcR1 m)) :=
  piw (pi_range1 hg hm (pa_cons he pa_nil hs2) hs) fun σ H Rr q => by
    obtain ⟨G, A, L, env, ds, env', R, h, q⟩ := q
    obtain ⟨⟨r, e1⟩, h1, h⟩ := bind_eq_ok h
    refine ⟨G, A, L, env, r, e1, R, h1, fun v H' G' s R' hv => ?_⟩
    simp only at h
    split at h
    · rename_i j
      split at h
      · rename_i z
        cases h
        cases (show Rp X.K G' v (.int j) from hv)
        exact ⟨j, rfl, by have := small_b z; omega, by have := small_b z; omega, q _ H' G' s R' (wk_rng 0 _)⟩
      · cases h
    · cases h
theorem ri_r2 (hm : X.mg "range" = none) (ha : PE X a (tM X.K ζ ma)) (hb : PE X b (tM X.K ζ mb)) (hg : Gl X "range" := by rfl) (hs : starEach [a, b] X.env = [(false, eval a X.env), (false, eval b X.env)] := by rfl) (hs2 : starEach [b] X.env = [(false, eval b X.env)] := by rfl)
    (hs3 : starEach [a, b] X.env = (false, eval a X.env) :: starEach [b] X.env := by rfl) (hs4 : starEach [b] X.env = (false, eval b X.env) :: starEach [] X.env := by rfl) : PI X tg (.Call (.Name "range" p) [a, b] [] pos) (tI X.K ζ (srcR2 ma mb)) :=
  piw (pi_range2 hg hm (pa_cons ha (pa_cons hb pa_nil hs4) hs3) hs hs2) fun σ H Rr q => by
    obtain ⟨G, A, L, env, ds, env', R, h, q⟩ := q
    obtain ⟨⟨rs, e1⟩, h1, h⟩ := bind_eq_ok h
    refine pass_all [.m ma, .m mb] R h1 fun vs H' G' s R' ops => ?_
    simp only at h
    split at h
    · rename_i _ i j
      split at h
      · rename_i z
        cases h
        cases ops with
        | cons o1 t =>
          cases t with
          | cons o2 t =>
            cases t
            cases (show Rp X.K G' _ (.int i) from o1)
            cases (show Rp X.K G' _ (.int j) from o2)
            exact ⟨i, j, rfl, ⟨by have := small_b z.1; omega, by have := small_b z.1; omega, by have := small_b z.2; omega, by have := small_b z.2; omega⟩, q _ H' G' s R' (wk_rng i _)⟩
      · cases h
    · cases h
theorem ri_en (hm : X.mg "enumerate" = none) (he : PE X e (tM X.K ζ m)) (hg : Gl X "enumerate" := by rfl) (hs : starEach [e] X.env = [(false, eval e X.env)] := by rfl) (hs2 : starEach [e] X.env = (false, eval e X.env) :: starEach [] X.env := by rfl) : PI X (.Tuple elts kk tpos) (.Call (.Name "enumerate" p) [e] [] pos) (tI X.K ζ (srcEn m)) :=
  piw (pi_enum hg hm (pa_cons (r_frz he) pa_nil hs2) hs) fun σ H Rr q => by
    obtain ⟨G, A, L, env, ds, env', R, h, q⟩ := q
    obtain ⟨⟨r, e1⟩, h1, h⟩ := bind_eq_ok h
    refine ⟨G, A, L, env, r, e1, R, h1, fun v H' G' s R' hv => ?_⟩
    simp only at h
    split at h
    · cases h
      rename_i ds'
      cases (show Rp X.K G' v (.list ds') from hv) with
      | lst k1 k2 => exact ⟨_, _, rfl, .of (R'.gh _ _ k1), q _ H' G' s R' (wk_enum k1 k2)⟩
    · cases h
theorem ri_zip (hm : X.mg "zip" = none) (ha : PE X a (tM X.K ζ ma)) (hb : PE X b (tM X.K ζ mb)) (hg : Gl X "zip" := by rfl) (hs : starEach [a, b] X.env = (false, eval a X.env) :: starEach [b] X.env := by rfl) (hpl : (backTo pos (starEach [b] X.env)).any (·.1) = false := by rfl)
    (hs4 : starEach [b] X.env = (false, eval b X.env) :: starEach [] X.env := by rfl) : PI X (.Tuple elts kk tpos) (.Call (.Name "zip" p) [a, b] [] pos) (tI X.K ζ (srcZip ma mb)) :=
  piw (pi_zipA hg hm (pa_cons (r_frz ha) (pa_cons (r_frz hb) pa_nil hs4) hs) hs hpl) fun σ H Rr q => by
    obtain ⟨G, A, L, env, ds, env', R, h, q⟩ := q
    obtain ⟨⟨rs, e1⟩, h1, h⟩ := bind_eq_ok h
    refine pass_all [.m (frz ma), .m (frz mb)] R h1 fun vs H' G' s R' ops => ?_
    simp only at h
    split at h
    · rename_i _ xs ys
      cases h
      cases ops with
      | cons o1 t =>
        cases t with
        | cons o2 t =>
          cases t
          cases (show Rp X.K G' _ (.list xs) from o1) with
          | lst k1 k2 =>
            cases (show Rp X.K G' _ (.list ys) from o2) with
            | lst k3 k4 => exact ⟨_, _, _, _, rfl, .inl ⟨.of (R'.gh _ _ k1), .of (R'.gh _ _ k3), q _ H' G' s R' (wk_zip k1 k2 k3 k4)⟩⟩
    · rename_i _ xs ys
      cases h
      cases ops with
      | cons o1 t =>
        cases t with
        | cons o2 t =>
          cases t
          cases (show Rp X.K G' _ (.tuple xs) from o1) with
          | tup k1 k2 =>
            cases (show Rp X.K G' _ (.tuple ys) from o2) with
            | tup k3 k4 => exact ⟨_, _, _, _, rfl, .inr ⟨sameT R'.gh (.of k1), sameT R'.gh (.of k3), q _ H' G' s R' (wk_zipT (.of k1) k2 (.of k3) k4)⟩⟩
    · cases h
end

/-! ### for -/
def forL (g : Bnd) (body : S) : List D → Env → SRes
  | [], env => .next env
  | d :: ds, env => match g d env with
    | none => .stuck
    | some e => match body e with
      | .next e2 => forL g body ds e2
      | .cont e2 => forL g body ds e2
      | .brk e2 => .next e2
      | r => r
def sFor (src : Src) (g : Bnd) (body : S) : S := fun env => ofRes (src env) fun p => forL g body p.1 p.2
section
variable {X : Cx} {ζ : Option ZI} {W : WX} {tg iter : Expr} {body : List Stmt} {src : Src} {g : Bnd} {s : S} {sl : List Nat} {pos : Pos}
theorem rs_for (hp : PassesOwn (model X.prog X.w) X.A X.env X.xe) (hc : X.calm = true) (hi : PI X tg iter (tI X.K ζ src)) (hg : PG X tg (tG X.K ζ sl g)) (hb : PSs X body (tS X.K ζ X.mg W s)) (hs : ∀ x, foldedSetIterable iter X.env x = pure x := by intro _; rfl) :
    PS X (.For tg iter body [] pos) (tS X.K ζ X.mg W (sFor src g s)) := psw (ps_for hp hc hi hg hb hs) fun D σ H q => by
  obtain ⟨G, A, L, env, R, q⟩ := q
  unfold sFor at q
  cases h : src env with
  | exc e => rw [h] at q; exact q.elim
  | stuck => rw [h] at q; exact q.elim
  | ok p =>
    rw [h] at q
    obtain ⟨ds, e1⟩ := p
    refine ⟨G, A, L, env, ds, e1, R, h, fun J H1 G1 s1 R1 WK => ?_⟩
    refine ⟨fun i m σ H => m = ds.length - i ∧ i ≤ ds.length ∧ ∃ G2 env, Same G1 G2 ∧ REnv X.K ζ G2 A L H σ env ∧ SWant X.K ζ X.mg W G2 A L D (forL g s (ds.drop i) env), ⟨_, rfl, Nat.zero_le _, G1, e1, same_refl _, R1, q.of s1⟩, ?_⟩
    rintro i m σ H ⟨rfl, hi, G2, env, s2, R2, q⟩
    by_cases hlt : i < ds.length
    · have e : ds[i]? = some ds[i] := by simp [hlt]
      obtain ⟨go, yl⟩ := WK.go i _ G2 H s2 R2.gh noH_same e
      refine .inr ⟨go, fun σ' H' => i + 1 ≤ ds.length ∧ ∃ G3 env, Same G1 G3 ∧ REnv X.K ζ G3 A L H' σ' env ∧ SWant X.K ζ X.mg W G3 A L D (forL g s (ds.drop (i + 1)) env), fun σ' H' n => ⟨ds.length - (i + 1), by omega, rfl, n⟩, fun x H' y => ?_⟩
      obtain ⟨G3, s3, rp, hh⟩ := yl x H' y
      have R3 : REnv X.K ζ G3 A L H' σ env := by
        rcases hh with ⟨rfl, rfl⟩ | ⟨p, o, hp, rfl, rfl⟩
        · exact R2
        · exact R2.lay hp o
      have ed : ds.drop i = ds[i] :: ds.drop (i + 1) := List.drop_eq_getElem_cons hlt
      rw [ed] at q
      unfold forL at q
      cases eg : g ds[i] env with
      | none => rw [eg] at q; exact q.elim
      | some ev =>
        rw [eg] at q
        simp only at q
        refine ⟨G3, A, L, env, ds[i], ev, R3, rp, eg, fun σ4 _ R4 => ⟨G3, A, L, ev, R4, ?_⟩⟩
        cases eb : s ev with
        | next e2 => rw [eb] at q; exact fun σ' H' G' s' R' => ⟨hlt, G', e2, s2.trans (s3.trans s'), R', q.of (s3.trans s')⟩
        | cont e2 => rw [eb] at q; exact fun σ' H' G' s' R' => ⟨hlt, G', e2, s2.trans (s3.trans s'), R', q.of (s3.trans s')⟩
        | brk e2 => rw [eb] at q; exact SWant.of (r := .next e2) s3 q
        | ret r e2 => rw [eb] at q; exact SWant.of (r := .ret r e2) s3 q
        | exc x e => rw [eb] at q; exact SWant.of (r := .exc x e) s3 q
        | stuck => rw [eb] at q; exact q.elim
    · have e : i = ds.length := by omega
      subst e
      rw [List.drop_length] at q
      exact .inl ⟨WK.stop G2 H s2 R2.gh noH_same, q σ H G2 (same_refl _) R2⟩
end
end SE

namespace SE
open PySem L2 RZ

/-! ### while -/
def whl : Nat → T → S → S
  | 0, _, _, _ => .stuck
  | n + 1, t, s, env => ofRes (t env) fun p => if p.1 = true then match s p.2 with
      | .next e => whl n t s e
      | .cont e => whl n t s e
      | .brk e => .next e
      | r => r
    else .next p.2
section
variable {X : Cx} {ζ : Option ZI} {W : WX} {c : Expr} {body : List Stmt} {t : T} {s : S} {pos : Pos}
theorem rs_while (n : Nat) (hp : PassesOwn (model X.prog X.w) X.A X.env X.xe) (hc : PT X c (tT X.K ζ t)) (hb : PSs X body (tS X.K ζ X.mg W s)) : PS X (.While c body [] pos) (tS X.K ζ X.mg W (whl n t s)) := psw (ps_while hp hc hb) fun D σ H q => by
  obtain ⟨G, A, L, env, R, q⟩ := q
  refine ⟨fun m σ H => ∃ G2 env, REnv X.K ζ G2 A L H σ env ∧ SWant X.K ζ X.mg W G2 A L D (whl m t s env), ⟨n, G, env, R, q⟩, ?_⟩
  rintro m σ H ⟨G2, env, R2, q⟩
  cases m with
  | zero => exact q.elim
  | succ m =>
    unfold whl at q
    cases h : t env with
    | exc e => rw [h] at q; exact q.elim
    | stuck => rw [h] at q; exact q.elim
    | ok p =>
      rw [h] at q
      refine ⟨G2, A, L, env, p.1, p.2, R2, h, fun H' G' s' R' => ?_⟩
      simp only [ofRes] at q
      cases hb : p.1 with
      | false =>
        rw [hb, if_neg Bool.false_ne_true] at q
        rw [if_neg Bool.false_ne_true]
        exact q σ H' G' s' R'
      | true =>
        rw [hb, if_pos rfl] at q
        rw [if_pos rfl]
        refine ⟨fun σ' H' => ∃ G3 env, REnv X.K ζ G3 A L H' σ' env ∧ SWant X.K ζ X.mg W G3 A L D (whl m t s env), fun σ' H' n => ⟨m, Nat.lt_succ_self m, n⟩, G', A, L, p.2, R', ?_⟩
        cases eb : s p.2 with
        | next e2 => rw [eb] at q; exact fun σ' H' G3 s3 R3 => ⟨G3, e2, R3, q.of (s'.trans s3)⟩
        | cont e2 => rw [eb] at q; exact fun σ' H' G3 s3 R3 => ⟨G3, e2, R3, q.of (s'.trans s3)⟩
        | brk e2 => rw [eb] at q; exact SWant.of (r := .next e2) s' q
        | ret r e2 => rw [eb] at q; exact SWant.of (r := .ret r e2) s' q
        | exc x e => rw [eb] at q; exact SWant.of (r := .exc x e) s' q
        | stuck => rw [eb] at q; exact q.elim
end

/-! ### a list that grows beside -/
theorem amb_out {K : PySem.W.Frag} {ζ : Option ZI} {G A : Hp} {L : Nat → Option Addr} {H : Hp} {σ : St} {env : Env} {p : Addr} {vs : List V} {xs : List D} (ap : A p = none) (hl : ∀ i, L i ≠ some p) (R : REnv K ζ G (upd A p (.lst vs)) L H σ env) (h : RpAll K G vs xs) :
    REnv K ζ G A L H σ env ∧ RVal K G A L H σ env (.own xs) (.ref p) := by
  have hA : Same A (upd A p (.lst vs)) := lay_same ap _
  have an : ∀ {b : Addr}, upd A p (.lst vs) b = none → A b = none := fun z => hA.free z
  refine ⟨⟨R.len, R.gh, fun b u z => R.ah _ _ (hA _ _ z), fun b u z => R.ag _ _ (hA _ _ z), fun i o w e1 e2 => ?_, R.inj, R.lp, fun a us z => R.tu a us (hA _ _ z)⟩, p, vs, rfl, R.ah _ _ upd_same, R.ag _ _ upd_same, ap, h, fun i x e1 m z => ?_, hl⟩
  · have q := R.sl i o w e1 e2
    match o, q with
    | .un, _ => trivial
    | .tpl _, _ => trivial
    | .val d, q => exact q
    | .own ys, q =>
      obtain ⟨p', vs', e3, e4, e5, e6, q⟩ := q
      exact ⟨p', vs', e3, e4, e5, an e6, q⟩
    | .dct tk ys, q =>
      obtain ⟨p', vs', e3, e4, e5, e6, q⟩ := q
      exact ⟨p', vs', e3, e4, e5, an e6, q⟩
    | .pin true ys, q =>
      obtain ⟨p', vs', e0, e3, e4, e5, e6, q⟩ := q
      exact ⟨p', vs', e0, e3, e4, e5, an e6, q⟩
    | .pin false ys, q =>
      obtain ⟨p', vs', e0, e3, e4, q⟩ := q
      have hb : p' ≠ p := fun z => hl i (by rw [e0, z])
      rw [upd_ne hb] at e4
      exact ⟨p', vs', e0, e3, e4, q⟩
    | .scr ns, q => exact q
    | .exn x, q =>
      obtain ⟨zi, C, dd, fs, z1, z2, z3, z4, z5, z6, z7⟩ := q
      have hb : dd ≠ p := fun z => by rw [z, upd_same] at z6; cases z6
      rw [upd_ne hb] at z6
      exact ⟨zi, C, dd, fs, z1, z2, z3, z4, z5, z6, z7⟩
  · obtain ⟨_, _, _, h3⟩ := slot_alive R e1 m z
    rw [upd_same] at h3; cases h3
theorem amb_put {K : PySem.W.Frag} {ζ : Option ZI} {G A : Hp} {L : Nat → Option Addr} {H : Hp} {σ : St} {env : Env} {p : Addr} {vs : List V} {o : HO} (hl : ∀ i, L i ≠ some p) (R : REnv K ζ G (upd A p (.lst vs)) L H σ env) (ht : ∀ us, o ≠ .tup us := by intro _ z; cases z) : REnv K ζ G (upd A p o) L (upd H p o) σ env := by
  have gp : G p = none := R.ag _ _ upd_same
  have tu : ∀ (a : Addr) (us : List V), upd A p o a ≠ some (.tup us) := fun a us z => by
    by_cases e : a = p
    · subst e; rw [upd_same] at z; exact ht us (Option.some.inj z)
    · rw [upd_ne e] at z
      exact R.tu a us (by rw [upd_ne e]; exact z)
  refine ⟨R.len, fun b u z => ?_, fun b u z => ?_, fun b u z => ?_, fun i x w e1 e2 => ?_, R.inj, R.lp, tu⟩
  · rw [upd_ne (ne_of_none z gp)]; exact R.gh _ _ z
  · by_cases hb : b = p
    · subst hb; rw [upd_same] at z ⊢; exact z
    · rw [upd_ne hb] at z ⊢; exact R.ah b u (by rw [upd_ne hb]; exact z)
  · by_cases hb : b = p
    · subst hb; exact gp
    · rw [upd_ne hb] at z; exact R.ag b u (by rw [upd_ne hb]; exact z)
  · have q := R.sl i x w e1 e2
    match x, q with
    | .un, _ => trivial
    | .tpl _, _ => trivial
    | .val d, q => exact q
    | .own ys, q =>
      obtain ⟨p', vs', e3, e4, e5, e6, q⟩ := q
      have hb : p' ≠ p := fun z => by rw [z, upd_same] at e6; cases e6
      rw [upd_ne hb] at e6
      exact ⟨p', vs', e3, by rw [upd_ne hb]; exact e4, e5, by rw [upd_ne hb]; exact e6, q⟩
    | .dct tk ys, q =>
      obtain ⟨p', vs', e3, e4, e5, e6, q⟩ := q
      have hb : p' ≠ p := fun z => by rw [z, upd_same] at e6; cases e6
      rw [upd_ne hb] at e6
      exact ⟨p', vs', e3, by rw [upd_ne hb]; exact e4, e5, by rw [upd_ne hb]; exact e6, q⟩
    | .pin true ys, q =>
      obtain ⟨p', vs', e0, e3, e4, e5, e6, q⟩ := q
      have hb : p' ≠ p := fun z => by rw [z, upd_same] at e6; cases e6
      rw [upd_ne hb] at e6
      exact ⟨p', vs', e0, e3, by rw [upd_ne hb]; exact e4, e5, by rw [upd_ne hb]; exact e6, q⟩
    | .pin false ys, q =>
      obtain ⟨p', vs', e0, e3, e4, q⟩ := q
      have hb : p' ≠ p := fun z => hl i (by rw [e0, z])
      rw [upd_ne hb] at e4
      exact ⟨p', vs', e0, e3, by rw [upd_ne hb]; exact e4, q⟩
    | .scr ns, q => exact q
    | .exn x, q =>
      obtain ⟨zi, C, dd, fs, z1, z2, z3, z4, z5, z6, z7⟩ := q
      have hb : dd ≠ p := fun z => by rw [z, upd_same] at z6; cases z6
      rw [upd_ne hb] at z6
      exact ⟨zi, C, dd, fs, z1, z2, z3, z4, z5, by rw [upd_ne hb]; exact z6, z7⟩
theorem amb_in {K : PySem.W.Frag} {ζ : Option ZI} {G A : Hp} {L : Nat → Option Addr} {H : Hp} {σ : St} {env : Env} {p : Addr} {o : HO} (R : REnv K ζ G A L H σ env) (hp : H p = none) (ht : ∀ us, o ≠ .tup us := by intro _ z; cases z) : REnv K ζ G (upd A p o) L (upd H p o) σ env := by
  have R1 := R.lay0 hp o
  have gp := R.gh.free hp
  have ap := R.ah.free hp
  refine ⟨R1.len, R1.gh, fun b u z => ?_, fun b u z => ?_, fun i x w e1 e2 => ?_, R1.inj, R1.lp, tuA R.tu ht⟩
  · by_cases hb : b = p
    · subst hb; rw [upd_same] at z ⊢; exact z
    · rw [upd_ne hb] at z; exact R1.ah b u z
  · by_cases hb : b = p
    · subst hb; exact gp
    · rw [upd_ne hb] at z; exact R1.ag b u z
  · have q := R.sl i x w e1 e2
    have q1 := R1.sl i x w e1 e2
    match x, q, q1 with
    | .un, _, _ => trivial
    | .tpl _, _, _ => trivial
    | .val d, q, _ => exact q
    | .own ys, q, _ =>
      obtain ⟨p', vs', e3, e4, e5, e6, q⟩ := q
      have hb : p' ≠ p := fun z => by rw [z, hp] at e4; cases e4
      exact ⟨p', vs', e3, by rw [upd_ne hb]; exact e4, e5, by rw [upd_ne hb]; exact e6, q⟩
    | .dct tk ys, q, _ =>
      obtain ⟨p', vs', e3, e4, e5, e6, q⟩ := q
      have hb : p' ≠ p := fun z => by rw [z, hp] at e4; cases e4
      exact ⟨p', vs', e3, by rw [upd_ne hb]; exact e4, e5, by rw [upd_ne hb]; exact e6, q⟩
    | .pin true ys, q, _ =>
      obtain ⟨p', vs', e0, e3, e4, e5, e6, q⟩ := q
      have hb : p' ≠ p := fun z => by rw [z, hp] at e4; cases e4
      exact ⟨p', vs', e0, e3, by rw [upd_ne hb]; exact e4, e5, by rw [upd_ne hb]; exact e6, q⟩
    | .pin false ys, q, _ =>
      obtain ⟨p', vs', e0, e3, e4, q⟩ := q
      have hb : p' ≠ p := fun z => by rw [z, ap] at e4; cases e4
      exact ⟨p', vs', e0, e3, by rw [upd_ne hb]; exact e4, q⟩
    | .scr ns, q, _ => exact q
    | .exn x, q, _ =>
      obtain ⟨zi, C, dd, fs, z1, z2, z3, z4, z5, z6, z7⟩ := q
      have hb : dd ≠ p := fun z => by rw [z, ap] at z6; cases z6
      exact ⟨zi, C, dd, fs, z1, z2, z3, z4, z5, by rw [upd_ne hb]; exact z6, z7⟩

/-! ### comprehensions -/
def wipeE (e : Env) : List Nat → Env
  | [] => e
  | v :: vs => (wipeE e vs).set v .un
def restE (e0 e : Env) : List Nat → Env
  | [] => e
  | v :: vs => (restE e0 e vs).set v (e0.getD v .un)
def O.soft : O → Bool
  | .un => true
  | .val _ => true
  | _ => false
theorem soft_mine : ∀ {x : O}, x.soft = true → x.mine = true → False
  | .un, _, m => by cases m
  | .tpl _, _, m => by cases m
  | .val _, _, m => by cases m
  | .own _, s, _ => by cases s
  | .pin _ _, s, _ => by cases s
  | .scr _, s, _ => by cases s
theorem wipeE_len (e : Env) : ∀ vs, (wipeE e vs).length = e.length
  | [] => rfl
  | v :: vs => by unfold wipeE; rw [List.length_set, wipeE_len e vs]
theorem restE_len (e0 e : Env) : ∀ vs, (restE e0 e vs).length = e.length
  | [] => rfl
  | v :: vs => by unfold restE; rw [List.length_set, restE_len e0 e vs]
theorem wipeE_out {e : Env} {i : Nat} : ∀ {vs : List Nat}, i ∉ vs → (wipeE e vs)[i]? = e[i]?
  | [], _ => rfl
  | v :: vs, h => by
    simp only [List.mem_cons, not_or] at h
    unfold wipeE
    rw [List.getElem?_set_ne (fun z => h.1 z.symm), wipeE_out h.2]
theorem wipeE_in {e : Env} {i : Nat} {o : O} : ∀ {vs : List Nat}, i ∈ vs → (wipeE e vs)[i]? = some o → o = .un
  | [], h, _ => by simp at h
  | v :: vs, h, q => by
    unfold wipeE at q
    by_cases hv : v = i
    · subst hv
      rw [List.getElem?_set_self (by have := (List.getElem?_eq_some_iff.mp q).1; rwa [List.length_set] at this)] at q
      exact (Option.some.inj q).symm
    · rw [List.getElem?_set_ne hv] at q
      exact wipeE_in ((List.mem_cons.mp h).resolve_left (fun z => hv z.symm)) q
theorem restE_out {e0 e : Env} {i : Nat} : ∀ {vs : List Nat}, i ∉ vs → (restE e0 e vs)[i]? = e[i]?
  | [], _ => rfl
  | v :: vs, h => by
    simp only [List.mem_cons, not_or] at h
    unfold restE
    rw [List.getElem?_set_ne (fun z => h.1 z.symm), restE_out h.2]
theorem restE_in {e0 e : Env} {i : Nat} {o : O} : ∀ {vs : List Nat}, i ∈ vs → (restE e0 e vs)[i]? = some o → o = e0.getD i .un
  | [], h, _ => by simp at h
  | v :: vs, h, q => by
    unfold restE at q
    by_cases hv : v = i
    · subst hv
      rw [List.getElem?_set_self (by have := (List.getElem?_eq_some_iff.mp q).1; rwa [List.length_set] at this)] at q
      exact (Option.some.inj q).symm
    · rw [List.getElem?_set_ne hv] at q
      exact restE_in ((List.mem_cons.mp h).resolve_left (fun z => hv z.symm)) q
theorem wipe_out' {σ : St} {i : Nat} {vs : List Nat} (h : i ∉ vs) : (wipe σ vs)[i]? = σ[i]? := wipe_out h
section
variable {K : PySem.W.Frag} {ζ : Option ZI} {G A : Hp} {L : Nat → Option Addr} {H : Hp} {σ σ' : St} {env env0 : Env} {vs : List Nat}
theorem wipe_env (R : REnv K ζ G A L H σ env) (hs : ∀ i ∈ vs, (env.getD i .un).pinned = false) : REnv K ζ G A L H (wipe σ vs) (wipeE env vs) where
  len := by rw [wipeE_len, wipe_length]; exact R.len
  gh := R.gh
  ah := R.ah
  ag := R.ag
  sl := fun i o w e1 e2 => by
    by_cases hi : i ∈ vs
    · rw [wipeE_in hi e1]; trivial
    · rw [wipeE_out hi] at e1
      rw [wipe_out' hi] at e2
      exact R.sl i o w e1 e2
  inj := fun i j x y p e1 e2 m1 m2 z1 z2 => by
    by_cases hi : i ∈ vs
    · rw [wipeE_in hi e1] at m1; cases m1
    · by_cases hj : j ∈ vs
      · rw [wipeE_in hj e2] at m2; cases m2
      · rw [wipeE_out hi] at e1
        rw [wipeE_out hj] at e2
        rw [wipe_out' hi] at z1
        rw [wipe_out' hj] at z2
        exact R.inj i j x y p e1 e2 m1 m2 z1 z2
  lp := fun i p e => by
    obtain ⟨w, xs, q⟩ := R.lp i p e
    have hi : i ∉ vs := fun z => by
      have := hs i z
      rw [List.getD_eq_getElem?_getD, q] at this
      cases this
    exact ⟨w, xs, by rw [wipeE_out hi]; exact q⟩
  tu := R.tu
/-- the block's own names are as they were ahead of it -/
theorem rest_env (R0 : REnv K ζ G A L H σ env0) (R : REnv K ζ G A L H (wipe σ vs) env) (hs : ∀ i ∈ vs, (env0.getD i .un).soft = true) : REnv K ζ G A L H σ (restE env0 env vs) where
  len := by rw [restE_len]; have := R.len; rw [wipe_length] at this; exact this
  gh := R.gh
  ah := R.ah
  ag := R.ag
  sl := fun i o w e1 e2 => by
    by_cases hi : i ∈ vs
    · have eo := restE_in hi e1
      have so := hs i hi
      rw [← eo] at so
      match o, so with
      | .un, _ => trivial
      | .tpl _, _ => trivial
      | .val d, _ => exact R0.sl i _ _ (getD_some eo.symm rfl) e2
    · rw [restE_out hi] at e1
      exact R.sl i o w e1 (by rw [wipe_out' hi]; exact e2)
  inj := fun i j x y p e1 e2 m1 m2 z1 z2 => by
    have soft : ∀ {k : Nat} {x : O}, (restE env0 env vs)[k]? = some x → x.mine = true → k ∉ vs := fun {k x} e m hk => by
      have eo := restE_in hk e
      have so := hs k hk
      rw [← eo] at so
      exact soft_mine so m
    have hi := soft e1 m1
    have hj := soft e2 m2
    rw [restE_out hi] at e1
    rw [restE_out hj] at e2
    exact R.inj i j x y p e1 e2 m1 m2 (by rw [wipe_out' hi]; exact z1) (by rw [wipe_out' hj]; exact z2)
  lp := fun i p e => by
    obtain ⟨w, xs, q⟩ := R.lp i p e
    have hi : i ∉ vs := fun z => by
      have so := hs i z
      obtain ⟨w', xs', q'⟩ := R0.lp i p e
      rw [List.getD_eq_getElem?_getD, q'] at so
      cases so
    exact ⟨w, xs, by rw [restE_out hi]; exact q⟩
  tu := R.tu
theorem soft_pinned {o : O} (h : o.soft = true) : o.pinned = false := by cases o <;> first | rfl | cases h
/-- at a turn's end the block's own names are forgotten -/
theorem rewipe (hw : wipe σ' vs = wipe σ vs) (R : REnv K ζ G A L H σ' env) (hs : ∀ i ∈ vs, L i = none) : REnv K ζ G A L H (wipe σ vs) (wipeE env vs) := by
  rw [← hw]
  refine ⟨by rw [wipeE_len, wipe_length]; exact R.len, R.gh, R.ah, R.ag, fun i o w e1 e2 => ?_, fun i j x y p e1 e2 m1 m2 z1 z2 => ?_, fun i p e => ?_, R.tu⟩
  · by_cases hi : i ∈ vs
    · rw [wipeE_in hi e1]; trivial
    · rw [wipeE_out hi] at e1
      rw [wipe_out' hi] at e2
      exact R.sl i o w e1 e2
  · by_cases hi : i ∈ vs
    · rw [wipeE_in hi e1] at m1; cases m1
    · by_cases hj : j ∈ vs
      · rw [wipeE_in hj e2] at m2; cases m2
      · rw [wipeE_out hi] at e1
        rw [wipeE_out hj] at e2
        rw [wipe_out' hi] at z1
        rw [wipe_out' hj] at z2
        exact R.inj i j x y p e1 e2 m1 m2 z1 z2
  · obtain ⟨w, xs, q⟩ := R.lp i p e
    have hi : i ∉ vs := fun z => by rw [hs i z] at e; cases e
    exact ⟨w, xs, by rw [wipeE_out hi]; exact q⟩
end
def compL (g : Bnd) (t : T) (elt : M) (vs : List Nat) : List D → List D → Env → Res (List D × Env)
  | [], acc, env => .ok (acc, env)
  | d :: ds, acc, env => match g d env with
    | none => .stuck
    | some e => (t e).bind fun p => if p.1 = true then (elt p.2).bind fun q => match q.1 with
        | .val r => if acc.length < 16777216 then compL g t elt vs ds (acc ++ [r]) (wipeE q.2 vs) else .stuck
        | _ => .stuck
      else compL g t elt vs ds acc (wipeE p.2 vs)
def mComp (src : Src) (g : Bnd) (t : T) (elt : M) (vs : List Nat) : M := fun env => (src env).bind fun p => if vs.all (fun i => (p.2.getD i .un).soft) = true then (compL g t elt vs p.1 [] (wipeE p.2 vs)).bind fun q => .ok (.own q.1, restE p.2 q.2 vs) else .stuck
def tTrue : T := fun env => .ok (true, env)
theorem But.wipe {sl vs : List Nat} {σ σ' : St} (h : But sl σ σ') (hs : ∀ i ∈ sl, i ∈ vs) : L2.wipe σ' vs = L2.wipe σ vs := by
  apply List.ext_getElem?
  intro i
  by_cases hi : i ∈ vs
  · have key : ∀ (τ : St), τ.length = σ.length → (L2.wipe τ vs)[i]? = if i < σ.length then some none else none := by
      intro τ hτ
      by_cases hl : i < σ.length
      · rw [if_pos hl]
        have hlt : i < (L2.wipe τ vs).length := by rw [wipe_length, hτ]; exact hl
        cases e : (L2.wipe τ vs)[i]'hlt with
        | none => rw [List.getElem?_eq_getElem hlt, e]
        | some v =>
          have q : (L2.wipe τ vs)[i]? = some (some v) := by rw [List.getElem?_eq_getElem hlt, e]
          exact absurd hi (wipe_some q).2
      · rw [if_neg hl, List.getElem?_eq_none (by rw [wipe_length, hτ]; omega)]
    rw [key σ' h.1, key σ rfl]
  · rw [wipe_out' hi, wipe_out' hi]
    exact h.2 i fun z => hi (hs i z)
section
variable {X : Cx} {ζ : Option ZI} {W : WX} {elt tg iter : Expr} {ifs : List Expr} {scope : Scope} {own : List (Str × Nat)} {pos : Pos} {src : Src} {g : Bnd} {t : T} {me : M} {sl : List Nat}
theorem comp_ok {K : PySem.W.Frag} {ζ : Option ZI} {vs : List Nat} (hsl : ∀ i ∈ sl, i ∈ vs) {σ : St} {H : Hp} {Q : VK} (q : tM K ζ (mComp src g t me vs) σ H Q) : tLc (tI K ζ src) (tG K ζ sl g) (tT K ζ t) (tM K ζ me) vs σ H Q := by
  obtain ⟨G, A, L, env, r0, env', R, e, q⟩ := q
  obtain ⟨⟨ds, e1⟩, h1, h⟩ := bind_eq_ok e
  refine ⟨G, A, L, env, ds, e1, R, h1, fun J H1 G1 s1 R1 W D hD => ?_⟩
  simp only at h
  split at h
  · rename_i hsoft
    have hs : ∀ i ∈ vs, (e1.getD i .un).soft = true := fun i hi => List.all_eq_true.mp hsoft i hi
    have hL : ∀ i ∈ vs, L i = none := fun i hi => by
      cases q : L i with
      | none => rfl
      | some p =>
        obtain ⟨w, xs, e⟩ := R1.lp i p q
        have := hs i hi
        rw [List.getD_eq_getElem?_getD, e] at this
        cases this
    obtain ⟨⟨accF, envF⟩, h2, h⟩ := bind_eq_ok h
    cases h
    have hLD : ∀ i, L i ≠ some D := fun i z => by
      obtain ⟨u, hu⟩ := pin_alive R1 z
      rw [hD] at hu; cases hu
    have aD : A D = none := R1.ah.free hD
    refine ⟨fun i m H => m = ds.length - i ∧ i ≤ ds.length ∧ ∃ G2 env acc vacc, Same G1 G2 ∧ REnv K ζ G2 (upd A D (.lst vacc)) L H (wipe σ vs) env ∧ RpAll K G2 vacc acc ∧ compL g t me vs (ds.drop i) acc env = .ok (accF, envF),
      ⟨_, rfl, Nat.zero_le _, G1, wipeE e1 vs, [], [], same_refl _, amb_in (wipe_env R1 fun i hi => soft_pinned (hs i hi)) hD, .nil, h2⟩, ?_⟩
    rintro i m H2 ⟨rfl, hi, G2, env2, acc, vacc, s2, R2, rv, hc⟩
    by_cases hlt : i < ds.length
    · have e : ds[i]? = some ds[i] := by simp [hlt]
      have ah2 : Same A H2 := fun b u z => R2.ah b u (by rw [upd_ne (ne_of_none z aD)]; exact z)
      obtain ⟨go, yl⟩ := W.go i _ G2 H2 s2 R2.gh noH_same e
      refine .inr ⟨go, fun H' => i + 1 ≤ ds.length ∧ ∃ G2 env acc vacc, Same G1 G2 ∧ REnv K ζ G2 (upd A D (.lst vacc)) L H' (wipe σ vs) env ∧ RpAll K G2 vacc acc ∧ compL g t me vs (ds.drop (i + 1)) acc env = .ok (accF, envF),
        fun H' n => ⟨ds.length - (i + 1), by omega, rfl, n⟩, fun x H' y => ?_⟩
      obtain ⟨G3, s3, rp, hh⟩ := yl x H' y
      have R3 : REnv K ζ G3 (upd A D (.lst vacc)) L H' (wipe σ vs) env2 := by
        rcases hh with ⟨rfl, rfl⟩ | ⟨p, o, hp, rfl, rfl⟩
        · exact R2
        · exact R2.lay hp o
      have ed : ds.drop i = ds[i] :: ds.drop (i + 1) := List.drop_eq_getElem_cons hlt
      rw [ed] at hc
      unfold compL at hc
      cases eg : g ds[i] env2 with
      | none => rw [eg] at hc; cases hc
      | some ev =>
        rw [eg] at hc
        simp only at hc
        obtain ⟨⟨b, e4⟩, h4, hc⟩ := bind_eq_ok hc
        refine ⟨G3, _, L, env2, ds[i], ev, R3, rp, eg, fun σ4 u4 R4 => ⟨?_, G3, _, L, ev, b, e4, R4, h4, fun H5 G5 s5 R5 => ?_⟩⟩
        · rw [u4.wipe hsl]
          apply List.ext_getElem?
          intro j
          by_cases hj : j ∈ vs
          · by_cases hl : j < σ.length
            · have a1 : j < (wipe (wipe σ vs) vs).length := by rw [wipe_length, wipe_length]; exact hl
              have a2 : j < (wipe σ vs).length := by rw [wipe_length]; exact hl
              have z1 : (wipe (wipe σ vs) vs)[j] = none := by
                cases e : (wipe (wipe σ vs) vs)[j] with
                | none => rfl
                | some v => exact absurd hj (wipe_some (show (wipe (wipe σ vs) vs)[j]? = some (some v) by rw [List.getElem?_eq_getElem a1, e])).2
              have z2 : (wipe σ vs)[j] = none := by
                cases e : (wipe σ vs)[j] with
                | none => rfl
                | some v => exact absurd hj (wipe_some (show (wipe σ vs)[j]? = some (some v) by rw [List.getElem?_eq_getElem a2, e])).2
              rw [List.getElem?_eq_getElem a1, List.getElem?_eq_getElem a2, z1, z2]
            · rw [List.getElem?_eq_none (by rw [wipe_length, wipe_length]; omega), List.getElem?_eq_none (by rw [wipe_length]; omega)]
          · rw [wipe_out' hj]
        · have hw4 : wipe σ4 vs = wipe σ vs := by
            rw [u4.wipe hsl]
            apply List.ext_getElem?
            intro j
            by_cases hj : j ∈ vs
            · by_cases hl : j < σ.length
              · have a1 : j < (wipe (wipe σ vs) vs).length := by rw [wipe_length, wipe_length]; exact hl
                have a2 : j < (wipe σ vs).length := by rw [wipe_length]; exact hl
                have z1 : (wipe (wipe σ vs) vs)[j] = none := by
                  cases e : (wipe (wipe σ vs) vs)[j] with
                  | none => rfl
                  | some v => exact absurd hj (wipe_some (show (wipe (wipe σ vs) vs)[j]? = some (some v) by rw [List.getElem?_eq_getElem a1, e])).2
                have z2 : (wipe σ vs)[j] = none := by
                  cases e : (wipe σ vs)[j] with
                  | none => rfl
                  | some v => exact absurd hj (wipe_some (show (wipe σ vs)[j]? = some (some v) by rw [List.getElem?_eq_getElem a2, e])).2
                rw [List.getElem?_eq_getElem a1, List.getElem?_eq_getElem a2, z1, z2]
              · rw [List.getElem?_eq_none (by rw [wipe_length, wipe_length]; omega), List.getElem?_eq_none (by rw [wipe_length]; omega)]
            · rw [wipe_out' hj]
          cases b with
          | false =>
            rw [if_neg Bool.false_ne_true] at hc
            refine iteF ?_
            exact ⟨hlt, G5, _, acc, vacc, s2.trans (s3.trans s5), rewipe hw4 R5 hL, rv.m (s3.trans s5), hc⟩
          | true =>
            rw [if_pos rfl] at hc
            refine iteT ?_
            obtain ⟨⟨r, e6⟩, h6, hc⟩ := bind_eq_ok hc
            refine ⟨G5, _, L, e4, r, e6, R5, h6, fun v H7 G7 s7 R7 hv => ?_⟩
            simp only at hc
            split at hc
            · split at hc
              · rename_i rr hz
                refine ⟨vacc, R7.ah _ _ upd_same, by rw [rv.length, ← sl_eq]; exact hz, hlt, G7, _, _, vacc ++ [v], s2.trans (s3.trans (s5.trans s7)), amb_put hLD (rewipe hw4 R7 hL), (rv.m (s3.trans (s5.trans s7))).app (.cons hv .nil), hc⟩
              · cases hc
            · cases hc
    · have e : i = ds.length := by omega
      subst e
      rw [List.drop_length] at hc
      cases hc
      have ah2 : Same A H2 := fun b u z => R2.ah b u (by rw [upd_ne (ne_of_none z aD)]; exact z)
      refine .inl ⟨W.stop G2 H2 s2 R2.gh noH_same, ?_⟩
      obtain ⟨R3, hv⟩ := amb_out aD hLD R2 rv
      -- the names ahead of the block, in the heap as it is now
      have R0 : REnv K ζ G2 A L H2 σ (restE e1 envF vs) := by
        have mono : ∀ {i : Nat} {d : PyData} {w : Option V}, RSl K ζ G1 A L H1 i (.val d) w → RSl K ζ G2 A L H2 i (.val d) w := fun {i d w} q => by
          obtain ⟨v, e, q⟩ := q
          exact ⟨v, e, q.m s2⟩
        refine ⟨by rw [restE_len]; have := R3.len; rw [wipe_length] at this; exact this, R3.gh, R3.ah, R3.ag, fun i o w e1' e2 => ?_, fun i j x y p e1' e2 m1 m2 z1 z2 => ?_, fun i p e => ?_, R3.tu⟩
        · by_cases hi : i ∈ vs
          · have eo := restE_in hi e1'
            have so := hs i hi
            rw [← eo] at so
            match o, so with
            | .un, _ => trivial
            | .tpl _, _ => trivial
            | .val d, _ => exact mono (R1.sl i _ _ (getD_some eo.symm rfl) e2)
          · rw [restE_out hi] at e1'
            exact R3.sl i o w e1' (by rw [wipe_out' hi]; exact e2)
        · have soft : ∀ {k : Nat} {x : O}, (restE e1 envF vs)[k]? = some x → x.mine = true → k ∉ vs := fun {k x} e m hk => by
            have eo := restE_in hk e
            have so := hs k hk
            rw [← eo] at so
            exact soft_mine so m
          have hi := soft e1' m1
          have hj := soft e2 m2
          rw [restE_out hi] at e1'
          rw [restE_out hj] at e2
          exact R3.inj i j x y p e1' e2 m1 m2 (by rw [wipe_out' hi]; exact z1) (by rw [wipe_out' hj]; exact z2)
        · obtain ⟨w, xs, q⟩ := R3.lp i p e
          have hi : i ∉ vs := fun z => by rw [hL i z] at e; cases e
          exact ⟨w, xs, by rw [restE_out hi]; exact q⟩
      refine q _ H2 G2 (s1.trans s2) R0 ?_
      obtain ⟨p, us, e2, e3, e4, e5, e6, e7, e8⟩ := hv
      refine ⟨p, us, e2, e3, e4, e5, e6, fun i x e m z => ?_, e8⟩
      have hi : i ∉ vs := fun hk => by
        have eo := restE_in hk e
        have so := hs i hk
        rw [← eo] at so
        exact soft_mine so m
      rw [restE_out hi] at e
      exact e7 i x e m (by rw [wipe_out' hi]; exact z)
  · cases h
theorem r_comp (hc : X.calm = true) (hN : X.N.Nodup) (hi : PI X tg iter (tI X.K ζ src)) (ok : BlkOk X.N X.env.scope scope own) (hsl : ∀ i ∈ sl, i ∈ own.map (·.2))
    (hg : ∀ (s : Shared) (H : Hp) (C : Addr) (cl : List (Str × Addr)) (fp : List Addr), PG (X.blk s H scope (compEnvC scope cl C X.env) fp) tg (tG X.K ζ sl g)) (ht : ∀ (s : Shared) (H : Hp) (C : Addr) (cl : List (Str × Addr)) (fp : List Addr), PTs (X.blk s H scope (compEnvC scope cl C X.env) fp) ifs (tT X.K ζ t))
    (he : ∀ (s : Shared) (H : Hp) (C : Addr) (cl : List (Str × Addr)) (fp : List Addr), PE (X.blk s H scope (compEnvC scope cl C X.env) fp) elt (tM X.K ζ me)) (hs : ∀ x, foldedSetIterable iter X.env x = pure x := by intro _; rfl) :
    PE X (.ListComp elt [⟨tg, iter, ifs, 0⟩] scope pos) (tM X.K ζ (mComp src g t me (own.map (·.2)))) := pew (pe_lc hc hN hi ok hg ht he hs) fun σ H Q q => comp_ok hsl q
/-- name = [..] on one line -/
theorem rs_setLc {i : Nat} {y : Str} {py spos : Pos} (hc : X.calm = true) (hN : X.N.Nodup) (hy : X.N[i]? = some y) (hyl : X.env.scope.names.lookup y = some .local)
    (hsw : swapsWith (.ListComp elt [⟨tg, iter, ifs, 0⟩] scope pos) (some (.Name y py)) spos.line X.env = pure true) (hi : PI X tg iter (tI X.K ζ src)) (ok : BlkOk X.N X.env.scope scope own) (hsl : ∀ i ∈ sl, i ∈ own.map (·.2))
    (hg : ∀ (s : Shared) (H : Hp) (C : Addr) (cl : List (Str × Addr)) (fp : List Addr), PG (X.blk s H scope (compEnvC scope cl C X.env) fp) tg (tG X.K ζ sl g)) (ht : ∀ (s : Shared) (H : Hp) (C : Addr) (cl : List (Str × Addr)) (fp : List Addr), PTs (X.blk s H scope (compEnvC scope cl C X.env) fp) ifs (tT X.K ζ t))
    (he : ∀ (s : Shared) (H : Hp) (C : Addr) (cl : List (Str × Addr)) (fp : List Addr), PE (X.blk s H scope (compEnvC scope cl C X.env) fp) elt (tM X.K ζ me)) (hs : ∀ x, foldedSetIterable iter X.env x = pure x := by intro _; rfl) :
    PS X (.Assign [.Name y py] (.ListComp elt [⟨tg, iter, ifs, 0⟩] scope pos) spos) (tS X.K ζ X.mg W (sSet i (mComp src g t me (own.map (·.2))))) :=
  psw (ps_setLc hc hN hy hyl hsw hi ok hg ht he hs) fun D σ H q => comp_ok hsl (set_ok q)
theorem pts0 {X : Cx} {ζ : Option ZI} : PTs X [] (tT X.K ζ tTrue) := ⟨fun pins s σ H Q I q => pts_nil.run pins s σ H Q I (by
  obtain ⟨G, A, L, env, b, env', R, e, q⟩ := q
  cases e
  exact q H G (same_refl G) R)⟩
theorem pts1 {X : Cx} {ζ : Option ZI} {c : Expr} {t : T} (h : PT X c (tT X.K ζ t)) : PTs X [c] (tT X.K ζ t) := pts_one h
end
end SE

namespace SE
open PySem L2 RZ

/-! ### a list of one's own is changed -/
def O.put (o : O) (xs : List D) : O := match o with
  | .own _ => .own xs
  | .pin w _ => .pin w xs
  | o => o
/-- what a list of one's own holds -/
def O.ml : O → Option (List D)
  | .own xs => some xs
  | .pin true xs => some xs
  | _ => none
/-- a list that may be changed -/
def O.mineL : O → Bool
  | .own _ => true
  | .pin true _ => true
  | _ => false
theorem ml_mine {o : O} {xs : List D} (h : o.ml = some xs) : o.mine = true := by
  match o, h with
  | .own _, _ => rfl
  | .pin true _, _ => rfl
theorem ml_live {o : O} {xs : List D} (h : o.ml = some xs) : o.live = true := by
  match o, h with
  | .own _, _ => rfl
  | .pin true _, _ => rfl
section
variable {K : PySem.W.Frag} {ζ : Option ZI} {G A : Hp} {L : Nat → Option Addr} {H : Hp} {σ : St} {env : Env}
theorem ml_at (R : REnv K ζ G A L H σ env) {i : Nat} {o : O} {xs : List D} (e : env[i]? = some o) (h : o.ml = some xs) {v : V} (hv : σ[i]? = some (some v)) : ∃ p vs, v = .ref p ∧ H p = some (.lst vs) ∧ G p = none ∧ A p = none ∧ RpAll K G vs xs := by
  have q := R.sl i _ _ e hv
  match o, h, q with
  | .own ys, h, q => cases h; obtain ⟨p, vs, e1, h1, h2, h3, h4⟩ := q; cases e1; exact ⟨p, vs, rfl, h1, h2, h3, h4⟩
  | .pin true ys, h, q => cases h; obtain ⟨p, vs, _, e1, h1, h2, h3, h4⟩ := q; cases e1; exact ⟨p, vs, rfl, h1, h2, h3, h4⟩
/-- what a slot alone holds is changed -/
theorem mutateO (R : REnv K ζ G A L H σ env) {i : Nat} {o o' : O} {p : Addr} {ob : HO} (e : env[i]? = some o) (m : o.mine = true) (hv : σ[i]? = some (some (.ref p))) (r : RSl K ζ G A L (upd H p ob) i o' (some (.ref p)))
    (hw : ∀ w zs, o = .pin w zs → ∃ ys, o' = .pin w ys) : REnv K ζ G A L (upd H p ob) σ (env.set i o') := by
  obtain ⟨_, h1, gp, ap⟩ := slot_alive R e m hv
  have hi : i < env.length := (List.getElem?_eq_some_iff.mp e).1
  refine ⟨by rw [List.length_set]; exact R.len, fun b u z => ?_, fun b u z => ?_, R.ag, fun j x w e1 e2 => ?_, fun j k x y q e1 e2 m1 m2 z1 z2 => ?_, fun j q z => ?_, R.tu⟩
  · rw [upd_ne (ne_of_none z gp)]; exact R.gh _ _ z
  · rw [upd_ne (ne_of_none z ap)]; exact R.ah _ _ z
  · by_cases hj : j = i
    · subst hj
      rw [List.getElem?_set_self hi] at e1
      cases e1
      rw [hv] at e2
      cases e2
      exact r
    · rw [List.getElem?_set_ne (Ne.symm hj)] at e1
      have q := R.sl j _ _ e1 e2
      match x, q with
      | .un, _ => trivial
      | .tpl _, _ => trivial
      | .val d, q => exact q
      | .own zs, q =>
        obtain ⟨p', vs', e3, e4, e5, e6, q⟩ := q
        have hb : p' ≠ p := fun z => hj (R.inj j i _ _ p e1 e rfl m (by rw [e2, e3, z]) hv)
        exact ⟨p', vs', e3, by rw [upd_ne hb]; exact e4, e5, e6, q⟩
      | .dct tk zs, q =>
        obtain ⟨p', vs', e3, e4, e5, e6, q⟩ := q
        have hb : p' ≠ p := fun z => hj (R.inj j i _ _ p e1 e rfl m (by rw [e2, e3, z]) hv)
        exact ⟨p', vs', e3, by rw [upd_ne hb]; exact e4, e5, e6, q⟩
      | .pin true zs, q =>
        obtain ⟨p', vs', e0, e3, e4, e5, e6, q⟩ := q
        have hb : p' ≠ p := fun z => hj (R.inj j i _ _ p e1 e rfl m (by rw [e2, e3, z]) hv)
        exact ⟨p', vs', e0, e3, by rw [upd_ne hb]; exact e4, e5, e6, q⟩
      | .pin false zs, q => exact q
      | .scr ns, q => exact q
      | .exn x, q => exact q
  · have low : ∀ {j : Nat} {x : O}, (env.set i o')[j]? = some x → x.mine = true → ∃ x', env[j]? = some x' ∧ x'.mine = true := fun {j x} e1 m1 => by
      by_cases hj : j = i
      · subst hj; exact ⟨o, e, m⟩
      · rw [List.getElem?_set_ne (Ne.symm hj)] at e1; exact ⟨x, e1, m1⟩
    obtain ⟨x', f1, n1⟩ := low e1 m1
    obtain ⟨y', f2, n2⟩ := low e2 m2
    exact R.inj j k x' y' q f1 f2 n1 n2 z1 z2
  · obtain ⟨w, zs, q2⟩ := R.lp j q z
    by_cases hj : j = i
    · subst hj
      rw [e] at q2
      cases q2
      obtain ⟨ys, rfl⟩ := hw w zs rfl
      exact ⟨w, ys, List.getElem?_set_self hi⟩
    · exact ⟨w, zs, by rw [List.getElem?_set_ne (Ne.symm hj)]; exact q2⟩
theorem mutate (R : REnv K ζ G A L H σ env) {i : Nat} {o : O} {xs ys : List D} {p : Addr} {vs : List V} (e : env[i]? = some o) (h : o.ml = some xs) (hv : σ[i]? = some (some (.ref p))) (r : RpAll K G vs ys) : REnv K ζ G A L (upd H p (.lst vs)) σ (env.set i (o.put ys)) := by
  have m := ml_mine h
  obtain ⟨p', us, e1, h1, gp, ap, h4⟩ := ml_at R e h hv
  cases e1
  refine mutateO R e m hv ?_ (fun w zs z => by subst z; exact ⟨ys, rfl⟩)
  have q := R.sl i _ _ e hv
  match o, h, q with
  | .own _, _, q => exact ⟨p, vs, rfl, upd_same, gp, ap, r⟩
  | .pin true _, _, q =>
    obtain ⟨p', us, l, e3, _⟩ := q
    cases e3
    exact ⟨p, vs, l, rfl, upd_same, gp, ap, r⟩
end

/-! ### methods that change it -/
/-- f: what the list holds, the arguments; the answer, what it holds then -/
def mMeth (i : Nat) (os : List Opd) (f : List D → List D → Res (D × List D)) : M := fun env => if (env.getD i .un).mineL = true then (pass os env).bind fun p => match (p.2.getD i .un).ml, allV p.1 with
  | some xs, some ds => (f xs ds).bind fun q => .ok (.val q.1, p.2.set i ((p.2.getD i .un).put q.2))
  | _, _ => .stuck
  else .stuck
def MSem (K : PySem.W.Frag) (f : List D → List D → Res (D × List D)) (r : V → List V → Hp → VK → Prop) : Prop := ∀ {G H : Hp} {p : Addr} {vs ws : List V} {xs ds ys : List D} {d : D} {Q : VK}, Same G H → H p = some (.lst vs) → RpAll K G vs xs → RpAll K G ws ds →
  f xs ds = .ok (d, ys) → (∀ v us, Rp K G v d → RpAll K G us ys → Q v (upd H p (.lst us))) → r (.ref p) ws H Q
theorem meth_ok {K : PySem.W.Frag} {ζ : Option ZI} {i : Nat} {os : List Opd} {f : List D → List D → Res (D × List D)} {r : V → List V → Hp → VK → Prop} (hf : MSem K f r) {σ : St} {H : Hp} {Q : VK} (h : tM K ζ (mMeth i os f) σ H Q) : tBM K "list" r (tVar i) (tAll K ζ os) σ H Q := by
  obtain ⟨G, A, L, env, r0, env', R, e, q⟩ := h
  unfold mMeth at e
  split at e
  · rename_i hm
    have l : (env.getD i .un).live = true := by
      cases h : env.getD i .un <;> rw [h] at hm <;> first | rfl | cases hm
    obtain ⟨v, hv⟩ := live_val R l
    obtain ⟨⟨rs, e1⟩, h1, h⟩ := bind_eq_ok e
    have hs : ∃ xs, (env.getD i .un).ml = some xs := by
      cases h : env.getD i .un with
      | own xs => exact ⟨xs, rfl⟩
      | pin w xs => cases w with
        | true => exact ⟨xs, rfl⟩
        | false => rw [h] at hm; cases hm
      | _ => rw [h] at hm; cases hm
    obtain ⟨xs0, hx0⟩ := hs
    obtain ⟨p, vs0, rfl, hp0, _⟩ := ml_at R (getD_some rfl l) hx0 hv
    refine ⟨_, hv, .inl ⟨rfl, _, .of hp0⟩, pass_all os R h1 fun ws H' G' s R' ops => ?_⟩
    simp only at h
    split at h
    · rename_i xs ds ex ed
      obtain ⟨⟨d, ys⟩, h2, h⟩ := bind_eq_ok h
      cases h
      have eo := getD_some rfl (ml_live ex)
      obtain ⟨p', vs, e1, hp, gp, ap, rv⟩ := ml_at R' eo ex hv
      cases e1
      exact hf R'.gh hp rv (allV_ok R' ops ed) h2 fun w us rw ru => q w _ G' s (mutate R' eo ex hv ru) rw
    · cases h
  · cases e
def fAppend : List D → List D → Res (D × List D)
  | xs, [d] => if xs.length < 16777216 then .ok (.none, xs ++ [d]) else .stuck
  | _, _ => .stuck
theorem ms_append {K : PySem.W.Frag} : MSem K fAppend rAppend := by
  intro G H p vs ws xs ds ys d Q gh hp rv rw e q
  unfold fAppend at e
  split at e
  · split at e
    · rename_i z
      cases e
      cases rw with
      | cons r1 t =>
        cases t
        exact ⟨_, _, _, rfl, rfl, hp, by rw [rv.length, ← sl_eq]; exact z, q _ _ .non (rv.app (.cons r1 .nil))⟩
    · cases e
  · cases e
def fPop : List D → List D → Res (D × List D)
  | xs, [] => match xs[xs.length - 1]? with
    | some d => .ok (d, xs.dropLast)
    | none => .stuck
  | _, _ => .stuck
theorem ms_pop {K : PySem.W.Frag} : MSem K fPop rPop := by
  intro G H p vs ws xs ds ys d Q gh hp rv rw e q
  unfold fPop at e
  split at e
  · split at e
    · rename_i ed
      cases e
      cases rw
      obtain ⟨v, e1, r1⟩ := rv.getD ed
      exact ⟨_, _, _, rfl, rfl, hp, by rw [rv.length]; exact e1, q _ _ r1 rv.dropLast⟩
    · cases e
  · cases e
def fPopAt : List D → List D → Res (D × List D)
  | xs, [.int i] => if small i = true then match ixN xs.length i with
      | some k => match xs[k]? with
        | some d => .ok (d, xs.eraseIdx k)
        | none => .stuck
      | none => .stuck
    else .stuck
  | _, _ => .stuck
theorem ms_popAt {K : PySem.W.Frag} : MSem K fPopAt rPopAt := by
  intro G H p vs ws xs ds ys d Q gh hp rv rw e q
  unfold fPopAt at e
  split at e
  · split at e
    · rename_i z
      split at e
      · rename_i k ek
        split at e
        · rename_i ed
          cases e
          cases rw with
          | cons r1 t =>
            cases t; cases r1
            obtain ⟨v, e1, r1⟩ := rv.getD ed
            exact ⟨_, _, _, k, _, rfl, rfl, hp, by have := small_b z; omega, by have := small_b z; omega, by rw [rv.length]; exact (ixN_seq ek).1, e1, q _ _ r1 (rv.erase k)⟩
        · cases e
      · cases e
    · cases e
  · cases e
def fReverse : List D → List D → Res (D × List D)
  | xs, [] => .ok (.none, xs.reverse)
  | _, _ => .stuck
theorem ms_reverse {K : PySem.W.Frag} : MSem K fReverse rReverse := by
  intro G H p vs ws xs ds ys d Q gh hp rv rw e q
  unfold fReverse at e
  split at e
  · cases e; cases rw
    exact ⟨_, _, rfl, rfl, hp, q _ _ .non rv.rev⟩
  · cases e
def fClear : List D → List D → Res (D × List D)
  | _, [] => .ok (.none, [])
  | _, _ => .stuck
theorem ms_clear {K : PySem.W.Frag} : MSem K fClear rClear := by
  intro G H p vs ws xs ds ys d Q gh hp rv rw e q
  unfold fClear at e
  split at e
  · cases e; cases rw
    exact ⟨_, _, rfl, rfl, hp, q _ _ .non .nil⟩
  · cases e
def fExtend : List D → List D → Res (D × List D)
  | xs, [.list zs] => if xs.length + zs.length ≤ 16777216 then .ok (.none, xs ++ zs) else .stuck
  | _, _ => .stuck
theorem ms_extend {K : PySem.W.Frag} : MSem K fExtend rExtend := by
  intro G H p vs ws xs ds ys d Q gh hp rv rw e q
  unfold fExtend at e
  split at e
  · split at e
    · rename_i z
      cases e
      cases rw with
      | cons r1 t =>
        cases t
        cases r1 with
        | lst h1 h2 => exact ⟨_, _, _, _, rfl, rfl, hp, gh _ _ h1, by rw [rv.length, h2.length, ← sl_eq]; exact z, q _ _ .non (rv.app h2)⟩
    · cases e
  · cases e
section
variable {X : Cx} {ζ : Option ZI} {W : WX} {o e : Expr} {es : List Expr} {os : List Opd} {i : Nat} {name : Str} {id : String} {apos cpos : Pos} {f : List D → List D → Res (D × List D)} {r : V → List V → Hp → VK → Prop}
theorem r_meth (slot : Slot "list" name id) (hty : typeOf (.builtin id) = pure (.type "method_descriptor")) (hm : MtR X id r) (hf : MSem X.K f r) (ho : PE X o (tVar i)) (ha : PA X (e :: es) (tAll X.K ζ os))
    (hbase : attributeBase o name X.env (eval o X.env) = eval o X.env := by rfl)
    (hfew : ((backTo cpos (starEach (e :: es) X.env)).all (fun x => !x.1) && (backToKw cpos (keywordEach [] X.env)).all (fun x => x.1.isSome)
      && decide ((e :: es).length + ([] : List Keyword).length + (if ([] : List Keyword).isEmpty then 0 else 1) < 30)) = true := by rfl)
    (hline : (apos.endLine == cpos.line) = true := by rfl)
    (hs : starEach (e :: es) X.env = (false, eval e X.env) :: starEach es X.env := by rfl) (hplain : (backTo cpos (starEach es X.env)).any (·.1) = false := by rfl) : PE X (.Call (.Attribute o name apos) (e :: es) [] cpos) (tM X.K ζ (mMeth i os f)) :=
  pew (pe_bm PySem.F.plainAttrs_list slot hty hm ho ha hbase hfew hline hs hplain) fun σ H Q q => meth_ok hf q
theorem r_meth0 (slot : Slot "list" name id) (hty : typeOf (.builtin id) = pure (.type "method_descriptor")) (hm : MtR X id r) (hf : MSem X.K f r) (ho : PE X o (tVar i))
    (hbase : attributeBase o name X.env (eval o X.env) = eval o X.env := by rfl) (hline : (apos.endLine == cpos.line) = true := by rfl) : PE X (.Call (.Attribute o name apos) [] [] cpos) (tM X.K ζ (mMeth i [] f)) :=
  pew (pe_bm0 PySem.F.plainAttrs_list slot hty hm ho hbase hline) fun σ H Q q => meth_ok (os := []) hf q
end

/-! ### x[i] = e -/
def fixI : O → Option Int
  | .val (.int k) => some k
  | _ => none
/-- the value, then the place -/
def sSetIx (i : Nat) (ix m : M) : S := fun env => ofRes (frz m env) fun p => if (p.2.getD i .un).live = true then ofRes (ix p.2) fun q => match p.1, fixI q.1, (q.2.getD i .un).ml with
  | .val d, some k, some xs => match ixN xs.length k with
    | some j => .next (q.2.set i ((q.2.getD i .un).put (xs.set j d)))
    | none => .stuck
  | _, _, _ => .stuck
  else .stuck
theorem fixI_ok {K : PySem.W.Frag} {G A : Hp} {L : Nat → Option Addr} {H : Hp} {σ : St} {env : Env} {r : O} {v : V} {k : Int} (h : RVal K G A L H σ env r v) (e : fixI r = some k) : v = .int k := by
  unfold fixI at e
  split at e
  · cases e; cases (show Rp K G v (.int _) from h); rfl
  · cases e
section
variable {X : Cx} {ζ : Option ZI} {W : WX} {tg o ie e : Expr} {ix m : M} {i : Nat} {pos p2 : Pos}
theorem setIx_ok {K : PySem.W.Frag} {ζ : Option ZI} {mg : Str → Option Value} {W : WX} {D : Ends} {σ : St} {H : Hp} (q : tS K ζ mg W (sSetIx i ix m) D σ H) : tAsg (tM K ζ (frz m)) (gSub (tVar i) (tM K ζ ix) rSetL) D σ H := by
  obtain ⟨G, A, L, env, R, q⟩ := q
  unfold sSetIx at q
  cases h : frz m env with
  | exc e => rw [h] at q; exact q.elim
  | stuck => rw [h] at q; exact q.elim
  | ok p =>
    rw [h] at q
    simp only [ofRes] at q
    split at q
    · rename_i l
      cases h2 : ix p.2 with
      | exc e => rw [h2] at q; exact q.elim
      | stuck => rw [h2] at q; exact q.elim
      | ok r =>
        rw [h2] at q
        simp only at q
        split at q
        · rename_i d k xs ed ek ex
          split at q
          · rename_i j ej
            refine ⟨G, A, L, env, p.1, p.2, R, h, fun v H1 G1 s1 R1 hv => ?_⟩
            obtain ⟨w, hw⟩ := live_val R1 l
            refine ⟨w, hw, G1, A, L, p.2, r.1, r.2, R1, h2, fun y H2 G2 s2 R2 hy => ?_⟩
            rw [ed] at hv
            have eo := getD_some rfl (ml_live ex)
            obtain ⟨p', vs, e1, hp, gp, ap, rv⟩ := ml_at R2 eo ex hw
            subst e1
            exact ⟨p', vs, k, j, rfl, fixI_ok hy ek, hp, by rw [rv.length]; exact ej, q σ _ G2 (s1.trans s2) (mutate R2 eo ex hw (rv.set j (Rp.m hv s2)))⟩
          · exact q.elim
        · exact q.elim
    · exact q.elim
theorem rs_setIx (ho : PE X o (tVar i)) (hi : PE X ie (tM X.K ζ ix)) (he : PE X e (tM X.K ζ m)) (ha : ∀ v, assign (.Subscript o ie p2) X.env v = (do
      let ov ← holding [v] (eval o X.env)
      let iv ← holding [v, ov] (eval ie X.env)
      standAt p2
      holding [v, ov, iv] (setItem ov iv v)
      release [v, ov, iv] []) := by intro _; rfl) (hs : swapsWithSole [.Subscript o ie p2] e pos.line X.env = pure false := by rfl) (hw : swappedStores [.Subscript o ie p2] e X.env = pure none := by rfl)
    (h1 : (assignEach [.Subscript o ie p2] X.env).map (·.2) = [assign (.Subscript o ie p2) X.env] := by rfl) : PS X (.Assign [.Subscript o ie p2] e pos) (tS X.K ζ X.mg W (sSetIx i ix m)) :=
  psw (ps_asg (r_frz he) (pg_sub ho hi set_list ha) hs hw h1) fun D σ H q => setIx_ok q
end

/-! ### x op= e -/
/-- the name's value is one that stands -/
def sAug (i : Nat) (f : O → O → Res O) (m : M) : S := fun env => match env.getD i .un with
  | .val d => ofRes (frz m env) fun p => ofRes (f (.val d) p.1) fun r => if (p.2.getD i .un).pinned = true then .stuck else .next (p.2.set i r)
  | _ => .stuck
section
variable {X : Cx} {ζ : Option ZI} {W : WX} {e : Expr} {m : M} {i : Nat} {pos p2 : Pos}
theorem frz_val {m : M} {env : Env} {p : O × Env} (h : frz m env = .ok p) : ∃ d, p.1 = .val d := by
  unfold frz at h
  obtain ⟨⟨r, e1⟩, _, h⟩ := bind_eq_ok h
  simp only at h
  split at h <;> cases h <;> exact ⟨_, rfl⟩
theorem rs_aug {op : Operator} {f : O → O → Res O} {r : R2} {x : Str} (hN : X.N.Nodup) (hi : X.N[i]? = some x) (hx : Loc X.env.scope x) (ho : OpR X (inplaceOp op) r) (hf : Sem2 X.K f r) (he : PE X e (tM X.K ζ m)) (hfn : X.fn x = true ∨ X.env.scope.names.lookup x = some .local := by first | exact .inl rfl | exact .inr rfl | assumption) :
    PS X (.AugAssign (.Name x p2) op e pos) (tS X.K ζ X.mg W (sAug i f m)) := psw (ps_aug hN hi hx (r_frz he) (show PIp X op r from ho) hfn) fun D σ H q => by
  obtain ⟨G, A, L, env, R, q⟩ := q
  unfold sAug at q
  split at q
  · rename_i d ed
    cases h : frz m env with
    | exc e => rw [h] at q; exact q.elim
    | stuck => rw [h] at q; exact q.elim
    | ok p =>
      rw [h] at q
      obtain ⟨d2, e2⟩ := frz_val h
      simp only [ofRes] at q
      obtain ⟨v, hv⟩ := live_val R (i := i) (by rw [ed] <;> rfl)
      obtain ⟨v', e1, rd⟩ := R.sl i _ _ (getD_some ed rfl) hv
      cases e1
      refine ⟨v, hv, G, A, L, env, p.1, p.2, R, h, fun w H1 G1 s1 R1 hw => ?_⟩
      rw [e2] at hw q
      cases h3 : f (.val d) (.val d2) with
      | exc e => rw [h3] at q; exact q.elim
      | stuck => rw [h3] at q; exact q.elim
      | ok r0 =>
        rw [h3] at q
        simp only at q
        split at q
        · exact q.elim
        · rename_i hp
          exact hf R1 (rx := .val d) (ry := .val d2) (Rp.m rd s1) hw h3 fun z H2 G2 s2 R2 hz => q _ H2 G2 (s1.trans s2) (set_val R2 hz hp)
  · exact q.elim
end

/-! ### x[i] op= e -/
theorem pget_list {X : Cx} : PGet X (rIxL X.K) := by
  intro pins s σ H o i ov iv Q I ro ri h
  obtain ⟨p, xs, k, z, rfl, rfl, hq, he, q⟩ := h
  cases ro
  obtain ⟨t, rfl⟩ := ri
  obtain ⟨its, r, pl, hz⟩ := I.list hq
  obtain ⟨j, h1, h2, h3, h4, h5⟩ := atI_get he
  obtain ⟨w, ew, rw'⟩ := r.get h2
  have hl := r.length
  have hn := line63
  have fin : EP X pins σ Q w s := ⟨z, H, I, rw', q⟩
  by_cases h0 : 0 ≤ k
  · have hj : k.toNat = j := by
      rw [seqIndex_of h0 h5] at h1
      exact Option.some.inj h1
    exact wpAny_getItem_list pl.isList h0 (by omega) (by rw [hj]; simpa using ew) fin
  · have hj : (k + (its.toArray.size : Int)).toNat = j := by
      rw [seqIndex_neg (by omega) h4] at h1
      rw [List.size_toArray, ← hl]
      exact Option.some.inj h1
    exact wpAny_getItem_list_neg pl.isList (by omega) (by rw [List.size_toArray] <;> omega) (by omega) (by rw [hj]; simpa using ew) fin
/-- the place, what stands there, the value -/
def sAugIx (i : Nat) (ix : M) (f : O → O → Res O) (m : M) : S := fun env => if (env.getD i .un).live = true then ofRes (ix env) fun q => match fixI q.1, (q.2.getD i .un).l with
  | some k, some xs => match atI xs k with
    | some d => ofRes (frz m q.2) fun p => ofRes (f (.val d) p.1) fun r => match r, (p.2.getD i .un).ml with
      | .val d', some ys => match ixN ys.length k with
        | some j => .next (p.2.set i ((p.2.getD i .un).put (ys.set j d')))
        | none => .stuck
      | _, _ => .stuck
    | none => .stuck
  | _, _ => .stuck
  else .stuck
section
variable {X : Cx} {ζ : Option ZI} {W : WX} {o ie e : Expr} {ix m : M} {i : Nat} {pos p2 : Pos}
theorem rs_augIx {op : Operator} {f : O → O → Res O} {r : R2} (ho : PE X o (tVar i)) (hi : PE X ie (tM X.K ζ ix)) (hop : OpR X (inplaceOp op) r) (hf : Sem2 X.K f r) (he : PE X e (tM X.K ζ m))
    (ha : ∀ ov iv new, augStore ie ov iv new = (do holding [new, ov, iv] (setItem ov iv new); release [new, ov, iv] []; pure .next) := by intros; rfl) :
    PS X (.AugAssign (.Subscript o ie p2) op e pos) (tS X.K ζ X.mg W (sAugIx i ix f m)) := psw (ps_augS ho hi pget_list (r_frz he) (show PIp X op r from hop) set_list ha) fun D σ H q => by
  obtain ⟨G, A, L, env, R, q⟩ := q
  unfold sAugIx at q
  split at q
  · rename_i l
    obtain ⟨w, hw⟩ := live_val R l
    cases h : ix env with
    | exc e => rw [h] at q; exact q.elim
    | stuck => rw [h] at q; exact q.elim
    | ok p =>
      rw [h] at q
      simp only [ofRes] at q
      split at q
      · rename_i k xs ek ex
        split at q
        · rename_i d ed
          refine ⟨w, hw, G, A, L, env, p.1, p.2, R, h, fun y H1 G1 s1 R1 hy => ?_⟩
          have ey := fixI_ok hy ek
          have lv : (p.2.getD i .un).live = true := by
            cases z : p.2.getD i .un <;> rw [z] at ex <;> first | rfl | cases ex
          have rd := ROp.rdy R1 (o := .pk i) ⟨hw, rfl⟩ lv
          obtain ⟨pa, vs, rfl, hp, rv⟩ := rd.l R1.gh ex
          obtain ⟨v, e1, rd⟩ := atI_all rv ed
          refine ⟨pa, vs, k, v, rfl, ey, .of hp, e1, ?_⟩
          cases h3 : frz m p.2 with
          | exc e => rw [h3] at q; exact q.elim
          | stuck => rw [h3] at q; exact q.elim
          | ok p3 =>
            rw [h3] at q
            simp only at q
            obtain ⟨d3, e3⟩ := frz_val h3
            refine ⟨G1, A, L, p.2, p3.1, p3.2, R1, h3, fun z H3 G3 s3 R3 hz => ?_⟩
            rw [e3] at hz q
            cases h4 : f (.val d) (.val d3) with
            | exc e => rw [h4] at q; exact q.elim
            | stuck => rw [h4] at q; exact q.elim
            | ok r0 =>
              rw [h4] at q
              simp only at q
              split at q
              · rename_i d' ys eys
                split at q
                · rename_i j ej
                  refine hf R3 (rx := .val d) (ry := .val d3) (Rp.m rd s3) hz h4 fun z4 H4 G4 s4 R4 hz4 => ?_
                  have eo := getD_some rfl (ml_live eys)
                  obtain ⟨pb, us, e5, hp5, gp, ap, rv5⟩ := ml_at R4 eo eys hw
                  cases e5
                  exact ⟨pa, us, k, j, rfl, ey, hp5, by rw [rv5.length]; exact ej, q σ _ G4 (s1.trans (s3.trans s4)) (mutate R4 eo eys hw (rv5.set j hz4))⟩
                · exact q.elim
              · exact q.elim
        · exact q.elim
      · exact q.elim
  · exact q.elim
end
end SE

namespace SE
open PySem L2 RZ

/-! ### defs -/
theorem Parts.mapL {K : PySem.W.Frag} {G A A' : Hp} {L L' : Nat → Option Addr} {H : Hp} {σ σ' : St} {env env' : Env} (f : ∀ (p : Addr) (us : List V), H p = some (.lst us) → Lone G A L σ env p → Lone G A' L' σ' env' p) : ∀ {vs : List V} {ds : List (Bool × D)}, Parts K G A L H σ env vs ds → Parts K G A' L' H σ' env' vs ds
  | _, _, .nil => .nil
  | _, _, .val h t => .val h (Parts.mapL f t)
  | _, _, .own h1 h2 h3 t => .own h1 (f _ _ h1 h2) h3 (Parts.mapL f t)
def O.lst : O → List D
  | .pin _ xs => xs
  | .own xs => xs
  | _ => []
abbrev Fn := List O → Res (O × List (List D))
/-- what the parameters that a def changes hold behind it -/
def outsOf (ks : List Nat) (e : Env) : List (List D) := ks.map fun k => (e.getD k .un).lst
def fEnd (ks : List Nat) : SRes → Res (O × List (List D))
  | .next e => .ok (.val .none, outsOf ks e)
  | .ret r e => .ok (r, outsOf ks e)
  | .exc e _ => .exc e
  | _ => .stuck
def fBody (n : Nat) (ks : List Nat) (s : S) : Fn := fun os => fEnd ks (s (os ++ List.replicate (n - os.length) .un))
def spM (K : PySem.W.Frag) (n : Nat) (ks : List Nat) (fn : Fn) : Sp := fun vs H Q _ => ∃ G A L os r outs, vs.length = n ∧ REnv K none G A L H (vs.map some) os ∧ fn os = .ok (r, outs) ∧
  ∀ v H' G' ζ' σ' env', Same G G' → REnv K ζ' G' A L H' σ' env' → outs = outsOf ks env' → RVal K G' A L H' σ' env' r v → Q v H'
/-- of a def that may raise: what is wished of its end -/
def XWant (K : PySem.W.Frag) (mg : Str → Option Value) (G A : Hp) (L : Nat → Option Addr) (Q : VK) (E : XK) : Res (O × List (List D)) → Prop
  | .ok p => ∀ v H' G' ζ' σ' env', Same G G' → REnv K ζ' G' A L H' σ' env' → RVal K G' A L H' σ' env' p.1 v → Q v H'
  | .exc e => ∀ cls d H' G' ζ' σ' env', Same G G' → REnv K ζ' G' A L H' σ' env' → RExn K mg G' A H' cls d e → E cls d H'
  | .stuck => False
def spX (K : PySem.W.Frag) (mg : Str → Option Value) (n : Nat) (fn : Fn) : Sp := fun vs H Q E => ∃ G A L os, vs.length = n ∧ REnv K none G A L H (vs.map some) os ∧ XWant K mg G A L Q E (fn os)
theorem REnv.any {K : PySem.W.Frag} {ζ : Option ZI} {G A : Hp} {L : Nat → Option Addr} {H : Hp} {σ : St} {env : Env} (R : REnv K none G A L H σ env) : REnv K ζ G A L H σ env where
  len := R.len
  gh := R.gh
  ah := R.ah
  ag := R.ag
  sl := fun i o w e1 e2 => by
    have q := R.sl i o w e1 e2
    match o, q with
    | .un, _ => trivial
    | .tpl _, _ => trivial
    | .val d, q => exact q
    | .own xs, q => exact q
    | .dct tk xs, q => exact q
    | .pin true xs, q => exact q
    | .pin false xs, q => exact q
    | .scr ns, q => exact q
    | .exn x, q => obtain ⟨zi, C, dd, fs, z1, _⟩ := q; cases z1
  inj := R.inj
  lp := R.lp
  tu := R.tu
theorem env_ext {K : PySem.W.Frag} {ζ : Option ZI} {G A : Hp} {L : Nat → Option Addr} {H : Hp} {σ : St} {env : Env} (R : REnv K ζ G A L H σ env) (n : Nat) : REnv K ζ G A L H (σ ++ List.replicate n none) (env ++ List.replicate n .un) where
  len := by rw [List.length_append, List.length_append, R.len]; simp
  gh := R.gh
  ah := R.ah
  ag := R.ag
  sl := fun i o w e1 e2 => by
    by_cases hi : i < env.length
    · rw [List.getElem?_append_left hi] at e1
      rw [List.getElem?_append_left (by rw [← R.len]; exact hi)] at e2
      exact R.sl i o w e1 e2
    · rw [List.getElem?_append_right (by omega), List.getElem?_replicate] at e1
      split at e1
      · cases e1; trivial
      · cases e1
  inj := fun i j x y p e1 e2 m1 m2 z1 z2 => by
    have low : ∀ {k : Nat} {x : O}, (env ++ List.replicate n .un)[k]? = some x → x.mine = true → k < env.length := fun {k x} e m => by
      by_cases hi : k < env.length
      · exact hi
      · rw [List.getElem?_append_right (by omega), List.getElem?_replicate] at e
        split at e
        · cases e; cases m
        · cases e
    have h1 := low e1 m1
    have h2 := low e2 m2
    rw [List.getElem?_append_left h1] at e1
    rw [List.getElem?_append_left h2] at e2
    rw [List.getElem?_append_left (by rw [← R.len]; exact h1)] at z1
    rw [List.getElem?_append_left (by rw [← R.len]; exact h2)] at z2
    exact R.inj i j x y p e1 e2 m1 m2 z1 z2
  lp := fun i p e => by
    obtain ⟨w, xs, q⟩ := R.lp i p e
    have hi : i < env.length := (List.getElem?_eq_some_iff.mp q).1
    exact ⟨w, xs, by rw [List.getElem?_append_left hi]; exact q⟩
  tu := R.tu
section
variable {P : Program} {w : World} {K : PySem.W.Frag} {ζ : Option ZI} {mg : Str → Option Value} {base : Heap}
/-- THE RULE for a def -/
theorem fn_ok {x qual : Str} {st : Stmt} {f : Addr} {fd : FuncData} {N ps : List Str} {k n : Nat} {ks : List Nat} {s : S} (F : Fun K x qual st f fd) (Sc : FnScope N ps (defScope st)) (hn : ps.length = n)
    (hbody : ∀ (cdv : Value) (A : Around) (outer : List PySem.Env) (s0 : Shared) (H : Hp) (E : XK), Room k (A.deeper (PyProof.Rows.envOfC qual (defScope st) s0.heap.objs.size f cdv)) →
      PSs (cxOf CX0 P w K mg base N qual (defScope st) f cdv A outer s0 H E).nox (defBody st) (tS K none mg (fun _ _ _ _ => False) s)) : FnOk P w K mg base CX0 (k + 1) f fd ps (spM K n ks (fBody N.length ks s)) := by
  refine F.ok Sc (fun vs H Q E h => ?_) fun cdv A outer s0 H vs Q E hr h => ⟨tS K none mg (fun _ _ _ _ => False) s, hbody cdv A outer s0 H E hr, ?_⟩
  · obtain ⟨G, A, L, os, r, outs, hl, _⟩ := h
    rw [hl, hn]
  · obtain ⟨G, A, L, os, r, outs, hl, R, e, q⟩ := h
    have R1 := env_ext R (N.length - vs.length)
    have ol : os.length = vs.length := by rw [R.len, List.length_map]
    refine ⟨G, A, L, _, R1, ?_⟩
    unfold fBody at e
    rw [ol] at e
    generalize s (os ++ List.replicate (N.length - vs.length) O.un) = sr at e ⊢
    cases sr with
    | next ev =>
      cases e
      exact fun σ' H' G' s R' => q .non H' G' none σ' ev s R' rfl Rp.non
    | ret r' ev =>
      cases e
      exact fun v σ' H' G' s R' hv => q v H' G' none σ' ev s R' rfl hv
    | brk ev => cases e
    | cont ev => cases e
    | exc x ev => cases e
    | stuck => cases e
/-- .. for a def that may raise -/
theorem fn_okX {x qual : Str} {st : Stmt} {f : Addr} {fd : FuncData} {N ps : List Str} {k n : Nat} {ks : List Nat} {s : S} (F : Fun K x qual st f fd) (Sc : FnScope N ps (defScope st)) (hn : ps.length = n)
    (hbody : ∀ (cdv : Value) (A : Around) (outer : List PySem.Env) (s0 : Shared) (H : Hp) (E : XK), Room k (A.deeper (PyProof.Rows.envOfC qual (defScope st) s0.heap.objs.size f cdv)) →
      PSs (cxOf (L2N.CX P w) P w K mg base N qual (defScope st) f cdv A outer s0 H E) (defBody st) (tS K none mg (fun cls d _ H' => E cls d H') s)) : FnOk P w K mg base (L2N.CX P w) (k + 1) f fd ps (spX K mg n (fBody N.length ks s)) := by
  obtain ⟨oc, od, kV, doc, pm, an, cdv, ct, osl, rfl, lk, hcd⟩ := F.ex
  refine fn_of lk hcd Sc (fun vs H Q E h => ?_) fun A outer s0 H vs Q E hr h => ⟨tS K none mg (fun cls d _ H' => E cls d H') s, hbody cdv A outer s0 H E hr, ?_⟩
  · obtain ⟨G, A, L, os, hl, _⟩ := h
    rw [hl, hn]
  · obtain ⟨G, A, L, os, hl, R, q⟩ := h
    have R1 := env_ext R (N.length - vs.length)
    have ol : os.length = vs.length := by rw [R.len, List.length_map]
    refine ⟨G, A, L, _, R1, ?_⟩
    unfold fBody at q
    rw [ol] at q
    generalize s (os ++ List.replicate (N.length - vs.length) O.un) = sr at q ⊢
    cases sr with
    | next ev => exact fun σ' H' G' s R' => q .non H' G' none σ' ev s R' Rp.non
    | ret r' ev => exact fun v σ' H' G' s R' hv => q v H' G' none σ' ev s R' hv
    | brk ev => exact q.elim
    | cont ev => exact q.elim
    | exc x ev => exact fun cls d σ' H' G' s R' hx => q cls d H' G' none σ' ev s R' hx
    | stuck => exact q.elim
end

/-! ### calls -/
inductive Arg where
  | v (m : M)
  | io (i : Nat)
  | sc (i : Nat)
def Arg.opd : Arg → Opd
  | .v m => .m (frz m)
  | .io i => .pk i
  | .sc i => .pk i
def prep : Arg → O → Option O
  | .v _, .val d => some (.val d)
  | .io _, .own xs => some (.pin true xs)
  | .io _, .pin true xs => some (.pin true xs)
  | .sc _, .scr ns => some (.scr ns)
  | _, _ => none
def preps : List Arg → List O → Option (List O)
  | [], [] => some []
  | a :: as, r :: rs => match prep a r, preps as rs with
    | some o, some os => some (o :: os)
    | _, _ => none
  | _, _ => none
def ioAt : Nat → List Arg → List (Nat × Nat)
  | _, [] => []
  | k, .io i :: r => (k, i) :: ioAt (k + 1) r
  | k, _ :: r => ioAt (k + 1) r
def putIO : List Nat → List (List D) → Env → Env
  | i :: is, xs :: xss, e => putIO is xss (e.set i ((e.getD i .un).put xs))
  | _, _, e => e
def mCall (fn : Fn) (args : List Arg) : M := fun env => (pass (args.map Arg.opd) env).bind fun p => match preps args p.1 with
  | some os => (fn os).bind fun q => .ok (q.1, putIO ((ioAt 0 args).map (·.2)) q.2 p.2)
  | none => .stuck
theorem ioAt_mem : ∀ {args : List Arg} {k0 k i : Nat}, (k, i) ∈ ioAt k0 args → k0 ≤ k ∧ args[k - k0]? = some (.io i)
  | [], k0, k, i, h => by simp [ioAt] at h
  | .io j :: r, k0, k, i, h => by
    unfold ioAt at h
    rcases List.mem_cons.mp h with e | h
    · cases e; exact ⟨Nat.le_refl _, by simp⟩
    · obtain ⟨h1, h2⟩ := ioAt_mem h
      refine ⟨by omega, ?_⟩
      have : k - k0 = (k - (k0 + 1)) + 1 := by omega
      rw [this, List.getElem?_cons_succ]; exact h2
  | .v m :: r, k0, k, i, h => by
    obtain ⟨h1, h2⟩ := ioAt_mem (args := r) h
    refine ⟨by omega, ?_⟩
    have : k - k0 = (k - (k0 + 1)) + 1 := by omega
    rw [this, List.getElem?_cons_succ]; exact h2
  | .sc m :: r, k0, k, i, h => by
    obtain ⟨h1, h2⟩ := ioAt_mem (args := r) h
    refine ⟨by omega, ?_⟩
    have : k - k0 = (k - (k0 + 1)) + 1 := by omega
    rw [this, List.getElem?_cons_succ]; exact h2
theorem mem_ioAt : ∀ {args : List Arg} {k0 k i : Nat}, args[k]? = some (.io i) → (k0 + k, i) ∈ ioAt k0 args
  | [], k0, k, i, h => by simp at h
  | .io j :: r, k0, 0, i, h => by cases h; exact List.mem_cons_self
  | .io j :: r, k0, k + 1, i, h => by
    have := mem_ioAt (args := r) (k0 := k0 + 1) (k := k) (i := i) (by simpa using h)
    rw [show k0 + 1 + k = k0 + (k + 1) by omega] at this
    exact List.mem_cons_of_mem _ this
  | .v m :: r, k0, 0, i, h => by cases h
  | .v m :: r, k0, k + 1, i, h => by
    have := mem_ioAt (args := r) (k0 := k0 + 1) (k := k) (i := i) (by simpa using h)
    rw [show k0 + 1 + k = k0 + (k + 1) by omega] at this
    exact this
  | .sc m :: r, k0, 0, i, h => by cases h
  | .sc m :: r, k0, k + 1, i, h => by
    have := mem_ioAt (args := r) (k0 := k0 + 1) (k := k) (i := i) (by simpa using h)
    rw [show k0 + 1 + k = k0 + (k + 1) by omega] at this
    exact this
theorem nodup_fst {l : List (Nat × Nat)} (h : (l.map (·.2)).Nodup) {a b i : Nat} (ha : (a, i) ∈ l) (hb : (b, i) ∈ l) : a = b := by
  induction l with
  | nil => cases ha
  | cons p l ih =>
    rw [List.map_cons, List.nodup_cons] at h
    rcases List.mem_cons.mp ha with e1 | e1
    · rcases List.mem_cons.mp hb with e2 | e2
      · rw [← e1] at e2; cases e2; rfl
      · subst e1; exact absurd (List.mem_map_of_mem (f := (·.2)) e2) h.1
    · rcases List.mem_cons.mp hb with e2 | e2
      · subst e2; exact absurd (List.mem_map_of_mem (f := (·.2)) e1) h.1
      · exact ih h.2 e1 e2
theorem putIO_len : ∀ (is : List Nat) (xss : List (List D)) (e : Env), (putIO is xss e).length = e.length
  | [], _, _ => rfl
  | _ :: _, [], _ => rfl
  | i :: is, xs :: xss, e => by unfold putIO; rw [putIO_len is xss, List.length_set]
theorem putIO_out : ∀ {is : List Nat} {xss : List (List D)} {e : Env} {j : Nat}, j ∉ is → (putIO is xss e)[j]? = e[j]?
  | [], _, _, _, _ => rfl
  | _ :: _, [], _, _, _ => rfl
  | i :: is, xs :: xss, e, j, h => by
    simp only [List.mem_cons, not_or] at h
    unfold putIO
    rw [putIO_out h.2, List.getElem?_set_ne (fun z => h.1 z.symm)]
theorem putIO_in {envc : Env} : ∀ {l : List (Nat × Nat)} {e : Env} {k i : Nat}, (l.map (·.2)).Nodup → (k, i) ∈ l → i < e.length →
    (putIO (l.map (·.2)) (outsOf (l.map (·.1)) envc) e)[i]? = some ((e.getD i .un).put (envc.getD k .un).lst)
  | [], _, _, _, _, h, _ => by cases h
  | (a, b) :: l, e, k, i, nd, h, hi => by
    rw [List.map_cons, List.nodup_cons] at nd
    show (putIO (b :: l.map (·.2)) ((envc.getD a .un).lst :: outsOf (l.map (·.1)) envc) e)[i]? = _
    unfold putIO
    rcases List.mem_cons.mp h with e1 | e1
    · cases e1
      rw [putIO_out nd.1, List.getElem?_set_self hi]
    · have hb : b ≠ i := fun z => nd.1 (by subst z; exact List.mem_map_of_mem (f := (·.2)) e1)
      rw [putIO_in nd.2 e1 (by rw [List.length_set]; exact hi)]
      rw [List.getD_eq_getElem?_getD, List.getD_eq_getElem?_getD, List.getElem?_set_ne hb]
      rfl
theorem preps_len : ∀ {args : List Arg} {rs os : List O}, preps args rs = some os → os.length = args.length
  | [], [], os, h => by cases h; rfl
  | a :: as, r :: rs, os, h => by
    unfold preps at h
    split at h
    · rename_i o os' e1 e2
      cases h
      rw [List.length_cons, List.length_cons, preps_len e2]
    · cases h
  | [], _ :: _, _, h => by cases h
  | _ :: _, [], _, h => by cases h
theorem preps_at {K : PySem.W.Frag} {G A : Hp} {L : Nat → Option Addr} {H : Hp} {σ : St} {env : Env} : ∀ {args : List Arg} {rs os : List O} {vs : List V}, preps args rs = some os → ROps K G A L H σ env (args.map Arg.opd) rs vs →
    ∀ {k : Nat} {o : O} {v : V}, os[k]? = some o → vs[k]? = some v → ∃ a r, args[k]? = some a ∧ ROp K G A L H σ env a.opd r v ∧ prep a r = some o
  | [], [], os, vs, h, ops, k, o, v, e1, e2 => by cases h; cases e1
  | a :: as, r :: rs, os, vs, h, ops, k, o, v, e1, e2 => by
    unfold preps at h
    split at h
    · rename_i o' os' h1 h2
      cases h
      cases ops with
      | cons op ops =>
        cases k with
        | zero => cases e1; cases e2; exact ⟨a, r, rfl, op, h1⟩
        | succ k =>
          obtain ⟨a', r', q1, q2, q3⟩ := preps_at h2 ops (k := k) (by simpa using e1) (by simpa using e2)
          exact ⟨a', r', by simpa using q1, q2, q3⟩
    · cases h
  | [], _ :: _, _, _, h, _, _, _, _, _, _ => by cases h
  | _ :: _, [], _, _, h, _, _, _, _, _, _ => by cases h
open Classical in
theorem call_core {K : PySem.W.Frag} {ζ : Option ZI} {args : List Arg} (hnd : ((ioAt 0 args).map (·.2)).Nodup) {σ : St} {G A : Hp} {L : Nat → Option Addr} {H1 : Hp} {env : Env} {rs os : List O} {vs : List V} (R : REnv K ζ G A L H1 σ env) (ops : ROps K G A L H1 σ env (args.map Arg.opd) rs vs)
    (eos : preps args rs = some os) : ∃ (A1 : Hp) (L1 : Nat → Option Addr), Same A A1 ∧ vs.length = args.length ∧ REnv K none G A1 L1 H1 (vs.map some) os ∧ ∀ G2 H2 ζc σc envc, Same G G2 → REnv K ζc G2 A1 L1 H2 σc envc →
      REnv K ζ G2 A L H2 σ (putIO ((ioAt 0 args).map (·.2)) (outsOf ((ioAt 0 args).map (·.1)) envc) env) ∧ ∀ r v, RVal K G2 A1 L1 H2 σc envc r v → RVal K G2 A L H2 σ (putIO ((ioAt 0 args).map (·.2)) (outsOf ((ioAt 0 args).map (·.1)) envc) env) r v := by
    have vl : vs.length = args.length := by rw [rops_len ops, List.length_map]
    have at_ : ∀ {k : Nat} {o : O} {v : V}, os[k]? = some o → vs[k]? = some v → ∃ a r, args[k]? = some a ∧ ROp K G A L H1 σ env a.opd r v ∧ prep a r = some o := fun e1 e2 => preps_at eos ops e1 e2
    -- a caller's own list that the callee does not see
    let mineAt : Addr → Prop := fun a => ∃ (j : Nat) (x : O), env[j]? = some x ∧ x.mine = true ∧ j ∉ (ioAt 0 args).map (·.2) ∧ σ[j]? = some (some (V.ref a))
    let A1 : Hp := fun a => if mineAt a then H1 a else A a
    let L1 : Nat → Option Addr := fun k => match args[k]?, vs[k]? with
      | some (.io _), some (.ref p) => some p
      | _, _ => none
    have A1m : ∀ {a : Addr}, mineAt a → A1 a = H1 a := fun h => if_pos h
    have A1n : ∀ {a : Addr}, ¬ mineAt a → A1 a = A a := fun h => if_neg h
    have AA1 : Same A A1 := fun a o h => by
      by_cases hm : mineAt a
      · obtain ⟨j, x, e1, e2, _, e4⟩ := hm
        obtain ⟨_, _, _, h3⟩ := slot_alive R e1 e2 e4
        rw [h] at h3; cases h3
      · rw [A1n hm]; exact h
    -- a list handed over
    have ioF : ∀ {k i : Nat}, args[k]? = some (.io i) → k < os.length → ∃ (p : Addr) (xs : List PyData) (us : List V), vs[k]? = some (V.ref p) ∧ os[k]? = some (.pin true xs) ∧ L1 k = some p ∧ σ[i]? = some (some (V.ref p)) ∧ (∃ o, env[i]? = some o ∧ o.ml = some xs) ∧ H1 p = some (.lst us) ∧ G p = none ∧ A p = none ∧ A1 p = none ∧ RpAll K G us xs := by
      intro k i ea hkl
      have hkv : k < vs.length := by rw [vl, ← preps_len eos]; exact hkl
      obtain ⟨a, r', e1, e2, e3⟩ := at_ (k := k) (List.getElem?_eq_getElem hkl) (List.getElem?_eq_getElem hkv)
      rw [ea] at e1
      cases e1
      obtain ⟨hv, hr⟩ := e2
      have key : ∃ xs, r'.ml = some xs ∧ os[k] = .pin true xs := by
        match r', e3 with
        | .own xs, e3 => exact ⟨xs, rfl, (Option.some.inj e3).symm⟩
        | .pin true xs, e3 => exact ⟨xs, rfl, (Option.some.inj e3).symm⟩
        | .pin false xs, e3 => cases e3
        | .un, e3 => cases e3
        | .tpl _, e3 => cases e3
        | .val _, e3 => cases e3
        | .scr _, e3 => cases e3
        | .exn _, e3 => cases e3
      obtain ⟨xs, hm, ho⟩ := key
      have eo := getD_some hr (ml_live hm)
      obtain ⟨p, us, ep, q1, q2, q3, q4⟩ := ml_at R eo hm hv
      refine ⟨p, xs, us, by rw [List.getElem?_eq_getElem hkv, ep], by rw [List.getElem?_eq_getElem hkl, ho], ?_, by rw [hv, ep], ⟨_, eo, hm⟩, q1, q2, q3, ?_, q4⟩
      · show (match args[k]?, vs[k]? with | some (.io _), some (.ref p) => some p | _, _ => none) = some p
        rw [ea, List.getElem?_eq_getElem hkv, ep]
      · rw [A1n]
        · exact q3
        · rintro ⟨j, x, f1, f2, f3, f4⟩
          have := R.inj j i x _ p f1 eo f2 (ml_mine hm) f4 (by rw [hv, ep])
          subst this
          exact f3 (List.mem_map.mpr ⟨(k, j), by have := mem_ioAt (k0 := 0) ea; rwa [Nat.zero_add] at this, rfl⟩)
    have L1i : ∀ {k : Nat} {p : Addr}, L1 k = some p → ∃ i, args[k]? = some (.io i) ∧ vs[k]? = some (V.ref p) := fun {k p} e => by
      have e : (match args[k]?, vs[k]? with | some (.io _), some (.ref p) => some p | _, _ => none) = some p := e
      split at e
      · rename_i i p' e1 e2
        cases e
        exact ⟨i, e1, e2⟩
      · cases e
    have osl : os.length = vs.length := by rw [preps_len eos, vl]
    have RC : REnv K none G A1 L1 H1 (vs.map some) os := by
      refine ⟨by rw [List.length_map]; exact osl, R.gh, fun a o h => ?_, fun a o h => ?_, fun k o w e1 e2 => ?_, fun k1 k2 x y p e1 e2 m1 m2 z1 z2 => ?_, fun k p e => ?_, tuM R.tu fun a h vs => by
        obtain ⟨j, x, f1, f2, _, f4⟩ := h
        exact mine_tup R f1 f2 f4 vs⟩
      · by_cases hm : mineAt a
        · rw [A1m hm] at h; exact h
        · rw [A1n hm] at h; exact R.ah _ _ h
      · by_cases hm : mineAt a
        · obtain ⟨j, x, f1, f2, _, f4⟩ := hm
          exact (slot_alive R f1 f2 f4).elim fun _ z => z.2.1
        · rw [A1n hm] at h; exact R.ag _ _ h
      · rw [List.getElem?_map] at e2
        cases ev : vs[k]? with
        | none => rw [ev] at e2; cases e2
        | some v =>
          rw [ev] at e2
          cases e2
          obtain ⟨a, r', f1, f2, f3⟩ := at_ e1 ev
          cases a with
          | v m =>
            cases r' with
            | val d => cases f3; exact ⟨v, rfl, f2⟩
            | _ => cases f3
          | io i =>
            obtain ⟨p, xs, us, g1, g2, g3, _, _, g5, g6, _, g8, g9⟩ := ioF f1 (List.getElem?_eq_some_iff.mp e1).1
            rw [ev] at g1
            rw [e1] at g2
            cases g1; cases g2
            exact ⟨p, us, g3, rfl, g5, g6, g8, g9⟩
          | sc i =>
            cases r' with
            | scr ns =>
              cases f3
              obtain ⟨hv, hr⟩ := f2
              obtain ⟨p, g1, g2⟩ := R.sl i _ _ (getD_some hr rfl) hv
              cases g1
              exact ⟨p, rfl, g2⟩
            | _ => cases f3
      · have tel : ∀ {k : Nat} {x : O}, os[k]? = some x → x.mine = true → ∃ i, args[k]? = some (.io i) := fun {k x} e m => by
          have hkv : k < vs.length := by rw [← osl]; exact (List.getElem?_eq_some_iff.mp e).1
          obtain ⟨a, r', f1, f2, f3⟩ := at_ e (List.getElem?_eq_getElem hkv)
          cases a with
          | v m => cases r' <;> first | cases f3 | skip
                   cases m
          | io i => exact ⟨i, f1⟩
          | sc i => cases r' <;> first | cases f3 | skip
                    cases m
        obtain ⟨i1, a1⟩ := tel e1 m1
        obtain ⟨i2, a2⟩ := tel e2 m2
        obtain ⟨p1, xs1, us1, g1, _, _, g4, ⟨o1, g5, g5'⟩, _⟩ := ioF a1 (List.getElem?_eq_some_iff.mp e1).1
        obtain ⟨p2, xs2, us2, k1', _, _, k4, ⟨o2, k5, k5'⟩, _⟩ := ioF a2 (List.getElem?_eq_some_iff.mp e2).1
        rw [List.getElem?_map, g1] at z1
        rw [List.getElem?_map, k1'] at z2
        cases z1; cases z2
        have := R.inj i1 i2 o1 o2 p g5 k5 (ml_mine g5') (ml_mine k5') g4 k4
        subst this
        have m1 := mem_ioAt (k0 := 0) a1
        have m2 := mem_ioAt (k0 := 0) a2
        rw [Nat.zero_add] at m1 m2
        exact nodup_fst hnd m1 m2
      · obtain ⟨i, a1, a2⟩ := L1i e
        obtain ⟨p1, xs1, us1, g1, g2, _⟩ := ioF a1 (by rw [osl]; exact (List.getElem?_eq_some_iff.mp a2).1)
        exact ⟨true, xs1, g2⟩
    refine ⟨A1, L1, AA1, vl, RC, fun G2 H2 ζc σc envc s2 Rc => ?_⟩
    -- what a list handed over holds now
    have ioB : ∀ {k i : Nat}, (k, i) ∈ ioAt 0 args → ∃ (p : Addr) (ys : List PyData) (us : List V) (o : O) (xs : List PyData), env[i]? = some o ∧ o.ml = some xs ∧ σ[i]? = some (some (V.ref p)) ∧ (envc.getD k .un).lst = ys ∧ H2 p = some (.lst us) ∧ G2 p = none ∧ A p = none ∧ RpAll K G2 us ys ∧ σc[k]? = some (some (V.ref p)) ∧ ∃ x, envc[k]? = some x ∧ x.mine = true := by
      intro k i hm
      obtain ⟨_, a1⟩ := ioAt_mem hm
      rw [Nat.sub_zero] at a1
      have hkl : k < os.length := by rw [preps_len eos]; exact (List.getElem?_eq_some_iff.mp a1).1
      obtain ⟨p, xs, us, g1, g2, g3, g4, ⟨o, g5, g5'⟩, g6, g7, g8, g9, g10⟩ := ioF a1 hkl
      obtain ⟨w, ys, ey⟩ := Rc.lp k p g3
      have hkc : k < σc.length := by rw [← Rc.len]; exact (List.getElem?_eq_some_iff.mp ey).1
      have q := Rc.sl k _ σc[k] ey (by simp [hkc])
      cases w with
      | false =>
        obtain ⟨p', vs', q0, _, q2, _⟩ := q
        rw [g3] at q0; cases q0
        rw [g9] at q2; cases q2
      | true =>
        obtain ⟨p', vs', q0, q1, q2, q3, q4, q5⟩ := q
        rw [g3] at q0; cases q0
        exact ⟨p, ys, vs', o, xs, g5, g5', g4, by rw [List.getD_eq_getElem?_getD, ey] <;> rfl, q2, q3, g8, q5, by rw [← q1]; simp [hkc], _, ey, rfl⟩
    have low : ∀ {j : Nat} {x : O}, (putIO ((ioAt 0 args).map (·.2)) (outsOf ((ioAt 0 args).map (·.1)) envc) env)[j]? = some x → (j ∉ (ioAt 0 args).map (·.2) ∧ env[j]? = some x) ∨
        ∃ (k : Nat) (o : O), (k, j) ∈ ioAt 0 args ∧ env[j]? = some o ∧ x = o.put (envc.getD k .un).lst := fun {j x} e => by
      by_cases hj : j ∈ (ioAt 0 args).map (·.2)
      · obtain ⟨⟨k, j'⟩, hm, rfl⟩ := List.mem_map.mp hj
        have hl : j' < env.length := by
          have := (List.getElem?_eq_some_iff.mp e).1
          rwa [putIO_len] at this
        rw [putIO_in hnd hm hl] at e
        obtain ⟨p, ys, us, o, xs, g5, _⟩ := ioB hm
        refine .inr ⟨k, o, hm, g5, ?_⟩
        rw [List.getD_eq_getElem?_getD, g5] at e
        exact (Option.some.inj e).symm
      · rw [putIO_out hj] at e
        exact .inl ⟨hj, e⟩
    have putm : ∀ {o : O} {xs ys : List PyData}, o.ml = some xs → (o.put ys).mine = true := fun {o xs ys} h => by
      match o, h with
      | .own _, _ => rfl
      | .pin true _, _ => rfl
    have aA1 : ∀ {a : Addr}, A1 a = none → A a = none := fun h => AA1.free h
    have R2 : REnv K ζ G2 A L H2 σ (putIO ((ioAt 0 args).map (·.2)) (outsOf ((ioAt 0 args).map (·.1)) envc) env) := by
      refine ⟨by rw [putIO_len]; exact R.len, Rc.gh, fun a o h => Rc.ah _ _ (AA1 _ _ h), fun a o h => Rc.ag _ _ (AA1 _ _ h), fun j x w e1 e2 => ?_, fun j1 j2 x y p e1 e2 m1 m2 z1 z2 => ?_, fun i p e => ?_, R.tu⟩
      · rcases low e1 with ⟨hj, e1⟩ | ⟨k, o, hm, eo, rfl⟩
        · have q := R.sl j x w e1 e2
          have stay : ∀ {p : Addr} {u : HO}, x.mine = true → w = some (V.ref p) → H1 p = some u → H2 p = some u ∧ G2 p = none := fun {p u} m ew hp => by
            have hmn : mineAt p := ⟨j, x, e1, m, hj, by rw [e2, ew]⟩
            have z : A1 p = some u := by rw [A1m hmn]; exact hp
            exact ⟨Rc.ah _ _ z, Rc.ag _ _ z⟩
          match x, q with
          | .un, _ => trivial
          | .tpl _, _ => trivial
          | .val d, q => obtain ⟨v', f1, q⟩ := q; exact ⟨v', f1, q.m s2⟩
          | .own xs, q =>
            obtain ⟨p, us, f1, f2, f3, f4, q⟩ := q
            obtain ⟨z1, z2⟩ := stay rfl f1 f2
            exact ⟨p, us, f1, z1, z2, f4, q.m s2⟩
          | .dct tk xs, q =>
            obtain ⟨p, us, f1, f2, f3, f4, q⟩ := q
            obtain ⟨z1, z2⟩ := stay rfl f1 f2
            exact ⟨p, us, f1, z1, z2, f4, q.m s2⟩
          | .pin true xs, q =>
            obtain ⟨p, us, f0, f1, f2, f3, f4, q⟩ := q
            obtain ⟨z1, z2⟩ := stay rfl f1 f2
            exact ⟨p, us, f0, f1, z1, z2, f4, q.m s2⟩
          | .pin false xs, q =>
            obtain ⟨p, us, f0, f1, f2, q⟩ := q
            exact ⟨p, us, f0, f1, f2, q.m s2⟩
          | .scr ns, q =>
            obtain ⟨p, f1, q⟩ := q
            exact ⟨p, f1, sameL s2 q⟩
          | .exn x, q =>
            obtain ⟨zi, C, dd, fs, z1, z2, z3, z4, z5, z6, z7⟩ := q
            exact ⟨zi, C, dd, fs, z1, z2, z3, z4, z5, z6, z7.m s2⟩
        · obtain ⟨p, ys, us, o', xs, g5, g5', g4, g6, g7, g8, g9, g10, _⟩ := ioB hm
          rw [eo] at g5
          cases g5
          rw [e2] at g4
          cases g4
          have q := R.sl j _ _ eo e2
          rw [g6]
          match o, g5', q with
          | .own _, _, _ => exact ⟨p, us, rfl, g7, g8, g9, g10⟩
          | .pin true _, _, q =>
            obtain ⟨p', us', f0, f1, _⟩ := q
            cases f1
            exact ⟨p, us, f0, rfl, g7, g8, g9, g10⟩
      · have up : ∀ {j : Nat} {x : O}, (putIO ((ioAt 0 args).map (·.2)) (outsOf ((ioAt 0 args).map (·.1)) envc) env)[j]? = some x → x.mine = true → ∃ x', env[j]? = some x' ∧ x'.mine = true := fun {j x} e m => by
          rcases low e with ⟨_, e⟩ | ⟨k, o, hm, eo, _⟩
          · exact ⟨x, e, m⟩
          · obtain ⟨p, ys, us, o', xs, g5, g5', _⟩ := ioB hm
            rw [eo] at g5
            cases g5
            exact ⟨o, eo, ml_mine g5'⟩
        obtain ⟨x', f1, n1⟩ := up e1 m1
        obtain ⟨y', f2, n2⟩ := up e2 m2
        exact R.inj j1 j2 x' y' p f1 f2 n1 n2 z1 z2
      · obtain ⟨w, xs, q⟩ := R.lp i p e
        by_cases hj : i ∈ (ioAt 0 args).map (·.2)
        · obtain ⟨⟨k, j'⟩, hm, rfl⟩ := List.mem_map.mp hj
          refine ⟨w, (envc.getD k .un).lst, ?_⟩
          rw [putIO_in hnd hm (List.getElem?_eq_some_iff.mp q).1, List.getD_eq_getElem?_getD, q]
          rfl
        · exact ⟨w, xs, by rw [putIO_out hj]; exact q⟩
    refine ⟨R2, fun r v hv => ?_⟩
    match r, hv with
    | .val d, hv => exact hv
    | .own xs, hv =>
      obtain ⟨p, us, f1, f2, f3, f4, f5, f6, f7⟩ := hv
      -- no list of the caller's own stands there
      have nomine : ∀ (j : Nat) (x : O), env[j]? = some x → x.mine = true → σ[j]? ≠ some (some (V.ref p)) := fun j x e m z => by
        by_cases hj : j ∈ (ioAt 0 args).map (·.2)
        · obtain ⟨⟨k, j'⟩, hm, rfl⟩ := List.mem_map.mp hj
          obtain ⟨p', ys, us', o, xs', g5, g5', g4, _, _, _, _, _, g11, x2, g12, g13⟩ := ioB hm
          rw [z] at g4
          cases g4
          exact f6 k x2 g12 g13 g11
        · have hmn : mineAt p := ⟨j, x, e, m, hj, z⟩
          rw [A1m hmn] at f4
          obtain ⟨vs', h3, _⟩ := slot_alive R e m z
          rw [h3] at f4
          cases f4
      refine ⟨p, us, f1, f2, f3, aA1 f4, f5, fun j x e m z => ?_, fun i z => ?_⟩
      · rcases low e with ⟨_, e⟩ | ⟨k, o, hm, eo, _⟩
        · exact nomine j x e m z
        · obtain ⟨p', ys, us', o', xs', g5, g5', _⟩ := ioB hm
          rw [eo] at g5
          cases g5
          exact nomine j o eo (ml_mine g5') z
      · obtain ⟨w, xs', q⟩ := R.lp i p z
        have hi : i < σ.length := by rw [← R.len]; exact (List.getElem?_eq_some_iff.mp q).1
        have qs := R.sl i _ σ[i] q (by simp [hi])
        cases w with
        | true =>
          obtain ⟨p', us', h0, h1', _⟩ := qs
          rw [z] at h0; cases h0
          exact nomine i _ q rfl (by rw [← h1']; simp [hi])
        | false =>
          obtain ⟨p', us', h0, h1', h2', _⟩ := qs
          rw [z] at h0; cases h0
          rw [aA1 f4] at h2'; cases h2'
    | .dct tk xs, hv =>
      obtain ⟨p, us, f1, f2, f3, f4, f5, f6, f7⟩ := hv
      -- no list of the caller's own stands there
      have nomine : ∀ (j : Nat) (x : O), env[j]? = some x → x.mine = true → σ[j]? ≠ some (some (V.ref p)) := fun j x e m z => by
        by_cases hj : j ∈ (ioAt 0 args).map (·.2)
        · obtain ⟨⟨k, j'⟩, hm, rfl⟩ := List.mem_map.mp hj
          obtain ⟨p', ys, us', o, xs', g5, g5', g4, _, _, _, _, _, g11, x2, g12, g13⟩ := ioB hm
          rw [z] at g4
          cases g4
          exact f6 k x2 g12 g13 g11
        · have hmn : mineAt p := ⟨j, x, e, m, hj, z⟩
          rw [A1m hmn] at f4
          obtain ⟨vs', h3, _⟩ := slot_alive R e m z
          rw [h3] at f4
          cases f4
      refine ⟨p, us, f1, f2, f3, aA1 f4, f5, fun j x e m z => ?_, fun i z => ?_⟩
      · rcases low e with ⟨_, e⟩ | ⟨k, o, hm, eo, _⟩
        · exact nomine j x e m z
        · obtain ⟨p', ys, us', o', xs', g5, g5', _⟩ := ioB hm
          rw [eo] at g5
          cases g5
          exact nomine j o eo (ml_mine g5') z
      · obtain ⟨w, xs', q⟩ := R.lp i p z
        have hi : i < σ.length := by rw [← R.len]; exact (List.getElem?_eq_some_iff.mp q).1
        have qs := R.sl i _ σ[i] q (by simp [hi])
        cases w with
        | true =>
          obtain ⟨p', us', h0, h1', _⟩ := qs
          rw [z] at h0; cases h0
          exact nomine i _ q rfl (by rw [← h1']; simp [hi])
        | false =>
          obtain ⟨p', us', h0, h1', h2', _⟩ := qs
          rw [z] at h0; cases h0
          rw [aA1 f4] at h2'; cases h2'
    | .tpl ds, hv =>
      obtain ⟨a, vs, e1, e2, hv⟩ := hv
      refine ⟨a, vs, e1, e2, hv.mapL fun p us f2 hl => ?_⟩
      obtain ⟨f3, f4, f6, f7⟩ := hl
      -- no list of the caller's own stands there
      have nomine : ∀ (j : Nat) (x : O), env[j]? = some x → x.mine = true → σ[j]? ≠ some (some (V.ref p)) := fun j x e m z => by
        by_cases hj : j ∈ (ioAt 0 args).map (·.2)
        · obtain ⟨⟨k, j'⟩, hm, rfl⟩ := List.mem_map.mp hj
          obtain ⟨p', ys, us', o, xs', g5, g5', g4, _, _, _, _, _, g11, x2, g12, g13⟩ := ioB hm
          rw [z] at g4
          cases g4
          exact f6 k x2 g12 g13 g11
        · have hmn : mineAt p := ⟨j, x, e, m, hj, z⟩
          rw [A1m hmn] at f4
          obtain ⟨vs', h3, _⟩ := slot_alive R e m z
          rw [h3] at f4
          cases f4
      refine ⟨f3, aA1 f4, fun j x e m z => ?_, fun i z => ?_⟩
      · rcases low e with ⟨_, e⟩ | ⟨k, o, hm, eo, _⟩
        · exact nomine j x e m z
        · obtain ⟨p', ys, us', o', xs', g5, g5', _⟩ := ioB hm
          rw [eo] at g5
          cases g5
          exact nomine j o eo (ml_mine g5') z
      · obtain ⟨w, xs', q⟩ := R.lp i p z
        have hi : i < σ.length := by rw [← R.len]; exact (List.getElem?_eq_some_iff.mp q).1
        have qs := R.sl i _ σ[i] q (by simp [hi])
        cases w with
        | true =>
          obtain ⟨p', us', h0, h1', _⟩ := qs
          rw [z] at h0; cases h0
          exact nomine i _ q rfl (by rw [← h1']; simp [hi])
        | false =>
          obtain ⟨p', us', h0, h1', h2', _⟩ := qs
          rw [z] at h0; cases h0
          rw [aA1 f4] at h2'; cases h2'
theorem call_ok {K : PySem.W.Frag} {ζ : Option ZI} {n : Nat} {ks : List Nat} {fn : Fn} {args : List Arg} {E : XK} (hn : args.length = n) (hk : (ioAt 0 args).map (·.1) = ks) (hnd : ((ioAt 0 args).map (·.2)).Nodup) {σ : St} {H : Hp} {Q : VK} (h : tM K ζ (mCall fn args) σ H Q) :
    tCall (spM K n ks fn) [] E (tAll K ζ (args.map Arg.opd)) σ H Q := by
  obtain ⟨G0, A, L, env0, r0, env', R0, e, q⟩ := h
  obtain ⟨⟨rs, env⟩, h1, h⟩ := bind_eq_ok e
  refine pass_all _ R0 h1 fun vs H1 G s1 R ops => ?_
  rw [List.append_nil]
  simp only at h
  split at h
  · rename_i os eos
    obtain ⟨⟨r, outs⟩, h2, h⟩ := bind_eq_ok h
    cases h
    obtain ⟨A1, L1, AA1, vl, RC, back⟩ := call_core hnd R ops eos
    refine ⟨G, A1, L1, os, r, outs, by rw [vl, hn], RC, h2, fun v H2 G2 ζc σc envc s2 Rc eo hv => ?_⟩
    subst eo
    subst hk
    obtain ⟨R2, hv2⟩ := back G2 H2 ζc σc envc s2 Rc
    exact q v H2 G2 (s1.trans s2) R2 (hv2 r v hv)
  · cases h
section
variable {X : Cx} {ζ : Option ZI} {W : WX} {k n : Nat} {ks : List Nat} {f : Addr} {fd : FuncData} {ps : List Str} {fn : Fn} {x : Str} {p pos : Pos} {e : Expr} {es : List Expr} {args : List Arg}
theorem r_call (F : FnOk X.prog X.w X.K X.mg X.base CX0 k f fd ps (spM X.K n ks fn)) (hr : Room k X.A) (hm : X.mg x = some (.ref f)) (hkp : PySem.W.keepIn X.K (.ref f) = true) (hb : Binds X.K fd ps []) (ha : PA X (e :: es) (tAll X.K ζ (args.map Arg.opd)))
    (hn : args.length = n) (hk : (ioAt 0 args).map (·.1) = ks) (hnd : ((ioAt 0 args).map (·.2)).Nodup) (hg : Gl X x := by rfl)
    (hdb : (x == ("__debug__" : Str)) = false := by decide) (he : starEach (e :: es) X.env = (false, eval e X.env) :: starEach es X.env := by rfl) (hpl : (backTo pos (starEach es X.env)).any (·.1) = false := by rfl) :
    PE X (.Call (.Name x p) (e :: es) [] pos) (tM X.K ζ (mCall fn args)) := pew (pe_call F hr hg hm hkp hb .nil pass0 ha hdb he hpl) fun σ H Q q => call_ok hn hk hnd q
end
end SE

namespace SE
open PySem L2 RZ

theorem hu65 {A : Around} {k : Nat} (hr : Room k A) : A.units + 65 < cLine := by have := hr.un; omega
def oAddS : O → O → Res O
  | .val (.int i), .val (.int j) => .ok (.val (.int (i + j)))
  | .val (.str a), .val (.str b) => if a.length + b.length ≤ 16777216 then .ok (.val (.str (a ++ b))) else .stuck
  | _, _ => .stuck
def rAddS : R2 := fun x y H Q => (rI0 fun i j => .int (i + j)) x y H Q ∨ ∃ i j, x = .str i ∧ y = .str j ∧ i.length + j.length ≤ sizeLine ∧ Q (.str (i ++ j)) H
theorem iop_addS {X : Cx} : OpR X (inplaceOp .Add) rAddS := iop_add.or iop_add_str
theorem sem_addS {K : PySem.W.Frag} : Sem2 K oAddS rAddS := by
  intro ζ G A L H σ env x y rx ry r0 Q R hx hy e q
  unfold oAddS at e
  split at e
  · cases e; cases hx; cases hy
    exact .inl ⟨_, _, rfl, rfl, q.val R (.int _)⟩
  · split at e
    · rename_i z
      cases e; cases hx; cases hy
      exact .inr ⟨_, _, rfl, rfl, by rw [← sl_eq]; exact z, q.val R (.str _)⟩
    · cases e
  · cases e

/-! ### a def where it stands -/
/-- the def st stands at the name x -/
def FunAt (K : PySem.W.Frag) (mg : Str → Option Value) (x : Str) (st : Stmt) : Prop := ∃ f fd, mg x = some (.ref f) ∧ Fun K x x st f fd
/-- a def that may be called -/
def Cal (P : Program) (w : World) (K : PySem.W.Frag) (mg : Str → Option Value) (base : Heap) (x : Str) (k n : Nat) (ks : List Nat) (fn : Fn) : Prop := ∃ f fd ps, mg x = some (.ref f) ∧ PySem.W.keepIn K (.ref f) = true ∧ Binds K fd ps [] ∧ FnOk P w K mg base CX0 k f fd ps (spM K n ks fn)
section
variable {X : Cx} {ζ : Option ZI} {W : WX} {k k' n : Nat} {ks : List Nat} {fn : Fn} {x : Str} {p pos : Pos} {e : Expr} {es : List Expr} {args : List Arg}
theorem r_callC (C : Cal X.prog X.w X.K X.mg X.base x k n ks fn) (hr : Room k' X.A) (hle : k ≤ k') (ha : PA X (e :: es) (tAll X.K ζ (args.map Arg.opd)))
    (hn : args.length = n) (hk : (ioAt 0 args).map (·.1) = ks) (hnd : ((ioAt 0 args).map (·.2)).Nodup) (hg : Gl X x := by rfl)
    (hdb : (x == ("__debug__" : Str)) = false := by decide) (he : starEach (e :: es) X.env = (false, eval e X.env) :: starEach es X.env := by rfl) (hpl : (backTo pos (starEach es X.env)).any (·.1) = false := by rfl) :
    PE X (.Call (.Name x p) (e :: es) [] pos) (tM X.K ζ (mCall fn args)) := by
  obtain ⟨f, fd, ps, h1, h2, h3, h4⟩ := C
  exact r_call h4 (hr.mono hle) h1 h2 h3 ha hn hk hnd hg hdb he hpl
end
section
variable {P : Program} {w : World} {K : PySem.W.Frag} {ζ : Option ZI} {mg : Str → Option Value} {base : Heap}
/-- a def's body read; it may be called -/
theorem cal_mk {x : Str} {st : Stmt} {N ps : List Str} {k n : Nat} {ks : List Nat} {s : S} (F : FunAt K mg x st) (Sc : FnScope N ps (defScope st)) (hn : ps.length = n)
    (hb : ∀ (kV doc pm : Value) (an : Option Addr) (cdv ct : Value) (us : List Value), us.length = ps.length → bindArgs (PySem.W.fnOf x x (defArgs st) (defBody st) (defScope st) .none kV doc pm an cdv ct) ⟨us, []⟩ = pure (ps.zip us))
    (hbody : ∀ (f : Addr) (cdv : Value) (A : Around) (outer : List PySem.Env) (s0 : Shared) (H : Hp) (E : XK), Room k (A.deeper (PyProof.Rows.envOfC x (defScope st) s0.heap.objs.size f cdv)) →
      PSs (cxOf CX0 P w K mg base N x (defScope st) f cdv A outer s0 H E).nox (defBody st) (tS K none mg (fun _ _ _ _ => False) s)) : Cal P w K mg base x (k + 1) n ks (fBody N.length ks s) := by
  obtain ⟨f, fd, h1, F⟩ := F
  exact ⟨f, fd, ps, h1, F.kp, F.binds hb, fn_ok F Sc hn fun cdv A outer s0 H E hr => hbody f cdv A outer s0 H E hr⟩
theorem law_mk {x : Str} {st : Stmt} {N ps : List Str} {k n : Nat} {ks : List Nat} {s : S} {f : Addr} {fd : FuncData} (F : Fun K x x st f fd) (Sc : FnScope N ps (defScope st)) (hn : ps.length = n)
    (hbody : ∀ (f : Addr) (cdv : Value) (A : Around) (outer : List PySem.Env) (s0 : Shared) (H : Hp) (E : XK), Room k (A.deeper (PyProof.Rows.envOfC x (defScope st) s0.heap.objs.size f cdv)) →
      PSs (cxOf CX0 P w K mg base N x (defScope st) f cdv A outer s0 H E).nox (defBody st) (tS K none mg (fun _ _ _ _ => False) s)) : FnOk P w K mg base CX0 (k + 1) f fd ps (spM K n ks (fBody N.length ks s)) :=
  fn_ok F Sc hn fun cdv A outer s0 H E hr => hbody f cdv A outer s0 H E hr
/-- a def that may raise, by name -/
def CalX (P : Program) (w : World) (K : PySem.W.Frag) (mg : Str → Option Value) (base : Heap) (x : Str) (k n : Nat) (fn : Fn) : Prop := ∃ f fd ps, mg x = some (.ref f) ∧ PySem.W.keepIn K (.ref f) = true ∧ Binds K fd ps [] ∧ FnOk P w K mg base (L2N.CX P w) k f fd ps (spX K mg n fn)
theorem calX_mk {x : Str} {st : Stmt} {N ps : List Str} {k n : Nat} {s : S} (F : FunAt K mg x st) (Sc : FnScope N ps (defScope st)) (hn : ps.length = n)
    (hb : ∀ (kV doc pm : Value) (an : Option Addr) (cdv ct : Value) (us : List Value), us.length = ps.length → bindArgs (PySem.W.fnOf x x (defArgs st) (defBody st) (defScope st) .none kV doc pm an cdv ct) ⟨us, []⟩ = pure (ps.zip us))
    (hbody : ∀ (f : Addr) (cdv : Value) (A : Around) (outer : List PySem.Env) (s0 : Shared) (H : Hp) (E : XK), Room k (A.deeper (PyProof.Rows.envOfC x (defScope st) s0.heap.objs.size f cdv)) →
      PSs (cxOf (L2N.CX P w) P w K mg base N x (defScope st) f cdv A outer s0 H E) (defBody st) (tS K none mg (fun cls d _ H' => E cls d H') s)) : CalX P w K mg base x (k + 1) n (fBody N.length [] s) := by
  obtain ⟨f, fd, h1, F⟩ := F
  exact ⟨f, fd, ps, h1, F.kp, F.binds hb, fn_okX F Sc hn fun cdv A outer s0 H E hr => hbody f cdv A outer s0 H E hr⟩
/-- the law -/
def spLaw (K : PySem.W.Frag) : Sp := fun vs H Q _ => ∃ (a : Addr) (ns : List Int), vs = [.ref a] ∧ SqL K H a (ns.map V.int) ∧ ns.length ≤ 63 ∧ ∀ H', Q (.bl true) H'
theorem law_sp {fn : Fn} (h : ∀ ns : List Int, ns.length ≤ 63 → fn [.scr ns] = .ok (.val (.bool true), [])) (vs : List V) (H : Hp) (Q : VK) (E : XK) (q : spLaw K vs H Q E) : spM K 1 [] fn vs H Q E := by
  obtain ⟨a, ns, rfl, hS, hl, q⟩ := q
  refine ⟨H, fun _ => none, fun _ => none, [.scr ns], _, [], rfl, ⟨rfl, same_refl H, fun b u z => (by cases z), fun b u z => (by cases z), fun i o w e1 e2 => ?_, fun i j x y p e1 e2 m1 => ?_, fun i p z => (by cases z), fun a us z => (by cases z)⟩, h ns hl, fun v H' G' ζ' σ' env' s R' eo hv => ?_⟩
  · cases i with
    | zero => cases e1; cases e2; exact ⟨a, rfl, hS⟩
    | succ i => cases e1
  · cases i with
    | zero => cases e1; cases m1
    | succ i => cases e1
  · cases (show Rp K G' v (.bool true) from hv)
    exact q H'
theorem walk {l : PySem.W.OpenLaw} {q : Program} {loose : List Str} {XP : (Str → Option Value) → Heap → Prop} {YP : World → Heap → Prop} {d : DefRec} {K : Params → PySem.W.Frag} {k : Nat} (hr : Room k callerA) (hn : l.most = some 63) (hdf : d.params.defaults = [])
    (hY : ∀ (w : World) (h : Heap), YP w h → (K w.params).In h)
    (F : ∀ (w : World) (mg : Str → Option Value) (fa : Addr) (h : Heap), (K w.params).In h → h.Ns mainGlobals mg → mg d.name = some (.ref fa) →
      ∃ fd : FuncData, (∀ (s : Shared) (u : Value), BindsTo s fd ⟨[u], []⟩ [("script", u)]) ∧ ∀ base : Heap, (K w.params).In base → base.Ns mainGlobals mg → FnOk l.prog w (K w.params) mg base CX0 k fa fd ["script"] (spLaw (K w.params))) :
    PySem.W.WalkO q loose XP YP l.row.toRowW d [] (fun f vs => PySem.call f vs) :=
  L2.walk_of (n := 63) (k := k) (x := "script") (CX := fun _ => CX0) (sp := fun w => spLaw (K w.params)) hn (by decide) hdf hr hY F (fun _ _ a ns hl _ hS => ⟨a, ns, rfl, hS, hl, fun _ => rfl⟩) fun _ _ _ _ _ z => z
/-- what the head tells of a def -/
theorem funAt_mk {x : Str} {st : Stmt} {h : Heap} {f : Addr} {oc : Value} {od an : Option Addr} {osl : Array (Option Value)} {kV doc pm cdv ct : Value} (X : K.In h) (G : h.Ns mainGlobals mg) (a : PySem.W.nsIn K mainGlobals x = some (some (.ref f)))
    (l : K.lookup f = some ⟨oc, od, .func (PySem.W.fnOf x x (defArgs st) (defBody st) (defScope st) .none kV doc pm an cdv ct), osl⟩) (c : PySem.W.codeIn K cdv x = true) (k : PySem.W.keepIn K (.ref f) = true) : FunAt K mg x st :=
  ⟨f, _, PySem.W.mg_of X G a, fun_mk l c k⟩
end
end SE

namespace SE
open PySem L2 RZ
/-- what is never reached -/
def mStk : M := fun _ => .stuck
def sStk : S := fun _ => .stuck
theorem r_stk {X : Cx} {ζ : Option ZI} {e : Expr} : PE X e (tM X.K ζ mStk) := ⟨fun pins s σ H Q I q => by
  obtain ⟨_, _, _, _, _, _, _, h, _⟩ := q; cases h⟩
theorem rs_stk {X : Cx} {ζ : Option ZI} {W : WX} {e : Stmt} : PS X e (tS X.K ζ X.mg W sStk) := ⟨fun pins s σ H D I q => by
  obtain ⟨_, _, _, _, _, h⟩ := q; exact h.elim⟩
end SE

/-! exceptions of own classes -/
namespace SE
open PySem L2 RZ
/-! ### x = f(..), f one that may raise -/
def callX (fn : Fn) (args : List Arg) (k : O → Env → SRes) : S := fun env => ofRes (pass (args.map Arg.opd) env) fun p => match preps args p.1 with
  | some os => match fn os with
    | .ok q => k q.1 p.2
    | .exc e => .exc e p.2
    | .stuck => .stuck
  | none => .stuck
/-- only values are handed in -/
def Arg.plain : Arg → Bool
  | .v _ => true
  | _ => false
theorem plain_io : ∀ {args : List Arg} {k : Nat}, args.all Arg.plain = true → ioAt k args = []
  | [], _, _ => rfl
  | .v m :: r, k, h => plain_io (args := r) (k := k + 1) (by simpa [Arg.plain] using h)
  | .io i :: r, k, h => by simp [Arg.plain] at h
  | .sc i :: r, k, h => by simp [Arg.plain] at h
def sSetX (i : Nat) (fn : Fn) (args : List Arg) : S := callX fn args fun r e => if (e.getD i .un).pinned = true then .stuck else .next (e.set i r)
def sExprX (fn : Fn) (args : List Arg) : S := callX fn args fun _ e => .next e
section
variable {X : Cx} {ζ : Option ZI} {W : WX} {k n : Nat} {fn : Fn} {x : Str} {p pos pos' : Pos} {e : Expr} {es : List Expr} {args : List Arg}
theorem callX_ok {kk : O → Env → SRes} (hn : args.length = n) (hp : args.all Arg.plain = true) {D : Ends} {σ : St} {H : Hp} {Q : VK} (h : tS X.K ζ X.mg W (callX fn args kk) D σ H)
    (hq : ∀ G A L env r v H' , REnv X.K ζ G A L H' σ env → RVal X.K G A L H' σ env r v → SWant X.K ζ X.mg W G A L D (kk r env) → Q v H') :
    tCallS (spX X.K X.mg n fn) (WE W) (tAll X.K ζ (args.map Arg.opd)) σ H Q := by
  obtain ⟨G0, A, L, env0, R0, h⟩ := h
  unfold callX at h
  cases h1 : pass (args.map Arg.opd) env0 with
  | exc e => rw [h1] at h; exact h.elim
  | stuck => rw [h1] at h; exact h.elim
  | ok pr =>
    obtain ⟨rs, env⟩ := pr
    rw [h1] at h
    refine pass_all _ R0 h1 fun vs H1 G s1 R ops => ?_
    simp only [ofRes] at h
    split at h
    · rename_i os eos
      obtain ⟨A1, L1, AA1, vl, RC, back⟩ := call_core (by rw [plain_io hp]; exact List.nodup_nil) R ops eos
      have e0 : ∀ envc, putIO ((ioAt 0 args).map (·.2)) (outsOf ((ioAt 0 args).map (·.1)) envc) env = env := fun envc => by rw [plain_io hp]; rfl
      refine ⟨G, A1, L1, os, by rw [vl, hn], RC, ?_⟩
      cases hf : fn os with
      | ok q =>
        rw [hf] at h
        refine fun v H2 G2 ζc σc envc s2 Rc hv => ?_
        obtain ⟨R2, hv2⟩ := back G2 H2 ζc σc envc s2 Rc
        rw [e0] at R2 hv2
        exact hq G2 A L env q.1 v H2 R2 (hv2 _ _ hv) (SWant.of (s1.trans s2) h)
      | exc x =>
        rw [hf] at h
        refine fun cls d H2 G2 ζc σc envc s2 Rc hx => ?_
        obtain ⟨R2, _⟩ := back G2 H2 ζc σc envc s2 Rc
        rw [e0] at R2
        obtain ⟨C, dd, fs, x1, x2, x3, x4, x5, x6, x7⟩ := hx
        exact h cls d σ H2 G2 (s1.trans s2) R2 ⟨C, dd, fs, x1, x2, x3, x4, AA1.free x5, x6, x7⟩
      | stuck => rw [hf] at h; exact h.elim
    · exact h.elim
theorem rs_setX {i : Nat} {y : Str} (C : CalX X.prog X.w X.K X.mg X.base x k n fn) (hr : Room k X.A) (tk : L2N.Takes X W) (ha : PA X (e :: es) (tAll X.K ζ (args.map Arg.opd))) (hN : X.N.Nodup) (hi : X.N[i]? = some y) (hx : Loc X.env.scope y)
    (hn : args.length = n) (hp : args.all Arg.plain = true := by rfl) (hg : Gl X x := by rfl)
    (hdb : (x == ("__debug__" : Str)) = false := by decide) (he : starEach (e :: es) X.env = (false, eval e X.env) :: starEach es X.env := by rfl) (hpl : (backTo p (starEach es X.env)).any (·.1) = false := by rfl)
    (hs : swapsWith (.Call (.Name x pos') (e :: es) [] p) (some (.Name y pos')) pos.line X.env = pure false := by rfl) (hf : X.fn y = true ∨ X.env.scope.names.lookup y = some .local := by first | exact .inl rfl | exact .inr rfl | assumption) {pos2 : Pos}
    (hs2 : swapsWith (.Call (.Name x pos') (e :: es) [] p) (some (.Name y pos2)) pos.line X.env = pure false := by rfl) :
    PS X (.Assign [.Name y pos2] (.Call (.Name x pos') (e :: es) [] p) pos) (tS X.K ζ X.mg W (sSetX i fn args)) := by
  obtain ⟨f, fd, ps, h1, h2, h3, h4⟩ := C
  exact psw (ps_set hN hi hx (pe_callS h4 hr hg h1 h2 h3 (fun σ => L2N.passAt tk σ) ha hdb he hpl) hs2 hf) fun D σ H q => callX_ok hn hp q fun G A L env r v H' R hv h => by
    split at h
    · exact h.elim
    · rename_i hpn
      exact h _ H' G (same_refl G) (set_val R hv hpn)
end
end SE

namespace SE
open PySem L2 RZ
/-- nothing may be let out -/
theorem takes0N {X : Cx} : L2N.Takes X (fun _ _ _ _ => False) := fun _ _ ⟨_, _, _, _, _, _, _, _, _, _, _, _, _, _, _, _, w⟩ => w.elim
/-- C(e, ..), the context of what is made told to be None -/
theorem pmk_oexN {X : Cx} {CX : CXT} {x : Str} {e : Expr} {es : List Expr} {ta : TA} {p pos : Pos} {C fI : Addr} {k : Nat} {fd : FuncData} {ps : List Str} {sp : Sp} (T : OexC X.K C)
    (iC : PySem.W.findIn X.K (.ref C) "__init__" = some (some (.ref fI))) (tI : PySem.W.typeIn X.K (.ref fI) = some (.type "function")) (FI : FnOk X.prog X.w X.K X.mg X.base CX k fI fd ps sp) (room : Room (k + 1) X.A) (bs : Binds X.K fd ps [])
    (ps0 : Passes CX X (fun _ _ _ => False)) (gl : Gl X x) (gm : X.mg x = some (.ref C)) (ha : PA X (e :: es) ta) (nd : (x == ("__debug__" : Str)) = false := by decide)
    (st : starEach (e :: es) X.env = (false, eval e X.env) :: starEach es X.env := by rfl) (pl : (backTo pos (starEach es X.env)).any (·.1) = false := by rfl) : L2N.PMk X (.Call (.Name x p) (e :: es) [] pos) (tMkO C sp [] ta) := fun pins s σ H Q J0 want => by
  obtain ⟨_, _, _, _, bm, _, _, _, _, _, _, _, _, _, _, cC, cB⟩ := T.cls
  apply wpAny_Call_Name_kw (ld_glob J0 gl gm ?_ nd)
  apply PySem.W.callWith_K (h₀ := X.base) J0.ok.mod.kin T.kC ?_ st pl
  refine thn (ha.run pos pins s σ H _ J0 want) ?_
  rintro us ⟨h, gs, dr, tk, os⟩ ⟨vs, Ha, Ja, rel, lim, wa⟩
  refine ⟨Ja.kIn, ?_⟩
  show wpAny _ _ (call (.ref C) us) _ _ _
  -- the new object stands behind its tuple
  have gN : ((h.push (PySem.W.kdv_tup us)).push (PySem.HandSPX.excO C h.objs.size)).get? (h.objs.size + 1) = some (PySem.HandSPX.excO C h.objs.size) := by heap_get
  let at' : Addr := h.objs.size + 1
  let hN : Heap := (h.push (PySem.W.kdv_tup us)).push (PySem.HandSPX.excO C h.objs.size)
  have le' : h.objs.size ≤ at' := by show h.objs.size ≤ h.objs.size + 1; omega
  have wsp := wa at' (Ja.hok.fresh le')
  rw [List.append_nil] at wsp
  have keep' : ∀ b o, h.get? b = some o → hN.get? b = some o := fun b o z => Heap.get?_push_of_some _ (Heap.get?_push_of_some _ z)
  have Jb : Inv X pins σ (upd Ha at' (exo at' C none)) ⟨hN, gs, dr, tk, os⟩ := Ja.laid (h' := hN) keep' le' (exo_ok gN)
  have relN : Vals (.ref at' :: vs) (.ref at' :: us) := .cons rfl rel
  have ln : (Value.ref at' :: us ++ []).length = ps.length := by
    have := relN.length
    rw [List.append_nil, ← FI.len _ _ _ _ wsp, this]
  have bd := bs _ (Value.ref at' :: us) Jb.kIn ln
  rw [List.append_nil] at bd
  have small' : us.length ≤ sizeLine := by
    have := Paired.length rel
    rw [sizeLine_eq]; omega
  have go := FI.run _ X.stack _ _ ⟨Value.ref at' :: us, []⟩ _ _ _ (fun _ _ _ => False) (room.make C us []) (Jb.env0.make C us []) bd relN wsp
  refine wpAny_call (PySem.HandSPX.call_own F.excBase_ValueError (fun Y => PySem.HandSPX.refsVE_contains Y bm cB) (Ja.kIn _ _ cC) (PySem.W.looks_findIn Ja.kIn iC) (fun z => PySem.W.bind_fn Ja.kIn z tI) small' (codeAny_mono go ?_))
  rintro (er | fl) ⟨h2, gs2, dr2, tk2, os2⟩ res
  · exact ps0 pins σ _ _ er _ Jb res
  · match fl, res with
    | .ret u, res =>
      obtain ⟨v, Hc, eos, bare, unr, hk, rv, ev, d, fs, ea, ed, free, wq⟩ := res
      subst ev
      obtain ⟨t0, Gp, Jc, kG, none', got, na⟩ := mk_end0 (d2 := dr2) (t2 := tk2) Ja le' keep' unr hk eos bare ea ed free
      exact ⟨rv, at', _, _, ⟨Gp, gs2, dr2, tk2, os2⟩, _, .ref C, some d, rfl, Jc, kG, none', got, ⟨rfl, rfl, fun q hq => by cases hq; rfl⟩, rfl, rfl, na, rfl, bare, raises_own T.exC T.tyC, wq⟩
    | .next, res => exact res.elim
    | .brk, res => exact res.elim
    | .cont, res => exact res.elim
/-! ### raise C(..) -/
inductive RFl (K : PySem.W.Frag) (G : Hp) : List (Str × V) → List (Str × D) → Prop
  | nil : RFl K G [] []
  | cons {f : Str} {v : V} {d : D} {fs : List (Str × V)} {es : List (Str × D)} : Rp K G v d → RFl K G fs es → RFl K G ((f, v) :: fs) ((f, d) :: es)
theorem RFl.app {K : PySem.W.Frag} {G : Hp} {fs fs' : List (Str × V)} {es es' : List (Str × D)} (h : RFl K G fs es) (k : RFl K G fs' es') : RFl K G (fs ++ fs') (es ++ es') := by
  induction h with
  | nil => exact k
  | cons h1 _ ih => exact .cons h1 ih
theorem RFl.rev {K : PySem.W.Frag} {G : Hp} {fs : List (Str × V)} {es : List (Str × D)} (h : RFl K G fs es) : RFl K G fs.reverse es.reverse := by
  induction h with
  | nil => exact .nil
  | cons h1 _ ih => rw [List.reverse_cons, List.reverse_cons]; exact ih.app (.cons h1 .nil)
theorem RFl.zip {K : PySem.W.Frag} {G : Hp} : ∀ {ns : List Str} {vs : List V} {ds : List D}, RpAll K G vs ds → RFl K G (ns.zip vs) (ns.zip ds)
  | [], _, _, _ => .nil
  | n :: ns, _, [], h => by cases h; exact .nil
  | n :: ns, _, d :: ds, h => by
    cases h with
    | cons h1 h2 => exact .cons h1 (RFl.zip h2)
theorem RFl.look {K : PySem.W.Frag} {G : Hp} {fs : List (Str × V)} {es : List (Str × D)} (h : RFl K G fs es) : RFs K G fs es := by
  induction h with
  | nil => intro f x h; cases h
  | @cons g v d fs es h1 _ ih =>
    intro f x hx
    rw [List.lookup_cons] at hx ⊢
    cases e : f == g with
    | true => rw [e] at hx; cases hx; exact ⟨v, rfl, h1⟩
    | false => rw [e] at hx; exact ih f x hx
/-- what __init__ of a class of errors does: its arguments become the fields -/
def spI (C : Addr) (names : List Str) : Sp := fun vs H Q _ => ∃ a ys, vs = .ref a :: ys ∧ ys.length = names.length ∧ H a = some (exo a C none) ∧
  ∀ H2 d, H2 a = some (exo a C (some d)) → H2 d = some (exd d (names.zip ys).reverse) → H d = none → d ≠ a → (∀ b, b ≠ a → b ≠ d → H2 b = H b) → Q .non H2
/-- a class of errors that may be made -/
def ClsX (P : Program) (w : World) (K : PySem.W.Frag) (mg : Str → Option Value) (base : Heap) (c : Str) (names : List Str) : Prop := ∃ (C fI : Addr) (fd : FuncData), mg c = some (.ref C) ∧ OexC K C ∧ PySem.W.findIn K (.ref C) "__init__" = some (some (.ref fI)) ∧
  PySem.W.typeIn K (.ref fI) = some (.type "function") ∧ FnOk P w K mg base CX0 1 fI fd ("self" :: names) (spI C names) ∧ Binds K fd ("self" :: names) []
def sRaise (c : Str) (names : List Str) (os : List Opd) : S := fun env => ofRes (pass os env) fun p => match allV p.1 with
  | some ds => if ds.length = names.length then .exc ⟨c, (names.zip ds).reverse⟩ p.2 else .stuck
  | none => .stuck
section
variable {X : Cx} {ζ : Option ZI} {W : WX} {c : Str} {names : List Str} {p pos pos2 : Pos} {e : Expr} {es : List Expr} {os : List Opd} {k : Nat}
theorem rs_raise (C : ClsX X.prog X.w X.K X.mg X.base c names) (hr : Room k X.A) (h2 : 2 ≤ k) (hc : X.calm = true) (tk : L2N.Takes X W) (ha : PA X (e :: es) (tAll X.K ζ os)) (hl : names.length ≤ 900 := by decide) (hg : Gl X c := by rfl)
    (hdb : (c == ("__debug__" : Str)) = false := by decide) (he : starEach (e :: es) X.env = (false, eval e X.env) :: starEach es X.env := by rfl) (hpl : (backTo pos (starEach es X.env)).any (·.1) = false := by rfl) :
    PS X (.Raise (some (.Call (.Name c p) (e :: es) [] pos)) none pos2) (tS X.K ζ X.mg W (sRaise c names os)) := by
  obtain ⟨C, fI, fd, h1, T, iC, tI, F, B⟩ := C
  refine psw (L2N.ps_raise hc tk (pmk_oexN (k := 1) T iC tI F (hr.mono h2) B pass0 hg h1 ha hdb he hpl)) fun D σ H q => ?_
  obtain ⟨G, A, L, env, R, q⟩ := q
  unfold sRaise at q
  cases h3 : pass os env with
  | exc x => rw [h3] at q; exact q.elim
  | stuck => rw [h3] at q; exact q.elim
  | ok pr =>
    obtain ⟨rs, e2⟩ := pr
    rw [h3] at q
    refine pass_all _ R h3 fun vs H1 G1 s1 R1 ops => ?_
    simp only [ofRes] at q
    split at q
    · rename_i ds eds
      split at q
      · rename_i hlen
        have rv := allV_ok R1 ops eds
        have vl : vs.length = ds.length := rv.length
        refine ⟨by omega, fun a ha1 => ?_⟩
        rw [List.append_nil]
        refine ⟨a, vs, rfl, by omega, upd_same, fun H2 d e1 e2 e3 e4 e5 => ?_⟩
        have hd1 : H1 d = none := by rw [upd_ne e4] at e3; exact e3
        refine ⟨rfl, d, _, e1, e2, hd1, ?_⟩
        have eH : upd (del H2 a) d (.xd (names.zip vs).reverse) = upd H1 d (.xd (names.zip vs).reverse) := by
          funext b
          by_cases hb : b = d
          · subst hb; rw [upd_same, upd_same]
          · rw [upd_ne hb, upd_ne hb]
            by_cases hba : b = a
            · subst hba; rw [del_same, ha1]
            · rw [del_ne hba, e5 b hba hb, upd_ne hba]
        rw [eH]
        exact q (.ref C) (some d) σ _ G1 s1 (R1.lay0 hd1 _) ⟨C, d, _, rfl, h1, rfl, upd_same, R1.ah.free hd1, R1.gh.free hd1, (RFl.zip rv).rev.look⟩
      · exact q.elim
    · exact q.elim
end
section
variable {P : Program} {w : World} {K : PySem.W.Frag} {mg : Str → Option Value} {base : Heap}
/-- an __init__ that stores one field -/
theorem init1 {f qual : Str} {st : Stmt} {C fI : Addr} {fd : FuncData} (F : Fun K "__init__" qual st fI fd) (Sc : FnScope ["self", f] ["self", f] (defScope st)) (T : OexC K C) (hno : PySem.W.findIn K (.ref C) f = some none)
    (hb : ∀ (cdv : Value) (A : Around) (outer : List PySem.Env) (s0 : Shared) (H : Hp) (E : XK), PSs (cxOf CX0 P w K mg base ["self", f] qual (defScope st) fI cdv A outer s0 H E).nox (defBody st) (tOst K f (tVar 0) (tVar 1))) :
    FnOk P w K mg base CX0 1 fI fd ["self", f] (spI C [f]) := by
  refine F.ok Sc (fun vs H Q E h => ?_) fun cdv A outer s0 H vs Q E hr h => ⟨_, hb cdv A outer s0 H E, ?_⟩
  · obtain ⟨a, ys, rfl, hl, _⟩ := h
    simp at hl ⊢; exact hl
  · obtain ⟨a, ys, rfl, hl, ha, q⟩ := h
    obtain ⟨y, rfl⟩ : ∃ y, ys = [y] := by
      match ys, hl with
      | [y], _ => exact ⟨y, rfl⟩
    refine ⟨y, rfl, .ref a, rfl, a, C, rfl, T, hno, .inl ⟨ha, fun dx hd hne => ?_⟩⟩
    refine q _ dx upd_same ?_ hd hne fun b h1 h2 => ?_
    · rw [upd_ne hne, upd_same]; rfl
    · rw [upd_ne h1, upd_ne h2]
/-- .. two -/
theorem init2 {f g qual : Str} {st : Stmt} {C fI : Addr} {fd : FuncData} (F : Fun K "__init__" qual st fI fd) (Sc : FnScope ["self", f, g] ["self", f, g] (defScope st)) (T : OexC K C) (hno : PySem.W.findIn K (.ref C) f = some none) (hno2 : PySem.W.findIn K (.ref C) g = some none)
    (hb : ∀ (cdv : Value) (A : Around) (outer : List PySem.Env) (s0 : Shared) (H : Hp) (E : XK), PSs (cxOf CX0 P w K mg base ["self", f, g] qual (defScope st) fI cdv A outer s0 H E).nox (defBody st) (tSeq (tOst K f (tVar 0) (tVar 1)) (tOst K g (tVar 0) (tVar 2)))) :
    FnOk P w K mg base CX0 1 fI fd ["self", f, g] (spI C [f, g]) := by
  refine F.ok Sc (fun vs H Q E h => ?_) fun cdv A outer s0 H vs Q E hr h => ⟨_, hb cdv A outer s0 H E, ?_⟩
  · obtain ⟨a, ys, rfl, hl, _⟩ := h
    simp at hl ⊢; exact hl
  · obtain ⟨a, ys, rfl, hl, ha, q⟩ := h
    obtain ⟨y, z, rfl⟩ : ∃ y z, ys = [y, z] := by
      match ys, hl with
      | [y, z], _ => exact ⟨y, z, rfl⟩
    refine ⟨y, rfl, .ref a, rfl, a, C, rfl, T, hno, .inl ⟨ha, fun dx hd hne => ?_⟩⟩
    refine ⟨z, rfl, .ref a, rfl, a, C, rfl, T, hno2, .inr ⟨dx, [(f, y)], upd_same, by rw [upd_ne hne, upd_same], by simp, ?_⟩⟩
    refine q _ dx ?_ upd_same hd hne fun b h1 h2 => ?_
    · rw [upd_ne (Ne.symm hne), upd_same]
    · rw [upd_ne h2, upd_ne h1, upd_ne h2]
end
end SE

namespace SE
open PySem L2 RZ
/-! ### try: .. except C as e: .. -/
def O.isX : O → Bool
  | .exn _ => true
  | _ => false
def chkX (i : Nat) (env : Env) (r : Env → SRes) : SRes := if ((env.set i .un).any O.isX) = true then .stuck else r (env.set i .un)
def endX (i : Nat) : SRes → SRes
  | .next e => chkX i e .next
  | .brk e => chkX i e .brk
  | .cont e => chkX i e .cont
  | .ret r e => chkX i e (.ret r)
  | _ => .stuck
def sTry (known : List (Str × Bool)) (i : Nat) (body suite : S) : S := fun env => match body env with
  | .exc x e => match known.lookup x.cls with
    | some true => if (e.getD i .un).pinned = true then .stuck else endX i (suite (e.set i (.exn x)))
    | some false => .exc x e
    | none => .stuck
  | r => r
section
variable {K : PySem.W.Frag} {ζ : Option ZI} {G A : Hp} {L : Nat → Option Addr} {H : Hp} {σ : St} {env : Env}
/-- an exception's dict stands beside -/
theorem amb_x {dd : Addr} {fs : List (Str × V)} (R : REnv K ζ G A L H σ env) (hd : H dd = some (.xd fs)) (gd : G dd = none) (ad : A dd = none) : REnv K ζ G (upd A dd (.xd fs)) L H σ env := by
  refine ⟨R.len, R.gh, fun b u z => ?_, fun b u z => ?_, fun i x w e1 e2 => ?_, R.inj, R.lp, tuA R.tu (fun vs z => by cases z)⟩
  · by_cases hb : b = dd
    · subst hb; rw [upd_same] at z; cases z; exact hd
    · rw [upd_ne hb] at z; exact R.ah _ _ z
  · by_cases hb : b = dd
    · subst hb; exact gd
    · rw [upd_ne hb] at z; exact R.ag _ _ z
  · have q := R.sl i x w e1 e2
    match x, q with
    | .un, _ => trivial
    | .tpl _, _ => trivial
    | .val d, q => exact q
    | .own ys, q =>
      obtain ⟨p', vs', e3, e4, e5, e6, q⟩ := q
      have hb : p' ≠ dd := fun z => by rw [z, hd] at e4; cases e4
      exact ⟨p', vs', e3, e4, e5, by rw [upd_ne hb]; exact e6, q⟩
    | .dct tk ys, q =>
      obtain ⟨p', vs', e3, e4, e5, e6, q⟩ := q
      have hb : p' ≠ dd := fun z => by rw [z, hd] at e4; exact rpd_xd q _ (Option.some.inj e4).symm
      exact ⟨p', vs', e3, e4, e5, by rw [upd_ne hb]; exact e6, q⟩
    | .pin true ys, q =>
      obtain ⟨p', vs', e0, e3, e4, e5, e6, q⟩ := q
      have hb : p' ≠ dd := fun z => by rw [z, hd] at e4; cases e4
      exact ⟨p', vs', e0, e3, e4, e5, by rw [upd_ne hb]; exact e6, q⟩
    | .pin false ys, q =>
      obtain ⟨p', vs', e0, e3, e4, q⟩ := q
      have hb : p' ≠ dd := fun z => by rw [z, ad] at e4; cases e4
      exact ⟨p', vs', e0, e3, by rw [upd_ne hb]; exact e4, q⟩
    | .scr ns, q => exact q
    | .exn x, q =>
      obtain ⟨zi, C, d2, fs2, z1, z2, z3, z4, z5, z6, z7⟩ := q
      have hb : d2 ≠ dd := fun z => by rw [z, ad] at z6; cases z6
      exact ⟨zi, C, d2, fs2, z1, z2, z3, z4, z5, by rw [upd_ne hb]; exact z6, z7⟩
/-- it goes -/
theorem out_x {dd : Addr} {fs : List (Str × V)} (ad : A dd = none) (R : REnv K ζ G (upd A dd (.xd fs)) L H σ env) (hx : env.any O.isX = false) : REnv K none G A L H σ env := by
  have hA : Same A (upd A dd (.xd fs)) := lay_same ad _
  have an : ∀ {b : Addr}, upd A dd (.xd fs) b = none → A b = none := fun z => hA.free z
  refine ⟨R.len, R.gh, fun b u z => R.ah _ _ (hA _ _ z), fun b u z => R.ag _ _ (hA _ _ z), fun i x w e1 e2 => ?_, R.inj, R.lp, fun a us z => R.tu a us (hA _ _ z)⟩
  have q := R.sl i x w e1 e2
  match x, q with
  | .un, _ => trivial
  | .tpl _, _ => trivial
  | .val d, q => exact q
  | .own ys, q =>
    obtain ⟨p', vs', e3, e4, e5, e6, q⟩ := q
    exact ⟨p', vs', e3, e4, e5, an e6, q⟩
  | .dct tk ys, q =>
    obtain ⟨p', vs', e3, e4, e5, e6, q⟩ := q
    exact ⟨p', vs', e3, e4, e5, an e6, q⟩
  | .pin true ys, q =>
    obtain ⟨p', vs', e0, e3, e4, e5, e6, q⟩ := q
    exact ⟨p', vs', e0, e3, e4, e5, an e6, q⟩
  | .pin false ys, q =>
    obtain ⟨p', vs', e0, e3, e4, q⟩ := q
    have hb : p' ≠ dd := fun z => by rw [z, upd_same] at e4; cases e4
    rw [upd_ne hb] at e4
    exact ⟨p', vs', e0, e3, e4, q⟩
  | .scr ns, q => exact q
  | .exn x, q =>
    have hm : O.exn x ∈ env := List.mem_of_getElem? e1
    have := List.any_eq_false.mp hx _ hm
    exact absurd rfl this
end
section
variable {X : Cx} {Wout : WX} {x n : Str} {c : Value} {i : Nat} {body suite : List Stmt} {b₀ : Stmt} {np pos pos' : Pos} {sb ss : S} {known : List (Str × Bool)}
theorem rs_try (hs : X.stack = X.env :: X.outer) (hf : X.env.frame = some X.env.locals) (hN : X.N.Nodup) (hi : X.N[i]? = some n) (hln : X.env.kindOf n = some .local) (hc : Names X x c) (tk : L2N.Takes X Wout)
    (hk : ∀ m b C, known.lookup m = some b → X.mg m = some (.ref C) → PySem.W.exmOne X.K (.ref C) c = some b)
    (hb : ∀ (W : WX) (pn : List (Addr × Obj)) (xe : Value → Shared → Prop), L2N.Takes (X.tr pn xe) W → PassesOwn (model X.prog X.w) X.A X.env xe → PSs (X.tr pn xe) body (tS X.K none X.mg W sb))
    (hsu : ∀ (a : Addr) (oe : Obj) (cls : Value) (d : Option Addr) (pn : List (Addr × Obj)), Zc cls d oe → (∃ vs, oe.data = .fields vs) → L2H.HotC (X.suite a ((a, oe) :: pn)) → PSs (X.suite a ((a, oe) :: pn)) (b₀ :: suite) (tS X.K (some ⟨a, cls, d, X.mg⟩) X.mg (fun _ _ _ _ => False) ss)) :
    PS X (.Try body [.ExceptHandler (some (.Name x np)) (some n) (b₀ :: suite) pos'] [] [] pos) (tS X.K none X.mg Wout (sTry known i sb ss)) :=
  psw (L2N.ps_try_as (tb := fun W => tS X.K none X.mg W sb) (ts := fun a cls d => tS X.K (some ⟨a, cls, d, X.mg⟩) X.mg (fun _ _ _ _ => False) ss) hs hf hN hi hln hc tk hb fun a oe cls d pn hz ⟨vs, hv⟩ => hsu a oe cls d pn hz.zc ⟨vs, hv⟩ ⟨(a, oe), ⟨rfl, vs, hv, hz.2.2 vs hv⟩, List.mem_cons_self⟩) fun D σ H q => by
    obtain ⟨G, A, L, env, R, q⟩ := q
    refine ⟨G, A, L, env, R, ?_⟩
    unfold sTry at q
    cases hbd : sb env with
    | next e => rw [hbd] at q; exact q
    | ret r e => rw [hbd] at q; exact q
    | brk e => rw [hbd] at q; exact q
    | cont e => rw [hbd] at q; exact q
    | stuck => rw [hbd] at q; exact q
    | exc ex e =>
      rw [hbd] at q
      simp only at q
      intro cls d σ1 H1 G1 s1 R1 hx
      obtain ⟨C, dd, fs, x1, x2, x3, x4, x5, x6, x7⟩ := id hx
      cases hl : known.lookup ex.cls with
      | none => rw [hl] at q; exact q.elim
      | some b =>
        rw [hl] at q
        refine ⟨b, by rw [x1]; exact hk _ _ _ hl x2, fun hbt a ha => ?_, fun hbf => ?_⟩
        · subst hbt
          simp only at q
          split at q
          · exact q.elim
          · rename_i hpn
            have hpn' : ∀ o, e[i]? = some o → o.pinned = false := fun o ho => by
              rw [List.getD_eq_getElem?_getD, ho] at hpn
              simpa using hpn
            have hLi : L i = none := by
              cases hq : L i with
              | none => rfl
              | some p =>
                obtain ⟨w, xs, h1⟩ := R1.lp i p hq
                have := hpn' _ h1
                cases this
            have R2 : REnv X.K (some ⟨a, cls, d, X.mg⟩) G1 (upd A dd (.xd fs)) L H1 (σ1.set i (some (.ref a))) (e.set i (.exn ex)) :=
              set_slot (amb_x R1.any x4 x6 x5) ⟨⟨a, cls, d, X.mg⟩, C, dd, fs, rfl, rfl, x1, x2, x3, upd_same, x7⟩ hpn' rfl (fun z => by cases z)
            refine ⟨G1, upd A dd (.xd fs), L, _, R2, ?_⟩
            have back : ∀ {σ2 : St} {H2 G2 : Hp} {e2 : Env}, REnv X.K (some ⟨a, cls, d, X.mg⟩) G2 (upd A dd (.xd fs)) L H2 σ2 e2 → ((e2.set i .un).any O.isX) = false → REnv X.K none G2 A L H2 (σ2.set i none) (e2.set i .un) := fun {σ2 H2 G2 e2} R3 hno => by
              refine out_x x5 (set_slot R3 (o := .un) (w := none) trivial (fun o ho => ?_) rfl (fun z => by cases z)) hno
              have hil : i < σ2.length := by rw [← R3.len]; exact (List.getElem?_eq_some_iff.mp ho).1
              have qs := R3.sl i o σ2[i] ho (by simp [hil])
              match o, qs with
              | .un, _ => rfl
              | .tpl _, _ => rfl
              | .val d, _ => rfl
              | .own xs, _ => rfl
              | .dct tk xs, _ => rfl
              | .scr ns, _ => rfl
              | .exn y, _ => rfl
              | .pin true xs, qs => obtain ⟨p', us, l, _⟩ := qs; rw [hLi] at l; cases l
              | .pin false xs, qs => obtain ⟨p', us, l, _⟩ := qs; rw [hLi] at l; cases l
            cases hss : ss (e.set i (.exn ex)) with
            | next e2 =>
              rw [hss] at q
              simp only [endX, chkX] at q
              split at q
              · exact q.elim
              · rename_i hno
                exact fun σ2 H2 G2 s2 R3 => q _ H2 G2 (s1.trans s2) (back R3 (by simpa using hno))
            | brk e2 =>
              rw [hss] at q
              simp only [endX, chkX] at q
              split at q
              · exact q.elim
              · rename_i hno
                exact fun σ2 H2 G2 s2 R3 => q _ H2 G2 (s1.trans s2) (back R3 (by simpa using hno))
            | cont e2 =>
              rw [hss] at q
              simp only [endX, chkX] at q
              split at q
              · exact q.elim
              · rename_i hno
                exact fun σ2 H2 G2 s2 R3 => q _ H2 G2 (s1.trans s2) (back R3 (by simpa using hno))
            | ret r e2 =>
              rw [hss] at q
              simp only [endX, chkX] at q
              split at q
              · exact q.elim
              · rename_i hno
                refine fun v σ2 H2 G2 s2 R3 hv => q v _ H2 G2 (s1.trans s2) (back R3 (by simpa using hno)) ?_
                have hv2 := RVal.weakA (lay_same x5 _) hv
                match r, hv2 with
                | .val d, hv2 => exact hv2
                | .own xs, hv2 =>
                  obtain ⟨p', us, f1, f2, f3, f4, f5, f6, f7⟩ := hv2
                  refine ⟨p', us, f1, f2, f3, f4, f5, fun j o eo m z => ?_, f7⟩
                  by_cases hj : j = i
                  · subst hj
                    have hl2 : j < e2.length := by
                      have := (List.getElem?_eq_some_iff.mp eo).1
                      rwa [List.length_set] at this
                    rw [List.getElem?_set_self hl2] at eo
                    cases eo
                    cases m
                  · rw [List.getElem?_set_ne (Ne.symm hj)] at eo z
                    exact f6 j o eo m z
                | .dct tk xs, hv2 =>
                  obtain ⟨p', us, f1, f2, f3, f4, f5, f6, f7⟩ := hv2
                  refine ⟨p', us, f1, f2, f3, f4, f5, fun j o eo m z => ?_, f7⟩
                  by_cases hj : j = i
                  · subst hj
                    have hl2 : j < e2.length := by
                      have := (List.getElem?_eq_some_iff.mp eo).1
                      rwa [List.length_set] at this
                    rw [List.getElem?_set_self hl2] at eo
                    cases eo
                    cases m
                  · rw [List.getElem?_set_ne (Ne.symm hj)] at eo z
                    exact f6 j o eo m z
                | .tpl ds, hv2 =>
                  obtain ⟨a, vs, e1, e2', hp⟩ := hv2
                  refine ⟨a, vs, e1, e2', hp.mapL fun p' us _ hl => ?_⟩
                  obtain ⟨f3, f4, f6, f7⟩ := hl
                  refine ⟨f3, f4, fun j o eo m z => ?_, f7⟩
                  by_cases hj : j = i
                  · subst hj
                    have hl2 : j < e2.length := by
                      have := (List.getElem?_eq_some_iff.mp eo).1
                      rwa [List.length_set] at this
                    rw [List.getElem?_set_self hl2] at eo
                    cases eo
                    cases m
                  · rw [List.getElem?_set_ne (Ne.symm hj)] at eo z
                    exact f6 j o eo m z
            | exc y e2 => rw [hss] at q; exact q.elim
            | stuck => rw [hss] at q; exact q.elim
        · subst hbf
          exact q cls d σ1 H1 G1 s1 R1 hx
end
/-! ### what is asked of the exception that is held -/
def mIsE (i : Nat) (known : List (Str × Bool)) : M := fun env => match env.getD i .un with
  | .exn x => match known.lookup x.cls with
    | some b => .ok (.val (.bool b), env)
    | none => .stuck
  | _ => .stuck
def mFld (i : Nat) (f : Str) (known : List Str) : M := fun env => match env.getD i .un with
  | .exn x => if known.contains x.cls = true then match x.fs.lookup f with
      | some d => .ok (.val d, env)
      | none => .stuck
    else .stuck
  | _ => .stuck
/-- what the head tells of a class whose instances are asked -/
structure ExcF (K : PySem.W.Frag) (C : Addr) : Prop where
  ga : PySem.W.findIn K (.ref C) "__getattribute__" = some (some (.builtin "BaseException.__getattribute__"))
  gg : PySem.W.findIn K (.ref C) "__getattr__" = some none
  sb : PySem.W.subIn K (.ref C) (.type "BaseException") = some true
  hd : PySem.W.hasDictIn K C = true
  ha : PySem.W.findIn K (.ref C) "__class__" = some (some (.builtin "object.__class__"))
  hn : PySem.W.specialIn K (.builtin "object.__class__") "__get__" = some (some (.builtin "getset_descriptor.__get__"))
  ht : PySem.W.takesIn K (.builtin "object.__class__") = some true
  hm : PySem.W.mroIn K C (.type "object") = some true
  cl : (PySem.W.clsIn K C).isSome = true
section
variable {X : Cx} {a : Addr} {oe : Obj} {cls : Value} {d : Option Addr} {pn : List (Addr × Obj)} {i : Nat} {e : Expr} {p p2 pos : Pos} {f : Str}
theorem slot_x {K : PySem.W.Frag} {zi : ZI} {G A : Hp} {L : Nat → Option Addr} {H : Hp} {σ : St} {env : Env} (R : REnv K (some zi) G A L H σ env) {i : Nat} {x : Exn} (h : env.getD i .un = .exn x) :
    σ[i]? = some (some (.ref zi.a)) ∧ ∃ C dd fs, zi.cls = .ref C ∧ zi.mg x.cls = some (.ref C) ∧ zi.d = some dd ∧ H dd = some (.xd fs) ∧ RFs K G fs x.fs := by
  have e := getD_some h rfl
  have hi : i < σ.length := by rw [← R.len]; exact (List.getElem?_eq_some_iff.mp e).1
  obtain ⟨zi', C, dd, fs, z1, z2, z3, z4, z5, z6, z7⟩ := R.sl i _ σ[i] e (by simp [hi])
  cases z1
  exact ⟨by rw [← z2]; simp [hi], C, dd, fs, z3, z4, z5, R.ah _ _ z6, z7⟩
theorem r_fld {known : List Str} (hF : ∀ m C, m ∈ known → X.mg m = some (.ref C) → PySem.W.findIn X.K (.ref C) f = some none ∧ XfC X.K C) (hz : Zc cls d oe) (hf : ∃ vs, oe.data = .fields vs) (he : PE (X.suite a ((a, oe) :: pn)) e (tVar i)) (hb : attributeBase e f X.env (eval e X.env) = eval e X.env := by rfl) :
    PE (X.suite a ((a, oe) :: pn)) (.Attribute e f pos) (tM X.K (some ⟨a, cls, d, X.mg⟩) (mFld i f known)) := ⟨fun pins s σ H Q I h => by
  obtain ⟨G, A, L, env, r, env', R, em, q⟩ := h
  unfold mFld at em
  split at em
  · rename_i x hx
    split at em
    · rename_i hkn
      split at em
      · rename_i dv hd
        cases em
        obtain ⟨hv, C, dd, fs, x1, x2, x3, x4, x5⟩ := slot_x R hx
        obtain ⟨hno, T⟩ := hF x.cls C (by simpa using hkn) x2
        obtain ⟨v, l1, l2⟩ := x5 _ _ hd
        exact (pe_xf T hno hz hf he hb).run pins s σ H Q I ⟨_, hv, rfl, x1, dd, fs, v, x3, x4, l1, q v H G (same_refl G) R l2⟩
      · cases em
    · cases em
  · cases em⟩
def rIsE2 (K : PySem.W.Frag) (a : Addr) (cls : Value) (d : Option Addr) : List V → Hp → VK → Prop := fun xs H Q => ∃ (c : V) (cv : Value) (C dd : Addr) (fs : List (Str × V)) (b : Bool), xs = [.ref a, c] ∧ (∀ u, RelV c u → u = cv) ∧ cls = .ref C ∧ d = some dd ∧ H dd = some (.xd fs) ∧ ExcF K C ∧ PySem.W.kitOne K (.ref C) cv = some b ∧ Q (.bl b) H
theorem call_isE2 (hz : Zc cls d oe) (hf : ∃ vs, oe.data = .fields vs) : CallR (X.suite a ((a, oe) :: pn)) (.builtin "isinstance") (rIsE2 X.K a cls d) := by
  intro pins s σ H xs us Q I r h
  obtain ⟨c, cv, C, dd, fs, b, rfl, hcv, rfl, rfl, hH, F, e, q⟩ := h
  cases r with
  | cons rx rr =>
    cases rr with
    | cons rt rr =>
      cases rr
      cases rx
      have ec := hcv _ rt
      subst ec
      obtain ⟨hget, _⟩ := I.pin (a, oe) (List.mem_append.mpr (.inl List.mem_cons_self))
      obtain ⟨vs, hv⟩ := hf
      have hx : ObjOk X.prog X.w H s.heap dd (.xd fs) := I.hok dd _ hH
      obtain ⟨mA, hns, _⟩ := hx
      obtain ⟨od, ho, _⟩ := lookIn_ns hns
      have J : PySem.W.InstAt s.heap a oe C (some od) := by
        obtain ⟨oc, od', oda, osl⟩ := oe
        obtain ⟨h1, h2⟩ := hz
        dsimp only at h1 h2 hv
        subst h1 h2 hv
        exact ⟨hget, rfl, rfl, ho⟩
      exact PySem.W.kia_one (PySem.W.kitx_exc F.cl F.ga F.gg F.sb F.ha F.hn F.ht F.hm) I.kIn J e (fun z => nomatch z) fun tk => ⟨.bl b, H, I.kept (t' := tk) fun _ _ z => z, rfl, q⟩
theorem r_isE {known : List (Str × Bool)} {cx : Expr} {cv : V} {cu : Value} (hk : ∀ m b C, known.lookup m = some b → X.mg m = some (.ref C) → ExcF X.K C ∧ PySem.W.kitOne X.K (.ref C) cu = some b) (hz : Zc cls d oe) (hf : ∃ vs, oe.data = .fields vs)
    (hm : X.mg "isinstance" = none) (he : PE (X.suite a ((a, oe) :: pn)) e (tVar i)) (hc : PE (X.suite a ((a, oe) :: pn)) cx (tC cv)) (hr : ∀ u, RelV cv u → u = cu) (hg : Gl X "isinstance" := by rfl) (hv : bootBuiltins "isinstance" = some (.builtin "isinstance") := by decide +kernel)
    (hs : starEach [e, cx] X.env = (false, eval e X.env) :: starEach [cx] X.env := by rfl) (hs2 : starEach [cx] X.env = (false, eval cx X.env) :: starEach [] X.env := by rfl) (hpl : (backTo pos (starEach [cx] X.env)).any (·.1) = false := by rfl) :
    PE (X.suite a ((a, oe) :: pn)) (.Call (.Name "isinstance" p) [e, cx] [] pos) (tM X.K (some ⟨a, cls, d, X.mg⟩) (mIsE i known)) :=
  pew (pe_callB (call_isE2 hz hf) hg hm hv (pa_cons he (pa_cons hc pa_nil hs2) hs) (by decide) (by decide) hs hpl) fun σ H Q h => by
    obtain ⟨G, A, L, env, r, env', R, em, q⟩ := h
    unfold mIsE at em
    split at em
    · rename_i x hx
      split at em
      · rename_i b hb
        cases em
        obtain ⟨hv2, C, dd, fs, x1, x2, x3, x4, x5⟩ := slot_x R hx
        obtain ⟨F, kb⟩ := hk _ _ _ hb x2
        exact ⟨_, hv2, cv, cu, C, dd, fs, b, rfl, hr, x1, x3, x4, F, kb, q _ H G (same_refl G) R (Rp.bl b)⟩
      · cases em
    · cases em
end
theorem look_nil {P : Addr → Bool → Prop} {mg : Str → Option Value} : ∀ m b C, ([] : List (Str × Bool)).lookup m = some b → mg m = some (.ref C) → P C b := fun _ _ _ h => by cases h
theorem look_cons {P : Addr → Bool → Prop} {mg : Str → Option Value} {n : Str} {b0 : Bool} {c : Addr} {r : List (Str × Bool)} (g : mg n = some (.ref c)) (h : P c b0) (t : ∀ m b C, r.lookup m = some b → mg m = some (.ref C) → P C b) :
    ∀ m b C, ((n, b0) :: r).lookup m = some b → mg m = some (.ref C) → P C b := fun m b C h1 h2 => by
  rw [List.lookup_cons] at h1
  cases e : m == n with
  | true =>
    rw [e] at h1
    cases h1
    have := eq_of_beq e
    subst this
    rw [g] at h2
    cases h2
    exact h
  | false => rw [e] at h1; exact t m b C h1 h2
theorem mem_nil {P : Addr → Prop} {mg : Str → Option Value} : ∀ m C, m ∈ ([] : List Str) → mg m = some (.ref C) → P C := fun _ _ h => by cases h
theorem mem_cons {P : Addr → Prop} {mg : Str → Option Value} {n : Str} {c : Addr} {r : List Str} (g : mg n = some (.ref c)) (h : P c) (t : ∀ m C, m ∈ r → mg m = some (.ref C) → P C) : ∀ m C, m ∈ n :: r → mg m = some (.ref C) → P C := fun m C h1 h2 => by
  rcases List.mem_cons.mp h1 with rfl | h1
  · rw [g] at h2; cases h2; exact h
  · exact t m C h1 h2
end SE

namespace SE
open PySem L2 RZ
/-! ### sorted(a list of whole numbers) -/
def sortI (ns : List Int) : List Int := ns.mergeSort (fun a b => decide (a ≤ b))
theorem sortI_perm (ns : List Int) : (sortI ns).Perm ns := List.mergeSort_perm _ _
theorem sortI_pw (ns : List Int) : (sortI ns).Pairwise (· ≤ ·) := by
  have := List.pairwise_mergeSort (le := fun a b : Int => decide (a ≤ b)) (fun a b c h1 h2 => by simp at *; omega) (fun a b => by simp; omega) ns
  exact this.imp (fun h => by simpa using h)
theorem sorted_uniq : ∀ {xs ys : List Int}, xs.Perm ys → xs.Pairwise (· ≤ ·) → ys.Pairwise (· ≤ ·) → xs = ys := fun h h1 h2 =>
  List.Perm.eq_of_pairwise (fun a b _ _ h1 h2 => by omega) h1 h2 h
def oSorted (x : O) : Res O := match lints x with
  | some ns => .ok (.own ((sortI ns).map .int))
  | none => .stuck
theorem sem_sorted {K : PySem.W.Frag} : Sem1 K oSorted (fun x H Q => rSortedI K [x] H Q) := by
  intro ζ G A L H σ env x rx r0 Q R hx e q
  unfold oSorted at e
  split at e
  · rename_i ns en
    cases e
    obtain ⟨p, rfl, hp⟩ := lints_ok R.gh hx en
    refine ⟨p, ns, rfl, .of hp, fun ns' p' h1 h2 h3 => ?_⟩
    have e1 : ns' = sortI ns := sorted_uniq (h1.trans (sortI_perm ns).symm) h2 (sortI_pw ns)
    rw [e1]
    exact q.lst R (rp_ints (sortI ns)) p' h3
  · cases e
/-! ### xs.insert(i, x), i not below 0 -/
def fInsert : List D → List D → Res (D × List D)
  | xs, [.int i, d] => if 0 ≤ i ∧ small i = true ∧ xs.length < 16777216 then .ok (.none, xs.take i.toNat ++ [d] ++ xs.drop i.toNat) else .stuck
  | _, _ => .stuck
def rInsert : V → List V → Hp → VK → Prop := fun x vs H Q => ∃ (l : Addr) (xs : List V) (i : Int) (y : V), x = .ref l ∧ vs = [.int i, y] ∧ H l = some (.lst xs) ∧ xs.length < sizeLine ∧ 0 ≤ i ∧ i < 2 ^ 63 ∧
    Q .non (upd H l (.lst (xs.take i.toNat ++ [y] ++ xs.drop i.toNat)))
theorem ms_insert {K : PySem.W.Frag} : MSem K fInsert rInsert := by
  intro G H p vs ws xs ds ys d Q gh hp rv rw e q
  unfold fInsert at e
  split at e
  · split at e
    · rename_i z
      cases e
      cases rw with
      | cons r1 t =>
        cases r1
        cases t with
        | cons r2 t =>
          cases t
          exact ⟨_, _, _, _, rfl, rfl, hp, by rw [rv.length, ← sl_eq]; exact z.2.2, z.1, by have := small_b z.2.1; omega, q _ _ .non (((rv.take _).app (.cons r2 .nil)).app (rv.drop _))⟩
    · cases e
  · cases e
end SE

namespace SE
open PySem L2 RZ
/-! ### x.index(y), x.count(y): x a name that holds a list -/
def mMR (i : Nat) (a : Opd) (f : O → O → Res O) : M := fun env => if (env.getD i .un).l.isSome = true then m2 f (.pk i) a env else .stuck
theorem l_live {o : O} {xs : List D} (h : o.l = some xs) : o.live = true := by
  match o, h with
  | .val _, _ => rfl
  | .own _, _ => rfl
  | .pin _ _, _ => rfl
theorem mr_ok {K : PySem.W.Frag} {ζ : Option ZI} {i : Nat} {a : Opd} {f : O → O → Res O} {r : V → List V → Hp → VK → Prop} (hf : Sem2 K f fun x y H Q => r x [y] H Q) {σ : St} {H : Hp} {Q : VK} (h : tM K ζ (mMR i a f) σ H Q) : tBM K "list" r (tVar i) (tAll K ζ [a]) σ H Q := by
  obtain ⟨G, A, L, env, r0, env', R, e, q⟩ := h
  unfold mMR at e
  split at e
  · rename_i hs
    obtain ⟨xs, hx⟩ := Option.isSome_iff_exists.mp hs
    have l := l_live hx
    obtain ⟨v, hv⟩ := live_val R l
    have rd : Rdy K G H _ v := ROp.rdy R (o := .pk i) ⟨hv, rfl⟩ l
    obtain ⟨p, vs, rfl, hp, _⟩ := rd.l R.gh hx
    refine ⟨_, hv, .inl ⟨rfl, _, .of hp⟩, ?_⟩
    obtain ⟨⟨rs, e2⟩, h1, h⟩ := bind_eq_ok e
    unfold pass at h1
    rw [if_pos l] at h1
    obtain ⟨⟨rs1, e3⟩, h2, h1⟩ := bind_eq_ok h1
    cases h1
    refine pass_all [a] R h2 fun ws H' G' s R' ops => ?_
    cases ops with
    | cons o1 t =>
      cases t
      unfold fin2 at h
      simp only at h
      split at h
      · rename_i l2
        obtain ⟨r', h3, h⟩ := bind_eq_ok h
        cases h
        have l3 := Bool.and_eq_true_iff.mp l2
        exact hf R' (ROp.rdy R' (o := .pk i) ⟨hv, rfl⟩ l3.1) (ROp.rdy R' o1 l3.2) h3 (Post.of s q)
      · cases h
  · cases e
section
variable {X : Cx} {ζ : Option ZI} {o e : Expr} {ob : Opd} {i : Nat} {name : Str} {id : String} {apos cpos : Pos} {f : O → O → Res O} {r : V → List V → Hp → VK → Prop}
theorem r_mr (slot : Slot "list" name id) (hty : typeOf (.builtin id) = pure (.type "method_descriptor")) (hm : MtR X id r) (hf : Sem2 X.K f fun x y H Q => r x [y] H Q) (ho : PE X o (tVar i)) (ha : PE X e (tOpd X.K ζ ob))
    (hbase : attributeBase o name X.env (eval o X.env) = eval o X.env := by rfl)
    (hfew : ((backTo cpos (starEach [e] X.env)).all (fun x => !x.1) && (backToKw cpos (keywordEach [] X.env)).all (fun x => x.1.isSome)
      && decide ([e].length + ([] : List Keyword).length + (if ([] : List Keyword).isEmpty then 0 else 1) < 30)) = true := by rfl)
    (hline : (apos.endLine == cpos.line) = true := by rfl)
    (hs : starEach [e] X.env = (false, eval e X.env) :: starEach [] X.env := by rfl) (hplain : (backTo cpos (starEach [] X.env)).any (·.1) = false := by rfl) : PE X (.Call (.Attribute o name apos) [e] [] cpos) (tM X.K ζ (mMR i ob f)) :=
  pew (pe_bm PySem.F.plainAttrs_list slot hty hm ho (pa_cons ha pa_nil hs) hbase hfew hline hs hplain) fun σ H Q q => mr_ok hf q
end
/-- how often a whole number stands in a list of such -/
def oCount : O → O → Res O
  | x, .val (.int k) => match lints x with
    | some ns => .ok (.val (.int (ns.count k : Nat)))
    | none => .stuck
  | _, _ => .stuck
theorem sem_count {K : PySem.W.Frag} : Sem2 K oCount fun x y H Q => rCntI K x [y] H Q := by
  intro ζ G A L H σ env x y rx ry r0 Q R hx hy e q
  unfold oCount at e
  split at e
  · split at e
    · rename_i ns en
      cases e; cases hy
      obtain ⟨p, rfl, hp⟩ := lints_ok R.gh hx en
      exact ⟨p, ns, _, rfl, rfl, .of hp, q.val R (.int _)⟩
    · cases e
  · cases e
/-- the first place of an equal one -/
def idxD (d : D) : Nat → List D → Option Nat
  | _, [] => none
  | k, z :: zs => if PyData.eqv z d = true then some k else idxD d (k + 1) zs
theorem idx_ok {d : D} : ∀ {zs : List D} {k j : Nat}, idxD d k zs = some j → k ≤ j ∧ (∃ z, zs[j - k]? = some z ∧ PyData.eqv z d = true) ∧ ∀ m z', m < j - k → zs[m]? = some z' → PyData.eqv z' d = false
  | [], k, j, h => by cases h
  | z :: zs, k, j, h => by
    unfold idxD at h
    split at h
    · rename_i hz
      cases h
      refine ⟨Nat.le_refl _, ⟨z, by simp, hz⟩, fun m z' hm => by omega⟩
    · rename_i hz
      obtain ⟨h1, ⟨w, h2, h3⟩, h4⟩ := idx_ok h
      have e : j - k = (j - (k + 1)) + 1 := by omega
      refine ⟨by omega, ⟨w, by rw [e, List.getElem?_cons_succ]; exact h2, h3⟩, fun m z' hm hz' => ?_⟩
      cases m with
      | zero => cases hz'; simpa using hz
      | succ m => exact h4 m z' (by omega) (by simpa using hz')
def oIndex (x y : O) : Res O := match x.l, y.d with
  | some xs, some d => if (SeqAt.shaped (.list xs) && SeqAt.shaped d) = true then (match idxD d 0 xs with
      | some j => .ok (.val (.int (j : Nat)))
      | none => .stuck)
    else .stuck
  | _, _ => .stuck
theorem sem_index {K : PySem.W.Frag} : Sem2 K oIndex fun x y H Q => rIndexD K x [y] H Q := by
  intro ζ G A L H σ env x y rx ry r0 Q R hx hy e q
  unfold oIndex at e
  split at e
  · rename_i xs d e1 e2
    split at e
    · rename_i hs
      split at e
      · rename_i j hj
        cases e
        have hs' := Bool.and_eq_true_iff.mp hs
        obtain ⟨p, vs, rfl, h1, h2⟩ := hx.l R.gh e1
        have hd := (hy.d R.gh e2)
        obtain ⟨_, ⟨z, z1, z2⟩, z3⟩ := idx_ok hj
        have hl : Rp K H (.ref p) (.list xs) := .lst h1 (h2.m R.gh)
        exact ⟨p, y, d, xs, j, z, rfl, rfl, Rp.dp _ _ (shaped_plain hs'.1) hl, Rp.dp _ _ (shaped_plain hs'.2) hd, hs'.1, hs'.2, by simpa using z1, z2, fun m z' hm => z3 m z' (by simpa using hm), q.val R (.int _)⟩
      · cases e
    · cases e
  · cases e
end SE
namespace SE
open PySem L2 RZ
/-! ### list(range(..)) -/
def lrg (i j : Int) : Res O := if small i = true ∧ small j = true ∧ Nat.ble (j - i).toNat 16777216 = true then .ok (.own (rng i (j - i).toNat)) else .stuck
theorem rp_rng {K : PySem.W.Frag} {G : Hp} (a : Int) : ∀ l : List Nat, RpAll K G (l.map fun i => V.int (a + (i : Nat))) (l.map fun (i : Nat) => .int (a + i))
  | [] => .nil
  | i :: l => .cons (.int _) (rp_rng a l)
def mLR1 (m : M) : M := fun env => (m env).bind fun p => match p.1 with
  | .val (.int j) => (lrg 0 j).bind fun r => .ok (r, p.2)
  | _ => .stuck
def mLR2 (a b : M) : M := fun env => (pass [.m a, .m b] env).bind fun p => match p.1 with
  | [.val (.int i), .val (.int j)] => (lrg i j).bind fun r => .ok (r, p.2)
  | _ => .stuck
theorem lrg_ok {K : PySem.W.Frag} {ζ : Option ZI} {G A : Hp} {L : Nat → Option Addr} {H : Hp} {σ : St} {env : Env} {i j : Int} {r0 : O} {Q : VK} (R : REnv K ζ G A L H σ env) (e : lrg i j = .ok r0) (q : Post K ζ G A L σ env r0 Q) : RgOk i j ∧ ∀ p, H p = none → Q (.ref p) (upd H p (.lst (rgV i j))) := by
  unfold lrg at e
  split at e
  · rename_i z
    cases e
    have h1 := small_b z.1
    have h2 := small_b z.2.1
    have h3 := Nat.le_of_ble_eq_true z.2.2
    exact ⟨⟨by omega, by omega, by omega, by omega, h3⟩, q.lst R (rp_rng i _)⟩
  · cases e
section
variable {X : Cx} {ζ : Option ZI} {a b : Expr} {ma mb : M} {p p2 pos pos2 : Pos}
theorem r_lr1 (hc : X.calm = true) (hm : X.mg "list" = none) (hm2 : X.mg "range" = none) (ha : PE X a (tM X.K ζ ma)) (hg : Gl X "list" := by rfl) (hg2 : Gl X "range" := by rfl) (na : starEach [a] X.env = (false, eval a X.env) :: starEach [] X.env := by rfl)
    (nb : starEach [.Call (.Name "range" p2) [a] [] pos2] X.env = (false, eval (.Call (.Name "range" p2) [a] [] pos2) X.env) :: starEach [] X.env := by rfl) : PE X (.Call (.Name "list" p) [.Call (.Name "range" p2) [a] [] pos2] [] pos) (tM X.K ζ (mLR1 ma)) :=
  pew (pe_listRg hc hg hm (prg_1 hg2 hm2 ha na) nb) fun σ H Q h => by
    obtain ⟨G, A, L, env, r0, env', R, e, q⟩ := h
    obtain ⟨⟨r, e1⟩, h1, h⟩ := bind_eq_ok e
    refine ⟨G, A, L, env, r, e1, R, h1, fun v H' G' s R' hv => ?_⟩
    simp only at h
    split at h
    · rename_i j
      obtain ⟨r2, h2, h⟩ := bind_eq_ok h
      cases h
      cases (show Rp X.K G' v (.int j) from hv)
      exact ⟨j, rfl, lrg_ok R' h2 (Post.of s q)⟩
    · cases h
theorem r_lr2 (hc : X.calm = true) (hm : X.mg "list" = none) (hm2 : X.mg "range" = none) (ha : PE X a (tM X.K ζ ma)) (hb : PE X b (tM X.K ζ mb)) (hg : Gl X "list" := by rfl) (hg2 : Gl X "range" := by rfl) (na : starEach [a, b] X.env = (false, eval a X.env) :: starEach [b] X.env := by rfl)
    (na2 : starEach [b] X.env = (false, eval b X.env) :: starEach [] X.env := by rfl) (np : (backTo pos2 (starEach [b] X.env)).any (·.1) = false := by rfl)
    (nb : starEach [.Call (.Name "range" p2) [a, b] [] pos2] X.env = (false, eval (.Call (.Name "range" p2) [a, b] [] pos2) X.env) :: starEach [] X.env := by rfl) : PE X (.Call (.Name "list" p) [.Call (.Name "range" p2) [a, b] [] pos2] [] pos) (tM X.K ζ (mLR2 ma mb)) :=
  pew (pe_listRg hc hg hm (prg_2 hg2 hm2 ha hb na na2 np) nb) fun σ H Q h => by
    obtain ⟨G, A, L, env, r0, env', R, e, q⟩ := h
    obtain ⟨⟨rs, e1⟩, h1, h⟩ := bind_eq_ok e
    have fin : tAll X.K ζ [.m ma, .m mb] σ H (fun vs H' => ∀ x y, vs = [x, y] → ∃ i j, x = .int i ∧ y = .int j ∧ (RgOk i j ∧ ∀ p, H' p = none → Q (.ref p) (upd H' p (.lst (rgV i j))))) := pass_all [.m ma, .m mb] R h1 fun vs H' G' s R' ops => by
      simp only at h
      split at h
      · rename_i _ i j
        obtain ⟨r2, h2, h⟩ := bind_eq_ok h
        cases h
        cases ops with
        | cons o1 t =>
          cases t with
          | cons o2 t =>
            cases t
            rintro x y ⟨⟩
            cases (show Rp X.K G' _ (.int i) from o1)
            cases (show Rp X.K G' _ (.int j) from o2)
            exact ⟨i, j, rfl, rfl, lrg_ok R' h2 (Post.of s q)⟩
      · cases h
    exact tOpd_mono (K := X.K) (ζ := ζ) (o := .m ma) (fun v H q => tOpd_mono (K := X.K) (ζ := ζ) (o := .m mb) (fun w H q => q v w rfl) q) fin
end
end SE
namespace SE
open PySem L2 RZ
/-! ### f(..) alone in a row, f one that may raise -/
section
variable {X : Cx} {ζ : Option ZI} {W : WX} {k n : Nat} {fn : Fn} {x : Str} {p pos pos' : Pos} {e : Expr} {es : List Expr} {args : List Arg}
theorem rs_exprX (C : CalX X.prog X.w X.K X.mg X.base x k n fn) (hr : Room k X.A) (tk : L2N.Takes X W) (ha : PA X (e :: es) (tAll X.K ζ (args.map Arg.opd)))
    (hn : args.length = n) (hp : args.all Arg.plain = true := by rfl) (hg : Gl X x := by rfl)
    (hdb : (x == ("__debug__" : Str)) = false := by decide) (he : starEach (e :: es) X.env = (false, eval e X.env) :: starEach es X.env := by rfl) (hpl : (backTo p (starEach es X.env)).any (·.1) = false := by rfl) :
    PS X (.Expr (.Call (.Name x pos') (e :: es) [] p) pos) (tS X.K ζ X.mg W (sExprX fn args)) := by
  obtain ⟨f, fd, ps, h1, h2, h3, h4⟩ := C
  exact psw (ps_expr (pe_callS h4 hr hg h1 h2 h3 (fun σ => L2N.passAt tk σ) ha hdb he hpl)) fun D σ H q => callX_ok hn hp q fun G A L env r v H' R hv h => h _ H' G (same_refl G) R
end
end SE

namespace SE
open PySem L2 RZ
/-! ### defs that are called while an exception is handled -/
section
variable {P : Program} {w : World} {K : PySem.W.Frag} {ζ : Option ZI} {mg : Str → Option Value} {base : Heap}
theorem fn_okH {x qual : Str} {st : Stmt} {f : Addr} {fd : FuncData} {N ps : List Str} {k n : Nat} {ks : List Nat} {s : S} (F : Fun K x qual st f fd) (Sc : FnScope N ps (defScope st)) (hn : ps.length = n)
    (hbody : ∀ (f : Addr) (cdv : Value) (A : Around) (outer : List PySem.Env) (s0 : Shared) (H : Hp) (E : XK) (p : Addr × Obj), PSs (L2H.cxH CX0 P w K mg base N qual (defScope st) f cdv A outer s0 H E p).nox (defBody st) (tS K none mg (fun _ _ _ _ => False) s)) : L2H.FnH P w K mg base CX0 (k + 1) f fd ps (spM K n ks (fBody N.length ks s)) := by
  obtain ⟨oc, od, kV, doc, pm, an, cdv, ct, osl, rfl, lk, hcd⟩ := F.ex
  refine L2H.fn_ofH lk hcd Sc (fun vs H Q E h => ?_) fun A outer s0 H vs Q E p _ _ h => ⟨tS K none mg (fun _ _ _ _ => False) s, (hbody f cdv A outer s0 H E p).nox, ?_⟩
  · obtain ⟨G, A, L, os, r, outs, hl, _⟩ := h
    rw [hl, hn]
  · obtain ⟨G, A, L, os, r, outs, hl, R, e, q⟩ := h
    have R1 := env_ext R (N.length - vs.length)
    have ol : os.length = vs.length := by rw [R.len, List.length_map]
    refine ⟨G, A, L, _, R1, ?_⟩
    unfold fBody at e
    rw [ol] at e
    generalize s (os ++ List.replicate (N.length - vs.length) O.un) = sr at e ⊢
    cases sr with
    | next ev => cases e; exact fun σ' H' G' s R' => q .non H' G' none σ' ev s R' rfl Rp.non
    | ret r' ev => cases e; exact fun v σ' H' G' s R' hv => q v H' G' none σ' ev s R' rfl hv
    | brk ev => cases e
    | cont ev => cases e
    | exc x ev => cases e
    | stuck => cases e
def CalH (P : Program) (w : World) (K : PySem.W.Frag) (mg : Str → Option Value) (base : Heap) (x : Str) (k n : Nat) (ks : List Nat) (fn : Fn) : Prop := ∃ f fd ps, mg x = some (.ref f) ∧ PySem.W.keepIn K (.ref f) = true ∧ Binds K fd ps [] ∧ L2H.FnH P w K mg base CX0 k f fd ps (spM K n ks fn)
theorem calH_mk {x : Str} {st : Stmt} {N ps : List Str} {k n : Nat} {ks : List Nat} {s : S} (F : FunAt K mg x st) (Sc : FnScope N ps (defScope st)) (hn : ps.length = n)
    (hb : ∀ (kV doc pm : Value) (an : Option Addr) (cdv ct : Value) (us : List Value), us.length = ps.length → bindArgs (PySem.W.fnOf x x (defArgs st) (defBody st) (defScope st) .none kV doc pm an cdv ct) ⟨us, []⟩ = pure (ps.zip us))
    (hbody : ∀ (f : Addr) (cdv : Value) (A : Around) (outer : List PySem.Env) (s0 : Shared) (H : Hp) (E : XK) (p : Addr × Obj), PSs (L2H.cxH CX0 P w K mg base N x (defScope st) f cdv A outer s0 H E p).nox (defBody st) (tS K none mg (fun _ _ _ _ => False) s)) : CalH P w K mg base x (k + 1) n ks (fBody N.length ks s) := by
  obtain ⟨f, fd, h1, F⟩ := F
  exact ⟨f, fd, ps, h1, F.kp, F.binds hb, fn_okH F Sc hn hbody⟩
end
section
variable {X : Cx} {ζ : Option ZI} {W : WX} {k k' n : Nat} {ks : List Nat} {fn : Fn} {x : Str} {p pos : Pos} {e : Expr} {es : List Expr} {args : List Arg}
theorem r_callH (C : CalH X.prog X.w X.K X.mg X.base x k n ks fn) (hr : L2H.RoomH k' X.A) (hle : k ≤ k') (hc : L2H.HotC X) (ha : PA X (e :: es) (tAll X.K ζ (args.map Arg.opd)))
    (hn : args.length = n) (hk : (ioAt 0 args).map (·.1) = ks) (hnd : ((ioAt 0 args).map (·.2)).Nodup) (hg : Gl X x := by rfl)
    (hdb : (x == ("__debug__" : Str)) = false := by decide) (he : starEach (e :: es) X.env = (false, eval e X.env) :: starEach es X.env := by rfl) (hpl : (backTo pos (starEach es X.env)).any (·.1) = false := by rfl) :
    PE X (.Call (.Name x p) (e :: es) [] pos) (tM X.K ζ (mCall fn args)) := by
  obtain ⟨f, fd, ps, h1, h2, h3, h4⟩ := C
  refine pew (L2H.pe_callH (E := fun _ _ _ _ => False) h4 (hr.mono hle) hc hg h1 h2 h3 (fun σ _ _ _ _ _ _ z => z.elim) ha hdb he hpl) fun σ H Q q => ?_
  have := call_ok (E := fun _ _ _ => False) hn hk hnd q
  simpa only [tCall, tCallS, List.append_nil] using this
end
end SE

namespace SE
open PySem L2 RZ
/-! ### f(x): x's list is lent, f tells something flat -/
inductive LArg where
  | v (m : M)
  | ld (i : Nat)
def LArg.opd : LArg → Opd
  | .v m => .m (frz m)
  | .ld i => .pk i
def lprep : LArg → O → Option O
  | .v _, .val d => some (.val d)
  | .ld _, .val d => some (.val d)
  | .ld _, .own xs => some (.val (.list xs))
  | .ld _, .dct tk xs => some (.val (.dict xs))
  | .ld _, .pin true xs => some (.val (.list xs))
  | _, _ => none
def lpreps : List LArg → List O → Option (List O)
  | [], [] => some []
  | a :: as, r :: rs => match lprep a r, lpreps as rs with
    | some o, some os => some (o :: os)
    | _, _ => none
  | _, _ => none
def flat : D → Bool
  | .none => true
  | .bool _ => true
  | .int _ => true
  | .str _ => true
  | _ => false
def lendF (env : Env) : O × List (List D) → Res (O × Env)
  | (.val d, []) => if flat d = true then .ok (.val d, env) else .stuck
  | _ => .stuck
def lendG (fn : Fn) (env : Env) : Option (List O) → Res (O × Env)
  | some os => (fn os).bind (lendF env)
  | none => .stuck
def mLend (fn : Fn) (args : List LArg) : M := fun env => (pass (args.map LArg.opd) env).bind fun p => lendG fn p.2 (lpreps args p.1)
theorem lpreps_len : ∀ {args : List LArg} {rs os : List O}, lpreps args rs = some os → os.length = args.length
  | [], [], os, h => by cases h; rfl
  | a :: as, r :: rs, os, h => by
    unfold lpreps at h
    split at h
    · rename_i o os' e1 e2
      cases h
      rw [List.length_cons, List.length_cons, lpreps_len e2]
    · cases h
  | [], _ :: _, _, h => by cases h
  | _ :: _, [], _, h => by cases h
theorem lpreps_at {K : PySem.W.Frag} {G A : Hp} {L : Nat → Option Addr} {H : Hp} {σ : St} {env : Env} : ∀ {args : List LArg} {rs os : List O} {vs : List V}, lpreps args rs = some os → ROps K G A L H σ env (args.map LArg.opd) rs vs →
    ∀ {k : Nat} {o : O} {v : V}, os[k]? = some o → vs[k]? = some v → ∃ a r, a ∈ args ∧ ROp K G A L H σ env a.opd r v ∧ lprep a r = some o
  | [], [], os, vs, h, ops, k, o, v, e1, e2 => by cases h; cases e1
  | a :: as, r :: rs, os, vs, h, ops, k, o, v, e1, e2 => by
    unfold lpreps at h
    split at h
    · rename_i o' os' h1 h2
      cases h
      cases ops with
      | cons op ops =>
        cases k with
        | zero => cases e1; cases e2; exact ⟨a, r, List.mem_cons_self, op, h1⟩
        | succ k =>
          obtain ⟨a', r', q1, q2, q3⟩ := lpreps_at h2 ops (k := k) (by simpa using e1) (by simpa using e2)
          exact ⟨a', r', List.mem_cons_of_mem _ q1, q2, q3⟩
    · cases h
  | [], _ :: _, _, _, h, _, _, _, _, _, _ => by cases h
  | _ :: _, [], _, _, h, _, _, _, _, _, _ => by cases h
theorem lprep_val {a : LArg} {r o : O} (h : lprep a r = some o) : ∃ d, o = .val d := by
  match a, r, h with
  | .v _, .val d, h => cases h; exact ⟨_, rfl⟩
  | .ld _, .val d, h => cases h; exact ⟨_, rfl⟩
  | .ld _, .own xs, h => cases h; exact ⟨_, rfl⟩
  | .ld _, .dct tk xs, h => cases h; exact ⟨_, rfl⟩
  | .ld _, .pin true xs, h => cases h; exact ⟨_, rfl⟩
theorem flat_any {K : PySem.W.Frag} {G G' : Hp} {v : V} {d : D} (h : Rp K G v d) (f : flat d = true) : Rp K G' v d := by
  cases h with
  | non => exact .non
  | bl b => exact .bl b
  | int i => exact .int i
  | str x => exact .str x
  | lst _ _ => cases f
  | tup _ _ => cases f
  | dcK _ _ => cases f
  | dcT _ _ => cases f
open Classical in
theorem lend_ok {K : PySem.W.Frag} {ζ : Option ZI} {n : Nat} {fn : Fn} {args : List LArg} {E : XK} (hn : args.length = n) {σ : St} {H : Hp} {Q : VK} (h : tM K ζ (mLend fn args) σ H Q) :
    tCall (spM K n [] fn) [] E (tAll K ζ (args.map LArg.opd)) σ H Q := by
  obtain ⟨G0, A, L, env0, r0, env', R0, e, q⟩ := h
  obtain ⟨⟨rs, env⟩, h1, h⟩ := bind_eq_ok e
  refine pass_all _ R0 h1 fun vs H1 G s1 R ops => ?_
  rw [List.append_nil]
  simp only at h
  cases eos : lpreps args rs with
  | none => rw [eos] at h; cases h
  | some os =>
    rw [eos] at h
    obtain ⟨⟨r, outs⟩, h2, h⟩ := bind_eq_ok (show (fn os).bind (lendF env) = .ok (r0, env') from h)
    match r, outs, h, h2 with
    | .val d, [], h, h2 =>
      have h : (if flat d = true then Res.ok (O.val d, env) else Res.stuck) = .ok (r0, env') := h
      split at h
      · rename_i hfl
        cases h
        have vl : vs.length = args.length := by rw [rops_len ops, List.length_map]
        have at_ : ∀ {k : Nat} {o : O} {v : V}, os[k]? = some o → vs[k]? = some v → ∃ a r, a ∈ args ∧ ROp K G A L H1 σ env' a.opd r v ∧ lprep a r = some o := fun e1 e2 => lpreps_at eos ops e1 e2
        let lentAt : Addr → Prop := fun a => ∃ (j : Nat) (x : O), env'[j]? = some x ∧ x.mine = true ∧ σ[j]? = some (some (V.ref a)) ∧ .ld j ∈ args
        let ownAt : Addr → Prop := fun a => (∃ (j : Nat) (x : O), env'[j]? = some x ∧ x.mine = true ∧ σ[j]? = some (some (V.ref a))) ∧ ¬ lentAt a
        let G1 : Hp := fun a => if lentAt a then H1 a else G a
        let A1 : Hp := fun a => if ownAt a then H1 a else A a
        have G1y : ∀ {a : Addr}, lentAt a → G1 a = H1 a := fun z => if_pos z
        have G1n : ∀ {a : Addr}, ¬ lentAt a → G1 a = G a := fun z => if_neg z
        have A1y : ∀ {a : Addr}, ownAt a → A1 a = H1 a := fun z => if_pos z
        have A1n : ∀ {a : Addr}, ¬ ownAt a → A1 a = A a := fun z => if_neg z
        have lentNo : ∀ {a : Addr}, lentAt a → G a = none ∧ A a = none := fun ⟨j, x, e1, e2, e3, _⟩ => by
          obtain ⟨_, _, z2, z3⟩ := slot_alive R e1 e2 e3
          exact ⟨z2, z3⟩
        have ownNo : ∀ {a : Addr}, ownAt a → G a = none ∧ A a = none := fun ⟨⟨j, x, e1, e2, e3⟩, _⟩ => by
          obtain ⟨_, _, z2, z3⟩ := slot_alive R e1 e2 e3
          exact ⟨z2, z3⟩
        have GG1 : Same G G1 := fun a o z => by
          by_cases hm : lentAt a
          · have := (lentNo hm).1; rw [z] at this; cases this
          · rw [G1n hm]; exact z
        have AA1 : Same A A1 := fun a o z => by
          by_cases hm : ownAt a
          · have := (ownNo hm).2; rw [z] at this; cases this
          · rw [A1n hm]; exact z
        have osl : os.length = vs.length := by rw [lpreps_len eos, vl]
        have RC : REnv K none G1 A1 (fun _ => none) H1 (vs.map some) os := by
          refine ⟨by rw [List.length_map]; exact osl, fun a o z => ?_, fun a o z => ?_, fun a o z => ?_, fun k o w e1 e2 => ?_, fun i j x y p e1 _ m1 _ _ _ => ?_, fun k p e => (by cases e), fun a us z => (if hm : ownAt a then (by rw [A1y hm] at z; obtain ⟨⟨j, x, f1, f2, f4⟩, _⟩ := hm; exact mine_tup R f1 f2 f4 us z) else (by rw [A1n hm] at z; exact R.tu a us z))⟩
          · by_cases hm : lentAt a
            · rw [G1y hm] at z; exact z
            · rw [G1n hm] at z; exact R.gh _ _ z
          · by_cases hm : ownAt a
            · rw [A1y hm] at z; exact z
            · rw [A1n hm] at z; exact R.ah _ _ z
          · by_cases hm : ownAt a
            · rw [G1n hm.2]; exact (ownNo hm).1
            · rw [A1n hm] at z
              by_cases hl : lentAt a
              · have := (lentNo hl).2; rw [z] at this; cases this
              · rw [G1n hl]; exact R.ag _ _ z
          · rw [List.getElem?_map] at e2
            cases ev : vs[k]? with
            | none => rw [ev] at e2; cases e2
            | some v =>
              rw [ev] at e2
              cases e2
              obtain ⟨a, r', f1, f2, f3⟩ := at_ e1 ev
              have lent : ∀ (i : Nat) (xs : List D), a = .ld i → r'.ml = some xs → Rp K G1 v (.list xs) := fun i xs ea hm => by
                subst ea
                obtain ⟨hv, hr⟩ := f2
                have eo := getD_some hr (ml_live hm)
                obtain ⟨p, us, ep, q1, q2, q3, q4⟩ := ml_at R eo hm hv
                subst ep
                exact .lst (by rw [G1y ⟨i, r', eo, ml_mine hm, hv, f1⟩]; exact q1) (q4.m GG1)
              match a, r', f1, f2, f3, lent with
              | .v _, .val d', _, f2, f3, _ => cases f3; exact ⟨v, rfl, Rp.mono GG1 _ _ f2⟩
              | .ld i, .val d', _, f2, f3, _ =>
                cases f3
                obtain ⟨hv, hr⟩ := f2
                obtain ⟨v', g1, g2⟩ := R.sl i _ _ (getD_some hr rfl) hv
                cases g1
                exact ⟨v, rfl, Rp.mono GG1 _ _ g2⟩
              | .ld i, .dct tk xs, f1, f2, f3, _ =>
                cases f3
                obtain ⟨hv, hr⟩ := f2
                have eo := getD_some hr rfl
                obtain ⟨p, o, ep, q1, q2, q3, q4⟩ := R.sl i _ _ eo hv
                cases ep
                exact ⟨_, rfl, (q4.m GG1).rp (by rw [G1y ⟨i, _, eo, rfl, hv, f1⟩]; exact q1)⟩
              | .ld i, .own xs, _, f2, f3, lent => cases f3; exact ⟨v, rfl, lent i xs rfl rfl⟩
              | .ld i, .pin true xs, _, f2, f3, lent => cases f3; exact ⟨v, rfl, lent i xs rfl rfl⟩
          · have hkv : i < vs.length := by rw [← osl]; exact (List.getElem?_eq_some_iff.mp e1).1
            obtain ⟨a, r', f1, f2, f3⟩ := at_ e1 (List.getElem?_eq_getElem hkv)
            obtain ⟨d', rfl⟩ := lprep_val f3
            cases m1
        refine ⟨G1, A1, _, os, .val d, [], by rw [vl, hn], RC, h2, fun v H2 G2 ζc σc envc s2 Rc _ hv => ?_⟩
        refine q v H2 G s1 ⟨R.len, fun a o z => Rc.gh _ _ (s2 _ _ (GG1 _ _ z)), fun a o z => Rc.ah _ _ (AA1 _ _ z), R.ag, fun j x w e1 e2 => ?_, R.inj, R.lp, R.tu⟩ (flat_any (show Rp K G2 v d from hv) hfl)
        have qs := R.sl j x w e1 e2
        have stay : ∀ (p : Addr) (us : HO), x.mine = true → w = some (V.ref p) → H1 p = some us → H2 p = some us := fun p us m ew hp => by
          by_cases hl : lentAt p
          · have z : G1 p = some us := by rw [G1y hl]; exact hp
            exact Rc.gh _ _ (s2 _ _ z)
          · have z : A1 p = some us := by rw [A1y ⟨⟨j, x, e1, m, by rw [e2, ew]⟩, hl⟩]; exact hp
            exact Rc.ah _ _ z
        match x, qs, stay with
        | .un, _, _ => trivial
        | .tpl _, _, _ => trivial
        | .val d', qs, _ => exact qs
        | .own xs, qs, stay =>
          obtain ⟨p, us, f1, f2, f3, f4, f5⟩ := qs
          exact ⟨p, us, f1, stay p _ rfl f1 f2, f3, f4, f5⟩
        | .dct tk xs, qs, stay =>
          obtain ⟨p, us, f1, f2, f3, f4, f5⟩ := qs
          exact ⟨p, us, f1, stay p _ rfl f1 f2, f3, f4, f5⟩
        | .pin true xs, qs, stay =>
          obtain ⟨p, us, f0, f1, f2, f3, f4, f5⟩ := qs
          exact ⟨p, us, f0, f1, stay p _ rfl f1 f2, f3, f4, f5⟩
        | .pin false xs, qs, _ => exact qs
        | .scr ns, qs, _ => exact qs
        | .exn y, qs, _ => exact qs
      · cases h
section
variable {X : Cx} {ζ : Option ZI} {W : WX} {k k' n : Nat} {fn : Fn} {x : Str} {p pos : Pos} {e : Expr} {es : List Expr} {args : List LArg}
theorem r_lendC (C : Cal X.prog X.w X.K X.mg X.base x k n [] fn) (hr : Room k' X.A) (hle : k ≤ k') (ha : PA X (e :: es) (tAll X.K ζ (args.map LArg.opd)))
    (hn : args.length = n) (hg : Gl X x := by rfl)
    (hdb : (x == ("__debug__" : Str)) = false := by decide) (he : starEach (e :: es) X.env = (false, eval e X.env) :: starEach es X.env := by rfl) (hpl : (backTo pos (starEach es X.env)).any (·.1) = false := by rfl) :
    PE X (.Call (.Name x p) (e :: es) [] pos) (tM X.K ζ (mLend fn args)) := by
  obtain ⟨f, fd, ps, h1, h2, h3, h4⟩ := C
  exact pew (pe_call h4 (hr.mono hle) hg h1 h2 h3 .nil pass0 ha hdb he hpl) fun σ H Q q => lend_ok hn q
end
end SE

namespace SE
open PySem L2 RZ
/-! ### xs.remove(k), whole numbers -/
def fpos (k : Int) : List Int → Option Nat
  | [] => none
  | x :: xs => if x = k then some 0 else (fpos k xs).map (· + 1)
theorem fpos_ok {k : Int} : ∀ {xs : List Int} {j : Nat}, fpos k xs = some j → xs[j]? = some k ∧ ∀ m, m < j → xs[m]? ≠ some k
  | [], j, h => by cases h
  | x :: xs, j, h => by
    unfold fpos at h
    split at h
    · rename_i e
      cases h
      subst e
      exact ⟨rfl, fun m hm => by omega⟩
    · rename_i e
      cases hq : fpos k xs with
      | none => rw [hq] at h; cases h
      | some i =>
        rw [hq] at h
        cases h
        obtain ⟨h1, h2⟩ := fpos_ok hq
        refine ⟨by simpa using h1, fun m hm => ?_⟩
        cases m with
        | zero => simpa using e
        | succ m => simpa using h2 m (by have z : m + 1 < i + 1 := hm; omega)
def fRemove : List D → List D → Res (D × List D)
  | xs, [.int k] => match dInts xs with
    | some ns => match fpos k ns with
      | some j => .ok (.none, (ns.eraseIdx j).map .int)
      | none => .stuck
    | none => .stuck
  | _, _ => .stuck
theorem ms_remove {K : PySem.W.Frag} : MSem K fRemove rRemI := by
  intro G H p vs ws xs ds ys d Q gh hp rv rw e q
  unfold fRemove at e
  split at e
  · split at e
    · rename_i ns hns
      split at e
      · rename_i j hj
        cases e
        cases rw with
        | cons r1 t =>
          cases r1
          cases t
          obtain ⟨h1, h2⟩ := fpos_ok hj
          exact ⟨p, ns, _, j, rfl, rfl, by rw [hp, dInts_v hns rv], h1, h2, q _ _ .non (rp_ints _)⟩
      · cases e
    · cases e
  · cases e
end SE

namespace SE
open PySem L2 RZ
/-! ### xs[::-1] -/
def oRev (x : O) : Res O := match x.l with
  | some xs => .ok (.own xs.reverse)
  | none => .stuck
theorem sem_rev {K : PySem.W.Frag} : Sem1 K oRev fun v H Q => ∃ a xs, v = .ref a ∧ SqL K H a xs ∧ ∀ p, H p = none → Q (.ref p) (upd H p (.lst xs.reverse)) := by
  intro ζ G A L H σ env x rx r0 Q R hx e q
  unfold oRev at e
  cases el : rx.l with
  | none => rw [el] at e; cases e
  | some xs =>
    rw [el] at e
    cases e
    obtain ⟨p, vs, rfl, h1, h2⟩ := hx.l R.gh el
    exact ⟨p, vs, rfl, .of h1, q.lst R h2.rev⟩
section
variable {X : Cx} {ζ : Option ZI} {a : Expr} {oa : Opd} {k : Nat} {p1 p2 p3 pos : Pos}
theorem r_rev (ha : PE X a (tOpd X.K ζ oa)) : PE X (.Subscript a (.Slice none none (some (.UnaryOp .USub (.Constant (.int 1) k p1) p2)) p3) pos) (tM X.K ζ (m1 oRev oa)) :=
  pew (pe_revL ha) fun σ H Q q => m1_ok sem_rev q
end
end SE

namespace SE
open PySem L2 RZ
/-! ### str(a whole number) -/
def strI (i : Int) : Str := toString i
def oStr : O → Res O
  | .val (.int i) => if small i = true then .ok (.val (.str (strI i))) else .stuck
  | _ => .stuck
theorem sem_str {K : PySem.W.Frag} : Sem1 K oStr fun v H Q => ∃ i, [v] = [V.int i] ∧ i.natAbs.log2 < 1920 ∧ Q (.str (toString i)) H := by
  intro ζ G A L H σ env x rx r0 Q R hx e q
  unfold oStr at e
  split at e
  · rename_i i
    split at e
    · rename_i hs
      cases e
      cases hx
      have hb := small_b hs
      refine ⟨_, rfl, ?_, q.val R (.str _)⟩
      by_cases h0 : i.natAbs = 0
      · rw [h0]; decide
      · rw [Nat.log2_lt h0]
        have h1 : i.natAbs < 2 ^ 62 := by omega
        exact Nat.lt_of_lt_of_le h1 (Nat.pow_le_pow_right (by decide) (by decide))
    · cases e
  · cases e
end SE

namespace SE
open PySem L2 RZ
/-! ### sorted(a list of tuples, of texts, of rows: any alike data) -/
def dLe (a b : D) : Bool := PySem.W.dataLe false (fun d : D => d) a b
def sortD (ds : List D) : List D := ds.mergeSort dLe
def rSortD (K : PySem.W.Frag) : List V → Hp → VK → Prop := fun vs H Q => ∃ (a : Addr) (xs : List V) (zs : List (V × D)), vs = [V.ref a] ∧ xs = zs.map (·.1) ∧ SqL K H a xs ∧ DpAll K H xs (zs.map (·.2)) ∧
  PySem.W.AllAlike (zs.map (·.2)) ∧ PySem.W.Sortable (zs.map (·.2)) ∧ (∀ z ∈ zs, z.2.depth ≤ 8) ∧
  ∀ p, H p = none → Q (.ref p) (upd H p (.lst ((zs.mergeSort (PySem.W.dataLe false (fun z : V × D => z.2))).map (·.1))))
theorem each_vals {K : PySem.W.Frag} {H : Hp} {h : Heap} (rd : ∀ (d : PyData) (v : V) (u : Value), Dp K H v d → RelV v u → ∃ as, Reads h u d as) :
    ∀ {zs : List (V × D)} {us : List Value}, DpAll K H (zs.map (·.1)) (zs.map (·.2)) → Vals (zs.map (·.1)) us → PySem.W.EachIs (fun v (z : V × D) => RelV z.1 v) us zs ∧ PySem.W.EachIs (fun v (z : V × D) => ∃ as, Reads h v z.2 as) us zs
  | [], us, hd, hv => by cases hv; exact ⟨.nil, .nil⟩
  | z :: zs, us, hd, hv => by
    cases hv with
    | cons r t =>
      cases hd with
      | cons d1 d2 =>
        obtain ⟨k1, k2⟩ := each_vals rd d2 t
        exact ⟨.cons r k1, .cons (rd _ _ _ d1 r) k2⟩
theorem vals_each : ∀ {zs : List (V × D)} {us : List Value}, PySem.W.EachIs (fun v (z : V × D) => RelV z.1 v) us zs → Vals (zs.map (·.1)) us
  | _, _, .nil => .nil
  | _, _, .cons h t => .cons h (vals_each t)
theorem cr_sortD {X : Cx} (hu : X.A.units + 65 < cLine) : CallR X (.builtin "sorted") (rSortD X.K) := by
  intro pins s σ H vs us Q I r h
  obtain ⟨a, xs, zs, rfl, rfl, hs, hd, al, so, dp, q⟩ := h
  obtain ⟨its, rv, hl, hz⟩ := I.list hs
  obtain ⟨u, rfl, ru⟩ := vals1 r
  obtain rfl : u = Value.ref a := ru
  obtain ⟨e1, e2⟩ := each_vals (fun d v u hd hr => Dp.reads I d v u hd hr) hd rv
  refine PySem.W.sorted_data (R := fun v (z : V × D) => RelV z.1 v) (enc := fun z : V × D => z.2) hl.isList e1 e2 al so (by simpa using hz) (fun z hz => ?_) fun out h1 h2 => ?_
  · have := dp z hz
    show X.A.units + 2 + z.2.depth < cLine
    omega
  · obtain ⟨ep, he'⟩ := PyProof.Rows.sortedAll_at s.heap its out.toArray
    refine ⟨.ref _, upd H (s.heap.objs.size + 1) (.lst _), I.laid (t' := s.toks) (fun _ _ => PyProof.Rows.sortedAll_old) (Nat.le_succ _) ⟨?_, out, ep, vals_each h2, he'⟩, rfl, q _ (I.hok.fresh (Nat.le_succ _))⟩
    rw [List.length_map, (List.mergeSort_perm zs _).length_eq]
    simpa using hz
/-- may be sorted -/
def okSort (ds : List D) : Bool := ds.all (fun d => ds.all fun d' => PySem.W.alike d d') &&
  (ds.all (fun d => match d with | .tuple (_ :: _) => true | _ => false) || ds.all (fun d => match d with | .none => false | .tuple _ => false | _ => true)) && ds.all fun d => Nat.ble d.depth 8
def oSortD (x : O) : Res O := match x.l with
  | some ds => if okSort ds = true then .ok (.own (sortD ds)) else .stuck
  | none => .stuck
theorem rpall_map {K : PySem.W.Frag} {G : Hp} : ∀ {zs : List (V × D)}, (∀ z ∈ zs, Rp K G z.1 z.2) → RpAll K G (zs.map (·.1)) (zs.map (·.2))
  | [], _ => .nil
  | z :: zs, h => .cons (h z List.mem_cons_self) (rpall_map fun y hy => h y (List.mem_cons_of_mem _ hy))
theorem rpall_zip {K : PySem.W.Frag} {G : Hp} : ∀ {vs : List V} {ds : List D}, RpAll K G vs ds → ∃ zs : List (V × D), vs = zs.map (·.1) ∧ ds = zs.map (·.2) ∧ ∀ z ∈ zs, Rp K G z.1 z.2
  | _, [], h => by cases h; exact ⟨[], rfl, rfl, fun _ h => by cases h⟩
  | _, d :: ds, h => by
    cases h with
    | cons h1 h2 =>
      obtain ⟨zs, e1, e2, e3⟩ := rpall_zip h2
      refine ⟨(_, d) :: zs, by rw [e1]; rfl, by rw [e2]; rfl, fun z hz => ?_⟩
      rcases List.mem_cons.mp hz with e | hz
      · rw [e]; exact h1
      · exact e3 z hz
theorem sortD_map (zs : List (V × D)) : (zs.mergeSort (PySem.W.dataLe false (fun z : V × D => z.2))).map (·.2) = sortD (zs.map (·.2)) :=
  PySem.W.sort_maps (fun z : V × D => z.2) fun a _ b _ => rfl
mutual
theorem alike_plain : ∀ d : D, PySem.W.alike d d = true → d.plain = true
  | .none, _ => rfl
  | .bool _, _ => rfl
  | .int _, _ => rfl
  | .str _, _ => rfl
  | .list xs, h => by simpa [PyData.plain] using alikeAll_plain xs (by simpa [PySem.W.alike] using h)
  | .tuple xs, h => by simpa [PyData.plain] using alikeAll_plain xs (by simpa [PySem.W.alike] using h)
  | .dict _, h => by simp [PySem.W.alike] at h
theorem alikeAll_plain : ∀ ds : List D, PySem.W.alikeAll ds ds = true → PyData.plainAll ds = true
  | [], _ => by simp [PyData.plainAll]
  | d :: ds, h => by
    have h : PySem.W.alike d d = true ∧ PySem.W.alikeAll ds ds = true := by simpa [PySem.W.alikeAll] using h
    simp [PyData.plainAll, alike_plain d h.1, alikeAll_plain ds h.2]
end
theorem plainAll_of : ∀ {ds : List D}, (∀ d, d ∈ ds → d.plain = true) → PyData.plainAll ds = true
  | [], _ => by simp [PyData.plainAll]
  | d :: ds, h => by simp [PyData.plainAll, h d List.mem_cons_self, plainAll_of fun x hx => h x (List.mem_cons_of_mem _ hx)]
theorem sem_sortD {K : PySem.W.Frag} : Sem1 K oSortD (fun x H Q => rSortD K [x] H Q) := by
  intro ζ G A L H σ env x rx r0 Q R hx e q
  unfold oSortD at e
  cases el : rx.l with
  | none => rw [el] at e; cases e
  | some ds =>
    rw [el] at e
    dsimp only at e
    split at e
    · rename_i ok
      cases e
      obtain ⟨p, vs, rfl, h1, h2⟩ := hx.l R.gh el
      obtain ⟨zs, rfl, rfl, h3⟩ := rpall_zip h2
      unfold okSort at ok
      simp only [Bool.and_eq_true, Bool.or_eq_true, List.all_eq_true, Nat.ble_eq] at ok
      obtain ⟨⟨k1, k2⟩, k3⟩ := ok
      refine ⟨p, _, zs, rfl, rfl, .of h1, (RpAll.m h2 R.gh).dp _ _ (plainAll_of fun d hd => alike_plain d (k1 d hd d hd)), fun d hd d' hd' => k1 d hd d' hd', ?_, fun z hz => k3 _ (List.mem_map.mpr ⟨z, hz, rfl⟩), fun p' hp' => ?_⟩
      · rcases k2 with k2 | k2
        · refine .inl fun d hd => ?_
          have := k2 d hd
          split at this
          · exact ⟨_, _, rfl⟩
          · cases this
        · refine .inr fun d hd => ?_
          have := k2 d hd
          split at this
          · cases this
          · cases this
          · rename_i n1 n2
            exact ⟨n1, fun xs => n2 xs⟩
      · rw [← sortD_map] at q
        exact q.lst R (rpall_map fun z hz => h3 z ((List.mergeSort_perm zs _).mem_iff.mp hz)) p' hp'
    · cases e
/-! ### whole numbers, or such data -/
def oSortX (x : O) : Res O := match lints x with
  | some ns => .ok (.own ((sortI ns).map .int))
  | none => oSortD x
theorem cr_sortX {X : Cx} (hu : X.A.units + 65 < cLine) : CallR X (.builtin "sorted") (fun vs H Q => rSortedI X.K vs H Q ∨ rSortD X.K vs H Q) := by
  intro pins s σ H vs us Q I r h
  rcases h with h | h
  · exact cr_sortedI pins s σ H vs us Q I r h
  · exact cr_sortD hu pins s σ H vs us Q I r h
theorem sem_sortX {K : PySem.W.Frag} : Sem1 K oSortX (fun x H Q => rSortedI K [x] H Q ∨ rSortD K [x] H Q) := by
  intro ζ G A L H σ env x rx r0 Q R hx e q
  unfold oSortX at e
  cases en : lints rx with
  | some ns =>
    rw [en] at e
    exact .inl (sem_sorted R hx (by unfold oSorted; rw [en]; exact e) q)
  | none =>
    rw [en] at e
    exact .inr (sem_sortD R hx e q)
end SE

namespace SE
open PySem L2 RZ
/-! ### f(x): x's list is lent, f tells something without lists, or a new list of such things -/
mutual
def nol : D → Bool
  | .none => true
  | .bool _ => true
  | .int _ => true
  | .str _ => true
  | .tuple ds => nolA ds
  | _ => false
def nolA : List D → Bool
  | [] => true
  | d :: ds => nol d && nolA ds
end
def lendFL (env : Env) : O × List (List D) → Res (O × Env)
  | (.val d, []) => if nol d = true then .ok (.val d, env) else .stuck
  | (.own ds, []) => if nolA ds = true then .ok (.own ds, env) else .stuck
  | _ => .stuck
def lendGL (fn : Fn) (env : Env) : Option (List O) → Res (O × Env)
  | some os => (fn os).bind (lendFL env)
  | none => .stuck
def mLendL (fn : Fn) (args : List LArg) : M := fun env => (pass (args.map LArg.opd) env).bind fun p => lendGL fn p.2 (lpreps args p.1)
mutual
theorem nol_any {K : PySem.W.Frag} {G G' : Hp} (hk : ∀ a vs, G a = some (.tup vs) → G' a = some (.tup vs)) : ∀ (d : D) (v : V), Rp K G v d → nol d = true → Rp K G' v d
  | .none, _, h, _ => by cases h; exact .non
  | .bool b, _, h, _ => by cases h; exact .bl b
  | .int i, _, h, _ => by cases h; exact .int i
  | .str x, _, h, _ => by cases h; exact .str x
  | .list _, _, _, f => by simp [nol] at f
  | .tuple ds, _, h, f => by
    cases h with
    | tup hs ha => exact .tup (hk _ _ hs) (nolA_any hk ds _ ha (by simpa [nol] using f))
  | .dict _, _, h, f => by simp [nol] at f
theorem nolA_any {K : PySem.W.Frag} {G G' : Hp} (hk : ∀ a vs, G a = some (.tup vs) → G' a = some (.tup vs)) : ∀ (ds : List D) (vs : List V), RpAll K G vs ds → nolA ds = true → RpAll K G' vs ds
  | [], _, h, _ => by cases h; exact .nil
  | d :: ds, _, h, f => by
    have f : (nol d && nolA ds) = true := by simpa [nolA] using f
    rw [Bool.and_eq_true] at f
    cases h with
    | cons h1 h2 => exact .cons (nol_any hk d _ h1 f.1) (nolA_any hk ds _ h2 f.2)
end
open Classical in
theorem lendL_ok {K : PySem.W.Frag} {ζ : Option ZI} {n : Nat} {fn : Fn} {args : List LArg} {E : XK} (hn : args.length = n) {σ : St} {H : Hp} {Q : VK} (h : tM K ζ (mLendL fn args) σ H Q) :
    tCall (spM K n [] fn) [] E (tAll K ζ (args.map LArg.opd)) σ H Q := by
  obtain ⟨G0, A, L, env0, r0, env', R0, e, q⟩ := h
  obtain ⟨⟨rs, env⟩, h1, h⟩ := bind_eq_ok e
  refine pass_all _ R0 h1 fun vs H1 G s1 R ops => ?_
  rw [List.append_nil]
  simp only at h
  cases eos : lpreps args rs with
  | none => rw [eos] at h; cases h
  | some os =>
    rw [eos] at h
    obtain ⟨⟨r, outs⟩, h2, h⟩ := bind_eq_ok (show (fn os).bind (lendFL env) = .ok (r0, env') from h)
    have ho : outs = [] ∧ env' = env ∧ r0 = r ∧ ((∃ d, r = .val d ∧ nol d = true) ∨ ∃ ds, r = .own ds ∧ nolA ds = true) := by
      unfold lendFL at h
      split at h
      · rename_i d e1
        cases e1
        split at h
        · rename_i q1; cases h; exact ⟨rfl, rfl, rfl, .inl ⟨_, rfl, q1⟩⟩
        · cases h
      · rename_i d e1
        cases e1
        split at h
        · rename_i q1; cases h; exact ⟨rfl, rfl, rfl, .inr ⟨_, rfl, q1⟩⟩
        · cases h
      · cases h
    obtain ⟨rfl, rfl, rfl, hr⟩ := ho
    clear h
    have vl : vs.length = args.length := by rw [rops_len ops, List.length_map]
    have at_ : ∀ {k : Nat} {o : O} {v : V}, os[k]? = some o → vs[k]? = some v → ∃ a r, a ∈ args ∧ ROp K G A L H1 σ env' a.opd r v ∧ lprep a r = some o := fun e1 e2 => lpreps_at eos ops e1 e2
    let lentAt : Addr → Prop := fun a => ∃ (j : Nat) (x : O), env'[j]? = some x ∧ x.mine = true ∧ σ[j]? = some (some (V.ref a)) ∧ .ld j ∈ args
    let ownAt : Addr → Prop := fun a => (∃ (j : Nat) (x : O), env'[j]? = some x ∧ x.mine = true ∧ σ[j]? = some (some (V.ref a))) ∧ ¬ lentAt a
    let G1 : Hp := fun a => if lentAt a then H1 a else G a
    let A1 : Hp := fun a => if ownAt a then H1 a else A a
    have G1y : ∀ {a : Addr}, lentAt a → G1 a = H1 a := fun z => if_pos z
    have G1n : ∀ {a : Addr}, ¬ lentAt a → G1 a = G a := fun z => if_neg z
    have A1y : ∀ {a : Addr}, ownAt a → A1 a = H1 a := fun z => if_pos z
    have A1n : ∀ {a : Addr}, ¬ ownAt a → A1 a = A a := fun z => if_neg z
    have lentNo : ∀ {a : Addr}, lentAt a → G a = none ∧ A a = none := fun ⟨j, x, e1, e2, e3, _⟩ => by
      obtain ⟨_, _, z2, z3⟩ := slot_alive R e1 e2 e3
      exact ⟨z2, z3⟩
    have ownNo : ∀ {a : Addr}, ownAt a → G a = none ∧ A a = none := fun ⟨⟨j, x, e1, e2, e3⟩, _⟩ => by
      obtain ⟨_, _, z2, z3⟩ := slot_alive R e1 e2 e3
      exact ⟨z2, z3⟩
    have GG1 : Same G G1 := fun a o z => by
      by_cases hm : lentAt a
      · have := (lentNo hm).1; rw [z] at this; cases this
      · rw [G1n hm]; exact z
    have AA1 : Same A A1 := fun a o z => by
      by_cases hm : ownAt a
      · have := (ownNo hm).2; rw [z] at this; cases this
      · rw [A1n hm]; exact z
    have osl : os.length = vs.length := by rw [lpreps_len eos, vl]
    have RC : REnv K none G1 A1 (fun _ => none) H1 (vs.map some) os := by
      refine ⟨by rw [List.length_map]; exact osl, fun a o z => ?_, fun a o z => ?_, fun a o z => ?_, fun k o w e1 e2 => ?_, fun i j x y p e1 _ m1 _ _ _ => ?_, fun k p e => (by cases e), fun a us z => (if hm : ownAt a then (by rw [A1y hm] at z; obtain ⟨⟨j, x, f1, f2, f4⟩, _⟩ := hm; exact mine_tup R f1 f2 f4 us z) else (by rw [A1n hm] at z; exact R.tu a us z))⟩
      · by_cases hm : lentAt a
        · rw [G1y hm] at z; exact z
        · rw [G1n hm] at z; exact R.gh _ _ z
      · by_cases hm : ownAt a
        · rw [A1y hm] at z; exact z
        · rw [A1n hm] at z; exact R.ah _ _ z
      · by_cases hm : ownAt a
        · rw [G1n hm.2]; exact (ownNo hm).1
        · rw [A1n hm] at z
          by_cases hl : lentAt a
          · have := (lentNo hl).2; rw [z] at this; cases this
          · rw [G1n hl]; exact R.ag _ _ z
      · rw [List.getElem?_map] at e2
        cases ev : vs[k]? with
        | none => rw [ev] at e2; cases e2
        | some v =>
          rw [ev] at e2
          cases e2
          obtain ⟨a, r', f1, f2, f3⟩ := at_ e1 ev
          have lent : ∀ (i : Nat) (xs : List D), a = .ld i → r'.ml = some xs → Rp K G1 v (.list xs) := fun i xs ea hm => by
            subst ea
            obtain ⟨hv, hr⟩ := f2
            have eo := getD_some hr (ml_live hm)
            obtain ⟨p, us, ep, q1, q2, q3, q4⟩ := ml_at R eo hm hv
            subst ep
            exact .lst (by rw [G1y ⟨i, r', eo, ml_mine hm, hv, f1⟩]; exact q1) (q4.m GG1)
          match a, r', f1, f2, f3, lent with
          | .v _, .val d', _, f2, f3, _ => cases f3; exact ⟨v, rfl, Rp.mono GG1 _ _ f2⟩
          | .ld i, .val d', _, f2, f3, _ =>
            cases f3
            obtain ⟨hv, hr⟩ := f2
            obtain ⟨v', g1, g2⟩ := R.sl i _ _ (getD_some hr rfl) hv
            cases g1
            exact ⟨v, rfl, Rp.mono GG1 _ _ g2⟩
          | .ld i, .dct tk xs, f1, f2, f3, _ =>
            cases f3
            obtain ⟨hv, hr⟩ := f2
            have eo := getD_some hr rfl
            obtain ⟨p, o, ep, q1, q2, q3, q4⟩ := R.sl i _ _ eo hv
            cases ep
            exact ⟨_, rfl, (q4.m GG1).rp (by rw [G1y ⟨i, _, eo, rfl, hv, f1⟩]; exact q1)⟩
          | .ld i, .own xs, _, f2, f3, lent => cases f3; exact ⟨v, rfl, lent i xs rfl rfl⟩
          | .ld i, .pin true xs, _, f2, f3, lent => cases f3; exact ⟨v, rfl, lent i xs rfl rfl⟩
      · have hkv : i < vs.length := by rw [← osl]; exact (List.getElem?_eq_some_iff.mp e1).1
        obtain ⟨a, r', f1, f2, f3⟩ := at_ e1 (List.getElem?_eq_getElem hkv)
        obtain ⟨d', rfl⟩ := lprep_val f3
        cases m1
    refine ⟨G1, A1, _, os, r0, [], by rw [vl, hn], RC, h2, fun v H2 G2 ζc σc envc s2 Rc _ hv => ?_⟩
    let G3 : Hp := fun a => if lentAt a then none else G2 a
    have G3y : ∀ {a : Addr}, lentAt a → G3 a = none := fun z => if_pos z
    have G3n : ∀ {a : Addr}, ¬ lentAt a → G3 a = G2 a := fun z => if_neg z
    have GG3 : Same G G3 := fun a o z => by
      by_cases hm : lentAt a
      · have := (lentNo hm).1; rw [z] at this; cases this
      · rw [G3n hm]; exact s2 _ _ (GG1 _ _ z)
    have notup : ∀ {a : Addr}, lentAt a → ∃ us, G2 a = some us ∧ (∀ xs, us ≠ .tup xs) ∧ ∀ b xs, us ≠ .frz b (.tup xs) := fun {a} hm => by
      obtain ⟨j, x, e1, e2, e3, _⟩ := hm
      obtain ⟨us, z1, z2, z3⟩ := slot_kind R e1 e2 e3
      exact ⟨us, s2 _ _ (by rw [G1y ⟨j, x, e1, e2, e3, by assumption⟩]; exact z1), z2, z3⟩
    have tups : ∀ a us, G2 a = some (.tup us) → G3 a = some (.tup us) := fun a us z => by
      rw [G3n (fun hm => by obtain ⟨us', q1, q2, q3⟩ := notup hm; rw [z] at q1; exact q2 _ (Option.some.inj q1).symm)]; exact z
    have own3 : ∀ {i : Nat} {x : O} {p : Addr}, env'[i]? = some x → x.mine = true → σ[i]? = some (some (V.ref p)) → G3 p = none ∧ ∃ us, H1 p = some us ∧ H2 p = some us ∧ (¬ lentAt p → A1 p = some us) := fun {i x p} e1 m e3 => by
      obtain ⟨us, z1, z2, z3⟩ := slot_alive R e1 m e3
      by_cases hl : lentAt p
      · exact ⟨G3y hl, us, z1, Rc.gh _ _ (s2 _ _ (by rw [G1y hl]; exact z1)), fun z => absurd hl z⟩
      · have z : A1 p = some us := by rw [A1y ⟨⟨i, x, e1, m, e3⟩, hl⟩]; exact z1
        exact ⟨by rw [G3n hl]; exact Rc.ag _ _ z, us, z1, Rc.ah _ _ z, fun _ => z⟩
    have R3 : REnv K ζ G3 A L H2 σ env' := by
      refine ⟨R.len, fun a o z => ?_, fun a o z => Rc.ah _ _ (AA1 _ _ z), fun a o z => ?_, fun j x w e1 e2 => ?_, R.inj, R.lp, R.tu⟩
      · by_cases hl : lentAt a
        · rw [G3y hl] at z; cases z
        · rw [G3n hl] at z; exact Rc.gh _ _ z
      · by_cases hl : lentAt a
        · exact G3y hl
        · rw [G3n hl]; exact Rc.ag _ _ (AA1 _ _ z)
      · have qs := R.sl j x w e1 e2
        match x, qs, e1 with
        | .un, _, _ => trivial
        | .tpl _, _, _ => trivial
        | .val d', qs, _ => obtain ⟨v, e1, q⟩ := qs; exact ⟨v, e1, q.m GG3⟩
        | .own xs, qs, e1 =>
          obtain ⟨p, us, f1, f2, f3, f4, f5⟩ := qs
          obtain ⟨k1, us', k2, k3, _⟩ := own3 e1 rfl (by rw [e2, f1])
          rw [f2] at k2
          cases k2
          exact ⟨p, us, f1, k3, k1, f4, f5.m GG3⟩
        | .dct tk xs, qs, e1 =>
          obtain ⟨p, us, f1, f2, f3, f4, f5⟩ := qs
          obtain ⟨k1, us', k2, k3, _⟩ := own3 e1 rfl (by rw [e2, f1])
          rw [f2] at k2
          cases k2
          exact ⟨p, us, f1, k3, k1, f4, f5.m GG3⟩
        | .pin true xs, qs, e1 =>
          obtain ⟨p, us, f0, f1, f2, f3, f4, f5⟩ := qs
          obtain ⟨k1, us', k2, k3, _⟩ := own3 e1 rfl (by rw [e2, f1])
          rw [f2] at k2
          cases k2
          exact ⟨p, us, f0, f1, k3, k1, f4, f5.m GG3⟩
        | .pin false xs, qs, _ =>
          obtain ⟨p, us, f0, f1, f2, f5⟩ := qs
          exact ⟨p, us, f0, f1, f2, f5.m GG3⟩
        | .scr ns, qs, _ =>
          obtain ⟨p, f1, f2⟩ := qs
          exact ⟨p, f1, sameL GG3 f2⟩
        | .exn y, qs, _ =>
          obtain ⟨zi, C, dd, fs, z1, z2, z3, z4, z5, z6, z7⟩ := qs
          exact ⟨zi, C, dd, fs, z1, z2, z3, z4, z5, z6, z7.m GG3⟩
    refine q v H2 G3 (s1.trans GG3) R3 ?_
    rcases hr with ⟨d, rfl, hd⟩ | ⟨ds, rfl, hd⟩
    · exact nol_any tups d v hv hd
    · obtain ⟨p, us, f1, f2, f3, f4, f5, f6, f7⟩ := hv
      have np : ¬ lentAt p := fun hm => by obtain ⟨us', q1, _⟩ := notup hm; rw [f3] at q1; cases q1
      have apn : A p = none := by
        cases ea : A p with
        | none => rfl
        | some o => have := AA1 _ _ ea; rw [f4] at this; cases this
      have nos : ∀ (i : Nat) (x : O), env'[i]? = some x → x.mine = true → σ[i]? ≠ some (some (V.ref p)) := fun i x e1 m z => by
        obtain ⟨_, us', _, _, k4⟩ := own3 e1 m z
        have := k4 np
        rw [f4] at this; cases this
      refine ⟨p, us, f1, f2, by rw [G3n np]; exact f3, apn, nolA_any tups ds us f5 hd, nos, fun i z => ?_⟩
      obtain ⟨w, xs, e1⟩ := R.lp i p z
      have hi : i < σ.length := by rw [← R.len]; exact (List.getElem?_eq_some_iff.mp e1).1
      have qs := R.sl i _ _ e1 (List.getElem?_eq_getElem hi)
      cases w with
      | true =>
        obtain ⟨p', us', g0, g1, _⟩ := qs
        rw [z] at g0
        cases g0
        exact nos i _ e1 rfl (by rw [List.getElem?_eq_getElem hi, g1])
      | false =>
        obtain ⟨p', us', g0, g1, g2, _⟩ := qs
        rw [z] at g0
        cases g0
        rw [apn] at g2; cases g2
section
variable {X : Cx} {ζ : Option ZI} {W : WX} {k k' n : Nat} {fn : Fn} {x : Str} {p pos : Pos} {e : Expr} {es : List Expr} {args : List LArg}
theorem r_lendCL (C : Cal X.prog X.w X.K X.mg X.base x k n [] fn) (hr : Room k' X.A) (hle : k ≤ k') (ha : PA X (e :: es) (tAll X.K ζ (args.map LArg.opd)))
    (hn : args.length = n) (hg : Gl X x := by rfl)
    (hdb : (x == ("__debug__" : Str)) = false := by decide) (he : starEach (e :: es) X.env = (false, eval e X.env) :: starEach es X.env := by rfl) (hpl : (backTo pos (starEach es X.env)).any (·.1) = false := by rfl) :
    PE X (.Call (.Name x p) (e :: es) [] pos) (tM X.K ζ (mLendL fn args)) := by
  obtain ⟨f, fd, ps, h1, h2, h3, h4⟩ := C
  exact pew (pe_call h4 (hr.mono hle) hg h1 h2 h3 .nil pass0 ha hdb he hpl) fun σ H Q q => lendL_ok hn q
end
end SE

namespace SE
open PySem L2 RZ
/-! ### keys -/
def asKey : D → Option Key
  | .int i => some (.inl i)
  | .str x => some (.inr x)
  | _ => none
def asKeys : List D → Option (List Key)
  | [] => some []
  | d :: ds => match asKey d, asKeys ds with
    | some k, some ks => some (k :: ks)
    | _, _ => none
/-- a datum that may be a key of such a dict -/
def okKey : Bool → D → Bool
  | false, d => (asKey d).isSome
  | true, .tuple ds => (asKeys ds).isSome
  | true, _ => false
theorem asKey_eq {d : D} {k : Key} (h : asKey d = some k) : d = keyD k := by
  cases d with
  | int i => cases h; rfl
  | str x => cases h; rfl
  | _ => cases h
theorem asKeys_eq : ∀ {ds : List D} {ks : List Key}, asKeys ds = some ks → ds = ks.map keyD
  | [], ks, h => by cases h; rfl
  | d :: ds, ks, h => by
    unfold asKeys at h
    cases h1 : asKey d with
    | none => rw [h1] at h; cases h
    | some k =>
      cases h2 : asKeys ds with
      | none => rw [h1, h2] at h; cases h
      | some ks' =>
        rw [h1, h2] at h
        cases h
        rw [asKey_eq h1, asKeys_eq h2]; rfl
theorem okKey_K {d : D} (h : okKey false d = true) : ∃ k, d = keyD k := by
  obtain ⟨k, hk⟩ := Option.isSome_iff_exists.mp (show (asKey d).isSome = true from h)
  exact ⟨k, asKey_eq hk⟩
theorem okKey_T {d : D} (h : okKey true d = true) : ∃ ks : List Key, d = .tuple (ks.map keyD) := by
  cases d with
  | tuple ds =>
    obtain ⟨k, hk⟩ := Option.isSome_iff_exists.mp (show (asKeys ds).isSome = true from h)
    exact ⟨k, by rw [asKeys_eq hk]⟩
  | _ => cases h
theorem rp_key {K : PySem.W.Frag} {G : Hp} {v : V} {k : Key} (h : Rp K G v (keyD k)) : v = kV k := by
  cases k with
  | inl i => cases h; rfl
  | inr x => cases h; rfl
theorem rpall_key {K : PySem.W.Frag} {G : Hp} : ∀ {ks : List Key} {vs : List V}, RpAll K G vs (ks.map keyD) → vs = ks.map kV
  | [], vs, h => by cases h; rfl
  | k :: ks, vs, h => by
    cases h with
    | cons h1 h2 => rw [rp_key h1, rpall_key h2]; rfl
theorem rp_keyT {K : PySem.W.Frag} {G : Hp} {v : V} {ks : List Key} (h : Rp K G v (.tuple (ks.map keyD))) : ∃ b, v = .ref b ∧ G b = some (.tup (ks.map kV)) := by
  cases h with
  | tup h1 h2 => rw [rpall_key h2] at h1; exact ⟨_, rfl, h1⟩
theorem eqv_key (a b : Key) : PyData.eqv (keyD a) (keyD b) = decide (a = b) := by
  cases a <;> cases b <;> simp [keyD, PyData.eqv] <;> rw [Bool.eq_iff_iff] <;> simp
theorem eqvA_key : ∀ as bs : List Key, PyData.eqvAll (as.map keyD) (bs.map keyD) = decide (as = bs)
  | [], [] => by simp [PyData.eqvAll]
  | [], _ :: _ => by simp [PyData.eqvAll]
  | _ :: _, [] => by simp [PyData.eqvAll]
  | a :: as, b :: bs => by
    have := eqvA_key as bs
    simp only [List.map_cons, PyData.eqvAll, this, eqv_key]
    by_cases h1 : a = b <;> by_cases h2 : as = bs <;> simp [h1, h2]
theorem eqv_keyT (as bs : List Key) : PyData.eqv (.tuple (as.map keyD)) (.tuple (bs.map keyD)) = decide (as = bs) := by
  rw [PyData.eqv, eqvA_key]
/-! ### what a dict holds -/
def getK : List (D × D) → D → Option D
  | [], _ => none
  | kv :: r, k => if PyData.eqv kv.1 k = true then some kv.2 else getK r k
def hasK (kvs : List (D × D)) (k : D) : Bool := kvs.any fun kv => PyData.eqv kv.1 k
def putD (kvs : List (D × D)) (k v : D) : List (D × D) :=
  if hasK kvs k = true then kvs.map (fun kv => if PyData.eqv kv.1 k = true then (kv.1, v) else kv) else kvs ++ [(k, v)]
def dropD (kvs : List (D × D)) (k : D) : List (D × D) := kvs.filter fun kv => !PyData.eqv kv.1 k
def RelG (K : PySem.W.Frag) (G : Hp) : Option V → Option D → Prop
  | some v, some d => Rp K G v d
  | none, none => True
  | _, _ => False
section
variable {K : PySem.W.Frag} {G H : Hp}
theorem get_K {k : Key} : ∀ {ks : List (Key × V)} {kvs : List (D × D)}, RpK K G ks kvs → RelG K G (valV ks k) (getK kvs (keyD k))
  | _, _, .nil => trivial
  | _, _, .cons (k := k') (v := v) (r := r) (d := d) (ds := ds) h1 h2 => by
    unfold getK
    rw [eqv_key]
    by_cases e : k' = k
    · rw [valV_pos e, if_pos (by simpa using e)]; exact h1
    · rw [valV_neg e, if_neg (by simpa using e)]; exact get_K h2
theorem get_T {k : List Key} : ∀ {ks : List (List Key × V)} {kvs : List (D × D)}, RpT K G ks kvs → RelG K G (valV ks k) (getK kvs (.tuple (k.map keyD)))
  | _, _, .nil => trivial
  | _, _, .cons (k := k') (v := v) (r := r) (d := d) (ds := ds) h1 h2 => by
    unfold getK
    rw [eqv_keyT]
    by_cases e : k' = k
    · rw [valV_pos e, if_pos (by simpa using e)]; exact h1
    · rw [valV_neg e, if_neg (by simpa using e)]; exact get_T h2
theorem RelG.isSome {o : Option V} {d : Option D} (h : RelG K G o d) : o.isSome = d.isSome := by
  cases o <;> cases d <;> first | rfl | exact h.elim
theorem RelG.get {o : Option V} {d : Option D} (h : RelG K G o d) : Rp K G (o.getD .non) (d.getD .none) := by
  cases o <;> cases d <;> first | exact .non | exact h | exact h.elim
theorem RelG.get2 {o : Option V} {d : Option D} {v : V} {e : D} (h : RelG K G o d) (he : Rp K G v e) : Rp K G (o.getD v) (d.getD e) := by
  cases o <;> cases d <;> first | exact he | exact h | exact h.elim
theorem RelG.some {o : Option V} {d : D} (h : RelG K G o (some d)) : ∃ v, o = some v ∧ Rp K G v d := by
  cases o with
  | none => exact h.elim
  | some v => exact ⟨v, rfl, h⟩
theorem RelG.m {o : Option V} {d : Option D} (h : RelG K G o d) (e : Same G H) : RelG K H o d := by
  cases o <;> cases d <;> first | trivial | exact Rp.m h e | exact h.elim
/-- what is found -/
theorem dget_of {t : Bool} {o : HO} {kvs : List (D × D)} {a : Addr} {y : V} {d : D} (h : RpD K G t o kvs) (gh : Same G H) (ho : H a = some o) (hk : okKey t d = true) (hy : Rp K H y d) : ∃ r, DGet H a y r ∧ RelG K G r (getK kvs d) := by
  rcases h with ⟨rfl, ks, rfl, h2⟩ | ⟨rfl, ks, rfl, h2⟩
  · obtain ⟨k, rfl⟩ := okKey_K hk
    rw [rp_key hy]
    exact ⟨_, DGet.k ho, get_K h2⟩
  · obtain ⟨k, rfl⟩ := okKey_T hk
    obtain ⟨b, rfl, hb⟩ := rp_keyT hy
    exact ⟨_, DGet.t ho hb, get_T h2⟩
theorem any_K {k : Key} : ∀ {ks : List (Key × V)} {kvs : List (D × D)}, RpK K G ks kvs → (ks.any fun kv => decide (kv.1 = k)) = hasK kvs (keyD k)
  | _, _, .nil => rfl
  | _, _, .cons h1 h2 => by
    unfold hasK
    rw [List.any_cons, List.any_cons, any_K h2, eqv_key]; rfl
theorem any_T {k : List Key} : ∀ {ks : List (List Key × V)} {kvs : List (D × D)}, RpT K G ks kvs → (ks.any fun kv => decide (kv.1 = k)) = hasK kvs (.tuple (k.map keyD))
  | _, _, .nil => rfl
  | _, _, .cons h1 h2 => by
    unfold hasK
    rw [List.any_cons, List.any_cons, any_T h2, eqv_keyT]; rfl
theorem map_K {k : Key} {v : V} {d : D} (hv : Rp K G v d) : ∀ {ks : List (Key × V)} {kvs : List (D × D)}, RpK K G ks kvs → RpK K G (ks.map fun kv => if kv.1 = k then (kv.1, v) else kv) (kvs.map fun kv => if PyData.eqv kv.1 (keyD k) = true then (kv.1, d) else kv)
  | _, _, .nil => .nil
  | _, _, .cons (k := k') h1 h2 => by
    rw [List.map_cons, List.map_cons]
    simp only [eqv_key]
    by_cases e : k' = k
    · rw [if_pos e, if_pos (by simpa using e)]; exact .cons hv (map_K hv h2)
    · rw [if_neg e, if_neg (by simpa using e)]; exact .cons h1 (map_K hv h2)
theorem map_T {k : List Key} {v : V} {d : D} (hv : Rp K G v d) : ∀ {ks : List (List Key × V)} {kvs : List (D × D)}, RpT K G ks kvs → RpT K G (ks.map fun kv => if kv.1 = k then (kv.1, v) else kv) (kvs.map fun kv => if PyData.eqv kv.1 (.tuple (k.map keyD)) = true then (kv.1, d) else kv)
  | _, _, .nil => .nil
  | _, _, .cons (k := k') h1 h2 => by
    rw [List.map_cons, List.map_cons]
    simp only [eqv_keyT]
    by_cases e : k' = k
    · rw [if_pos e, if_pos (by simpa using e)]; exact .cons hv (map_T hv h2)
    · rw [if_neg e, if_neg (by simpa using e)]; exact .cons h1 (map_T hv h2)
theorem app_K {k : Key} {v : V} {d : D} (hv : Rp K G v d) : ∀ {ks : List (Key × V)} {kvs : List (D × D)}, RpK K G ks kvs → RpK K G (ks ++ [(k, v)]) (kvs ++ [(keyD k, d)])
  | _, _, .nil => .cons hv .nil
  | _, _, .cons h1 h2 => .cons h1 (app_K hv h2)
theorem app_T {k : List Key} {v : V} {d : D} (hv : Rp K G v d) : ∀ {ks : List (List Key × V)} {kvs : List (D × D)}, RpT K G ks kvs → RpT K G (ks ++ [(k, v)]) (kvs ++ [(.tuple (k.map keyD), d)])
  | _, _, .nil => .cons hv .nil
  | _, _, .cons h1 h2 => .cons h1 (app_T hv h2)
theorem len_K : ∀ {ks : List (Key × V)} {kvs : List (D × D)}, RpK K G ks kvs → ks.length = kvs.length
  | _, _, .nil => rfl
  | _, _, .cons h1 h2 => by rw [List.length_cons, List.length_cons, len_K h2]
theorem len_T : ∀ {ks : List (List Key × V)} {kvs : List (D × D)}, RpT K G ks kvs → ks.length = kvs.length
  | _, _, .nil => rfl
  | _, _, .cons h1 h2 => by rw [List.length_cons, List.length_cons, len_T h2]
/-- what is put -/
theorem dput_of {t : Bool} {o : HO} {kvs : List (D × D)} {a : Addr} {y v : V} {d e : D} (h : RpD K G t o kvs) (ho : H a = some o) (hk : okKey t d = true) (hy : Rp K H y d) (hv : Rp K G v e) (hl : kvs.length < 16777216) : ∃ o', DPut H a y v (upd H a o') ∧ RpD K G t o' (putD kvs d e) := by
  rcases h with ⟨rfl, ks, rfl, h2⟩ | ⟨rfl, ks, rfl, h2⟩
  · obtain ⟨k, rfl⟩ := okKey_K hk
    rw [rp_key hy]
    refine ⟨_, DPut.k ho (by rw [len_K h2, ← sl_eq]; exact hl), .inl ⟨rfl, _, rfl, ?_⟩⟩
    unfold putK putD
    rw [any_K h2]
    by_cases e : hasK kvs (keyD k) = true
    · rw [if_pos e, if_pos e]; exact map_K hv h2
    · rw [if_neg e, if_neg e]; exact app_K hv h2
  · obtain ⟨k, rfl⟩ := okKey_T hk
    obtain ⟨b, rfl, hb⟩ := rp_keyT hy
    refine ⟨_, DPut.t ho hb (by rw [len_T h2, ← sl_eq]; exact hl), .inr ⟨rfl, _, rfl, ?_⟩⟩
    unfold putK putD
    rw [any_T h2]
    by_cases e : hasK kvs (.tuple (k.map keyD)) = true
    · rw [if_pos e, if_pos e]; exact map_T hv h2
    · rw [if_neg e, if_neg e]; exact app_T hv h2
end
/-! ### {} -/
def mDct (t : Bool) : M := fun env => .ok (.dct t [], env)
theorem RVal.newD {K : PySem.W.Frag} {ζ : Option ZI} {G A : Hp} {L : Nat → Option Addr} {H : Hp} {σ : St} {env : Env} (R : REnv K ζ G A L H σ env) {t : Bool} {p : Addr} (hp : H p = none) {o : HO} {xs : List (D × D)} (h : RpD K G t o xs) : RVal K G A L (upd H p o) σ env (.dct t xs) (.ref p) := by
  refine ⟨p, o, rfl, upd_same, R.gh.free hp, R.ah.free hp, h, fun i x e m z => ?_, fun i z => ?_⟩
  · obtain ⟨vs, h1, _⟩ := slot_alive R e m z
    rw [hp] at h1; cases h1
  · obtain ⟨u, h1⟩ := pin_alive R z
    rw [hp] at h1; cases h1
theorem Post.dct {K : PySem.W.Frag} {ζ : Option ZI} {G A : Hp} {L : Nat → Option Addr} {H : Hp} {σ : St} {env : Env} {Q : VK} (R : REnv K ζ G A L H σ env) {t : Bool} {o : HO} {xs : List (D × D)} (h : RpD K G t o xs) (q : Post K ζ G A L σ env (.dct t xs) Q) : ∀ p, H p = none → Q (.ref p) (upd H p o) :=
  fun p hp => q _ _ G (fun _ _ z => z) (R.lay0 hp _) (RVal.newD R hp h)
section
variable {X : Cx} {ζ : Option ZI} {W : WX} {pos apos cpos : Pos}
theorem r_newK : PE X (.Dict [] [] pos) (tM X.K ζ (mDct false)) := pew pe_dnewK fun σ H Q q => by
  obtain ⟨G, A, L, env, r0, env', R, e, q⟩ := q
  cases e
  exact Post.dct R (.inl ⟨rfl, _, rfl, .nil⟩) q
theorem r_newT : PE X (.Dict [] [] pos) (tM X.K ζ (mDct true)) := pew pe_dnewT fun σ H Q q => by
  obtain ⟨G, A, L, env, r0, env', R, e, q⟩ := q
  cases e
  exact Post.dct R (.inr ⟨rfl, _, rfl, .nil⟩) q
end
/-! ### d[k], k in d -/
def oDGet (x y : O) : Res O := match x.dd, y.d with
  | some (t, kvs), some k => if okKey t k = true then (match getK kvs k with
      | some d => .ok (.val d)
      | none => .stuck)
    else .stuck
  | _, _ => .stuck
def oDIn (x y : O) : Res O := match y.dd, x.d with
  | some (t, kvs), some k => if okKey t k = true then .ok (.val (.bool (getK kvs k).isSome)) else .stuck
  | _, _ => .stuck
def oDNotIn (x y : O) : Res O := match y.dd, x.d with
  | some (t, kvs), some k => if okKey t k = true then .ok (.val (.bool (!(getK kvs k).isSome))) else .stuck
  | _, _ => .stuck
def rDGet : R2 := fun x y H Q => ∃ a v, x = .ref a ∧ DGet H a y (some v) ∧ Q v H
def rDIn : R2 := fun x y H Q => ∃ a o, y = .ref a ∧ DGet H a x o ∧ Q (.bl o.isSome) H
def rDNotIn : R2 := fun x y H Q => ∃ a o, y = .ref a ∧ DGet H a x o ∧ Q (.bl (!o.isSome)) H
theorem sem_dget {K : PySem.W.Frag} : Sem2 K oDGet rDGet := by
  intro ζ G A L H σ env x y rx ry r0 Q R hx hy e q
  unfold oDGet at e
  split at e
  · rename_i t kvs k ex ey
    split at e
    · rename_i hk
      split at e
      · rename_i d ed
        cases e
        obtain ⟨p, o, rfl, hp, hd⟩ := hx.dd R.gh ex
        obtain ⟨r, h1, h2⟩ := dget_of hd R.gh hp hk (hy.d R.gh ey)
        rw [ed] at h2
        obtain ⟨v, rfl, h3⟩ := h2.some
        exact ⟨p, v, rfl, h1, q.val R h3⟩
      · cases e
    · cases e
  · cases e
theorem sem_din {K : PySem.W.Frag} : Sem2 K oDIn rDIn := by
  intro ζ G A L H σ env x y rx ry r0 Q R hx hy e q
  unfold oDIn at e
  split at e
  · rename_i t kvs k ex ey
    split at e
    · rename_i hk
      cases e
      obtain ⟨p, o, rfl, hp, hd⟩ := hy.dd R.gh ex
      obtain ⟨r, h1, h2⟩ := dget_of hd R.gh hp hk (hx.d R.gh ey)
      rw [← h2.isSome] at q
      exact ⟨p, r, rfl, h1, q.val R (.bl _)⟩
    · cases e
  · cases e
theorem sem_dnotIn {K : PySem.W.Frag} : Sem2 K oDNotIn rDNotIn := by
  intro ζ G A L H σ env x y rx ry r0 Q R hx hy e q
  unfold oDNotIn at e
  split at e
  · rename_i t kvs k ex ey
    split at e
    · rename_i hk
      cases e
      obtain ⟨p, o, rfl, hp, hd⟩ := hy.dd R.gh ex
      obtain ⟨r, h1, h2⟩ := dget_of hd R.gh hp hk (hx.d R.gh ey)
      rw [← h2.isSome] at q
      exact ⟨p, r, rfl, h1, q.val R (.bl _)⟩
    · cases e
  · cases e
theorem op_inDict {X : Cx} (hu : X.A.units + 65 < cLine) : OpR X (compareOp .In) rDIn := by
  intro pins s σ H x y v u Q I rx ry h
  obtain ⟨a, o, rfl, g, q⟩ := h
  obtain rfl : u = Value.ref a := ry
  exact d_in (by omega) I g rx fun s3 I3 => ⟨.bl o.isSome, H, I3, rfl, q⟩
theorem op_notInDict {X : Cx} (hu : X.A.units + 65 < cLine) : OpR X (compareOp .NotIn) rDNotIn := by
  intro pins s σ H x y v u Q I rx ry h
  obtain ⟨a, o, rfl, g, q⟩ := h
  obtain rfl : u = Value.ref a := ry
  exact d_notIn (by omega) I g rx fun s3 I3 => ⟨.bl (!o.isSome), H, I3, rfl, q⟩
section
variable {X : Cx} {ζ : Option ZI} {W : WX} {a b e : Expr} {oa ob : Opd} {pos apos cpos p2 : Pos} {i : Nat} {ix m mk mx : M}
theorem r_dget (hu : X.A.units + 65 < cLine) (ha : PE X a (tOpd X.K ζ oa)) (hb : PE X b (tOpd X.K ζ ob)) (hs : NoSl b) : PE X (.Subscript a b pos) (tM X.K ζ (m2 oDGet oa ob)) :=
  pew (pe_dget (by omega) ha hb hs) fun _ _ _ q => m2_ok sem_dget q
/-! ### d[k] = v -/
def dsetF (i : Nat) (env : Env) (v k : O) : O → SRes
  | .dct t kvs => match v, k with
    | .val d, .val kd => if (okKey t kd && Nat.blt kvs.length 16777216) = true then .next (env.set i (.dct t (putD kvs kd d))) else .stuck
    | _, _ => .stuck
  | _ => .stuck
def sDSet (i : Nat) (k m : M) : S := fun env => ofRes (frz m env) fun p => if (p.2.getD i .un).live = true then ofRes (k p.2) fun q => dsetF i q.2 p.1 q.1 (q.2.getD i .un) else .stuck
theorem dset_ok {K : PySem.W.Frag} {mg : Str → Option Value} {D : Ends} {σ : St} {H : Hp} (q : tS K ζ mg W (sDSet i ix m) D σ H) : sDPut (tVar i) (tM K ζ ix) (tM K ζ (frz m)) D σ H := by
  obtain ⟨G, A, L, env, R, q⟩ := q
  unfold sDSet at q
  cases h : frz m env with
  | exc e => rw [h] at q; exact q.elim
  | stuck => rw [h] at q; exact q.elim
  | ok p =>
    rw [h] at q
    simp only [ofRes] at q
    split at q
    · rename_i l
      cases h2 : ix p.2 with
      | exc e => rw [h2] at q; exact q.elim
      | stuck => rw [h2] at q; exact q.elim
      | ok r =>
        rw [h2] at q
        simp only at q
        refine ⟨G, A, L, env, p.1, p.2, R, h, fun v H1 G1 s1 R1 hv => ?_⟩
        obtain ⟨w, hw⟩ := live_val R1 l
        refine ⟨w, hw, G1, A, L, p.2, r.1, r.2, R1, h2, fun y H2 G2 s2 R2 hy => ?_⟩
        cases es : r.2.getD i .un with
        | dct t kvs =>
          rw [es] at q
          cases ev : p.1 with
          | val d =>
            cases ek : r.1 with
            | val kd =>
              rw [ev, ek] at q
              simp only [dsetF] at q
              split at q
              · rename_i hk
                rw [Bool.and_eq_true, Nat.blt_eq] at hk
                have eo := getD_some es rfl
                obtain ⟨p', o, e1, hp, gp, ap, rv⟩ := R2.sl i _ _ eo hw
                cases e1
                rw [ev] at hv
                rw [ek] at hy
                have hv' : Rp K G1 v d := hv
                have hy' : Rp K G2 y kd := hy
                obtain ⟨o', g1, g2⟩ := dput_of rv hp hk.1 (hy'.m R2.gh) (hv'.m s2) hk.2
                exact ⟨p', _, rfl, g1, q σ _ G2 (s1.trans s2) (mutateO R2 eo rfl hw ⟨p', o', rfl, upd_same, gp, ap, g2⟩ (fun w zs z => by cases z))⟩
              · exact q.elim
            | _ => rw [ev, ek] at q; exact q.elim
          | _ => rw [ev] at q; exact q.elim
        | _ => rw [es] at q; exact q.elim
    · exact q.elim
theorem rs_dset {o ie : Expr} (hu : X.A.units + 65 < cLine) (ho : PE X o (tVar i)) (hi : PE X ie (tM X.K ζ ix)) (he : PE X e (tM X.K ζ m)) (hs : swapsWith e (some (.Subscript o ie p2)) pos.line X.env = pure false := by rfl) :
    PS X (.Assign [.Subscript o ie p2] e pos) (tS X.K ζ X.mg W (sDSet i ix m)) :=
  psw (ps_dput (by omega) ho hi (r_frz he) hs) fun D σ H q => dset_ok q
/-! ### d.get(k), d.get(k, x) -/
theorem isD_of {K : PySem.W.Frag} {G H : Hp} {t : Bool} {o : HO} {kvs : List (D × D)} {p : Addr} (h : RpD K G t o kvs) (hp : H p = some o) : IsD H p := by
  rcases h with ⟨_, ks, rfl, _⟩ | ⟨_, ks, rfl, _⟩
  · exact .inl ⟨ks, .inl hp⟩
  · exact .inr ⟨ks, .inl hp⟩
def oDGet1 (x y : O) : Res O := match x.dd, y.d with
  | some (t, kvs), some k => if okKey t k = true then .ok (.val ((getK kvs k).getD .none)) else .stuck
  | _, _ => .stuck
def mDM (i : Nat) (a : Opd) (f : O → O → Res O) : M := fun env => if (env.getD i .un).dd.isSome = true then m2 f (.pk i) a env else .stuck
theorem sem_dget1 {K : PySem.W.Frag} : Sem2 K oDGet1 fun x y H Q => ∃ a o, x = .ref a ∧ DGet H a y o ∧ Q (o.getD .non) H := by
  intro ζ G A L H σ env x y rx ry r0 Q R hx hy e q
  unfold oDGet1 at e
  split at e
  · rename_i t kvs k ex ey
    split at e
    · rename_i hk
      cases e
      obtain ⟨p, o, rfl, hp, hd⟩ := hx.dd R.gh ex
      obtain ⟨r, h1, h2⟩ := dget_of hd R.gh hp hk (hy.d R.gh ey)
      exact ⟨p, r, rfl, h1, q.val R h2.get⟩
    · cases e
  · cases e
theorem dm_ok {K : PySem.W.Frag} {a : Opd} {f : O → O → Res O} {r : R2} (hf : Sem2 K f r) {σ : St} {H : Hp} {Q : VK} (h : tM K ζ (mDM i a f) σ H Q) : ∃ p, σ[i]? = some (some (.ref p)) ∧ IsD H p ∧ tOpd K ζ a σ H fun y H2 => r (.ref p) y H2 Q := by
  obtain ⟨G, A, L, env, r0, env', R, e, q⟩ := h
  unfold mDM at e
  split at e
  · rename_i hs
    obtain ⟨⟨t, kvs⟩, hx⟩ := Option.isSome_iff_exists.mp hs
    have l := dd_live hx
    obtain ⟨v, hv⟩ := live_val R l
    have rd : Rdy K G H _ v := ROp.rdy R (o := .pk i) ⟨hv, rfl⟩ l
    obtain ⟨p, o, rfl, hp, hd⟩ := rd.dd R.gh hx
    refine ⟨p, hv, isD_of hd hp, ?_⟩
    obtain ⟨⟨rs, e2⟩, h1, h⟩ := bind_eq_ok e
    unfold pass at h1
    rw [if_pos l] at h1
    obtain ⟨⟨rs1, e3⟩, h2, h1⟩ := bind_eq_ok h1
    cases h1
    have fin : tAll K ζ [a] σ H (fun vs H' => ∀ y, vs = [y] → r (.ref p) y H' Q) := pass_all [a] R h2 fun ws H' G' s R' ops => by
      cases ops with
      | cons o1 t =>
        cases t
        rintro y ⟨⟩
        unfold fin2 at h
        simp only at h
        split at h
        · rename_i l2
          obtain ⟨r', h3, h⟩ := bind_eq_ok h
          cases h
          have l3 := Bool.and_eq_true_iff.mp l2
          exact hf R' (ROp.rdy R' (o := .pk i) ⟨hv, rfl⟩ l3.1) (ROp.rdy R' o1 l3.2) h3 (Post.of s q)
        · cases h
    exact tOpd_mono (fun v H q => q v rfl) fin
  · cases e
theorem r_get1 {o : Expr} (hu : X.A.units + 65 < cLine) (ho : PE X o (tVar i)) (he : PE X e (tOpd X.K ζ ob))
    (m : M1 X o "get" apos e cpos := by exact ⟨rfl, rfl, rfl, rfl⟩) : PE X (.Call (.Attribute o "get" apos) [e] [] cpos) (tM X.K ζ (mDM i ob oDGet1)) :=
  pew (pe_dget1 (by omega) ho he m) fun σ H Q q => by
    obtain ⟨p, h1, h2, h3⟩ := dm_ok sem_dget1 q
    exact ⟨_, h1, p, rfl, h2, tOpd_mono (fun v H q => by obtain ⟨a, o, e, g, q⟩ := q; cases e; exact ⟨o, g, q⟩) h3⟩
def fin3g (p : List O × Env) : Res (O × Env) := match p.1 with
  | [x, .val k, .val w] => match x.dd with
    | some (t, kvs) => if (x.live && okKey t k) = true then .ok (.val ((getK kvs k).getD w), p.2) else .stuck
    | none => .stuck
  | _ => .stuck
def mDGet2 (i : Nat) (a b : M) : M := fun env => if (env.getD i .un).dd.isSome = true then (pass [.pk i, .m (frz a), .m (frz b)] env).bind fin3g else .stuck
theorem dget2_ok {K : PySem.W.Frag} {a b : M} {σ : St} {H : Hp} {Q : VK} (h : tM K ζ (mDGet2 i a b) σ H Q) : tDGet2 (tVar i) (tM K ζ (frz a)) (tM K ζ (frz b)) σ H Q := by
  obtain ⟨G, A, L, env, r0, env', R, e, q⟩ := h
  unfold mDGet2 at e
  split at e
  · rename_i hs
    obtain ⟨⟨t, kvs⟩, hx⟩ := Option.isSome_iff_exists.mp hs
    have l := dd_live hx
    obtain ⟨v, hv⟩ := live_val R l
    have rd : Rdy K G H _ v := ROp.rdy R (o := .pk i) ⟨hv, rfl⟩ l
    obtain ⟨p, o, rfl, hp, hd⟩ := rd.dd R.gh hx
    refine ⟨_, hv, p, rfl, isD_of hd hp, ?_⟩
    obtain ⟨⟨rs, e2⟩, h1, h⟩ := bind_eq_ok e
    unfold pass at h1
    rw [if_pos l] at h1
    obtain ⟨⟨rs1, e3⟩, h2, h1⟩ := bind_eq_ok h1
    cases h1
    have fin : tAll K ζ [.m (frz a), .m (frz b)] σ H (fun vs H' => ∀ y z, vs = [y, z] → ∃ o, DGet H' p y o ∧ Q (o.getD z) H') := pass_all [.m (frz a), .m (frz b)] R h2 fun ws H' G' s R' ops => by
      cases ops with
      | cons o1 tl =>
        cases tl with
        | cons o2 tl =>
          cases tl
          rintro y z ⟨⟩
          unfold fin3g at h
          simp only at h
          split at h
          · rename_i x' k w eq
            cases eq
            split at h
            · rename_i t' kvs' ex
              split at h
              · rename_i l2
                cases h
                rw [Bool.and_eq_true] at l2
                have r1 : Rdy K G' H' _ (.ref p) := ROp.rdy R' (o := .pk i) ⟨hv, rfl⟩ l2.1
                obtain ⟨p', o', e1, hp', hd'⟩ := r1.dd R'.gh ex
                cases e1
                have hy : Rp K G' _ k := o1
                have hz : Rp K G' _ w := o2
                obtain ⟨r, g1, g2⟩ := dget_of hd' R'.gh hp' l2.2 (hy.m R'.gh)
                exact ⟨r, g1, (Post.of s q).val R' (g2.get2 hz)⟩
              · cases h
            · cases h
          · cases h
    exact tOpd_mono (o := .m (frz a)) (fun v H q => tOpd_mono (o := .m (frz b)) (fun w H q => q v w rfl) q) fin
  · cases e
theorem r_get2 {o f : Expr} {ma mb : M} (hu : X.A.units + 65 < cLine) (ho : PE X o (tVar i)) (he : PE X e (tM X.K ζ ma)) (hf : PE X f (tM X.K ζ mb))
    (m : M2 X o "get" apos e f cpos := by exact ⟨rfl, rfl, rfl, rfl⟩) : PE X (.Call (.Attribute o "get" apos) [e, f] [] cpos) (tM X.K ζ (mDGet2 i ma mb)) :=
  pew (pe_dget2 (by omega) ho (r_frz he) (r_frz hf) m) fun σ H Q q => dget2_ok q
end
end SE

namespace SE
open PySem L2 RZ PyProof.Rows PySem.W
/-! ### sorted(d), any number of keys -/
theorem sort_list {prog : Program} {w : World} {A : Around} {E : Value → Shared → Prop} {s : Shared} {β : Type} {vs : List Value} {bs : List β} {enc : β → PyData} {R : Value → β → Prop} {a : Addr} {n : Nat} {Q : Value → Shared → Prop} (ho : s.heap.get? a = some (seqObj "list" vs.toArray n)) (e : EachIs R vs bs)
    (er' : EachIs (fun v b => ∃ as, Reads (sortingHeap s.heap a vs) v (enc b) as) vs bs) (hal : AllAlike (bs.map enc)) (hk : Sortable (bs.map enc)) (hL : bs.length ≤ sizeLine)
    (hu : ∀ b, b ∈ bs → A.units + 1 + (enc b).depth < cLine) (h : ∀ out, out.length = bs.length → EachIs R out (bs.mergeSort (dataLe false enc)) → Q .none { s with heap := sortedHeap s.heap a vs (List.toArray out) }) :
    wpAny (model prog w) A (call (.builtin "list.sort") [.ref a]) Q E s := by
  refine wpAny_call_entry slot_list_sort ⟨_, ho, rfl⟩ entry_list_sort (list_sort_vals (κ := dataKind (sortingHeap s.heap a vs) (bs.map enc)) ho (SortsAt.data (s := { s with heap := sortingHeap s.heap a vs }) (each_map (R := fun v d => ∃ as, Reads (sortingHeap s.heap a vs) v d as) enc er') hal hk (bound_map hu)) (by rw [e.length]; exact hL) ⟨.none, rfl, ?_⟩) (args_list_sort _)
  exact h _ (by rw [sortVals_length false rfl]; exact e.length) (sortVals_data false e er' hal)
theorem each_vals' {β : Type} {val : β → V} : ∀ {vs : List Value} {bs : List β}, EachIs (fun v b => RelV (val b) v) vs bs → Vals (bs.map val) vs
  | _, _, .nil => .nil
  | _, _, .cons h t => .cons h (each_vals' t)
/-- a new list of such values, sorted -/
theorem sort_new {X : Cx} {pins : List (Addr × Obj)} {σ : L2.St} {H : Hp} {s : Shared} {β : Type} {vs : List Value} {bs : List β} {enc : β → PyData} {val : β → V} {A : Around} {Q : Fin → Shared → Prop} {E : Value → Shared → Prop} (I : Inv X pins σ H s) (e : EachIs (fun v b => RelV (val b) v) vs bs)
    (er : EachIs (fun v b => ∃ as, Reads s.heap v (enc b) as) vs bs) (hal : AllAlike (bs.map enc)) (hk : Sortable (bs.map enc)) (hL : bs.length ≤ sizeLine) (hu : ∀ b, b ∈ bs → A.units + 2 + (enc b).depth < cLine)
    (q : ∀ s', Inv X pins σ (upd H s.heap.objs.size (.lst ((bs.mergeSort (dataLe false enc)).map val))) s' → Q (.done (.ret (.ref s.heap.objs.size))) s') :
    wpAny (model X.prog X.w) A (newList vs >>= fun l => holding [l] (call (.builtin "list.sort") [l]) >>= fun _ => ret l) Q E s := by
  refine wpAny_bind (wpAny_newList ?_ (by rw [e.length]; exact hL))
  have hoL : (s.heap.push (seqObj "list" vs.toArray 0)).get? s.heap.objs.size = some (seqObj "list" vs.toArray 0) := Heap.get?_push_size _ rfl
  have old : ∀ b o, s.heap.get? b = some o → (sortingHeap (s.heap.push (seqObj "list" vs.toArray 0)) s.heap.objs.size vs).get? b = some o := fun b o ho => by
    rw [sortingHeap_old (Nat.ne_of_lt (Heap.lt_size ho)) (Heap.get?_push_of_some _ ho)]
  have er' : EachIs (fun v b => ∃ as, Reads (sortingHeap (s.heap.push (seqObj "list" vs.toArray 0)) s.heap.objs.size vs) v (enc b) as) vs bs := er.mono fun _ _ ⟨as, r⟩ => ⟨as, PyProof.Rows.Reads.keeps old r⟩
  show wpAny _ _ _ _ _ { s with heap := s.heap.push (seqObj "list" vs.toArray 0) }
  refine wpAny_bind (wpAny_holding (sort_list (s := { s with heap := s.heap.push (seqObj "list" vs.toArray 0) }) hoL e er' hal hk hL (fun b hb => by have := hu b hb; omega) fun out h1 h2 => ?_))
  obtain ⟨e', he'⟩ := PyProof.Rows.sortedHeap_at (vs := vs) (out := out.toArray) hoL
  refine wpAny_pure (q _ (I.laid (t' := s.toks) (fun b u e => ?_) (Nat.le_refl _) ⟨?_, out, e', each_vals' h2, he'⟩))
  · have hb : b < s.heap.objs.size := Heap.lt_size e
    rw [PyProof.Rows.sortedHeap_old (Nat.ne_of_lt hb) (by rw [size_push']; exact Nat.lt_succ_of_lt hb)]
    exact Heap.get?_push_of_some _ e
  · rw [List.length_map, (List.mergeSort_perm bs _).length_eq]; exact hL
theorem each_get {α β : Type} {R : α → β → Prop} : ∀ {as : List α} {bs : List β}, as.length = bs.length → (∀ (j : Nat) (a : α) (b : β), as[j]? = some a → bs[j]? = some b → R a b) → EachIs R as bs
  | [], [], _, _ => .nil
  | a :: as, b :: bs, hl, h => .cons (h 0 a b rfl rfl) (each_get (by simpa using hl) fun j x y e1 e2 => h (j + 1) x y (by simpa using e1) (by simpa using e2))
  | [], _ :: _, hl, _ => by simp at hl
  | _ :: _, [], hl, _ => by simp at hl
theorem key_reads {h : Heap} {k : Key} {u : Value} (r : RelV (kV k) u) : ∃ as, Reads h u (keyD k) as := by
  cases k with
  | inl i => obtain ⟨t, rfl⟩ := r; exact ⟨_, Reads.int i t⟩
  | inr x => obtain ⟨t, rfl⟩ := r; exact ⟨_, Reads.str x t⟩
def rSortDK : List V → Hp → VK → Prop := fun xs H Q => ∃ (a : Addr) (kvs : List (Key × V)), xs = [.ref a] ∧ H a = some (.dK kvs) ∧ AllAlike ((kvs.map (·.1)).map keyD) ∧
  ∀ p, H p = none → Q (.ref p) (upd H p (.lst (((kvs.map (·.1)).mergeSort (dataLe false keyD)).map kV)))
theorem cr_sortDK {X : Cx} (hc : X.calm = true) (hu : X.A.units + 65 < cLine) : CallR X (.builtin "sorted") rSortDK := by
  intro pins s σ H xs us Q I r q
  obtain ⟨a, kvs, rfl, hd, hal, q⟩ := q
  obtain ⟨u, rfl, rx⟩ := vals1 r
  obtain rfl : u = Value.ref a := rx
  obtain ⟨z, lo, vs, rel, dd⟩ := dk_of I.hok hd
  obtain ⟨ep, hat⟩ := dd.dictAt
  have hkeys : vs.map (·.1) = kvs.map (·.1) := rel.keys.symm
  have hl : vs.length = kvs.length := rel.length.symm
  refine Calls.call_function_entry PyProof.Rows.kind_sorted PyProof.Rows.plain_sorted PyProof.Rows.entry_sorted (PyProof.Rows.args_sorted1 _) ?_
  unfold Builtin.«sorted»
  refine wpAny_bind (m := checkCount "sorted" 1 1 _) (wpAny_pure ?_)
  refine wpAny_bind (kdu_collect (A := X.A.in1) (kdl_dict (knd := mixKind X.prog X.w) (kvs := vs) (ep := ep) lo) (I.ok.hd hc) hat (by rw [hl]; exact z) fun h' tk acc hk hacc => ?_)
  have hal2 : acc.toList.length = (kvs.map (·.1)).length := by rw [Array.length_toList, hacc.1, hl, List.length_map]
  have I1 : Inv X pins σ H { s with heap := h', toks := tk } := I.kept hk
  have hR : EachIs (fun v k => RelV (kV k) v) acc.toList (kvs.map (·.1)) := each_get hal2 fun j v k e1 e2 => by
    obtain ⟨k', x, e3, e4⟩ := hacc.2 j v (by rw [← Array.getElem?_toList]; exact e1)
    have e5 : (vs.map (·.1))[j]? = some k' := by rw [List.getElem?_map, e3]; rfl
    rw [hkeys, e2] at e5
    cases e5
    exact relV_key (show keyIs k v = true from e4)
  refine sort_new (s := { s with heap := h', toks := tk }) (val := kV) (enc := keyD) I1 hR (hR.mono fun v k hv => key_reads hv) hal (.inr fun d hd => ?_) (by rw [List.length_map]; exact z) (fun k hk => ?_) fun s' I' => ⟨_, rfl, .ref h'.objs.size, _, I', rfl, q _ (I1.hok.fresh (Nat.le_refl _))⟩
  · obtain ⟨k, _, rfl⟩ := List.mem_map.mp hd
    cases k <;> exact ⟨fun z => (by cases z), fun xs z => (by cases z)⟩
  · have : (keyD k).depth = 0 := by cases k <;> simp [keyD, PyData.depth]
    show X.A.units + 1 + 2 + _ < _
    omega
/-! ### sorted(d.items()) -/
/-- the pairs are laid -/
theorem tups_laid {X : Cx} {pins : List (Addr × Obj)} {σ : L2.St} {H : Hp} {s : Shared} {h' : Heap} {tk : Nat} {kvs : List (Key × V)} {vs : List (Key × Value)} {as : List Addr} (I : Inv X pins σ H s) (kv : KV kvs vs)
    (hk : ∀ b o, s.heap.get? b = some o → h'.get? b = some o) (hl : as.length = vs.length) (hG : PySem.W.KdxG (mixKind X.prog X.w) vs s.heap.objs.size h' as) :
    (∀ t ∈ as, H t = none) ∧ as.Nodup ∧ Paired (fun (t : Addr) (q : Key × V) => LiI.putT H as kvs t = some (.tup [kV q.1, q.2])) as kvs ∧ Inv X pins σ (LiI.putT H as kvs) { s with heap := h', toks := tk } := by
  have lk : kvs.length = vs.length := Paired.length kv
  have nd : as.Nodup := List.Pairwise.imp (fun {a b} (h : a < b) => Nat.ne_of_lt h) hG.rise
  have new : ∀ t ∈ as, H t = none := fun t ht => I.hok.fresh (Nat.le_of_lt (hG.above t ht))
  have atP := LiI.putT_at as kvs H (by omega) nd
  have off : ∀ b, b ∉ as → LiI.putT H as kvs b = H b := fun b h1 => LiI.putT_off as kvs _ h1
  have kp : ∀ b u, H b = some u → (LiI.putT H as kvs) b = some u := fun b u e => by
    rw [off b (fun z => by rw [new b z] at e; cases e)]
    exact e
  refine ⟨new, nd, atP, ?_⟩
  refine I.call' (ch := []) rfl ⟨fun b o q _ _ _ => hk b o q, fun b o q _ _ _ => ⟨o.slots, hk b o q⟩, fun b o q n _ => ?_, fun b o q _ => ⟨o, hk b o q⟩, fun b xs q => kp b _ q, fun b o u q => kp b _ q, fun b ps q => ⟨#[], by rw [kp b _ q]; simp⟩⟩ (fun b u q => ?_) I.bare fun b z => by simp at z
  · have z1 : b ∉ as := fun z => absurd (Heap.lt_size q) (Nat.not_lt.mpr (Nat.le_of_lt (hG.above b z)))
    rw [off b z1]
    exact n
  · by_cases hb : b ∈ as
    · obtain ⟨j, pk, e1, e2, e3⟩ := LiI.paired_ix atP hb
      rw [e3] at q
      cases q
      obtain ⟨key, k, x, f1, f2, f3⟩ := hG.pairs j b e1
      obtain ⟨qv, g1, g2, g3⟩ := LiI.paired_get kv e2
      rw [f1] at g1
      cases g1
      have rk : RelV (kV pk.1) key := by
        rw [g2]
        exact relV_key (show keyIs k key = true from f2)
      exact ⟨by show 2 ≤ sizeLine; decide, [key, x], .cons rk (.cons g3 .nil), ⟨_, f3, rfl, _, rfl⟩⟩
    · rw [off b hb] at q
      exact (I.hok b u q).stay (fun d v _ y => hk d v y) (fun d y => kp d _ y) fun d xs y => kp d _ y
/-- what is sorted: an address, a key, a value, the value's datum -/
abbrev Itm := Addr × Key × V × D
def itD (z : Itm) : D := .tuple [keyD z.2.1, z.2.2.2]
def rSortIt (K : PySem.W.Frag) : V → Hp → VK → Prop := fun x H Q => ∃ (a : Addr) (kvs : List (Key × V × D)), x = .ref a ∧ H a = some (.dK (kvs.map fun z => (z.1, z.2.1))) ∧ (∀ z ∈ kvs, ∀ H', Same H H' → Dp K H' z.2.1 z.2.2) ∧ AllAlike (kvs.map fun z => PyData.tuple [keyD z.1, z.2.2]) ∧ (∀ z ∈ kvs, z.2.2.depth ≤ 7) ∧
  ∀ (as : List Addr) (p : Addr) (H' : Hp), as.length = kvs.length → Same H H' → H p = none → H' p = some (.lst (((as.zip kvs).mergeSort (dataLe false itD)).map fun z => .ref z.1)) →
    (∀ z ∈ as.zip kvs, H' z.1 = some (.tup [kV z.2.1, z.2.2.1])) → (∀ t ∈ as, H t = none) → p ∉ as → Q (.ref p) H'
theorem paired_zip {α β : Type} {F : α → β → Prop} : ∀ {xs : List α} {ys : List β}, Paired F xs ys → ∀ z ∈ xs.zip ys, F z.1 z.2
  | _, _, .nil, z, h => by simp at h
  | _, _, .cons r t, z, h => by
    rw [List.zip_cons_cons, List.mem_cons] at h
    rcases h with rfl | h
    · exact r
    · exact paired_zip t z h
theorem zip_map_r {α β γ : Type} (f : β → γ) : ∀ (xs : List α) (ys : List β), xs.zip (ys.map f) = (xs.zip ys).map fun z => (z.1, f z.2)
  | [], _ => by simp
  | _ :: _, [] => by simp
  | x :: xs, y :: ys => by simp [zip_map_r f xs ys]
theorem pe_sortItems {X : Cx} {e : Expr} {te : TE} {p apos cpos pos : Pos} (hc : X.calm = true) (hu : X.A.units + 65 < cLine) (he : PE X e te) (hm : X.mg "sorted" = none) (hg : Gl X "sorted" := by rfl) (hv : bootBuiltins "sorted" = some (.builtin "sorted") := by decide +kernel) (hbase : attributeBase e "items" X.env (eval e X.env) = eval e X.env := by rfl) (hline : (apos.endLine == cpos.line) = true := by rfl)
    (hs : starEach [.Call (.Attribute e "items" apos) [] [] cpos] X.env = (false, eval (.Call (.Attribute e "items" apos) [] [] cpos) X.env) :: starEach [] X.env := by rfl) (hpl : (backTo pos (starEach [] X.env)).any (·.1) = false := by rfl) :
    PE X (.Call (.Name "sorted" p) [.Call (.Attribute e "items" apos) [] [] cpos] [] pos) (fun σ H Q => te σ H fun x H1 => rSortIt X.K x H1 Q) := by
  refine ⟨fun pins s σ H Q I hq => ?_⟩
  refine wpAny_Call_Name_kw (ld_blt I hg hm hv ?_)
  refine PyProof.Rows.callWith_builtin1 ?_ hs hpl
  rw [hs]
  show wpAny _ _ (spliced ((false, eval (.Call (.Attribute e "items" apos) [] [] cpos) X.env) :: backTo pos (starEach [] X.env))) _ _ s
  refine Calls.spliced_cons ?_
  refine wpAny_Call_method (T := "dict") (id := "dict.items") hbase rfl hline F.plainAttrs_dict F.slot_dict_items F.type_dict_items (thn (he.run pins s σ H _ I hq) fun u s1 ⟨x, H1, I1, rx, d, kvd, ex, hd, hdp, hal, hdd, q⟩ => ?_)
  subst ex
  obtain rfl : u = Value.ref d := rx
  obtain ⟨hz, hs0, vs, kv, hdo⟩ := I1.hok d _ hd
  obtain ⟨ep, hat⟩ := hdo.dictAt
  have lk : kvd.length = vs.length := by have := Paired.length kv; rw [List.length_map] at this; exact this
  rw [List.length_map] at hz
  have I2 : Inv X pins σ H1 { s1 with heap := s1.heap.push { cls := .type "dict_items", data := .fields #[.ref d] } } := I1.kept (t' := s1.toks) fun b ob q => Heap.get?_push_of_some _ q
  refine ⟨hdo.typeIs, hdo.mapOf.noDict, ?_⟩
  show wpAny _ _ (callWith cpos (.builtin "dict.items") [.ref d] [] []) _ X.xe s1
  refine method_meetsIn F.slot_dict_items F.entry_dict_items rfl (PySem.evalArgs_none ⟨rfl, hdo.typeIs, F.args_dict_items_1 _, _, meets_dict_items (mixKind X.prog X.w) d hs0, ⟨vs, hdo⟩, ?_⟩)
  refine Calls.spliced_nil ?_
  refine Calls.call_function_entry PyProof.Rows.kind_sorted PyProof.Rows.plain_sorted PyProof.Rows.entry_sorted (PyProof.Rows.args_sorted1 _) ?_
  unfold Builtin.«sorted»
  refine wpAny_bind (m := checkCount "sorted" 1 1 _) (wpAny_pure ?_)
  refine wpAny_bind (PySem.W.kdx_collect (knd := mixKind X.prog X.w) (kvs := vs) (ep := ep) (I1.ok.hd hc) ⟨_, Heap.get?_push_size _ rfl, rfl, rfl⟩ (hat.push _) (by omega) fun h' tk as hk hl hG => ?_)
  obtain ⟨k1, k2, k3, J⟩ := tups_laid (tk := tk) I2 kv hk hl hG
  have hlen : as.length = kvd.length := by omega
  have hSame : Same H1 (LiI.putT H1 as (kvd.map fun z => (z.1, z.2.1))) := fun b u z => by
    rw [LiI.putT_off as _ _ (fun hb => by rw [k1 b hb] at z; cases z)]; exact z
  have hz3 : ∀ z ∈ as.zip kvd, LiI.putT H1 as (kvd.map fun z => (z.1, z.2.1)) z.1 = some (.tup [kV z.2.1, z.2.2.1]) := fun z hz => by
    have := paired_zip k3 (z.1, (z.2.1, z.2.2.1)) (by rw [zip_map_r]; exact List.mem_map.mpr ⟨z, hz, rfl⟩)
    exact this
  have hmem : ∀ z ∈ as.zip kvd, z.2 ∈ kvd := fun z hz => (List.of_mem_zip (a := z.1) (b := z.2) hz).2
  have hR : EachIs (fun v (z : Itm) => RelV (.ref z.1) v) (as.map Value.ref) (as.zip kvd) := each_get (by rw [List.length_map, List.length_zip]; omega) fun j v z e1 e2 => by
    rw [List.getElem?_map] at e1
    rw [List.getElem?_zip_eq_some] at e2
    rw [e2.1] at e1
    cases e1
    rfl
  have hal' : AllAlike ((as.zip kvd).map itD) := by
    have e : (as.zip kvd).map itD = (kvd.map fun z => PyData.tuple [keyD z.1, z.2.2]) := by
      have : (as.zip kvd).map itD = ((as.zip kvd).map Prod.snd).map fun z => PyData.tuple [keyD z.1, z.2.2] := by rw [List.map_map]; rfl
      rw [this, List.map_snd_zip (by omega)]
    rw [e]; exact hal
  have er : EachIs (fun v (z : Itm) => ∃ bs, Reads h' v (itD z) bs) (as.map Value.ref) (as.zip kvd) := each_get (by rw [List.length_map, List.length_zip]; omega) fun j v z e1 e2 => by
    have hzm : z ∈ as.zip kvd := List.mem_of_getElem? e2
    rw [List.getElem?_map] at e1
    have e2' := e2
    rw [List.getElem?_zip_eq_some] at e2
    rw [e2.1] at e1
    cases e1
    have hd1 : Dp X.K (LiI.putT H1 as (kvd.map fun z => (z.1, z.2.1))) (.ref z.1) (itD z) := by
      refine .tup (.of (hz3 z hzm)) (.cons ?_ (.cons (hdp z.2 (hmem z hzm) _ hSame) .nil))
      rcases z.2.1 with i | x
      · exact .int i
      · exact .str x
    exact Dp.reads J _ _ _ hd1 rfl
  refine sort_new (s := { s1 with heap := h', toks := tk }) (val := fun z : Itm => .ref z.1) (enc := itD) J hR er hal' (.inl fun dd hdm => ?_) (by rw [List.length_zip]; omega) (fun z hzm => ?_) fun s' I' => ⟨_, rfl, .ref h'.objs.size, _, I', rfl, q as _ _ hlen (fun b u z => ?_) ?_ upd_same (fun z hzm => ?_) k1 ?_⟩
  · obtain ⟨z, _, rfl⟩ := List.mem_map.mp hdm
    exact ⟨_, _, rfl⟩
  · have h1 := hdd z.2 (hmem z hzm)
    have h2 : (itD z).depth ≤ 9 := by
      have : (keyD z.2.1).depth = 0 := by cases z.2.1 <;> simp [keyD, PyData.depth]
      simp only [itD, PyData.depth, PyData.depthAll, this]
      omega
    show X.A.units + 1 + 2 + _ < _
    omega
  · have hb : b ≠ h'.objs.size := fun e => by
      have := J.hok.fresh (Nat.le_refl h'.objs.size)
      rw [e] at z
      have := hSame _ _ z
      simp_all
    rw [upd_ne hb]
    exact hSame _ _ z
  · have := J.hok.fresh (Nat.le_refl h'.objs.size)
    cases e : H1 h'.objs.size with
    | none => rfl
    | some u => have := hSame _ _ e; simp_all
  · have hb : z.1 ≠ h'.objs.size := fun e => by
      have h1 := J.hok.fresh (Nat.le_refl h'.objs.size)
      have h2 := hz3 z hzm
      rw [e] at h2
      simp_all
    rw [upd_ne hb]
    exact hz3 z hzm
  · exact fun hb => Nat.lt_irrefl _ (hG.there hb)
end SE

namespace SE
open PySem L2 RZ
/-! ### sorted(d), sorted(d.items()), list(d), d.pop(k, x): d a name -/
theorem rpk_split {K : PySem.W.Frag} {G : Hp} : ∀ {ks : List (Key × V)} {kvs : List (D × D)}, RpK K G ks kvs → ∃ zs : List (Key × V × D), ks = zs.map (fun z => (z.1, z.2.1)) ∧ kvs = zs.map (fun z => (keyD z.1, z.2.2)) ∧ ∀ z ∈ zs, Rp K G z.2.1 z.2.2
  | _, _, .nil => ⟨[], rfl, rfl, fun z h => by cases h⟩
  | _, _, .cons (k := k) (v := v) (d := d) h1 h2 => by
    obtain ⟨zs, e1, e2, e3⟩ := rpk_split h2
    exact ⟨(k, v, d) :: zs, by rw [e1]; rfl, by rw [e2]; rfl, fun z hz => by
      rcases List.mem_cons.mp hz with rfl | hz
      · exact h1
      · exact e3 z hz⟩
def okAlike (ds : List D) : Bool := ds.all fun d => ds.all fun d' => PySem.W.alike d d'
def oSortDK (x : O) : Res O := match x.dd with
  | some (false, kvs) => if okAlike (kvs.map (·.1)) = true then .ok (.own (sortD (kvs.map (·.1)))) else .stuck
  | _ => .stuck
theorem sortD_key (ks : List Key) : (ks.mergeSort (PySem.W.dataLe false keyD)).map keyD = sortD (ks.map keyD) := PySem.W.sort_maps keyD fun a _ b _ => rfl
theorem rp_keyD {K : PySem.W.Frag} {G : Hp} (k : Key) : Rp K G (kV k) (keyD k) := by
  cases k with
  | inl i => exact .int i
  | inr x => exact .str x
theorem rpall_keyD {K : PySem.W.Frag} {G : Hp} : ∀ ks : List Key, RpAll K G (ks.map kV) (ks.map keyD)
  | [] => .nil
  | k :: ks => .cons (rp_keyD k) (rpall_keyD ks)
theorem okAlike_iff {ds : List D} (h : okAlike ds = true) : PySem.W.AllAlike ds := fun d hd d' hd' => List.all_eq_true.mp (List.all_eq_true.mp h d hd) d' hd'
theorem sem_sortDK {K : PySem.W.Frag} : Sem1 K oSortDK fun v H Q => rSortDK [v] H Q := by
  intro ζ G A L H σ env x rx r0 Q R hx e q
  unfold oSortDK at e
  split at e
  · rename_i kvs ed
    split at e
    · rename_i hal
      cases e
      obtain ⟨p, o, rfl, hp, hd⟩ := hx.dd R.gh ed
      rcases hd with ⟨_, ks, rfl, h2⟩ | ⟨h1, _⟩
      · obtain ⟨zs, rfl, rfl, _⟩ := rpk_split h2
        have e1 : ((zs.map fun z => (keyD z.1, z.2.2)).map (·.1)) = (zs.map (·.1)).map keyD := by rw [List.map_map, List.map_map]; rfl
        have e2 : ((zs.map fun z => (z.1, z.2.1)).map (·.1)) = zs.map (·.1) := by rw [List.map_map]; rfl
        rw [e1] at hal q
        refine ⟨p, _, rfl, hp, by rw [e2]; exact okAlike_iff hal, fun p' hp' => ?_⟩
        rw [e2]
        rw [← sortD_key] at q
        exact q.lst R (rpall_keyD _) p' hp'
      · cases h1
    · cases e
  · cases e
def okItems (kvs : List (D × D)) : Bool := okAlike (kvs.map fun kv => .tuple [kv.1, kv.2]) && kvs.all fun kv => kv.2.plain && Nat.ble kv.2.depth 7
def itemsF (env : Env) : Option (Bool × List (D × D)) → Res (O × Env)
  | some (false, kvs) => if okItems kvs = true then .ok (.own (sortD (kvs.map fun kv => .tuple [kv.1, kv.2])), env) else .stuck
  | _ => .stuck
def mSortIt (i : Nat) : M := fun env => itemsF env (env.getD i .un).dd
theorem sortD_itm (zs : List Itm) : (zs.mergeSort (PySem.W.dataLe false itD)).map itD = sortD (zs.map itD) := PySem.W.sort_maps itD fun a _ b _ => rfl
theorem rpall_of {K : PySem.W.Frag} {G : Hp} {β : Type} {f : β → V} {g : β → D} : ∀ {zs : List β}, (∀ z ∈ zs, Rp K G (f z) (g z)) → RpAll K G (zs.map f) (zs.map g)
  | [], _ => .nil
  | z :: zs, h => .cons (h z List.mem_cons_self) (rpall_of fun x hx => h x (List.mem_cons_of_mem _ hx))
open Classical in
theorem sortIt_ok {K : PySem.W.Frag} {ζ : Option ZI} {i : Nat} {σ : St} {H : Hp} {Q : VK} (h : tM K ζ (mSortIt i) σ H Q) : tVar i σ H fun x H1 => rSortIt K x H1 Q := by
  obtain ⟨G, A, L, env, r0, env', R, e, q⟩ := h
  unfold mSortIt at e
  cases hx : (env.getD i .un).dd with
  | none => rw [hx] at e; cases e
  | some tk =>
    obtain ⟨t, kvs⟩ := tk
    rw [hx] at e
    cases t with
    | true => cases e
    | false =>
      simp only [itemsF] at e
      split at e
      · rename_i hok
        cases e
        have l := dd_live hx
        obtain ⟨v, hv⟩ := live_val R l
        have rd : Rdy K G H _ v := ROp.rdy R (o := .pk i) ⟨hv, rfl⟩ l
        obtain ⟨p, o, rfl, hp, hd⟩ := rd.dd R.gh hx
        rcases hd with ⟨_, ks, rfl, h2⟩ | ⟨h1, _⟩
        · obtain ⟨zs, rfl, rfl, hz⟩ := rpk_split h2
          unfold okItems at hok
          rw [Bool.and_eq_true, List.all_eq_true] at hok
          obtain ⟨ok1, ok2⟩ := hok
          have e1 : ((zs.map fun z => (keyD z.1, z.2.2)).map fun kv => PyData.tuple [kv.1, kv.2]) = zs.map fun z => PyData.tuple [keyD z.1, z.2.2] := by rw [List.map_map]; rfl
          rw [e1] at ok1 q
          have ok3 : ∀ z ∈ zs, z.2.2.plain = true ∧ z.2.2.depth ≤ 7 := fun z hzm => by
            have := ok2 _ (List.mem_map.mpr ⟨z, hzm, rfl⟩)
            rw [Bool.and_eq_true, Nat.ble_eq] at this
            exact this
          refine ⟨_, hv, p, zs, rfl, hp, fun z hzm H' hs => Rp.dp _ _ (ok3 z hzm).1 (((hz z hzm).m R.gh).m hs), okAlike_iff ok1, fun z hzm => (ok3 z hzm).2, fun as p' H' hl hs hp' hpl htu hnew hpn => ?_⟩
          let G' : Hp := fun b => if b ∈ as then H' b else G b
          have Gy : ∀ {b : Addr}, b ∈ as → G' b = H' b := fun z => if_pos z
          have Gn : ∀ {b : Addr}, b ∉ as → G' b = G b := fun z => if_neg z
          have gnew : ∀ {b : Addr}, b ∈ as → G b = none := fun hb => R.gh.free (hnew _ hb)
          have GG : Same G G' := fun b u z => by
            rw [Gn (fun hb => by rw [gnew hb] at z; cases z)]; exact z
          have R' : REnv K ζ G' A L H' σ env := by
            refine R.grow GG (fun b u z => ?_) (fun b o g1 a1 h1 => ?_) (fun b o z => hs _ _ (R.ah _ _ z)) (fun b o z => ?_)
            · by_cases hb : b ∈ as
              · rw [Gy hb] at z; exact z
              · rw [Gn hb] at z; exact hs _ _ (R.gh _ _ z)
            · refine ⟨hs _ _ h1, ?_⟩
              rw [Gn (fun hb => by rw [hnew _ hb] at h1; cases h1)]; exact g1
            · rw [Gn (fun hb => by have := R.ah _ _ z; rw [hnew _ hb] at this; cases this)]; exact R.ag _ _ z
          refine q _ _ G' GG R' ?_
          have gp : G p' = none := R.gh.free hp'
          have ez : as.zip zs = as.zip zs := rfl
          have emap : zs.map (fun z => PyData.tuple [keyD z.1, z.2.2]) = (as.zip zs).map itD := by
            have : (as.zip zs).map itD = ((as.zip zs).map Prod.snd).map fun z => PyData.tuple [keyD z.1, z.2.2] := by rw [List.map_map]; rfl
            rw [this, List.map_snd_zip (by omega)]
          rw [emap, ← sortD_itm]
          refine ⟨p', _, rfl, hpl, by rw [Gn hpn]; exact gp, R.ah.free hp', rpall_of fun z hzm => ?_, fun j x e m z => ?_, fun j z => ?_⟩
          · have hzm := (List.mergeSort_perm _ _).mem_iff.mp hzm
            have ha : z.1 ∈ as := (List.of_mem_zip (a := z.1) (b := z.2) hzm).1
            have hb : z.2 ∈ zs := (List.of_mem_zip (a := z.1) (b := z.2) hzm).2
            exact .tup (by rw [Gy ha]; exact htu z hzm) (.cons (rp_keyD _) (.cons ((hz z.2 hb).m GG) .nil))
          · obtain ⟨o, h1, _⟩ := slot_alive R e m z
            rw [hp'] at h1; cases h1
          · obtain ⟨u, h1⟩ := pin_alive R z
            rw [hp'] at h1; cases h1
        · cases h1
      · cases e
section
variable {X : Cx} {ζ : Option ZI} {o e f : Expr} {i : Nat} {p apos cpos pos : Pos}
theorem r_sortIt (hc : X.calm = true) (hu : X.A.units + 65 < cLine) (ho : PE X o (tVar i)) (hm : X.mg "sorted" = none) (hg : Gl X "sorted" := by rfl) (hv : bootBuiltins "sorted" = some (.builtin "sorted") := by decide +kernel) (hbase : attributeBase o "items" X.env (eval o X.env) = eval o X.env := by rfl) (hline : (apos.endLine == cpos.line) = true := by rfl)
    (hs : starEach [.Call (.Attribute o "items" apos) [] [] cpos] X.env = (false, eval (.Call (.Attribute o "items" apos) [] [] cpos) X.env) :: starEach [] X.env := by rfl) (hpl : (backTo pos (starEach [] X.env)).any (·.1) = false := by rfl) :
    PE X (.Call (.Name "sorted" p) [.Call (.Attribute o "items" apos) [] [] cpos] [] pos) (tM X.K ζ (mSortIt i)) :=
  pew (pe_sortItems hc hu ho hm hg hv hbase hline hs hpl) fun σ H Q q => sortIt_ok q
/-! ### d.pop(k, x) -/
theorem drop_K {K : PySem.W.Frag} {G : Hp} {k : Key} : ∀ {ks : List (Key × V)} {kvs : List (D × D)}, RpK K G ks kvs → RpK K G (dropK ks k) (dropD kvs (keyD k))
  | _, _, .nil => .nil
  | _, _, .cons (k := k') h1 h2 => by
    unfold dropK dropD
    rw [List.filter_cons, List.filter_cons, eqv_key]
    have := drop_K (k := k) h2
    unfold dropK dropD at this
    by_cases e : k' = k <;> simp [e]
    · simpa using this
    · exact .cons h1 (by simpa using this)
def popDF (i : Nat) (env : Env) (x : D) (k : O) : O → Res (O × Env)
  | .dct false kvs => match k with
    | .val kd => if okKey false kd = true then (match getK kvs kd with
        | some d => .ok (.val d, env.set i (.dct false (dropD kvs kd)))
        | none => .ok (.val x, env))
      else .stuck
    | _ => .stuck
  | _ => .stuck
/-- d.pop(k, x), x a constant -/
def mPopD (i : Nat) (k : M) (x : D) : M := fun env => if (env.getD i .un).dd.isSome = true then (k env).bind fun p => popDF i p.2 x p.1 (p.2.getD i .un) else .stuck
theorem popD_ok {K : PySem.W.Frag} {k : M} {x : D} {xv : V} (hxv : ∀ G, Rp K G xv x) {σ : St} {H : Hp} {Q : VK} (h : tM K ζ (mPopD i k x) σ H Q) : tDPop2 (tVar i) (tM K ζ k) (tC xv) σ H Q := by
  obtain ⟨G, A, L, env, r0, env', R, e, q⟩ := h
  unfold mPopD at e
  split at e
  · rename_i hs
    obtain ⟨⟨t, kvs0⟩, hx⟩ := Option.isSome_iff_exists.mp hs
    have l := dd_live hx
    obtain ⟨v, hv⟩ := live_val R l
    have rd : Rdy K G H _ v := ROp.rdy R (o := .pk i) ⟨hv, rfl⟩ l
    obtain ⟨p, o, rfl, hp, hd⟩ := rd.dd R.gh hx
    refine ⟨_, hv, p, rfl, isD_of hd hp, ?_⟩
    obtain ⟨⟨rk, e1⟩, h1, h⟩ := bind_eq_ok e
    refine ⟨G, A, L, env, rk, e1, R, h1, fun y H1 G1 s1 R1 hy => ?_⟩
    show (fun z H3 => _) xv H1
    simp only at h
    cases es : e1.getD i .un with
    | dct t kvs =>
      rw [es] at h
      cases t with
      | true => cases h
      | false =>
        cases rk with
        | val kd =>
          simp only [popDF] at h
          split at h
          · rename_i hk
            have eo := getD_some es rfl
            obtain ⟨p', o', e2, hp', gp, ap, rv⟩ := R1.sl i _ _ eo hv
            cases e2
            rcases rv with ⟨_, ks, rfl, h2⟩ | ⟨z, _⟩
            · obtain ⟨kk, rfl⟩ := okKey_K hk
              have hy' : Rp K G1 y (keyD kk) := hy
              refine ⟨ks, kk, hp', rp_key hy', fun v' hv' => ?_, fun hn => ?_⟩
              · have hg := get_K (k := kk) h2
                rw [hv'] at hg
                cases eg : getK kvs (keyD kk) with
                | none => rw [eg] at hg; exact hg.elim
                | some d =>
                  rw [eg] at hg h
                  cases h
                  exact q v' _ G1 s1 (mutateO R1 eo rfl hv ⟨p, _, rfl, upd_same, gp, ap, .inl ⟨rfl, _, rfl, drop_K h2⟩⟩ (fun w zs z => by cases z)) hg
              · have hg := get_K (k := kk) h2
                rw [hn] at hg
                cases eg : getK kvs (keyD kk) with
                | none =>
                  rw [eg] at h
                  cases h
                  exact q xv H1 G1 s1 R1 (hxv G1)
                | some d => rw [eg] at hg; exact hg.elim
            · cases z
          · cases h
        | _ => cases h
    | _ => rw [es] at h; cases h
  · cases e
theorem r_popN {k : M} {j : Nat} {pc : Pos} (ho : PE X o (tVar i)) (he : PE X e (tM X.K ζ k)) (m : M2 X o "pop" apos e (.Constant .none j pc) cpos := by exact ⟨rfl, rfl, rfl, rfl⟩) :
    PE X (.Call (.Attribute o "pop" apos) [e, .Constant .none j pc] [] cpos) (tM X.K ζ (mPopD i k .none)) :=
  pew (pe_dpop2 ho he pe_non m) fun σ H Q q => popD_ok (fun _ => .non) q
end
end SE

namespace SE
open PySem L2 RZ
/-! ### range(a, b, -1) -/
section
variable {X : Cx} {ζ : Option ZI} {tg a b : Expr} {ma mb : M} {p pos p1 p2 : Pos} {k1 : Nat}
theorem r_m1 : PE X (.UnaryOp .USub (.Constant (.int 1) k1 p1) p2) (tM X.K ζ (mC (.int (-1)))) := r_c (v := .int (-1)) (pew (pe_un un_neg pe_int) fun σ H Q q => ⟨1, rfl, q⟩) fun _ => .int _
theorem ri_rd (hm : X.mg "range" = none) (ha : PE X a (tM X.K ζ ma)) (hb : PE X b (tM X.K ζ mb)) (hg : Gl X "range" := by rfl)
    (hs : starEach [a, b, .UnaryOp .USub (.Constant (.int 1) k1 p1) p2] X.env = (false, eval a X.env) :: starEach [b, .UnaryOp .USub (.Constant (.int 1) k1 p1) p2] X.env := by rfl)
    (hs2 : starEach [b, .UnaryOp .USub (.Constant (.int 1) k1 p1) p2] X.env = (false, eval b X.env) :: starEach [.UnaryOp .USub (.Constant (.int 1) k1 p1) p2] X.env := by rfl)
    (hs3 : starEach [.UnaryOp .USub (.Constant (.int 1) k1 p1) p2] X.env = (false, eval (.UnaryOp .USub (.Constant (.int 1) k1 p1) p2) X.env) :: starEach [] X.env := by rfl)
    (hpl : (backTo pos (starEach [b, .UnaryOp .USub (.Constant (.int 1) k1 p1) p2] X.env)).any (·.1) = false := by rfl) :
    PI X tg (.Call (.Name "range" p) [a, b, .UnaryOp .USub (.Constant (.int 1) k1 p1) p2] [] pos) (tI X.K ζ (srcRd ma mb)) :=
  piw (pi_range3 hg hm (pa_cons ha (pa_cons hb (pa_cons r_m1 pa_nil hs3) hs2) hs) hs hpl) fun σ H Rr q => by
    obtain ⟨G, A, L, env, ds, env', R, h, q⟩ := q
    obtain ⟨⟨rs, e1⟩, h1, h⟩ := bind_eq_ok h
    have fin : tAll X.K ζ [.m ma, .m mb] σ H (fun vs H' => ∀ x y, vs = [x, y] → tM X.K ζ (mC (.int (-1))) σ H' fun z H3 => ∃ (i j c : Int) (n : Nat), [x, y, z] = [V.int i, V.int j, V.int c] ∧ RgC i j c n ∧ Rr (Itc i c n) H3) := pass_all [.m ma, .m mb] R h1 fun vs H' G' s R' ops => by
      simp only at h
      split at h
      · rename_i _ i j
        split at h
        · rename_i z
          cases h
          cases ops with
          | cons o1 t =>
            cases t with
            | cons o2 t =>
              cases t
              rintro x y ⟨⟩
              cases (show Rp X.K G' _ (.int i) from o1)
              cases (show Rp X.K G' _ (.int j) from o2)
              refine ⟨G', A, L, _, _, _, R', rfl, fun v H2 G2 s2 R2 hv => ?_⟩
              cases (show Rp X.K G2 v (.int (-1)) from hv)
              have z1 := small_b z.1
              have z2 := small_b z.2
              exact ⟨i, j, -1, _, rfl, RgC.neg (by omega) (by omega) (by omega) (by omega), q _ H2 G2 (s.trans s2) R2 (wk_rngC i (-1) _)⟩
        · cases h
      · cases h
    exact tOpd_mono (o := .m ma) (fun v H q => tOpd_mono (o := .m mb) (fun w H q => q v w rfl) q) fin
end
/-! ### less, more: any alike data -/
def okLt (d e : D) : Bool := PySem.W.alike d e && (match d with | .none => false | _ => true) && d.plain && e.plain && Nat.ble d.depth 50
def ltF (f : D → D → Bool) (x y : O) : Res O := match x.d, y.d with
  | some d, some e => if okLt d e = true then .ok (.val (.bool (f d e))) else .stuck
  | _, _ => .stuck
def oLtX (x y : O) : Res O := ltF (fun d e => PySem.W.dataLt d e) x y
def oGtX (x y : O) : Res O := ltF (fun d e => PySem.W.dataLt e d) x y
def oLeX (x y : O) : Res O := ltF (fun d e => !PySem.W.dataLt e d) x y
def oGeX (x y : O) : Res O := ltF (fun d e => !PySem.W.dataLt d e) x y
def rLtX (K : PySem.W.Frag) (f : D → D → Bool) : R2 := fun x y H Q => ∃ d e, Dp K H x d ∧ Dp K H y e ∧ PySem.W.alike d e = true ∧ d ≠ .none ∧ d.depth ≤ 50 ∧ Q (.bl (f d e)) H
theorem sem_ltF {K : PySem.W.Frag} (f : D → D → Bool) : Sem2 K (ltF f) (rLtX K f) := by
  intro ζ G A L H σ env x y rx ry r0 Q R hx hy e q
  unfold ltF at e
  split at e
  · rename_i d e' ex ey
    split at e
    · rename_i hk
      cases e
      unfold okLt at hk
      simp only [Bool.and_eq_true, Nat.ble_eq] at hk
      obtain ⟨⟨⟨⟨h1, h2⟩, h3⟩, h4⟩, h5⟩ := hk
      exact ⟨d, e', Rp.dp _ _ h3 (hx.d R.gh ex), Rp.dp _ _ h4 (hy.d R.gh ey), h1, fun z => (by rw [z] at h2; cases h2), h5, q.val R (.bl _)⟩
    · cases e
  · cases e
section
variable {X : Cx}
theorem op_ltX (hu : X.A.units + 65 < cLine) : OpR X (compareOp .Lt) (rLtX X.K fun d e => PySem.W.dataLt d e) := by
  intro pins s σ H x y v u Q I rx ry ⟨d, e, hd, he, h1, h2, h3, q⟩
  obtain ⟨as, ra⟩ := Dp.reads I _ _ _ hd rx
  obtain ⟨bs, rb⟩ := Dp.reads I _ _ _ he ry
  exact PySem.W.lt_data ra rb h1 h2 (by omega) ⟨.bl (PySem.W.dataLt d e), H, I, rfl, q⟩
theorem op_gtX (hu : X.A.units + 65 < cLine) : OpR X (compareOp .Gt) (rLtX X.K fun d e => PySem.W.dataLt e d) := by
  intro pins s σ H x y v u Q I rx ry ⟨d, e, hd, he, h1, h2, h3, q⟩
  obtain ⟨as, ra⟩ := Dp.reads I _ _ _ hd rx
  obtain ⟨bs, rb⟩ := Dp.reads I _ _ _ he ry
  exact PySem.W.gt_data ra rb h1 h2 (by omega) ⟨.bl (PySem.W.dataLt e d), H, I, rfl, q⟩
theorem op_leX (hu : X.A.units + 65 < cLine) : OpR X (compareOp .LtE) (rLtX X.K fun d e => !PySem.W.dataLt e d) := by
  intro pins s σ H x y v u Q I rx ry ⟨d, e, hd, he, h1, h2, h3, q⟩
  obtain ⟨as, ra⟩ := Dp.reads I _ _ _ hd rx
  obtain ⟨bs, rb⟩ := Dp.reads I _ _ _ he ry
  exact PySem.W.le_data ra rb h1 h2 (by omega) ⟨.bl (!PySem.W.dataLt e d), H, I, rfl, q⟩
theorem op_geX (hu : X.A.units + 65 < cLine) : OpR X (compareOp .GtE) (rLtX X.K fun d e => !PySem.W.dataLt d e) := by
  intro pins s σ H x y v u Q I rx ry ⟨d, e, hd, he, h1, h2, h3, q⟩
  obtain ⟨as, ra⟩ := Dp.reads I _ _ _ hd rx
  obtain ⟨bs, rb⟩ := Dp.reads I _ _ _ he ry
  exact PySem.W.ge_data ra rb h1 h2 (by omega) ⟨.bl (!PySem.W.dataLt d e), H, I, rfl, q⟩
end
theorem sem_ltX {K : PySem.W.Frag} : Sem2 K oLtX (rLtX K fun d e => PySem.W.dataLt d e) := sem_ltF _
theorem sem_gtX {K : PySem.W.Frag} : Sem2 K oGtX (rLtX K fun d e => PySem.W.dataLt e d) := sem_ltF _
theorem sem_leX {K : PySem.W.Frag} : Sem2 K oLeX (rLtX K fun d e => !PySem.W.dataLt e d) := sem_ltF _
theorem sem_geX {K : PySem.W.Frag} : Sem2 K oGeX (rLtX K fun d e => !PySem.W.dataLt d e) := sem_ltF _
/-! ### min(xs), max(xs): any alike data; with default= -/
def okMin (ds : List D) : Bool := okAlike ds && ds.all (fun d => (match d with | .none => false | _ => true) && d.plain) && Nat.ble (PyData.depthAll ds) 50
def minF (f : D → List D → D) (x : O) : Res O := match x.l with
  | some (d :: ds) => if okMin (d :: ds) = true then .ok (.val (f d ds)) else .stuck
  | _ => .stuck
def oMinX (x : O) : Res O := minF PySem.W.minD x
def oMaxX (x : O) : Res O := minF PySem.W.maxD x
def minDefF (f : D → List D → D) (x y : O) : Res O := match x.l, y with
  | some [], .val e => .ok (.val e)
  | some (d :: ds), .val _ => if okMin (d :: ds) = true then .ok (.val (f d ds)) else .stuck
  | _, _ => .stuck
def oMinDef (x y : O) : Res O := minDefF PySem.W.minD x y
def oMaxDef (x y : O) : Res O := minDefF PySem.W.maxD x y
/-- what is told of such a list -/
structure MinL (K : PySem.W.Frag) (H : Hp) (xs : List V) (ds : List D) : Prop where
  dp : DpAll K H xs ds
  al : PySem.W.AlikeAll ds
  pl : ∀ d ∈ ds, d.plain = true
  de : PyData.depthAll ds ≤ 50
def rMinX (K : PySem.W.Frag) (f : D → List D → D) : List V → Hp → VK → Prop := fun vs H Q => ∃ (a : Addr) (xs : List V) (d : D) (ds : List D), vs = [.ref a] ∧ SqL K H a xs ∧ MinL K H xs (d :: ds) ∧ ∀ (i : Nat) (x : V), xs[i]? = some x → (d :: ds)[i]? = some (f d ds) → Q x H
def rMinDef (K : PySem.W.Frag) (f : D → List D → D) : List V → List V → Hp → VK → Prop := fun vs zs H Q => ∃ (a : Addr) (xs : List V) (ds : List D) (z : V), vs = [.ref a] ∧ zs = [z] ∧ SqL K H a xs ∧ MinL K H xs ds ∧ (ds = [] → Q z H) ∧
  ∀ (d : D) (r : List D) (i : Nat) (x : V), ds = d :: r → xs[i]? = some x → ds[i]? = some (f d r) → Q x H
theorem okMin_iff {K : PySem.W.Frag} {G H : Hp} {vs : List V} {ds : List D} (gh : Same G H) (h : RpAll K G vs ds) (hk : okMin ds = true) : MinL K H vs ds := by
  unfold okMin at hk
  simp only [Bool.and_eq_true, List.all_eq_true, Nat.ble_eq] at hk
  obtain ⟨⟨h1, h2⟩, h3⟩ := hk
  have pl : ∀ d ∈ ds, d.plain = true := fun d hd => (h2 d hd).2
  exact ⟨RpAll.dp _ _ (plainAll_of pl) (h.m gh), ⟨okAlike_iff h1, fun d hd z => by have := (h2 d hd).1; rw [z] at this; cases this⟩, pl, h3⟩
theorem MinL.nil {K : PySem.W.Frag} {H : Hp} : MinL K H [] [] := ⟨.nil, ⟨fun _ h => (by cases h), fun _ h => (by cases h)⟩, fun _ h => (by cases h), by simp [PyData.depthAll]⟩
theorem min_itemG {X : Cx} {pins : List (Addr × Obj)} {σ : L2.St} {H : Hp} {s : Shared} {h' : Heap} {v : Value} {r : D} {bs : List Addr} (I : Inv X pins σ H s) (hr : Reads h' v r bs) (hk : ∀ b o, s.heap.get? b = some o → h'.get? b = some o) :
    ∀ {ds : List D} {xs : List V} {its : List Value} {i : Nat}, DpAll X.K H xs ds → (∀ d ∈ ds, d.plain = true) → Vals xs its → its[i]? = some v → ∃ x, xs[i]? = some x ∧ RelV x v ∧ ds[i]? = some r
  | [], _, _, _, hd, _, rv, hi => by
    cases hd
    cases rv
    cases hi
  | d :: ds, _, _, i, hd, pl, rv, hi => by
    cases hd with
    | cons h1 h2 =>
      cases rv with
      | cons r1 r2 =>
        cases i with
        | zero =>
          cases hi
          obtain ⟨as, ra⟩ := Dp.reads I _ _ _ h1 r1
          have ra' := PyProof.Rows.Reads.keeps hk ra
          refine ⟨_, rfl, r1, ?_⟩
          rw [SeqAt.plain_unique _ _ _ _ _ (pl d List.mem_cons_self) ra' hr]; rfl
        | succ i =>
          obtain ⟨x', e1, e2, e3⟩ := min_itemG I hr hk h2 (fun d hd => pl d (List.mem_cons_of_mem _ hd)) r2 (i := i) (by simpa using hi)
          exact ⟨x', by simpa using e1, e2, by simpa using e3⟩
section
variable {X : Cx}
theorem cr_minX (hc : X.calm = true) (hu : X.A.units + 65 < cLine) : CallR X (.builtin "min") (rMinX X.K PySem.W.minD) := by
  intro pins s σ H vs us Q I r h
  obtain ⟨a, xs, d, ds, rfl, hs, m, q⟩ := h
  obtain ⟨its, rv, hl, hz⟩ := I.list hs
  obtain ⟨u, rfl, ru⟩ := vals1 r
  obtain rfl : u = Value.ref a := ru
  obtain ⟨as, ra⟩ := Dp.readsAll I _ _ _ m.dp rv
  refine PySem.W.min_list_data (I.ok.hd hc) hl.isList ra m.al (by have := m.de; omega) fun i v h' tk bs hi hr hk => ?_
  obtain ⟨x, e1, e2, e3⟩ := min_itemG I hr hk m.dp m.pl rv (i := i) (by simpa using hi)
  exact ⟨x, H, I.kept hk, e2, q i x e1 e3⟩
theorem cr_maxX (hc : X.calm = true) (hu : X.A.units + 65 < cLine) : CallR X (.builtin "max") (rMinX X.K PySem.W.maxD) := by
  intro pins s σ H vs us Q I r h
  obtain ⟨a, xs, d, ds, rfl, hs, m, q⟩ := h
  obtain ⟨its, rv, hl, hz⟩ := I.list hs
  obtain ⟨u, rfl, ru⟩ := vals1 r
  obtain rfl : u = Value.ref a := ru
  obtain ⟨as, ra⟩ := Dp.readsAll I _ _ _ m.dp rv
  refine PySem.W.max_list_data (I.ok.hd hc) hl.isList ra m.al (by have := m.de; omega) fun i v h' tk bs hi hr hk => ?_
  obtain ⟨x, e1, e2, e3⟩ := min_itemG I hr hk m.dp m.pl rv (i := i) (by simpa using hi)
  exact ⟨x, H, I.kept hk, e2, q i x e1 e3⟩
theorem cr_minDef (hc : X.calm = true) (hu : X.A.units + 65 < cLine) : CallRK X (.builtin "min") [Str.ofString "default"] (rMinDef X.K PySem.W.minD) := by
  intro pins s σ H vs zs us ws Q I r rz h
  obtain ⟨a, xs, ds, z, rfl, rfl, hs, m, q0, q⟩ := h
  obtain ⟨its, rv, hl, hz⟩ := I.list hs
  obtain ⟨u, rfl, ru⟩ := vals1 r
  obtain rfl : u = Value.ref a := ru
  obtain ⟨w, rfl, rw'⟩ := vals1 rz
  obtain ⟨as, ra⟩ := Dp.readsAll I _ _ _ m.dp rv
  refine PySem.W.min_list_default (I.ok.hd hc) hl.isList ra m.al (by have := m.de; omega) (fun e h' tk hk => ⟨z, H, I.kept hk, rw', q0 e⟩) fun y ys i v h' tk bs e hi hr hk => ?_
  subst e
  obtain ⟨x, e1, e2, e3⟩ := min_itemG I hr hk m.dp m.pl rv (i := i) (by simpa using hi)
  exact ⟨x, H, I.kept hk, e2, q y ys i x rfl e1 e3⟩
theorem cr_maxDef (hc : X.calm = true) (hu : X.A.units + 65 < cLine) : CallRK X (.builtin "max") [Str.ofString "default"] (rMinDef X.K PySem.W.maxD) := by
  intro pins s σ H vs zs us ws Q I r rz h
  obtain ⟨a, xs, ds, z, rfl, rfl, hs, m, q0, q⟩ := h
  obtain ⟨its, rv, hl, hz⟩ := I.list hs
  obtain ⟨u, rfl, ru⟩ := vals1 r
  obtain rfl : u = Value.ref a := ru
  obtain ⟨w, rfl, rw'⟩ := vals1 rz
  obtain ⟨as, ra⟩ := Dp.readsAll I _ _ _ m.dp rv
  refine PySem.W.max_list_default (I.ok.hd hc) hl.isList ra m.al (by have := m.de; omega) (fun e h' tk hk => ⟨z, H, I.kept hk, rw', q0 e⟩) fun y ys i v h' tk bs e hi hr hk => ?_
  subst e
  obtain ⟨x, e1, e2, e3⟩ := min_itemG I hr hk m.dp m.pl rv (i := i) (by simpa using hi)
  exact ⟨x, H, I.kept hk, e2, q y ys i x rfl e1 e3⟩
end
theorem rpall_get {K : PySem.W.Frag} {G : Hp} {vs : List V} {ds : List D} {i : Nat} {v : V} {d : D} (h : RpAll K G vs ds) (e1 : vs[i]? = some v) (e2 : ds[i]? = some d) : Rp K G v d := by
  obtain ⟨d', h1, h2⟩ := RpAll.get h e1
  rw [e2] at h1
  cases h1
  exact h2
theorem sem_minF {K : PySem.W.Frag} (f : D → List D → D) : Sem1 K (minF f) fun v H Q => rMinX K f [v] H Q := by
  intro ζ G A L H σ env x rx r0 Q R hx e q
  unfold minF at e
  split at e
  · rename_i d ds ex
    split at e
    · rename_i hk
      cases e
      obtain ⟨p, vs, rfl, h1, h2⟩ := hx.l R.gh ex
      exact ⟨p, vs, d, ds, rfl, .of h1, okMin_iff R.gh h2 hk, fun i x e1 e2 => q.val R (rpall_get h2 e1 e2)⟩
    · cases e
  · cases e
theorem sem_minX {K : PySem.W.Frag} : Sem1 K oMinX fun v H Q => rMinX K PySem.W.minD [v] H Q := sem_minF _
theorem sem_maxX {K : PySem.W.Frag} : Sem1 K oMaxX fun v H Q => rMinX K PySem.W.maxD [v] H Q := sem_minF _
theorem sem_minDefF {K : PySem.W.Frag} (f : D → List D → D) : Sem2 K (minDefF f) fun v w H Q => rMinDef K f [v] [w] H Q := by
  intro ζ G A L H σ env x y rx ry r0 Q R hx hy e q
  unfold minDefF at e
  split at e
  · rename_i d ex
    cases e
    obtain ⟨p, vs, rfl, h1, h2⟩ := hx.l R.gh ex
    cases h2
    exact ⟨p, [], [], y, rfl, rfl, .of h1, .nil, fun _ => q.val R hy, fun d r i x z => by cases z⟩
  · rename_i d ds e' ex
    split at e
    · rename_i hk
      cases e
      obtain ⟨p, vs, rfl, h1, h2⟩ := hx.l R.gh ex
      exact ⟨p, vs, d :: ds, y, rfl, rfl, .of h1, okMin_iff R.gh h2 hk, fun z => (by cases z), fun d' r i x z e1 e2 => by cases z; exact q.val R (rpall_get h2 e1 e2)⟩
    · cases e
  · cases e
end SE

namespace SE
open PySem L2 RZ
/-! ### f(x, default=y) -/
section
variable {X : Cx} {ζ : Option ZI} {e d : Expr} {oa ob : Opd} {id : String} {x kn : Str} {p pos kpos : Pos} {f : O → O → Res O} {r : List V → List V → Hp → VK → Prop}
theorem r_kw1 (hc : CallRK X (.builtin id) [kn] r) (hf : Sem2 X.K f fun v w H Q => r [v] [w] H Q) (hg : Gl X x) (hm : X.mg x = none) (hv : bootBuiltins x = some (.builtin id)) (ha : PE X e (tOpd X.K ζ oa)) (hb : PE X d (tOpd X.K ζ ob))
    (hn : x ≠ "__name__" := by decide) (hdb : (x == ("__debug__" : Str)) = false := by decide)
    (hs : starEach [e] X.env = (false, eval e X.env) :: starEach [] X.env := by rfl)
    (he : backTo pos (starEach [e] X.env) = (false, eval e X.env) :: backTo pos (starEach [] X.env) := by rfl) (hpl : (backTo pos (starEach [e] X.env)).any (·.1) = false := by rfl)
    (hall : (backToKw pos (keywordEach [⟨some kn, d, kpos⟩] X.env)).all (·.1.isSome) = true := by rfl) (hnone : (backToKw pos (keywordEach [⟨some kn, d, kpos⟩] X.env)).any (·.1.isNone) = false := by rfl) (hks : (backToKw pos (keywordEach [⟨some kn, d, kpos⟩] X.env)).filterMap (·.1) = [kn] := by rfl) :
    PE X (.Call (.Name x p) [e] [⟨some kn, d, kpos⟩] pos) (tM X.K ζ (m2 f oa ob)) :=
  pew (pe_callBK hc hg hm hv (pa_cons ha pa_nil hs) (pk_cons hb pk_nil) hn hdb he hpl hall hnone hks) fun _ _ _ q => m2_ok (r := fun v w H Q => r [v] [w] H Q) hf q
end
/-! ### {k: v, ..} -/
/-- what no name holds is changed -/
theorem updO {K : PySem.W.Frag} {ζ : Option ZI} {G A : Hp} {L : Nat → Option Addr} {H : Hp} {σ : St} {env : Env} (R : REnv K ζ G A L H σ env) {p : Addr} {ob : HO} (gp : G p = none) (ap : A p = none) (hs : ∀ (i : Nat) (x : O), env[i]? = some x → x.mine = true → σ[i]? ≠ some (some (V.ref p))) (hl : ∀ i, L i ≠ some p) : REnv K ζ G A L (upd H p ob) σ env := by
  refine ⟨R.len, fun b u z => ?_, fun b u z => ?_, R.ag, fun j x w e1 e2 => ?_, R.inj, R.lp, R.tu⟩
  · rw [upd_ne (ne_of_none z gp)]; exact R.gh _ _ z
  · rw [upd_ne (ne_of_none z ap)]; exact R.ah _ _ z
  · have q := R.sl j _ _ e1 e2
    match x, q with
    | .un, _ => trivial
    | .tpl _, _ => trivial
    | .val d, q => exact q
    | .own zs, q =>
      obtain ⟨p', vs', e3, e4, e5, e6, q⟩ := q
      have hb : p' ≠ p := fun z => hs j _ e1 rfl (by rw [e2, e3, z])
      exact ⟨p', vs', e3, by rw [upd_ne hb]; exact e4, e5, e6, q⟩
    | .dct tk zs, q =>
      obtain ⟨p', vs', e3, e4, e5, e6, q⟩ := q
      have hb : p' ≠ p := fun z => hs j _ e1 rfl (by rw [e2, e3, z])
      exact ⟨p', vs', e3, by rw [upd_ne hb]; exact e4, e5, e6, q⟩
    | .pin true zs, q =>
      obtain ⟨p', vs', e0, e3, e4, e5, e6, q⟩ := q
      have hb : p' ≠ p := fun z => hl j (by rw [e0, z])
      exact ⟨p', vs', e0, e3, by rw [upd_ne hb]; exact e4, e5, e6, q⟩
    | .pin false zs, q => exact q
    | .scr ns, q => exact q
    | .exn x, q => exact q
/-- pairs of values in a row -/
def dPairs : List O → Option (List (D × D))
  | [] => some []
  | .val k :: .val v :: r => if okKey false k = true then (dPairs r).map ((k, v) :: ·) else none
  | _ => none
def mergeD (kvs : List (D × D)) : List (D × D) → List (D × D)
  | [] => kvs
  | kv :: r => mergeD (putD kvs kv.1 kv.2) r
def flatP : List (M × M) → List Opd
  | [] => []
  | kv :: r => .m (frz kv.1) :: .m (frz kv.2) :: flatP r
def dispF (p : List O × Env) : Res (O × Env) := match dPairs p.1 with
  | some kvs => if Nat.ble kvs.length 15 = true then .ok (.dct false (mergeD [] kvs), p.2) else .stuck
  | none => .stuck
def mDisp (ps : List (M × M)) : M := fun env => (pass (flatP ps) env).bind dispF
theorem merge_rel {K : PySem.W.Frag} {G : Hp} : ∀ {more : List (Key × V)} {md : List (D × D)} {ks : List (Key × V)} {kvs : List (D × D)}, RpK K G more md → RpK K G ks kvs → RpK K G (mergeK ks more) (mergeD kvs md)
  | _, _, _, _, .nil, h => h
  | _, _, _, _, .cons (k := k) (v := v) (d := d) h1 h2, h => by
    show RpK K G (mergeK (putK _ k v) _) (mergeD (putD _ (keyD k) d) _)
    refine merge_rel h2 ?_
    unfold putK putD
    rw [any_K h]
    split
    · exact map_K h1 h
    · exact app_K h1 h
theorem dPairs_ok {K : PySem.W.Frag} {G A : Hp} {L : Nat → Option Addr} {H : Hp} {σ : St} {env : Env} : ∀ {ps : List (M × M)} {rs : List O} {vs : List V} {kvs : List (D × D)}, ROps K G A L H σ env (flatP ps) rs vs → dPairs rs = some kvs → ∃ ks : List (Key × V), RpK K G ks kvs ∧ vs = (ks.map fun kv => [kV kv.1, kv.2]).flatten
  | [], rs, vs, kvs, ops, h => by
    cases ops
    cases h
    exact ⟨[], .nil, rfl⟩
  | kv :: ps, rs, vs, kvs, ops, h => by
    cases ops with
    | @cons _ _ r1 _ v1 _ o1 t =>
      cases t with
      | @cons _ _ r2 rs' v2 vs' o2 t =>
        match r1, r2, h, o1, o2 with
        | .val k, .val v, h, o1, o2 =>
          unfold dPairs at h
          split at h
          · rename_i hk
            cases q : dPairs rs' with
            | none => rw [q] at h; cases h
            | some r =>
              rw [q] at h
              cases h
              obtain ⟨ks, h1, h2⟩ := dPairs_ok (ps := ps) t q
              obtain ⟨kk, rfl⟩ := okKey_K hk
              have o1 : Rp K G v1 (keyD kk) := o1
              have o2 : Rp K G v2 v := o2
              exact ⟨(kk, v2) :: ks, .cons o2 h1, by rw [rp_key o1, h2]; rfl⟩
          · cases h
theorem tpairs_of {K : PySem.W.Frag} {ζ : Option ZI} {σ : St} : ∀ {ps : List (M × M)} {H : Hp} {Q : List V → Hp → Prop} {Q' : List (V × V) → Hp → Prop}, (∀ (kvs : List (V × V)) H, Q ((kvs.map fun kv => [kv.1, kv.2]).flatten) H → Q' kvs H) → tAll K ζ (flatP ps) σ H Q → tPairs (ps.map fun kv => (tM K ζ (frz kv.1), tM K ζ (frz kv.2))) σ H Q'
  | [], H, Q, Q', w, h => w [] H h
  | kv :: ps, H, Q, Q', w, h => tOpd_mono (o := .m (frz kv.1)) (fun x H1 h => tOpd_mono (o := .m (frz kv.2)) (fun y H2 h => tpairs_of (ps := ps) (Q := fun vs H => Q (x :: y :: vs) H) (fun kvs H q => w ((x, y) :: kvs) H q) h) h) h
theorem disp_ok {K : PySem.W.Frag} {ζ : Option ZI} {ps : List (M × M)} {σ : St} {H : Hp} {Q : VK} (h : tM K ζ (mDisp ps) σ H Q) : tDisp (ps.map fun kv => (tM K ζ (frz kv.1), tM K ζ (frz kv.2))) σ H Q := by
  obtain ⟨G, A, L, env, r0, env', R, e, q⟩ := h
  intro p hp
  obtain ⟨⟨rs, e1⟩, h1, h⟩ := bind_eq_ok e
  have R0 := R.lay0 hp (.dK [])
  have hv : RVal K G A L (upd H p (.dK [])) σ env (.dct false []) (.ref p) := RVal.newD R hp (.inl ⟨rfl, _, rfl, .nil⟩)
  obtain ⟨A', hA, R1, back⟩ := protect R0 hv
  refine tpairs_of (Q := fun vs H2 => ∀ kvs : List (V × V), vs = (kvs.map fun kv => [kv.1, kv.2]).flatten → H2 p = some (.dK []) ∧ ∃ ks : List (Key × V), kvs = ks.map (fun kv => (kV kv.1, kv.2)) ∧ ks.length ≤ 15 ∧ Q (.ref p) (upd H2 p (.dK (mergeK [] ks)))) (fun kvs H q => q kvs rfl) (pass_all (flatP ps) R1 h1 fun vs H2 G2 s2 R2 ops kvs ev => ?_)
  unfold dispF at h
  simp only at h
  split at h
  · rename_i md ed
    split at h
    · rename_i hn
      cases h
      rw [Nat.ble_eq] at hn
      obtain ⟨R3, p', o, e2, g1, g2, g3, g4, g5, g6⟩ := back G2 H2 _ s2 R2
      cases e2
      rcases g4 with ⟨_, ks0, rfl, k0⟩ | ⟨z, _⟩
      · cases k0
        obtain ⟨ks, k1, k2⟩ := dPairs_ok ops ed
        have ekv : kvs = ks.map fun kv => (kV kv.1, kv.2) := by
          rw [ev] at k2
          clear ev ops h1 k1
          induction kvs generalizing ks with
          | nil => cases ks with
            | nil => rfl
            | cons _ _ => simp at k2
          | cons kv kvs ih => cases ks with
            | nil => simp at k2
            | cons k ks =>
              simp only [List.map_cons, List.flatten_cons, List.cons_append, List.nil_append, List.cons.injEq] at k2
              obtain ⟨z1, z2, z3⟩ := k2
              obtain ⟨ka, va⟩ := kv
              simp only at z1 z2
              rw [ih ks z3, z1, z2]; rfl
        refine ⟨g1, ks, ekv, by rw [len_K k1]; exact hn, ?_⟩
        exact q _ _ G2 s2 (updO R3 g2 g3 g5 g6) ⟨p, _, rfl, upd_same, g2, g3, .inl ⟨rfl, _, rfl, merge_rel k1 .nil⟩, g5, g6⟩
      · cases z
    · cases h
  · cases h
section
variable {X : Cx} {ζ : Option ZI} {pos : Pos} {keys : List (Option Expr)} {values : List Expr} {ps : List (M × M)}
theorem r_disp (h : PPs X pos keys values (ps.map fun kv => (tM X.K ζ (frz kv.1), tM X.K ζ (frz kv.2)))) (hall : keys.all (·.isSome) = true := by rfl) (hl : keys.length = values.length := by rfl) (h0 : keys ≠ [] := by exact fun h => by cases h)
    (h15 : keys.length ≤ 15 := by decide) : PE X (.Dict keys values pos) (tM X.K ζ (mDisp ps)) := pew (pe_disp h hall hl h0 h15) fun σ H Q q => disp_ok q
end
end SE

namespace SE
open PySem L2 RZ
/-! ### names of the text's own that hold a number, a text, a tuple of such -/
def Kon (mg : Str → Option Value) (x : Str) (d : D) : Prop := ∃ (u : Value) (k : Key), mg x = some u ∧ RelV (kV k) u ∧ d = keyD k
theorem kon_i {mg : Str → Option Value} {x : Str} {i : Int} {t : Tok} (h : mg x = some (.int i t)) : Kon mg x (.int i) := ⟨_, .inl i, h, ⟨t, rfl⟩, rfl⟩
theorem kon_s {mg : Str → Option Value} {x : Str} {z : Str} {t : Tok} (h : mg x = some (.str z t)) : Kon mg x (.str z) := ⟨_, .inr z, h, ⟨t, rfl⟩, rfl⟩
def KonT (K : PySem.W.Frag) (mg : Str → Option Value) (x : Str) (ds : List D) : Prop := ∃ (a : Addr) (ks : List Key), mg x = some (.ref a) ∧ ds = ks.map keyD ∧ ∀ H, SqT K H a (ks.map kV)
/-- the constants' values -/
inductive AtV : Value → Key → Prop
  | i (i : Int) (t : Tok) : AtV (.int i t) (.inl i)
  | s (z : Str) (t : Tok) : AtV (.str z t) (.inr z)
inductive AtVs : List Value → List Key → Prop
  | nil : AtVs [] []
  | i {i : Int} {t : Tok} {us : List Value} {ks : List Key} : AtVs us ks → AtVs (.int i t :: us) (.inl i :: ks)
  | s {z : Str} {t : Tok} {us : List Value} {ks : List Key} : AtVs us ks → AtVs (.str z t :: us) (.inr z :: ks)
theorem AtVs.vals : ∀ {us : List Value} {ks : List Key}, AtVs us ks → Vals (ks.map kV) us
  | _, _, .nil => .nil
  | _, _, .i h => .cons ⟨_, rfl⟩ h.vals
  | _, _, .s h => .cons ⟨_, rfl⟩ h.vals
theorem konT_mk {K : PySem.W.Frag} {mg : Str → Option Value} {x : Str} {a : Addr} {us : List Value} {n : Nat} {dd : Option Addr} {sl : Array (Option Value)} {ks : List Key} (h : mg x = some (.ref a)) (l : K.lookup a = some ⟨.type "tuple", dd, .seq us.toArray n, sl⟩) (v : AtVs us ks) (hz : us.length ≤ 1000) : KonT K mg x (ks.map keyD) :=
  ⟨a, ks, h, rfl, fun H => .inr ⟨_, _, _, l, rfl, rfl, by rw [List.size_toArray]; exact le_line hz, v.vals⟩⟩
section
variable {X : Cx} {ζ : Option ZI} {a : Expr} {oa : Opd} {x : Str} {p pos : Pos} {d : D} {ds : List D}
theorem r_glob (hg : Gl X x) (h : Kon X.mg x d) (hd : (x == ("__debug__" : Str)) = false := by decide) : PE X (.Name x p) (tM X.K ζ (mC d)) := by
  obtain ⟨u, k, h1, h2, rfl⟩ := h
  exact r_c (pe_glob hg h1 h2 hd) fun G => rp_keyD k
end
/-! ### x in a tuple -/
def rInT (K : PySem.W.Frag) : R2 := fun x y H Q => ∃ d ds, Dp K H x d ∧ Dp K H y (.tuple ds) ∧ SeqAt.shaped d = true ∧ SeqAt.shaped (.tuple ds) = true ∧ Q (.bl (ds.any fun z => PyData.eqv z d)) H
def rNotInT (K : PySem.W.Frag) : R2 := fun x y H Q => ∃ d ds, Dp K H x d ∧ Dp K H y (.tuple ds) ∧ SeqAt.shaped d = true ∧ SeqAt.shaped (.tuple ds) = true ∧ Q (.bl (!ds.any fun z => PyData.eqv z d)) H
theorem lay_tup {ds : List D} (h : SeqAt.shaped (.tuple ds) = true) : PyData.canLayAll0 ds = true := by
  unfold SeqAt.shaped at h
  rw [Bool.and_eq_true] at h
  simpa [PyData.canLay0] using h.1
section
variable {X : Cx}
theorem op_inT (hu : X.A.units + 65 < cLine) : OpR X (compareOp .In) (rInT X.K) := by
  intro pins s σ H x y v u Q I rx ry h
  obtain ⟨d, ds, hd, he, sd, se, q⟩ := h
  obtain ⟨as, r1⟩ := Dp.reads I d x v hd rx
  obtain ⟨bs, r2⟩ := Dp.reads I (.tuple ds) y u he ry
  exact SeqAt.in_tuple_reads r2 r1 (lay_tup se) (SeqAt.canLay_of_shaped sd) (PyProof.Rows.room_in_shaped sd hu) ⟨.bl _, H, I, rfl, q⟩
theorem op_notInT (hu : X.A.units + 65 < cLine) : OpR X (compareOp .NotIn) (rNotInT X.K) := by
  intro pins s σ H x y v u Q I rx ry h
  obtain ⟨d, ds, hd, he, sd, se, q⟩ := h
  obtain ⟨as, r1⟩ := Dp.reads I d x v hd rx
  obtain ⟨bs, r2⟩ := Dp.reads I (.tuple ds) y u he ry
  exact SeqAt.notIn_tuple_reads r2 r1 (lay_tup se) (SeqAt.canLay_of_shaped sd) (PyProof.Rows.room_in_shaped sd hu) ⟨.bl _, H, I, rfl, q⟩
end
def inTF (f : Bool → Bool) (x : O) (e : Option D) : Res O := match x.d, e with
  | some d, some (.tuple ds) => if (SeqAt.shaped d && SeqAt.shaped (.tuple ds)) = true then .ok (.val (.bool (f (ds.any fun z => PyData.eqv z d)))) else .stuck
  | _, _ => .stuck
def oInT (x y : O) : Res O := inTF id x y.d
def oNotInT (x y : O) : Res O := inTF not x y.d
def oInC (ds : List D) (x : O) : Res O := inTF id x (some (.tuple ds))
def oNotInC (ds : List D) (x : O) : Res O := inTF not x (some (.tuple ds))
theorem inTF_ok {f : Bool → Bool} {x : O} {e : Option D} {r : O} (h : inTF f x e = .ok r) : ∃ d ds, x.d = some d ∧ e = some (.tuple ds) ∧ SeqAt.shaped d = true ∧ SeqAt.shaped (.tuple ds) = true ∧ r = .val (.bool (f (ds.any fun z => PyData.eqv z d))) := by
  unfold inTF at h
  split at h
  · rename_i d ds h1
    split at h
    · rename_i z
      cases h
      rw [Bool.and_eq_true] at z
      exact ⟨d, ds, h1, rfl, z.1, z.2, rfl⟩
    · cases h
  · cases h
theorem sem_inT {K : PySem.W.Frag} : Sem2 K oInT (rInT K) := by
  intro ζ G A L H σ env x y rx ry r0 Q R hx hy e q
  obtain ⟨d, ds, h1, h2, h3, h4, rfl⟩ := inTF_ok e
  exact ⟨d, ds, Rp.dp _ _ (shaped_plain h3) (hx.d R.gh h1), Rp.dp _ _ (shaped_plain h4) (hy.d R.gh h2), h3, h4, q.val R (.bl _)⟩
theorem sem_notInT {K : PySem.W.Frag} : Sem2 K oNotInT (rNotInT K) := by
  intro ζ G A L H σ env x y rx ry r0 Q R hx hy e q
  obtain ⟨d, ds, h1, h2, h3, h4, rfl⟩ := inTF_ok e
  exact ⟨d, ds, Rp.dp _ _ (shaped_plain h3) (hx.d R.gh h1), Rp.dp _ _ (shaped_plain h4) (hy.d R.gh h2), h3, h4, q.val R (.bl _)⟩
theorem dpall_keys {K : PySem.W.Frag} {H : Hp} : ∀ ks : List Key, DpAll K H (ks.map kV) (ks.map keyD)
  | [] => .nil
  | .inl i :: ks => .cons (.int i) (dpall_keys ks)
  | .inr x :: ks => .cons (.str x) (dpall_keys ks)
section
variable {X : Cx} {ζ : Option ZI} {a : Expr} {oa : Opd} {x : Str} {p pos : Pos} {d : D} {ds : List D}
theorem r_inC (hu : X.A.units + 65 < cLine) (hg : Gl X x) (h : KonT X.K X.mg x ds) (ha : PE X a (tOpd X.K ζ oa)) (hd : (x == ("__debug__" : Str)) = false := by decide) : PE X (.Compare a [.In] [.Name x p] pos) (tM X.K ζ (m1 (oInC ds) oa)) := by
  obtain ⟨b, ks, h1, rfl, h2⟩ := h
  exact pew (pe_cmpR (op_inT hu) ha (pe_glob (v := .ref b) hg h1 rfl hd) rfl) fun σ H Q q => m1_ok (r := fun x H Q => rInT X.K x (.ref b) H Q) (fun {ζ G A L H σ env x rx r0 Q} R hx e q => by
    obtain ⟨d, ds, g1, g2, g3, g4, rfl⟩ := inTF_ok e
    cases g2
    exact ⟨d, _, Rp.dp _ _ (shaped_plain g3) (hx.d R.gh g1), .tup (h2 _) (dpall_keys ks), g3, g4, q.val R (.bl _)⟩) q
theorem r_notInC (hu : X.A.units + 65 < cLine) (hg : Gl X x) (h : KonT X.K X.mg x ds) (ha : PE X a (tOpd X.K ζ oa)) (hd : (x == ("__debug__" : Str)) = false := by decide) : PE X (.Compare a [.NotIn] [.Name x p] pos) (tM X.K ζ (m1 (oNotInC ds) oa)) := by
  obtain ⟨b, ks, h1, rfl, h2⟩ := h
  exact pew (pe_cmpR (op_notInT hu) ha (pe_glob (v := .ref b) hg h1 rfl hd) rfl) fun σ H Q q => m1_ok (r := fun x H Q => rNotInT X.K x (.ref b) H Q) (fun {ζ G A L H σ env x rx r0 Q} R hx e q => by
    obtain ⟨d, ds, g1, g2, g3, g4, rfl⟩ := inTF_ok e
    cases g2
    exact ⟨d, _, Rp.dp _ _ (shaped_plain g3) (hx.d R.gh g1), .tup (h2 _) (dpall_keys ks), g3, g4, q.val R (.bl _)⟩) q
theorem rt_inC (hu : X.A.units + 65 < cLine) (hg : Gl X x) (h : KonT X.K X.mg x ds) (ha : PE X a (tOpd X.K ζ oa)) (hd : (x == ("__debug__" : Str)) = false := by decide) : PT X (.Compare a [.In] [.Name x p] pos) (tT X.K ζ (tb (m1 (oInC ds) oa))) := by
  obtain ⟨b, ks, h1, rfl, h2⟩ := h
  exact ptw (pt_cmpR (op_inT hu) ha (pe_glob (v := .ref b) hg h1 rfl hd) rfl) fun σ H Q q => m1_ok (r := fun x H Q => rInT X.K x (.ref b) H Q) (fun {ζ G A L H σ env x rx r0 Q} R hx e q => by
    obtain ⟨d, ds, g1, g2, g3, g4, rfl⟩ := inTF_ok e
    cases g2
    exact ⟨d, _, Rp.dp _ _ (shaped_plain g3) (hx.d R.gh g1), .tup (h2 _) (dpall_keys ks), g3, g4, q.val R (.bl _)⟩) (tb_ok q)
theorem rt_notInC (hu : X.A.units + 65 < cLine) (hg : Gl X x) (h : KonT X.K X.mg x ds) (ha : PE X a (tOpd X.K ζ oa)) (hd : (x == ("__debug__" : Str)) = false := by decide) : PT X (.Compare a [.NotIn] [.Name x p] pos) (tT X.K ζ (tb (m1 (oNotInC ds) oa))) := by
  obtain ⟨b, ks, h1, rfl, h2⟩ := h
  exact ptw (pt_cmpR (op_notInT hu) ha (pe_glob (v := .ref b) hg h1 rfl hd) rfl) fun σ H Q q => m1_ok (r := fun x H Q => rNotInT X.K x (.ref b) H Q) (fun {ζ G A L H σ env x rx r0 Q} R hx e q => by
    obtain ⟨d, ds, g1, g2, g3, g4, rfl⟩ := inTF_ok e
    cases g2
    exact ⟨d, _, Rp.dp _ _ (shaped_plain g3) (hx.d R.gh g1), .tup (h2 _) (dpall_keys ks), g3, g4, q.val R (.bl _)⟩) (tb_ok q)
end
end SE

namespace SE
open PySem L2 RZ
/-! ### a def that may raise, called where it does not -/
def calmR : Res (O × List (List D)) → Res (O × List (List D))
  | .ok p => .ok (p.1, [])
  | _ => .stuck
def calmF (fn : Fn) : Fn := fun os => calmR (fn os)
@[simp] theorem e_calmF {fn : Fn} {os : List O} : calmF fn os = calmR (fn os) := rfl
@[simp] theorem e_calmR {p : O × List (List D)} : calmR (.ok p) = .ok (p.1, []) := rfl
theorem spX_calm {K : PySem.W.Frag} {mg : Str → Option Value} {n : Nat} {fn : Fn} {vs : List V} {H : Hp} {Q : VK} {E E' : XK} (h : spM K n [] (calmF fn) vs H Q E) : spX K mg n fn vs H Q E' := by
  obtain ⟨G, A, L, os, r, outs, hl, R, e, q⟩ := h
  refine ⟨G, A, L, os, hl, R, ?_⟩
  unfold calmF calmR at e
  cases hf : fn os with
  | ok p =>
    rw [hf] at e
    cases e
    exact fun v H' G' ζ' σ' env' s R' hv => q v H' G' ζ' σ' env' s R' rfl hv
  | exc x => rw [hf] at e; cases e
  | stuck => rw [hf] at e; cases e
theorem cal_calm {P : Program} {w : World} {K : PySem.W.Frag} {mg : Str → Option Value} {base : Heap} {x : Str} {k n : Nat} {fn : Fn} (C : CalX P w K mg base x k n fn) : Cal P w K mg base x k n [] (calmF fn) := by
  obtain ⟨f, fd, ps, h1, h2, h3, h4⟩ := C
  refine ⟨f, fd, ps, h1, h2, h3, ⟨fun vs H Q E h => h4.len vs H Q E (spX_calm h), fun A outer s H args us vs Q E hr he hb hv hs => ?_⟩⟩
  refine PySem.codeAny_mono (h4.run A outer s H args us vs Q (fun _ _ _ => False) hr he hb hv (spX_calm hs)) fun r s' h => ?_
  match r, h with
  | .ok (.ret u), h => exact h
  | .error e, h =>
    obtain ⟨a, B, H', cls, d, _, _, _, _, _, _, _, hE⟩ := h
    exact hE.elim
end SE

namespace SE
open PySem L2 RZ
/-! ### e.index(y), e.count(y): e an expression that tells a frozen list -/
def mxF (a : Opd) (f : O → O → Res O) (p : O × Env) : Res (O × Env) := match p.1 with
  | .val (.list xs) => (pass [a] p.2).bind fun q => fin2 f (.val (.list xs) :: q.1, q.2)
  | _ => .stuck
def mMX (m : M) (a : Opd) (f : O → O → Res O) : M := fun env => (m env).bind (mxF a f)
@[simp] theorem e_mMX {m : M} {a : Opd} {f : O → O → Res O} {env : Env} : mMX m a f env = (m env).bind (mxF a f) := rfl
@[simp] theorem e_mxF {a : Opd} {f : O → O → Res O} {xs : List D} {env : Env} : mxF a f (.val (.list xs), env) = (pass [a] env).bind fun q => fin2 f (.val (.list xs) :: q.1, q.2) := rfl
theorem mx_ok {K : PySem.W.Frag} {ζ : Option ZI} {m : M} {a : Opd} {f : O → O → Res O} {r : V → List V → Hp → VK → Prop} (hf : Sem2 K f fun x y H Q => r x [y] H Q) {σ : St} {H : Hp} {Q : VK} (h : tM K ζ (mMX m a f) σ H Q) : tBM K "list" r (tM K ζ m) (tAll K ζ [a]) σ H Q := by
  obtain ⟨G, A, L, env, r0, env', R, e, q⟩ := h
  unfold mMX mxF at e
  obtain ⟨⟨x, e1⟩, h1, e⟩ := bind_eq_ok e
  match x, h1, e with
  | .val (.list xs), h1, e =>
    refine ⟨G, A, L, env, .val (.list xs), e1, R, h1, fun v H1 G1 s1 R1 hv => ?_⟩
    obtain ⟨⟨rs, e2⟩, h2, h⟩ := bind_eq_ok e
    have o0 : ROp K G1 A L H1 σ e1 (.m m) (.val (.list xs)) v := hv
    have rd : Rdy K G1 H1 (.val (.list xs)) v := o0.rdy R1 rfl
    obtain ⟨p, vs, rfl, hp, _⟩ := rd.l R1.gh (show (O.val (.list xs)).l = some xs from rfl)
    refine ⟨.inl ⟨rfl, _, .of hp⟩, ?_⟩
    obtain ⟨A', hA, R1', back⟩ := protect R1 hv
    refine pass_all [a] R1' h2 fun ws H2 G2 s2 R2 ops => ?_
    obtain ⟨R3, hv'⟩ := back G2 H2 e2 s2 R2
    have o2 : ROp K G2 A L H2 σ e2 (.m m) (.val (.list xs)) (.ref p) := hv'
    have ops' := ops.weakA hA
    cases ops' with
    | cons o1 t =>
      cases t
      unfold fin2 at h
      simp only at h
      split at h
      · rename_i l2
        obtain ⟨r', h3, h⟩ := bind_eq_ok h
        cases h
        have l3 := Bool.and_eq_true_iff.mp l2
        exact hf R3 (o2.rdy R3 rfl) (o1.rdy R3 l3.2) h3 (Post.of (s1.trans s2) q)
      · cases h
  | .un, _, e => cases e
  | .tpl _, _, e => cases e
  | .own _, _, e => cases e
  | .pin _ _, _, e => cases e
  | .dct _ _, _, e => cases e
  | .scr _, _, e => cases e
section
variable {X : Cx} {ζ : Option ZI} {o e : Expr} {m : M} {ob : Opd} {name : Str} {id : String} {apos cpos : Pos} {f : O → O → Res O} {r : V → List V → Hp → VK → Prop}
theorem r_mx (slot : Slot "list" name id) (hty : typeOf (.builtin id) = pure (.type "method_descriptor")) (hm : MtR X id r) (hf : Sem2 X.K f fun x y H Q => r x [y] H Q) (ho : PE X o (tM X.K ζ m)) (ha : PE X e (tOpd X.K ζ ob))
    (hbase : attributeBase o name X.env (eval o X.env) = eval o X.env := by rfl)
    (hfew : ((backTo cpos (starEach [e] X.env)).all (fun x => !x.1) && (backToKw cpos (keywordEach [] X.env)).all (fun x => x.1.isSome)
      && decide ([e].length + ([] : List Keyword).length + (if ([] : List Keyword).isEmpty then 0 else 1) < 30)) = true := by rfl)
    (hline : (apos.endLine == cpos.line) = true := by rfl)
    (hs : starEach [e] X.env = (false, eval e X.env) :: starEach [] X.env := by rfl) (hplain : (backTo cpos (starEach [] X.env)).any (·.1) = false := by rfl) : PE X (.Call (.Attribute o name apos) [e] [] cpos) (tM X.K ζ (mMX m ob f)) :=
  pew (pe_bm PySem.F.plainAttrs_list slot hty hm ho (pa_cons ha pa_nil hs) hbase hfew hline hs hplain) fun σ H Q q => mx_ok hf q
end
/-! ### for x in reversed(list) -/
def srcRv (m : M) : Src := fun env => (frz m env).bind fun p => match p.1 with
  | .val (.list ds) => .ok (ds.reverse, p.2)
  | _ => .stuck
theorem wk_rev {K : PySem.W.Frag} {G A : Hp} {a : Addr} {vs : List V} {ds : List D} (h : G a = some (.lst vs)) (hv : RpAll K G vs ds) : Wk K (Itv K a vs.length) G A ds.reverse where
  go := fun i d G1 H1 s g _ e => by
    have hl := hv.length
    have hi : i < ds.length := by
      have := (List.getElem?_eq_some_iff.mp e).1
      simpa using this
    rw [List.getElem?_reverse hi] at e
    obtain ⟨v, e1, rp⟩ := hv.getD e
    rw [show ds.length - 1 - i = vs.length - 1 - i by omega] at e1
    have hs : SqL K H1 a vs := .of (g _ _ (s _ _ h))
    refine ⟨⟨by omega, vs, v, hs, e1⟩, fun x H' y => ?_⟩
    obtain ⟨rfl, y⟩ := y
    have := y vs hs
    rw [e1] at this
    cases this
    exact ⟨G1, same_refl _, rp.m s, .inl ⟨rfl, rfl⟩⟩
  stop := fun G1 H1 s g _ => by
    show vs.length ≤ ds.reverse.length
    rw [List.length_reverse, hv.length]; exact Nat.le_refl _
section
variable {X : Cx} {ζ : Option ZI} {tg e : Expr} {m : M} {p pos : Pos}
theorem ri_rev (hm : X.mg "reversed" = none) (he : PE X e (tM X.K ζ m)) (hg : Gl X "reversed" := by rfl) (hs : starEach [e] X.env = [(false, eval e X.env)] := by rfl) (hs2 : starEach [e] X.env = (false, eval e X.env) :: starEach [] X.env := by rfl) : PI X tg (.Call (.Name "reversed" p) [e] [] pos) (tI X.K ζ (srcRv m)) :=
  piw (pi_reversed hg hm (pa_cons (r_frz he) pa_nil hs2) hs) fun σ H Rr q => by
    obtain ⟨G, A, L, env, ds, env', R, h, q⟩ := q
    obtain ⟨⟨r, e1⟩, h1, h⟩ := bind_eq_ok h
    refine ⟨G, A, L, env, r, e1, R, h1, fun v H' G' s R' hv => ?_⟩
    simp only at h
    split at h
    · cases h
      rename_i ds'
      cases (show Rp X.K G' v (.list ds') from hv) with
      | lst k1 k2 => exact ⟨_, _, rfl, .of (R'.gh _ _ k1), q _ H' G' s R' (wk_rev k1 k2)⟩
    · cases h
end
def rvF (p : O × Env) : Res (List D × Env) := match p.1 with
  | .val (.list ds) => .ok (ds.reverse, p.2)
  | _ => .stuck
@[simp] theorem e_srcRv {m : M} {env : Env} : srcRv m env = (frz m env).bind rvF := rfl
@[simp] theorem e_rvF {ds : List D} {env : Env} : rvF (.val (.list ds), env) = .ok (ds.reverse, env) := rfl
end SE

namespace SE
open PySem L2 RZ
/-! ### [.. for .. for ..] -/
theorem wipe_sub {σ : St} {vs vs1 : List Nat} (h : ∀ i ∈ vs1, i ∈ vs) : L2.wipe (L2.wipe σ vs1) vs = L2.wipe σ vs := by
  apply List.ext_getElem?
  intro i
  by_cases hi : i ∈ vs
  · have key : ∀ (τ : St), τ.length = σ.length → (L2.wipe τ vs)[i]? = if i < σ.length then some none else none := by
      intro τ hτ
      by_cases hl : i < σ.length
      · rw [if_pos hl]
        have hlt : i < (L2.wipe τ vs).length := by rw [wipe_length, hτ]; exact hl
        cases e : (L2.wipe τ vs)[i]'hlt with
        | none => rw [List.getElem?_eq_getElem hlt, e]
        | some v =>
          have q : (L2.wipe τ vs)[i]? = some (some v) := by rw [List.getElem?_eq_getElem hlt, e]
          exact absurd hi (wipe_some q).2
      · rw [if_neg hl, List.getElem?_eq_none (by rw [wipe_length, hτ]; omega)]
    rw [key _ (wipe_length σ vs1), key σ rfl]
  · rw [wipe_out' hi, wipe_out' hi, wipe_out' fun z => hi (h i z)]
theorem wipe_idem {σ : St} {vs : List Nat} : L2.wipe (L2.wipe σ vs) vs = L2.wipe σ vs := wipe_sub fun _ z => z
def compL2 (g : Bnd) (t : T) (src1 : Src) (g1 : Bnd) (t1 : T) (elt : M) (vs vs1 : List Nat) : List D → List D → Env → Res (List D × Env)
  | [], acc, env => .ok (acc, env)
  | d :: ds, acc, env => match g d env with
    | none => .stuck
    | some e => (t e).bind fun p => if p.1 = true then (src1 p.2).bind fun q => (compL g1 t1 elt vs1 q.1 acc (wipeE q.2 vs1)).bind fun r => compL2 g t src1 g1 t1 elt vs vs1 ds r.1 (wipeE r.2 vs)
      else compL2 g t src1 g1 t1 elt vs vs1 ds acc (wipeE p.2 vs)
def mComp2 (src : Src) (g : Bnd) (t : T) (src1 : Src) (g1 : Bnd) (t1 : T) (elt : M) (vs vs1 : List Nat) : M := fun env => (src env).bind fun p => if vs.all (fun i => (p.2.getD i .un).soft) = true then (compL2 g t src1 g1 t1 elt vs vs1 p.1 [] (wipeE p.2 vs)).bind fun q => .ok (.own q.1, restE p.2 q.2 vs) else .stuck
section
variable {K : PySem.W.Frag} {ζ : Option ZI} {G A : Hp} {L : Nat → Option Addr} {H : Hp} {σ σ2 : St}
theorem unpin {env : Env} (R : REnv K ζ G A L H σ env) {vs : List Nat} (hL : ∀ i ∈ vs, L i = none) : ∀ i ∈ vs, (env.getD i .un).pinned = false := fun i hi => by
  cases q : env.getD i .un with
  | pin w xs =>
    have e := getD_some q rfl
    have hl : i < σ.length := by rw [← R.len]; exact (List.getElem?_eq_some_iff.mp e).1
    have z := R.sl i _ _ e (List.getElem?_eq_getElem hl)
    cases w with
    | true => obtain ⟨p, us, e1, _⟩ := z; rw [hL i hi] at e1; cases e1
    | false => obtain ⟨p, us, e1, _⟩ := z; rw [hL i hi] at e1; cases e1
  | _ => rfl
theorem inner_ok {J : It} {g : Bnd} {t : T} {me : M} {sl vs : List Nat} (hsl : ∀ i ∈ sl, i ∈ vs) {D : Addr} {vacc : List V} {acc accF : List PyData} {ds : List PyData} {e1 envF : Env} (aD : A D = none) (hLD : ∀ i, L i ≠ some D) (hL : ∀ i ∈ vs, L i = none)
    (R : REnv K ζ G (upd A D (.lst vacc)) L H σ2 e1) (rv : RpAll K G vacc acc) (WK : Wk K J G noH ds) (h2 : compL g t me vs ds acc (wipeE e1 vs) = .ok (accF, envF)) {Nx : Hp → Prop}
    (hN : ∀ H' G' vacc', Same G G' → REnv K ζ G' (upd A D (.lst vacc')) L H' (L2.wipe σ2 vs) envF → RpAll K G' vacc' accF → Nx H') :
    ∃ W1 : Nat → Nat → Hp → Prop, (∃ m, W1 0 m H) ∧ ∀ j k H, W1 j k H →
      (J.stop j H ∧ Nx H) ∨ (J.go j H ∧ ∃ Nx1 : Hp → Prop, (∀ H', Nx1 H' → ∃ k', k' < k ∧ W1 (j + 1) k' H') ∧ ∀ x H', J.yld j H x H' → tG K ζ sl g x (L2.wipe σ2 vs) H' fun σ3 H5 => L2.wipe σ3 vs = L2.wipe σ2 vs ∧ tT K ζ t σ3 H5 fun b H6 =>
        if b = true then tM K ζ me σ3 H6 fun y H7 => ∃ acc, H7 D = some (.lst acc) ∧ acc.length < sizeLine ∧ Nx1 (upd H7 D (.lst (acc ++ [y]))) else Nx1 H6) := by
  refine ⟨fun i m H => m = ds.length - i ∧ i ≤ ds.length ∧ ∃ G2 env acc vacc, Same G G2 ∧ REnv K ζ G2 (upd A D (.lst vacc)) L H (L2.wipe σ2 vs) env ∧ RpAll K G2 vacc acc ∧ compL g t me vs (ds.drop i) acc env = .ok (accF, envF),
    ⟨_, rfl, Nat.zero_le _, G, wipeE e1 vs, acc, vacc, same_refl _, wipe_env R (unpin R hL), rv, h2⟩, ?_⟩
  rintro i m H2 ⟨rfl, hi, G2, env2, acc, vacc, s2, R2, rv, hc⟩
  by_cases hlt : i < ds.length
  · have e : ds[i]? = some ds[i] := by simp [hlt]
    obtain ⟨go, yl⟩ := WK.go i _ G2 H2 s2 R2.gh noH_same e
    refine .inr ⟨go, fun H' => i + 1 ≤ ds.length ∧ ∃ G2 env acc vacc, Same G G2 ∧ REnv K ζ G2 (upd A D (.lst vacc)) L H' (L2.wipe σ2 vs) env ∧ RpAll K G2 vacc acc ∧ compL g t me vs (ds.drop (i + 1)) acc env = .ok (accF, envF),
      fun H' n => ⟨ds.length - (i + 1), by omega, rfl, n⟩, fun x H' y => ?_⟩
    obtain ⟨G3, s3, rp, hh⟩ := yl x H' y
    have R3 : REnv K ζ G3 (upd A D (.lst vacc)) L H' (L2.wipe σ2 vs) env2 := by
      rcases hh with ⟨rfl, rfl⟩ | ⟨p, o, hp, rfl, rfl⟩
      · exact R2
      · exact R2.lay hp o
    have ed : ds.drop i = ds[i] :: ds.drop (i + 1) := List.drop_eq_getElem_cons hlt
    rw [ed] at hc
    unfold compL at hc
    cases eg : g ds[i] env2 with
    | none => rw [eg] at hc; cases hc
    | some ev =>
      rw [eg] at hc
      simp only at hc
      obtain ⟨⟨b, e4⟩, h4, hc⟩ := bind_eq_ok hc
      have hw : ∀ {σ4 : St}, But sl (L2.wipe σ2 vs) σ4 → L2.wipe σ4 vs = L2.wipe σ2 vs := fun u4 => by rw [u4.wipe hsl, wipe_idem]
      refine ⟨G3, _, L, env2, ds[i], ev, R3, rp, eg, fun σ4 u4 R4 => ⟨hw u4, G3, _, L, ev, b, e4, R4, h4, fun H5 G5 s5 R5 => ?_⟩⟩
      cases b with
      | false =>
        rw [if_neg Bool.false_ne_true] at hc
        refine iteF ?_
        exact ⟨hlt, G5, _, acc, vacc, s2.trans (s3.trans s5), rewipe (hw u4) R5 hL, rv.m (s3.trans s5), hc⟩
      | true =>
        rw [if_pos rfl] at hc
        refine iteT ?_
        obtain ⟨⟨r, e6⟩, h6, hc⟩ := bind_eq_ok hc
        refine ⟨G5, _, L, e4, r, e6, R5, h6, fun v H7 G7 s7 R7 hv => ?_⟩
        simp only at hc
        split at hc
        · split at hc
          · rename_i rr hz
            refine ⟨vacc, R7.ah _ _ upd_same, by rw [rv.length, ← sl_eq]; exact hz, hlt, G7, _, _, vacc ++ [v], s2.trans (s3.trans (s5.trans s7)), amb_put hLD (rewipe (hw u4) R7 hL), (rv.m (s3.trans (s5.trans s7))).app (.cons hv .nil), hc⟩
          · cases hc
        · cases hc
  · have e : i = ds.length := by omega
    subst e
    rw [List.drop_length] at hc
    cases hc
    exact .inl ⟨WK.stop G2 H2 s2 R2.gh noH_same, hN H2 G2 vacc s2 R2 rv⟩
end
section
variable {X : Cx} {ζ : Option ZI} {W : WX} {elt tg iter tg1 iter1 : Expr} {ifs ifs1 : List Expr} {scope : Scope} {own : List (Str × Nat)} {pos : Pos} {src src1 : Src} {g g1 : Bnd} {t t1 : T} {me : M} {sl sl1 vs1 : List Nat}
theorem comp_ok2 {K : PySem.W.Frag} {ζ : Option ZI} {vs : List Nat} (hsl : ∀ i ∈ sl, i ∈ vs) (hsl1 : ∀ i ∈ sl1, i ∈ vs1) (hv : ∀ i ∈ vs1, i ∈ vs) {σ : St} {H : Hp} {Q : VK} (q : tM K ζ (mComp2 src g t src1 g1 t1 me vs vs1) σ H Q) :
    tLc2 (tI K ζ src) (tG K ζ sl g) (tT K ζ t) (tI K ζ src1) (tG K ζ sl1 g1) (tT K ζ t1) (tM K ζ me) vs vs1 σ H Q := by
  obtain ⟨G, A, L, env, r0, env', R, e, q⟩ := q
  obtain ⟨⟨ds, e1⟩, h1, h⟩ := bind_eq_ok e
  refine ⟨G, A, L, env, ds, e1, R, h1, fun J H1 G1 s1 R1 W D hD => ?_⟩
  simp only at h
  split at h
  · rename_i hsoft
    have hs : ∀ i ∈ vs, (e1.getD i .un).soft = true := fun i hi => List.all_eq_true.mp hsoft i hi
    have hL : ∀ i ∈ vs, L i = none := fun i hi => by
      cases q : L i with
      | none => rfl
      | some p =>
        obtain ⟨w, xs, e⟩ := R1.lp i p q
        have := hs i hi
        rw [List.getD_eq_getElem?_getD, e] at this
        cases this
    obtain ⟨⟨accF, envF⟩, h2, h⟩ := bind_eq_ok h
    cases h
    have hLD : ∀ i, L i ≠ some D := fun i z => by
      obtain ⟨u, hu⟩ := pin_alive R1 z
      rw [hD] at hu; cases hu
    have aD : A D = none := R1.ah.free hD
    refine ⟨fun i m H => m = ds.length - i ∧ i ≤ ds.length ∧ ∃ G2 env acc vacc, Same G1 G2 ∧ REnv K ζ G2 (upd A D (.lst vacc)) L H (L2.wipe σ vs) env ∧ RpAll K G2 vacc acc ∧ compL2 g t src1 g1 t1 me vs vs1 (ds.drop i) acc env = .ok (accF, envF),
      ⟨_, rfl, Nat.zero_le _, G1, wipeE e1 vs, [], [], same_refl _, amb_in (wipe_env R1 fun i hi => soft_pinned (hs i hi)) hD, .nil, h2⟩, ?_⟩
    rintro i m H2 ⟨rfl, hi, G2, env2, acc, vacc, s2, R2, rv, hc⟩
    by_cases hlt : i < ds.length
    · have e : ds[i]? = some ds[i] := by simp [hlt]
      obtain ⟨go, yl⟩ := W.go i _ G2 H2 s2 R2.gh noH_same e
      refine .inr ⟨go, fun H' => i + 1 ≤ ds.length ∧ ∃ G2 env acc vacc, Same G1 G2 ∧ REnv K ζ G2 (upd A D (.lst vacc)) L H' (L2.wipe σ vs) env ∧ RpAll K G2 vacc acc ∧ compL2 g t src1 g1 t1 me vs vs1 (ds.drop (i + 1)) acc env = .ok (accF, envF),
        fun H' n => ⟨ds.length - (i + 1), by omega, rfl, n⟩, fun x H' y => ?_⟩
      obtain ⟨G3, s3, rp, hh⟩ := yl x H' y
      have R3 : REnv K ζ G3 (upd A D (.lst vacc)) L H' (L2.wipe σ vs) env2 := by
        rcases hh with ⟨rfl, rfl⟩ | ⟨p, o, hp, rfl, rfl⟩
        · exact R2
        · exact R2.lay hp o
      have ed : ds.drop i = ds[i] :: ds.drop (i + 1) := List.drop_eq_getElem_cons hlt
      rw [ed] at hc
      unfold compL2 at hc
      cases eg : g ds[i] env2 with
      | none => rw [eg] at hc; cases hc
      | some ev =>
        rw [eg] at hc
        simp only at hc
        obtain ⟨⟨b, e4⟩, h4, hc⟩ := bind_eq_ok hc
        have hw : ∀ {σ4 : St}, But sl (L2.wipe σ vs) σ4 → L2.wipe σ4 vs = L2.wipe σ vs := fun u4 => by rw [u4.wipe hsl, wipe_idem]
        refine ⟨G3, _, L, env2, ds[i], ev, R3, rp, eg, fun σ4 u4 R4 => ⟨hw u4, G3, _, L, ev, b, e4, R4, h4, fun H5 G5 s5 R5 => ?_⟩⟩
        cases b with
        | false =>
          rw [if_neg Bool.false_ne_true] at hc
          refine iteF ?_
          exact ⟨hlt, G5, _, acc, vacc, s2.trans (s3.trans s5), rewipe (hw u4) R5 hL, rv.m (s3.trans s5), hc⟩
        | true =>
          rw [if_pos rfl] at hc
          refine iteT ?_
          obtain ⟨⟨ds1, e6⟩, h6, hc⟩ := bind_eq_ok hc
          obtain ⟨⟨acc1, env1⟩, h7, hc⟩ := bind_eq_ok hc
          refine ⟨G5, _, L, e4, ds1, e6, R5, h6, fun J1 H7 G7 s7 R7 W7 => ?_⟩
          refine inner_ok hsl1 aD hLD (fun i hi => hL i (hv i hi)) R7 (rv.m (s3.trans (s5.trans s7))) W7 h7 fun H8 G8 vacc8 s8 R8 rv8 => ?_
          have hw8 : L2.wipe (L2.wipe σ4 vs1) vs = L2.wipe σ vs := by rw [wipe_sub hv, hw u4]
          exact ⟨hlt, G8, _, acc1, vacc8, s2.trans (s3.trans (s5.trans (s7.trans s8))), rewipe hw8 R8 hL, rv8, hc⟩
    · have e : i = ds.length := by omega
      subst e
      rw [List.drop_length] at hc
      cases hc
      refine .inl ⟨W.stop G2 H2 s2 R2.gh noH_same, ?_⟩
      obtain ⟨R3, hv⟩ := amb_out aD hLD R2 rv
      have R0 : REnv K ζ G2 A L H2 σ (restE e1 envF vs) := by
        have mono : ∀ {i : Nat} {d : PyData} {w : Option V}, RSl K ζ G1 A L H1 i (.val d) w → RSl K ζ G2 A L H2 i (.val d) w := fun {i d w} q => by
          obtain ⟨v, e, q⟩ := q
          exact ⟨v, e, q.m s2⟩
        refine ⟨by rw [restE_len]; have := R3.len; rw [wipe_length] at this; exact this, R3.gh, R3.ah, R3.ag, fun i o w e1' e2 => ?_, fun i j x y p e1' e2 m1 m2 z1 z2 => ?_, fun i p e => ?_, R3.tu⟩
        · by_cases hi : i ∈ vs
          · have eo := restE_in hi e1'
            have so := hs i hi
            rw [← eo] at so
            match o, so with
            | .un, _ => trivial
            | .val d, _ => exact mono (R1.sl i _ _ (getD_some eo.symm rfl) e2)
          · rw [restE_out hi] at e1'
            exact R3.sl i o w e1' (by rw [wipe_out' hi]; exact e2)
        · have soft : ∀ {k : Nat} {x : O}, (restE e1 envF vs)[k]? = some x → x.mine = true → k ∉ vs := fun {k x} e m hk => by
            have eo := restE_in hk e
            have so := hs k hk
            rw [← eo] at so
            exact soft_mine so m
          have hi := soft e1' m1
          have hj := soft e2 m2
          rw [restE_out hi] at e1'
          rw [restE_out hj] at e2
          exact R3.inj i j x y p e1' e2 m1 m2 (by rw [wipe_out' hi]; exact z1) (by rw [wipe_out' hj]; exact z2)
        · obtain ⟨w, xs, q⟩ := R3.lp i p e
          have hi : i ∉ vs := fun z => by rw [hL i z] at e; cases e
          exact ⟨w, xs, by rw [restE_out hi]; exact q⟩
      refine q _ H2 G2 (s1.trans s2) R0 ?_
      obtain ⟨p, us, e2, e3, e4, e5, e6, e7, e8⟩ := hv
      refine ⟨p, us, e2, e3, e4, e5, e6, fun i x e m z => ?_, e8⟩
      have hi : i ∉ vs := fun hk => by
        have eo := restE_in hk e
        have so := hs i hk
        rw [← eo] at so
        exact soft_mine so m
      rw [restE_out hi] at e
      exact e7 i x e m (by rw [wipe_out' hi]; exact z)
  · cases h
theorem r_comp2 (hc : X.calm = true) (hN : X.N.Nodup) (hi : PI X tg iter (tI X.K ζ src)) (ok : BlkOk X.N X.env.scope scope own) (hsl : ∀ i ∈ sl, i ∈ own.map (·.2)) (hsl1 : ∀ i ∈ sl1, i ∈ vs1) (hv : ∀ i ∈ vs1, i ∈ own.map (·.2))
    (hg : ∀ (s : Shared) (H : Hp) (C : Addr) (cl : List (Str × Addr)) (fp : List Addr), PG (X.blk s H scope (compEnvC scope cl C X.env) fp) tg (tG X.K ζ sl g)) (ht : ∀ (s : Shared) (H : Hp) (C : Addr) (cl : List (Str × Addr)) (fp : List Addr), PTs (X.blk s H scope (compEnvC scope cl C X.env) fp) ifs (tT X.K ζ t))
    (hi1 : ∀ (s : Shared) (H : Hp) (C : Addr) (cl : List (Str × Addr)) (fp : List Addr), PI (X.blk s H scope (compEnvC scope cl C X.env) fp) tg1 iter1 (tI X.K ζ src1))
    (hg1 : ∀ (s : Shared) (H : Hp) (C : Addr) (cl : List (Str × Addr)) (fp : List Addr), PG (X.blk s H scope (compEnvC scope cl C X.env) fp) tg1 (tG X.K ζ sl1 g1)) (ht1 : ∀ (s : Shared) (H : Hp) (C : Addr) (cl : List (Str × Addr)) (fp : List Addr), PTs (X.blk s H scope (compEnvC scope cl C X.env) fp) ifs1 (tT X.K ζ t1))
    (he : ∀ (s : Shared) (H : Hp) (C : Addr) (cl : List (Str × Addr)) (fp : List Addr), PE (X.blk s H scope (compEnvC scope cl C X.env) fp) elt (tM X.K ζ me)) (hs : ∀ x, foldedSetIterable iter X.env x = pure x := by intro _; rfl) (hs1 : ∀ env x, foldedSetIterable iter1 env x = pure x := by intro _ _; rfl) :
    PE X (.ListComp elt [⟨tg, iter, ifs, 0⟩, ⟨tg1, iter1, ifs1, 0⟩] scope pos) (tM X.K ζ (mComp2 src g t src1 g1 t1 me (own.map (·.2)) vs1)) := pew (pe_lc2 hc hN hi ok hv hg ht hi1 hg1 ht1 he hs hs1) fun σ H Q q => comp_ok2 hsl hsl1 hv q
theorem rs_setLc2 {i : Nat} {y : Str} {py spos : Pos} (hc : X.calm = true) (hN : X.N.Nodup) (hy : X.N[i]? = some y) (hyl : X.env.scope.names.lookup y = some .local)
    (hsw : swapsWith (.ListComp elt [⟨tg, iter, ifs, 0⟩, ⟨tg1, iter1, ifs1, 0⟩] scope pos) (some (.Name y py)) spos.line X.env = pure true) (hi : PI X tg iter (tI X.K ζ src)) (ok : BlkOk X.N X.env.scope scope own) (hsl : ∀ i ∈ sl, i ∈ own.map (·.2)) (hsl1 : ∀ i ∈ sl1, i ∈ vs1) (hv : ∀ i ∈ vs1, i ∈ own.map (·.2))
    (hg : ∀ (s : Shared) (H : Hp) (C : Addr) (cl : List (Str × Addr)) (fp : List Addr), PG (X.blk s H scope (compEnvC scope cl C X.env) fp) tg (tG X.K ζ sl g)) (ht : ∀ (s : Shared) (H : Hp) (C : Addr) (cl : List (Str × Addr)) (fp : List Addr), PTs (X.blk s H scope (compEnvC scope cl C X.env) fp) ifs (tT X.K ζ t))
    (hi1 : ∀ (s : Shared) (H : Hp) (C : Addr) (cl : List (Str × Addr)) (fp : List Addr), PI (X.blk s H scope (compEnvC scope cl C X.env) fp) tg1 iter1 (tI X.K ζ src1))
    (hg1 : ∀ (s : Shared) (H : Hp) (C : Addr) (cl : List (Str × Addr)) (fp : List Addr), PG (X.blk s H scope (compEnvC scope cl C X.env) fp) tg1 (tG X.K ζ sl1 g1)) (ht1 : ∀ (s : Shared) (H : Hp) (C : Addr) (cl : List (Str × Addr)) (fp : List Addr), PTs (X.blk s H scope (compEnvC scope cl C X.env) fp) ifs1 (tT X.K ζ t1))
    (he : ∀ (s : Shared) (H : Hp) (C : Addr) (cl : List (Str × Addr)) (fp : List Addr), PE (X.blk s H scope (compEnvC scope cl C X.env) fp) elt (tM X.K ζ me)) (hs : ∀ x, foldedSetIterable iter X.env x = pure x := by intro _; rfl) (hs1 : ∀ env x, foldedSetIterable iter1 env x = pure x := by intro _ _; rfl) :
    PS X (.Assign [.Name y py] (.ListComp elt [⟨tg, iter, ifs, 0⟩, ⟨tg1, iter1, ifs1, 0⟩] scope pos) spos) (tS X.K ζ X.mg W (sSet i (mComp2 src g t src1 g1 t1 me (own.map (·.2)) vs1))) :=
  psw (ps_setLc2 hc hN hy hyl hsw hi ok hv hg ht hi1 hg1 ht1 he hs hs1) fun D σ H q => comp_ok2 hsl hsl1 hv (set_ok q)
end
end SE

namespace SE
open PySem L2 RZ
/-! ### an expression that only reads: some lists are lent to it, the other own ones are out of sight; it tells something flat -/
def hideO (b : Bool) : O → O
  | .own xs => if b = true then .val (.list xs) else .un
  | .dct _ xs => if b = true then .val (.dict xs) else .un
  | .pin _ _ => .un
  | o => o
def hideK (sl : List Nat) : Nat → Env → Env
  | _, [] => []
  | k, o :: r => hideO (sl.contains k) o :: hideK sl (k + 1) r
def hideE (sl : List Nat) (env : Env) : Env := hideK sl 0 env
theorem hideK_len (sl : List Nat) : ∀ (k : Nat) (env : Env), (hideK sl k env).length = env.length
  | _, [] => rfl
  | k, o :: r => by rw [hideK, List.length_cons, List.length_cons, hideK_len sl (k + 1) r]
theorem hideK_get {sl : List Nat} {o : O} : ∀ {env : Env} {k i : Nat}, (hideK sl k env)[i]? = some o → ∃ x, env[i]? = some x ∧ o = hideO (sl.contains (k + i)) x
  | [], k, i, h => by simp [hideK] at h
  | x :: r, k, 0, h => ⟨x, rfl, (Option.some.inj h).symm⟩
  | x :: r, k, i + 1, h => by
    obtain ⟨y, h1, h2⟩ := hideK_get (env := r) (k := k + 1) (i := i) (by simpa [hideK] using h)
    exact ⟨y, by simpa using h1, by rw [h2, show k + 1 + i = k + (i + 1) by omega]⟩
def scopeF (env : Env) : O × Env → Res (O × Env)
  | (.val d, _) => if flat d = true then .ok (.val d, env) else .stuck
  | _ => .stuck
def mScope (sl : List Nat) (m : M) : M := fun env => (m (hideE sl env)).bind (scopeF env)
theorem hide_get {sl : List Nat} {env : Env} {i : Nat} {o : O} (h : (hideE sl env)[i]? = some o) : ∃ x, env[i]? = some x ∧ o = hideO (sl.contains i) x := by
  obtain ⟨x, h1, h2⟩ := hideK_get (show (hideK sl 0 env)[i]? = some o from h)
  exact ⟨x, h1, by rw [h2, Nat.zero_add]⟩
theorem hide_mine {b : Bool} {x : O} : (hideO b x).mine = false := by
  cases x with
  | own xs => cases b <;> rfl
  | dct t xs => cases b <;> rfl
  | pin w xs => rfl
  | _ => rfl
open Classical in
theorem scope_ok {K : PySem.W.Frag} {ζ : Option ZI} {sl : List Nat} {m : M} {σ : St} {H : Hp} {Q : VK} (h : tM K ζ (mScope sl m) σ H Q) : tM K ζ m σ H Q := by
  obtain ⟨G, A, L, env, r0, env', R, e, q⟩ := h
  obtain ⟨⟨r, env1⟩, h1, h⟩ := bind_eq_ok e
  match r, h, h1 with
  | .val d, h, h1 =>
    have h : (if flat d = true then Res.ok (O.val d, env) else Res.stuck) = .ok (r0, env') := h
    split at h
    · rename_i hfl
      cases h
      let lentAt : Addr → Prop := fun a => ∃ (j : Nat) (x : O), env[j]? = some x ∧ x.mine = true ∧ σ[j]? = some (some (V.ref a)) ∧ j ∈ sl
      let ownAt : Addr → Prop := fun a => (∃ (j : Nat) (x : O), env[j]? = some x ∧ x.mine = true ∧ σ[j]? = some (some (V.ref a))) ∧ ¬ lentAt a
      let G1 : Hp := fun a => if lentAt a then H a else G a
      let A1 : Hp := fun a => if ownAt a then H a else A a
      have G1y : ∀ {a : Addr}, lentAt a → G1 a = H a := fun z => if_pos z
      have G1n : ∀ {a : Addr}, ¬ lentAt a → G1 a = G a := fun z => if_neg z
      have A1y : ∀ {a : Addr}, ownAt a → A1 a = H a := fun z => if_pos z
      have A1n : ∀ {a : Addr}, ¬ ownAt a → A1 a = A a := fun z => if_neg z
      have lentNo : ∀ {a : Addr}, lentAt a → G a = none ∧ A a = none := fun ⟨j, x, e1, e2, e3, _⟩ => by
        obtain ⟨_, _, z2, z3⟩ := slot_alive R e1 e2 e3
        exact ⟨z2, z3⟩
      have ownNo : ∀ {a : Addr}, ownAt a → G a = none ∧ A a = none := fun ⟨⟨j, x, e1, e2, e3⟩, _⟩ => by
        obtain ⟨_, _, z2, z3⟩ := slot_alive R e1 e2 e3
        exact ⟨z2, z3⟩
      have GG1 : Same G G1 := fun a o z => by
        by_cases hm : lentAt a
        · have := (lentNo hm).1; rw [z] at this; cases this
        · rw [G1n hm]; exact z
      have AA1 : Same A A1 := fun a o z => by
        by_cases hm : ownAt a
        · have := (ownNo hm).2; rw [z] at this; cases this
        · rw [A1n hm]; exact z
      have RC : REnv K ζ G1 A1 (fun _ => none) H σ (hideE sl env) := by
        refine ⟨by unfold hideE; rw [hideK_len]; exact R.len, fun a o z => ?_, fun a o z => ?_, fun a o z => ?_, fun k o w e1 e2 => ?_, fun i j x y p e1 _ m1 _ _ _ => ?_, fun k p e => (by cases e), fun a us z => (if hm : ownAt a then (by rw [A1y hm] at z; obtain ⟨⟨j, x, f1, f2, f4⟩, _⟩ := hm; exact mine_tup R f1 f2 f4 us z) else (by rw [A1n hm] at z; exact R.tu a us z))⟩
        · by_cases hm : lentAt a
          · rw [G1y hm] at z; exact z
          · rw [G1n hm] at z; exact R.gh _ _ z
        · by_cases hm : ownAt a
          · rw [A1y hm] at z; exact z
          · rw [A1n hm] at z; exact R.ah _ _ z
        · by_cases hm : ownAt a
          · rw [G1n hm.2]; exact (ownNo hm).1
          · rw [A1n hm] at z
            by_cases hl : lentAt a
            · have := (lentNo hl).2; rw [z] at this; cases this
            · rw [G1n hl]; exact R.ag _ _ z
        · obtain ⟨x, ex, eo⟩ := hide_get e1
          have qs := R.sl k x w ex e2
          match x, ex, eo, qs with
          | .un, _, eo, _ => rw [eo]; trivial
          | .tpl _, _, eo, _ => rw [eo]; trivial
          | .val d', _, eo, qs =>
            rw [eo]
            obtain ⟨v, f1, f2⟩ := qs
            exact ⟨v, f1, f2.m GG1⟩
          | .own xs, ex, eo, qs =>
            rw [eo]
            obtain ⟨p, us, f1, f2, f3, f4, f5⟩ := qs
            by_cases hk : k ∈ sl
            · have hb : sl.contains k = true := by simpa using hk
              rw [hb]
              exact ⟨_, f1, .lst (by rw [G1y ⟨k, _, ex, rfl, by rw [e2, f1], hk⟩]; exact f2) (f5.m GG1)⟩
            · have hb : sl.contains k = false := by simpa using hk
              rw [hb]; trivial
          | .dct tk xs, ex, eo, qs =>
            rw [eo]
            obtain ⟨p, us, f1, f2, f3, f4, f5⟩ := qs
            by_cases hk : k ∈ sl
            · have hb : sl.contains k = true := by simpa using hk
              rw [hb]
              exact ⟨_, f1, (f5.m GG1).rp (by rw [G1y ⟨k, _, ex, rfl, by rw [e2, f1], hk⟩]; exact f2)⟩
            · have hb : sl.contains k = false := by simpa using hk
              rw [hb]; trivial
          | .pin w' xs, _, eo, _ => rw [eo]; trivial
          | .scr ns, _, eo, qs =>
            rw [eo]
            obtain ⟨p, f1, f2⟩ := qs
            exact ⟨p, f1, sameL GG1 f2⟩
          | .exn y, _, eo, qs =>
            rw [eo]
            obtain ⟨zi, C, dd, fs, z1, z2, z3, z4, z5, z6, z7⟩ := qs
            exact ⟨zi, C, dd, fs, z1, z2, z3, z4, z5, AA1 _ _ z6, z7.m GG1⟩
        · obtain ⟨x', _, eo⟩ := hide_get e1
          rw [eo, hide_mine] at m1
          cases m1
      refine ⟨G1, A1, _, _, .val d, env1, RC, h1, fun v H2 G2 s2 Rc hv => ?_⟩
      refine q v H2 G (same_refl G) ⟨R.len, fun a o z => Rc.gh _ _ (s2 _ _ (GG1 _ _ z)), fun a o z => Rc.ah _ _ (AA1 _ _ z), R.ag, fun j x w e1 e2 => ?_, R.inj, R.lp, R.tu⟩ (flat_any (show Rp K G2 v d from hv) hfl)
      have qs := R.sl j x w e1 e2
      have stay : ∀ (p : Addr) (us : HO), x.mine = true → w = some (V.ref p) → H p = some us → H2 p = some us := fun p us m ew hp => by
        by_cases hl : lentAt p
        · have z : G1 p = some us := by rw [G1y hl]; exact hp
          exact Rc.gh _ _ (s2 _ _ z)
        · have z : A1 p = some us := by rw [A1y ⟨⟨j, x, e1, m, by rw [e2, ew]⟩, hl⟩]; exact hp
          exact Rc.ah _ _ z
      match x, qs, stay with
      | .un, _, _ => trivial
      | .tpl _, _, _ => trivial
      | .val d', qs, _ => exact qs
      | .own xs, qs, stay =>
        obtain ⟨p, us, f1, f2, f3, f4, f5⟩ := qs
        exact ⟨p, us, f1, stay p _ rfl f1 f2, f3, f4, f5⟩
      | .dct tk xs, qs, stay =>
        obtain ⟨p, us, f1, f2, f3, f4, f5⟩ := qs
        exact ⟨p, us, f1, stay p _ rfl f1 f2, f3, f4, f5⟩
      | .pin true xs, qs, stay =>
        obtain ⟨p, us, f0, f1, f2, f3, f4, f5⟩ := qs
        exact ⟨p, us, f0, f1, stay p _ rfl f1 f2, f3, f4, f5⟩
      | .pin false xs, qs, _ => exact qs
      | .scr ns, qs, _ => exact qs
      | .exn y, qs, _ => exact qs
    · cases h
theorem r_scope {X : Cx} {ζ : Option ZI} {e : Expr} {sl : List Nat} {m : M} (h : PE X e (tM X.K ζ m)) : PE X e (tM X.K ζ (mScope sl m)) := pew h fun σ H Q q => scope_ok q
/-! ### isinstance(e, (A, B)), e the caught error -/
def tCs : List V → TA
  | [] => tNil
  | c :: r => tCons (tC c) (tCs r)
theorem tCs_run {σ : St} {H : Hp} : ∀ {cs : List V} {Q : List V → Hp → Prop}, Q cs H → tCs cs σ H Q
  | [], _, h => h
  | c :: r, Q, h => tCs_run (cs := r) (Q := fun xs H2 => Q (c :: xs) H2) h
theorem any_nil {K : PySem.W.Frag} {t : Value} : PySem.W.kitAny K t [] = some false := rfl
theorem any_cons {K : PySem.W.Frag} {t c : Value} {r : List Value} {b b' : Bool} (h : PySem.W.kitOne K t c = some b) (h' : PySem.W.kitAny K t r = some b') : PySem.W.kitAny K t (c :: r) = some (b || b') := by
  unfold PySem.W.kitAny
  rw [h]
  cases b
  · exact h'
  · rfl
def rIsET (K : PySem.W.Frag) (a : Addr) (cls : Value) (d : Option Addr) : List V → Hp → VK → Prop := fun xs H Q => ∃ (tp : Addr) (cs : List V) (us : List Value) (C dd : Addr) (fs : List (Str × V)) (b : Bool), xs = [.ref a, .ref tp] ∧ H tp = some (.tup cs) ∧ Paired ClsV cs us ∧ cls = .ref C ∧ d = some dd ∧ H dd = some (.xd fs) ∧ ExcF K C ∧ PySem.W.kitAny K (.ref C) us = some b ∧ Q (.bl b) H
section
variable {X : Cx} {a : Addr} {oe : Obj} {cls : Value} {d : Option Addr} {pn : List (Addr × Obj)} {i : Nat} {e : Expr} {p p2 pos tpos : Pos} {x1 : Nat}
theorem call_isET (hz : Zc cls d oe) (hf : ∃ vs, oe.data = .fields vs) : CallR (X.suite a ((a, oe) :: pn)) (.builtin "isinstance") (rIsET X.K a cls d) := by
  intro pins s σ H xs us Q I r h
  obtain ⟨tp, cs, ws, C, dd, fs, b, rfl, hT, k, rfl, rfl, hH, F, e, q⟩ := h
  obtain ⟨u1, u2, rfl, r1, r2⟩ := vals2 r
  cases (show u2 = Value.ref tp from r2)
  cases (show u1 = Value.ref a from r1)
  obtain ⟨hget, _⟩ := I.pin (a, oe) (List.mem_append.mpr (.inl List.mem_cons_self))
  obtain ⟨vs, hv⟩ := hf
  have hx : ObjOk X.prog X.w H s.heap dd (.xd fs) := I.hok dd _ hH
  obtain ⟨mA, hns, _⟩ := hx
  obtain ⟨od, ho, _⟩ := lookIn_ns hns
  have J : PySem.W.InstAt s.heap a oe C (some od) := by
    obtain ⟨oc, od', oda, osl⟩ := oe
    obtain ⟨h1, h2⟩ := hz
    dsimp only at h1 h2 hv
    subst h1 h2 hv
    exact ⟨hget, rfl, rfl, ho⟩
  have hok := I.hok tp _ hT
  obtain ⟨_, its, rv, o, g1, g2, n, g3⟩ := (show ObjOk X.prog X.w H s.heap tp (.tup cs) from hok)
  have e3 := ClsV.all k rv
  subst e3
  obtain ⟨c0, d0, t0, l0⟩ := o
  simp only at g2 g3
  subst g2 g3
  exact PySem.W.kia_tup (PySem.W.kitx_exc F.cl F.ga F.gg F.sb F.ha F.hn F.ht F.hm) I.kIn J g1 e (fun z => nomatch z) fun tk => ⟨.bl b, H, I.kept (t' := tk) fun _ _ z => z, rfl, q⟩
theorem r_isET {known : List (Str × Bool)} {es : List Expr} {cs : List V} {us : List Value} (hk : ∀ m b C, known.lookup m = some b → X.mg m = some (.ref C) → ExcF X.K C ∧ PySem.W.kitAny X.K (.ref C) us = some b) (hz : Zc cls d oe) (hf : ∃ vs, oe.data = .fields vs)
    (hm : X.mg "isinstance" = none) (he : PE (X.suite a ((a, oe) :: pn)) e (tVar i)) (hc : PA (X.suite a ((a, oe) :: pn)) es (tCs cs)) (hr : Paired ClsV cs us) (hl : Nat.ble cs.length 100 = true := by rfl) (hg : Gl X "isinstance" := by rfl) (hv : bootBuiltins "isinstance" = some (.builtin "isinstance") := by decide +kernel)
    (hs : starEach [e, .Tuple es x1 tpos] X.env = (false, eval e X.env) :: starEach [.Tuple es x1 tpos] X.env := by rfl) (hs2 : starEach [.Tuple es x1 tpos] X.env = (false, eval (.Tuple es x1 tpos) X.env) :: starEach [] X.env := by rfl) (hpl : (backTo pos (starEach [.Tuple es x1 tpos] X.env)).any (·.1) = false := by rfl) :
    PE (X.suite a ((a, oe) :: pn)) (.Call (.Name "isinstance" p) [e, .Tuple es x1 tpos] [] pos) (tM X.K (some ⟨a, cls, d, X.mg⟩) (mIsE i known)) :=
  pew (pe_callB (call_isET hz hf) hg hm hv (pa_cons he (pa_cons (pe_tup hc) pa_nil hs2) hs) (by decide) (by decide) hs hpl) fun σ H Q h => by
    obtain ⟨G, A, L, env, r, env', R, em, q⟩ := h
    unfold mIsE at em
    split at em
    · rename_i x hx
      split at em
      · rename_i b hb
        cases em
        obtain ⟨hv2, C, dd, fs, y1, y2, y3, y4, y5⟩ := slot_x R hx
        obtain ⟨F, kb⟩ := hk _ _ _ hb y2
        refine ⟨_, hv2, tCs_run ⟨Nat.le_trans (Nat.le_of_ble_eq_true hl) (by decide), fun tp htp => ?_⟩⟩
        have hne : dd ≠ tp := fun z => by rw [z, htp] at y4; cases y4
        exact ⟨tp, cs, us, C, dd, fs, b, rfl, upd_same, hr, y1, y3, by rw [upd_ne hne]; exact y4, F, kb, q _ _ G (same_refl G) (R.lay0 htp _) (Rp.bl b)⟩
      · cases em
    · cases em
end
end SE

namespace SE
open PySem PySem.Spec PyProof.Rows L2 RZ
/-! ### zip of a list with a tuple -/
/-- b true: a list, false: a tuple -/
def SqX (K : PySem.W.Frag) (b : Bool) (H : Hp) (a : Addr) (xs : List V) : Prop := match b with
  | true => SqL K H a xs
  | false => SqT K H a xs
def itX (b : Bool) (h : Heap) (it l : Addr) (i : Nat) : Prop := match b with
  | true => h.IsListIter it l i
  | false => h.IsTupleIter it l i
def isX (b : Bool) (h : Heap) (l : Addr) (its : Array Value) : Prop := match b with
  | true => h.IsList l its
  | false => h.IsTuple l its
theorem itX_at {b : Bool} {h h' : Heap} {it l : Addr} {i : Nat} (x : itX b h it l i) (k : ∀ o, h.get? it = some o → h'.get? it = some o) : itX b h' it l i := by
  cases b
  · exact Heap.IsTupleIter.at x k
  · exact Heap.IsListIter.at x k
theorem itX_obj {b : Bool} {h : Heap} {it l : Addr} {i : Nat} (x : itX b h it l i) : ∃ o, h.get? it = some o ∧ ∀ v, o.data ≠ .cell v := by
  cases b
  · obtain ⟨o, e, _, d⟩ := x
    exact ⟨o, e, fun v q => by rw [d] at q; cases q⟩
  · obtain ⟨o, e, _, d⟩ := x
    exact ⟨o, e, fun v q => by rw [d] at q; cases q⟩
section
variable {prog : Program} {w : World} {A : Around}
theorem drX (b : Bool) (hh : A.handled = none) (it l : Addr) (hne : l ≠ it) (its : Array Value) : Draws prog w A it [it, l] its.size (fun i v => its[i]? = some v) (fun i h => itX b h it l i ∧ isX b h l its) := by
  cases b
  · exact Draws.tuple hh it l hne its
  · exact Draws.list hh it l hne its
end
def bgX (b : Bool) (l : Addr) : Obj := match b with
  | true => { cls := .type "list_iterator", data := .fields #[.ref l, .int 0 0] }
  | false => { cls := .type "tuple_iterator", data := .fields #[.ref l, .int 0 0] }
theorem begX (b : Bool) (l : Addr) (its : Array Value) : Begins (.ref l) (bgX b l) fun h => isX b h l its := by
  cases b
  · exact begins_tuple l its
  · exact begins_list l its
theorem bgX_it {b : Bool} {h : Heap} {it l : Addr} (e : h.get? it = some (bgX b l)) : itX b h it l 0 := by
  cases b
  · exact ⟨_, e, rfl, rfl⟩
  · exact ⟨_, e, rfl, rfl⟩
theorem sepX {z TI TO i1 i2 a b : Addr} (D : ZipApart z TI TO i1 i2 a b) : ZipSep2 z TI TO i1 i2 [i1, a] [i2, b] := by
  refine ⟨D.TIz, D.TOz, D.TITO, D.TIi1, by simp, ?_, ?_, D.TIi2, by simp, ?_, ?_, ?_, ?_⟩ <;> intro q <;> simp only [List.mem_cons, List.not_mem_nil, or_false] at q
  · exact q.elim (fun e => D.i1z e.symm) (fun e => D.l1z e.symm)
  · exact q.elim (fun e => D.TOi1 e) (fun e => D.l1TO e.symm)
  · exact q.elim (fun e => D.i2z e.symm) (fun e => D.l2z e.symm)
  · exact q.elim (fun e => D.TOi2 e) (fun e => D.l2TO e.symm)
  · exact q.elim (fun e => D.i12 e) (fun e => D.l2i1 e.symm)
  · exact q.elim (fun e => D.i12 e.symm) (fun e => D.l1i2 e.symm)
section
variable {X : Cx} {pins : List (Addr × Obj)} {σ : L2.St} {H : Hp} {s : Shared}
/-- what the store says of it -/
theorem invX (I : Inv X pins σ H s) {b : Bool} {a : Addr} {xs : List V} (h : SqX X.K b H a xs) : ∃ its : List Value, Vals xs its ∧ isX b s.heap a its.toArray ∧ a < s.heap.objs.size := by
  cases b
  · obtain ⟨its, r, p, _⟩ := I.tuple h
    obtain ⟨o, e, _⟩ := id p
    exact ⟨its, r, p, Heap.lt_size e⟩
  · obtain ⟨its, r, p, _⟩ := I.list h
    exact ⟨its, r, p.isList, p.lt⟩
theorem injX (I : Inv X pins σ H s) {b : Bool} {a : Addr} {xs ys : List V} (h : SqX X.K b H a xs) (h' : SqX X.K b H a ys) : xs = ys := by
  cases b
  · exact I.tuple_inj h h'
  · exact I.list_inj h h'
end
/-- the rows at a and b as they stand at each turn -/
def Itzm (K : PySem.W.Frag) (p q : Bool) (a b : Addr) : It where
  go i H := ∃ (xs ys : List V) (x y : V), SqX K p H a xs ∧ SqX K q H b ys ∧ xs[i]? = some x ∧ ys[i]? = some y
  yld i H v H' := ∃ T x y, v = .ref T ∧ H T = none ∧ H' = upd H T (.tup [x, y]) ∧ (∀ xs, SqX K p H a xs → xs[i]? = some x) ∧ ∀ ys, SqX K q H b ys → ys[i]? = some y
  stop i H := ∃ xs ys : List V, SqX K p H a xs ∧ SqX K q H b ys ∧ i ≤ xs.length ∧ i ≤ ys.length ∧ (i = xs.length ∨ i = ys.length)
theorem five {α : Type} {c z t u i j : α} (h : c ∈ [z, t, u, i, j]) : c = z ∨ c = t ∨ c = u ∨ c = i ∨ c = j := by simpa using h
theorem turn_m {P : Program} {w : World} {K : PySem.W.Frag} {elts : List Expr} {kk : Nat} {tpos : Pos} {p q : Bool} {a b z TI TO i1 i2 : Addr} (D : ZipApart z TI TO i1 i2 a b) :
    Turn P w K (.Tuple elts kk tpos) (Itzm K p q a b) [z, TI, TO, i1, i2] z (fun i h => IsZip h z TI TO .none ∧ IsTupOf2 h TI (.ref i1) (.ref i2) ∧ (∃ x y, IsTupOf2 h TO x y) ∧ itX p h i1 a i ∧ itX q h i2 b i) := by
  refine ⟨by simp, fun i h st c hc => ?_, fun i h h' st k => ?_, ?_, ?_, fun A i s Q E st h => wpAny_pyIter_zip st.1 h⟩
  · obtain ⟨hz, hI, ⟨x, y, hO⟩, h1, h2⟩ := st
    rcases five hc with e | e | e | e | e <;> rw [e]
    · exact ⟨_, hz, fun v w => nomatch w⟩
    · exact ⟨_, hI, fun v w => nomatch w⟩
    · exact ⟨_, hO, fun v w => nomatch w⟩
    · exact itX_obj h1
    · exact itX_obj h2
  · obtain ⟨hz, hI, ⟨x, y, hO⟩, h1, h2⟩ := st
    exact ⟨k z (by simp) _ hz, k TI (by simp) _ hI, ⟨x, y, k TO (by simp) _ hO⟩, itX_at h1 (k i1 (by simp)), itX_at h2 (k i2 (by simp))⟩
  · intro X hP hw hK hc i pins s σ H E I hf st hg
    subst hP; subst hw; subst hK
    obtain ⟨hz, hI, ⟨x0, y0, hO⟩, h1, h2⟩ := st
    obtain ⟨xs, ys, x, y, qx, qy, ex, ey⟩ := hg
    obtain ⟨us, r1, p1, _⟩ := invX I qx
    obtain ⟨ws, r2, p2, _⟩ := invX I qy
    obtain ⟨u, eu, ru⟩ := r1.get ex
    obtain ⟨v, ev, rv⟩ := r2.get ey
    have hh := I.ok.hd hc
    have zl : z < s.heap.objs.size := Heap.lt_size hz
    have l1 : i < us.toArray.size := by
      have := (List.getElem?_eq_some_iff.mp eu).1
      simpa using this
    have l2 : i < ws.toArray.size := by
      have := (List.getElem?_eq_some_iff.mp ev).1
      simpa using this
    refine wpAny_pyNext_zipD2_item (sepX D) (drX (A := X.A.in1) p hh i1 a D.l1i1 us.toArray) (drX (A := X.A.in1) q hh i2 b D.l2i2 ws.toArray) hz hI hO ⟨h1, p1⟩ ⟨h2, p2⟩ l1 l2 fun m1 m2 h' tk f1 f2 g1 g2 g3 g4 g5 g6 g7 => ?_
    have e1 : m1 = u := by
      have : us[i]? = some m1 := by simpa using f1
      rw [eu] at this
      exact (Option.some.inj this).symm
    have e2 : m2 = v := by
      have : ws[i]? = some m2 := by simpa using f2
      rw [ev] at this
      exact (Option.some.inj this).symm
    subst e1; subst e2
    refine ⟨_, rfl, wpAny_letOwnedTupleGo_zip (s := { s with heap := h', toks := tk }) g1 fun h2' gz sb => ?_⟩
    have gT : h2'.get? s.heap.objs.size = some { cls := .type "tuple", data := .seq #[m1, m2] } := (sb.2 _ (Nat.ne_of_gt zl)).trans g5
    have new : ObjOk X.prog X.w (upd H s.heap.objs.size (.tup [x, y])) h2' s.heap.objs.size (.tup [x, y]) := ⟨by show 2 ≤ sizeLine; decide, [m1, m2], .cons ru (.cons rv .nil), _, gT, rfl, _, rfl⟩
    have I1 : Inv X pins σ (upd H s.heap.objs.size (.tup [x, y])) { s with heap := h2', toks := tk } :=
      I.turnedNew (t' := tk) (ch := [z, TI, TO, i1, i2]) (fun c o hb e => (sb.2 c (fun n => hb (by simp [n]))).trans (g7 c o (fun n => hb (by simp [n])) (fun n => hb (by simp [n])) (fun n => hb (by simp [n])) (fun n => hb (by simp [n])) e)) hf (Nat.le_refl _) new
    refine ⟨.ref s.heap.objs.size, _, I1, rfl, ⟨_, x, y, rfl, I.hok.fresh (Nat.le_refl _), rfl, fun l hl => by rw [injX I hl qx]; exact ex, fun l hl => by rw [injX I hl qy]; exact ey⟩, ⟨gz, ?_, ⟨m1, m2, ?_⟩, ?_, ?_⟩, fun c hcm => ?_⟩
    · exact (sb.2 _ D.TIz).trans (g7 _ _ D.TIz D.TITO D.TIi1 D.TIi2 hI)
    · exact (sb.2 _ D.TOz).trans g2
    · exact itX_at g3.1 fun o e => (sb.2 _ D.i1z).trans e
    · exact itX_at g4.1 fun o e => (sb.2 _ D.i2z).trans e
    · have hlt : c < s.heap.objs.size := by
        rcases five hcm with e | e | e | e | e <;> rw [e]
        · exact zl
        · exact Heap.lt_size hI
        · exact Heap.lt_size hO
        · obtain ⟨_, e, _⟩ := itX_obj h1; exact Heap.lt_size e
        · obtain ⟨_, e, _⟩ := itX_obj h2; exact Heap.lt_size e
      rw [upd_ne (Nat.ne_of_lt hlt)]
      exact (hf c hcm).1
  · intro X hP hw hK hc i pins s σ H E I hf st hg
    subst hP; subst hw; subst hK
    obtain ⟨hz, hI, ⟨x0, y0, hO⟩, h1, h2⟩ := st
    obtain ⟨xs, ys, qx, qy, b1, b2, hend⟩ := hg
    obtain ⟨us, r1, p1, _⟩ := invX I qx
    obtain ⟨ws, r2, p2, _⟩ := invX I qy
    have hh := I.ok.hd hc
    have n1 : us.toArray.size = xs.length := by rw [List.size_toArray]; exact r1.length.symm
    have n2 : ws.toArray.size = ys.length := by rw [List.size_toArray]; exact r2.length.symm
    refine wpAny_pyNext_zipD2_end (i := i) (sepX D) (drX (A := X.A.in1) p hh i1 a D.l1i1 us.toArray) (drX (A := X.A.in1) q hh i2 b D.l2i2 ws.toArray) hz hI hO ⟨h1, p1⟩ ⟨h2, p2⟩ (by omega) (by omega) (by omega) fun h' tk hk => ⟨rfl, ?_⟩
    exact I.turnedL (t' := tk) (ch := [z, TI, TO, i1, i2]) (fun c o hb e => hk c o (fun n => hb (by simp [n])) (fun n => hb (by simp [n])) (fun n => hb (by simp [n])) (fun n => hb (by simp [n])) e) hf
def iZipM (K : PySem.W.Frag) (ta : TA) : TI := fun σ H R => ta σ H fun vs H1 => ∃ p q a b xs ys, vs = [.ref a, .ref b] ∧ SqX K p H1 a xs ∧ SqX K q H1 b ys ∧ R (Itzm K p q a b) H1
theorem pi_zipM {X : Cx} {e e2 : Expr} {ta : TA} {pp pos tpos : Pos} {elts : List Expr} {kk : Nat} (hg : Gl X "zip") (hm : X.mg "zip" = none) (ha : PA X [e, e2] ta)
    (hs : starEach [e, e2] X.env = (false, eval e X.env) :: starEach [e2] X.env := by rfl) (hpl : (backTo pos (starEach [e2] X.env)).any (·.1) = false := by rfl) : PI X (.Tuple elts kk tpos) (.Call (.Name "zip" pp) [e, e2] [] pos) (iZipM X.K ta) := by
  constructor
  intro pins s σ H R I h
  refine Call_ (ld_blt I hg hm PyProof.Rows.boot_zip (PyProof.Rows.callWith_type1 (thn (ha.run pos pins s σ H _ I h) fun us s1 ⟨vs, H1, I1, r1, q1⟩ => ?_) hs hpl))
  obtain ⟨p, q, a, b, xs, ys, rfl, qx, qy, q2⟩ := q1
  cases r1 with
  | cons ra rr =>
    cases rr with
    | cons rb rr =>
      cases rr; cases ra; cases rb
      obtain ⟨us1, v1, p1, la⟩ := invX I1 qx
      obtain ⟨us2, v2, p2, lb⟩ := invX I1 qy
      refine zip_begins2 (begX p a us1.toArray) (begX q b us2.toArray) p1 p2 fun h' hz hI hO g1 g2 hsz hk => wpAny_pyIter_zip hz ?_
      refine ⟨s1.heap.objs.size + 4, [s1.heap.objs.size + 4, s1.heap.objs.size + 2, s1.heap.objs.size + 3, s1.heap.objs.size, s1.heap.objs.size + 1], _, _, H1, rfl, I1.kept (t' := s1.toks) hk, turn_m (p := p) (q := q) (PySem.W.ktu_apart s1.heap.objs.size a b la lb), ⟨hz, hI, ⟨_, _, hO⟩, bgX_it g1, bgX_it g2⟩, fun c hcm => ?_, q2⟩
      have hle : s1.heap.objs.size ≤ c := by
        rcases five hcm with e | e | e | e | e <;> rw [e]
        · exact Nat.le_add_right _ 4
        · exact Nat.le_add_right _ 2
        · exact Nat.le_add_right _ 3
        · exact Nat.le_refl _
        · exact Nat.le_add_right _ 1
      exact I1.fpOk hle (I1.hok.fresh hle)
/-! ### the source -/
theorem zip_size : ∀ ds es : List D, (zipD ds es).length ≤ ds.length ∧ (zipD ds es).length ≤ es.length ∧ ((zipD ds es).length = ds.length ∨ (zipD ds es).length = es.length)
  | [], es => by cases es <;> simp [zipD]
  | _ :: _, [] => by simp [zipD]
  | d :: ds, e :: es => by
    obtain ⟨h1, h2, h3⟩ := zip_size ds es
    have : zipD (d :: ds) (e :: es) = .tuple [d, e] :: zipD ds es := by simp [zipD]
    rw [this]
    simp only [List.length_cons]
    exact ⟨by omega, by omega, by omega⟩
theorem wk_m {K : PySem.W.Frag} {G A : Hp} {p q : Bool} {a b : Addr} {vs us : List V} {ds es : List D} (h : SqX K p G a vs) (hv : RpAll K G vs ds) (h' : SqX K q G b us) (hu : RpAll K G us es) : Wk K (Itzm K p q a b) G A (zipD ds es) := by
  have up : ∀ {r : Bool} {c : Addr} {xs : List V} {G1 H1 : Hp}, Same G G1 → Same G1 H1 → SqX K r G c xs → SqX K r H1 c xs := fun {r c xs G1 H1} s g z => by
    cases r
    · exact sameT g (sameT s z)
    · exact sameL g (sameL s z)
  constructor
  · intro i d G1 H1 s g _ e
    obtain ⟨d1, d2, e0, e0', rfl⟩ := zip_get e
    obtain ⟨v, e1, rp⟩ := hv.getD e0
    obtain ⟨u, e2, rp2⟩ := hu.getD e0'
    have hs := up s g h
    have hs2 := up s g h'
    refine ⟨⟨vs, us, v, u, hs, hs2, e1, e2⟩, fun x H' y => ?_⟩
    obtain ⟨t, x', y', rfl, ht, rfl, y1, y2⟩ := y
    have q1 := y1 vs hs
    have q2 := y2 us hs2
    rw [e1] at q1
    rw [e2] at q2
    cases q1; cases q2
    have gt := g.free ht
    exact ⟨upd G1 t (.tup [v, u]), lay_same gt _, .tup upd_same (.cons ((rp.m s).m (lay_same gt _)) (.cons ((rp2.m s).m (lay_same gt _)) .nil)), .inr ⟨t, _, ht, rfl, rfl⟩⟩
  · intro G1 H1 s g _
    obtain ⟨z1, z2, z3⟩ := zip_size ds es
    have := hv.length
    have := hu.length
    exact ⟨vs, us, up s g h, up s g h', by omega, by omega, by omega⟩
def seqD : D → Option (Bool × List D)
  | .list ds => some (true, ds)
  | .tuple ds => some (false, ds)
  | _ => none
def zipDD : Option (Bool × List D) → Option (Bool × List D) → Option (List D)
  | some p, some q => some (zipD p.2 q.2)
  | _, _ => none
def zipO : List O → Option (List D)
  | [.val x, .val y] => zipDD (seqD x) (seqD y)
  | _ => none
theorem zipO_is {rs : List O} {ds : List D} (h : zipO rs = some ds) : ∃ x y b c xs ys, rs = [.val x, .val y] ∧ seqD x = some (b, xs) ∧ seqD y = some (c, ys) ∧ ds = zipD xs ys := by
  match rs, h with
  | [.val x, .val y], h =>
    have h : zipDD (seqD x) (seqD y) = some ds := h
    cases e1 : seqD x with
    | none => rw [e1] at h; cases h
    | some p =>
      cases e2 : seqD y with
      | none => rw [e1, e2] at h; cases h
      | some q =>
        rw [e1, e2] at h
        obtain ⟨b, xs⟩ := p
        obtain ⟨c, ys⟩ := q
        exact ⟨x, y, b, c, xs, ys, rfl, e1, e2, (Option.some.inj h).symm⟩
def srcZipM (a b : M) : Src := fun env => (pass [.m (frz a), .m (frz b)] env).bind fun p => match zipO p.1 with
  | some ds => .ok (ds, p.2)
  | none => .stuck
theorem seqD_rp {K : PySem.W.Frag} {G : Hp} {v : V} {d : D} {b : Bool} {ds : List D} (e : seqD d = some (b, ds)) (h : Rp K G v d) : ∃ a vs, v = .ref a ∧ SqX K b G a vs ∧ RpAll K G vs ds := by
  cases d with
  | list xs =>
    cases e
    cases h with
    | lst h1 h2 => exact ⟨_, _, rfl, .of h1, h2⟩
  | tuple xs =>
    cases e
    cases h with
    | tup h1 h2 => exact ⟨_, _, rfl, .inl (.inl h1), h2⟩
  | _ => cases e
theorem ri_zipM {X : Cx} {ζ : Option ZI} {a b : Expr} {ma mb : M} {p pos tpos : Pos} {elts : List Expr} {kk : Nat} (hm : X.mg "zip" = none) (ha : PE X a (tM X.K ζ ma)) (hb : PE X b (tM X.K ζ mb)) (hg : Gl X "zip" := by rfl) (hs : starEach [a, b] X.env = (false, eval a X.env) :: starEach [b] X.env := by rfl) (hpl : (backTo pos (starEach [b] X.env)).any (·.1) = false := by rfl)
    (hs4 : starEach [b] X.env = (false, eval b X.env) :: starEach [] X.env := by rfl) : PI X (.Tuple elts kk tpos) (.Call (.Name "zip" p) [a, b] [] pos) (tI X.K ζ (srcZipM ma mb)) :=
  piw (pi_zipM hg hm (pa_cons (r_frz ha) (pa_cons (r_frz hb) pa_nil hs4) hs) hs hpl) fun σ H Rr q => by
    obtain ⟨G, A, L, env, ds, env', R, h, q⟩ := q
    obtain ⟨⟨rs, e1⟩, h1, h⟩ := bind_eq_ok h
    refine pass_all [.m (frz ma), .m (frz mb)] R h1 fun vs H' G' s R' ops => ?_
    simp only at h
    split at h
    · rename_i zs ez
      cases h
      obtain ⟨x, y, b0, c0, xs, ys, rfl, x1, x2, rfl⟩ := zipO_is ez
      cases ops with
      | cons o1 t =>
        cases t with
        | cons o2 t =>
          cases t
          obtain ⟨p1, us, rfl, k1, k2⟩ := seqD_rp x1 (show Rp X.K G' _ x from o1)
          obtain ⟨p2, ws, rfl, k3, k4⟩ := seqD_rp x2 (show Rp X.K G' _ y from o2)
          have up : ∀ {r : Bool} {c : Addr} {zs : List V}, SqX X.K r G' c zs → SqX X.K r H' c zs := fun {r c zs} z => by
            cases r
            · exact sameT R'.gh z
            · exact sameL R'.gh z
          exact ⟨_, _, _, _, _, _, rfl, up k1, up k3, q _ H' G' s R' (wk_m k1 k2 k3 k4)⟩
    · cases h
end SE

namespace SE
open PySem L2 RZ
/-! ### gcd -/
def oGcd : O → O → Res O
  | .val (.int i), .val (.int j) => .ok (.val (.int ((Nat.gcd i.natAbs j.natAbs : Nat) : Int)))
  | _, _ => .stuck
theorem sem_gcd {K : PySem.W.Frag} : Sem2 K oGcd fun v w H Q => rGcd [v, w] H Q := by
  intro ζ G A L H σ env x y rx ry r0 Q R hx hy e q
  match rx, ry, e, hx, hy with
  | .val (.int i), .val (.int j), e, hx, hy =>
    cases e
    cases (show Rp K G x (.int i) from hx)
    cases (show Rp K G y (.int j) from hy)
    exact ⟨i, j, rfl, q.val R (.int _)⟩
section
variable {X : Cx} {ζ : Option ZI} {a b : Expr} {oa ob : Opd} {pos : Pos}
theorem r_f2 {id : String} {x : Str} {p : Pos} {f : O → O → Res O} {r : List V → Hp → VK → Prop} (hc : CallR X (.builtin id) r) (hf : Sem2 X.K f fun v w H Q => r [v, w] H Q) (hg : Gl X x) (hm : X.mg x = some (.builtin id)) (ha : PE X a (tOpd X.K ζ oa)) (hb : PE X b (tOpd X.K ζ ob))
    (hdb : (x == ("__debug__" : Str)) = false := by decide)
    (he : starEach [a, b] X.env = (false, eval a X.env) :: starEach [b] X.env := by rfl) (he2 : starEach [b] X.env = (false, eval b X.env) :: starEach [] X.env := by rfl) (hpl : (backTo pos (starEach [b] X.env)).any (·.1) = false := by rfl) : PE X (.Call (.Name x p) [a, b] [] pos) (tM X.K ζ (m2 f oa ob)) :=
  pew (pe_callBfun hc hg hm (pa_cons ha (pa_cons hb pa_nil he2) he) hdb he hpl) fun _ _ _ h => m2_ok (r := fun v w H Q => r [v, w] H Q) hf h
end
end SE

namespace SE
open PySem PySem.Spec PyProof.Rows L2 RZ
/-! ### xs.count(y), any data -/
def rCountD (K : PySem.W.Frag) : V → List V → Hp → VK → Prop := fun x xs H Q => ∃ (a : Addr) (y : V) (d : PyData) (ds : List PyData), x = V.ref a ∧ xs = [y] ∧ Dp K H (V.ref a) (.list ds) ∧ Dp K H y d ∧
  SeqAt.shaped (.list ds) = true ∧ SeqAt.shaped d = true ∧ Q (.int ((ds.countP fun z => PyData.eqv z d : Nat) : Int)) H
theorem mt_countD {X : Cx} (hu : X.A.units + 65 < cLine) : MtR X "list.count" (rCountD X.K) := by
  intro pins s σ H x xs v us Q I rx rxs h
  obtain ⟨a, y, d, ds, rfl, rfl, hl, hy, sl, sd, q⟩ := h
  cases rx
  obtain ⟨uy, rfl, ry⟩ := rxs.one
  obtain ⟨bs, r1⟩ := Dp.reads I d y uy hy ry
  have lay : PyData.canLayAll0 ds = true := SeqAt.canLay_of_shaped sl
  have room : X.A.units + 1 + min (PyData.depthAll ds) d.depth < cLine := room_in_shaped sd hu
  cases hl with
  | lst hs ha =>
    obtain ⟨its, rv, ⟨⟨c0, d0, t0, l0⟩, n, ho, hc, hdn, hdt⟩, _⟩ := I.list hs
    simp only at hc hdt
    subst hc; subst hdt
    obtain ⟨as, h4⟩ := Dp.readsAll I ds _ its ha rv
    have hmap : its.map (SeqAt.readOf s.heap) = ds := SeqAt.readsAll_map ds its as lay h4
    have ec : its.toArray.toList.countP (fun u => PyData.eqv (SeqAt.readOf s.heap u) d) = ds.countP fun z => PyData.eqv z d := by
      rw [← hmap, List.countP_map]
      rfl
    refine call_meets PySem.F.slot_list_count ⟨_, ho, rfl⟩ PySem.F.entry_list_count (PySem.F.args_list_count_2 _ _) (SeqAt.list_countAt a its.toArray n d0 l0 uy fun u => PyData.eqv (SeqAt.readOf s.heap u) d)
      ⟨ho, SeqAt.items_eqAt (vs := its.toArray) (show ReadsAll s.heap its.toArray.toList ds as from h4) r1 lay (SeqAt.canLay_of_shaped sd) room, ?_⟩
    rw [ec]
    exact ⟨.int _, H, I.tok _, ⟨_, rfl⟩, q⟩
def oCountD (x y : O) : Res O := match x.l, y.d with
  | some xs, some d => if (SeqAt.shaped (.list xs) && SeqAt.shaped d) = true then .ok (.val (.int ((xs.countP fun z => PyData.eqv z d : Nat) : Int))) else .stuck
  | _, _ => .stuck
theorem sem_countD {K : PySem.W.Frag} : Sem2 K oCountD fun x y H Q => rCountD K x [y] H Q := by
  intro ζ G A L H σ env x y rx ry r0 Q R hx hy e q
  unfold oCountD at e
  split at e
  · rename_i xs d e1 e2
    split at e
    · rename_i hs
      cases e
      have hs' := Bool.and_eq_true_iff.mp hs
      obtain ⟨p, vs, rfl, h1, h2⟩ := hx.l R.gh e1
      have hd := (hy.d R.gh e2)
      have hl : Rp K H (.ref p) (.list xs) := .lst h1 (h2.m R.gh)
      exact ⟨p, y, d, xs, rfl, rfl, Rp.dp _ _ (shaped_plain hs'.1) hl, Rp.dp _ _ (shaped_plain hs'.2) hd, hs'.1, hs'.2, q.val R (.int _)⟩
    · cases e
  · cases e
end SE

namespace SE
open PySem L2 RZ
/-! ### a loop over an own list that stays own: it is lent to the loop -/
def backE (i : Nat) (e : Env) : Option Env := match e.getD i .un with
  | .pin false xs => some (e.set i (.own xs))
  | _ => none
def backF (i : Nat) (f : Env → SRes) (e : Env) : SRes := match backE i e with
  | some e' => f e'
  | none => .stuck
def backR (i : Nat) : SRes → SRes
  | .next e => backF i .next e
  | .ret r e => backF i (.ret r) e
  | .brk e => backF i .brk e
  | .cont e => backF i .cont e
  | .exc x e => backF i (.exc x) e
  | .stuck => .stuck
def lendForF (i : Nat) (g : Bnd) (body : S) (env : Env) : O → SRes
  | .own xs => backR i (forL g body xs (env.set i (.pin false xs)))
  | _ => .stuck
def sForO (i : Nat) (g : Bnd) (body : S) : S := fun env => lendForF i g body env (env.getD i .un)
def lentL (i : Nat) (p : Addr) (L : Nat → Option Addr) : Nat → Option Addr := fun j => if j = i then some p else L j
theorem wk_listA {K : PySem.W.Frag} {G A : Hp} {a : Addr} {vs : List V} {ds : List D} (h : A a = some (.lst vs)) (hv : RpAll K G vs ds) : Wk K (Itl K a) G A ds where
  go := fun i d G1 H1 s g b e => by
    obtain ⟨v, e1, rp⟩ := hv.getD e
    have hs : SqL K H1 a vs := .of (b _ _ h)
    refine ⟨⟨vs, v, hs, e1⟩, fun x H' y => ?_⟩
    obtain ⟨rfl, y⟩ := y
    have := y vs hs
    rw [e1] at this
    cases this
    exact ⟨G1, same_refl _, rp.m s, .inl ⟨rfl, rfl⟩⟩
  stop := fun G1 H1 s g b => ⟨vs, .of (b _ _ h), by rw [hv.length]; exact Nat.le_refl _⟩
section
variable {K : PySem.W.Frag} {ζ : Option ZI} {G A : Hp} {L : Nat → Option Addr} {H : Hp} {σ : St} {env : Env}
theorem get_of_getD {i : Nat} {o : O} (h : env.getD i .un = o) (hn : o ≠ .un) : env[i]? = some o := by
  rw [List.getD_eq_getElem?_getD] at h
  cases hq : env[i]? with
  | none => rw [hq] at h; exact absurd h.symm hn
  | some x => rw [hq] at h; rw [← h]; rfl
theorem lend_in (R : REnv K ζ G A L H σ env) {i : Nat} {xs : List D} (he : env[i]? = some (.own xs)) : ∃ p vs, σ[i]? = some (some (V.ref p)) ∧ H p = some (.lst vs) ∧ G p = none ∧ A p = none ∧ RpAll K G vs xs ∧ (∀ j, L j ≠ some p) ∧ L i = none ∧
    REnv K ζ G (upd A p (.lst vs)) (lentL i p L) H σ (env.set i (.pin false xs)) := by
  have hil : i < env.length := (List.getElem?_eq_some_iff.mp he).1
  obtain ⟨w, hw⟩ : ∃ w, σ[i]? = some w := ⟨σ[i]'(by rw [← R.len]; exact hil), List.getElem?_eq_getElem _⟩
  obtain ⟨p, vs, rfl, h2, h3, h4, h5⟩ := R.sl i _ w he hw
  have hL : ∀ j, L j ≠ some p := fun j hj => by
    obtain ⟨w, ys, hy⟩ := R.lp j p hj
    have hjl : j < env.length := (List.getElem?_eq_some_iff.mp hy).1
    obtain ⟨u, hu⟩ : ∃ w, σ[j]? = some w := ⟨σ[j]'(by rw [← R.len]; exact hjl), List.getElem?_eq_getElem _⟩
    have q := R.sl j _ u hy hu
    cases w with
    | true =>
      obtain ⟨p', us, f0, rfl, _⟩ := q
      rw [hj] at f0
      cases f0
      have := R.inj i j _ _ p he hy rfl rfl hw hu
      subst this
      rw [he] at hy; cases hy
    | false =>
      obtain ⟨p', us, f0, _, f2, _⟩ := q
      rw [hj] at f0
      cases f0
      rw [h4] at f2; cases f2
  have hLi : L i = none := by
    cases hq : L i with
    | none => rfl
    | some q =>
      obtain ⟨w, ys, hy⟩ := R.lp i q hq
      rw [he] at hy; cases hy
  refine ⟨p, vs, hw, h2, h3, h4, h5, hL, hLi, ⟨by rw [List.length_set]; exact R.len, R.gh, fun a o z => ?_, fun a o z => ?_, fun j o w e1 e2 => ?_, fun a b x y q e1 e2 m1 m2 f1 f2 => ?_, fun j q e => ?_, tuA R.tu (fun us z => by cases z)⟩⟩
  · by_cases ha : a = p
    · subst ha; rw [upd_same] at z; cases z; exact h2
    · rw [upd_ne ha] at z; exact R.ah _ _ z
  · by_cases ha : a = p
    · subst ha; exact h3
    · rw [upd_ne ha] at z; exact R.ag _ _ z
  · by_cases hj : j = i
    · subst hj
      rw [List.getElem?_set_self hil] at e1
      cases e1
      rw [hw] at e2
      cases e2
      exact ⟨p, vs, by simp [lentL], rfl, upd_same .., h5⟩
    · rw [List.getElem?_set_ne (Ne.symm hj)] at e1
      have q := R.sl j o w e1 e2
      have ne : ∀ r : Addr, w = some (V.ref r) → o.mine = true → r ≠ p := fun r er m z => by
        subst z; subst er
        exact hj (R.inj j i _ _ _ e1 he m rfl e2 hw)
      match o, q, ne with
      | .un, _, _ => trivial
      | .tpl _, _, _ => trivial
      | .val d, q, _ => exact q
      | .own ys, q, ne =>
        obtain ⟨r, us, f1, f2, f3, f4, f5⟩ := q
        exact ⟨r, us, f1, f2, f3, by rw [upd_ne (ne _ f1 rfl)]; exact f4, f5⟩
      | .dct tk ys, q, ne =>
        obtain ⟨r, us, f1, f2, f3, f4, f5⟩ := q
        exact ⟨r, us, f1, f2, f3, by rw [upd_ne (ne _ f1 rfl)]; exact f4, f5⟩
      | .pin true ys, q, ne =>
        obtain ⟨r, us, f0, f1, f2, f3, f4, f5⟩ := q
        exact ⟨r, us, by simp only [lentL, if_neg hj]; exact f0, f1, f2, f3, by rw [upd_ne (ne _ f1 rfl)]; exact f4, f5⟩
      | .pin false ys, q, _ =>
        obtain ⟨r, us, f0, f1, f2, f3⟩ := q
        exact ⟨r, us, by simp only [lentL, if_neg hj]; exact f0, f1, by rw [upd_ne (fun z => by subst z; rw [h4] at f2; cases f2)]; exact f2, f3⟩
      | .scr ns, q, _ => exact q
      | .exn x, q, _ =>
        obtain ⟨zi, C, dd, fs, z1, z2, z3, z4, z5, z6, z7⟩ := q
        exact ⟨zi, C, dd, fs, z1, z2, z3, z4, z5, by rw [upd_ne (fun z => by subst z; rw [h4] at z6; cases z6)]; exact z6, z7⟩
  · have na : ∀ {a : Nat} {x : O}, (env.set i (.pin false xs))[a]? = some x → x.mine = true → env[a]? = some x := fun {a x} e m => by
      by_cases ha : a = i
      · subst ha
        rw [List.getElem?_set_self hil] at e
        cases e; cases m
      · rwa [List.getElem?_set_ne (Ne.symm ha)] at e
    exact R.inj a b x y q (na e1 m1) (na e2 m2) m1 m2 f1 f2
  · by_cases hj : j = i
    · subst hj
      exact ⟨false, xs, List.getElem?_set_self hil⟩
    · simp only [lentL, if_neg hj] at e
      obtain ⟨w, ys, hy⟩ := R.lp j q e
      exact ⟨w, ys, by rw [List.getElem?_set_ne (Ne.symm hj)]; exact hy⟩
theorem lend_out {p : Addr} {vs : List V} {i : Nat} (hA : A p = none) (hL : ∀ j, L j ≠ some p) (hLi : L i = none) (R : REnv K ζ G (upd A p (.lst vs)) (lentL i p L) H σ env) {e' : Env} (hb : backE i env = some e') :
    REnv K ζ G A L H σ e' ∧ (∀ {r : O} {v : V}, RVal K G (upd A p (.lst vs)) (lentL i p L) H σ env r v → RVal K G A L H σ e' r v) := by
  unfold backE at hb
  split at hb
  · rename_i xs hx
    cases hb
    have he := get_of_getD hx (by intro z; cases z)
    have hil : i < env.length := (List.getElem?_eq_some_iff.mp he).1
    obtain ⟨w, hw⟩ : ∃ w, σ[i]? = some w := ⟨σ[i]'(by rw [← R.len]; exact hil), List.getElem?_eq_getElem _⟩
    obtain ⟨p', us, f0, rfl, f2, f3⟩ := R.sl i _ w he hw
    have ep : p' = p := by
      simp only [lentL, if_pos] at f0
      exact (Option.some.inj f0).symm
    subst ep
    have hH : H p' = some (.lst us) := R.ah _ _ f2
    have hG : G p' = none := R.ag _ _ f2
    have A1 : ∀ {r : Addr}, (upd A p' (.lst vs)) r = none → r ≠ p' ∧ A r = none := fun {r} z => by
      by_cases h : r = p'
      · subst h; rw [upd_same] at z; cases z
      · rw [upd_ne h] at z; exact ⟨h, z⟩
    have hAA : ∀ {r : Addr} {o : HO}, A r = some o → (upd A p' (.lst vs)) r = some o := fun {r o} z => by
      rw [upd_ne (fun h => by subst h; rw [hA] at z; cases z)]; exact z
    refine ⟨⟨by rw [List.length_set]; exact R.len, R.gh, fun a o z => R.ah _ _ (hAA z), fun a o z => R.ag _ _ (hAA z), fun j o w e1 e2 => ?_, fun a b x y q e1 e2 m1 m2 g1 g2 => ?_, fun j q e => ?_, fun a us z => R.tu a us (hAA z)⟩, fun {r v} hr => ?_⟩
    · by_cases hj : j = i
      · subst hj
        rw [List.getElem?_set_self hil] at e1
        cases e1
        rw [hw] at e2
        cases e2
        exact ⟨p', us, rfl, hH, hG, hA, f3⟩
      · rw [List.getElem?_set_ne (Ne.symm hj)] at e1
        have q := R.sl j o w e1 e2
        match o, q with
        | .un, _ => trivial
        | .tpl _, _ => trivial
        | .val d, q => exact q
        | .own ys, q =>
          obtain ⟨r, us, f1, f2, f3, f4, f5⟩ := q
          exact ⟨r, us, f1, f2, f3, (A1 f4).2, f5⟩
        | .dct tk ys, q =>
          obtain ⟨r, us, f1, f2, f3, f4, f5⟩ := q
          exact ⟨r, us, f1, f2, f3, (A1 f4).2, f5⟩
        | .pin true ys, q =>
          obtain ⟨r, us, f0, f1, f2, f3, f4, f5⟩ := q
          simp only [lentL, if_neg hj] at f0
          exact ⟨r, us, f0, f1, f2, f3, (A1 f4).2, f5⟩
        | .pin false ys, q =>
          obtain ⟨r, us, f0, f1, f2, f3⟩ := q
          simp only [lentL, if_neg hj] at f0
          rw [upd_ne (fun z => hL j (by rw [f0, z]))] at f2
          exact ⟨r, us, f0, f1, f2, f3⟩
        | .scr ns, q => exact q
        | .exn x, q =>
          obtain ⟨zi, C, dd, fs, z1, z2, z3, z4, z5, z6, z7⟩ := q
          rw [upd_ne (fun z => by subst z; rw [upd_same] at z6; cases z6)] at z6
          exact ⟨zi, C, dd, fs, z1, z2, z3, z4, z5, z6, z7⟩
    · have off : ∀ {a : Nat} {x : O} {q : Addr}, (env.set i (.own xs))[a]? = some x → x.mine = true → σ[a]? = some (some (V.ref q)) → a ≠ i → env[a]? = some x ∧ q ≠ p' := fun {a x q} e m s ha => by
        rw [List.getElem?_set_ne (Ne.symm ha)] at e
        obtain ⟨_, _, _, z⟩ := slot_alive R e m s
        exact ⟨e, (A1 z).1⟩
      by_cases ha : a = i
      · subst ha
        by_cases hb : b = a
        · exact hb.symm
        · obtain ⟨_, z⟩ := off e2 m2 g2 hb
          rw [hw] at g1
          cases g1
          exact absurd rfl z
      · obtain ⟨ea, za⟩ := off e1 m1 g1 ha
        by_cases hb : b = i
        · subst hb
          rw [hw] at g2
          cases g2
          exact absurd rfl za
        · obtain ⟨eb, _⟩ := off e2 m2 g2 hb
          exact R.inj a b x y q ea eb m1 m2 g1 g2
    · have hj : j ≠ i := fun z => by subst z; rw [hLi] at e; cases e
      obtain ⟨w, ys, hy⟩ := R.lp j q (by simp only [lentL, if_neg hj]; exact e)
      exact ⟨w, ys, by rw [List.getElem?_set_ne (Ne.symm hj)]; exact hy⟩
    · have sl : ∀ {r : Addr}, r ≠ p' → (∀ (k : Nat) (x : O), env[k]? = some x → x.mine = true → σ[k]? ≠ some (some (V.ref r))) → ∀ (k : Nat) (x : O), (env.set i (.own xs))[k]? = some x → x.mine = true → σ[k]? ≠ some (some (V.ref r)) := fun {r} hr h k x e m => by
        by_cases hk : k = i
        · subst hk
          rw [hw]
          intro z
          cases z
          exact hr rfl
        · rw [List.getElem?_set_ne (Ne.symm hk)] at e
          exact h k x e m
      have ll : ∀ {r : Addr}, (∀ k, lentL i p' L k ≠ some r) → ∀ k, L k ≠ some r := fun {r} h k z => by
        have hk : k ≠ i := fun y => by subst y; rw [hLi] at z; cases z
        exact h k (by simp only [lentL, if_neg hk]; exact z)
      match r, hr with
      | .val d, hr => exact hr
      | .own ys, hr =>
        obtain ⟨q, us, f1, f2, f3, f4, f5, f6, f7⟩ := hr
        exact ⟨q, us, f1, f2, f3, (A1 f4).2, f5, sl (A1 f4).1 f6, ll f7⟩
      | .dct tk ys, hr =>
        obtain ⟨q, us, f1, f2, f3, f4, f5, f6, f7⟩ := hr
        exact ⟨q, us, f1, f2, f3, (A1 f4).2, f5, sl (A1 f4).1 f6, ll f7⟩
      | .tpl ds, hr =>
        obtain ⟨a, us, f1, f2, hp⟩ := hr
        exact ⟨a, us, f1, f2, hp.mapL fun q _ _ hl => ⟨hl.1, (A1 hl.2.1).2, sl (A1 hl.2.1).1 hl.2.2.1, ll hl.2.2.2⟩⟩
  · cases hb
theorem exn_out {mg : Str → Option Value} {p : Addr} {vs : List V} {cls : Value} {d : Option Addr} {x : Exn} (h : RExn K mg G (upd A p (.lst vs)) H cls d x) : RExn K mg G A H cls d x := by
  obtain ⟨C, dd, fs, h1, h2, h3, h4, h5, h6, h7⟩ := h
  refine ⟨C, dd, fs, h1, h2, h3, h4, ?_, h6, h7⟩
  by_cases e : dd = p
  · subst e; rw [upd_same] at h5; cases h5
  · rwa [upd_ne e] at h5
theorem want_out {mg : Str → Option Value} {W : WX} {D : Ends} {p : Addr} {vs : List V} {i : Nat} (hA : A p = none) (hL : ∀ j, L j ≠ some p) (hLi : L i = none) {r : SRes} (h : SWant K ζ mg W G A L D (backR i r)) : SWant K ζ mg W G (upd A p (.lst vs)) (lentL i p L) D r := by
  have key : ∀ (f : Env → SRes) (e : Env), SWant K ζ mg W G A L D (backF i f e) → ∃ e', backE i e = some e' ∧ SWant K ζ mg W G A L D (f e') := fun f e h => by
    unfold backF at h
    split at h
    · rename_i e' he; exact ⟨e', he, h⟩
    · exact h.elim
  cases r with
  | next e =>
    obtain ⟨e', h1, h2⟩ := key _ e h
    exact fun σ' H' G' s R => h2 σ' H' G' s (lend_out hA hL hLi R h1).1
  | ret r e =>
    obtain ⟨e', h1, h2⟩ := key _ e h
    exact fun v σ' H' G' s R rv => h2 v σ' H' G' s (lend_out hA hL hLi R h1).1 ((lend_out hA hL hLi R h1).2 rv)
  | brk e =>
    obtain ⟨e', h1, h2⟩ := key _ e h
    exact fun σ' H' G' s R => h2 σ' H' G' s (lend_out hA hL hLi R h1).1
  | cont e =>
    obtain ⟨e', h1, h2⟩ := key _ e h
    exact fun σ' H' G' s R => h2 σ' H' G' s (lend_out hA hL hLi R h1).1
  | exc x e =>
    obtain ⟨e', h1, h2⟩ := key _ e h
    exact fun cls d σ' H' G' s R rx => h2 cls d σ' H' G' s (lend_out hA hL hLi R h1).1 (exn_out rx)
  | stuck => exact h.elim
end
section
variable {X : Cx} {ζ : Option ZI} {W : WX} {tg iter : Expr} {body : List Stmt} {g : Bnd} {s : S} {sl : List Nat} {pos : Pos} {n : Nat}
theorem rs_forO (hp : PassesOwn (model X.prog X.w) X.A X.env X.xe) (hc : X.calm = true) (hv : PE X iter (tVar n)) (hg : PG X tg (tG X.K ζ sl g)) (hb : PSs X body (tS X.K ζ X.mg W s)) (hs : ∀ x, foldedSetIterable iter X.env x = pure x := by intro _; rfl) :
    PS X (.For tg iter body [] pos) (tS X.K ζ X.mg W (sForO n g s)) := psw (ps_for hp hc (pi_list hv) hg hb hs) fun D σ H q => by
  obtain ⟨G, A, L, env, R, q⟩ := q
  unfold sForO lendForF at q
  split at q
  · rename_i ds hds
    have he := get_of_getD hds (by intro z; cases z)
    obtain ⟨p, vs, hw, h2, h3, h4, h5, hL, hLi, R1⟩ := lend_in R he
    have q1 := want_out (G := G) (vs := vs) h4 hL hLi q
    refine ⟨_, hw, p, rfl, ⟨vs, .of h2⟩, ?_⟩
    have WK : Wk X.K (Itl X.K p) G (upd A p (.lst vs)) ds := wk_listA (upd_same ..) h5
    refine ⟨fun i m σ H => m = ds.length - i ∧ i ≤ ds.length ∧ ∃ G2 env, Same G G2 ∧ REnv X.K ζ G2 (upd A p (.lst vs)) (lentL n p L) H σ env ∧ SWant X.K ζ X.mg W G2 (upd A p (.lst vs)) (lentL n p L) D (forL g s (ds.drop i) env), ⟨_, rfl, Nat.zero_le _, G, _, same_refl _, R1, q1⟩, ?_⟩
    rintro i m σ H ⟨rfl, hi, G2, env, s2, R2, q⟩
    by_cases hlt : i < ds.length
    · have e : ds[i]? = some ds[i] := by simp [hlt]
      obtain ⟨go, yl⟩ := WK.go i _ G2 H s2 R2.gh R2.ah e
      refine .inr ⟨go, fun σ' H' => i + 1 ≤ ds.length ∧ ∃ G3 env, Same G G3 ∧ REnv X.K ζ G3 (upd A p (.lst vs)) (lentL n p L) H' σ' env ∧ SWant X.K ζ X.mg W G3 (upd A p (.lst vs)) (lentL n p L) D (forL g s (ds.drop (i + 1)) env), fun σ' H' n => ⟨ds.length - (i + 1), by omega, rfl, n⟩, fun x H' y => ?_⟩
      obtain ⟨G3, s3, rp, hh⟩ := yl x H' y
      have R3 : REnv X.K ζ G3 (upd A p (.lst vs)) (lentL n p L) H' σ env := by
        rcases hh with ⟨rfl, rfl⟩ | ⟨p, o, hp, rfl, rfl⟩
        · exact R2
        · exact R2.lay hp o
      have ed : ds.drop i = ds[i] :: ds.drop (i + 1) := List.drop_eq_getElem_cons hlt
      rw [ed] at q
      unfold forL at q
      cases eg : g ds[i] env with
      | none => rw [eg] at q; exact q.elim
      | some ev =>
        rw [eg] at q
        simp only at q
        refine ⟨G3, _, _, env, ds[i], ev, R3, rp, eg, fun σ4 _ R4 => ⟨G3, _, _, ev, R4, ?_⟩⟩
        cases eb : s ev with
        | next e2 => rw [eb] at q; exact fun σ' H' G' s' R' => ⟨hlt, G', e2, s2.trans (s3.trans s'), R', q.of (s3.trans s')⟩
        | cont e2 => rw [eb] at q; exact fun σ' H' G' s' R' => ⟨hlt, G', e2, s2.trans (s3.trans s'), R', q.of (s3.trans s')⟩
        | brk e2 => rw [eb] at q; exact SWant.of (r := .next e2) s3 q
        | ret r e2 => rw [eb] at q; exact SWant.of (r := .ret r e2) s3 q
        | exc x e => rw [eb] at q; exact SWant.of (r := .exc x e) s3 q
        | stuck => rw [eb] at q; exact q.elim
    · have e : i = ds.length := by omega
      subst e
      rw [List.drop_length] at q
      exact .inl ⟨WK.stop G2 H s2 R2.gh R2.ah, q σ H G2 (same_refl _) R2⟩
  · exact q.elim
end
end SE

namespace SE
open PySem L2 RZ
/-! ### range(a, b, 2) -/
theorem rgC_two {i j : Int} (ha : -(2 ^ 62) ≤ i) (ha' : i < 2 ^ 61) (hb : -(2 ^ 62) ≤ j) (hb' : j < 2 ^ 61) : RgC i j 2 ((j - i + 1) / 2).toNat := by
  have hs : Builtin.Range.rangeSize i j 2 = (((j - i + 1) / 2).toNat : Int) := by
    unfold Builtin.Range.rangeSize
    rw [if_pos (by decide)]
    split <;> omega
  refine ⟨by decide, by decide, ?_, hs⟩
  unfold Builtin.Range.small
  rw [hs]
  simp only [Builtin.Range.rangeFitsLong, Bool.and_eq_true, Bool.or_eq_true, decide_eq_true_eq, beq_iff_eq]
  first
  | omega
  | (split <;> omega)
  | simp <;> omega
def srcRs (ma mb : M) : Src := fun env => (pass [.m ma, .m mb] env).bind fun p => match p.1 with
  | [.val (.int i), .val (.int j)] => if small i = true ∧ small j = true then .ok (rngC i 2 ((j - i + 1) / 2).toNat, p.2) else .stuck
  | _ => .stuck
section
variable {X : Cx} {ζ : Option ZI} {tg a b : Expr} {ma mb : M} {p pos p1 p2 : Pos} {k1 : Nat}
theorem r_2 : PE X (.Constant (.int 2) k1 p1) (tM X.K ζ (mC (.int 2))) := r_c (v := .int 2) pe_int fun _ => .int _
theorem ri_rs (hm : X.mg "range" = none) (ha : PE X a (tM X.K ζ ma)) (hb : PE X b (tM X.K ζ mb)) (hg : Gl X "range" := by rfl)
    (hs : starEach [a, b, .Constant (.int 2) k1 p1] X.env = (false, eval a X.env) :: starEach [b, .Constant (.int 2) k1 p1] X.env := by rfl)
    (hs2 : starEach [b, .Constant (.int 2) k1 p1] X.env = (false, eval b X.env) :: starEach [.Constant (.int 2) k1 p1] X.env := by rfl)
    (hs3 : starEach [.Constant (.int 2) k1 p1] X.env = (false, eval (.Constant (.int 2) k1 p1) X.env) :: starEach [] X.env := by rfl)
    (hpl : (backTo pos (starEach [b, .Constant (.int 2) k1 p1] X.env)).any (·.1) = false := by rfl) :
    PI X tg (.Call (.Name "range" p) [a, b, .Constant (.int 2) k1 p1] [] pos) (tI X.K ζ (srcRs ma mb)) :=
  piw (pi_range3 hg hm (pa_cons ha (pa_cons hb (pa_cons r_2 pa_nil hs3) hs2) hs) hs hpl) fun σ H Rr q => by
    obtain ⟨G, A, L, env, ds, env', R, h, q⟩ := q
    obtain ⟨⟨rs, e1⟩, h1, h⟩ := bind_eq_ok h
    have fin : tAll X.K ζ [.m ma, .m mb] σ H (fun vs H' => ∀ x y, vs = [x, y] → tM X.K ζ (mC (.int 2)) σ H' fun z H3 => ∃ (i j c : Int) (n : Nat), [x, y, z] = [V.int i, V.int j, V.int c] ∧ RgC i j c n ∧ Rr (Itc i c n) H3) := pass_all [.m ma, .m mb] R h1 fun vs H' G' s R' ops => by
      simp only at h
      split at h
      · rename_i _ i j
        split at h
        · rename_i z
          cases h
          cases ops with
          | cons o1 t =>
            cases t with
            | cons o2 t =>
              cases t
              rintro x y ⟨⟩
              cases (show Rp X.K G' _ (.int i) from o1)
              cases (show Rp X.K G' _ (.int j) from o2)
              refine ⟨G', A, L, _, _, _, R', rfl, fun v H2 G2 s2 R2 hv => ?_⟩
              cases (show Rp X.K G2 v (.int 2) from hv)
              have z1 := small_b z.1
              have z2 := small_b z.2
              exact ⟨i, j, 2, _, rfl, rgC_two (by omega) (by omega) (by omega) (by omega), q _ H2 G2 (s.trans s2) R2 (wk_rngC i 2 _)⟩
        · cases h
      · cases h
    exact tOpd_mono (o := .m ma) (fun v H q => tOpd_mono (o := .m mb) (fun w H q => q v w rfl) q) fin
end
end SE

namespace SE
open PySem L2 RZ
/-! ### texts: x in "..", e.m(..) of a text e -/
def hasS (i j : Str) : Bool := !(Builtin.Str.occurrences j i 0 j.length 1).isEmpty
def oInS : O → O → Res O
  | .val (.str i), .val (.str j) => .ok (.val (.bool (hasS i j)))
  | _, _ => .stuck
def oNotInS : O → O → Res O
  | .val (.str i), .val (.str j) => .ok (.val (.bool (!hasS i j)))
  | _, _ => .stuck
theorem sem_inS {K : PySem.W.Frag} : Sem2 K oInS (fun x y H Q => ∃ i j, x = .str i ∧ y = .str j ∧ Q (.bl (!(Builtin.Str.occurrences j i 0 j.length 1).isEmpty)) H) := by
  intro ζ G A L H σ env x y rx ry r0 Q R hx hy e q
  match rx, ry, e, hx, hy with
  | .val (.str i), .val (.str j), e, hx, hy =>
    cases e
    cases (show Rp K G x (.str i) from hx)
    cases (show Rp K G y (.str j) from hy)
    exact ⟨i, j, rfl, rfl, q.val R (.bl _)⟩
theorem sem_notInS {K : PySem.W.Frag} : Sem2 K oNotInS (fun x y H Q => ∃ i j, x = .str i ∧ y = .str j ∧ Q (.bl (!(!(Builtin.Str.occurrences j i 0 j.length 1).isEmpty))) H) := by
  intro ζ G A L H σ env x y rx ry r0 Q R hx hy e q
  match rx, ry, e, hx, hy with
  | .val (.str i), .val (.str j), e, hx, hy =>
    cases e
    cases (show Rp K G x (.str i) from hx)
    cases (show Rp K G y (.str j) from hy)
    exact ⟨i, j, rfl, rfl, q.val R (.bl _)⟩
/-- the operands are ready -/
inductive Rdys (K : PySem.W.Frag) (G H : Hp) : List O → List V → Prop
  | nil : Rdys K G H [] []
  | cons {r : O} {rs : List O} {v : V} {vs : List V} : Rdy K G H r v → Rdys K G H rs vs → Rdys K G H (r :: rs) (v :: vs)
theorem ROps.rdys {K : PySem.W.Frag} {ζ : Option ZI} {G A : Hp} {L : Nat → Option Addr} {H : Hp} {σ : St} {env : Env} (R : REnv K ζ G A L H σ env) {os : List Opd} {rs : List O} {vs : List V} (h : ROps K G A L H σ env os rs vs) (l : rs.all O.live = true) : Rdys K G H rs vs := by
  induction h with
  | nil => exact .nil
  | cons h _ ih =>
    rw [List.all_cons, Bool.and_eq_true] at l
    exact .cons (h.rdy R l.1) (ih l.2)
def SemS (K : PySem.W.Frag) (f : Str → List O → Res O) (r : V → List V → Hp → VK → Prop) : Prop := ∀ {ζ : Option ZI} {G A : Hp} {L : Nat → Option Addr} {H : Hp} {σ : St} {env : Env} {xs : List V} {rs : List O} {r0 : O} {Q : VK} (a : Str), REnv K ζ G A L H σ env → Rdys K G H rs xs →
  f a rs = .ok r0 → Post K ζ G A L σ env r0 Q → r (.str a) xs H Q
def smG (f : Str → List O → Res O) (a : Str) (q : List O × Env) : Res (O × Env) := if q.1.all O.live = true then (f a q.1).bind fun r => .ok (r, q.2) else .stuck
def smF (os : List Opd) (f : Str → List O → Res O) (p : O × Env) : Res (O × Env) := match p.1 with
  | .val (.str a) => (pass os p.2).bind (smG f a)
  | _ => .stuck
def mSM (m : M) (os : List Opd) (f : Str → List O → Res O) : M := fun env => (m env).bind (smF os f)
@[simp] theorem e_mSM {m : M} {os : List Opd} {f : Str → List O → Res O} {env : Env} : mSM m os f env = (m env).bind (smF os f) := rfl
@[simp] theorem e_smF {os : List Opd} {f : Str → List O → Res O} {a : Str} {env : Env} : smF os f (.val (.str a), env) = (pass os env).bind (smG f a) := rfl
@[simp] theorem e_smG {f : Str → List O → Res O} {a : Str} {rs : List O} {env : Env} : smG f a (rs, env) = if rs.all O.live = true then (f a rs).bind fun r => .ok (r, env) else .stuck := rfl
theorem sm_ok {K : PySem.W.Frag} {ζ : Option ZI} {m : M} {os : List Opd} {f : Str → List O → Res O} {r : V → List V → Hp → VK → Prop} (hf : SemS K f r) {σ : St} {H : Hp} {Q : VK} (h : tM K ζ (mSM m os f) σ H Q) : tBM K "str" r (tM K ζ m) (tAll K ζ os) σ H Q := by
  obtain ⟨G, A, L, env, r0, env', R, e, q⟩ := h
  unfold mSM at e
  obtain ⟨⟨x, e1⟩, h1, e⟩ := bind_eq_ok e
  match x, h1, e with
  | .val (.str a), h1, e =>
    refine ⟨G, A, L, env, .val (.str a), e1, R, h1, fun v H1 G1 s1 R1 hv => ?_⟩
    obtain ⟨⟨rs, e2⟩, h2, h⟩ := bind_eq_ok (show (pass os e1).bind (smG f a) = _ from e)
    cases (show Rp K G1 v (.str a) from hv)
    refine ⟨rfl, ?_⟩
    refine pass_all os R1 h2 fun ws H2 G2 s2 R2 ops => ?_
    unfold smG at h
    simp only at h
    split at h
    · rename_i l2
      obtain ⟨r', h3, h⟩ := bind_eq_ok h
      cases h
      exact hf a R2 (ops.rdys R2 l2) h3 (Post.of (s1.trans s2) q)
    · cases h
  | .un, _, e => cases e
  | .tpl _, _, e => cases e
  | .own _, _, e => cases e
  | .pin _ _, _, e => cases e
  | .dct _ _, _, e => cases e
  | .scr _, _, e => cases e
section
variable {X : Cx} {ζ : Option ZI} {o e : Expr} {es : List Expr} {m : M} {ob : Opd} {obs : List Opd} {name : Str} {id : String} {apos cpos : Pos} {f : Str → List O → Res O} {r : V → List V → Hp → VK → Prop}
theorem r_sm (slot : Slot "str" name id) (hty : typeOf (.builtin id) = pure (.type "method_descriptor")) (hm : MtR X id r) (hf : SemS X.K f r) (ho : PE X o (tM X.K ζ m)) (ha : PA X (e :: es) (tAll X.K ζ obs))
    (hbase : attributeBase o name X.env (eval o X.env) = eval o X.env := by rfl)
    (hfew : ((backTo cpos (starEach (e :: es) X.env)).all (fun x => !x.1) && (backToKw cpos (keywordEach [] X.env)).all (fun x => x.1.isSome)
      && decide ((e :: es).length + ([] : List Keyword).length + (if ([] : List Keyword).isEmpty then 0 else 1) < 30)) = true := by rfl)
    (hline : (apos.endLine == cpos.line) = true := by rfl)
    (hs : starEach (e :: es) X.env = (false, eval e X.env) :: starEach es X.env := by rfl) (hplain : (backTo cpos (starEach es X.env)).any (·.1) = false := by rfl) : PE X (.Call (.Attribute o name apos) (e :: es) [] cpos) (tM X.K ζ (mSM m obs f)) :=
  pew (pe_bm PySem.F.plainAttrs_str slot hty hm ho ha hbase hfew hline hs hplain) fun σ H Q q => sm_ok hf q
end
/-! ### join -/
def strsOf : List D → Option (List Str)
  | [] => some []
  | .str y :: r => (strsOf r).map (y :: ·)
  | _ :: _ => none
theorem strsOf_map : ∀ (ys : List Str), strsOf (ys.map PyData.str) = some ys
  | [] => rfl
  | y :: ys => by rw [List.map_cons, strsOf, strsOf_map ys]; rfl
theorem strsOf_eq : ∀ {ds : List D} {ys : List Str}, strsOf ds = some ys → ds = ys.map PyData.str
  | [], ys, h => by cases h; rfl
  | d :: r, ys, h => by
    match d, h with
    | .str y, h =>
      rw [strsOf] at h
      obtain ⟨zs, h1, h2⟩ := Option.map_eq_some_iff.mp h
      rw [← h2, List.map_cons, ← strsOf_eq h1]
theorem rpAll_strs {K : PySem.W.Frag} {G : Hp} : ∀ {ys : List Str} {vs : List V}, RpAll K G vs (ys.map PyData.str) → vs = ys.map V.str
  | [], vs, h => by cases h; rfl
  | y :: ys, vs, h => by
    cases h with
    | cons h1 h2 =>
      cases h1
      rw [rpAll_strs h2]; rfl
def joinO (a : Str) : Option (List Str) → Res O
  | some ys => if (ys.map (·.length)).sum + ys.length * a.length ≤ 16777216 then .ok (.val (.str (Txt.join a ys))) else .stuck
  | none => .stuck
def oJoin (a : Str) : List O → Res O
  | [x] => joinO a (x.l.bind strsOf)
  | _ => .stuck
@[simp] theorem e_oJoin {a : Str} {x : O} : oJoin a [x] = joinO a (x.l.bind strsOf) := rfl
@[simp] theorem e_joinO {a : Str} {ys : List Str} : joinO a (some ys) = if (ys.map (·.length)).sum + ys.length * a.length ≤ 16777216 then .ok (.val (.str (Txt.join a ys))) else .stuck := rfl
theorem sem_join {K : PySem.W.Frag} : SemS K oJoin (fun x xs H Q => ∃ a p, ∃ ys : List Str, x = .str a ∧ xs = [.ref p] ∧ (SqL K H p (ys.map V.str) ∨ SqT K H p (ys.map V.str)) ∧
    (ys.map (·.length)).sum + ys.length * a.length ≤ 16777216 ∧ Q (.str (Txt.join a ys)) H) := by
  intro ζ G A L H σ env xs rs r0 Q a R hx e q
  match rs, e, hx with
  | [x], e, .cons hx .nil =>
    cases hl : x.l with
    | none => rw [e_oJoin, hl] at e; cases e
    | some ds =>
      cases hs : strsOf ds with
      | none => rw [e_oJoin, hl] at e; simp only [Option.bind_some, hs] at e; cases e
      | some ys =>
        rw [e_oJoin, hl] at e
        simp only [Option.bind_some, hs, e_joinO] at e
        split at e
        · rename_i hz
          cases e
          obtain ⟨p, vs, rfl, hp, hv⟩ := hx.l R.gh hl
          rw [strsOf_eq hs] at hv
          have := rpAll_strs hv
          subst this
          exact ⟨a, p, ys, rfl, rfl, .inl (.of hp), hz, q.val R (.str _)⟩
        · cases e
end SE

namespace SE
open PySem PySem.Spec PyProof.Rows L2 RZ
/-! ### zip of two texts -/
theorem sepT (I : Nat) : ZipSep2 (I + 4) (I + 2) (I + 3) I (I + 1) [I] [I + 1] := by
  have n : ∀ {a b : Nat}, a < b → @Ne Addr a b := fun h => Nat.ne_of_lt h
  have m : ∀ {a b : Nat}, b < a → @Ne Addr a b := fun h => Nat.ne_of_gt h
  have k : ∀ {a b : Nat}, @Ne Addr a b → a ∉ [b] := fun h z => h (List.mem_singleton.mp z)
  exact ⟨n (by omega), n (by omega), n (by omega), m (by omega), List.mem_singleton.mpr rfl, k (m (by omega)), k (m (by omega)), m (by omega), List.mem_singleton.mpr rfl, k (m (by omega)), k (m (by omega)), k (n (by omega)), k (m (by omega))⟩
theorem itS_obj {h : Heap} {it : Addr} {ty : String} {x : Str} {t : Tok} {i : Nat} (st : h.IsStrIter it ty x t i) : ∃ o, h.get? it = some o ∧ ∀ v, o.data ≠ .cell v := by
  obtain ⟨o, e, _, d⟩ := st
  exact ⟨o, e, fun v q => by rw [d] at q; cases q⟩
theorem itS_at {h h' : Heap} {it : Addr} {ty : String} {x : Str} {t : Tok} {i : Nat} (st : h.IsStrIter it ty x t i) (k : ∀ o, h.get? it = some o → h'.get? it = some o) : h'.IsStrIter it ty x t i := by
  obtain ⟨o, e, r⟩ := st
  exact ⟨o, k o e, r⟩
/-- the signs of two texts, side by side -/
def Itzt (x y : Str) : It where
  go i _ := i < x.cps.size ∧ i < y.cps.size
  yld i H v H' := ∃ T c d, v = .ref T ∧ H T = none ∧ H' = upd H T (.tup [.str ⟨#[c]⟩, .str ⟨#[d]⟩]) ∧ x.cps[i]? = some c ∧ y.cps[i]? = some d
  stop i _ := i ≤ x.cps.size ∧ i ≤ y.cps.size ∧ (i = x.cps.size ∨ i = y.cps.size)
theorem turn_zt {P : Program} {w : World} {K : PySem.W.Frag} {elts : List Expr} {kk : Nat} {tpos : Pos} {x y : Str} {t u : Tok} {z TI TO i1 i2 : Addr} (D : ZipSep2 z TI TO i1 i2 [i1] [i2]) :
    Turn P w K (.Tuple elts kk tpos) (Itzt x y) [z, TI, TO, i1, i2] z (fun i h => IsZip h z TI TO .none ∧ IsTupOf2 h TI (.ref i1) (.ref i2) ∧ (∃ x y, IsTupOf2 h TO x y) ∧ h.IsStrIter i1 (strIterType x) x t i ∧ h.IsStrIter i2 (strIterType y) y u i) := by
  refine ⟨by simp, fun i h st c hc => ?_, fun i h h' st k => ?_, ?_, ?_, fun A i s Q E st h => wpAny_pyIter_zip st.1 h⟩
  · obtain ⟨hz, hI, ⟨x, y, hO⟩, h1, h2⟩ := st
    rcases five hc with e | e | e | e | e <;> rw [e]
    · exact ⟨_, hz, fun v w => nomatch w⟩
    · exact ⟨_, hI, fun v w => nomatch w⟩
    · exact ⟨_, hO, fun v w => nomatch w⟩
    · exact itS_obj h1
    · exact itS_obj h2
  · obtain ⟨hz, hI, ⟨x, y, hO⟩, h1, h2⟩ := st
    exact ⟨k z (by simp) _ hz, k TI (by simp) _ hI, ⟨x, y, k TO (by simp) _ hO⟩, itS_at h1 (k i1 (by simp)), itS_at h2 (k i2 (by simp))⟩
  · intro X hP hw hK hc i pins s σ H E I hf st hg
    subst hP; subst hw; subst hK
    obtain ⟨hz, hI, ⟨x0, y0, hO⟩, h1, h2⟩ := st
    obtain ⟨l1, l2⟩ := hg
    have hh := I.ok.hd hc
    have zl : z < s.heap.objs.size := Heap.lt_size hz
    refine wpAny_pyNext_zipD2_item D (Draws.text (A := X.A.in1) hh i1 x t) (Draws.text (A := X.A.in1) hh i2 y u) hz hI hO h1 h2 l1 l2 fun m1 m2 h' tk f1 f2 g1 g2 g3 g4 g5 g6 g7 => ?_
    obtain ⟨c, t1, ec, rfl⟩ := f1
    obtain ⟨d, t2, ed, rfl⟩ := f2
    refine ⟨_, rfl, wpAny_letOwnedTupleGo_zip (s := { s with heap := h', toks := tk }) g1 fun h2' gz sb => ?_⟩
    have gT : h2'.get? s.heap.objs.size = some { cls := .type "tuple", data := .seq #[.str ⟨#[c]⟩ t1, .str ⟨#[d]⟩ t2] } := (sb.2 _ (Nat.ne_of_gt zl)).trans g5
    have new : ObjOk X.prog X.w (upd H s.heap.objs.size (.tup [.str ⟨#[c]⟩, .str ⟨#[d]⟩])) h2' s.heap.objs.size (.tup [.str ⟨#[c]⟩, .str ⟨#[d]⟩]) := ⟨by show 2 ≤ sizeLine; decide, [.str ⟨#[c]⟩ t1, .str ⟨#[d]⟩ t2], .cons ⟨t1, rfl⟩ (.cons ⟨t2, rfl⟩ .nil), _, gT, rfl, _, rfl⟩
    have I1 : Inv X pins σ (upd H s.heap.objs.size (.tup [.str ⟨#[c]⟩, .str ⟨#[d]⟩])) { s with heap := h2', toks := tk } :=
      I.turnedNew (t' := tk) (ch := [z, TI, TO, i1, i2]) (fun c o hb e => (sb.2 c (fun n => hb (by simp [n]))).trans (g7 c o (fun n => hb (by simp [n])) (fun n => hb (by simp [n])) (fun n => hb (by simp [n])) (fun n => hb (by simp [n])) e)) hf (Nat.le_refl _) new
    refine ⟨.ref s.heap.objs.size, _, I1, rfl, ⟨_, c, d, rfl, I.hok.fresh (Nat.le_refl _), rfl, ec, ed⟩, ⟨gz, ?_, ⟨.str ⟨#[c]⟩ t1, .str ⟨#[d]⟩ t2, ?_⟩, ?_, ?_⟩, fun c hcm => ?_⟩
    · exact (sb.2 _ D.TIz).trans (g7 _ _ D.TIz D.TITO D.TIi1 D.TIi2 hI)
    · exact (sb.2 _ D.TOz).trans g2
    · exact itS_at g3 fun o e => (sb.2 _ D.zi1.symm).trans e
    · exact itS_at g4 fun o e => (sb.2 _ D.zi2.symm).trans e
    · have hlt : c < s.heap.objs.size := by
        rcases five hcm with e | e | e | e | e <;> rw [e]
        · exact zl
        · exact Heap.lt_size hI
        · exact Heap.lt_size hO
        · obtain ⟨_, e, _⟩ := itS_obj h1; exact Heap.lt_size e
        · obtain ⟨_, e, _⟩ := itS_obj h2; exact Heap.lt_size e
      rw [upd_ne (Nat.ne_of_lt hlt)]
      exact (hf c hcm).1
  · intro X hP hw hK hc i pins s σ H E I hf st hg
    subst hP; subst hw; subst hK
    obtain ⟨hz, hI, ⟨x0, y0, hO⟩, h1, h2⟩ := st
    obtain ⟨b1, b2, hend⟩ := hg
    have hh := I.ok.hd hc
    refine wpAny_pyNext_zipD2_end (i := i) D (Draws.text (A := X.A.in1) hh i1 x t) (Draws.text (A := X.A.in1) hh i2 y u) hz hI hO h1 h2 b1 b2 hend fun h' tk hk => ⟨rfl, ?_⟩
    exact I.turnedL (t' := tk) (ch := [z, TI, TO, i1, i2]) (fun c o hb e => hk c o (fun n => hb (by simp [n])) (fun n => hb (by simp [n])) (fun n => hb (by simp [n])) (fun n => hb (by simp [n])) e) hf
def iZipT (ta : TA) : TI := fun σ H R => ta σ H fun vs H1 => ∃ x y, vs = [.str x, .str y] ∧ R (Itzt x y) H1
theorem pi_zipT {X : Cx} {e e2 : Expr} {ta : TA} {pp pos tpos : Pos} {elts : List Expr} {kk : Nat} (hg : Gl X "zip") (hm : X.mg "zip" = none) (ha : PA X [e, e2] ta)
    (hs : starEach [e, e2] X.env = (false, eval e X.env) :: starEach [e2] X.env := by rfl) (hpl : (backTo pos (starEach [e2] X.env)).any (·.1) = false := by rfl) : PI X (.Tuple elts kk tpos) (.Call (.Name "zip" pp) [e, e2] [] pos) (iZipT ta) := by
  constructor
  intro pins s σ H R I h
  refine Call_ (ld_blt I hg hm PyProof.Rows.boot_zip (PyProof.Rows.callWith_type1 (thn (ha.run pos pins s σ H _ I h) fun us s1 ⟨vs, H1, I1, r1, q1⟩ => ?_) hs hpl))
  obtain ⟨x, y, rfl, q2⟩ := q1
  cases r1 with
  | cons ra rr =>
    cases rr with
    | cons rb rr =>
      cases rr
      obtain ⟨t, rfl⟩ := ra
      obtain ⟨u, rfl⟩ := rb
      refine zip_begins2 (begins_text x t) (begins_text y u) trivial trivial fun h' hz hI hO g1 g2 hsz hk => wpAny_pyIter_zip hz ?_
      refine ⟨s1.heap.objs.size + 4, [s1.heap.objs.size + 4, s1.heap.objs.size + 2, s1.heap.objs.size + 3, s1.heap.objs.size, s1.heap.objs.size + 1], _, _, H1, rfl, I1.kept (t' := s1.toks) hk, turn_zt (t := t) (u := u) (sepT s1.heap.objs.size), ⟨hz, hI, ⟨_, _, hO⟩, ⟨_, g1, rfl, rfl⟩, ⟨_, g2, rfl, rfl⟩⟩, fun c hcm => ?_, q2⟩
      have hle : s1.heap.objs.size ≤ c := by
        rcases five hcm with e | e | e | e | e <;> rw [e]
        · exact Nat.le_add_right _ 4
        · exact Nat.le_add_right _ 2
        · exact Nat.le_add_right _ 3
        · exact Nat.le_refl _
        · exact Nat.le_add_right _ 1
      exact I1.fpOk hle (I1.hok.fresh hle)
/-! ### the source -/
def zipT (x y : Str) : List D := zipD (chars x) (chars y)
theorem chars_get {x : Str} {i : Nat} {d : D} (h : (chars x)[i]? = some d) : ∃ c, x.cps[i]? = some c ∧ d = .str ⟨#[c]⟩ := by
  unfold chars at h
  rw [List.getElem?_map] at h
  cases e : x.cps.toList[i]? with
  | none => rw [e] at h; cases h
  | some c =>
    rw [e] at h
    exact ⟨c, by simpa using e, (Option.some.inj h).symm⟩
theorem chars_len (x : Str) : (chars x).length = x.cps.size := by simp [chars]
theorem wk_zt {K : PySem.W.Frag} {G A : Hp} (x y : Str) : Wk K (Itzt x y) G A (zipT x y) := by
  constructor
  · intro i d G1 H1 s g _ e
    obtain ⟨d1, d2, e0, e0', rfl⟩ := zip_get e
    obtain ⟨c, e1, rfl⟩ := chars_get e0
    obtain ⟨c2, e2, rfl⟩ := chars_get e0'
    refine ⟨⟨by
      have := (Array.getElem?_eq_some_iff.mp e1).1
      exact this, by
      have := (Array.getElem?_eq_some_iff.mp e2).1
      exact this⟩, fun v H' q => ?_⟩
    obtain ⟨t, c', d', rfl, ht, rfl, y1, y2⟩ := q
    rw [e1] at y1
    rw [e2] at y2
    cases y1; cases y2
    have gt := g.free ht
    exact ⟨upd G1 t (.tup [.str ⟨#[c]⟩, .str ⟨#[c2]⟩]), lay_same gt _, .tup upd_same (.cons (.str _) (.cons (.str _) .nil)), .inr ⟨t, _, ht, rfl, rfl⟩⟩
  · intro G1 H1 s g _
    obtain ⟨z1, z2, z3⟩ := zip_size (chars x) (chars y)
    rw [chars_len] at z1 z3
    rw [chars_len] at z2 z3
    exact ⟨z1, z2, z3⟩
def zipTO : List O → Option (List D)
  | [.val (.str x), .val (.str y)] => some (zipT x y)
  | _ => none
def srcZipT (a b : M) : Src := fun env => (pass [.m (frz a), .m (frz b)] env).bind fun p => match zipTO p.1 with
  | some ds => .ok (ds, p.2)
  | none => .stuck
theorem zipTO_is {rs : List O} {ds : List D} (h : zipTO rs = some ds) : ∃ x y, rs = [.val (.str x), .val (.str y)] ∧ ds = zipT x y := by
  match rs, h with
  | [.val (.str x), .val (.str y)], h => exact ⟨x, y, rfl, (Option.some.inj h).symm⟩
theorem ri_zipT {X : Cx} {ζ : Option ZI} {a b : Expr} {ma mb : M} {p pos tpos : Pos} {elts : List Expr} {kk : Nat} (hm : X.mg "zip" = none) (ha : PE X a (tM X.K ζ ma)) (hb : PE X b (tM X.K ζ mb)) (hg : Gl X "zip" := by rfl) (hs : starEach [a, b] X.env = (false, eval a X.env) :: starEach [b] X.env := by rfl) (hpl : (backTo pos (starEach [b] X.env)).any (·.1) = false := by rfl)
    (hs4 : starEach [b] X.env = (false, eval b X.env) :: starEach [] X.env := by rfl) : PI X (.Tuple elts kk tpos) (.Call (.Name "zip" p) [a, b] [] pos) (tI X.K ζ (srcZipT ma mb)) :=
  piw (pi_zipT hg hm (pa_cons (r_frz ha) (pa_cons (r_frz hb) pa_nil hs4) hs) hs hpl) fun σ H Rr q => by
    obtain ⟨G, A, L, env, ds, env', R, h, q⟩ := q
    obtain ⟨⟨rs, e1⟩, h1, h⟩ := bind_eq_ok h
    refine pass_all [.m (frz ma), .m (frz mb)] R h1 fun vs H' G' s R' ops => ?_
    simp only at h
    split at h
    · rename_i zs ez
      cases h
      obtain ⟨x, y, rfl, rfl⟩ := zipTO_is ez
      cases ops with
      | cons o1 t =>
        cases t with
        | cons o2 t =>
          cases t
          cases (show Rp X.K G' _ (.str x) from o1)
          cases (show Rp X.K G' _ (.str y) from o2)
          exact ⟨_, _, rfl, q _ H' G' s R' (wk_zt x y)⟩
    · cases h
@[simp] theorem e_srcZipT {a b : M} {env : Env} : srcZipT a b env = (pass [.m (frz a), .m (frz b)] env).bind fun p => match zipTO p.1 with
  | some ds => .ok (ds, p.2)
  | none => .stuck := rfl
@[simp] theorem e_zipTO {x y : Str} : zipTO [.val (.str x), .val (.str y)] = some (zipT x y) := rfl
/-! ### a text so many times -/
def repS (x : Str) (n : Nat) : Str := ⟨(List.replicate n x.cps).foldl (· ++ ·) #[]⟩
theorem foldl_len : ∀ (n : Nat) (a acc : Array Nat), ((List.replicate n a).foldl (· ++ ·) acc).size = acc.size + n * a.size
  | 0, a, acc => by simp
  | n + 1, a, acc => by
    rw [List.replicate_succ, List.foldl_cons, foldl_len n a, Array.size_append, Nat.add_mul]
    omega
theorem repS_len (x : Str) (n : Nat) : (repS x n).length = n * x.length := by
  show ((List.replicate n x.cps).foldl (· ++ ·) #[]).size = n * x.cps.size
  rw [foldl_len]; simp
def oMulS : O → O → Res O
  | .val (.str x), .val (.int n) => if (2 ≤ n ∧ n ≤ 1000) ∧ 1 ≤ x.length ∧ x.length ≤ 1000 then .ok (.val (.str (repS x n.toNat))) else .stuck
  | _, _ => .stuck
theorem op_mulS {X : Cx} : OpR X (binaryOp .Mult) (fun x y H Q => ∃ i n, x = .str i ∧ y = .int n ∧ ((2 ≤ n ∧ n ≤ 1000) ∧ 1 ≤ i.length ∧ i.length ≤ 1000) ∧ Q (.str (repS i n.toNat)) H) := by
  intro pins s σ H x y v u Q I rx ry h
  obtain ⟨i, n, rfl, rfl, ⟨⟨h1, h2⟩, h3, h4⟩, q⟩ := h
  obtain ⟨t, rfl⟩ := rx
  obtain ⟨t', rfl⟩ := ry
  have e0 : (n == 1 || i.length == 0) = false := by
    have a : (n == 1) = false := beq_eq_false_iff_ne.mpr (by omega)
    have b : (i.length == 0) = false := beq_eq_false_iff_ne.mpr (by omega)
    rw [a, b]; rfl
  have hm : i.length * n.toNat ≤ 1000000 := by
    have := Nat.mul_le_mul h4 (show n.toNat ≤ 1000 by omega)
    omega
  refine PySem.P.mul_str ?_ (fun _ _ => ?_) (fun _ _ => ?_) ?_
  · have a : ¬ n < -(2 ^ 63 : Int) := by omega
    have b : ¬ n ≥ 2 ^ 63 := by omega
    rw [decide_eq_false a, decide_eq_false b]; rfl
  · have : (1000 : Int) ≤ (2 ^ 63 - 1) / n := by
      rw [Int.le_ediv_iff_mul_le (by omega)]
      omega
    omega
  · exact decide_eq_false (by show ¬ i.length * n.toNat > sizeLine; unfold sizeLine; omega)
  · rw [if_neg (by omega), e0, if_neg (by simp)]
    refine ⟨?_, .str (repS i n.toNat), H, I.tok _, ⟨_, rfl⟩, q⟩
    have := repS_len i n.toNat
    rw [Nat.mul_comm] at this
    show (repS i n.toNat).length ≤ sizeLine
    unfold sizeLine
    omega
theorem sem_mulS {K : PySem.W.Frag} : Sem2 K oMulS (fun x y H Q => ∃ i n, x = .str i ∧ y = .int n ∧ ((2 ≤ n ∧ n ≤ 1000) ∧ 1 ≤ i.length ∧ i.length ≤ 1000) ∧ Q (.str (repS i n.toNat)) H) := by
  intro ζ G A L H σ env x y rx ry r0 Q R hx hy e q
  unfold oMulS at e
  split at e
  · split at e
    · rename_i z
      cases e; cases hx; cases hy
      exact ⟨_, _, rfl, rfl, z, q.val R (.str _)⟩
    · cases e
  · cases e
@[simp] theorem e_mulS {x : Str} {n : Int} (h : (2 ≤ n ∧ n ≤ 1000) ∧ 1 ≤ x.length ∧ x.length ≤ 1000) : oMulS (.val (.str x)) (.val (.int n)) = .ok (.val (.str (repS x n.toNat))) := by
  show (if (2 ≤ n ∧ n ≤ 1000) ∧ 1 ≤ x.length ∧ x.length ≤ 1000 then Res.ok (O.val (.str (repS x n.toNat))) else Res.stuck) = _
  rw [if_pos h]
end SE

namespace SE
open PySem L2 RZ
/-! ### a tuple some of whose parts are lists that nobody else holds -/
section
variable {K : PySem.W.Frag} {ζ : Option ZI} {G A : Hp} {L : Nat → Option Addr} {H : Hp} {σ : St} {env : Env}
open Classical in
theorem scope_core (R : REnv K ζ G A L H σ env) (sl : List Nat) (P : Addr → Prop) (hP : ∀ p, P p → Lone G A L σ env p ∧ ∃ us, H p = some (.lst us)) :
    ∃ G1 A1, Same G G1 ∧ REnv K ζ G1 A1 (fun _ => none) H σ (hideE sl env) ∧ (∀ p, P p → G1 p = H p) ∧
      ∀ H2 G2 e2, Same G1 G2 → REnv K ζ G2 A1 (fun _ => none) H2 σ e2 → REnv K ζ G A L H2 σ env ∧ ∀ p, P p → H2 p = H p := by
  let lentAt : Addr → Prop := fun a => P a ∨ ∃ (j : Nat) (x : O), env[j]? = some x ∧ x.mine = true ∧ σ[j]? = some (some (V.ref a)) ∧ j ∈ sl
  let ownAt : Addr → Prop := fun a => (∃ (j : Nat) (x : O), env[j]? = some x ∧ x.mine = true ∧ σ[j]? = some (some (V.ref a))) ∧ ¬ lentAt a
  let G1 : Hp := fun a => if lentAt a then H a else G a
  let A1 : Hp := fun a => if ownAt a then H a else A a
  have G1y : ∀ {a : Addr}, lentAt a → G1 a = H a := fun z => if_pos z
  have G1n : ∀ {a : Addr}, ¬ lentAt a → G1 a = G a := fun z => if_neg z
  have A1y : ∀ {a : Addr}, ownAt a → A1 a = H a := fun z => if_pos z
  have A1n : ∀ {a : Addr}, ¬ ownAt a → A1 a = A a := fun z => if_neg z
  have lentNo : ∀ {a : Addr}, lentAt a → G a = none ∧ A a = none := fun {a} h => by
    rcases h with h | ⟨j, x, e1, e2, e3, _⟩
    · exact ⟨(hP a h).1.1, (hP a h).1.2.1⟩
    · obtain ⟨_, _, z2, z3⟩ := slot_alive R e1 e2 e3
      exact ⟨z2, z3⟩
  have ownNo : ∀ {a : Addr}, ownAt a → G a = none ∧ A a = none := fun ⟨⟨j, x, e1, e2, e3⟩, _⟩ => by
    obtain ⟨_, _, z2, z3⟩ := slot_alive R e1 e2 e3
    exact ⟨z2, z3⟩
  have GG1 : Same G G1 := fun a o z => by
    by_cases hm : lentAt a
    · have := (lentNo hm).1; rw [z] at this; cases this
    · rw [G1n hm]; exact z
  have AA1 : Same A A1 := fun a o z => by
    by_cases hm : ownAt a
    · have := (ownNo hm).2; rw [z] at this; cases this
    · rw [A1n hm]; exact z
  have RC : REnv K ζ G1 A1 (fun _ => none) H σ (hideE sl env) := by
    refine ⟨by unfold hideE; rw [hideK_len]; exact R.len, fun a o z => ?_, fun a o z => ?_, fun a o z => ?_, fun k o w e1 e2 => ?_, fun i j x y p e1 _ m1 _ _ _ => ?_, fun k p e => (by cases e), fun a us z => (if hm : ownAt a then (by rw [A1y hm] at z; obtain ⟨⟨j, x, f1, f2, f4⟩, _⟩ := hm; exact mine_tup R f1 f2 f4 us z) else (by rw [A1n hm] at z; exact R.tu a us z))⟩
    · by_cases hm : lentAt a
      · rw [G1y hm] at z; exact z
      · rw [G1n hm] at z; exact R.gh _ _ z
    · by_cases hm : ownAt a
      · rw [A1y hm] at z; exact z
      · rw [A1n hm] at z; exact R.ah _ _ z
    · by_cases hm : ownAt a
      · rw [G1n hm.2]; exact (ownNo hm).1
      · rw [A1n hm] at z
        by_cases hl : lentAt a
        · have := (lentNo hl).2; rw [z] at this; cases this
        · rw [G1n hl]; exact R.ag _ _ z
    · obtain ⟨x, ex, eo⟩ := hide_get e1
      have qs := R.sl k x w ex e2
      match x, ex, eo, qs with
      | .un, _, eo, _ => rw [eo]; trivial
      | .tpl _, _, eo, _ => rw [eo]; trivial
      | .val d', _, eo, qs =>
        rw [eo]
        obtain ⟨v, f1, f2⟩ := qs
        exact ⟨v, f1, f2.m GG1⟩
      | .own xs, ex, eo, qs =>
        rw [eo]
        obtain ⟨p, us, f1, f2, f3, f4, f5⟩ := qs
        by_cases hk : k ∈ sl
        · have hb : sl.contains k = true := by simpa using hk
          rw [hb]
          exact ⟨_, f1, .lst (by rw [G1y (.inr ⟨k, _, ex, rfl, by rw [e2, f1], hk⟩)]; exact f2) (f5.m GG1)⟩
        · have hb : sl.contains k = false := by simpa using hk
          rw [hb]; trivial
      | .dct tk xs, ex, eo, qs =>
        rw [eo]
        obtain ⟨p, us, f1, f2, f3, f4, f5⟩ := qs
        by_cases hk : k ∈ sl
        · have hb : sl.contains k = true := by simpa using hk
          rw [hb]
          exact ⟨_, f1, (f5.m GG1).rp (by rw [G1y (.inr ⟨k, _, ex, rfl, by rw [e2, f1], hk⟩)]; exact f2)⟩
        · have hb : sl.contains k = false := by simpa using hk
          rw [hb]; trivial
      | .pin w' xs, _, eo, _ => rw [eo]; trivial
      | .scr ns, _, eo, qs =>
        rw [eo]
        obtain ⟨p, f1, f2⟩ := qs
        exact ⟨p, f1, sameL GG1 f2⟩
      | .exn y, _, eo, qs =>
        rw [eo]
        obtain ⟨zi, C, dd, fs, z1, z2, z3, z4, z5, z6, z7⟩ := qs
        exact ⟨zi, C, dd, fs, z1, z2, z3, z4, z5, AA1 _ _ z6, z7.m GG1⟩
    · obtain ⟨x', _, eo⟩ := hide_get e1
      rw [eo, hide_mine] at m1
      cases m1
  refine ⟨G1, A1, GG1, RC, fun p hp => G1y (.inl hp), fun H2 G2 e2' s2 Rc => ⟨⟨R.len, fun a o z => Rc.gh _ _ (s2 _ _ (GG1 _ _ z)), fun a o z => Rc.ah _ _ (AA1 _ _ z), R.ag, fun j x w e1 e2 => ?_, R.inj, R.lp, R.tu⟩, fun p hp => ?_⟩⟩
  · have qs := R.sl j x w e1 e2
    have stay : ∀ (p : Addr) (us : HO), x.mine = true → w = some (V.ref p) → H p = some us → H2 p = some us := fun p us m ew hp => by
      by_cases hl : lentAt p
      · have z : G1 p = some us := by rw [G1y hl]; exact hp
        exact Rc.gh _ _ (s2 _ _ z)
      · have z : A1 p = some us := by rw [A1y ⟨⟨j, x, e1, m, by rw [e2, ew]⟩, hl⟩]; exact hp
        exact Rc.ah _ _ z
    match x, qs, stay with
    | .un, _, _ => trivial
    | .tpl _, _, _ => trivial
    | .val d', qs, _ => exact qs
    | .own xs, qs, stay =>
      obtain ⟨p, us, f1, f2, f3, f4, f5⟩ := qs
      exact ⟨p, us, f1, stay p _ rfl f1 f2, f3, f4, f5⟩
    | .dct tk xs, qs, stay =>
      obtain ⟨p, us, f1, f2, f3, f4, f5⟩ := qs
      exact ⟨p, us, f1, stay p _ rfl f1 f2, f3, f4, f5⟩
    | .pin true xs, qs, stay =>
      obtain ⟨p, us, f0, f1, f2, f3, f4, f5⟩ := qs
      exact ⟨p, us, f0, f1, stay p _ rfl f1 f2, f3, f4, f5⟩
    | .pin false xs, qs, _ => exact qs
    | .scr ns, qs, _ => exact qs
    | .exn y, qs, _ => exact qs
  · obtain ⟨us, hu⟩ := (hP p hp).2
    have z : G1 p = some (.lst us) := by rw [G1y (.inl hp)]; exact hu
    rw [Rc.gh _ _ (s2 _ _ z), hu]
/-- the lists of a tuple are given to all -/
theorem freezeP : ∀ {vs : List V} {ds : List (Bool × D)} {G : Hp}, REnv K ζ G A L H σ env → Parts K G A L H σ env vs ds → ∃ G', Same G G' ∧ REnv K ζ G' A L H σ env ∧ RpAll K G' vs (ds.map (·.2))
  | [], _, G, R, .nil => ⟨G, same_refl G, R, .nil⟩
  | v :: vs, (false, d) :: ds, G, R, .val h t => by
    obtain ⟨G', s, R', t'⟩ := freezeP R t
    exact ⟨G', s, R', .cons (h.m s) t'⟩
  | .ref p :: vs, (true, .list xs) :: ds, G, R, .own hp hl hv t => by
    obtain ⟨G1, s, R1, t'⟩ := freezeP R t
    cases g : G1 p with
    | none =>
      obtain ⟨s2, R2⟩ := freezeO R1 hp g hl.2.1 hl.2.2.1 hl.2.2.2
      exact ⟨_, s.trans s2, R2, .cons (.lst upd_same (hv.m (s.trans s2))) (t'.m s2)⟩
    | some o =>
      have h1 := R1.gh _ _ g
      rw [hp] at h1
      cases h1
      exact ⟨G1, s, R1, .cons (.lst g (hv.m s)) t'⟩
theorem Parts.len : ∀ {vs : List V} {ds : List (Bool × D)}, Parts K G A L H σ env vs ds → vs.length = ds.length
  | _, _, .nil => rfl
  | _, _, .val _ t => by rw [List.length_cons, List.length_cons, Parts.len t]
  | _, _, .own _ _ _ t => by rw [List.length_cons, List.length_cons, Parts.len t]
theorem Parts.own_at : ∀ {vs : List V} {ds : List (Bool × D)} {k : Nat} {x : D}, Parts K G A L H σ env vs ds → ds[k]? = some (true, x) → ∃ p us xs, x = .list xs ∧ vs[k]? = some (.ref p) ∧ H p = some (.lst us) ∧ Lone G A L σ env p ∧ RpAll K G us xs
  | _, _, _, _, .nil, e => by simp at e
  | _, _, 0, _, .val _ _, e => by simp at e
  | _, _, 0, _, .own h1 h2 h3 _, e => by
    simp at e
    subst e
    exact ⟨_, _, _, rfl, rfl, h1, h2, h3⟩
  | _, _, k + 1, _, .val _ t, e => by
    obtain ⟨p, us, xs, a, b, c⟩ := Parts.own_at (k := k) t (by simpa using e)
    exact ⟨p, us, xs, a, by simpa using b, c⟩
  | _, _, k + 1, _, .own _ _ _ t, e => by
    obtain ⟨p, us, xs, a, b, c⟩ := Parts.own_at (k := k) t (by simpa using e)
    exact ⟨p, us, xs, a, by simpa using b, c⟩
/-- the heap elsewhere -/
theorem Parts.heap {H2 : Hp} : ∀ {vs : List V} {ds : List (Bool × D)}, Parts K G A L H σ env vs ds → (∀ (k : Nat) (x : D) (p : Addr), ds[k]? = some (true, x) → vs[k]? = some (.ref p) → H2 p = H p) → Parts K G A L H2 σ env vs ds
  | _, _, .nil, _ => .nil
  | _, _, .val h t, f => .val h (Parts.heap t fun k x p e1 e2 => f (k + 1) x p (by simpa using e1) (by simpa using e2))
  | _, _, .own h1 h2 h3 t, f => .own (by rw [f 0 _ _ rfl rfl]; exact h1) h2 h3 (Parts.heap t fun k x p e1 e2 => f (k + 1) x p (by simpa using e1) (by simpa using e2))
/-- read by all for a while -/
theorem Parts.all {G1 : Hp} (e : Same G G1) : ∀ {vs : List V} {ds : List (Bool × D)}, Parts K G A L H σ env vs ds → (∀ (k : Nat) (x : D) (p : Addr), ds[k]? = some (true, x) → vs[k]? = some (.ref p) → G1 p = H p) → RpAll K G1 vs (ds.map (·.2))
  | _, _, .nil, _ => .nil
  | _, _, .val h t, f => .cons (h.m e) (Parts.all e t fun k x p e1 e2 => f (k + 1) x p (by simpa using e1) (by simpa using e2))
  | _, _, .own h1 h2 h3 t, f => .cons (.lst (by rw [f 0 _ _ rfl rfl]; exact h1) (h3.m e)) (Parts.all e t fun k x p e1 e2 => f (k + 1) x p (by simpa using e1) (by simpa using e2))
/-- a new object is laid beside -/
theorem Parts.lay {q : Addr} {ob : HO} (hq : H q = none) (gq : G q = none) : ∀ {vs : List V} {ds : List (Bool × D)}, Parts K G A L H σ env vs ds → Parts K (upd G q ob) A L (upd H q ob) σ env vs ds
  | _, _, .nil => .nil
  | _, _, .val h t => .val (h.m (lay_same gq _)) (Parts.lay hq gq t)
  | _, _, .own (p := p) h1 h2 h3 t => by
    have ne : p ≠ q := fun z => by rw [z, hq] at h1; cases h1
    exact .own (by rw [upd_ne ne]; exact h1) ⟨by rw [upd_ne ne]; exact h2.1, h2.2⟩ (h3.m (lay_same gq _)) (Parts.lay hq gq t)
/-- a list that nobody holds is changed -/
theorem mutLone (R : REnv K ζ G A L H σ env) {p : Addr} {ob : HO} (h : Lone G A L σ env p) : REnv K ζ G A L (upd H p ob) σ env := by
  have gn : ∀ {b : Addr} {u : HO}, G b = some u → b ≠ p := fun e z => by rw [z, h.1] at e; cases e
  have an : ∀ {b : Addr} {u : HO}, A b = some u → b ≠ p := fun e z => by rw [z, h.2.1] at e; cases e
  refine ⟨R.len, fun b u e => by rw [upd_ne (gn e)]; exact R.gh _ _ e, fun b u e => by rw [upd_ne (an e)]; exact R.ah _ _ e, R.ag, fun i o w e1 e2 => ?_, R.inj, R.lp, R.tu⟩
  have q := R.sl i o w e1 e2
  match o, q with
  | .un, _ => trivial
  | .tpl _, _ => trivial
  | .val d, q => exact q
  | .own ys, q =>
    obtain ⟨p', vs', e3, e4, q⟩ := q
    have hb : p' ≠ p := fun z => h.2.2.1 i _ e1 rfl (by rw [e2, e3, z])
    exact ⟨p', vs', e3, by rw [upd_ne hb]; exact e4, q⟩
  | .dct tk ys, q =>
    obtain ⟨p', vs', e3, e4, q⟩ := q
    have hb : p' ≠ p := fun z => h.2.2.1 i _ e1 rfl (by rw [e2, e3, z])
    exact ⟨p', vs', e3, by rw [upd_ne hb]; exact e4, q⟩
  | .pin true ys, q =>
    obtain ⟨p', vs', e0, e3, e4, q⟩ := q
    have hb : p' ≠ p := fun z => h.2.2.2 i (by rw [e0, z])
    exact ⟨p', vs', e0, e3, by rw [upd_ne hb]; exact e4, q⟩
  | .pin false ys, q => exact q
  | .scr ns, q => exact q
  | .exn x, q => exact q
/-- lists that nobody holds wait with the surroundings -/
theorem protectL : ∀ {A : Hp} (ps : List Addr), REnv K ζ G A L H σ env → (∀ p, p ∈ ps → Lone G A L σ env p ∧ ∃ us, H p = some (.lst us)) → ∃ A', Same A A' ∧ REnv K ζ G A' L H σ env ∧
    ∀ G' H' env', Same G G' → REnv K ζ G' A' L H' σ env' → REnv K ζ G' A L H' σ env' ∧ ∀ p, p ∈ ps → H' p = H p ∧ Lone G' A L σ env' p
  | A, [], R, _ => ⟨A, same_refl A, R, fun G' H' env' e R' => ⟨R', fun p hp => by cases hp⟩⟩
  | A, p :: ps, R, h => by
    obtain ⟨A1, hA, R1, back⟩ := protectL ps R (fun q hq => h q (List.mem_cons_of_mem _ hq))
    obtain ⟨hl, us, hp⟩ := h p List.mem_cons_self
    by_cases ha : A1 p = none
    · obtain ⟨R2, back2⟩ := protectO R1 hp hl.1 ha hl.2.2.1 hl.2.2.2 (fun fs z => by cases z) (fun vs z => by cases z)
      refine ⟨upd A1 p (.lst us), hA.trans (lay_same ha _), R2, fun G' H' env' e R' => ?_⟩
      obtain ⟨R3, k1, k2, k3⟩ := back2 G' H' env' e R'
      obtain ⟨R4, t'⟩ := back G' H' env' e R3
      refine ⟨R4, fun q hq => ?_⟩
      rcases List.mem_cons.mp hq with rfl | hq
      · exact ⟨by rw [k1, hp], k2, hl.2.1, k3, hl.2.2.2⟩
      · exact t' q hq
    · refine ⟨A1, hA, R1, fun G' H' env' e R' => ?_⟩
      obtain ⟨R4, t'⟩ := back G' H' env' e R'
      refine ⟨R4, fun q hq => ?_⟩
      rcases List.mem_cons.mp hq with rfl | hq
      · cases ea : A1 q with
        | none => exact absurd ea ha
        | some u =>
          have h1 := R1.ah _ _ ea
          refine ⟨by rw [R'.ah _ _ ea, h1], R'.ag _ _ ea, hl.2.1, fun i x e1 m z => ?_, hl.2.2.2⟩
          obtain ⟨_, _, _, h3⟩ := slot_alive R' e1 m z
          rw [ea] at h3; cases h3
      · exact t' q hq
end
/-! ### the value of such a call, for all -/
def fzO : O → O
  | .tpl ds => .val (.tuple (ds.map (·.2)))
  | o => o
def mFz (m : M) : M := fun env => (m env).bind fun p => .ok (fzO p.1, p.2)
theorem r_fz {X : Cx} {ζ : Option ZI} {e : Expr} {m : M} (h : PE X e (tM X.K ζ m)) : PE X e (tM X.K ζ (mFz m)) := pew h fun σ H Q q => by
  obtain ⟨G, A, L, env, r0, env', R, e, q⟩ := q
  obtain ⟨⟨r, e1⟩, h1, h⟩ := bind_eq_ok e
  cases h
  refine ⟨G, A, L, env, r, e1, R, h1, fun v H' G' s R' hv => ?_⟩
  cases r with
  | tpl ds =>
    obtain ⟨a, vs, rfl, ha, hp⟩ := hv
    obtain ⟨G2, s2, R2, t⟩ := freezeP R' hp
    exact q _ H' G2 (s.trans s2) R2 (.tup (s2 _ _ ha) t)
  | _ => exact q v H' G' s R' hv
@[simp] theorem e_fzO {ds : List (Bool × D)} : fzO (.tpl ds) = .val (.tuple (ds.map (·.2))) := rfl
@[simp] theorem e_fzV {d : D} : fzO (.val d) = .val d := rfl
@[simp] theorem e_fzN {xs : List D} : fzO (.own xs) = .own xs := rfl
@[simp] theorem e_mFz {m : M} {env : Env} : mFz m env = (m env).bind fun p => .ok (fzO p.1, p.2) := rfl
/-! ### a tuple is made -/
abbrev TD := List (Bool × D)
def tplG : List Opd → List O → Env → Res (TD × Env)
  | [], _, env => .ok ([], env)
  | .pk j :: os, _ :: rs, env => match env.getD j .un with
    | .own ys => (tplG os rs (env.set j .un)).bind fun q => .ok ((true, .list ys) :: q.1, q.2)
    | .val d => (tplG os rs env).bind fun q => .ok ((false, d) :: q.1, q.2)
    | _ => .stuck
  | .m _ :: os, .val d :: rs, env => (tplG os rs env).bind fun q => .ok ((false, d) :: q.1, q.2)
  | .m _ :: os, .own xs :: rs, env => (tplG os rs env).bind fun q => .ok ((true, .list xs) :: q.1, q.2)
  | _, _, _ => .stuck
def mTpl (os : List Opd) : M := fun env => (pass os env).bind fun p => (tplG os p.1 p.2).bind fun q => .ok (.tpl q.1, q.2)
def OpsW (K : PySem.W.Frag) (G A : Hp) (L : Nat → Option Addr) (H : Hp) (σ : St) (env : Env) : List Opd → List O → List V → Prop
  | [], _, [] => True
  | .m _ :: os, r :: rs, v :: vs => RVal K G A L H σ env r v ∧ OpsW K G A L H σ env os rs vs
  | .pk j :: os, _ :: rs, v :: vs => σ[j]? = some (some v) ∧ OpsW K G A L H σ env os rs vs
  | _, _, _ => False
section
variable {K : PySem.W.Frag} {ζ : Option ZI} {G A : Hp} {L : Nat → Option Addr} {H : Hp} {σ : St}
theorem ops_w {env : Env} {os : List Opd} {rs : List O} {vs : List V} (h : ROps K G A L H σ env os rs vs) : OpsW K G A L H σ env os rs vs := by
  induction h with
  | nil => trivial
  | @cons o os r rs v vs h _ ih =>
    cases o with
    | m m => exact ⟨h, ih⟩
    | pk j => exact ⟨h.1, ih⟩
theorem Lone.less {env env' : Env} {p : Addr} (f : ∀ (i : Nat) (x : O), env'[i]? = some x → x.mine = true → env[i]? = some x) (h : Lone G A L σ env p) : Lone G A L σ env' p := ⟨h.1, h.2.1, fun i x e m => h.2.2.1 i x (f i x e m) m, h.2.2.2⟩
theorem RVal.less {env env' : Env} {r : O} {v : V} (f : ∀ (i : Nat) (x : O), env'[i]? = some x → x.mine = true → env[i]? = some x) (h : RVal K G A L H σ env r v) : RVal K G A L H σ env' r v := by
  match r, h with
  | .val d, h => exact h
  | .own xs, h =>
    obtain ⟨p, vs, e1, e2, e3, e4, e5, e6, e7⟩ := h
    exact ⟨p, vs, e1, e2, e3, e4, e5, fun i x e m => e6 i x (f i x e m) m, e7⟩
  | .dct tk xs, h =>
    obtain ⟨p, vs, e1, e2, e3, e4, e5, e6, e7⟩ := h
    exact ⟨p, vs, e1, e2, e3, e4, e5, fun i x e m => e6 i x (f i x e m) m, e7⟩
  | .tpl ds, h =>
    obtain ⟨a, vs, e1, e2, hp⟩ := h
    exact ⟨a, vs, e1, e2, hp.mapL fun p _ _ hl => hl.less f⟩
theorem OpsW.less {env env' : Env} (f : ∀ (i : Nat) (x : O), env'[i]? = some x → x.mine = true → env[i]? = some x) : ∀ {os : List Opd} {rs : List O} {vs : List V}, OpsW K G A L H σ env os rs vs → OpsW K G A L H σ env' os rs vs
  | [], _, [], _ => trivial
  | .m _ :: os, r :: rs, v :: vs, h => ⟨h.1.less f, OpsW.less f h.2⟩
  | .pk j :: os, _ :: rs, v :: vs, h => ⟨h.1, OpsW.less f h.2⟩
theorem tplG_ok : ∀ (os : List Opd) {rs : List O} {vs : List V} {ds : TD} {env env' : Env}, REnv K ζ G A L H σ env → OpsW K G A L H σ env os rs vs → tplG os rs env = .ok (ds, env') →
    REnv K ζ G A L H σ env' ∧ Parts K G A L H σ env' vs ds ∧ ∀ (i : Nat) (x : O), env'[i]? = some x → x.mine = true → env[i]? = some x
  | [], rs, vs, ds, env, env', R, ops, e => by
    cases vs with
    | nil => cases e; exact ⟨R, .nil, fun i x h _ => h⟩
    | cons v vs => exact ops.elim
  | .pk j :: os, rs, vs, ds, env, env', R, ops, e => by
    cases rs with
    | nil => cases e
    | cons r rs =>
      cases vs with
      | nil => exact ops.elim
      | cons v vs =>
        obtain ⟨hv, ops⟩ := ops
        unfold tplG at e
        generalize ho : env.getD j .un = o at e
        match o, e with
        | .own ys, e =>
          obtain ⟨⟨ds1, e1⟩, h1, h⟩ := bind_eq_ok e
          cases h
          have eo := getD_some ho rfl
          obtain ⟨p, us, f1, f2, f3, f4, f5⟩ := R.sl j _ _ eo hv
          cases f1
          obtain ⟨R1, k1, k2⟩ := mine_un R eo rfl rfl hv
          have less : ∀ (i : Nat) (x : O), (env.set j .un)[i]? = some x → x.mine = true → env[i]? = some x := fun i x e m => by
            by_cases hi : i = j
            · subst hi
              have hlt : i < env.length := (List.getElem?_eq_some_iff.mp eo).1
              rw [List.getElem?_set_self hlt] at e
              cases e; cases m
            · rwa [List.getElem?_set_ne (Ne.symm hi)] at e
          obtain ⟨R2, P, f⟩ := tplG_ok os R1 (ops.less less) h1
          exact ⟨R2, .own f2 (Lone.less f ⟨f3, f4, k1, k2⟩) f5 P, fun i x e m => less i x (f i x e m) m⟩
        | .val d, e =>
          obtain ⟨⟨ds1, e1⟩, h1, h⟩ := bind_eq_ok e
          cases h
          have eo := getD_some ho rfl
          obtain ⟨w, f1, f2⟩ := R.sl j _ _ eo hv
          cases f1
          obtain ⟨R2, P, f⟩ := tplG_ok os R ops h1
          exact ⟨R2, .val f2 P, f⟩
  | .m m :: os, rs, vs, ds, env, env', R, ops, e => by
    cases rs with
    | nil => cases e
    | cons r rs =>
      cases vs with
      | nil => exact ops.elim
      | cons v vs =>
        obtain ⟨hv, ops⟩ := ops
        match r, e, hv with
        | .val d, e, hv =>
          obtain ⟨⟨ds1, e1⟩, h1, h⟩ := bind_eq_ok e
          cases h
          obtain ⟨R2, P, f⟩ := tplG_ok os R ops h1
          exact ⟨R2, .val hv P, f⟩
        | .own xs, e, hv =>
          obtain ⟨⟨ds1, e1⟩, h1, h⟩ := bind_eq_ok e
          cases h
          obtain ⟨p, us, rfl, f2, f3, f4, f5, f6, f7⟩ := hv
          obtain ⟨R2, P, f⟩ := tplG_ok os R ops h1
          exact ⟨R2, .own f2 (Lone.less f ⟨f3, f4, f6, f7⟩) f5 P, f⟩
end
theorem r_tpl {X : Cx} {ζ : Option ZI} {es : List Expr} {os : List Opd} {pos : Pos} {x1} (h : PA X es (tAll X.K ζ os)) (hl : os.length ≤ 1000) : PE X (.Tuple es x1 pos) (tM X.K ζ (mTpl os)) := pew (pe_tup h) fun σ H Q q => by
  obtain ⟨G, A, L, env, r0, env', R, e, q⟩ := q
  obtain ⟨⟨rs, e1⟩, h1, h⟩ := bind_eq_ok e
  obtain ⟨⟨ds, e2⟩, h2, h⟩ := bind_eq_ok h
  cases h
  refine pass_all os R h1 fun vs H' G' s R' ops => ⟨by rw [rops_len ops]; exact le_line hl, fun p hp => ?_⟩
  obtain ⟨R2, P, _⟩ := tplG_ok os R' (ops_w ops) h2
  have gp : G' p = none := R'.gh.free hp
  exact q _ _ (upd G' p (.tup vs)) (s.trans (lay_same gp _)) (R2.lay hp _) ⟨p, vs, rfl, upd_same, P.lay hp gp⟩
end SE

namespace SE
open PySem L2 RZ
/-! ### a name holds a tuple with lists of its own, is looked at, its lists are changed, and it is left alone -/
structure HoldI (K : PySem.W.Frag) (ζ : Option ZI) (G A : Hp) (L : Nat → Option Addr) (H : Hp) (σ : St) (env : Env) (i : Nat) (ds : TD) : Prop where
  R : REnv K ζ G A L H σ env
  un : env[i]? = some .un
  ex : ∃ a vs, σ[i]? = some (some (.ref a)) ∧ G a = some (.tup vs) ∧ Parts K G A L H σ env vs ds
def tH (K : PySem.W.Frag) (ζ : Option ZI) (mg : Str → Option Value) (W : WX) (i : Nat) (s : TD → S) : TS := fun D σ H => ∃ ds G A L env, HoldI K ζ G A L H σ env i ds ∧ SWant K ζ mg W G A L D (s ds env)
def sHold (i : Nat) (m : M) (s : TD → S) : S := fun env => ofRes (m env) fun p => match p.1 with
  | .tpl ds => if (p.2.getD i .un).pinned = true ∨ ¬ i < p.2.length then .stuck else s ds (p.2.set i .un)
  | _ => .stuck
/-- a test that looks at the tuple; only a return behind it -/
def retO : SRes → SRes
  | .ret r e => .ret r e
  | _ => .stuck
def hIf (i : Nat) (sl : List Nat) (t : T) (u : S) (s : TD → S) : TD → S := fun ds env => match t ((hideE sl env).set i (.val (.tuple (ds.map (·.2))))) with
  | .ok p => if p.1 = true then retO (u env) else s ds env
  | _ => .stuck
def hEnd (s : S) : TD → S := fun _ env => s env
/-- changed already: only which parts are lists, and how long at most, is known -/
structure HoldS (K : PySem.W.Frag) (ζ : Option ZI) (G A : Hp) (L : Nat → Option Addr) (H : Hp) (σ : St) (env : Env) (i n : Nat) (bs : List Bool) : Prop where
  R : REnv K ζ G A L H σ env
  un : env[i]? = some .un
  ex : ∃ (a : Addr) (vs : List V), σ[i]? = some (some (V.ref a)) ∧ G a = some (.tup vs) ∧ ∀ (k : Nat), bs[k]? = some true → ∃ (p : Addr) (us : List V), vs[k]? = some (V.ref p) ∧ H p = some (.lst us) ∧ us.length ≤ n ∧ Lone G A L σ env p
def tHS (K : PySem.W.Frag) (ζ : Option ZI) (mg : Str → Option Value) (W : WX) (i n : Nat) (s : List Bool → S) : TS := fun D σ H => ∃ bs G A L env, HoldS K ζ G A L H σ env i n bs ∧ SWant K ζ mg W G A L D (s bs env)
def shortD (n : Nat) : Bool × D → Bool
  | (true, .list xs) => Nat.ble xs.length n
  | (true, _) => false
  | (false, _) => true
def hSp (n : Nat) (s : List Bool → S) : TD → S := fun ds env => if ds.all (shortD n) = true then s (ds.map (·.1)) env else .stuck
def hMut (i k : Nat) (m : M) (s : List Bool → S) : List Bool → S := fun bs env => match bs[k]? with
  | some true => ofRes (frz m env) fun p => match p.2[i]? with
    | some .un => s bs p.2
    | _ => .stuck
  | _ => .stuck
def hEndS (s : S) : List Bool → S := fun _ env => s env
section
variable {K : PySem.W.Frag} {ζ : Option ZI} {mg : Str → Option Value} {W : WX} {G A : Hp} {L : Nat → Option Addr} {H : Hp} {σ : St} {env : Env} {D : Ends} {i n : Nat}
theorem hold_spoil {s : List Bool → S} (h : tH K ζ mg W i (hSp n s) D σ H) : tHS K ζ mg W i n s D σ H := by
  obtain ⟨ds, G, A, L, env, ⟨R, un, a, vs, e1, e2, P⟩, q⟩ := h
  unfold hSp at q
  split at q
  · rename_i hall
    refine ⟨ds.map (·.1), G, A, L, env, ⟨R, un, a, vs, e1, e2, fun k hk => ?_⟩, q⟩
    rw [List.getElem?_map] at hk
    cases hd : ds[k]? with
    | none => rw [hd] at hk; cases hk
    | some x =>
      obtain ⟨b, d⟩ := x
      rw [hd] at hk
      cases (show b = true from Option.some.inj hk)
      obtain ⟨p, us, xs, rfl, f1, f2, f3, f4⟩ := P.own_at hd
      have hx := List.all_eq_true.mp hall _ (List.mem_of_getElem? hd)
      refine ⟨p, us, f1, f2, ?_, f3⟩
      rw [f4.length]
      exact Nat.le_of_ble_eq_true hx
  · exact q.elim
theorem hold_end {s : S} (h : tH K ζ mg W i (hEnd s) D σ H) : tS K ζ mg W s D σ H := by
  obtain ⟨ds, G, A, L, env, h, q⟩ := h
  exact ⟨G, A, L, env, h.R, q⟩
theorem hold_endS {s : S} (h : tHS K ζ mg W i n (hEndS s) D σ H) : tS K ζ mg W s D σ H := by
  obtain ⟨ds, G, A, L, env, h, q⟩ := h
  exact ⟨G, A, L, env, h.R, q⟩
theorem Lone.set_un {p : Addr} {v : V} (h : Lone G A L σ env p) (hi : i < env.length) : Lone G A L (σ.set i (some v)) (env.set i .un) p := by
  refine ⟨h.1, h.2.1, fun j x e m z => ?_, h.2.2.2⟩
  by_cases hj : j = i
  · subst hj
    rw [List.getElem?_set_self hi] at e
    cases e; cases m
  · rw [List.getElem?_set_ne (Ne.symm hj)] at e z
    exact h.2.2.1 j x e m z
theorem hold_start {m : M} {s : TD → S} (h : tS K ζ mg W (sHold i m s) D σ H) : tM K ζ m σ H fun v H1 => tH K ζ mg W i s D (σ.set i (some v)) H1 := by
  obtain ⟨G, A, L, env, R, q⟩ := h
  unfold sHold at q
  cases h : m env with
  | exc e => rw [h] at q; exact q.elim
  | stuck => rw [h] at q; exact q.elim
  | ok p =>
    rw [h] at q
    obtain ⟨r, e1⟩ := p
    simp only [ofRes] at q
    match r, h, q with
    | .tpl ds, h, q =>
      simp only at q
      split at q
      · exact q.elim
      · rename_i hc
        have hp : ¬ (e1.getD i .un).pinned = true := fun z => hc (.inl z)
        have hi : i < e1.length := Decidable.byContradiction fun z => hc (.inr z)
        refine ⟨G, A, L, env, .tpl ds, e1, R, h, fun v H' G' s' R' hv => ?_⟩
        obtain ⟨a, vs, rfl, ha, P⟩ := hv
        have hp' : ∀ x, e1[i]? = some x → x.pinned = false := fun x e => by
          rw [List.getD_eq_getElem?_getD, e] at hp
          simpa using hp
        have R2 : REnv K ζ G' A L H' (σ.set i (some (.ref a))) (e1.set i .un) := set_slot R' trivial hp' rfl (fun z => by cases z)
        have hs : i < σ.length := by rw [← R'.len]; exact hi
        exact ⟨ds, G', A, L, _, ⟨R2, by rw [List.getElem?_set_self hi], a, vs, by rw [List.getElem?_set_self hs], ha, P.mapL fun p _ _ hl => hl.set_un hi⟩, q.of s'⟩
/-- what the parts are while all look at them -/
theorem hold_look {ds : TD} (h : HoldI K ζ G A L H σ env i ds) (sl : List Nat) : ∃ G1 A1, REnv K ζ G1 A1 (fun _ => none) H σ ((hideE sl env).set i (.val (.tuple (ds.map (·.2))))) ∧
    ∀ H2 G2 e2, Same G1 G2 → REnv K ζ G2 A1 (fun _ => none) H2 σ e2 → HoldI K ζ G A L H2 σ env i ds := by
  obtain ⟨R, un, a, vs, e1, e2, P⟩ := h
  obtain ⟨G1, A1, GG1, R1, g1, back⟩ := scope_core R sl (fun p => ∃ (k : Nat) (x : D), ds[k]? = some (true, x) ∧ vs[k]? = some (V.ref p)) (fun p ⟨k, x, h1, h2⟩ => by
    obtain ⟨p', us, xs, rfl, f1, f2, f3, f4⟩ := P.own_at h1
    rw [h2] at f1
    cases f1
    exact ⟨f3, us, f2⟩)
  refine ⟨G1, A1, set_env R1 (w := some (V.ref a)) e1 ⟨V.ref a, rfl, Rp.tup (GG1 _ _ e2) (P.all GG1 fun k x p h1 h2 => g1 p ⟨k, x, h1, h2⟩)⟩ (fun x hx => ?_) rfl (fun z => by cases z), fun H2 G2 e2' s2 R2 => ?_⟩
  · obtain ⟨y, hy, rfl⟩ := hide_get hx
    rw [un] at hy
    cases hy
    rfl
  · obtain ⟨R3, hp⟩ := back H2 G2 e2' s2 R2
    exact ⟨R3, un, a, vs, e1, e2, P.heap fun k x p h1 h2 => hp p ⟨k, x, h1, h2⟩⟩
end
section
variable {X : Cx} {ζ : Option ZI} {W : WX} {i n : Nat} {rest a sts : List Stmt} {c e : Expr} {pos : Pos} {m : M}
theorem rh_end {s : S} (h : PSs X sts (tS X.K ζ X.mg W s)) : PSs X sts (tH X.K ζ X.mg W i (hEnd s)) := ⟨fun pins s0 σ H D I q => h.run pins s0 σ H D I (hold_end q)⟩
theorem rh_endS {s : S} (h : PSs X sts (tS X.K ζ X.mg W s)) : PSs X sts (tHS X.K ζ X.mg W i n (hEndS s)) := ⟨fun pins s0 σ H D I q => h.run pins s0 σ H D I (hold_endS q)⟩
theorem rh_spoil {s : List Bool → S} (h : PSs X sts (tHS X.K ζ X.mg W i n s)) : PSs X sts (tH X.K ζ X.mg W i (hSp n s)) := ⟨fun pins s0 σ H D I q => h.run pins s0 σ H D I (hold_spoil q)⟩
theorem rh_start {x : Str} {pos' : Pos} {s : TD → S} (hN : X.N.Nodup) (hi : X.N[i]? = some x) (hx : Loc X.env.scope x) (he : PE X e (tM X.K ζ m)) (hr : PSs X rest (tH X.K ζ X.mg W i s)) (hs : swapsWith e (some (.Name x pos')) pos.line X.env = pure false := by rfl) (hf : X.fn x = true ∨ X.env.scope.names.lookup x = some .local := by first | exact .inl rfl | exact .inr rfl | assumption) :
    PSs X (.Assign [.Name x pos'] e pos :: rest) (tS X.K ζ X.mg W (sHold i m s)) := ⟨fun pins s0 σ H D I q => (pss_cons (ps_set hN hi hx he hs hf) hr).run pins s0 σ H D I (hold_start q)⟩
theorem rh_if {t : T} {u : S} {s : TD → S} {sl : List Nat} (hc : PT X c (tT X.K ζ t)) (ha : PSs X a (tS X.K ζ X.mg W u)) (hr : PSs X rest (tH X.K ζ X.mg W i s)) : PSs X (.If c a [] pos :: rest) (tH X.K ζ X.mg W i (hIf i sl t u s)) :=
  ⟨fun pins s0 σ H D I q => (pss_cons (ps_if hc ha pss_nil) hr).run pins s0 σ H D I (by
    obtain ⟨ds, G, A, L, env, h, q⟩ := q
    obtain ⟨G1, A1, R1, back⟩ := hold_look h sl
    unfold hIf at q
    cases ht : t ((hideE sl env).set i (.val (.tuple (ds.map (·.2))))) with
    | exc x => rw [ht] at q; exact q.elim
    | stuck => rw [ht] at q; exact q.elim
    | ok p =>
      rw [ht] at q
      simp only at q
      refine ⟨G1, A1, _, _, p.1, p.2, R1, ht, fun H' G' s' R' => ?_⟩
      have h2 := back H' G' p.2 s' R'
      cases hp : p.1 with
      | true =>
        rw [hp, if_pos rfl] at q
        show (if true = true then _ else _)
        rw [if_pos rfl]
        refine ⟨G, A, L, env, h2.R, ?_⟩
        generalize u env = r at q ⊢
        cases r with
        | ret r e => exact q
        | _ => exact q.elim
      | false =>
        rw [hp, if_neg Bool.false_ne_true] at q
        show (if false = true then _ else _)
        rw [if_neg Bool.false_ne_true]
        exact ⟨ds, G, A, L, env, h2, q⟩)⟩
def ownL : List V → List Bool → List Addr
  | .ref p :: vs, true :: bs => p :: ownL vs bs
  | _ :: vs, _ :: bs => ownL vs bs
  | _, _ => []
theorem ownL_mem {b : Addr} : ∀ {vs : List V} {bs : List Bool}, b ∈ ownL vs bs ↔ ∃ (j : Nat), bs[j]? = some true ∧ vs[j]? = some (V.ref b)
  | [], bs => by simp [ownL]
  | v :: vs, [] => by simp [ownL]
  | v :: vs, c :: bs => by
    have ih := ownL_mem (b := b) (vs := vs) (bs := bs)
    have sh : (∃ (j : Nat), (c :: bs)[j]? = some true ∧ (v :: vs)[j]? = some (V.ref b)) ↔ (c = true ∧ v = V.ref b) ∨ ∃ (j : Nat), bs[j]? = some true ∧ vs[j]? = some (V.ref b) := by
      constructor
      · rintro ⟨j, h1, h2⟩
        cases j with
        | zero => simp at h1 h2; exact .inl ⟨h1, h2⟩
        | succ j => exact .inr ⟨j, by simpa using h1, by simpa using h2⟩
      · rintro (⟨h1, h2⟩ | ⟨j, h1, h2⟩)
        · exact ⟨0, by simp [h1], by simp [h2]⟩
        · exact ⟨j + 1, by simpa using h1, by simpa using h2⟩
    rw [sh, ← ih]
    cases c with
    | false => cases v <;> simp [ownL]
    | true => cases v with
      | ref p => simp [ownL, eq_comm]
      | _ => simp [ownL]
theorem rh_mut {k : Nat} {s : List Bool → S} {o : Expr} {e1 : Expr} {kp p1 apos cpos : Pos} {j : Nat} (hn : n < 16000000) (ho : PE X o (tVar i)) (he : PE X e1 (tM X.K ζ m)) (hr : PSs X rest (tHS X.K ζ X.mg W i (n + 1) s))
    (hpl : PlainIx (.Constant (.int (k : Nat)) j kp)) (hty : typeOf (.builtin "list.append") = pure (.type "method_descriptor"))
    (hbase : attributeBase (.Subscript o (.Constant (.int (k : Nat)) j kp) p1) "append" X.env (eval (.Subscript o (.Constant (.int (k : Nat)) j kp) p1) X.env) = eval (.Subscript o (.Constant (.int (k : Nat)) j kp) p1) X.env := by rfl)
    (hfew : ((backTo cpos (starEach [e1] X.env)).all (fun x => !x.1) && (backToKw cpos (keywordEach [] X.env)).all (fun x => x.1.isSome)
      && decide ([e1].length + ([] : List Keyword).length + (if ([] : List Keyword).isEmpty then 0 else 1) < 30)) = true := by rfl)
    (hline : (apos.endLine == cpos.line) = true := by rfl)
    (hs : starEach [e1] X.env = (false, eval e1 X.env) :: starEach [] X.env := by rfl) (hs2 : starEach [e1] X.env = [(false, eval e1 X.env)] := by rfl) (hplain : (backTo cpos (starEach [] X.env)).any (·.1) = false := by rfl)
    (hsw : swapsWith (.Call (.Attribute (.Subscript o (.Constant (.int (k : Nat)) j kp) p1) "append" apos) [e1] [] cpos) none pos.line X.env = pure false := by rfl) :
    PSs X (.Expr (.Call (.Attribute (.Subscript o (.Constant (.int (k : Nat)) j kp) p1) "append" apos) [e1] [] cpos) pos :: rest) (tHS X.K ζ X.mg W i n (hMut i k m s)) :=
  ⟨fun pins s0 σ H D I q => (pss_cons (ps_expr (pe_bm PySem.F.plainAttrs_list PySem.F.slot_list_append hty (mt_append) (pe_ix ix_seq ho pe_int hpl) (pa_cons (r_frz he) pa_nil hs) hbase hfew hline hs hplain) hsw) hr).run pins s0 σ H D I (by
    obtain ⟨bs, G, A, L, env, ⟨R, un, a, vs, e2, e3, P⟩, q⟩ := q
    unfold hMut at q
    split at q
    · rename_i hb
      cases hm : frz m env with
      | exc x => rw [hm] at q; exact q.elim
      | stuck => rw [hm] at q; exact q.elim
      | ok p =>
        rw [hm] at q
        simp only [ofRes] at q
        split at q
        · rename_i hu
          obtain ⟨p0, us, f1, f2, f3, f4⟩ := P k hb
          let own : Addr → Prop := fun b => ∃ (j : Nat), bs[j]? = some true ∧ vs[j]? = some (V.ref b)
          have hown : ∀ b, own b → Lone G A L σ env b ∧ ∃ us, H b = some (.lst us) := fun b ⟨j, h1, h2⟩ => by
            obtain ⟨p1, us1, g1, g2, g3, g4⟩ := P j h1
            rw [h2] at g1
            cases g1
            exact ⟨g4, us1, g2⟩
          have hps : ∀ b, b ∈ ownL vs bs ↔ own b := fun b => ownL_mem
          obtain ⟨A', hA, R', back⟩ := protectL (ownL vs bs) R (fun b hb => hown b ((hps b).mp hb))
          refine ⟨.ref a, e2, .inr (.inl ⟨a, vs, (k : Nat), .ref p0, rfl, rfl, .of (R.gh _ _ e3), atI_nat f1, .inl ⟨rfl, us, .of f2⟩, ⟨G, A', L, env, p.1, p.2, R', hm, fun v H' G' s' R2 hv => ?_⟩⟩)⟩
          obtain ⟨R3, keep⟩ := back G' H' p.2 s' R2
          have k0 := keep p0 ((hps p0).mpr ⟨k, hb, f1⟩)
          refine ⟨p0, us, v, rfl, rfl, by rw [k0.1]; exact f2, Nat.lt_of_lt_of_le (Nat.lt_of_le_of_lt f3 hn) (by rw [← sl_eq]; decide), bs, G', A, L, p.2, ⟨mutLone R3 k0.2, hu, a, vs, e2, s' _ _ e3, fun k' hk' => ?_⟩, q.of s'⟩
          obtain ⟨p1, us1, g1, g2, g3, g4⟩ := P k' hk'
          have k1 := keep p1 ((hps p1).mpr ⟨k', hk', g1⟩)
          by_cases hpp : p1 = p0
          · subst hpp
            rw [f2] at g2
            cases g2
            exact ⟨p1, us ++ [v], g1, upd_same, by rw [List.length_append]; simp; omega, k1.2⟩
          · exact ⟨p1, us1, g1, by rw [upd_ne hpp, k1.1]; exact g2, by omega, k1.2⟩
        · exact q.elim
    · exact q.elim)⟩
end
end SE

namespace SE
open PySem L2 RZ
/-! ### such a tuple, its lists appended to and stored into: how long they are at least, and at most -/
structure HoldL (K : PySem.W.Frag) (ζ : Option ZI) (G A : Hp) (L : Nat → Option Addr) (H : Hp) (σ : St) (env : Env) (i n : Nat) (bs : List (Option Nat)) : Prop where
  R : REnv K ζ G A L H σ env
  un : env[i]? = some .un
  ex : ∃ (a : Addr) (vs : List V), σ[i]? = some (some (V.ref a)) ∧ G a = some (.tup vs) ∧ ∀ (k l : Nat), bs[k]? = some (some l) → ∃ (p : Addr) (us : List V), vs[k]? = some (V.ref p) ∧ H p = some (.lst us) ∧ l ≤ us.length ∧ us.length ≤ n ∧ Lone G A L σ env p
def tHL (K : PySem.W.Frag) (ζ : Option ZI) (mg : Str → Option Value) (W : WX) (i n : Nat) (s : List (Option Nat) → S) : TS := fun D σ H => ∃ bs G A L env, HoldL K ζ G A L H σ env i n bs ∧ SWant K ζ mg W G A L D (s bs env)
def lenD : Bool × D → Option Nat
  | (true, .list xs) => some xs.length
  | _ => none
def hLen (n : Nat) (s : List (Option Nat) → S) : TD → S := fun ds env => if ds.all (shortD n) = true then s (ds.map lenD) env else .stuck
def hApp (i k : Nat) (m : M) (s : List (Option Nat) → S) : List (Option Nat) → S := fun bs env => match bs[k]? with
  | some (some _) => ofRes (frz m env) fun p => match p.2[i]? with
    | some .un => s bs p.2
    | _ => .stuck
  | _ => .stuck
def hPut (i k j : Nat) (m : M) (s : List (Option Nat) → S) : List (Option Nat) → S := fun bs env => match bs[k]? with
  | some (some l) => if j < l then ofRes (frz m env) fun p => match p.2[i]? with
    | some .un => s bs p.2
    | _ => .stuck
    else .stuck
  | _ => .stuck
def hEndL (s : S) : List (Option Nat) → S := fun _ env => s env
def ownN : List V → List (Option Nat) → List Addr
  | .ref p :: vs, some _ :: bs => p :: ownN vs bs
  | _ :: vs, _ :: bs => ownN vs bs
  | _, _ => []
theorem ownN_mem {b : Addr} : ∀ {vs : List V} {bs : List (Option Nat)}, b ∈ ownN vs bs ↔ ∃ (j l : Nat), bs[j]? = some (some l) ∧ vs[j]? = some (V.ref b)
  | [], bs => by simp [ownN]
  | v :: vs, [] => by simp [ownN]
  | v :: vs, c :: bs => by
    have ih := ownN_mem (b := b) (vs := vs) (bs := bs)
    have sh : (∃ (j l : Nat), (c :: bs)[j]? = some (some l) ∧ (v :: vs)[j]? = some (V.ref b)) ↔ ((∃ l, c = some l) ∧ v = V.ref b) ∨ ∃ (j l : Nat), bs[j]? = some (some l) ∧ vs[j]? = some (V.ref b) := by
      constructor
      · rintro ⟨j, l, h1, h2⟩
        cases j with
        | zero => simp at h1 h2; exact .inl ⟨⟨l, h1⟩, h2⟩
        | succ j => exact .inr ⟨j, l, by simpa using h1, by simpa using h2⟩
      · rintro (⟨⟨l, h1⟩, h2⟩ | ⟨j, l, h1, h2⟩)
        · exact ⟨0, l, by simp [h1], by simp [h2]⟩
        · exact ⟨j + 1, l, by simpa using h1, by simpa using h2⟩
    rw [sh, ← ih]
    cases c with
    | none => cases v <;> simp [ownN]
    | some l => cases v with
      | ref p => simp [ownN, eq_comm]
      | _ => simp [ownN]
section
variable {K : PySem.W.Frag} {ζ : Option ZI} {mg : Str → Option Value} {W : WX} {G A : Hp} {L : Nat → Option Addr} {H : Hp} {σ : St} {env : Env} {D : Ends} {i n : Nat}
theorem hold_len {s : List (Option Nat) → S} (h : tH K ζ mg W i (hLen n s) D σ H) : tHL K ζ mg W i n s D σ H := by
  obtain ⟨ds, G, A, L, env, ⟨R, un, a, vs, e1, e2, P⟩, q⟩ := h
  unfold hLen at q
  split at q
  · rename_i hall
    refine ⟨ds.map lenD, G, A, L, env, ⟨R, un, a, vs, e1, e2, fun k l hk => ?_⟩, q⟩
    rw [List.getElem?_map] at hk
    cases hd : ds[k]? with
    | none => rw [hd] at hk; cases hk
    | some x =>
      obtain ⟨b, d⟩ := x
      rw [hd] at hk
      cases b with
      | false => cases hk
      | true =>
        obtain ⟨p, us, xs, rfl, f1, f2, f3, f4⟩ := P.own_at hd
        cases hk
        have hx := List.all_eq_true.mp hall _ (List.mem_of_getElem? hd)
        exact ⟨p, us, f1, f2, by rw [f4.length]; exact Nat.le_refl _, by rw [f4.length]; exact Nat.le_of_ble_eq_true hx, f3⟩
  · exact q.elim
theorem hold_endL {s : S} (h : tHL K ζ mg W i n (hEndL s) D σ H) : tS K ζ mg W s D σ H := by
  obtain ⟨ds, G, A, L, env, h, q⟩ := h
  exact ⟨G, A, L, env, h.R, q⟩
end
section
variable {X : Cx} {ζ : Option ZI} {W : WX} {i n : Nat} {rest sts : List Stmt} {pos : Pos} {m : M}
theorem rl_end {s : S} (h : PSs X sts (tS X.K ζ X.mg W s)) : PSs X sts (tHL X.K ζ X.mg W i n (hEndL s)) := ⟨fun pins s0 σ H D I q => h.run pins s0 σ H D I (hold_endL q)⟩
theorem rl_len {s : List (Option Nat) → S} (h : PSs X sts (tHL X.K ζ X.mg W i n s)) : PSs X sts (tH X.K ζ X.mg W i (hLen n s)) := ⟨fun pins s0 σ H D I q => h.run pins s0 σ H D I (hold_len q)⟩
theorem rl_app {k : Nat} {s : List (Option Nat) → S} {o : Expr} {e1 : Expr} {kp p1 apos cpos : Pos} {j : Nat} (hn : n < 16000000) (ho : PE X o (tVar i)) (he : PE X e1 (tM X.K ζ m)) (hr : PSs X rest (tHL X.K ζ X.mg W i (n + 1) s))
    (hpl : PlainIx (.Constant (.int (k : Nat)) j kp)) (hty : typeOf (.builtin "list.append") = pure (.type "method_descriptor"))
    (hbase : attributeBase (.Subscript o (.Constant (.int (k : Nat)) j kp) p1) "append" X.env (eval (.Subscript o (.Constant (.int (k : Nat)) j kp) p1) X.env) = eval (.Subscript o (.Constant (.int (k : Nat)) j kp) p1) X.env := by rfl)
    (hfew : ((backTo cpos (starEach [e1] X.env)).all (fun x => !x.1) && (backToKw cpos (keywordEach [] X.env)).all (fun x => x.1.isSome)
      && decide ([e1].length + ([] : List Keyword).length + (if ([] : List Keyword).isEmpty then 0 else 1) < 30)) = true := by rfl)
    (hline : (apos.endLine == cpos.line) = true := by rfl)
    (hs : starEach [e1] X.env = (false, eval e1 X.env) :: starEach [] X.env := by rfl) (hs2 : starEach [e1] X.env = [(false, eval e1 X.env)] := by rfl) (hplain : (backTo cpos (starEach [] X.env)).any (·.1) = false := by rfl)
    (hsw : swapsWith (.Call (.Attribute (.Subscript o (.Constant (.int (k : Nat)) j kp) p1) "append" apos) [e1] [] cpos) none pos.line X.env = pure false := by rfl) :
    PSs X (.Expr (.Call (.Attribute (.Subscript o (.Constant (.int (k : Nat)) j kp) p1) "append" apos) [e1] [] cpos) pos :: rest) (tHL X.K ζ X.mg W i n (hApp i k m s)) :=
  ⟨fun pins s0 σ H D I q => (pss_cons (ps_expr (pe_bm PySem.F.plainAttrs_list PySem.F.slot_list_append hty (mt_append) (pe_ix ix_seq ho pe_int hpl) (pa_cons (r_frz he) pa_nil hs) hbase hfew hline hs hplain) hsw) hr).run pins s0 σ H D I (by
    obtain ⟨bs, G, A, L, env, ⟨R, un, a, vs, e2, e3, P⟩, q⟩ := q
    unfold hApp at q
    split at q
    · rename_i l0 hb
      cases hm : frz m env with
      | exc x => rw [hm] at q; exact q.elim
      | stuck => rw [hm] at q; exact q.elim
      | ok p =>
        rw [hm] at q
        simp only [ofRes] at q
        split at q
        · rename_i hu
          obtain ⟨p0, us, f1, f2, f0, f3, f4⟩ := P k _ hb
          let own : Addr → Prop := fun b => ∃ (j l : Nat), bs[j]? = some (some l) ∧ vs[j]? = some (V.ref b)
          have hown : ∀ b, own b → Lone G A L σ env b ∧ ∃ us, H b = some (.lst us) := fun b ⟨j, l, h1, h2⟩ => by
            obtain ⟨p1, us1, g1, g2, g0, g3, g4⟩ := P j l h1
            rw [h2] at g1
            cases g1
            exact ⟨g4, us1, g2⟩
          have hps : ∀ b, b ∈ ownN vs bs ↔ own b := fun b => ownN_mem
          obtain ⟨A', hA, R', back⟩ := protectL (ownN vs bs) R (fun b hb => hown b ((hps b).mp hb))
          refine ⟨.ref a, e2, .inr (.inl ⟨a, vs, (k : Nat), .ref p0, rfl, rfl, .of (R.gh _ _ e3), atI_nat f1, .inl ⟨rfl, us, .of f2⟩, ⟨G, A', L, env, p.1, p.2, R', hm, fun v H' G' s' R2 hv => ?_⟩⟩)⟩
          obtain ⟨R3, keep⟩ := back G' H' p.2 s' R2
          have k0 := keep p0 ((hps p0).mpr ⟨k, _, hb, f1⟩)
          refine ⟨p0, us, v, rfl, rfl, by rw [k0.1]; exact f2, Nat.lt_of_lt_of_le (Nat.lt_of_le_of_lt f3 hn) (by rw [← sl_eq]; decide), bs, G', A, L, p.2, ⟨mutLone R3 k0.2, hu, a, vs, e2, s' _ _ e3, fun k' l' hk' => ?_⟩, q.of s'⟩
          obtain ⟨p1, us1, g1, g2, g0, g3, g4⟩ := P k' l' hk'
          have k1 := keep p1 ((hps p1).mpr ⟨k', _, hk', g1⟩)
          by_cases hpp : p1 = p0
          · subst hpp
            rw [f2] at g2
            cases g2
            exact ⟨p1, us ++ [v], g1, upd_same, by rw [List.length_append]; omega, by rw [List.length_append]; simp; omega, k1.2⟩
          · exact ⟨p1, us1, g1, by rw [upd_ne hpp, k1.1]; exact g2, g0, by omega, k1.2⟩
        · exact q.elim
    · exact q.elim)⟩
theorem rl_put {k j : Nat} {s : List (Option Nat) → S} {o e : Expr} {kp p1 jp p2 : Pos} {kn jn : Nat} (ho : PE X o (tVar i)) (he : PE X e (tM X.K ζ m)) (hr : PSs X rest (tHL X.K ζ X.mg W i n s))
    (hpl : PlainIx (.Constant (.int (k : Nat)) kn kp))
    (ha : ∀ v, assign (.Subscript (.Subscript o (.Constant (.int (k : Nat)) kn kp) p1) (.Constant (.int (j : Nat)) jn jp) p2) X.env v = (do
      let ov ← holding [v] (eval (.Subscript o (.Constant (.int (k : Nat)) kn kp) p1) X.env)
      let iv ← holding [v, ov] (eval (.Constant (.int (j : Nat)) jn jp) X.env)
      standAt p2
      holding [v, ov, iv] (setItem ov iv v)
      release [v, ov, iv] []) := by intro _; rfl) (hs : swapsWithSole [.Subscript (.Subscript o (.Constant (.int (k : Nat)) kn kp) p1) (.Constant (.int (j : Nat)) jn jp) p2] e pos.line X.env = pure false := by rfl) (hw : swappedStores [.Subscript (.Subscript o (.Constant (.int (k : Nat)) kn kp) p1) (.Constant (.int (j : Nat)) jn jp) p2] e X.env = pure none := by rfl)
    (h1 : (assignEach [.Subscript (.Subscript o (.Constant (.int (k : Nat)) kn kp) p1) (.Constant (.int (j : Nat)) jn jp) p2] X.env).map (·.2) = [assign (.Subscript (.Subscript o (.Constant (.int (k : Nat)) kn kp) p1) (.Constant (.int (j : Nat)) jn jp) p2) X.env] := by rfl) :
    PSs X (.Assign [.Subscript (.Subscript o (.Constant (.int (k : Nat)) kn kp) p1) (.Constant (.int (j : Nat)) jn jp) p2] e pos :: rest) (tHL X.K ζ X.mg W i n (hPut i k j m s)) :=
  ⟨fun pins s0 σ H D I q => (pss_cons (ps_asg (r_frz he) (pg_sub (pe_ix ix_seq ho pe_int hpl) pe_int set_list ha) hs hw h1) hr).run pins s0 σ H D I (by
    obtain ⟨bs, G, A, L, env, ⟨R, un, a, vs, e2, e3, P⟩, q⟩ := q
    unfold hPut at q
    split at q
    · rename_i l0 hb
      split at q
      · rename_i hj
        cases hm : frz m env with
        | exc x => rw [hm] at q; exact q.elim
        | stuck => rw [hm] at q; exact q.elim
        | ok p =>
          rw [hm] at q
          simp only [ofRes] at q
          split at q
          · rename_i hu
            obtain ⟨p0, us, f1, f2, f0, f3, f4⟩ := P k _ hb
            let own : Addr → Prop := fun b => ∃ (j l : Nat), bs[j]? = some (some l) ∧ vs[j]? = some (V.ref b)
            have hown : ∀ b, own b → Lone G A L σ env b ∧ ∃ us, H b = some (.lst us) := fun b ⟨j, l, h1, h2⟩ => by
              obtain ⟨p1, us1, g1, g2, g0, g3, g4⟩ := P j l h1
              rw [h2] at g1
              cases g1
              exact ⟨g4, us1, g2⟩
            have hps : ∀ b, b ∈ ownN vs bs ↔ own b := fun b => ownN_mem
            obtain ⟨A', hA, R', back⟩ := protectL (ownN vs bs) R (fun b hb => hown b ((hps b).mp hb))
            refine ⟨G, A', L, env, p.1, p.2, R', hm, fun v H' G' s' R2 hv => ?_⟩
            obtain ⟨R3, keep⟩ := back G' H' p.2 s' R2
            have k0 := keep p0 ((hps p0).mpr ⟨k, _, hb, f1⟩)
            refine ⟨.ref a, e2, .inr (.inl ⟨a, vs, (k : Nat), .ref p0, rfl, rfl, .of (R2.gh _ _ (s' _ _ e3)), atI_nat f1, ⟨p0, us, (j : Nat), j, rfl, rfl, by rw [k0.1]; exact f2, by (unfold ixN; rw [if_pos (by omega), if_pos (by omega)]; simp), bs, G', A, L, p.2, ⟨mutLone R3 k0.2, hu, a, vs, e2, s' _ _ e3, fun k' l' hk' => ?_⟩, q.of s'⟩⟩)⟩
            obtain ⟨p1, us1, g1, g2, g0, g3, g4⟩ := P k' l' hk'
            have k1 := keep p1 ((hps p1).mpr ⟨k', _, hk', g1⟩)
            by_cases hpp : p1 = p0
            · subst hpp
              rw [f2] at g2
              cases g2
              exact ⟨p1, us.set j v, g1, upd_same, by rw [List.length_set]; exact g0, by rw [List.length_set]; exact g3, k1.2⟩
            · exact ⟨p1, us1, g1, by rw [upd_ne hpp, k1.1]; exact g2, g0, g3, k1.2⟩
          · exact q.elim
      · exact q.elim
    · exact q.elim)⟩
end
end SE

namespace SE
open PySem L2 RZ
/-! ### a name holds a list of lists of its own, is looked at, something is appended to each of them, and it is left alone -/
structure HoldQ (K : PySem.W.Frag) (ζ : Option ZI) (G A : Hp) (L : Nat → Option Addr) (H : Hp) (σ : St) (env : Env) (i : Nat) (ds : TD) : Prop where
  R : REnv K ζ G A L H σ env
  un : env[i]? = some .un
  ex : ∃ (a : Addr) (vs : List V), σ[i]? = some (some (V.ref a)) ∧ G a = some (.lst vs) ∧ Parts K G A L H σ env vs ds
def tHQ (K : PySem.W.Frag) (ζ : Option ZI) (mg : Str → Option Value) (W : WX) (i : Nat) (s : TD → S) : TS := fun D σ H => ∃ ds G A L env, HoldQ K ζ G A L H σ env i ds ∧ SWant K ζ mg W G A L D (s ds env)
def sHoldQ (i : Nat) (os : List Opd) (s : TD → S) : S := fun env => ofRes (mTpl os env) fun p => match p.1 with
  | .tpl ds => if (p.2.getD i .un).pinned = true ∨ ¬ i < p.2.length then .stuck else s ds (p.2.set i .un)
  | _ => .stuck
def hIfQ (i : Nat) (sl : List Nat) (t : T) (u : S) (s : TD → S) : TD → S := fun ds env => match t ((hideE sl env).set i (.val (.list (ds.map (·.2))))) with
  | .ok p => if p.1 = true then retO (u env) else s ds env
  | _ => .stuck
def hForA (i j n : Nat) (s : S) : TD → S := fun ds env => if (ds.all (fun q => q.1 && shortD n q) && Nat.ble n 1000000 && Nat.ble ds.length 1000000 && decide (i ≠ j) && !(env.getD j .un).pinned && decide (j < env.length)) = true then s (env.set j .un) else .stuck
def tLD (K : PySem.W.Frag) (ζ : Option ZI) (os : List Opd) : TE := fun σ H Q => ∃ G A L env ds env', REnv K ζ G A L H σ env ∧ mTpl os env = .ok (.tpl ds, env') ∧
  ∀ (a : Addr) (vs : List V) (H' G' : Hp), Same G G' → REnv K ζ G' A L H' σ env' → G' a = some (.lst vs) → Parts K G' A L H' σ env' vs ds → Q (.ref a) H'
theorem r_ld {X : Cx} {ζ : Option ZI} {es : List Expr} {os : List Opd} {pos : Pos} (h : PA X es (tAll X.K ζ os)) (hl : os.length ≤ 1000) : PE X (.List es pos) (tLD X.K ζ os) := pew (pe_lst h) fun σ H Q q => by
  obtain ⟨G, A, L, env, ds, env', R, e, q⟩ := q
  obtain ⟨⟨rs, e1⟩, h1, h⟩ := bind_eq_ok e
  obtain ⟨⟨ds2, e2⟩, h2, h⟩ := bind_eq_ok h
  cases h
  refine pass_all os R h1 fun vs H' G' s R' ops => ⟨by rw [rops_len ops]; exact le_line hl, fun p hp => ?_⟩
  obtain ⟨R2, P, _⟩ := tplG_ok os R' (ops_w ops) h2
  have gp : G' p = none := R'.gh.free hp
  exact q p vs _ (upd G' p (.lst vs)) (s.trans (lay_same gp _)) (R2.lay hp _) upd_same (P.lay hp gp)
section
variable {K : PySem.W.Frag} {ζ : Option ZI} {mg : Str → Option Value} {W : WX} {G A : Hp} {L : Nat → Option Addr} {H : Hp} {σ : St} {env : Env} {D : Ends} {i n : Nat}
theorem hold_startQ {os : List Opd} {s : TD → S} (h : tS K ζ mg W (sHoldQ i os s) D σ H) : tLD K ζ os σ H fun v H1 => tHQ K ζ mg W i s D (σ.set i (some v)) H1 := by
  obtain ⟨G, A, L, env, R, q⟩ := h
  unfold sHoldQ at q
  cases h : mTpl os env with
  | exc e => rw [h] at q; exact q.elim
  | stuck => rw [h] at q; exact q.elim
  | ok p =>
    rw [h] at q
    obtain ⟨r, e1⟩ := p
    simp only [ofRes] at q
    match r, h, q with
    | .tpl ds, h, q =>
      simp only at q
      split at q
      · exact q.elim
      · rename_i hc
        have hp : ¬ (e1.getD i .un).pinned = true := fun z => hc (.inl z)
        have hi : i < e1.length := Decidable.byContradiction fun z => hc (.inr z)
        refine ⟨G, A, L, env, ds, e1, R, h, fun a vs H' G' s' R' ha P => ?_⟩
        have hp' : ∀ x, e1[i]? = some x → x.pinned = false := fun x e => by
          rw [List.getD_eq_getElem?_getD, e] at hp
          simpa using hp
        have R2 : REnv K ζ G' A L H' (σ.set i (some (.ref a))) (e1.set i .un) := set_slot R' trivial hp' rfl (fun z => by cases z)
        have hs : i < σ.length := by rw [← R'.len]; exact hi
        exact ⟨ds, G', A, L, _, ⟨R2, by rw [List.getElem?_set_self hi], a, vs, by rw [List.getElem?_set_self hs], ha, P.mapL fun p _ _ hl => hl.set_un hi⟩, q.of s'⟩
theorem hold_lookQ {ds : TD} (h : HoldQ K ζ G A L H σ env i ds) (sl : List Nat) : ∃ G1 A1, REnv K ζ G1 A1 (fun _ => none) H σ ((hideE sl env).set i (.val (.list (ds.map (·.2))))) ∧
    ∀ H2 G2 e2, Same G1 G2 → REnv K ζ G2 A1 (fun _ => none) H2 σ e2 → HoldQ K ζ G A L H2 σ env i ds := by
  obtain ⟨R, un, a, vs, e1, e2, P⟩ := h
  obtain ⟨G1, A1, GG1, R1, g1, back⟩ := scope_core R sl (fun p => ∃ (k : Nat) (x : D), ds[k]? = some (true, x) ∧ vs[k]? = some (V.ref p)) (fun p ⟨k, x, h1, h2⟩ => by
    obtain ⟨p', us, xs, rfl, f1, f2, f3, f4⟩ := P.own_at h1
    rw [h2] at f1
    cases f1
    exact ⟨f3, us, f2⟩)
  refine ⟨G1, A1, set_env R1 (w := some (V.ref a)) e1 ⟨V.ref a, rfl, Rp.lst (GG1 _ _ e2) (P.all GG1 fun k x p h1 h2 => g1 p ⟨k, x, h1, h2⟩)⟩ (fun x hx => ?_) rfl (fun z => by cases z), fun H2 G2 e2' s2 R2 => ?_⟩
  · obtain ⟨y, hy, rfl⟩ := hide_get hx
    rw [un] at hy
    cases hy
    rfl
  · obtain ⟨R3, hp⟩ := back H2 G2 e2' s2 R2
    exact ⟨R3, un, a, vs, e1, e2, P.heap fun k x p h1 h2 => hp p ⟨k, x, h1, h2⟩⟩
theorem parts_all : ∀ {vs : List V} {ds : TD}, Parts K G A L H σ env vs ds → ds.all (fun q => q.1 && shortD n q) = true → ∀ v, v ∈ vs → ∃ (p : Addr) (us : List V), v = .ref p ∧ H p = some (.lst us) ∧ us.length ≤ n ∧ Lone G A L σ env p
  | _, _, .nil, _ => fun v hv => by cases hv
  | _, _, .val _ _, h => by
    rw [List.all_cons, Bool.and_eq_true] at h
    exact absurd (show false = true from h.1) (by decide)
  | _, _, .own (p := p) (us := us) h1 h2 h3 t, h => by
    rw [List.all_cons, Bool.and_eq_true] at h
    intro v hv
    rcases List.mem_cons.mp hv with rfl | hv
    · refine ⟨p, us, rfl, h1, ?_, h2⟩
      have hx : Nat.ble _ n = true := h.1
      rw [h3.length]
      exact Nat.le_of_ble_eq_true hx
    · exact parts_all t h.2 v hv
end
section
variable {X : Cx} {ζ : Option ZI} {W : WX} {i j n : Nat} {rest a sts : List Stmt} {c e iter tg o e1 : Expr} {pos epos apos cpos : Pos} {m : M} {w : V}
theorem rh_startQ {os : List Opd} {x : Str} {pos' : Pos} {s : TD → S} (hN : X.N.Nodup) (hi : X.N[i]? = some x) (hx : Loc X.env.scope x) (he : PE X e (tLD X.K ζ os)) (hr : PSs X rest (tHQ X.K ζ X.mg W i s)) (hs : swapsWith e (some (.Name x pos')) pos.line X.env = pure false := by rfl) (hf : X.fn x = true ∨ X.env.scope.names.lookup x = some .local := by first | exact .inl rfl | exact .inr rfl | assumption) :
    PSs X (.Assign [.Name x pos'] e pos :: rest) (tS X.K ζ X.mg W (sHoldQ i os s)) := ⟨fun pins s0 σ H D I q => (pss_cons (ps_set hN hi hx he hs hf) hr).run pins s0 σ H D I (hold_startQ q)⟩
theorem rh_ifQ {t : T} {u : S} {s : TD → S} {sl : List Nat} (hc : PT X c (tT X.K ζ t)) (ha : PSs X a (tS X.K ζ X.mg W u)) (hr : PSs X rest (tHQ X.K ζ X.mg W i s)) : PSs X (.If c a [] pos :: rest) (tHQ X.K ζ X.mg W i (hIfQ i sl t u s)) :=
  ⟨fun pins s0 σ H D I q => (pss_cons (ps_if hc ha pss_nil) hr).run pins s0 σ H D I (by
    obtain ⟨ds, G, A, L, env, h, q⟩ := q
    obtain ⟨G1, A1, R1, back⟩ := hold_lookQ h sl
    unfold hIfQ at q
    cases ht : t ((hideE sl env).set i (.val (.list (ds.map (·.2))))) with
    | exc x => rw [ht] at q; exact q.elim
    | stuck => rw [ht] at q; exact q.elim
    | ok p =>
      rw [ht] at q
      simp only at q
      refine ⟨G1, A1, _, _, p.1, p.2, R1, ht, fun H' G' s' R' => ?_⟩
      have h2 := back H' G' p.2 s' R'
      cases hp : p.1 with
      | true =>
        rw [hp, if_pos rfl] at q
        show (if true = true then _ else _)
        rw [if_pos rfl]
        refine ⟨G, A, L, env, h2.R, ?_⟩
        generalize u env = r at q ⊢
        cases r with
        | ret r e => exact q
        | _ => exact q.elim
      | false =>
        rw [hp, if_neg Bool.false_ne_true] at q
        show (if false = true then _ else _)
        rw [if_neg Bool.false_ne_true]
        exact ⟨ds, G, A, L, env, h2, q⟩)⟩
theorem rh_forA {s : S} (hp : PassesOwn (model X.prog X.w) X.A X.env X.xe) (hc : X.calm = true) (ho : PE X iter (tVar i)) (hg : PG X tg (gName j)) (hv : PE X o (tVar j)) (he : PE X e1 (tC w)) (hr : PSs X rest (tS X.K ζ X.mg W s))
    (hty : typeOf (.builtin "list.append") = pure (.type "method_descriptor"))
    (hbase : attributeBase o "append" X.env (eval o X.env) = eval o X.env := by rfl)
    (hfew : ((backTo cpos (starEach [e1] X.env)).all (fun x => !x.1) && (backToKw cpos (keywordEach [] X.env)).all (fun x => x.1.isSome)
      && decide ([e1].length + ([] : List Keyword).length + (if ([] : List Keyword).isEmpty then 0 else 1) < 30)) = true := by rfl)
    (hline : (apos.endLine == cpos.line) = true := by rfl)
    (hs : starEach [e1] X.env = (false, eval e1 X.env) :: starEach [] X.env := by rfl) (hplain : (backTo cpos (starEach [] X.env)).any (·.1) = false := by rfl)
    (hsw : swapsWith (.Call (.Attribute o "append" apos) [e1] [] cpos) none epos.line X.env = pure false := by rfl)
    (hf : ∀ x, foldedSetIterable iter X.env x = pure x := by intro _; rfl) :
    PSs X (.For tg iter [.Expr (.Call (.Attribute o "append" apos) [e1] [] cpos) epos] [] pos :: rest) (tHQ X.K ζ X.mg W i (hForA i j n s)) :=
  ⟨fun pins s0 σ H D I q => (pss_cons (ps_for hp hc (pi_list ho) hg (pss_one (ps_expr (pe_bm PySem.F.plainAttrs_list PySem.F.slot_list_append hty (mt_append) hv (pa_cons he pa_nil hs) hbase hfew hline hs hplain) hsw)) hf) hr).run pins s0 σ H D I (by
    obtain ⟨ds, G, A, L, env, ⟨R, un, a, vs, e1, e2, P⟩, q⟩ := q
    unfold hForA at q
    split at q
    · rename_i hcnd
      simp only [Bool.and_eq_true, decide_eq_true_eq, Bool.not_eq_true'] at hcnd
      obtain ⟨⟨⟨⟨⟨c1, c2⟩, c3⟩, c4⟩, c5⟩, c6⟩ := hcnd
      have c2 := Nat.le_of_ble_eq_true c2
      have c3 := Nat.le_of_ble_eq_true c3
      rw [← P.len] at c3
      have P0 := parts_all P c1
      have hjs : j < σ.length := by rw [← R.len]; exact c6
      obtain ⟨u, hu⟩ : ∃ u, σ[j]? = some u := ⟨σ[j], List.getElem?_eq_getElem hjs⟩
      have hpj : ∀ x, env[j]? = some x → x.pinned = false := fun x e => by
        rw [List.getD_eq_getElem?_getD, e] at c5
        simpa using c5
      have R0 : REnv X.K ζ G A L H σ (env.set j .un) := set_env R hu trivial hpj rfl (fun z => by cases z)
      have less : ∀ (k : Nat) (x : O), (env.set j .un)[k]? = some x → x.mine = true → env[k]? = some x := fun k x e m => by
        by_cases hk : k = j
        · subst hk
          rw [List.getElem?_set_self c6] at e
          cases e; cases m
        · rwa [List.getElem?_set_ne (Ne.symm hk)] at e
      have hgh := R.gh _ _ e2
      refine ⟨.ref a, e1, a, rfl, ⟨vs, .of hgh⟩, fun k m σ' H' => m = vs.length - k ∧ k ≤ vs.length ∧ ∃ G2, Same G G2 ∧ REnv X.K ζ G2 A L H' σ' (env.set j .un) ∧
        (∀ v, v ∈ vs → ∃ (p : Addr) (us : List V), v = .ref p ∧ H' p = some (.lst us) ∧ us.length ≤ n + k ∧ Lone G2 A L σ' (env.set j .un) p), ⟨_, rfl, Nat.zero_le _, G, same_refl G, R0, fun v hv => ?_⟩, ?_⟩
      · obtain ⟨p, us, h1, h2, h3, h4⟩ := P0 v hv
        exact ⟨p, us, h1, h2, h3, h4.less less⟩
      rintro k m σ' H' ⟨rfl, hk, G2, s2, R2, P2⟩
      have sq : SqL X.K H' a vs := .of (R2.gh _ _ (s2 _ _ e2))
      by_cases hlt : k < vs.length
      · refine .inr ⟨⟨vs, vs[k], sq, List.getElem?_eq_getElem hlt⟩, fun σ' H' => k + 1 ≤ vs.length ∧ ∃ G2, Same G G2 ∧ REnv X.K ζ G2 A L H' σ' (env.set j .un) ∧
          (∀ v, v ∈ vs → ∃ (p : Addr) (us : List V), v = .ref p ∧ H' p = some (.lst us) ∧ us.length ≤ n + (k + 1) ∧ Lone G2 A L σ' (env.set j .un) p), fun σ' H' z => ⟨vs.length - (k + 1), by omega, rfl, z⟩, fun x H'' y => ?_⟩
        obtain ⟨rfl, y⟩ := y
        have hx := y vs sq
        rw [List.getElem?_eq_getElem hlt] at hx
        have hx := Option.some.inj hx
        subst hx
        obtain ⟨p, us, h1, h2, h3, h4⟩ := P2 vs[k] (List.getElem_mem hlt)
        have hjl : j < (env.set j .un).length := by rw [List.length_set]; exact c6
        have R3 : REnv X.K ζ G2 A L H'' (σ'.set j (some vs[k])) ((env.set j .un).set j .un) := set_slot R2 trivial (fun x e => by rw [List.getElem?_set_self c6] at e; cases e; rfl) rfl (fun z => by cases z)
        have ee : (env.set j .un).set j .un = env.set j .un := by rw [List.set_set]
        rw [ee] at R3
        have L3 : ∀ {b : Addr}, Lone G2 A L σ' (env.set j .un) b → Lone G2 A L (σ'.set j (some vs[k])) (env.set j .un) b := fun {b} hb => by
          have := hb.set_un (v := vs[k]) hjl
          rw [ee] at this
          exact this
        have hjs' : j < σ'.length := by rw [← R2.len]; exact hjl
        refine ⟨vs[k], by rw [List.getElem?_set_self hjs'], ?_⟩
        rw [h1]
        refine ⟨.inl ⟨rfl, us, .of h2⟩, p, us, w, rfl, rfl, h2, Nat.lt_of_lt_of_le (show us.length < 16777216 by omega) (by rw [← sl_eq]; decide), hlt, G2, s2, ?_, fun v hv => ?_⟩
        · rw [h1] at R3 L3
          exact mutLone R3 (L3 h4)
        · obtain ⟨p1, us1, g1, g2, g3, g4⟩ := P2 v hv
          have g5 := L3 g4
          rw [h1] at g5
          by_cases hpp : p1 = p
          · subst hpp
            rw [h2] at g2
            cases g2
            exact ⟨p1, us ++ [w], g1, upd_same, by rw [List.length_append]; simp; omega, g5⟩
          · exact ⟨p1, us1, g1, by rw [upd_ne hpp]; exact g2, by omega, g5⟩
      · have e : k = vs.length := by omega
        refine .inl ⟨⟨vs, sq, by omega⟩, G2, A, L, env.set j .un, R2, q.of s2⟩
    · exact q.elim)⟩
end
/-! ### a part of such a tuple -/
def mPart (m : M) (k : Nat) : M := fun env => (m env).bind fun p => match p.1 with
  | .tpl ds => match ds[k]? with
    | some (true, .list xs) => .ok (.own xs, p.2)
    | some (false, d) => .ok (.val d, p.2)
    | _ => .stuck
  | _ => .stuck
theorem Parts.val_at {K : PySem.W.Frag} {G A : Hp} {L : Nat → Option Addr} {H : Hp} {σ : St} {env : Env} : ∀ {vs : List V} {ds : TD} {k : Nat} {d : D}, Parts K G A L H σ env vs ds → ds[k]? = some (false, d) → ∃ v, vs[k]? = some v ∧ Rp K G v d
  | _, _, _, _, .nil, e => by simp at e
  | _, _, 0, _, .val h _, e => by
    simp at e
    subst e
    exact ⟨_, rfl, h⟩
  | _, _, 0, _, .own _ _ _ _, e => by simp at e
  | _, _, k + 1, _, .val _ t, e => by
    obtain ⟨v, a, b⟩ := Parts.val_at (k := k) t (by simpa using e)
    exact ⟨v, by simpa using a, b⟩
  | _, _, k + 1, _, .own _ _ _ t, e => by
    obtain ⟨v, a, b⟩ := Parts.val_at (k := k) t (by simpa using e)
    exact ⟨v, by simpa using a, b⟩
theorem r_part {X : Cx} {ζ : Option ZI} {o : Expr} {m : M} {k j : Nat} {kp pos : Pos} (h : PE X o (tM X.K ζ m)) (hpl : PlainIx (.Constant (.int (k : Nat)) j kp)) : PE X (.Subscript o (.Constant (.int (k : Nat)) j kp) pos) (tM X.K ζ (mPart m k)) := pew (pe_ix ix_seq h pe_int hpl) fun σ H Q q => by
  obtain ⟨G, A, L, env, r0, env', R, e, q⟩ := q
  obtain ⟨⟨r, e1⟩, h1, h⟩ := bind_eq_ok e
  refine ⟨G, A, L, env, r, e1, R, h1, fun v H' G' s R' hv => ?_⟩
  simp only at h
  split at h
  · obtain ⟨a, vs, rfl, ha, P⟩ := hv
    split at h
    · rename_i xs hd
      cases h
      obtain ⟨p, us, xs', e0, f1, f2, f3, f4⟩ := P.own_at hd
      cases e0
      exact .inr (.inl ⟨a, vs, (k : Nat), .ref p, rfl, rfl, .of (R'.gh _ _ ha), atI_nat f1, q _ H' G' s R' ⟨p, us, rfl, f2, f3.1, f3.2.1, f4, f3.2.2.1, f3.2.2.2⟩⟩)
    · rename_i d hd
      cases h
      obtain ⟨v, f1, f2⟩ := P.val_at hd
      exact .inr (.inl ⟨a, vs, (k : Nat), v, rfl, rfl, .of (R'.gh _ _ ha), atI_nat f1, q _ H' G' s R' f2⟩)
    · cases h
  · cases h
@[simp] theorem e_mPart {m : M} {k : Nat} {env : Env} : mPart m k env = (m env).bind fun p => match p.1 with
  | .tpl ds => match ds[k]? with
    | some (true, .list xs) => .ok (.own xs, p.2)
    | some (false, d) => .ok (.val d, p.2)
    | _ => .stuck
  | _ => .stuck := rfl
end SE

namespace SE
open PySem L2 RZ PyProof.Rows PySem.W
/-! ### tuples that nobody's lists are may be given to all -/
section
variable {K : PySem.W.Frag} {ζ : Option ZI} {G A : Hp} {L : Nat → Option Addr} {H : Hp} {σ : L2.St} {env : Env}
theorem admitT (R : REnv K ζ G A L H σ env) {a : Addr} {vs : List V} (ha : H a = some (.tup vs)) : ∃ G', Same G G' ∧ REnv K ζ G' A L H σ env ∧ G' a = some (.tup vs) := by
  cases hg : G a with
  | some o =>
    have := R.gh _ _ hg
    rw [ha] at this
    cases this
    exact ⟨G, same_refl G, R, hg⟩
  | none =>
    have aa : A a = none := by
      cases e : A a with
      | none => rfl
      | some u =>
        have h1 := R.ah _ _ e
        rw [ha] at h1
        cases h1
        exact absurd e (R.tu a vs)
    obtain ⟨s, R2⟩ := freezeO R ha hg aa (fun i x e1 m e2 => mine_tup R e1 m e2 vs ha) (fun i z => by
      obtain ⟨w, xs, hy⟩ := R.lp i a z
      have hl : i < σ.length := by rw [← R.len]; exact (List.getElem?_eq_some_iff.mp hy).1
      have q := R.sl i _ _ hy (List.getElem?_eq_getElem hl)
      cases w with
      | true =>
        obtain ⟨p, us, f0, f1, f2, _⟩ := q
        rw [z] at f0; cases f0
        rw [ha] at f2; cases f2
      | false =>
        obtain ⟨p, us, f0, f1, f2, _⟩ := q
        rw [z] at f0; cases f0
        rw [aa] at f2
        cases f2)
    exact ⟨_, s, R2, upd_same⟩
theorem admitL {β : Type} (f : β → Addr) (g : β → List V) : ∀ (bs : List β) {G : Hp}, REnv K ζ G A L H σ env → (∀ z, z ∈ bs → H (f z) = some (.tup (g z))) → ∃ G', Same G G' ∧ REnv K ζ G' A L H σ env ∧ ∀ z, z ∈ bs → G' (f z) = some (.tup (g z))
  | [], G, R, _ => ⟨G, same_refl G, R, fun z hz => by cases hz⟩
  | b :: bs, G, R, h => by
    obtain ⟨G1, s1, R1, h1⟩ := admitL f g bs R fun z hz => h z (List.mem_cons_of_mem _ hz)
    obtain ⟨G2, s2, R2, h2⟩ := admitT R1 (h b List.mem_cons_self)
    refine ⟨G2, s1.trans s2, R2, fun z hz => ?_⟩
    rcases List.mem_cons.mp hz with rfl | hz
    · exact h2
    · exact s2 _ _ (h1 z hz)
end
/-! ### sorted(d), the keys tuples -/
abbrev KA := List Key × Addr
def encT (z : KA) : D := .tuple (z.1.map keyD)
def rSortDT : List V → Hp → VK → Prop := fun xs H Q => ∃ (a : Addr) (kvs : List (List Key × V)), xs = [.ref a] ∧ H a = some (.dT kvs) ∧ AllAlike (kvs.map fun k => PyData.tuple (k.1.map keyD)) ∧ (∀ k, k ∈ kvs → k.1 ≠ []) ∧
  ∀ (p : Addr) (bs : List KA), bs.map (·.1) = kvs.map (·.1) → (∀ z, z ∈ bs → H z.2 = some (.tup (z.1.map kV))) → H p = none → Q (.ref p) (upd H p (.lst ((bs.mergeSort (dataLe false encT)).map fun z => .ref z.2)))
theorem ka_keys {H : Hp} {kvs : List (List Key × V)} {ks : List (List Key × Addr × Value)} (r : KT H kvs ks) : (ks.map fun x => ((x.1, x.2.1) : KA)).map (·.1) = kvs.map (·.1) := by
  induction r with
  | nil => rfl
  | cons h t ih => rw [List.map_cons, List.map_cons, List.map_cons, ih, h.1]
theorem ka_tup {H : Hp} {kvs : List (List Key × V)} {ks : List (List Key × Addr × Value)} (r : KT H kvs ks) : ∀ z, z ∈ (ks.map fun x => ((x.1, x.2.1) : KA)) → H z.2 = some (.tup (z.1.map kV)) := by
  induction r with
  | nil => intro z hz; cases hz
  | cons h t ih =>
    intro z hz
    rcases List.mem_cons.mp hz with rfl | hz
    · rw [← h.1]; exact h.2.1
    · exact ih z hz
theorem dp_keys {K : PySem.W.Frag} {H : Hp} : ∀ ks : List Key, DpAll K H (ks.map kV) (ks.map keyD)
  | [] => .nil
  | .inl i :: ks => .cons (.int i) (dp_keys ks)
  | .inr x :: ks => .cons (.str x) (dp_keys ks)
theorem depth_keys (ks : List Key) : (PyData.tuple (ks.map keyD)).depth ≤ 1 := by
  have : PyData.depthAll (ks.map keyD) = 0 := by
    induction ks with
    | nil => rfl
    | cons k ks ih => cases k <;> simp [keyD, PyData.depth, PyData.depthAll, ih]
  simp [PyData.depth, this]
theorem cr_sortDT {X : Cx} (hc : X.calm = true) (hu : X.A.units + 65 < cLine) : CallR X (.builtin "sorted") rSortDT := by
  intro pins s σ H xs us Q I r q
  obtain ⟨d, kvs, rfl, hd, hal, hne, q⟩ := q
  obtain ⟨u, rfl, rx⟩ := vals1 r
  obtain rfl : u = Value.ref d := rx
  obtain ⟨z, hs, ks, pr, o, es, ep, ho, hx, hdt, he, hn⟩ := (show ObjOk X.prog X.w H s.heap d (.dT kvs) from I.hok d _ hd)
  have l1 : es.size = ks.length := size_of_entries he
  have l2 : kvs.length = ks.length := Paired.length pr
  refine Calls.call_function_entry PyProof.Rows.kind_sorted PyProof.Rows.plain_sorted PyProof.Rows.entry_sorted (PyProof.Rows.args_sorted1 _) ?_
  unfold Builtin.«sorted»
  refine wpAny_bind (m := checkCount "sorted" 1 1 _) (wpAny_pure ?_)
  refine wpAny_bind (kdu_collect (A := X.A.in1) (kdl_raw hs hx hdt) (I.ok.hd hc) ho (by omega) fun h' tk acc hk it => ?_)
  have I1 : Inv X pins σ H { s with heap := h', toks := tk } := I.kept hk
  have ea : acc.toList = ks.map fun x => Value.ref x.2.1 := by
    have hl : acc.toList.length = ks.length := by rw [Array.length_toList, it.1]; exact l1
    apply List.ext_getElem?
    intro j
    rw [List.getElem?_map]
    cases hj : acc.toList[j]? with
    | none =>
      have h1 := List.getElem?_eq_none_iff.mp hj
      rw [List.getElem?_eq_none (by omega)]
      all_goals rfl
    | some v =>
      obtain ⟨en, hen, hv⟩ := it.2 j v (by rw [← Array.getElem?_toList]; exact hj)
      have qe := entry_at he j
      rw [hen] at qe
      cases hb : ks[j]? with
      | none =>
        rw [hb] at qe
        exact nomatch (show some en = none from qe)
      | some b =>
        rw [hb] at qe
        have e2 : en = entryOfKey (tupleKind (mixKind X.prog X.w)) b := Option.some.inj qe
        rw [hv, e2]
        all_goals rfl
  have hb1 := ka_keys pr
  have hb2 := ka_tup pr
  generalize hbs : (ks.map fun x => ((x.1, x.2.1) : KA)) = bs at hb1 hb2
  have ea2 : acc.toList = bs.map fun z => Value.ref z.2 := by rw [ea, ← hbs, List.map_map]; rfl
  have bl : bs.length = kvs.length := by rw [← hbs, List.length_map, l2]
  have hR : EachIs (fun v (b : KA) => RelV (V.ref b.2) v) acc.toList bs := each_get (by rw [ea2, List.length_map]) fun j v k e1 e2 => by
    rw [ea2, List.getElem?_map, e2] at e1
    cases e1
    rfl
  have he2 : bs.map encT = kvs.map fun k => PyData.tuple (k.1.map keyD) := by
    have : bs.map encT = (bs.map (·.1)).map fun k => PyData.tuple (k.map keyD) := by rw [List.map_map]; rfl
    rw [this, hb1, List.map_map]
    rfl
  have hRd : EachIs (fun v b => ∃ as, Reads h' v (encT b) as) acc.toList bs := each_get (by rw [ea2, List.length_map]) fun j v k e1 e2 => by
    rw [ea2, List.getElem?_map, e2] at e1
    cases e1
    exact Dp.reads I1 (encT k) (.ref k.2) (.ref k.2) (.tup (.of (hb2 k (List.mem_of_getElem? e2))) (dp_keys _)) rfl
  refine sort_new (s := { s with heap := h', toks := tk }) (val := fun z : KA => V.ref z.2) (enc := encT) I1 hR hRd (by rw [he2]; exact hal) (.inl fun d hd => ?_) (by rw [bl]; exact z) (fun k hk => ?_) fun s' I' => ⟨_, rfl, .ref h'.objs.size, _, I', rfl, q _ bs hb1 hb2 (I1.hok.fresh (Nat.le_refl _))⟩
  · rw [he2] at hd
    obtain ⟨k, hk, rfl⟩ := List.mem_map.mp hd
    cases hk1 : k.1 with
    | nil => exact absurd hk1 (hne k hk)
    | cons x r => exact ⟨keyD x, r.map keyD, rfl⟩
  · have := depth_keys k.1
    show X.A.units + 1 + 2 + (encT k).depth < _
    have : (encT k).depth ≤ 1 := this
    omega
theorem rpt_split {K : PySem.W.Frag} {G : Hp} : ∀ {ks : List (List Key × V)} {kvs : List (D × D)}, RpT K G ks kvs → kvs.map (·.1) = ks.map fun k => PyData.tuple (k.1.map keyD)
  | _, _, .nil => rfl
  | _, _, .cons h1 h2 => by rw [List.map_cons, List.map_cons, rpt_split h2]
/-- keys that can be sorted: tuples, none of them empty -/
def okTup : D → Bool
  | .tuple (_ :: _) => true
  | _ => false
def oSortDT (x : O) : Res O := match x.dd with
  | some (true, kvs) => if (okAlike (kvs.map (·.1)) && (kvs.map (·.1)).all okTup) = true then .ok (.own (sortD (kvs.map (·.1)))) else .stuck
  | _ => .stuck
theorem sortD_encT (bs : List KA) : (bs.mergeSort (PySem.W.dataLe false encT)).map encT = sortD (bs.map encT) := PySem.W.sort_maps encT fun a _ b _ => rfl
theorem sem_sortDT {K : PySem.W.Frag} : Sem1 K oSortDT fun v H Q => rSortDT [v] H Q := by
  intro ζ G A L H σ env x rx r0 Q R hx e q
  unfold oSortDT at e
  split at e
  · rename_i kvs ed
    split at e
    · rename_i hal
      rw [Bool.and_eq_true] at hal
      cases e
      obtain ⟨p, o, rfl, hp, hd⟩ := hx.dd R.gh ed
      rcases hd with ⟨h1, _⟩ | ⟨_, ks, rfl, h2⟩
      · cases h1
      · have e1 := rpt_split h2
        rw [e1] at hal q
        refine ⟨p, _, rfl, hp, okAlike_iff hal.1, fun k hk z => ?_, fun p' bs hb1 hb2 hp' => ?_⟩
        · have := List.all_eq_true.mp hal.2 _ (List.mem_map.mpr ⟨k, hk, rfl⟩)
          rw [z] at this
          cases this
        · obtain ⟨G2, s2, R2, h3⟩ := admitL (fun z : KA => z.2) (fun z => z.1.map kV) (bs.mergeSort (PySem.W.dataLe false encT)) R (fun z hz => hb2 z ((List.mergeSort_perm bs _).mem_iff.mp hz))
          have he2 : bs.map encT = ks.map fun k => PyData.tuple (k.1.map keyD) := by
            have : bs.map encT = (bs.map (·.1)).map fun k => PyData.tuple (k.map keyD) := by rw [List.map_map]; rfl
            rw [this, hb1, List.map_map]
            rfl
          rw [← he2, ← sortD_encT] at q
          exact (Post.of s2 q).lst R2 (rpall_of fun z hz => .tup (h3 z hz) (rpall_keyD _)) p' hp'
    · cases e
  · cases e
end SE

namespace SE
open PySem L2 RZ
/-! ### [.. for x in d.values() ..], d an own dict: it is out of reach meanwhile -/
def tIV (K : PySem.W.Frag) (ζ : Option ZI) (i : Nat) : TI := fun σ H R => ∃ G A L env ds p od ks, REnv K ζ G A L H σ env ∧ σ[i]? = some (some (V.ref p)) ∧ A p = some (.frz od (.dK ks)) ∧ RpAll K G (ks.map (·.2)) ds ∧
  ∀ J H' G', Same G G' → REnv K ζ G' A L H' σ env → Wk K J G' A ds → R J H'
theorem wk_vals {K : PySem.W.Frag} {G A : Hp} {p : Addr} {od : Obj} {ks : List (Key × V)} {ds : List D} (ha : A p = some (.frz od (.dK ks))) (hv : RpAll K G (ks.map (·.2)) ds) : Wk K (Itd p od ks) G A ds where
  go := fun i d G1 H1 s g b e => by
    obtain ⟨v, e1, rp⟩ := hv.getD e
    rw [List.getElem?_map] at e1
    cases hk : ks[i]? with
    | none => rw [hk] at e1; cases e1
    | some kv =>
      rw [hk] at e1
      cases e1
      refine ⟨⟨b _ _ ha, (List.getElem?_eq_some_iff.mp hk).1⟩, fun x H' y => ?_⟩
      obtain ⟨rfl, k, y⟩ := y
      rw [hk] at y
      cases y
      exact ⟨G1, same_refl _, rp.m s, .inl ⟨rfl, rfl⟩⟩
  stop := fun G1 H1 s g b => ⟨b _ _ ha, by have := hv.length; rw [List.length_map] at this; omega⟩
theorem pi_vals {X : Cx} {ζ : Option ZI} {tg e : Expr} {i : Nat} {apos cpos : Pos} (he : PE X e (tVar i)) (hbase : attributeBase e "values" X.env (eval e X.env) = eval e X.env := by rfl) (hline : (apos.endLine == cpos.line) = true := by rfl) : PI X tg (.Call (.Attribute e "values" apos) [] [] cpos) (tIV X.K ζ i) :=
  piw (pi_values he hbase hline) fun σ H R q => by
    obtain ⟨G, A, L, env, ds, p, od, ks, R0, hi, ha, hv, q⟩ := q
    exact ⟨.ref p, hi, p, od, ks, rfl, R0.ah _ _ ha, q _ H G (same_refl G) R0 (wk_vals ha hv)⟩
section
variable {X : Cx} {ζ : Option ZI} {W : WX} {elt tg : Expr} {ifs : List Expr} {scope : Scope} {own : List (Str × Nat)} {pos : Pos} {g : Bnd} {t : T} {me : M} {sl : List Nat} {n : Nat}
theorem comp_okA {K : PySem.W.Frag} {ζ : Option ZI} {vs : List Nat} (hsl : ∀ i ∈ sl, i ∈ vs) {σ : St} {H : Hp} {Q : VK} {G A : Hp} {L : Nat → Option Addr} {e1 env' : Env} {r0 : O} {ds : List D} {p : Addr} {od : Obj} {ks : List (Key × V)} (R : REnv K ζ G A L H σ e1) (hi0 : σ[n]? = some (some (V.ref p))) (ha : A p = some (.frz od (.dK ks))) (hv : RpAll K G (ks.map (·.2)) ds)
    (h : (if vs.all (fun i => (e1.getD i .un).soft) = true then (compL g t me vs ds [] (wipeE e1 vs)).bind fun q => Res.ok (O.own q.1, restE e1 q.2 vs) else .stuck) = .ok (r0, env')) (q : Post K ζ G A L σ env' r0 Q) : tLc (tIV K ζ n) (tG K ζ sl g) (tT K ζ t) (tM K ζ me) vs σ H Q := by
  refine ⟨G, A, L, e1, ds, p, od, ks, R, hi0, ha, hv, fun J H1 G1 s1 R1 W D hD => ?_⟩
  split at h
  · rename_i hsoft
    have hs : ∀ i ∈ vs, (e1.getD i .un).soft = true := fun i hi => List.all_eq_true.mp hsoft i hi
    have hL : ∀ i ∈ vs, L i = none := fun i hi => by
      cases q : L i with
      | none => rfl
      | some p =>
        obtain ⟨w, xs, e⟩ := R1.lp i p q
        have := hs i hi
        rw [List.getD_eq_getElem?_getD, e] at this
        cases this
    obtain ⟨⟨accF, envF⟩, h2, h⟩ := bind_eq_ok h
    cases h
    have hLD : ∀ i, L i ≠ some D := fun i z => by
      obtain ⟨u, hu⟩ := pin_alive R1 z
      rw [hD] at hu; cases hu
    have aD : A D = none := R1.ah.free hD
    refine ⟨fun i m H => m = ds.length - i ∧ i ≤ ds.length ∧ ∃ G2 env acc vacc, Same G1 G2 ∧ REnv K ζ G2 (upd A D (.lst vacc)) L H (wipe σ vs) env ∧ RpAll K G2 vacc acc ∧ compL g t me vs (ds.drop i) acc env = .ok (accF, envF),
      ⟨_, rfl, Nat.zero_le _, G1, wipeE e1 vs, [], [], same_refl _, amb_in (wipe_env R1 fun i hi => soft_pinned (hs i hi)) hD, .nil, h2⟩, ?_⟩
    rintro i m H2 ⟨rfl, hi, G2, env2, acc, vacc, s2, R2, rv, hc⟩
    by_cases hlt : i < ds.length
    · have e : ds[i]? = some ds[i] := by simp [hlt]
      have ah2 : Same A H2 := fun b u z => R2.ah b u (by rw [upd_ne (ne_of_none z aD)]; exact z)
      obtain ⟨go, yl⟩ := W.go i _ G2 H2 s2 R2.gh ah2 e
      refine .inr ⟨go, fun H' => i + 1 ≤ ds.length ∧ ∃ G2 env acc vacc, Same G1 G2 ∧ REnv K ζ G2 (upd A D (.lst vacc)) L H' (wipe σ vs) env ∧ RpAll K G2 vacc acc ∧ compL g t me vs (ds.drop (i + 1)) acc env = .ok (accF, envF),
        fun H' n => ⟨ds.length - (i + 1), by omega, rfl, n⟩, fun x H' y => ?_⟩
      obtain ⟨G3, s3, rp, hh⟩ := yl x H' y
      have R3 : REnv K ζ G3 (upd A D (.lst vacc)) L H' (wipe σ vs) env2 := by
        rcases hh with ⟨rfl, rfl⟩ | ⟨p, o, hp, rfl, rfl⟩
        · exact R2
        · exact R2.lay hp o
      have ed : ds.drop i = ds[i] :: ds.drop (i + 1) := List.drop_eq_getElem_cons hlt
      rw [ed] at hc
      unfold compL at hc
      cases eg : g ds[i] env2 with
      | none => rw [eg] at hc; cases hc
      | some ev =>
        rw [eg] at hc
        simp only at hc
        obtain ⟨⟨b, e4⟩, h4, hc⟩ := bind_eq_ok hc
        refine ⟨G3, _, L, env2, ds[i], ev, R3, rp, eg, fun σ4 u4 R4 => ⟨?_, G3, _, L, ev, b, e4, R4, h4, fun H5 G5 s5 R5 => ?_⟩⟩
        · rw [u4.wipe hsl]
          apply List.ext_getElem?
          intro j
          by_cases hj : j ∈ vs
          · by_cases hl : j < σ.length
            · have a1 : j < (wipe (wipe σ vs) vs).length := by rw [wipe_length, wipe_length]; exact hl
              have a2 : j < (wipe σ vs).length := by rw [wipe_length]; exact hl
              have z1 : (wipe (wipe σ vs) vs)[j] = none := by
                cases e : (wipe (wipe σ vs) vs)[j] with
                | none => rfl
                | some v => exact absurd hj (wipe_some (show (wipe (wipe σ vs) vs)[j]? = some (some v) by rw [List.getElem?_eq_getElem a1, e])).2
              have z2 : (wipe σ vs)[j] = none := by
                cases e : (wipe σ vs)[j] with
                | none => rfl
                | some v => exact absurd hj (wipe_some (show (wipe σ vs)[j]? = some (some v) by rw [List.getElem?_eq_getElem a2, e])).2
              rw [List.getElem?_eq_getElem a1, List.getElem?_eq_getElem a2, z1, z2]
            · rw [List.getElem?_eq_none (by rw [wipe_length, wipe_length]; omega), List.getElem?_eq_none (by rw [wipe_length]; omega)]
          · rw [wipe_out' hj]
        · have hw4 : wipe σ4 vs = wipe σ vs := by
            rw [u4.wipe hsl]
            apply List.ext_getElem?
            intro j
            by_cases hj : j ∈ vs
            · by_cases hl : j < σ.length
              · have a1 : j < (wipe (wipe σ vs) vs).length := by rw [wipe_length, wipe_length]; exact hl
                have a2 : j < (wipe σ vs).length := by rw [wipe_length]; exact hl
                have z1 : (wipe (wipe σ vs) vs)[j] = none := by
                  cases e : (wipe (wipe σ vs) vs)[j] with
                  | none => rfl
                  | some v => exact absurd hj (wipe_some (show (wipe (wipe σ vs) vs)[j]? = some (some v) by rw [List.getElem?_eq_getElem a1, e])).2
                have z2 : (wipe σ vs)[j] = none := by
                  cases e : (wipe σ vs)[j] with
                  | none => rfl
                  | some v => exact absurd hj (wipe_some (show (wipe σ vs)[j]? = some (some v) by rw [List.getElem?_eq_getElem a2, e])).2
                rw [List.getElem?_eq_getElem a1, List.getElem?_eq_getElem a2, z1, z2]
              · rw [List.getElem?_eq_none (by rw [wipe_length, wipe_length]; omega), List.getElem?_eq_none (by rw [wipe_length]; omega)]
            · rw [wipe_out' hj]
          cases b with
          | false =>
            rw [if_neg Bool.false_ne_true] at hc
            refine iteF ?_
            exact ⟨hlt, G5, _, acc, vacc, s2.trans (s3.trans s5), rewipe hw4 R5 hL, rv.m (s3.trans s5), hc⟩
          | true =>
            rw [if_pos rfl] at hc
            refine iteT ?_
            obtain ⟨⟨r, e6⟩, h6, hc⟩ := bind_eq_ok hc
            refine ⟨G5, _, L, e4, r, e6, R5, h6, fun v H7 G7 s7 R7 hv => ?_⟩
            simp only at hc
            split at hc
            · split at hc
              · rename_i rr hz
                refine ⟨vacc, R7.ah _ _ upd_same, by rw [rv.length, ← sl_eq]; exact hz, hlt, G7, _, _, vacc ++ [v], s2.trans (s3.trans (s5.trans s7)), amb_put hLD (rewipe hw4 R7 hL), (rv.m (s3.trans (s5.trans s7))).app (.cons hv .nil), hc⟩
              · cases hc
            · cases hc
    · have e : i = ds.length := by omega
      subst e
      rw [List.drop_length] at hc
      cases hc
      have ah2 : Same A H2 := fun b u z => R2.ah b u (by rw [upd_ne (ne_of_none z aD)]; exact z)
      refine .inl ⟨W.stop G2 H2 s2 R2.gh ah2, ?_⟩
      obtain ⟨R3, hv⟩ := amb_out aD hLD R2 rv
      -- the names ahead of the block, in the heap as it is now
      have R0 : REnv K ζ G2 A L H2 σ (restE e1 envF vs) := by
        have mono : ∀ {i : Nat} {d : PyData} {w : Option V}, RSl K ζ G1 A L H1 i (.val d) w → RSl K ζ G2 A L H2 i (.val d) w := fun {i d w} q => by
          obtain ⟨v, e, q⟩ := q
          exact ⟨v, e, q.m s2⟩
        refine ⟨by rw [restE_len]; have := R3.len; rw [wipe_length] at this; exact this, R3.gh, R3.ah, R3.ag, fun i o w e1' e2 => ?_, fun i j x y p e1' e2 m1 m2 z1 z2 => ?_, fun i p e => ?_, R3.tu⟩
        · by_cases hi : i ∈ vs
          · have eo := restE_in hi e1'
            have so := hs i hi
            rw [← eo] at so
            match o, so with
            | .un, _ => trivial
            | .tpl _, _ => trivial
            | .val d, _ => exact mono (R1.sl i _ _ (getD_some eo.symm rfl) e2)
          · rw [restE_out hi] at e1'
            exact R3.sl i o w e1' (by rw [wipe_out' hi]; exact e2)
        · have soft : ∀ {k : Nat} {x : O}, (restE e1 envF vs)[k]? = some x → x.mine = true → k ∉ vs := fun {k x} e m hk => by
            have eo := restE_in hk e
            have so := hs k hk
            rw [← eo] at so
            exact soft_mine so m
          have hi := soft e1' m1
          have hj := soft e2 m2
          rw [restE_out hi] at e1'
          rw [restE_out hj] at e2
          exact R3.inj i j x y p e1' e2 m1 m2 (by rw [wipe_out' hi]; exact z1) (by rw [wipe_out' hj]; exact z2)
        · obtain ⟨w, xs, q⟩ := R3.lp i p e
          have hi : i ∉ vs := fun z => by rw [hL i z] at e; cases e
          exact ⟨w, xs, by rw [restE_out hi]; exact q⟩
      refine q _ H2 G2 (s1.trans s2) R0 ?_
      obtain ⟨p, us, e2, e3, e4, e5, e6, e7, e8⟩ := hv
      refine ⟨p, us, e2, e3, e4, e5, e6, fun i x e m z => ?_, e8⟩
      have hi : i ∉ vs := fun hk => by
        have eo := restE_in hk e
        have so := hs i hk
        rw [← eo] at so
        exact soft_mine so m
      rw [restE_out hi] at e
      exact e7 i x e m (by rw [wipe_out' hi]; exact z)
  · cases h
end
/-- the dict's slot is out of reach while the comprehension runs -/
def mCompV (i : Nat) (g : Bnd) (t : T) (elt : M) (vs : List Nat) : M := fun env => match env.getD i .un with
  | .dct false kvs => (if vs.all (fun j => ((env.set i .un).getD j .un).soft) = true then (compL g t elt vs (kvs.map (·.2)) [] (wipeE (env.set i .un) vs)).bind fun q => Res.ok (O.own q.1, restE (env.set i .un) q.2 vs) else .stuck).bind fun r => match r.2[i]? with
    | some .un => .ok (r.1, r.2.set i (.dct false kvs))
    | _ => .stuck
  | _ => .stuck
theorem rpk_vals {K : PySem.W.Frag} {G : Hp} : ∀ {ks : List (Key × V)} {kvs : List (D × D)}, RpK K G ks kvs → RpAll K G (ks.map (·.2)) (kvs.map (·.2))
  | _, _, .nil => .nil
  | _, _, .cons h1 h2 => .cons h1 (rpk_vals h2)
theorem compV_ok {K : PySem.W.Frag} {ζ : Option ZI} {g : Bnd} {t : T} {me : M} {sl vs : List Nat} {n : Nat} (hsl : ∀ i ∈ sl, i ∈ vs) {σ : St} {H : Hp} {Q : VK} (h : tM K ζ (mCompV n g t me vs) σ H Q) : tLockE (tLc (tIV K ζ n) (tG K ζ sl g) (tT K ζ t) (tM K ζ me) vs) σ H Q := by
  obtain ⟨G, A, L, env, r0, env', R, e, q⟩ := h
  unfold mCompV at e
  split at e
  · rename_i kvs hd
    have he := get_of_getD hd (by intro z; cases z)
    have hil : n < env.length := (List.getElem?_eq_some_iff.mp he).1
    obtain ⟨w, hw⟩ : ∃ w, σ[n]? = some w := ⟨σ[n]'(by rw [← R.len]; exact hil), List.getElem?_eq_getElem _⟩
    obtain ⟨p, o, rfl, hp, gp, ap, hD⟩ := R.sl n _ w he hw
    rcases hD with ⟨_, ks, rfl, hk⟩ | ⟨z, _⟩
    · obtain ⟨R1, k1, k2⟩ := mine_un R he rfl rfl hw
      obtain ⟨⟨r1, e2⟩, h1, h2⟩ := bind_eq_ok e
      have hr : ∃ xs, r1 = .own xs := by
        have h3 := h1
        split at h3
        · obtain ⟨⟨x1, x2⟩, _, h4⟩ := bind_eq_ok h3
          cases h4
          exact ⟨_, rfl⟩
        · cases h3
      obtain ⟨xs, rfl⟩ := hr
      refine ⟨p, .dK ks, hp, trivial, fun od => ?_⟩
      have R2 : REnv K ζ G A L (upd H p (.frz od (.dK ks))) σ (env.set n .un) := mutLone R1 ⟨gp, ap, k1, k2⟩
      obtain ⟨R3, back⟩ := protectO R2 (ob := .frz od (.dK ks)) upd_same gp ap k1 k2 (fun fs z => by cases z) (fun us z => by cases z)
      refine comp_okA hsl R3 hw upd_same (rpk_vals hk) h1 fun v H2 G2 s2 R4 hv => ?_
      obtain ⟨R5, b1, b2, b3⟩ := back G2 H2 e2 s2 R4
      refine ⟨b1, ?_⟩
      simp only at h2
      split at h2
      · rename_i hun
        cases h2
        have hil2 : n < e2.length := (List.getElem?_eq_some_iff.mp hun).1
        have R6 : REnv K ζ G2 A L (upd H2 p (.dK ks)) σ e2 := mutLone R5 ⟨b2, ap, b3, k2⟩
        have R7 : REnv K ζ G2 A L (upd H2 p (.dK ks)) σ (e2.set n (.dct false kvs)) := set_env R6 (w := some (V.ref p)) hw ⟨p, .dK ks, rfl, upd_same, b2, ap, .inl ⟨rfl, ks, rfl, RpK.mono s2 _ _ hk⟩⟩ (fun x hx => by rw [hun] at hx; cases hx; rfl) rfl (fun _ p' hp' j x hj hx m z => by
          cases hp'
          exact b3 j x hx m z)
        refine q v _ G2 s2 R7 ?_
        obtain ⟨a, us, f1, f2, f3, f4, f5, f6, f7⟩ := hv
        have ne : a ≠ p := fun z => by rw [z, upd_same] at f4; cases f4
        rw [upd_ne ne] at f4
        refine ⟨a, us, f1, by rw [upd_ne ne]; exact f2, f3, f4, f5, fun j x hx m z => ?_, f7⟩
        by_cases hj : j = n
        · subst hj
          rw [hw] at z
          cases z
          exact ne rfl
        · rw [List.getElem?_set_ne (Ne.symm hj)] at hx
          exact f6 j x hx m z
      · cases h2
    · cases z
  · cases e
section
variable {X : Cx} {ζ : Option ZI} {elt tg e : Expr} {ifs : List Expr} {scope : Scope} {own : List (Str × Nat)} {pos apos cpos : Pos} {g : Bnd} {t : T} {me : M} {sl : List Nat} {n : Nat}
theorem r_compV (hc : X.calm = true) (hN : X.N.Nodup) (hv : PE X e (tVar n)) (ok : BlkOk X.N X.env.scope scope own) (hsl : ∀ i ∈ sl, i ∈ own.map (·.2))
    (hg : ∀ (s : Shared) (H : Hp) (C : Addr) (cl : List (Str × Addr)) (fp : List Addr), PG (X.blk s H scope (compEnvC scope cl C X.env) fp) tg (tG X.K ζ sl g)) (ht : ∀ (s : Shared) (H : Hp) (C : Addr) (cl : List (Str × Addr)) (fp : List Addr), PTs (X.blk s H scope (compEnvC scope cl C X.env) fp) ifs (tT X.K ζ t))
    (he : ∀ (s : Shared) (H : Hp) (C : Addr) (cl : List (Str × Addr)) (fp : List Addr), PE (X.blk s H scope (compEnvC scope cl C X.env) fp) elt (tM X.K ζ me)) (hbase : attributeBase e "values" X.env (eval e X.env) = eval e X.env := by rfl) (hline : (apos.endLine == cpos.line) = true := by rfl)
    (hs : ∀ x, foldedSetIterable (.Call (.Attribute e "values" apos) [] [] cpos) X.env x = pure x := by intro _; rfl) :
    PE X (.ListComp elt [⟨tg, .Call (.Attribute e "values" apos) [] [] cpos, ifs, 0⟩] scope pos) (tM X.K ζ (mCompV n g t me (own.map (·.2)))) := pew (pe_lock (pe_lc hc hN (pi_vals hv hbase hline) ok hg ht he hs)) fun σ H Q q => compV_ok hsl q
end
end SE

namespace SE
open PySem L2 RZ
/-! ### more of texts: split, partition, startswith, endswith, find, count, strip, lower, isdigit -/
theorem rpAll_mkS {K : PySem.W.Frag} {G : Hp} : ∀ (ys : List Str), RpAll K G (ys.map V.str) (ys.map PyData.str)
  | [] => .nil
  | y :: ys => .cons (.str y) (rpAll_mkS ys)
def s1 (g : Str → Str → Res O) (a : Str) : List O → Res O
  | [.val (.str b)] => g a b
  | _ => .stuck
@[simp] theorem e_s1 {g : Str → Str → Res O} {a b : Str} : s1 g a [.val (.str b)] = g a b := rfl
theorem s1_ok {g : Str → Str → Res O} {a : Str} {rs : List O} {r : O} (h : s1 g a rs = .ok r) : ∃ b, rs = [.val (.str b)] ∧ g a b = .ok r := by
  unfold s1 at h
  split at h
  · rename_i b
    exact ⟨b, rfl, h⟩
  · cases h
theorem rdys1 {K : PySem.W.Frag} {G H : Hp} {b : Str} {xs : List V} (h : Rdys K G H [.val (.str b)] xs) : xs = [.str b] := by
  cases h with
  | cons h1 h2 =>
    cases h2
    cases (show Rp K G _ (.str b) from h1)
    rfl
def gSplit (a b : Str) : Res O := if (b.length == 0) = false ∧ a.length + 2 ≤ 16777216 then .ok (.own ((Txt.split a b).map .str)) else .stuck
abbrev oSplit := s1 gSplit
def gPart (a b : Str) : Res O := if (b.length == 0) = false ∧ a.length ≤ 16777216 then .ok (.val (.tuple [.str (Txt.partition a b).1, .str (Txt.partition a b).2.1, .str (Txt.partition a b).2.2])) else .stuck
abbrev oPart := s1 gPart
abbrev oStarts := s1 fun a b => .ok (.val (.bool (Txt.startswith a b)))
abbrev oEnds := s1 fun a b => .ok (.val (.bool (Txt.endswith a b)))
abbrev oFindS := s1 fun a b => .ok (.val (.int (Txt.find a b)))
abbrev oRfindS := s1 fun a b => .ok (.val (.int (Txt.rfind a b)))
abbrev oCountS := s1 fun a b => .ok (.val (.int (Txt.count a b)))
abbrev oStripC := s1 fun a b => if a.length ≤ 16777216 then .ok (.val (.str (Txt.stripChars a b))) else .stuck
theorem sem_split {K : PySem.W.Frag} : SemS K oSplit (fun x xs H Q => ∃ a b, x = .str a ∧ xs = [.str b] ∧ (b.length == 0) = false ∧ a.length + 2 ≤ sizeLine ∧ rNewStrs (Txt.split a b) H Q) := by
  intro ζ G A L H σ env xs rs r0 Q a R hx e q
  obtain ⟨b, rfl, e2⟩ := s1_ok e
  clear e
  have := rdys1 hx
  subst this
  unfold gSplit at e2
  split at e2
  · rename_i hc
    cases e2
    exact ⟨a, b, rfl, rfl, hc.1, hc.2, fun p hp => q.lst R (rpAll_mkS _) p hp⟩
  · cases e2
theorem sem_part {K : PySem.W.Frag} : SemS K oPart (fun x xs H Q => ∃ a b, x = .str a ∧ xs = [.str b] ∧ (b.length == 0) = false ∧ a.length ≤ sizeLine ∧
    ∀ p, H p = none → Q (.ref p) (upd H p (.tup [.str (Txt.partition a b).1, .str (Txt.partition a b).2.1, .str (Txt.partition a b).2.2]))) := by
  intro ζ G A L H σ env xs rs r0 Q a R hx e q
  obtain ⟨b, rfl, e2⟩ := s1_ok e
  clear e
  have := rdys1 hx
  subst this
  unfold gPart at e2
  split at e2
  · rename_i hc
    cases e2
    exact ⟨a, b, rfl, rfl, hc.1, hc.2, fun p hp => q.tup R (.cons (.str _) (.cons (.str _) (.cons (.str _) .nil))) p hp⟩
  · cases e2
theorem sem_s1 {K : PySem.W.Frag} {g : Str → Str → D} {gv : Str → Str → V} (hg : ∀ a b G, Rp K G (gv a b) (g a b)) : SemS K (s1 fun a b => .ok (.val (g a b))) (fun x xs H Q => ∃ a b, x = .str a ∧ xs = [.str b] ∧ Q (gv a b) H) := by
  intro ζ G A L H σ env xs rs r0 Q a R hx e q
  obtain ⟨b, rfl, e2⟩ := s1_ok e
  clear e
  have := rdys1 hx
  subst this
  cases e2
  exact ⟨a, b, rfl, rfl, q.val R (hg a b G)⟩
theorem sem_starts {K : PySem.W.Frag} : SemS K oStarts (fun x xs H Q => ∃ a b, x = .str a ∧ xs = [.str b] ∧ Q (.bl (Txt.startswith a b)) H) := sem_s1 fun a b G => .bl _
theorem sem_ends {K : PySem.W.Frag} : SemS K oEnds (fun x xs H Q => ∃ a b, x = .str a ∧ xs = [.str b] ∧ Q (.bl (Txt.endswith a b)) H) := sem_s1 fun a b G => .bl _
theorem sem_findS {K : PySem.W.Frag} : SemS K oFindS (fun x xs H Q => ∃ a b, x = .str a ∧ xs = [.str b] ∧ Q (.int (Txt.find a b)) H) := sem_s1 fun a b G => .int _
theorem sem_rfindS {K : PySem.W.Frag} : SemS K oRfindS (fun x xs H Q => ∃ a b, x = .str a ∧ xs = [.str b] ∧ Q (.int (Txt.rfind a b)) H) := sem_s1 fun a b G => .int _
theorem sem_countS {K : PySem.W.Frag} : SemS K oCountS (fun x xs H Q => ∃ a b, x = .str a ∧ xs = [.str b] ∧ Q (.int (Txt.count a b)) H) := sem_s1 fun a b G => .int _
theorem sem_stripC {K : PySem.W.Frag} : SemS K oStripC (fun x xs H Q => ∃ a b, x = .str a ∧ xs = [.str b] ∧ a.length ≤ sizeLine ∧ Q (.str (Txt.stripChars a b)) H) := by
  intro ζ G A L H σ env xs rs r0 Q a R hx e q
  obtain ⟨b, rfl, e2⟩ := s1_ok e
  clear e
  have := rdys1 hx
  subst this
  split at e2
  · rename_i hc
    cases e2
    exact ⟨a, b, rfl, rfl, hc, q.val R (.str _)⟩
  · cases e2
/-! ### of a text alone -/
def smF0 (f : Str → Res O) (p : O × Env) : Res (O × Env) := match p.1 with
  | .val (.str a) => (f a).bind fun r => .ok (r, p.2)
  | _ => .stuck
def mSM0 (m : M) (f : Str → Res O) : M := fun env => (m env).bind (smF0 f)
@[simp] theorem e_mSM0 {m : M} {f : Str → Res O} {env : Env} : mSM0 m f env = (m env).bind (smF0 f) := rfl
@[simp] theorem e_smF0 {f : Str → Res O} {a : Str} {env : Env} : smF0 f (.val (.str a), env) = (f a).bind fun r => .ok (r, env) := rfl
def Sem0 (K : PySem.W.Frag) (f : Str → Res O) (r : V → List V → Hp → VK → Prop) : Prop := ∀ {ζ : Option ZI} {G A : Hp} {L : Nat → Option Addr} {H : Hp} {σ : St} {env : Env} {r0 : O} {Q : VK} (a : Str), REnv K ζ G A L H σ env →
  f a = .ok r0 → Post K ζ G A L σ env r0 Q → r (.str a) [] H Q
theorem sm0_ok {K : PySem.W.Frag} {ζ : Option ZI} {m : M} {f : Str → Res O} {r : V → List V → Hp → VK → Prop} (hf : Sem0 K f r) {σ : St} {H : Hp} {Q : VK} (h : tM K ζ (mSM0 m f) σ H Q) : tBM0 K "str" r (tM K ζ m) σ H Q := by
  obtain ⟨G, A, L, env, r0, env', R, e, q⟩ := h
  unfold mSM0 at e
  obtain ⟨⟨x, e1⟩, h1, e⟩ := bind_eq_ok e
  match x, h1, e with
  | .val (.str a), h1, e =>
    refine ⟨G, A, L, env, .val (.str a), e1, R, h1, fun v H1 G1 s1 R1 hv => ?_⟩
    obtain ⟨r', h2, h⟩ := bind_eq_ok (show (f a).bind (fun r => .ok (r, e1)) = _ from e)
    cases h
    cases (show Rp K G1 v (.str a) from hv)
    exact ⟨rfl, hf a R1 h2 (Post.of s1 q)⟩
  | .un, _, e => cases e
  | .tpl _, _, e => cases e
  | .own _, _, e => cases e
  | .pin _ _, _, e => cases e
  | .dct _ _, _, e => cases e
  | .scr _, _, e => cases e
section
variable {X : Cx} {ζ : Option ZI} {o : Expr} {m : M} {name : Str} {id : String} {apos cpos : Pos} {f : Str → Res O} {r : V → List V → Hp → VK → Prop}
theorem r_sm0 (slot : Slot "str" name id) (hty : typeOf (.builtin id) = pure (.type "method_descriptor")) (hm : MtR X id r) (hf : Sem0 X.K f r) (ho : PE X o (tM X.K ζ m))
    (hbase : attributeBase o name X.env (eval o X.env) = eval o X.env := by rfl) (hline : (apos.endLine == cpos.line) = true := by rfl) : PE X (.Call (.Attribute o name apos) [] [] cpos) (tM X.K ζ (mSM0 m f)) :=
  pew (pe_bm0 PySem.F.plainAttrs_str slot hty hm ho hbase hline) fun σ H Q q => sm0_ok hf q
end
def g0 (c : Nat) (g : Str → Str) (a : Str) : Res O := if a.length ≤ c then .ok (.val (.str (g a))) else .stuck
def gB (g : Str → Bool) (a : Str) : Res O := .ok (.val (.bool (g a)))
theorem sem_g0 {K : PySem.W.Frag} {c : Nat} {g : Str → Str} : Sem0 K (g0 c g) (fun x xs H Q => ∃ a, x = .str a ∧ xs = [] ∧ a.length ≤ c ∧ Q (.str (g a)) H) := by
  intro ζ G A L H σ env r0 Q a R e q
  unfold g0 at e
  split at e
  · rename_i hc
    cases e
    exact ⟨a, rfl, rfl, hc, q.val R (.str _)⟩
  · cases e
theorem sem_gB {K : PySem.W.Frag} {g : Str → Bool} : Sem0 K (gB g) (fun x xs H Q => ∃ a, x = .str a ∧ xs = [] ∧ True ∧ Q (.bl (g a)) H) := by
  intro ζ G A L H σ env r0 Q a R e q
  cases e
  exact ⟨a, rfl, rfl, trivial, q.val R (.bl _)⟩
abbrev oStrip := g0 16777216 Txt.strip
abbrev oLower := g0 5592405 Txt.lower
abbrev oUpper := g0 5592405 Txt.upper
abbrev oIsDigit := gB Txt.isdigit
theorem sem_strip {K : PySem.W.Frag} : Sem0 K oStrip (fun x xs H Q => ∃ a, x = .str a ∧ xs = [] ∧ a.length ≤ sizeLine ∧ Q (.str (Txt.strip a)) H) := sem_g0
theorem sem_lower {K : PySem.W.Frag} : Sem0 K oLower (fun x xs H Q => ∃ a, x = .str a ∧ xs = [] ∧ a.length ≤ 5592405 ∧ Q (.str (Txt.lower a)) H) := sem_g0
theorem sem_upper {K : PySem.W.Frag} : Sem0 K oUpper (fun x xs H Q => ∃ a, x = .str a ∧ xs = [] ∧ a.length ≤ 5592405 ∧ Q (.str (Txt.upper a)) H) := sem_g0
theorem sem_isdigit {K : PySem.W.Frag} : Sem0 K oIsDigit (fun x xs H Q => ∃ a, x = .str a ∧ xs = [] ∧ True ∧ Q (.bl (Txt.isdigit a)) H) := sem_gB
@[simp] theorem e_gSplit {a b : Str} (h1 : (b.length == 0) = false) (h2 : a.length + 2 ≤ 16777216) : gSplit a b = .ok (.own ((Txt.split a b).map .str)) := by
  unfold gSplit; rw [if_pos ⟨h1, h2⟩]
end SE

namespace SE
open PySem L2
/-! ### evaluation -/
theorem small_of {i : Int} (h1 : -1000000000000 ≤ i) (h2 : i ≤ 1000000000000) : small i = true := Nat.ble_eq_true_of_le (by omega)
theorem small_nat {n : Nat} (h : n ≤ 1000000000000) : small (n : Int) = true := small_of (by omega) (by omega)
@[simp] theorem small_l (n : Nat) (h : n ≤ 1000000000000) : small (no_index (OfNat.ofNat n : Int)) = true := small_nat h
@[simp] theorem small_0 : small 0 = true := by decide
@[simp] theorem small_1 : small 1 = true := by decide
@[simp] theorem small_n (n : Nat) (h : n ≤ 1000000000000) : small (-(no_index (OfNat.ofNat n : Int))) = true := small_of (by show -1000000000000 ≤ -(n : Int); omega) (by show -(n : Int) ≤ 1000000000000; omega)
@[simp] theorem small_n1 : small (-1) = true := by decide

section
variable {env : Env} {r : List Opd} {f : M} {i j : Nat}
@[simp] theorem e_pass0 : pass [] env = .ok ([], env) := rfl
@[simp] theorem e_passm : pass (.m f :: r) env = (f env).bind fun p => (pass r p.2).bind fun q => .ok (p.1 :: q.1, q.2) := rfl
@[simp] theorem e_passk : pass (.pk i :: r) env = if (env.getD i .un).live = true then (pass r env).bind fun q => .ok (q.2.getD i .un :: q.1, q.2) else .stuck := rfl
@[simp] theorem e_mC {d : D} : mC d env = .ok (.val d, env) := rfl
def vF (i : Nat) (env : Env) : O → Res (O × Env)
  | .val d => .ok (.val d, env)
  | .own xs => .ok (.val (.list xs), env.set i (.val (.list xs)))
  | .dct _ xs => .ok (.val (.dict xs), env.set i (.val (.dict xs)))
  | _ => .stuck
def mvF (i : Nat) (env : Env) : O → Res (O × Env)
  | .val d => .ok (.val d, env)
  | .own xs => .ok (.own xs, env.set i .un)
  | .dct t xs => .ok (.dct t xs, env.set i .un)
  | _ => .stuck
@[simp] theorem e_mV : mV i env = vF i env (env.getD i .un) := rfl
@[simp] theorem e_mMv : mMv i env = mvF i env (env.getD i .un) := rfl
@[simp] theorem e_vF {d : D} : vF i env (.val d) = .ok (.val d, env) := rfl
@[simp] theorem e_vFo {xs : List D} : vF i env (.own xs) = .ok (.val (.list xs), env.set i (.val (.list xs))) := rfl
@[simp] theorem e_mvF {d : D} : mvF i env (.val d) = .ok (.val d, env) := rfl
@[simp] theorem e_vFd {t : Bool} {xs : List (D × D)} : vF i env (.dct t xs) = .ok (.val (.dict xs), env.set i (.val (.dict xs))) := rfl
@[simp] theorem e_mvFd {t : Bool} {xs : List (D × D)} : mvF i env (.dct t xs) = .ok (.dct t xs, env.set i .un) := rfl
@[simp] theorem e_mvFo {xs : List D} : mvF i env (.own xs) = .ok (.own xs, env.set i .un) := rfl
@[simp] theorem e_m1 {o : O → Res O} {a : Opd} : m1 o a env = (pass [a] env).bind (fin1 o) := rfl
@[simp] theorem e_m2 {o : O → O → Res O} {a b : Opd} : m2 o a b env = (pass [a, b] env).bind (fin2 o) := rfl
@[simp] theorem e_fin1 {o : O → Res O} {x : O} : fin1 o ([x], env) = if x.live = true then (o x).bind fun r => .ok (r, env) else .stuck := rfl
@[simp] theorem e_fin2 {o : O → O → Res O} {x y : O} : fin2 o ([x, y], env) = if (x.live && y.live) = true then (o x y).bind fun r => .ok (r, env) else .stuck := rfl
def ofT (b : Option Bool) (env : Env) : Res (Bool × Env) := match b with
  | some b => .ok (b, env)
  | none => .stuck
@[simp] theorem e_ofT {b : Bool} : ofT (some b) env = .ok (b, env) := rfl
@[simp] theorem e_fint {x : O} : fint ([x], env) = ofT (truthO x) env := rfl
@[simp] theorem e_tbv {b : Bool} : tbv (.val (.bool b), env) = .ok (b, env) := rfl
@[simp] theorem e_fsrcL {ds : List D} : fsrc (.val (.list ds), env) = .ok (ds, env) := rfl
@[simp] theorem e_fsrcT {ds : List D} : fsrc (.val (.tuple ds), env) = .ok (ds, env) := rfl
@[simp] theorem e_fsrcS {z : Str} : fsrc (.val (.str z), env) = .ok (chars z, env) := rfl
@[simp] theorem e_allV0 : allV [] = some [] := rfl
@[simp] theorem e_allV1 {d : D} {r : List O} : allV (.val d :: r) = (allV r).map (d :: ·) := rfl
section
variable {d : D} {xs ys : List D} {ns : List Int} {w : Bool}
@[simp] theorem lv_v : (O.val d).live = true := rfl
@[simp] theorem lv_o : (O.own xs).live = true := rfl
@[simp] theorem lv_p : (O.pin w xs).live = true := rfl
@[simp] theorem lv_s : (O.scr ns).live = true := rfl
@[simp] theorem lv_u : O.un.live = false := rfl
@[simp] theorem od_v : (O.val d).d = some d := rfl
@[simp] theorem od_o : (O.own xs).d = some (.list xs) := rfl
@[simp] theorem od_p : (O.pin w xs).d = some (.list xs) := rfl
@[simp] theorem ol_v : (O.val (.list xs)).l = some xs := rfl
@[simp] theorem ol_o : (O.own xs).l = some xs := rfl
@[simp] theorem ol_p : (O.pin w xs).l = some xs := rfl
@[simp] theorem om_v : (O.val d).mineL = false := rfl
@[simp] theorem om_o : (O.own xs).mineL = true := rfl
@[simp] theorem om_p : (O.pin true xs).mineL = true := rfl
@[simp] theorem lv_d {t : Bool} {kvs : List (D × D)} : (O.dct t kvs).live = true := rfl
@[simp] theorem op_d {t : Bool} {kvs : List (D × D)} : (O.dct t kvs).pinned = false := rfl
@[simp] theorem so_d {t : Bool} {kvs : List (D × D)} : (O.dct t kvs).soft = false := rfl
@[simp] theorem dd_d {t : Bool} {kvs : List (D × D)} : (O.dct t kvs).dd = some (t, kvs) := rfl
@[simp] theorem op_v : (O.val d).pinned = false := rfl
@[simp] theorem op_o : (O.own xs).pinned = false := rfl
@[simp] theorem op_p : (O.pin w xs).pinned = true := rfl
@[simp] theorem op_u : O.un.pinned = false := rfl
@[simp] theorem op_s : (O.scr ns).pinned = false := rfl
@[simp] theorem pu_o : (O.own xs).put ys = .own ys := rfl
@[simp] theorem pu_p : (O.pin w xs).put ys = .pin w ys := rfl
@[simp] theorem ml_o : (O.own xs).ml = some xs := rfl
@[simp] theorem ml_p : (O.pin true xs).ml = some xs := rfl
@[simp] theorem ls_o : (O.own xs).lst = xs := rfl
@[simp] theorem ls_p : (O.pin w xs).lst = xs := rfl
@[simp] theorem so_v : (O.val d).soft = true := rfl
@[simp] theorem so_u : O.un.soft = true := rfl
end
section
variable {α β : Type}
theorem c_bind {r r' : Res α} {f : α → Res β} (h : r = r') : r.bind f = r'.bind f := by rw [h]
theorem c_of {r r' : Res α} {f : α → SRes} (h : r = r') : ofRes r f = ofRes r' f := by rw [h]
theorem c_sb {r r' : SRes} {f : Env → SRes} (h : r = r') : r.bind f = r'.bind f := by rw [h]
@[simp] theorem of_ok {a : α} {f : α → SRes} : ofRes (.ok a) f = f a := rfl
@[simp] theorem of_stuck {f : α → SRes} : ofRes (.stuck : Res α) f = .stuck := rfl
@[simp] theorem of_exc {e : Exn} {f : α → SRes} : ofRes (.exc e : Res α) f = .stuck := rfl
@[simp] theorem sb_next {f : Env → SRes} : (SRes.next env).bind f = f env := rfl
@[simp] theorem sb_ret {o : O} {f : Env → SRes} : (SRes.ret o env).bind f = .ret o env := rfl
@[simp] theorem sb_brk {f : Env → SRes} : (SRes.brk env).bind f = .brk env := rfl
@[simp] theorem sb_cont {f : Env → SRes} : (SRes.cont env).bind f = .cont env := rfl
@[simp] theorem sb_stuck {f : Env → SRes} : SRes.stuck.bind f = .stuck := rfl
@[simp] theorem sb_exc {e : Exn} {f : Env → SRes} : (SRes.exc e env).bind f = .exc e env := rfl
end
def frzF (env : Env) : O → Res (O × Env)
  | .val d => .ok (.val d, env)
  | .own xs => .ok (.val (.list xs), env)
  | .dct _ xs => .ok (.val (.dict xs), env)
  | _ => .stuck
@[simp] theorem e_frzFd {t : Bool} {xs : List (D × D)} : frzF env (.dct t xs) = .ok (.val (.dict xs), env) := rfl
@[simp] theorem e_frz : frz f env = (f env).bind fun p => frzF p.2 p.1 := rfl
@[simp] theorem e_frzF {d : D} : frzF env (.val d) = .ok (.val d, env) := rfl
@[simp] theorem e_frzFo {xs : List D} : frzF env (.own xs) = .ok (.val (.list xs), env) := rfl
def tupF (env : Env) : Option (List D) → Res (O × Env)
  | some ds => .ok (.val (.tuple ds), env)
  | none => .stuck
def lstF (env : Env) : Option (List D) → Res (O × Env)
  | some ds => .ok (.own ds, env)
  | none => .stuck
@[simp] theorem e_mTup {os : List Opd} : mTup os env = (pass os env).bind fun p => tupF p.2 (allV p.1) := rfl
@[simp] theorem e_mLst {os : List Opd} : mLst os env = (pass os env).bind fun p => lstF p.2 (allV p.1) := rfl
@[simp] theorem e_tupF {ds : List D} : tupF env (some ds) = .ok (.val (.tuple ds), env) := rfl
@[simp] theorem e_lstF {ds : List D} : lstF env (some ds) = .ok (.own ds, env) := rfl
@[simp] theorem e_sl0 {o : Opd} : mSl0 o env = m1 (oSl none none) o env := rfl
def slLF (x y : O) : Res O := match oI y with | some i => oSl (some i) none x | none => .stuck
def slHF (x y : O) : Res O := match oI y with | some i => oSl none (some i) x | none => .stuck
@[simp] theorem e_slLF {x : O} {k : Int} : slLF x (.val (.int k)) = oSl (some k) none x := rfl
@[simp] theorem e_slHF {x : O} {k : Int} : slHF x (.val (.int k)) = oSl none (some k) x := rfl
@[simp] theorem e_slL {o l : Opd} : mSlL o l env = m2 slLF o l env := rfl
@[simp] theorem e_slH {o u : Opd} : mSlH o u env = m2 slHF o u env := rfl
@[simp] theorem e_sl2 {o : Opd} {l u : M} : mSl2 o l u env = (pass [o, .m l, .m u] env).bind fin3 := rfl
@[simp] theorem e_oI {k : Int} : oI (.val (.int k)) = some k := rfl
@[simp] theorem e_fin3 {x : O} {i j : Int} : fin3 ([x, .val (.int i), .val (.int j)], env) = if x.live = true then (oSl (some i) (some j) x).bind fun r => .ok (r, env) else .stuck := rfl
@[simp] theorem e_t1 {o : Opd} : t1 o env = (pass [o] env).bind fint := rfl
@[simp] theorem e_tb {m : M} : tb m env = (m env).bind tbv := rfl
@[simp] theorem e_tAnd {a b : T} : tAndS a b env = (a env).bind fun p => if p.1 = true then b p.2 else .ok (false, p.2) := rfl
@[simp] theorem e_tOr {a b : T} : tOrS a b env = (a env).bind fun p => if p.1 = true then .ok (true, p.2) else b p.2 := rfl
@[simp] theorem e_tNot {a : T} : tNotS a env = (a env).bind fun p => .ok (!p.1, p.2) := rfl
@[simp] theorem e_tTrue : tTrue env = .ok (true, env) := rfl
def andF (o : Option Bool) (b : M) (p : O × Env) : Res (O × Env) := match o with
  | some true => b p.2
  | some false => .ok p
  | none => .stuck
def orF (o : Option Bool) (b : M) (p : O × Env) : Res (O × Env) := match o with
  | some true => .ok p
  | some false => b p.2
  | none => .stuck
@[simp] theorem e_mAnd {a b : M} : mAnd a b env = (a env).bind fun p => andF (truthO p.1) b p := rfl
@[simp] theorem e_mOr {a b : M} : mOr a b env = (a env).bind fun p => orF (truthO p.1) b p := rfl
@[simp] theorem e_andF {q : Bool} {b : M} {p : O × Env} : andF (some q) b p = if q = true then b p.2 else .ok p := by cases q <;> rfl
@[simp] theorem e_orF {q : Bool} {b : M} {p : O × Env} : orF (some q) b p = if q = true then .ok p else b p.2 := by cases q <;> rfl
@[simp] theorem e_mIf {t : T} {a b : M} : mIf t a b env = (t env).bind fun p => if p.1 = true then a p.2 else b p.2 := rfl
def ch2 (g : O → O → Res O) (y : D) (z : O × Env) : Res (O × Env) := match z.1 with
  | .val w => (g (.val y) (.val w)).bind fun r => .ok (r, z.2)
  | _ => .stuck
def ch1 (g : O → O → Res O) (c : M) (y : D) (e : Env) (k : O) : Res (O × Env) := match k with
  | .val (.bool true) => (c e).bind (ch2 g y)
  | .val (.bool false) => .ok (.val (.bool false), e)
  | _ => .stuck
def ch0 (f g : O → O → Res O) (c : M) (p : List O × Env) : Res (O × Env) := match p.1 with
  | [.val x, .val y] => (f (.val x) (.val y)).bind (ch1 g c y p.2)
  | _ => .stuck
@[simp] theorem e_mChain {f g : O → O → Res O} {a b c : M} : mChain f g a b c env = (pass [.m a, .m b] env).bind (ch0 f g c) := rfl
@[simp] theorem e_ch0 {f g : O → O → Res O} {c : M} {x y : D} : ch0 f g c ([.val x, .val y], env) = (f (.val x) (.val y)).bind (ch1 g c y env) := rfl
@[simp] theorem e_ch1 {g : O → O → Res O} {c : M} {y : D} {q : Bool} : ch1 g c y env (.val (.bool q)) = if q = true then (c env).bind (ch2 g y) else .ok (.val (.bool false), env) := by cases q <;> rfl
@[simp] theorem e_ch2 {g : O → O → Res O} {y w : D} : ch2 g y (.val w, env) = (g (.val y) (.val w)).bind fun r => .ok (r, env) := rfl
@[simp] theorem e_sSeq {s t : S} : sSeq s t env = (s env).bind t := rfl
@[simp] theorem e_sNop : sNop env = .next env := rfl
@[simp] theorem e_sSet {m : M} : sSet i m env = ofRes (m env) fun p => if (p.2.getD i .un).pinned = true then .stuck else .next (p.2.set i p.1) := rfl
@[simp] theorem e_sRet {m : M} : sRet m env = ofRes (m env) fun p => .ret p.1 p.2 := rfl
@[simp] theorem e_sRetN : sRetN env = .ret (.val .none) env := rfl
@[simp] theorem e_sExpr {m : M} : sExpr m env = ofRes (m env) fun p => .next p.2 := rfl
@[simp] theorem e_sIf {t : T} {a b : S} : sIf t a b env = ofRes (t env) fun p => if p.1 = true then a p.2 else b p.2 := rfl
@[simp] theorem e_sBrk : sBrk env = .brk env := rfl
@[simp] theorem e_sCont : sCont env = .cont env := rfl
@[simp] theorem e_bName {d : D} : bName i d env = if (env.getD i .un).pinned = true then none else some (env.set i (.val d)) := rfl
@[simp] theorem e_bTupT {bs : List Bnd} {ds : List D} : bTup bs (.tuple ds) env = bAll bs ds env := rfl
@[simp] theorem e_bTupL {bs : List Bnd} {ds : List D} : bTup bs (.list ds) env = bAll bs ds env := rfl
@[simp] theorem e_bAll0 : bAll [] [] env = some env := rfl
@[simp] theorem e_bAll1 {b : Bnd} {bs : List Bnd} {d : D} {ds : List D} : bAll (b :: bs) (d :: ds) env = (b d env).bind fun e => bAll bs ds e := rfl
def unp1 : Option Env → SRes
  | some e => .next e
  | none => .stuck
def unp0 (b : Bnd) (e : Env) : Option D → SRes
  | some d => unp1 (b d e)
  | none => .stuck
@[simp] theorem e_sUnp {b : Bnd} {m : M} : sUnp b m env = ofRes (m env) fun p => unp0 b p.2 p.1.d := rfl
@[simp] theorem e_unp0 {b : Bnd} {d : D} : unp0 b env (some d) = unp1 (b d env) := rfl
@[simp] theorem e_unp1 : unp1 (some env) = .next env := rfl
@[simp] theorem e_srcM {m : M} : srcM m env = (frz m env).bind fsrc := rfl
def r1F (p : O × Env) : Res (List D × Env) := match p.1 with
  | .val (.int j) => if small j = true then .ok (rng 0 j.toNat, p.2) else .stuck
  | _ => .stuck
def r2F (p : List O × Env) : Res (List D × Env) := match p.1 with
  | [.val (.int i), .val (.int j)] => if small i = true ∧ small j = true then .ok (rng i (j - i).toNat, p.2) else .stuck
  | _ => .stuck
def enF (p : O × Env) : Res (List D × Env) := match p.1 with
  | .val (.list ds) => .ok (enumFrom 0 ds, p.2)
  | _ => .stuck
def zpF (p : List O × Env) : Res (List D × Env) := match p.1 with
  | [.val (.list ds), .val (.list es)] => .ok (zipD ds es, p.2)
  | [.val (.tuple ds), .val (.tuple es)] => .ok (zipD ds es, p.2)
  | _ => .stuck
@[simp] theorem e_srcR1 {m : M} : srcR1 m env = (m env).bind r1F := rfl
@[simp] theorem e_srcR2 {a b : M} : srcR2 a b env = (pass [.m a, .m b] env).bind r2F := rfl
@[simp] theorem e_srcEn {m : M} : srcEn m env = (frz m env).bind enF := rfl
@[simp] theorem e_srcZip {a b : M} : srcZip a b env = (pass [.m (frz a), .m (frz b)] env).bind zpF := rfl
@[simp] theorem e_r1F {j : Int} (h : small j = true) : r1F (.val (.int j), env) = .ok (rng 0 j.toNat, env) := by
  show (if _ then _ else _) = _
  rw [if_pos h]
@[simp] theorem e_r2F {i j : Int} (h1 : small i = true) (h2 : small j = true) : r2F ([.val (.int i), .val (.int j)], env) = .ok (rng i (j - i).toNat, env) := by
  show (if _ then _ else _) = _
  rw [if_pos ⟨h1, h2⟩]
@[simp] theorem e_enF {ds : List D} : enF (.val (.list ds), env) = .ok (enumFrom 0 ds, env) := rfl
@[simp] theorem e_zpL {ds es : List D} : zpF ([.val (.list ds), .val (.list es)], env) = .ok (zipD ds es, env) := rfl
@[simp] theorem e_zpT {ds es : List D} : zpF ([.val (.tuple ds), .val (.tuple es)], env) = .ok (zipD ds es, env) := rfl
@[simp] theorem e_sFor {src : Src} {g : Bnd} {body : S} : sFor src g body env = ofRes (src env) fun p => forL g body p.1 p.2 := rfl
@[simp] theorem e_forL0 {g : Bnd} {body : S} : forL g body [] env = .next env := rfl
@[simp] theorem e_mComp {src : Src} {g : Bnd} {t : T} {elt : M} {vs : List Nat} : mComp src g t elt vs env = (src env).bind fun p => if vs.all (fun i => (p.2.getD i .un).soft) = true then (compL g t elt vs p.1 [] (wipeE p.2 vs)).bind fun q => .ok (.own q.1, restE p.2 q.2 vs) else .stuck := rfl
@[simp] theorem e_compL0 {g : Bnd} {t : T} {elt : M} {vs : List Nat} {acc : List D} : compL g t elt vs [] acc env = .ok (acc, env) := rfl
@[simp] theorem e_wipe0 : wipeE env [] = env := rfl
@[simp] theorem e_wipe1 {vs : List Nat} : wipeE env (i :: vs) = (wipeE env vs).set i .un := rfl
@[simp] theorem e_rest0 {e0 : Env} : restE e0 env [] = env := rfl
@[simp] theorem e_rest1 {e0 : Env} {vs : List Nat} : restE e0 env (i :: vs) = (restE e0 env vs).set i (e0.getD i .un) := rfl
def methF (i : Nat) (f : List D → List D → Res (D × List D)) (env : Env) (a b : Option (List D)) : Res (O × Env) := match a, b with
  | some xs, some ds => (f xs ds).bind fun q => .ok (.val q.1, env.set i ((env.getD i .un).put q.2))
  | _, _ => .stuck
@[simp] theorem e_mMeth {os : List Opd} {f : List D → List D → Res (D × List D)} : mMeth i os f env = if (env.getD i .un).mineL = true then (pass os env).bind fun p => methF i f p.2 (p.2.getD i .un).ml (allV p.1) else .stuck := rfl
@[simp] theorem e_methF {f : List D → List D → Res (D × List D)} {xs ds : List D} : methF i f env (some xs) (some ds) = (f xs ds).bind fun q => .ok (.val q.1, env.set i ((env.getD i .un).put q.2)) := rfl
@[simp] theorem e_fApp {xs : List D} {d : D} : fAppend xs [d] = if xs.length < 16777216 then .ok (.none, xs ++ [d]) else .stuck := rfl
def popG (xs : List D) (k : Nat) : Option D → Res (D × List D)
  | some d => .ok (d, xs.eraseIdx k)
  | none => .stuck
def popF (xs : List D) : Option Nat → Res (D × List D)
  | some k => popG xs k xs[k]?
  | none => .stuck
@[simp] theorem e_popG {xs : List D} {k : Nat} {d : D} : popG xs k (some d) = .ok (d, xs.eraseIdx k) := rfl
@[simp] theorem e_popF {xs : List D} {k : Nat} : popF xs (some k) = popG xs k xs[k]? := rfl
@[simp] theorem e_fPopAt {xs : List D} {k : Int} (h : small k = true) : fPopAt xs [.int k] = popF xs (ixN xs.length k) := by
  show (if _ then _ else _) = _
  rw [if_pos h]
  cases ixN xs.length k with
  | none => rfl
  | some j => cases e : xs[j]? with
    | none => simp [popF, popG, e]
    | some d => simp [popF, popG, e]
@[simp] theorem e_fRev {xs : List D} : fReverse xs [] = .ok (.none, xs.reverse) := rfl
@[simp] theorem e_fClr {xs : List D} : fClear xs [] = .ok (.none, []) := rfl
@[simp] theorem e_fExt {xs zs : List D} : fExtend xs [.list zs] = if xs.length + zs.length ≤ 16777216 then .ok (.none, xs ++ zs) else .stuck := rfl
@[simp] theorem e_fixI {k : Int} : fixI (.val (.int k)) = some k := rfl
def putI (i : Nat) (env : Env) (xs : List D) (d : D) : Option Nat → SRes
  | some j => .next (env.set i ((env.getD i .un).put (xs.set j d)))
  | none => .stuck
def setF (i : Nat) (env : Env) (r : O) (k : Option Int) (xs : Option (List D)) : SRes := match r, k, xs with
  | .val d, some k, some xs => putI i env xs d (ixN xs.length k)
  | _, _, _ => .stuck
@[simp] theorem sSetIx_eq {ix m : M} : sSetIx i ix m env = ofRes (frz m env) fun p => if (p.2.getD i .un).live = true then ofRes (ix p.2) fun q => setF i q.2 p.1 (fixI q.1) (q.2.getD i .un).ml else .stuck := rfl
@[simp] theorem e_setF {d : D} {k : Int} {xs : List D} : setF i env (.val d) (some k) (some xs) = putI i env xs d (ixN xs.length k) := rfl
@[simp] theorem e_putI {xs : List D} {d : D} {j : Nat} : putI i env xs d (some j) = .next (env.set i ((env.getD i .un).put (xs.set j d))) := rfl
def augF (i : Nat) (f : O → O → Res O) (m : M) (env : Env) : O → SRes
  | .val d => ofRes (frz m env) fun p => ofRes (f (.val d) p.1) fun r => if (p.2.getD i .un).pinned = true then .stuck else .next (p.2.set i r)
  | _ => .stuck
@[simp] theorem e_sAug {f : O → O → Res O} {m : M} : sAug i f m env = augF i f m env (env.getD i .un) := rfl
@[simp] theorem e_augF {f : O → O → Res O} {m : M} {d : D} : augF i f m env (.val d) = ofRes (frz m env) fun p => ofRes (f (.val d) p.1) fun r => if (p.2.getD i .un).pinned = true then .stuck else .next (p.2.set i r) := rfl
def aix2 (i : Nat) (k : Int) (env : Env) (r : O) (ys : Option (List D)) : SRes := match r, ys with
  | .val d, some ys => putI i env ys d (ixN ys.length k)
  | _, _ => .stuck
def aix1 (i : Nat) (f : O → O → Res O) (m : M) (env : Env) (k : Int) : Option D → SRes
  | some d => ofRes (frz m env) fun p => ofRes (f (.val d) p.1) fun r => aix2 i k p.2 r (p.2.getD i .un).ml
  | none => .stuck
def aix0 (i : Nat) (f : O → O → Res O) (m : M) (env : Env) (k : Option Int) (xs : Option (List D)) : SRes := match k, xs with
  | some k, some xs => aix1 i f m env k (atI xs k)
  | _, _ => .stuck
@[simp] theorem sAugIx_eq {ix m : M} {f : O → O → Res O} : sAugIx i ix f m env = if (env.getD i .un).live = true then ofRes (ix env) fun q => aix0 i f m q.2 (fixI q.1) (q.2.getD i .un).l else .stuck := rfl
@[simp] theorem e_aix0 {f : O → O → Res O} {m : M} {k : Int} {xs : List D} : aix0 i f m env (some k) (some xs) = aix1 i f m env k (atI xs k) := rfl
@[simp] theorem e_aix1 {f : O → O → Res O} {m : M} {k : Int} {d : D} : aix1 i f m env k (some d) = ofRes (frz m env) fun p => ofRes (f (.val d) p.1) fun r => aix2 i k p.2 r (p.2.getD i .un).ml := rfl
@[simp] theorem e_aix2 {k : Int} {d : D} {ys : List D} : aix2 i k env (.val d) (some ys) = putI i env ys d (ixN ys.length k) := rfl
def callF (fn : Fn) (is : List Nat) (env : Env) : Option (List O) → Res (O × Env)
  | some os => (fn os).bind fun q => .ok (q.1, putIO is q.2 env)
  | none => .stuck
@[simp] theorem e_mCall {fn : Fn} {args : List Arg} : mCall fn args env = (pass (args.map Arg.opd) env).bind fun p => callF fn ((ioAt 0 args).map (·.2)) p.2 (preps args p.1) := rfl
@[simp] theorem e_callF {fn : Fn} {is : List Nat} {os : List O} : callF fn is env (some os) = (fn os).bind fun q => .ok (q.1, putIO is q.2 env) := rfl
@[simp] theorem e_opdv {m : M} : Arg.opd (.v m) = .m (frz m) := rfl
@[simp] theorem e_opdi : Arg.opd (.io i) = .pk i := rfl
@[simp] theorem e_opds : Arg.opd (.sc i) = .pk i := rfl
@[simp] theorem e_ioAt0 {k : Nat} : ioAt k [] = [] := rfl
@[simp] theorem e_ioAti {k : Nat} {r : List Arg} : ioAt k (.io i :: r) = (k, i) :: ioAt (k + 1) r := rfl
@[simp] theorem e_ioAtv {k : Nat} {m : M} {r : List Arg} : ioAt k (.v m :: r) = ioAt (k + 1) r := rfl
@[simp] theorem e_ioAts {k : Nat} {r : List Arg} : ioAt k (.sc i :: r) = ioAt (k + 1) r := rfl
@[simp] theorem e_preps0 : preps [] [] = some [] := rfl
def consO (a : Option O) (b : Option (List O)) : Option (List O) := match a, b with
  | some o, some os => some (o :: os)
  | _, _ => none
@[simp] theorem e_consO {o : O} {os : List O} : consO (some o) (some os) = some (o :: os) := rfl
@[simp] theorem e_preps1 {a : Arg} {as : List Arg} {r : O} {rs : List O} : preps (a :: as) (r :: rs) = consO (prep a r) (preps as rs) := rfl
@[simp] theorem e_prv {m : M} {d : D} : prep (.v m) (.val d) = some (.val d) := rfl
@[simp] theorem e_prio {xs : List D} : prep (.io i) (.own xs) = some (.pin true xs) := rfl
@[simp] theorem e_prip {xs : List D} : prep (.io i) (.pin true xs) = some (.pin true xs) := rfl
@[simp] theorem e_prsc {ns : List Int} : prep (.sc i) (.scr ns) = some (.scr ns) := rfl
@[simp] theorem e_put0 {xss : List (List D)} : putIO [] xss env = env := by cases xss <;> rfl
@[simp] theorem e_put1 {is : List Nat} {xs : List D} {xss : List (List D)} : putIO (i :: is) (xs :: xss) env = putIO is xss (env.set i ((env.getD i .un).put xs)) := rfl
@[simp] theorem e_outs0 : outsOf [] env = [] := rfl
@[simp] theorem e_outs1 {ks : List Nat} : outsOf (i :: ks) env = (env.getD i .un).lst :: outsOf ks env := rfl
@[simp] theorem e_fEndN {ks : List Nat} : fEnd ks (.next env) = .ok (.val .none, outsOf ks env) := rfl
@[simp] theorem e_fEndR {ks : List Nat} {o : O} : fEnd ks (.ret o env) = .ok (o, outsOf ks env) := rfl
@[simp] theorem e_fEndX {ks : List Nat} {e : Exn} : fEnd ks (.exc e env) = .exc e := rfl
@[simp] theorem e_fBody {n : Nat} {ks : List Nat} {s : S} {os : List O} : fBody n ks s os = fEnd ks (s (os ++ List.replicate (n - os.length) .un)) := rfl
end
@[simp] theorem bind_ite {α β : Type} {c : Prop} [Decidable c] (a b : Res α) (f : α → Res β) : (if c then a else b).bind f = if c then a.bind f else b.bind f := by split <;> rfl
@[simp] theorem of_ite {α : Type} {c : Prop} [Decidable c] (a b : Res α) (f : α → SRes) : ofRes (if c then a else b) f = if c then ofRes a f else ofRes b f := by split <;> rfl
@[simp] theorem sb_ite {c : Prop} [Decidable c] (a b : SRes) (f : Env → SRes) : (if c then a else b).bind f = if c then a.bind f else b.bind f := by split <;> rfl
@[simp] theorem fe_ite {c : Prop} [Decidable c] {ks : List Nat} (a b : SRes) : fEnd ks (if c then a else b) = if c then fEnd ks a else fEnd ks b := by split <;> rfl
section
variable {i j : Int} {a b : Str} {xs ys : List D} {p q : Bool} {d e : D} {ns : List Int} {w w' : Bool}
@[simp] theorem e_add : oAdd (.val (.int i)) (.val (.int j)) = .ok (.val (.int (i + j))) := rfl
@[simp] theorem e_addS : oAdd (.val (.str a)) (.val (.str b)) = if a.length + b.length ≤ 16777216 then .ok (.val (.str (a ++ b))) else .stuck := rfl
@[simp] theorem e_addT : oAdd (.val (.tuple xs)) (.val (.tuple ys)) = if xs.length + ys.length ≤ 16777216 then .ok (.val (.tuple (xs ++ ys))) else .stuck := rfl
@[simp] theorem e_addL1 : oAdd (.val (.list xs)) (.val (.list ys)) = if xs.length + ys.length ≤ 16777216 then .ok (.own (xs ++ ys)) else .stuck := rfl
@[simp] theorem e_addL2 : oAdd (.own xs) (.val (.list ys)) = if xs.length + ys.length ≤ 16777216 then .ok (.own (xs ++ ys)) else .stuck := rfl
@[simp] theorem e_addL3 : oAdd (.val (.list xs)) (.own ys) = if xs.length + ys.length ≤ 16777216 then .ok (.own (xs ++ ys)) else .stuck := rfl
@[simp] theorem e_addL4 : oAdd (.own xs) (.own ys) = if xs.length + ys.length ≤ 16777216 then .ok (.own (xs ++ ys)) else .stuck := rfl
@[simp] theorem e_addI : oAddS (.val (.int i)) (.val (.int j)) = .ok (.val (.int (i + j))) := rfl
@[simp] theorem e_addSS : oAddS (.val (.str a)) (.val (.str b)) = if a.length + b.length ≤ 16777216 then .ok (.val (.str (a ++ b))) else .stuck := rfl
@[simp] theorem e_sub : oSub (.val (.int i)) (.val (.int j)) = .ok (.val (.int (i - j))) := rfl
@[simp] theorem e_mul (h : small i = true ∨ small j = true) : oMul (.val (.int i)) (.val (.int j)) = .ok (.val (.int (i * j))) := by
  show (if _ then _ else _) = _
  rw [if_pos h]
@[simp] theorem e_mulO (h : small j = true) (h2 : xs.length * j.toNat ≤ 16777216) : oMul (.own xs) (.val (.int j)) = .ok (.own (List.replicate j.toNat xs).flatten) := by
  show (if _ then _ else _) = _
  rw [if_pos ⟨h, h2⟩]
@[simp] theorem e_mulL (h : small j = true) (h2 : xs.length * j.toNat ≤ 16777216) : oMul (.val (.list xs)) (.val (.int j)) = .ok (.own (List.replicate j.toNat xs).flatten) := by
  show (if _ then _ else _) = _
  rw [if_pos ⟨h, h2⟩]
@[simp] theorem e_mod (h : 0 < j) : oMod (.val (.int i)) (.val (.int j)) = .ok (.val (.int (i % j))) := by
  show (if _ then _ else _) = _
  rw [if_pos h]
@[simp] theorem e_div (h : 0 < j) (h2 : j ≤ 1000000000000) : oDiv (.val (.int i)) (.val (.int j)) = .ok (.val (.int (i / j))) := by
  show (if _ then _ else _) = _
  rw [if_pos ⟨h, Nat.ble_eq_true_of_le (by omega)⟩]
@[simp] theorem e_pow (h : 0 ≤ j) (h2 : j ≤ 1000000) (h3 : small i = true) : oPow (.val (.int i)) (.val (.int j)) = .ok (.val (.int (i ^ j.toNat))) := by
  show (if _ then _ else _) = _
  rw [if_pos ⟨h, Nat.ble_eq_true_of_le (by omega), h3⟩]
@[simp] theorem e_neg : oNeg (.val (.int i)) = .ok (.val (.int (-i))) := rfl
@[simp] theorem e_lt : oLt (.val (.int i)) (.val (.int j)) = .ok (.val (.bool (decide (i < j)))) := rfl
@[simp] theorem e_le : oLe (.val (.int i)) (.val (.int j)) = .ok (.val (.bool (decide (i ≤ j)))) := rfl
@[simp] theorem e_gt : oGt (.val (.int i)) (.val (.int j)) = .ok (.val (.bool (decide (j < i)))) := rfl
@[simp] theorem e_ge : oGe (.val (.int i)) (.val (.int j)) = .ok (.val (.bool (decide (j ≤ i)))) := rfl
def ofB (b : Option Bool) : Res O := match b with
  | some b => .ok (.val (.bool b))
  | none => .stuck
@[simp] theorem e_ofB : ofB (some p) = .ok (.val (.bool p)) := rfl
theorem oIs_eq (x y : O) : oIs x y = ofB (isO x y) := rfl
theorem oIsNot_eq (x y : O) : oIsNot x y = ofB ((isO x y).map not) := by unfold oIsNot ofB; cases isO x y <;> rfl
@[simp] theorem is_v : oIs (.val d) (.val e) = ofB (isD d e) := rfl
@[simp] theorem is_o : oIs (.own xs) (.val e) = ofB (isD (.list xs) e) := rfl
@[simp] theorem is_p : oIs (.pin w xs) (.val e) = ofB (isD (.list xs) e) := rfl
@[simp] theorem isN_v : oIsNot (.val d) (.val e) = ofB ((isD d e).map not) := oIsNot_eq _ _
@[simp] theorem isN_o : oIsNot (.own xs) (.val e) = ofB ((isD (.list xs) e).map not) := oIsNot_eq _ _
@[simp] theorem isN_p : oIsNot (.pin w xs) (.val e) = ofB ((isD (.list xs) e).map not) := oIsNot_eq _ _
@[simp] theorem id_nn : isD .none .none = some true := rfl
@[simp] theorem id_bn : isD (.bool p) .none = some false := rfl
@[simp] theorem id_in : isD (.int i) .none = some false := rfl
@[simp] theorem id_sn : isD (.str a) .none = some false := rfl
@[simp] theorem id_ln : isD (.list xs) .none = some false := rfl
@[simp] theorem id_tn : isD (.tuple xs) .none = some false := rfl
@[simp] theorem id_nb : isD .none (.bool q) = some false := rfl
@[simp] theorem id_bb : isD (.bool p) (.bool q) = some (p == q) := rfl
@[simp] theorem id_ib : isD (.int i) (.bool q) = some false := rfl
@[simp] theorem id_sb : isD (.str a) (.bool q) = some false := rfl
@[simp] theorem id_lb : isD (.list xs) (.bool q) = some false := rfl
@[simp] theorem id_tb : isD (.tuple xs) (.bool q) = some false := rfl
theorem oEq_ofB {x y : O} {d e : D} (h1 : x.d = some d) (h2 : y.d = some e) : oEq x y = ofB (eqD d e) := by unfold oEq; rw [h1, h2]; rfl
theorem oNe_ofB {x y : O} {d e : D} (h1 : x.d = some d) (h2 : y.d = some e) : oNe x y = ofB ((eqD d e).map not) := by unfold oNe; rw [h1, h2]; show (match eqD d e with | some b => _ | none => _) = _; cases eqD d e <;> rfl
@[simp] theorem eq_vv : oEq (.val d) (.val e) = ofB (eqD d e) := oEq_ofB rfl rfl
@[simp] theorem eq_ov : oEq (.own xs) (.val e) = ofB (eqD (.list xs) e) := oEq_ofB rfl rfl
@[simp] theorem eq_vo : oEq (.val d) (.own ys) = ofB (eqD d (.list ys)) := oEq_ofB rfl rfl
@[simp] theorem eq_oo : oEq (.own xs) (.own ys) = ofB (eqD (.list xs) (.list ys)) := oEq_ofB rfl rfl
@[simp] theorem ne_vv : oNe (.val d) (.val e) = ofB ((eqD d e).map not) := oNe_ofB rfl rfl
@[simp] theorem ne_ov : oNe (.own xs) (.val e) = ofB ((eqD (.list xs) e).map not) := oNe_ofB rfl rfl
@[simp] theorem ne_vo : oNe (.val d) (.own ys) = ofB ((eqD d (.list ys)).map not) := oNe_ofB rfl rfl
@[simp] theorem ne_oo : oNe (.own xs) (.own ys) = ofB ((eqD (.list xs) (.list ys)).map not) := oNe_ofB rfl rfl
@[simp] theorem ed_ii : eqD (.int i) (.int j) = some (i == j) := by
  unfold eqD
  simp [SeqAt.shaped, PyData.canLay0, PyData.depth, PyData.eqv]
@[simp] theorem ed_bb : eqD (.bool p) (.bool q) = some (p == q) := by
  unfold eqD
  simp [SeqAt.shaped, PyData.canLay0, PyData.depth, PyData.eqv]
@[simp] theorem ed_nn : eqD .none .none = some true := rfl
@[simp] theorem ed_in : eqD (.int i) .none = some false := rfl
@[simp] theorem ed_bn : eqD (.bool p) .none = some false := rfl
@[simp] theorem len_v : oLen (.val (.list xs)) = .ok (.val (.int xs.length)) := rfl
@[simp] theorem len_t : oLen (.val (.tuple xs)) = .ok (.val (.int xs.length)) := rfl
@[simp] theorem len_o : oLen (.own xs) = .ok (.val (.int xs.length)) := rfl
@[simp] theorem len_p : oLen (.pin w xs) = .ok (.val (.int xs.length)) := rfl
@[simp] theorem len_s : oLen (.val (.str a)) = if a.length ≤ 16777216 then .ok (.val (.int a.length)) else .stuck := rfl
@[simp] theorem e_abs : oAbs (.val (.int i)) = .ok (.val (.int (if i < 0 then -i else i))) := rfl
@[simp] theorem e_int : oInt (.val (.int i)) = .ok (.val (.int i)) := rfl
@[simp] theorem e_intb : oInt (.val (.bool p)) = .ok (.val (.int (if p then 1 else 0))) := rfl
@[simp] theorem e_max : oMax (.val (.int i)) (.val (.int j)) = .ok (.val (.int (if j > i then j else i))) := rfl
@[simp] theorem e_min : oMin (.val (.int i)) (.val (.int j)) = .ok (.val (.int (if j < i then j else i))) := rfl
@[simp] theorem e_ls : oList (.scr ns) = .ok (.own (ns.map .int)) := rfl
@[simp] theorem e_lt' : oList (.val (.tuple xs)) = .ok (.own xs) := rfl
@[simp] theorem e_ll : oList (.val (.list xs)) = .ok (.own xs) := rfl
@[simp] theorem e_lo : oList (.own xs) = .ok (.own xs) := rfl
@[simp] theorem e_lp : oList (.pin w xs) = .ok (.own xs) := rfl
@[simp] theorem e_tt : oTuple (.val (.tuple xs)) = .ok (.val (.tuple xs)) := rfl
@[simp] theorem e_tl : oTuple (.val (.list xs)) = .ok (.val (.tuple xs)) := rfl
@[simp] theorem e_to : oTuple (.own xs) = .ok (.val (.tuple xs)) := rfl
@[simp] theorem isi_v {T : String} : oIsi T (.val d) = if nodD d = true then .ok (.val (.bool (isiD T d))) else .stuck := rfl
@[simp] theorem nod_n : nodD .none = true := rfl
@[simp] theorem nod_b : nodD (.bool p) = true := rfl
@[simp] theorem nod_i : nodD (.int i) = true := rfl
@[simp] theorem nod_s : nodD (.str a) = true := rfl
@[simp] theorem nod_l : nodD (.list xs) = true := rfl
@[simp] theorem nod_t : nodD (.tuple xs) = true := rfl
@[simp] theorem isi_o {T : String} : oIsi T (.own xs) = .ok (.val (.bool (isiD T (.list xs)))) := rfl
@[simp] theorem isi_p {T : String} : oIsi T (.pin w xs) = .ok (.val (.bool (isiD T (.list xs)))) := rfl
@[simp] theorem isi_eq {T : String} {d : D} : isiD T d = (tyD d == T || (T == "int" && tyD d == "bool")) := rfl
@[simp] theorem ty_n : tyD .none = "NoneType" := rfl
@[simp] theorem ty_b : tyD (.bool p) = "bool" := rfl
@[simp] theorem ty_i : tyD (.int i) = "int" := rfl
@[simp] theorem ty_s : tyD (.str a) = "str" := rfl
@[simp] theorem ty_l : tyD (.list xs) = "list" := rfl
@[simp] theorem ty_t : tyD (.tuple xs) = "tuple" := rfl
@[simp] theorem tr_n : truthO (.val .none) = some false := rfl
@[simp] theorem tr_b : truthO (.val (.bool p)) = some p := rfl
@[simp] theorem tr_i : truthO (.val (.int i)) = some (i != 0) := rfl
@[simp] theorem tr_s : truthO (.val (.str a)) = if a.length ≤ 16777216 then some ((a.length : Int) != 0) else none := rfl
@[simp] theorem tr_t : truthO (.val (.tuple xs)) = some (!xs.isEmpty) := rfl
@[simp] theorem tr_l : truthO (.val (.list xs)) = some (!xs.isEmpty) := rfl
@[simp] theorem tr_o : truthO (.own xs) = some (!xs.isEmpty) := rfl
@[simp] theorem tr_p : truthO (.pin w xs) = some (!xs.isEmpty) := rfl
def ofN (b : Option Bool) : Res O := match b with
  | some b => .ok (.val (.bool (!b)))
  | none => .stuck
@[simp] theorem e_ofN : ofN (some p) = .ok (.val (.bool (!p))) := rfl
@[simp] theorem e_not {x : O} : oNot x = ofN (truthO x) := rfl
end
def ofD (o : Option D) : Res O := match o with
  | some d => .ok (.val d)
  | none => .stuck
@[simp] theorem e_ofD {d : D} : ofD (some d) = .ok (.val d) := rfl
@[simp] theorem e_ix {xs : List D} {i : Int} : oIx (.val (.tuple xs)) (.val (.int i)) = ofD (atI xs i) := rfl
@[simp] theorem e_ixl {xs : List D} {i : Int} : oIx (.val (.list xs)) (.val (.int i)) = ofD (atI xs i) := rfl
@[simp] theorem e_ixo {xs : List D} {i : Int} : oIx (.own xs) (.val (.int i)) = ofD (atI xs i) := rfl
@[simp] theorem e_ixp {w : Bool} {xs : List D} {i : Int} : oIx (.pin w xs) (.val (.int i)) = ofD (atI xs i) := rfl
theorem ixN_n (l n : Nat) : ixN l (n : Int) = if n < l then some n else none := by
  unfold ixN
  rw [if_pos (by omega)]
  by_cases h : n < l
  · rw [if_pos (by omega), if_pos h]; simp
  · rw [if_neg (by omega), if_neg h]
theorem atI_n {α : Type} (xs : List α) (n : Nat) : atI xs (n : Int) = xs[n]? := by
  unfold atI
  rw [ixN_n]
  by_cases h : n < xs.length
  · rw [if_pos h]; rfl
  · rw [if_neg h, List.getElem?_eq_none (by omega)]; rfl
@[simp] theorem atI_z {α : Type} (xs : List α) : atI xs 0 = xs[0]? := atI_n xs 0
@[simp] theorem atI_o {α : Type} (xs : List α) : atI xs 1 = xs[1]? := atI_n xs 1
@[simp] theorem atI_l {α : Type} (xs : List α) (n : Nat) : atI xs (no_index (OfNat.ofNat n : Int)) = xs[n]? := atI_n xs n
@[simp] theorem ixN_z (l : Nat) : ixN l 0 = if 0 < l then some 0 else none := ixN_n l 0
@[simp] theorem ixN_o (l : Nat) : ixN l 1 = if 1 < l then some 1 else none := ixN_n l 1
@[simp] theorem ixN_l (l n : Nat) : ixN l (no_index (OfNat.ofNat n : Int)) = if n < l then some n else none := ixN_n l n
@[simp] theorem e_eqS {a b : Str} : eqD (.str a) (.str b) = some (a == b) := rfl
@[simp] theorem e_eqSN {a : Str} : eqD (.str a) .none = some false := rfl
@[simp] theorem e_eqNS {a : Str} : eqD .none (.str a) = some false := rfl
/-! ### dicts -/
section
variable {env : Env} {i : Nat} {t : Bool} {kvs : List (D × D)} {k d w : D} {m mk : M} {a : Opd} {x y : O}
@[simp] theorem e_mDct : mDct t env = .ok (.dct t [], env) := rfl
@[simp] theorem ok_i {j : Int} : okKey false (.int j) = true := rfl
@[simp] theorem ok_s {z : Str} : okKey false (.str z) = true := rfl
@[simp] theorem e_dget : oDGet (.dct t kvs) (.val k) = if okKey t k = true then ofD (getK kvs k) else .stuck := by
  show (if _ then _ else _) = _
  cases getK kvs k <;> rfl
@[simp] theorem e_din : oDIn (.val k) (.dct t kvs) = if okKey t k = true then .ok (.val (.bool (getK kvs k).isSome)) else .stuck := rfl
@[simp] theorem e_dnin : oDNotIn (.val k) (.dct t kvs) = if okKey t k = true then .ok (.val (.bool (!(getK kvs k).isSome))) else .stuck := rfl
@[simp] theorem e_sDSet : sDSet i mk m env = ofRes (frz m env) fun p => if (p.2.getD i .un).live = true then ofRes (mk p.2) fun q => dsetF i q.2 p.1 q.1 (q.2.getD i .un) else .stuck := rfl
@[simp] theorem e_dsetF : dsetF i env (.val d) (.val k) (.dct t kvs) = if (okKey t k && Nat.blt kvs.length 16777216) = true then .next (env.set i (.dct t (putD kvs k d))) else .stuck := rfl
@[simp] theorem e_mDM {f : O → O → Res O} : mDM i a f env = if (env.getD i .un).dd.isSome = true then m2 f (.pk i) a env else .stuck := rfl
@[simp] theorem e_dget1 : oDGet1 (.dct t kvs) (.val k) = if okKey t k = true then .ok (.val ((getK kvs k).getD .none)) else .stuck := rfl
@[simp] theorem e_mDGet2 : mDGet2 i mk m env = if (env.getD i .un).dd.isSome = true then (pass [.pk i, .m (frz mk), .m (frz m)] env).bind fin3g else .stuck := rfl
@[simp] theorem e_fin3g : fin3g ([.dct t kvs, .val k, .val w], env) = if okKey t k = true then .ok (.val ((getK kvs k).getD w), env) else .stuck := by
  show (if (true && okKey t k) = true then _ else _) = _
  rw [Bool.true_and]
@[simp] theorem e_sortDK : oSortDK (.dct false kvs) = if okAlike (kvs.map (·.1)) = true then .ok (.own (sortD (kvs.map (·.1)))) else .stuck := rfl
@[simp] theorem e_mSortIt : mSortIt i env = itemsF env (env.getD i .un).dd := rfl
@[simp] theorem e_itemsF : itemsF env (some (false, kvs)) = if okItems kvs = true then .ok (.own (sortD (kvs.map fun kv => .tuple [kv.1, kv.2])), env) else .stuck := rfl
@[simp] theorem e_mPopD : mPopD i mk d env = if (env.getD i .un).dd.isSome = true then (mk env).bind fun p => popDF i p.2 d p.1 (p.2.getD i .un) else .stuck := rfl
def popG2 (i : Nat) (env : Env) (kvs : List (D × D)) (k x : D) : Option D → Res (O × Env)
  | some d => .ok (.val d, env.set i (.dct false (dropD kvs k)))
  | none => .ok (.val x, env)
@[simp] theorem e_popDF : popDF i env d (.val k) (.dct false kvs) = if okKey false k = true then popG2 i env kvs k d (getK kvs k) else .stuck := by
  show (if _ then _ else _) = _
  cases getK kvs k <;> rfl
@[simp] theorem e_popG2s : popG2 i env kvs k w (some d) = .ok (.val d, env.set i (.dct false (dropD kvs k))) := rfl
@[simp] theorem e_popG2n : popG2 i env kvs k w none = .ok (.val w, env) := rfl
@[simp] theorem e_mDisp {ps : List (M × M)} : mDisp ps env = (pass (flatP ps) env).bind dispF := rfl
@[simp] theorem e_flat0 : flatP [] = [] := rfl
@[simp] theorem e_flat1 {kv : M × M} {r : List (M × M)} : flatP (kv :: r) = .m (frz kv.1) :: .m (frz kv.2) :: flatP r := rfl
def dispG (env : Env) : Option (List (D × D)) → Res (O × Env)
  | some kvs => if Nat.ble kvs.length 15 = true then .ok (.dct false (mergeD [] kvs), env) else .stuck
  | none => .stuck
@[simp] theorem e_dispF {rs : List O} : dispF (rs, env) = dispG env (dPairs rs) := rfl
@[simp] theorem e_dispG : dispG env (some kvs) = if Nat.ble kvs.length 15 = true then .ok (.dct false (mergeD [] kvs), env) else .stuck := rfl
@[simp] theorem e_dPairs0 : dPairs [] = some [] := rfl
@[simp] theorem e_dPairs1 {r : List O} : dPairs (.val k :: .val w :: r) = if okKey false k = true then (dPairs r).map ((k, w) :: ·) else none := rfl
@[simp] theorem e_merge0 : mergeD kvs [] = kvs := rfl
@[simp] theorem e_merge1 {kv : D × D} {r : List (D × D)} : mergeD kvs (kv :: r) = mergeD (putD kvs kv.1 kv.2) r := rfl
@[simp] theorem e_srcRd {ma mb : M} : srcRd ma mb env = (pass [.m ma, .m mb] env).bind fun p => match p.1 with
  | [.val (.int i), .val (.int j)] => if small i = true ∧ small j = true then .ok (rngC i (-1) (i - j).toNat, p.2) else .stuck
  | _ => .stuck := rfl
theorem okLt_i (i j : Int) : okLt (.int i) (.int j) = true := by simp [okLt, PySem.W.alike, PyData.plain, PyData.depth]
theorem ltF_i (f : D → D → Bool) (i j : Int) : ltF f (.val (.int i)) (.val (.int j)) = .ok (.val (.bool (f (.int i) (.int j)))) := by
  have : ltF f (.val (.int i)) (.val (.int j)) = if okLt (.int i) (.int j) = true then .ok (.val (.bool (f (.int i) (.int j)))) else .stuck := rfl
  rw [this, if_pos (okLt_i i j)]
@[simp] theorem e_ltX {i j : Int} : oLtX (.val (.int i)) (.val (.int j)) = .ok (.val (.bool (decide (i < j)))) := by
  unfold oLtX; rw [ltF_i, PySem.W.dataLt_int]
@[simp] theorem e_gtX {i j : Int} : oGtX (.val (.int i)) (.val (.int j)) = .ok (.val (.bool (decide (j < i)))) := by
  unfold oGtX; rw [ltF_i, PySem.W.dataLt_int]
@[simp] theorem e_leX {i j : Int} : oLeX (.val (.int i)) (.val (.int j)) = .ok (.val (.bool (decide (i ≤ j)))) := by
  unfold oLeX; rw [ltF_i, PySem.W.dataLt_int]
  congr 3
  rw [Bool.eq_iff_iff]; simp
@[simp] theorem e_geX {i j : Int} : oGeX (.val (.int i)) (.val (.int j)) = .ok (.val (.bool (decide (j ≤ i)))) := by
  unfold oGeX; rw [ltF_i, PySem.W.dataLt_int]
  congr 3
  rw [Bool.eq_iff_iff]; simp
end
section
variable {env : Env} {m : M} {sl : List Nat} {k : Nat} {o : O} {d : D} {xs : List D} {t : Bool} {kvs : List (D × D)} {b : Bool}
@[simp] theorem e_mScope : mScope sl m env = (m (hideK sl 0 env)).bind (scopeF env) := rfl
@[simp] theorem e_scopeF {env2 : Env} : scopeF env (.val d, env2) = if flat d = true then .ok (.val d, env) else .stuck := rfl
@[simp] theorem e_hide0 : hideK sl k [] = [] := rfl
@[simp] theorem e_hide1 {r : Env} : hideK sl k (o :: r) = hideO (sl.contains k) o :: hideK sl (k + 1) r := rfl
@[simp] theorem e_hideV : hideO b (.val d) = .val d := rfl
@[simp] theorem e_hideO : hideO true (.own xs) = .val (.list xs) := rfl
@[simp] theorem e_hideN : hideO false (.own xs) = .un := rfl
@[simp] theorem e_hideP {w : Bool} : hideO b (.pin w xs) = .un := rfl
@[simp] theorem e_hideD : hideO true (.dct t kvs) = .val (.dict kvs) := rfl
@[simp] theorem e_hideDN : hideO false (.dct t kvs) = .un := rfl
@[simp] theorem e_hideU : hideO b .un = .un := rfl
end
section
variable {env : Env} {a b : M} {xs ys : List D}
def zmF (env : Env) : Option (List D) → Res (List D × Env)
  | some ds => .ok (ds, env)
  | none => .stuck
@[simp] theorem e_srcZipM : srcZipM a b env = (pass [.m (frz a), .m (frz b)] env).bind fun p => zmF p.2 (zipO p.1) := by
  unfold srcZipM
  congr 1
@[simp] theorem e_zmF : zmF env (some xs) = .ok (xs, env) := rfl
@[simp] theorem e_zoLL : zipO [.val (.list xs), .val (.list ys)] = some (zipD xs ys) := rfl
@[simp] theorem e_zoLT : zipO [.val (.list xs), .val (.tuple ys)] = some (zipD xs ys) := rfl
@[simp] theorem e_zoTL : zipO [.val (.tuple xs), .val (.list ys)] = some (zipD xs ys) := rfl
@[simp] theorem e_zoTT : zipO [.val (.tuple xs), .val (.tuple ys)] = some (zipD xs ys) := rfl
end
@[simp] theorem e_gcd {i j : Int} : oGcd (.val (.int i)) (.val (.int j)) = .ok (.val (.int ((Nat.gcd i.natAbs j.natAbs : Nat) : Int))) := rfl
end SE

namespace SE
open PySem L2
/-! ### loops -/
inductive All2 (R : D → D → Prop) : List D → List D → Prop
  | nil : All2 R [] []
  | cons {a b : D} {as bs : List D} : R a b → All2 R as bs → All2 R (a :: as) (b :: bs)
theorem All2.len {R : D → D → Prop} {as bs : List D} (h : All2 R as bs) : bs.length = as.length := by
  induction h with
  | nil => rfl
  | cons _ _ ih => simp [ih]
theorem All2.right {R : D → D → Prop} {P : D → Prop} (w : ∀ a b, R a b → P b) {as bs : List D} (h : All2 R as bs) : ∀ b, b ∈ bs → P b := by
  induction h with
  | nil => intro b hb; cases hb
  | cons h1 _ ih =>
    intro b hb
    rcases List.mem_cons.mp hb with rfl | hb
    · exact w _ _ h1
    · exact ih b hb
def SRes.on (r : SRes) (I : Env → Prop) : Prop := match r with
  | .next e => I e
  | .cont e => I e
  | _ => False
section
variable {g : Bnd} {body : S}
theorem forL_pre (I : List D → Env → Prop) : ∀ (ds pre : List D) (env : Env), I pre env → (∀ p d s, pre ++ ds = p ++ d :: s → ∀ e, I p e → ∃ e1, g d e = some e1 ∧ (body e1).on (I (p ++ [d]))) → ∃ e', forL g body ds env = .next e' ∧ I (pre ++ ds) e'
  | [], pre, env, h, _ => ⟨env, rfl, by simpa using h⟩
  | d :: ds, pre, env, h, st => by
    obtain ⟨e1, h1, h2⟩ := st pre d ds rfl env h
    cases hb : body e1 with
    | next e2 =>
      rw [hb] at h2
      obtain ⟨e', h3, h4⟩ := forL_pre I ds (pre ++ [d]) e2 h2 (fun p x s e => st p x s (by simpa using e))
      exact ⟨e', by unfold forL; rw [h1]; simp only [hb]; exact h3, by simpa using h4⟩
    | cont e2 =>
      rw [hb] at h2
      obtain ⟨e', h3, h4⟩ := forL_pre I ds (pre ++ [d]) e2 h2 (fun p x s e => st p x s (by simpa using e))
      exact ⟨e', by unfold forL; rw [h1]; simp only [hb]; exact h3, by simpa using h4⟩
    | _ => rw [hb] at h2; exact h2.elim
theorem forL_inv (I : Env → Prop) : ∀ (ds : List D) (env : Env), I env → (∀ d, d ∈ ds → ∀ e, I e → ∃ e1, g d e = some e1 ∧ (body e1).on I) → ∃ e', forL g body ds env = .next e' ∧ I e'
  | [], env, h, _ => ⟨env, rfl, h⟩
  | d :: ds, env, h, st => by
    obtain ⟨e1, h1, h2⟩ := st d (List.mem_cons_self) env h
    cases hb : body e1 with
    | next e2 =>
      rw [hb] at h2
      obtain ⟨e', h3, h4⟩ := forL_inv I ds e2 h2 (fun x e => st x (List.mem_cons_of_mem _ e))
      exact ⟨e', by unfold forL; rw [h1]; simp only [hb]; exact h3, h4⟩
    | cont e2 =>
      rw [hb] at h2
      obtain ⟨e', h3, h4⟩ := forL_inv I ds e2 h2 (fun x e => st x (List.mem_cons_of_mem _ e))
      exact ⟨e', by unfold forL; rw [h1]; simp only [hb]; exact h3, h4⟩
    | _ => rw [hb] at h2; exact h2.elim
/-- a loop that is left by a return at the first hit -/
theorem forL_any (I : Env → Prop) (p : D → Bool) (r : O) : ∀ (ds : List D) (env : Env), I env → (∀ d, d ∈ ds → ∀ e, I e → ∃ e1, g d e = some e1 ∧ if p d = true then ∃ e2, body e1 = .ret r e2 else (body e1).on I) →
    if ds.any p = true then ∃ e', forL g body ds env = .ret r e' else ∃ e', forL g body ds env = .next e' ∧ I e'
  | [], env, h, _ => by simpa using h
  | d :: ds, env, h, st => by
    obtain ⟨e1, h1, h2⟩ := st d (List.mem_cons_self) env h
    by_cases hp : p d = true
    · rw [if_pos hp] at h2
      obtain ⟨e2, h2⟩ := h2
      rw [if_pos (by simp [hp])]
      exact ⟨e2, by unfold forL; rw [h1]; simp only [h2]⟩
    · rw [if_neg hp] at h2
      have hp' : p d = false := by simpa using hp
      have ea : (d :: ds).any p = ds.any p := by simp [hp']
      rw [ea]
      have go : ∀ e2, I e2 → (forL g body (d :: ds) env = forL g body ds e2) → if ds.any p = true then ∃ e', forL g body (d :: ds) env = .ret r e' else ∃ e', forL g body (d :: ds) env = .next e' ∧ I e' := by
        intro e2 h3 h4
        rw [h4]
        exact forL_any I p r ds e2 h3 (fun x e => st x (List.mem_cons_of_mem _ e))
      cases hb : body e1 with
      | next e2 => rw [hb] at h2; exact go e2 h2 (by conv => lhs; unfold forL; rw [h1]; simp only [hb])
      | cont e2 => rw [hb] at h2; exact go e2 h2 (by conv => lhs; unfold forL; rw [h1]; simp only [hb])
      | _ => rw [hb] at h2; exact h2.elim
variable {t : T} {elt : M} {vs : List Nat}
/-- a list built by a walk -/
theorem compL_inv (I : Env → Prop) (R : D → D → Prop) : ∀ (ds acc : List D) (env : Env), I env → acc.length + ds.length ≤ 16777216 →
    (∀ d, d ∈ ds → ∀ e, I e → ∃ e1 e2 e3 r, g d e = some e1 ∧ t e1 = .ok (true, e2) ∧ elt e2 = .ok (.val r, e3) ∧ R d r ∧ I (wipeE e3 vs)) →
    ∃ rs e', compL g t elt vs ds acc env = .ok (acc ++ rs, e') ∧ All2 R ds rs ∧ I e'
  | [], acc, env, h, _, _ => ⟨[], env, by simp, .nil, h⟩
  | d :: ds, acc, env, h, hl, st => by
    obtain ⟨e1, e2, e3, r, h1, h2, h3, h4, h5⟩ := st d (List.mem_cons_self) env h
    obtain ⟨rs, e', h6, h7, h8⟩ := compL_inv I R ds (acc ++ [r]) (wipeE e3 vs) h5 (by simp at hl ⊢; omega) (fun x e => st x (List.mem_cons_of_mem _ e))
    have hl' : acc.length < 16777216 := by simp at hl; omega
    exact ⟨r :: rs, e', by unfold compL; rw [h1]; simp [h2, h3, hl', h6], .cons h4 h7, h8⟩
/-- a plain one, with a test -/
theorem compL_fm (I : Env → Prop) (p : D → Bool) (f : D → D) : ∀ (ds acc : List D) (env : Env), I env → acc.length + ds.length ≤ 16777216 →
    (∀ d, d ∈ ds → ∀ e, I e → ∃ e1 e2, g d e = some e1 ∧ t e1 = .ok (p d, e2) ∧ if p d = true then ∃ e3, elt e2 = .ok (.val (f d), e3) ∧ I (wipeE e3 vs) else I (wipeE e2 vs)) →
    ∃ e', compL g t elt vs ds acc env = .ok (acc ++ (ds.filter p).map f, e') ∧ I e'
  | [], acc, env, h, _, _ => ⟨env, by simp, h⟩
  | d :: ds, acc, env, h, hl, st => by
    obtain ⟨e1, e2, h1, h2, h3⟩ := st d (List.mem_cons_self) env h
    have hl' : acc.length < 16777216 := by simp at hl; omega
    by_cases hp : p d = true
    · rw [if_pos hp] at h3
      obtain ⟨e3, h3, h5⟩ := h3
      obtain ⟨e', h6, h8⟩ := compL_fm I p f ds (acc ++ [f d]) (wipeE e3 vs) h5 (by simp at hl ⊢; omega) (fun x e => st x (List.mem_cons_of_mem _ e))
      exact ⟨e', by unfold compL; rw [h1]; simp [h2, h3, hl', h6, hp], h8⟩
    · rw [if_neg hp] at h3
      obtain ⟨e', h6, h8⟩ := compL_fm I p f ds acc (wipeE e2 vs) h3 (by simp at hl ⊢; omega) (fun x e => st x (List.mem_cons_of_mem _ e))
      have hp' : p d = false := by simpa using hp
      exact ⟨e', by unfold compL; rw [h1]; simp [h2, hl', h6, hp'], h8⟩
/-- a walk that only reads -/
theorem compL_map (f : D → D) (ds : List D) (env : Env) (hl : ds.length ≤ 16777216) (st : ∀ d, d ∈ ds → ∃ e1 e2 e3, g d env = some e1 ∧ t e1 = .ok (true, e2) ∧ elt e2 = .ok (.val (f d), e3) ∧ wipeE e3 vs = env) :
    compL g t elt vs ds [] env = .ok (ds.map f, env) := by
  obtain ⟨e', h1, h2⟩ := compL_fm (g := g) (t := t) (elt := elt) (vs := vs) (fun e => e = env) (fun _ => true) f ds [] env rfl (by simpa using hl) (fun d hd e he => by
    subst he
    obtain ⟨e1, e2, e3, h1, h2, h3, h4⟩ := st d hd
    exact ⟨e1, e2, h1, h2, by rw [if_pos rfl]; exact ⟨e3, h3, h4⟩⟩)
  subst h2
  rw [List.filter_eq_self.mpr (fun _ _ => rfl)] at h1
  simpa using h1
theorem compL_filter (p : D → Bool) (f : D → D) (ds : List D) (env : Env) (hl : ds.length ≤ 16777216) (st : ∀ d, d ∈ ds → ∃ e1 e2, g d env = some e1 ∧ t e1 = .ok (p d, e2) ∧ if p d = true then ∃ e3, elt e2 = .ok (.val (f d), e3) ∧ wipeE e3 vs = env else wipeE e2 vs = env) :
    compL g t elt vs ds [] env = .ok ((ds.filter p).map f, env) := by
  obtain ⟨e', h1, h2⟩ := compL_fm (g := g) (t := t) (elt := elt) (vs := vs) (fun e => e = env) p f ds [] env rfl (by simpa using hl) (fun d hd e he => by
    subst he
    exact st d hd)
  subst h2
  simpa using h1
end
/-- how deep a datum is -/
def sm : Nat → D → Bool
  | 0, _ => false
  | _ + 1, .none => true
  | _ + 1, .bool _ => true
  | _ + 1, .int _ => true
  | _ + 1, .str _ => true
  | n + 1, .list ds => ds.all (sm n)
  | n + 1, .tuple ds => ds.all (sm n)
  | _ + 1, .dict _ => false
theorem zip_self : ∀ ds : List D, zipD ds ds = ds.map fun d => .tuple [d, d]
  | [] => rfl
  | d :: ds => by unfold zipD; rw [zip_self ds]; rfl
@[simp] theorem str_beq (a : Str) : (a == a) = true := by simp
end SE
namespace SE
open PySem L2
theorem dBools_map {α : Type} (f : α → Bool) : ∀ xs : List α, dBools (xs.map fun x => .bool (f x)) = some (xs.map f)
  | [] => rfl
  | x :: xs => by rw [List.map_cons, dBools, dBools_map f xs]; rfl
theorem dInts_map {α : Type} (f : α → Int) : ∀ xs : List α, dInts (xs.map fun x => .int (f x)) = some (xs.map f)
  | [] => rfl
  | x :: xs => by rw [List.map_cons, dInts, dInts_map f xs]; rfl
@[simp] theorem e_any_map {α : Type} (f : α → Bool) (xs : List α) : oAny (.own (xs.map fun x => .bool (f x))) = .ok (.val (.bool (xs.any f))) := by
  unfold oAny lbools
  simp [dBools_map, List.any_map]
@[simp] theorem e_all_map {α : Type} (f : α → Bool) (xs : List α) : oAll (.own (xs.map fun x => .bool (f x))) = .ok (.val (.bool (xs.all f))) := by
  unfold oAll lbools
  simp [dBools_map, List.all_map]
@[simp] theorem e_sum_map {α : Type} (f : α → Int) (xs : List α) : oSum (.own (xs.map fun x => .int (f x))) = .ok (.val (.int (xs.map f).sum)) := by
  unfold oSum lints
  simp [dInts_map]
/-! ### shapes -/
def shp : Nat → D → Bool
  | 0, _ => false
  | _ + 1, .none => true
  | _ + 1, .bool _ => true
  | _ + 1, .int _ => true
  | _ + 1, .str x => PyData.strOk x
  | n + 1, .list ds => ds.all (shp n)
  | n + 1, .tuple ds => ds.all (shp n)
  | _ + 1, .dict _ => false
theorem can_all : ∀ (n : Nat) (ds : List D), (∀ x, x ∈ ds → x.canLay0 = true ∧ x.depth ≤ n) → PyData.canLayAll0 ds = true ∧ PyData.depthAll ds ≤ n
  | _, [], _ => by simp [PyData.canLayAll0, PyData.depthAll]
  | n, d :: ds, h => by
    obtain ⟨h1, h2⟩ := h d List.mem_cons_self
    obtain ⟨h3, h4⟩ := can_all n ds (fun x hx => h x (List.mem_cons_of_mem _ hx))
    simp [PyData.canLayAll0, PyData.depthAll, h1, h3]
    omega
theorem shp_can : ∀ (n : Nat) (d : D), shp n d = true → d.canLay0 = true ∧ d.depth ≤ n
  | 0, d, h => by cases h
  | n + 1, d, h => by
    match d, h with
    | .none, _ => simp [PyData.canLay0, PyData.depth]
    | .bool b, _ => simp [PyData.canLay0, PyData.depth]
    | .int i, _ => simp [PyData.canLay0, PyData.depth]
    | .str x, h => have h' : PyData.strOk x = true := h; simp [PyData.canLay0, PyData.depth, h']
    | .list ds, h =>
      have h' := List.all_eq_true.mp (show ds.all (shp n) = true from h)
      obtain ⟨h3, h4⟩ := can_all n ds (fun x hx => shp_can n x (h' x hx))
      simp [PyData.canLay0, PyData.depth, h3]
      omega
    | .tuple ds, h =>
      have h' := List.all_eq_true.mp (show ds.all (shp n) = true from h)
      obtain ⟨h3, h4⟩ := can_all n ds (fun x hx => shp_can n x (h' x hx))
      simp [PyData.canLay0, PyData.depth, h3]
      omega
theorem shp_ok {d : D} (n : Nat) (h : shp n d = true) (hn : n ≤ 64) : SeqAt.shaped d = true := by
  obtain ⟨h1, h2⟩ := shp_can n d h
  unfold SeqAt.shaped
  simp [h1]; omega
/-- equality of shaped data -/
theorem eqD_shp {d e : D} (n : Nat) (hn : n ≤ 64) (h1 : shp n d = true) (h2 : shp n e = true) : eqD d e = some (PyData.eqv d e) := by
  unfold eqD
  split <;> first | (simp [PyData.eqv]; done) | (rw [shp_ok n h1 hn, shp_ok n h2 hn]; rfl)
theorem shp_sm : ∀ (n : Nat) (d : D), shp n d = true → sm n d = true
  | 0, d, h => by cases h
  | n + 1, d, h => by
    match d, h with
    | .none, _ => rfl
    | .bool b, _ => rfl
    | .int i, _ => rfl
    | .str x, h => rfl
    | .list ds, h =>
      have h' := List.all_eq_true.mp (show ds.all (shp n) = true from h)
      exact List.all_eq_true.mpr fun x hx => shp_sm n x (h' x hx)
    | .tuple ds, h =>
      have h' := List.all_eq_true.mp (show ds.all (shp n) = true from h)
      exact List.all_eq_true.mpr fun x hx => shp_sm n x (h' x hx)
theorem shp_up : ∀ (n m : Nat) (d : D), n ≤ m → shp n d = true → shp m d = true
  | 0, _, d, _, h => by cases h
  | n + 1, 0, d, hm, h => by omega
  | n + 1, m + 1, d, hm, h => by
    match d, h with
    | .none, _ => rfl
    | .bool b, _ => rfl
    | .int i, _ => rfl
    | .str x, h => exact h
    | .list ds, h =>
      have h' := List.all_eq_true.mp (show ds.all (shp n) = true from h)
      exact List.all_eq_true.mpr fun x hx => shp_up n m x (by omega) (h' x hx)
    | .tuple ds, h =>
      have h' := List.all_eq_true.mp (show ds.all (shp n) = true from h)
      exact List.all_eq_true.mpr fun x hx => shp_up n m x (by omega) (h' x hx)
theorem sm_up : ∀ (n m : Nat) (d : D), n ≤ m → sm n d = true → sm m d = true
  | 0, _, d, _, h => by cases h
  | n + 1, 0, d, hm, h => by omega
  | n + 1, m + 1, d, hm, h => by
    match d, h with
    | .none, _ => rfl
    | .bool b, _ => rfl
    | .int i, _ => rfl
    | .str x, h => rfl
    | .list ds, h =>
      have h' := List.all_eq_true.mp (show ds.all (sm n) = true from h)
      exact List.all_eq_true.mpr fun x hx => sm_up n m x (by omega) (h' x hx)
    | .tuple ds, h =>
      have h' := List.all_eq_true.mp (show ds.all (sm n) = true from h)
      exact List.all_eq_true.mpr fun x hx => sm_up n m x (by omega) (h' x hx)
end SE
namespace SE
open PySem L2
/-- a frame told slot by slot: what it holds, or none where it may hold anything that is not handed in to be changed -/
def Fit : List (Option O) → List O → Prop
  | [], [] => True
  | some o :: ps, x :: e => x = o ∧ Fit ps e
  | none :: ps, x :: e => x.pinned = false ∧ Fit ps e
  | _, _ => False
@[simp] theorem fit_0 : Fit [] [] = True := rfl
@[simp] theorem fit_1 {o x : O} {ps : List (Option O)} {e : List O} : Fit (some o :: ps) (x :: e) = (x = o ∧ Fit ps e) := rfl
@[simp] theorem fit_2 {x : O} {ps : List (Option O)} {e : List O} : Fit (none :: ps) (x :: e) = (x.pinned = false ∧ Fit ps e) := rfl
theorem fit_nil {e : List O} : Fit [] e ↔ e = [] := by cases e <;> simp [Fit]
theorem fit_some {o : O} {ps : List (Option O)} {e : List O} : Fit (some o :: ps) e ↔ ∃ r, e = o :: r ∧ Fit ps r := by
  cases e with
  | nil => simp [Fit]
  | cons x e => exact ⟨fun h => ⟨e, by rw [h.1], h.2⟩, fun ⟨r, h1, h2⟩ => by cases h1; exact ⟨rfl, h2⟩⟩
theorem fit_none {ps : List (Option O)} {e : List O} : Fit (none :: ps) e ↔ ∃ x r, e = x :: r ∧ x.pinned = false ∧ Fit ps r := by
  cases e with
  | nil => simp [Fit]
  | cons x e => exact ⟨fun h => ⟨x, e, rfl, h.1, h.2⟩, fun ⟨y, r, h1, h2, h3⟩ => by cases h1; exact ⟨h2, h3⟩⟩
@[simp] theorem on_next {e : List O} {I : List O → Prop} : (SRes.next e).on I = I e := rfl
@[simp] theorem on_cont {e : List O} {I : List O → Prop} : (SRes.cont e).on I = I e := rfl
end SE
namespace SE
open PySem L2
def afterS (k : List O → SRes) : SRes → SRes
  | .next e => k e
  | .cont e => k e
  | .brk e => .next e
  | r => r
def afterG (k : List O → SRes) : Option (List O) → SRes
  | none => .stuck
  | some e => k e
@[simp] theorem afterS_n {k : List O → SRes} {e : List O} : afterS k (.next e) = k e := rfl
@[simp] theorem afterS_c {k : List O → SRes} {e : List O} : afterS k (.cont e) = k e := rfl
@[simp] theorem afterS_b {k : List O → SRes} {e : List O} : afterS k (.brk e) = .next e := rfl
@[simp] theorem afterS_x {k : List O → SRes} {x : Exn} {e : List O} : afterS k (.exc x e) = .exc x e := rfl
@[simp] theorem afterS_r {k : List O → SRes} {o : O} {e : List O} : afterS k (.ret o e) = .ret o e := rfl
@[simp] theorem afterS_i {c : Prop} [Decidable c] {k : List O → SRes} {a b : SRes} : afterS k (if c then a else b) = if c then afterS k a else afterS k b := by split <;> rfl
@[simp] theorem afterG_s {k : List O → SRes} {e : List O} : afterG k (some e) = k e := rfl
theorem c_afterS {k : List O → SRes} {a b : SRes} (h : a = b) : afterS k a = afterS k b := by rw [h]
theorem c_afterG {k : List O → SRes} {a b : Option (List O)} (h : a = b) : afterG k a = afterG k b := by rw [h]
theorem forL_cons {g : Bnd} {body : S} {d : D} {ds : List D} {env : List O} : forL g body (d :: ds) env = afterG (fun e => afterS (forL g body ds) (body e)) (g d env) := by
  conv => lhs; unfold forL
  unfold afterG afterS
  cases g d env with
  | none => rfl
  | some e => (try simp only); all_goals (cases body e <;> rfl)
end SE

namespace SE
open PySem L2
theorem nat_inj : ∀ {xs ys : List Char}, xs.map Char.toNat = ys.map Char.toNat → xs = ys
  | [], [], _ => rfl
  | [], y :: ys, h => by simp at h
  | x :: xs, [], h => by simp at h
  | x :: xs, y :: ys, h => by
    simp only [List.map_cons, List.cons.injEq] at h
    rw [nat_inj h.2, Char.toNat_inj.mp h.1]
@[simp] theorem ofs_inj {a b : String} : (Str.ofString a = Str.ofString b) ↔ a = b := by
  constructor
  · intro h
    rw [Str.ofString_eq_toList, Str.ofString_eq_toList] at h
    have h2 := congrArg (fun x : Str => x.cps.toList) h
    simp only [List.toList_toArray] at h2
    exact String.toList_inj.mp (nat_inj h2)
  · rintro rfl; rfl
/-! ### lists of whole numbers -/
theorem eqv_ints : ∀ xs ys : List Int, PyData.eqvAll (xs.map .int) (ys.map .int) = decide (xs = ys)
  | [], [] => rfl
  | [], y :: ys => rfl
  | x :: xs, [] => rfl
  | x :: xs, y :: ys => by
    show (PyData.eqv (.int x) (.int y) && PyData.eqvAll (xs.map .int) (ys.map .int)) = _
    rw [eqv_ints xs ys]
    by_cases hxy : x = y <;> simp [PyData.eqv, hxy]
theorem shp_ints (xs : List Int) : shp 2 (.list (xs.map .int)) = true := by
  show List.all _ _ = true
  simp [shp]
@[simp] theorem eqD_ints (xs ys : List Int) : eqD (.list (xs.map .int)) (.list (ys.map .int)) = some (decide (xs = ys)) := by
  rw [eqD_shp 2 (by decide) (shp_ints xs) (shp_ints ys)]
  show some (PyData.eqvAll _ _) = _
  rw [eqv_ints]
@[simp] theorem eqD_nil : eqD (.list []) (.list []) = some true := rfl
theorem inO_ints {o : O} {ys : List Int} (h : o.l = some (ys.map .int)) (x : Int) : inO (.val (.int x)) o = some (decide (x ∈ ys)) := by
  unfold inO
  rw [h]
  have h1 : SeqAt.shaped (.int x) = true := rfl
  have h2 := shp_ok 2 (shp_ints ys) (by decide)
  simp only [od_v, h1, h2, Bool.and_self, if_true]
  congr 1
  clear h h2
  induction ys with
  | nil => simp
  | cons y ys ih =>
    rw [List.map_cons, List.any_cons, ih]
    by_cases hx : y = x
    · subst hx; simp [PyData.eqv]
    · have hx' : ¬ x = y := fun z => hx z.symm
      simp [hx, hx', PyData.eqv]
theorem oIn_eq (x y : O) : oIn x y = ofB (inO x y) := rfl
theorem oNotIn_eq (x y : O) : oNotIn x y = ofB ((inO x y).map not) := by unfold oNotIn; cases inO x y <;> rfl
@[simp] theorem in_v (x : Int) (ys : List Int) : oIn (.val (.int x)) (.val (.list (ys.map .int))) = .ok (.val (.bool (decide (x ∈ ys)))) := by rw [oIn_eq, inO_ints rfl]; rfl
@[simp] theorem in_o (x : Int) (ys : List Int) : oIn (.val (.int x)) (.own (ys.map .int)) = .ok (.val (.bool (decide (x ∈ ys)))) := by rw [oIn_eq, inO_ints rfl]; rfl
@[simp] theorem in_p (x : Int) (w : Bool) (ys : List Int) : oIn (.val (.int x)) (.pin w (ys.map .int)) = .ok (.val (.bool (decide (x ∈ ys)))) := by rw [oIn_eq, inO_ints rfl]; rfl
@[simp] theorem notIn_v (x : Int) (ys : List Int) : oNotIn (.val (.int x)) (.val (.list (ys.map .int))) = .ok (.val (.bool (!decide (x ∈ ys)))) := by rw [oNotIn_eq, inO_ints rfl]; rfl
@[simp] theorem notIn_o (x : Int) (ys : List Int) : oNotIn (.val (.int x)) (.own (ys.map .int)) = .ok (.val (.bool (!decide (x ∈ ys)))) := by rw [oNotIn_eq, inO_ints rfl]; rfl
@[simp] theorem notIn_p (x : Int) (w : Bool) (ys : List Int) : oNotIn (.val (.int x)) (.pin w (ys.map .int)) = .ok (.val (.bool (!decide (x ∈ ys)))) := by rw [oNotIn_eq, inO_ints rfl]; rfl
/-! ### slices -/
theorem cut_lo {α : Type} (xs : List α) (n : Nat) : cutD xs (some (n : Int)) none = xs.drop n := by
  unfold cutD
  rw [HT.sIx_nat, HT.sIx_none]
  by_cases h : n ≤ xs.length
  · rw [Nat.min_eq_left h, List.take_of_length_le (by simp)]
  · rw [Nat.min_eq_right (by omega), List.drop_of_length_le (Nat.le_refl _), List.drop_of_length_le (by omega)]; simp
theorem cut_hi {α : Type} (xs : List α) (n : Nat) : cutD xs none (some (n : Int)) = xs.take n := by
  unfold cutD
  rw [HT.sIx_nat, HT.sIx_none]
  by_cases h : n ≤ xs.length
  · simp [Nat.min_eq_left h]
  · simp [Nat.min_eq_right (show xs.length ≤ n by omega), List.take_of_length_le (show xs.length ≤ n by omega)]
@[simp] theorem sl_v {xs : List D} {a b : Option Int} : oSl a b (.val (.list xs)) = .ok (.own (cutD xs a b)) := rfl
@[simp] theorem sl_o {xs : List D} {a b : Option Int} : oSl a b (.own xs) = .ok (.own (cutD xs a b)) := rfl
@[simp] theorem sl_p {xs : List D} {a b : Option Int} {w : Bool} : oSl a b (.pin w xs) = .ok (.own (cutD xs a b)) := rfl
@[simp] theorem sl_t {xs : List D} {a b : Option Int} : oSl a b (.val (.tuple xs)) = .ok (.val (.tuple (cutD xs a b))) := rfl
@[simp high] theorem max0_sub (a b : Nat) : oMax (.val (.int 0)) (.val (.int ((a : Int) - (b : Int)))) = .ok (.val (.int ((a - b : Nat) : Int))) := by
  rw [e_max]
  congr 3
  split <;> omega
/-! ### walks over what is told by a function -/
section
variable {g : Bnd} {body : S} {α β : Type}
theorem forL_map (f : α → D) (I : List α → List O → Prop) (xs : List α) (env : List O) (h : I [] env) (st : ∀ p x s, xs = p ++ x :: s → ∀ e, I p e → ∃ e1, g (f x) e = some e1 ∧ (body e1).on (I (p ++ [x]))) : ∃ e', forL g body (xs.map f) env = .next e' ∧ I xs e' := by
  have key : ∀ (ys pre : List α) (env : List O), I pre env → xs = pre ++ ys → ∃ e', forL g body (ys.map f) env = .next e' ∧ I xs e' := by
    intro ys
    induction ys with
    | nil => intro pre env h e; exact ⟨env, rfl, by rw [e]; simpa using h⟩
    | cons y ys ih =>
      intro pre env h e
      obtain ⟨e1, h1, h2⟩ := st pre y ys e env h
      cases hb : body e1 with
      | next e2 =>
        rw [hb] at h2
        obtain ⟨e', h3, h4⟩ := ih (pre ++ [y]) e2 h2 (by simpa using e)
        exact ⟨e', by rw [List.map_cons]; unfold forL; rw [h1]; simp only [hb]; exact h3, h4⟩
      | cont e2 =>
        rw [hb] at h2
        obtain ⟨e', h3, h4⟩ := ih (pre ++ [y]) e2 h2 (by simpa using e)
        exact ⟨e', by rw [List.map_cons]; unfold forL; rw [h1]; simp only [hb]; exact h3, h4⟩
      | _ => rw [hb] at h2; exact h2.elim
  exact key xs [] env h rfl
end
end SE

namespace SE
open PySem L2 RZ
/-! ### comprehensions over what a function tells -/
section
variable {g : Bnd} {t : T} {elt : M} {vs : List Nat} {α β : Type}
theorem compL_filA (inj : α → D) (p : α → Bool) (f : α → D) (env : Env) : ∀ (xs : List α) (acc : List D), acc.length + xs.length ≤ 16777216 →
    (∀ x, x ∈ xs → ∃ e1 e2, g (inj x) env = some e1 ∧ t e1 = .ok (p x, e2) ∧ if p x = true then ∃ e3, elt e2 = .ok (.val (f x), e3) ∧ wipeE e3 vs = env else wipeE e2 vs = env) →
    compL g t elt vs (xs.map inj) acc env = .ok (acc ++ (xs.filter p).map f, env)
  | [], acc, _, _ => by simp
  | x :: xs, acc, hl, st => by
    obtain ⟨e1, e2, h1, h2, h3⟩ := st x List.mem_cons_self
    have hl' : acc.length < 16777216 := by simp at hl; omega
    rw [List.map_cons]
    by_cases hp : p x = true
    · rw [if_pos hp] at h3
      obtain ⟨e3, h3, h5⟩ := h3
      have h6 := compL_filA inj p f env xs (acc ++ [f x]) (by simp at hl ⊢; omega) (fun y e => st y (List.mem_cons_of_mem _ e))
      unfold compL; rw [h1]; simp [h2, h3, hl', h5, h6, hp]
    · rw [if_neg hp] at h3
      have h6 := compL_filA inj p f env xs acc (by simp at hl ⊢; omega) (fun y e => st y (List.mem_cons_of_mem _ e))
      have hp' : p x = false := by simpa using hp
      unfold compL; rw [h1]; simp [h2, h3, h6, hp']
theorem compL_filT (inj : α → D) (p : α → Bool) (f : α → D) (xs : List α) (env : Env) (hl : xs.length ≤ 16777216)
    (st : ∀ x, x ∈ xs → ∃ e1 e2, g (inj x) env = some e1 ∧ t e1 = .ok (p x, e2) ∧ if p x = true then ∃ e3, elt e2 = .ok (.val (f x), e3) ∧ wipeE e3 vs = env else wipeE e2 vs = env) :
    compL g t elt vs (xs.map inj) [] env = .ok ((xs.filter p).map f, env) := by
  have := compL_filA inj p f env xs [] (by simpa using hl) st
  simpa using this
theorem compL_mapT (inj : α → D) (f : α → D) (xs : List α) (env : Env) (hl : xs.length ≤ 16777216)
    (st : ∀ x, x ∈ xs → ∃ e1 e2 e3, g (inj x) env = some e1 ∧ t e1 = .ok (true, e2) ∧ elt e2 = .ok (.val (f x), e3) ∧ wipeE e3 vs = env) :
    compL g t elt vs (xs.map inj) [] env = .ok (xs.map f, env) := by
  have := compL_filT (g := g) (t := t) (elt := elt) (vs := vs) inj (fun _ => true) f xs env hl (fun x hx => by
    obtain ⟨e1, e2, e3, h1, h2, h3, h4⟩ := st x hx
    exact ⟨e1, e2, h1, h2, by rw [if_pos rfl]; exact ⟨e3, h3, h4⟩⟩)
  rw [List.filter_eq_self.mpr (fun _ _ => rfl)] at this
  exact this
/-- what is drawn -/
theorem compL_drawn (inj : β → D) (I : Env → Prop) (P : β → Prop) (ds : List D) (env : Env) (h : I env) (hl : ds.length ≤ 16777216)
    (st : ∀ d, d ∈ ds → ∀ e, I e → ∃ e1 e2 e3 r, g d e = some e1 ∧ t e1 = .ok (true, e2) ∧ elt e2 = .ok (.val (inj r), e3) ∧ P r ∧ I (wipeE e3 vs)) :
    ∃ (rs : List β) (e' : Env), compL g t elt vs ds [] env = .ok (rs.map inj, e') ∧ rs.length = ds.length ∧ (∀ r, r ∈ rs → P r) ∧ I e' := by
  obtain ⟨rs, e', h1, h2, h3⟩ := compL_inv (g := g) (t := t) (elt := elt) (vs := vs) I (fun _ d => ∃ r, d = inj r ∧ P r) ds [] env h (by simpa using hl) (fun d hd e he => by
    obtain ⟨e1, e2, e3, r, q1, q2, q3, q4, q5⟩ := st d hd e he
    exact ⟨e1, e2, e3, inj r, q1, q2, q3, ⟨r, rfl, q4⟩, q5⟩)
  have len := h2.len
  have all := h2.right (P := fun d => ∃ r, d = inj r ∧ P r) (fun _ _ z => z)
  have key : ∀ (l : List D), (∀ b, b ∈ l → ∃ r, b = inj r ∧ P r) → ∃ qs : List β, l = qs.map inj ∧ ∀ r, r ∈ qs → P r := by
    intro l
    induction l with
    | nil => intro _; exact ⟨[], rfl, fun _ z => by cases z⟩
    | cons b l ih =>
      intro hb
      obtain ⟨r, rfl, hr⟩ := hb b List.mem_cons_self
      obtain ⟨qs, rfl, hq⟩ := ih (fun b z => hb b (List.mem_cons_of_mem _ z))
      exact ⟨r :: qs, rfl, fun x hx => (List.mem_cons.mp hx).elim (fun z => z ▸ hr) (fun z => hq x z)⟩
  obtain ⟨qs, rfl, hq⟩ := key rs all
  refine ⟨qs, e', by simpa using h1, by simpa using len, hq, h3⟩
end
theorem eqvAll_self : ∀ ds : List D, (∀ x, x ∈ ds → PyData.eqv x x = true) → PyData.eqvAll ds ds = true
  | [], _ => by simp [PyData.eqvAll]
  | d :: ds, h => by
    have h1 := h d List.mem_cons_self
    have h2 := eqvAll_self ds (fun x hx => h x (List.mem_cons_of_mem _ hx))
    simp [PyData.eqvAll, h1, h2]
theorem eqv_self : ∀ (n : Nat) (d : D), shp n d = true → PyData.eqv d d = true
  | 0, _, h => by cases h
  | n + 1, .none, _ => by simp [PyData.eqv]
  | n + 1, .bool b, _ => by simp [PyData.eqv]
  | n + 1, .int i, _ => by simp [PyData.eqv]
  | n + 1, .str z, _ => by simp [PyData.eqv]
  | n + 1, .list ds, h => by
    have h' := List.all_eq_true.mp (show ds.all (shp n) = true from h)
    rw [PyData.eqv]
    exact eqvAll_self ds fun x hx => eqv_self n x (h' x hx)
  | n + 1, .tuple ds, h => by
    have h' := List.all_eq_true.mp (show ds.all (shp n) = true from h)
    rw [PyData.eqv]
    exact eqvAll_self ds fun x hx => eqv_self n x (h' x hx)
  | n + 1, .dict _, h => by cases h
/-- a datum is equal to itself -/
theorem eqD_self {d : D} (n : Nat) (hn : n ≤ 64) (h : shp n d = true) : eqD d d = some true := by rw [eqD_shp n hn h h, eqv_self n d h]
theorem drop_set_cons {α : Type} {xs : List α} {i : Nat} (h : i < xs.length) (x : α) : xs.set i x = xs.take i ++ x :: xs.drop (i + 1) := List.set_eq_take_append_cons_drop .. |>.trans (by rw [if_pos h])
theorem rng_succ' (k n : Nat) : rng (k : Int) (n + 1) = .int k :: rng ((k + 1 : Nat) : Int) n := by
  unfold rng
  rw [List.range_succ_eq_map, List.map_cons, List.map_map]
  simp only [Int.natCast_zero, Int.add_zero]
  congr 1
  apply List.map_congr_left
  intro a _
  simp only [Function.comp, PyData.int.injEq]
  omega
end SE

namespace SE
open PySem L2 RZ
/-! ### list(range(..)) -/
def lrF (env : List O) : O → Res (O × List O)
  | .val (.int j) => (lrg 0 j).bind fun r => .ok (r, env)
  | _ => .stuck
@[simp] theorem e_lr1 {m : M} {env : List O} : mLR1 m env = (m env).bind fun p => lrF p.2 p.1 := rfl
@[simp] theorem e_lrF {env : List O} {j : Int} : lrF env (.val (.int j)) = (lrg 0 j).bind fun r => .ok (r, env) := rfl
theorem lrg_n (n : Nat) (h : n ≤ 1000000) : lrg 0 (n : Int) = .ok (.own ((List.range n).map fun i => .int ((i : Nat) : Int))) := by
  unfold lrg
  rw [if_pos ⟨by decide, small_nat (by omega), Nat.ble_eq_true_of_le (by omega)⟩]
  have e : ((n : Int) - 0).toNat = n := by omega
  rw [e]
  unfold rng
  congr 2
  apply List.map_congr_left
  intro a _
  simp
/-! ### lists of pairs of whole numbers -/
def pq (x : Int × Int) : D := .tuple [.int x.1, .int x.2]
@[simp] theorem pq_eq (a b : Int) : pq (a, b) = .tuple [.int a, .int b] := rfl
abbrev LU (u : List (Int × Int)) : D := .list (u.map pq)
theorem shp_pq (s : List (Int × Int)) : shp 3 (.list (s.map pq)) = true := by
  show (s.map pq).all (shp 2) = true
  rw [List.all_eq_true]
  intro x hx
  obtain ⟨y, _, rfl⟩ := List.mem_map.mp hx
  rfl
theorem eqv_pq (x y : Int × Int) : PyData.eqv (pq x) (pq y) = decide (x = y) := by
  obtain ⟨a, b⟩ := x
  obtain ⟨c, d⟩ := y
  have : PyData.eqv (pq (a, b)) (pq (c, d)) = ((a == c) && ((b == d) && true)) := by
    simp [PyData.eqv, PyData.eqvAll]
  rw [this]
  by_cases h1 : a = c <;> by_cases h2 : b = d <;> simp [h1, h2]
theorem eqvA_pq : ∀ xs ys : List (Int × Int), PyData.eqvAll (xs.map pq) (ys.map pq) = decide (xs = ys)
  | [], [] => by simp [PyData.eqvAll]
  | [], _ :: _ => by simp [PyData.eqvAll]
  | _ :: _, [] => by simp [PyData.eqvAll]
  | x :: xs, y :: ys => by
    have := eqvA_pq xs ys
    simp only [List.map_cons, PyData.eqvAll, this, eqv_pq]
    by_cases h1 : x = y <;> by_cases h2 : xs = ys <;> simp [h1, h2]
@[simp] theorem eqD_pq (xs ys : List (Int × Int)) : eqD (.list (xs.map pq)) (.list (ys.map pq)) = some (decide (xs = ys)) := by
  rw [eqD_shp 3 (by decide) (shp_pq xs) (shp_pq ys)]
  show some (PyData.eqvAll _ _) = _
  rw [eqvA_pq]
theorem inO_pq {o : O} {ys : List (Int × Int)} (h : o.l = some (ys.map pq)) (x : Int × Int) : inO (.val (pq x)) o = some (decide (x ∈ ys)) := by
  unfold inO
  rw [h]
  have h1 : SeqAt.shaped (pq x) = true := shp_ok 2 (d := pq x) rfl (by decide)
  have h2 := shp_ok 3 (shp_pq ys) (by decide)
  simp only [od_v, h1, h2, Bool.and_self, if_true]
  congr 1
  clear h h2
  induction ys with
  | nil => simp
  | cons y ys ih =>
    rw [List.map_cons, List.any_cons, ih, eqv_pq]
    by_cases hx : x = y
    · subst hx; simp
    · have hx' : ¬ y = x := fun z => hx z.symm
      simp [hx, hx']
@[simp] theorem inp_v (a b : Int) (ys : List (Int × Int)) : oIn (.val (.tuple [.int a, .int b])) (.val (.list (ys.map pq))) = .ok (.val (.bool (decide ((a, b) ∈ ys)))) := by rw [oIn_eq, show PyData.tuple [.int a, .int b] = pq (a, b) from rfl, inO_pq rfl]; rfl
@[simp] theorem inp_o (a b : Int) (ys : List (Int × Int)) : oIn (.val (.tuple [.int a, .int b])) (.own (ys.map pq)) = .ok (.val (.bool (decide ((a, b) ∈ ys)))) := by rw [oIn_eq, show PyData.tuple [.int a, .int b] = pq (a, b) from rfl, inO_pq rfl]; rfl
@[simp] theorem ninp_v (a b : Int) (ys : List (Int × Int)) : oNotIn (.val (.tuple [.int a, .int b])) (.val (.list (ys.map pq))) = .ok (.val (.bool (!decide ((a, b) ∈ ys)))) := by rw [oNotIn_eq, show PyData.tuple [.int a, .int b] = pq (a, b) from rfl, inO_pq rfl]; rfl
@[simp] theorem ninp_o (a b : Int) (ys : List (Int × Int)) : oNotIn (.val (.tuple [.int a, .int b])) (.own (ys.map pq)) = .ok (.val (.bool (!decide ((a, b) ∈ ys)))) := by rw [oNotIn_eq, show PyData.tuple [.int a, .int b] = pq (a, b) from rfl, inO_pq rfl]; rfl
/-! ### sorted -/
theorem lints_o (ns : List Int) : lints (.own (ns.map PyData.int)) = some ns := by
  show dInts (ns.map PyData.int) = some ns
  have := dInts_map (fun x : Int => x) ns
  simpa using this
theorem lints_v (ns : List Int) : lints (.val (.list (ns.map PyData.int))) = some ns := by
  show dInts (ns.map PyData.int) = some ns
  have := dInts_map (fun x : Int => x) ns
  simpa using this
theorem atI_lst {α : Type} (xs : List α) : atI xs (-1) = xs.getLast? := by
  unfold atI ixN
  cases xs with
  | nil => rfl
  | cons x xs =>
    rw [if_neg (by omega), if_pos (by simp; omega)]
    have e : ((-1 : Int) + ((x :: xs).length : Int)).toNat = xs.length := by rw [List.length_cons]; omega
    show (some ((-1 : Int) + ((x :: xs).length : Int)).toNat).bind (fun j => (x :: xs)[j]?) = _
    rw [e]
    simp [List.getLast?_eq_getElem?]
/-! ### a list without doubles in another -/
theorem nodup_le {α : Type} [DecidableEq α] : ∀ (o p : List α), o.Nodup → (∀ x, x ∈ o → x ∈ p) → o.length ≤ p.length
  | [], p, _, _ => Nat.zero_le _
  | x :: o, p, h, hs => by
    have hx := hs x List.mem_cons_self
    rw [List.nodup_cons] at h
    have h1 := nodup_le o (p.erase x) h.2 (fun y hy => by
      have hne : y ≠ x := fun z => h.1 (z ▸ hy)
      exact (List.mem_erase_of_ne hne).mpr (hs y (List.mem_cons_of_mem _ hy)))
    rw [List.length_erase_of_mem hx] at h1
    have : 0 < p.length := List.length_pos_of_mem hx
    rw [List.length_cons]; omega
/-! ### lists that are lent -/
section
variable {env : List O} {fn : Fn} {args as : List LArg} {a : LArg} {m : M} {i : Nat} {d : D} {xs : List D} {o r : O} {os rs : List O}
def lpC : Option O → Option (List O) → Option (List O)
  | some o, some os => some (o :: os)
  | _, _ => none
@[simp] theorem lpreps_0 : lpreps [] [] = some [] := rfl
@[simp] theorem lpreps_c : lpreps (a :: as) (r :: rs) = lpC (lprep a r) (lpreps as rs) := by
  conv => lhs; unfold lpreps
  cases lprep a r <;> cases lpreps as rs <;> rfl
@[simp] theorem lpC_s : lpC (some o) (some os) = some (o :: os) := rfl
@[simp] theorem lprep_v : lprep (.v m) (.val d) = some (.val d) := rfl
@[simp] theorem lprep_d : lprep (.ld i) (.val d) = some (.val d) := rfl
@[simp] theorem lprep_o : lprep (.ld i) (.own xs) = some (.val (.list xs)) := rfl
@[simp] theorem lprep_p : lprep (.ld i) (.pin true xs) = some (.val (.list xs)) := rfl
@[simp] theorem lopd_v : (LArg.v m).opd = .m (frz m) := rfl
@[simp] theorem lopd_d : (LArg.ld i).opd = .pk i := rfl
@[simp] theorem e_lend : mLend fn args env = (pass (args.map LArg.opd) env).bind fun p => lendG fn p.2 (lpreps args p.1) := rfl
@[simp] theorem e_lendG : lendG fn env (some os) = (fn os).bind (lendF env) := rfl
@[simp] theorem e_lendF : lendF env (.val d, []) = if flat d = true then .ok (.val d, env) else .stuck := rfl
@[simp] theorem flat_n : flat .none = true := rfl
@[simp] theorem flat_b {b : Bool} : flat (.bool b) = true := rfl
@[simp] theorem flat_i {i : Int} : flat (.int i) = true := rfl
end
@[simp] theorem rev_v {xs : List D} : oRev (.val (.list xs)) = .ok (.own xs.reverse) := rfl
@[simp] theorem rev_o {xs : List D} : oRev (.own xs) = .ok (.own xs.reverse) := rfl
@[simp] theorem e_str {i : Int} (h : small i = true) : oStr (.val (.int i)) = .ok (.val (.str (strI i))) := by
  show (if _ then _ else _) = _
  rw [if_pos h]
end SE

namespace SE
open PySem L2 RZ PyProof.Rows PySem.W
/-! ### sorted lists of tuples -/
def sortBy {α : Type} (f : α → D) (xs : List α) : List α := xs.mergeSort fun a b => dLe (f a) (f b)
theorem sortD_by {α : Type} (f : α → D) (xs : List α) : sortD (xs.map f) = (sortBy f xs).map f :=
  (PySem.W.sort_maps f fun a _ b _ => rfl).symm
theorem sortBy_perm {α : Type} (f : α → D) (xs : List α) : (sortBy f xs).Perm xs := List.mergeSort_perm _ _
theorem dLe_total : PySem.W.TotalLe dLe := PySem.W.sortLe_total (PyProof.Rows.listOrd itemOrd) false (fun d : D => keyToks d)
theorem sortBy_pw {α : Type} (f : α → D) (xs : List α) : (sortBy f xs).Pairwise (fun a b => dLe (f a) (f b) = true) :=
  List.pairwise_mergeSort (le := fun a b => dLe (f a) (f b)) (fun a b c h1 h2 => dLe_total.trans _ _ _ h1 h2) (fun a b => Bool.or_eq_true_iff.mpr (dLe_total.total _ _)) xs
theorem dLe_fst {a b : Int} {as bs : List D} (h : dLe (.tuple (.int a :: as)) (.tuple (.int b :: bs)) = true) : a ≤ b := by
  unfold dLe at h
  rw [PySem.W.dataLe_eq] at h
  have h' : (!PySem.W.dataLt (.tuple (.int b :: bs)) (.tuple (.int a :: as))) = true := h
  rw [PySem.W.dataLt_tuple, PySem.W.dataLt_cons (by simp [PySem.W.alike]), PySem.W.dataLt_int] at h'
  by_cases hab : b = a
  · omega
  · have : PyData.eqv (.int b) (.int a) = false := by simp [PyData.eqv, hab]
    rw [this] at h'
    simp at h'
    exact h'
theorem dLe_pq (x y : Int × Int) : dLe (pq x) (pq y) = decide (x.1 < y.1 ∨ (x.1 = y.1 ∧ x.2 ≤ y.2)) := by
  have := congrFun (congrFun (PySem.W.dataLe_ii (β := Int × Int) (·.1) (·.2)) x) y
  exact this
/-- three whole numbers -/
def tq (x : Int × Int × Int) : D := .tuple [.int x.1, .int x.2.1, .int x.2.2]
@[simp] theorem tq_eq (a b c : Int) : tq (a, b, c) = .tuple [.int a, .int b, .int c] := rfl
theorem okSort_of {α : Type} (f : α → D) (xs : List α) (h1 : ∀ a b, PySem.W.alike (f a) (f b) = true) (h2 : ∀ a, ∃ x r, f a = .tuple (x :: r)) (h3 : ∀ a, (f a).depth ≤ 8) : okSort (xs.map f) = true := by
  unfold okSort
  simp only [Bool.and_eq_true, Bool.or_eq_true, List.all_eq_true, Nat.ble_eq, List.mem_map]
  refine ⟨⟨?_, .inl ?_⟩, ?_⟩
  · rintro _ ⟨a, _, rfl⟩ _ ⟨b, _, rfl⟩
    exact h1 a b
  · rintro _ ⟨a, _, rfl⟩
    obtain ⟨x, r, e⟩ := h2 a
    rw [e]
  · rintro _ ⟨a, _, rfl⟩
    exact h3 a
theorem okSort_pq (xs : List (Int × Int)) : okSort (xs.map pq) = true := okSort_of pq xs (fun a b => by simp [pq, PySem.W.alike, PySem.W.alikeAll]) (fun a => ⟨_, _, rfl⟩) (fun a => by simp [pq, PyData.depth, PyData.depthAll])
theorem okSort_tq (xs : List (Int × Int × Int)) : okSort (xs.map tq) = true := okSort_of tq xs (fun a b => by simp [tq, PySem.W.alike, PySem.W.alikeAll]) (fun a => ⟨_, _, rfl⟩) (fun a => by simp [tq, PyData.depth, PyData.depthAll])
theorem sortX_of {α : Type} (f : α → D) (xs : List α) {o : O} (ho : o.l = some (xs.map f)) (ok : okSort (xs.map f) = true) (hn : ∀ a, ∀ i, f a ≠ .int i) : oSortX o = .ok (.own ((sortBy f xs).map f)) := by
  unfold oSortX lints
  rw [ho]
  cases xs with
  | nil =>
    have e1 : sortBy f ([] : List α) = [] := by simp [sortBy]
    have e2 : sortI [] = [] := by simp [sortI]
    rw [e1]
    show Res.ok (O.own ((sortI []).map PyData.int)) = _
    rw [e2]
    rfl
  | cons x xs =>
    have : dInts ((x :: xs).map f) = none := by
      rw [List.map_cons]
      cases q : f x with
      | int i => exact absurd q (hn x i)
      | _ => rfl
    have e3 : (some ((x :: xs).map f)).bind dInts = none := this
    rw [e3]
    show oSortD o = _
    unfold oSortD
    rw [ho]
    dsimp only
    rw [if_pos ok, sortD_by]
theorem sortX_pq (xs : List (Int × Int)) {o : O} (ho : o.l = some (xs.map pq)) : oSortX o = .ok (.own ((sortBy pq xs).map pq)) := sortX_of pq xs ho (okSort_pq xs) (fun a i z => by cases z)
theorem sortX_tq (xs : List (Int × Int × Int)) {o : O} (ho : o.l = some (xs.map tq)) : oSortX o = .ok (.own ((sortBy tq xs).map tq)) := sortX_of tq xs ho (okSort_tq xs) (fun a i z => by cases z)
theorem sortX_int (ns : List Int) {o : O} (ho : o.l = some (ns.map PyData.int)) : oSortX o = .ok (.own ((sortI ns).map .int)) := by
  have : lints o = some ns := by
    unfold lints
    rw [ho]
    have := dInts_map (fun x : Int => x) ns
    simpa using this
  unfold oSortX
  rw [this]
/-- in an ascending list none of the first ones is above one of the others -/
theorem sortBy_cut {α : Type} (f : α → D) (xs : List α) (n : Nat) {a b : α} (ha : a ∈ (sortBy f xs).take n) (hb : b ∈ (sortBy f xs).drop n) : dLe (f a) (f b) = true := by
  have h := sortBy_pw f xs
  rw [← List.take_append_drop n (sortBy f xs), List.pairwise_append] at h
  exact h.2.2 a ha b hb
/-! ### lists that are lent, lists told -/
section
variable {env : List O} {fn : Fn} {args : List LArg} {d : D} {ds : List D} {os : List O}
@[simp] theorem e_lendL : mLendL fn args env = (pass (args.map LArg.opd) env).bind fun p => lendGL fn p.2 (lpreps args p.1) := rfl
@[simp] theorem e_lendGL : lendGL fn env (some os) = (fn os).bind (lendFL env) := rfl
@[simp] theorem e_lendFLv : lendFL env (.val d, []) = if nol d = true then .ok (.val d, env) else .stuck := rfl
@[simp] theorem e_lendFLo : lendFL env (.own ds, []) = if nolA ds = true then .ok (.own ds, env) else .stuck := rfl
@[simp] theorem nol_n : nol .none = true := by simp [nol]
@[simp] theorem nol_b {b : Bool} : nol (.bool b) = true := by simp [nol]
@[simp] theorem nol_i {i : Int} : nol (.int i) = true := by simp [nol]
@[simp] theorem nol_pq (a b : Int) : nol (.tuple [.int a, .int b]) = true := by simp [nol, nolA]
@[simp] theorem nolA_pq (L : List (Int × Int)) : nolA (L.map pq) = true := by
  induction L with
  | nil => simp [nolA]
  | cons x L ih => obtain ⟨a, b⟩ := x; simp [nolA, ih]
@[simp] theorem nolA_int (L : List Int) : nolA (L.map PyData.int) = true := by
  induction L with
  | nil => simp [nolA]
  | cons x L ih => simp [nolA, nol, ih]
end
end SE

namespace SE
open PySem L2 RZ
/-! ### while, least and greatest -/
theorem whl_go {n : Nat} {t : T} {s : S} {env e1 e2 : List O} (h : t env = .ok (true, e1)) (hb : s e1 = .next e2) : whl (n + 1) t s env = whl n t s e2 := by
  conv => lhs; unfold whl
  rw [h]
  simp [hb]
theorem whl_stop {n : Nat} {t : T} {s : S} {env e1 : List O} (h : t env = .ok (false, e1)) : whl (n + 1) t s env = .next e1 := by
  conv => lhs; unfold whl
  rw [h]
  simp
theorem minL_o {ns : List Int} (h : ns ≠ []) : oMinL (.own (ns.map PyData.int)) = .ok (.val (.int (minL ns))) := by
  unfold oMinL
  rw [lints_o]
  cases ns with
  | nil => exact absurd rfl h
  | cons x xs => rfl
theorem minL_v {ns : List Int} (h : ns ≠ []) : oMinL (.val (.list (ns.map PyData.int))) = .ok (.val (.int (minL ns))) := by
  unfold oMinL
  rw [lints_v]
  cases ns with
  | nil => exact absurd rfl h
  | cons x xs => rfl
theorem maxL_o {ns : List Int} (h : ns ≠ []) : oMaxL (.own (ns.map PyData.int)) = .ok (.val (.int (maxL ns))) := by
  unfold oMaxL
  rw [lints_o]
  cases ns with
  | nil => exact absurd rfl h
  | cons x xs => rfl
theorem maxL_v {ns : List Int} (h : ns ≠ []) : oMaxL (.val (.list (ns.map PyData.int))) = .ok (.val (.int (maxL ns))) := by
  unfold oMaxL
  rw [lints_v]
  cases ns with
  | nil => exact absurd rfl h
  | cons x xs => rfl
theorem map_erase {α β : Type} (f : α → β) : ∀ (xs : List α) (n : Nat), (xs.map f).eraseIdx n = (xs.eraseIdx n).map f
  | [], _ => rfl
  | x :: xs, 0 => rfl
  | x :: xs, n + 1 => by simp [map_erase f xs n]
theorem perm_erase {α : Type} : ∀ (xs : List α) (n : Nat) (h : n < xs.length), (xs[n] :: xs.eraseIdx n).Perm xs
  | x :: xs, 0, _ => List.Perm.refl _
  | x :: xs, n + 1, h => by
    have := perm_erase xs n (by simpa using h)
    simp only [List.getElem_cons_succ, List.eraseIdx_cons_succ]
    exact (List.Perm.swap ..).trans (this.cons x)
/-- two ascending lists with the same members -/
theorem asc_ext : ∀ {xs ys : List Int}, xs.Pairwise (· < ·) → ys.Pairwise (· < ·) → (∀ x, x ∈ xs ↔ x ∈ ys) → xs = ys
  | [], [], _, _, _ => rfl
  | [], y :: ys, _, _, h => absurd ((h y).mpr List.mem_cons_self) (by simp)
  | x :: xs, [], _, _, h => absurd ((h x).mp List.mem_cons_self) (by simp)
  | x :: xs, y :: ys, h1, h2, h => by
    rw [List.pairwise_cons] at h1 h2
    have e : x = y := by
      rcases List.mem_cons.mp ((h x).mp List.mem_cons_self) with z | z
      · exact z
      · rcases List.mem_cons.mp ((h y).mpr List.mem_cons_self) with q | q
        · exact q.symm
        · have := h2.1 x z; have := h1.1 y q; omega
    subst e
    rw [asc_ext h1.2 h2.2 (fun z => ?_)]
    constructor
    · intro hz
      rcases List.mem_cons.mp ((h z).mp (List.mem_cons_of_mem _ hz)) with q | q
      · have := h1.1 z hz; omega
      · exact q
    · intro hz
      rcases List.mem_cons.mp ((h z).mpr (List.mem_cons_of_mem _ hz)) with q | q
      · have := h2.1 z hz; omega
      · exact q
/-- a list drawn from another -/
theorem compL_sub {g : Bnd} {t : T} {elt : M} {vs : List Nat} {α : Type} (inj : α → D) (I : Env → Prop) : ∀ (xs : List α) (acc : List D) (env : Env), I env → acc.length + xs.length ≤ 16777216 →
    (∀ x, x ∈ xs → ∀ e, I e → ∃ e1 e2 b, g (inj x) e = some e1 ∧ t e1 = .ok (b, e2) ∧ if b = true then ∃ e3, elt e2 = .ok (.val (inj x), e3) ∧ I (wipeE e3 vs) else I (wipeE e2 vs)) →
    ∃ (rs : List α) (e' : Env), compL g t elt vs (xs.map inj) acc env = .ok (acc ++ rs.map inj, e') ∧ rs.Sublist xs ∧ I e'
  | [], acc, env, h, _, _ => ⟨[], env, by simp, .slnil, h⟩
  | x :: xs, acc, env, h, hl, st => by
    obtain ⟨e1, e2, b, h1, h2, h3⟩ := st x List.mem_cons_self env h
    have hl' : acc.length < 16777216 := by simp at hl; omega
    cases b with
    | true =>
      rw [if_pos rfl] at h3
      obtain ⟨e3, h3, h5⟩ := h3
      obtain ⟨rs, e', h6, h7, h8⟩ := compL_sub inj I xs (acc ++ [inj x]) (wipeE e3 vs) h5 (by simp at hl ⊢; omega) (fun y e => st y (List.mem_cons_of_mem _ e))
      exact ⟨x :: rs, e', by rw [List.map_cons]; unfold compL; rw [h1]; simp [h2, h3, hl', h6], h7.cons_cons x, h8⟩
    | false =>
      rw [if_neg (by decide)] at h3
      obtain ⟨rs, e', h6, h7, h8⟩ := compL_sub inj I xs acc (wipeE e2 vs) h3 (by simp at hl ⊢; omega) (fun y e => st y (List.mem_cons_of_mem _ e))
      exact ⟨rs, e', by rw [List.map_cons]; unfold compL; rw [h1]; simp [h2, h6], h7.cons x, h8⟩
theorem asc_nodup {xs : List Int} (h : xs.Pairwise (· < ·)) : xs.Nodup := h.imp (fun z => by omega)
end SE

namespace SE
open PySem L2 RZ
/-! ### dicts with whole numbers for keys -/
def dI (xs : List (Int × D)) : List (D × D) := xs.map fun x => (.int x.1, x.2)
def getI : List (Int × D) → Int → Option D
  | [], _ => none
  | x :: r, k => if x.1 = k then some x.2 else getI r k
def hasI (xs : List (Int × D)) (k : Int) : Bool := xs.any fun x => decide (x.1 = k)
def setI (xs : List (Int × D)) (k : Int) (v : D) : List (Int × D) := if hasI xs k = true then xs.map (fun x => if x.1 = k then (x.1, v) else x) else xs ++ [(k, v)]
theorem eqv_i (i j : Int) : PyData.eqv (.int i) (.int j) = decide (i = j) := by rw [Bool.eq_iff_iff]; simp [PyData.eqv]
@[simp] theorem dI_nil : dI [] = [] := rfl
@[simp] theorem dI_len (xs : List (Int × D)) : (dI xs).length = xs.length := by simp [dI]
@[simp] theorem get_dI : ∀ (xs : List (Int × D)) (k : Int), getK (dI xs) (.int k) = getI xs k
  | [], _ => rfl
  | x :: r, k => by
    show (if PyData.eqv (.int x.1) (.int k) = true then _ else _) = _
    rw [eqv_i]
    show _ = if x.1 = k then _ else _
    have := get_dI r k
    unfold dI at this
    rw [this]
    by_cases h : x.1 = k <;> simp [h]
theorem has_dI (xs : List (Int × D)) (k : Int) : hasK (dI xs) (.int k) = hasI xs k := by
  unfold hasK hasI dI
  rw [List.any_map]
  congr 1
@[simp] theorem put_dI (xs : List (Int × D)) (k : Int) (v : D) : putD (dI xs) (.int k) v = dI (setI xs k v) := by
  unfold putD setI
  rw [has_dI]
  by_cases h : hasI xs k = true
  · rw [if_pos h, if_pos h]
    unfold dI
    rw [List.map_map, List.map_map]
    apply List.map_congr_left
    intro x _
    simp only [Function.comp, eqv_i]
    by_cases e : x.1 = k <;> simp [e]
  · rw [if_neg h, if_neg h]
    unfold dI
    simp
theorem hasI_get (xs : List (Int × D)) (k : Int) : hasI xs k = (getI xs k).isSome := by
  induction xs with
  | nil => rfl
  | cons x r ih =>
    show (decide (x.1 = k) || hasI r k) = (if x.1 = k then some x.2 else getI r k).isSome
    by_cases e : x.1 = k
    · simp [e]
    · simp [e, ih]
theorem getI_mapn (k j : Int) (v : D) : ∀ xs : List (Int × D), getI (xs.map fun x => if x.1 = k then (x.1, v) else x) j = if j = k then (getI xs j).map (fun _ => v) else getI xs j
  | [] => by simp [getI]
  | x :: r => by
    rw [List.map_cons]
    unfold getI
    rw [getI_mapn k j v r]
    by_cases e1 : x.1 = k
    · by_cases e2 : j = k
      · subst e2; simp [e1]
      · have : ¬ k = j := fun z => e2 z.symm
        simp [e1, e2, this]
    · by_cases e2 : x.1 = j
      · have : ¬ j = k := fun z => e1 (by rw [e2, z])
        simp [e1, e2, this]
      · simp [e1, e2]
theorem getI_app (k j : Int) (v : D) : ∀ xs : List (Int × D), getI (xs ++ [(k, v)]) j = match getI xs j with
    | some d => some d
    | none => if j = k then some v else none
  | [] => by
    show (if k = j then _ else _) = _
    by_cases e : j = k
    · subst e; simp [getI]
    · have : ¬ k = j := fun z => e z.symm
      simp [getI, e, this]
  | x :: r => by
    rw [List.cons_append]
    unfold getI
    rw [getI_app k j v r]
    by_cases e : x.1 = j <;> simp [e]
theorem getI_put (xs : List (Int × D)) (k j : Int) (v : D) : getI (setI xs k v) j = if j = k then some v else getI xs j := by
  unfold setI
  by_cases h : hasI xs k = true
  · rw [if_pos h, getI_mapn]
    by_cases e : j = k
    · subst e
      rw [hasI_get] at h
      obtain ⟨d, hd⟩ := Option.isSome_iff_exists.mp h
      simp [hd]
    · simp [e]
  · rw [if_neg h, getI_app]
    rw [hasI_get] at h
    by_cases e : j = k
    · subst e
      cases q : getI xs j with
      | none => simp
      | some d => rw [q] at h; simp at h
    · cases q : getI xs j <;> simp [e]
theorem getI_mem {xs : List (Int × D)} {k : Int} {d : D} (h : getI xs k = some d) : (k, d) ∈ xs := by
  induction xs with
  | nil => cases h
  | cons x r ih =>
    unfold getI at h
    by_cases e : x.1 = k
    · rw [if_pos e] at h
      cases h
      rw [← e]
      exact List.mem_cons_self
    · rw [if_neg e] at h
      exact List.mem_cons_of_mem _ (ih h)
theorem keyI_mem (xs : List (Int × D)) (k : Int) : k ∈ xs.map (·.1) ↔ (getI xs k).isSome = true := by
  rw [← hasI_get]
  unfold hasI
  rw [List.any_eq_true, List.mem_map]
  constructor
  · rintro ⟨x, h, rfl⟩; exact ⟨x, h, by simp⟩
  · rintro ⟨x, h, e⟩; exact ⟨x, h, by simpa using e⟩
theorem setI_keys (xs : List (Int × D)) (k : Int) (v : D) : (setI xs k v).map (·.1) = if hasI xs k = true then xs.map (·.1) else xs.map (·.1) ++ [k] := by
  unfold setI
  by_cases h : hasI xs k = true
  · rw [if_pos h, if_pos h, List.map_map]
    apply List.map_congr_left
    intro x _
    simp only [Function.comp]
    split <;> rfl
  · rw [if_neg h, if_neg h]; simp
theorem setI_len (xs : List (Int × D)) (k : Int) (v : D) : (setI xs k v).length ≤ xs.length + 1 := by
  have := congrArg List.length (setI_keys xs k v)
  rw [List.length_map] at this
  rw [this]
  split <;> simp
theorem setI_nodup {xs : List (Int × D)} {k : Int} {v : D} (h : (xs.map (·.1)).Nodup) : ((setI xs k v).map (·.1)).Nodup := by
  rw [setI_keys]
  by_cases e : hasI xs k = true
  · rw [if_pos e]; exact h
  · rw [if_neg e, List.nodup_append]
    refine ⟨h, by simp, fun a ha b hb z => e ?_⟩
    rw [List.mem_singleton] at hb
    rw [hasI_get, ← keyI_mem, ← hb, ← z]
    exact ha
theorem getI_of_mem {xs : List (Int × D)} (h : (xs.map (·.1)).Nodup) {k : Int} {d : D} (hm : (k, d) ∈ xs) : getI xs k = some d := by
  induction xs with
  | nil => cases hm
  | cons x r ih =>
    rw [List.map_cons, List.nodup_cons] at h
    unfold getI
    rcases List.mem_cons.mp hm with e | hm
    · rw [← e]; simp
    · have : ¬ x.1 = k := fun z => h.1 (z ▸ List.mem_map.mpr ⟨(k, d), hm, rfl⟩)
      rw [if_neg this]
      exact ih h.2 hm
/-- sorted(d) -/
theorem okAlike_ints (ns : List Int) : okAlike (ns.map PyData.int) = true := by
  unfold okAlike
  rw [List.all_eq_true]
  intro d hd
  obtain ⟨i, _, rfl⟩ := List.mem_map.mp hd
  rw [List.all_eq_true]
  intro d' hd'
  obtain ⟨j, _, rfl⟩ := List.mem_map.mp hd'
  simp [PySem.W.alike]
theorem sortD_ints (ns : List Int) : sortD (ns.map PyData.int) = (sortI ns).map .int := by
  have h : ns.mergeSort (PySem.W.dataLe false (fun b : Int => PyData.int b)) = sortI ns := by
    rw [PySem.W.dataLe_int]
    rfl
  rw [← h]
  exact (PySem.W.sort_maps (fun b : Int => PyData.int b) fun a _ b _ => rfl).symm
theorem dI_keys (xs : List (Int × D)) : (dI xs).map (·.1) = (xs.map (·.1)).map .int := by
  unfold dI
  rw [List.map_map, List.map_map]
  rfl
@[simp] theorem sort_dI (xs : List (Int × D)) : oSortDK (.dct false (dI xs)) = .ok (.own ((sortI (xs.map (·.1))).map .int)) := by
  rw [e_sortDK, dI_keys, if_pos (okAlike_ints _), sortD_ints]
end SE

namespace SE
open PySem L2 RZ
/-! ### walks over range(n), told by the number of passes -/
theorem rngN (n : Nat) : rng 0 n = (List.range n).map fun i : Nat => PyData.int (i : Int) := by
  unfold rng
  refine List.map_congr_left fun i _ => ?_
  simp
theorem forL_rng {g : Bnd} {body : S} (I : Nat → List O → Prop) (n : Nat) (env : List O) (h : I 0 env) (st : ∀ k : Nat, k < n → ∀ e, I k e → ∃ e1, g (.int (k : Int)) e = some e1 ∧ (body e1).on (I (k + 1))) : ∃ e', forL g body (rng 0 n) env = .next e' ∧ I n e' := by
  rw [rngN]
  obtain ⟨e', h1, h2⟩ := forL_map (g := g) (body := body) (fun i : Nat => PyData.int (i : Int)) (fun p e => I p.length e) (List.range n) env h (fun p x s hd e he => by
    have hl := congrArg List.length hd
    have hx : x = p.length := by
      have e1 : (List.range n)[p.length]? = some x := by rw [hd]; simp
      have hp : p.length < n := by simp at hl; omega
      have := List.getElem?_range (i := p.length) (n := n) hp
      rw [e1] at this
      exact Option.some.inj this
    subst hx
    obtain ⟨e1, a, b⟩ := st p.length (by simp at hl; omega) e he
    refine ⟨e1, a, ?_⟩
    rw [List.length_append]
    exact b)
  rw [List.length_range] at h2
  exact ⟨e', h1, h2⟩
/-! ### walks over enumerate -/
theorem forL_en {g : Bnd} {body : S} {α : Type} (f : α → D) (I : List α → List O → Prop) (xs : List α) (env : List O) (h : I [] env) (st : ∀ p x s, xs = p ++ x :: s → ∀ e, I p e → ∃ e1, g (.tuple [.int (p.length : Nat), f x]) e = some e1 ∧ (body e1).on (I (p ++ [x]))) : ∃ e', forL g body (enumFrom 0 (xs.map f)) env = .next e' ∧ I xs e' := by
  have key : ∀ (ys pre : List α) (env : List O), I pre env → xs = pre ++ ys → ∃ e', forL g body (enumFrom pre.length (ys.map f)) env = .next e' ∧ I xs e' := by
    intro ys
    induction ys with
    | nil => intro pre env h e; exact ⟨env, rfl, by rw [e]; simpa using h⟩
    | cons y ys ih =>
      intro pre env h e
      obtain ⟨e1, h1, h2⟩ := st pre y ys e env h
      have ee : enumFrom pre.length ((y :: ys).map f) = .tuple [.int (pre.length : Nat), f y] :: enumFrom (pre.length + 1) (ys.map f) := rfl
      rw [ee]
      have hl : (pre ++ [y]).length = pre.length + 1 := by simp
      cases hb : body e1 with
      | next e2 =>
        rw [hb] at h2
        obtain ⟨e', h3, h4⟩ := ih (pre ++ [y]) e2 h2 (by simpa using e)
        rw [hl] at h3
        exact ⟨e', by unfold forL; rw [h1]; simp only [hb]; exact h3, h4⟩
      | cont e2 =>
        rw [hb] at h2
        obtain ⟨e', h3, h4⟩ := ih (pre ++ [y]) e2 h2 (by simpa using e)
        rw [hl] at h3
        exact ⟨e', by unfold forL; rw [h1]; simp only [hb]; exact h3, h4⟩
      | _ => rw [hb] at h2; exact h2.elim
  exact key xs [] env h rfl
/-! ### dicts of whole numbers by whole numbers -/
def setU (u : List (Int × Int)) (k v : Int) : List (Int × Int) := if u.any (fun x => decide (x.1 = k)) = true then u.map (fun x => if x.1 = k then (x.1, v) else x) else u ++ [(k, v)]
def dU (u : List (Int × Int)) : List (D × D) := dI (u.map fun x => (x.1, PyData.int x.2))
theorem has_dU (u : List (Int × Int)) (k : Int) : hasI (u.map fun x => (x.1, PyData.int x.2)) k = u.any fun x => decide (x.1 = k) := by
  unfold hasI
  rw [List.any_map]; rfl
theorem set_dU (u : List (Int × Int)) (k v : Int) : setI (u.map fun x => (x.1, PyData.int x.2)) k (.int v) = (setU u k v).map fun x => (x.1, PyData.int x.2) := by
  unfold setI setU
  rw [has_dU]
  split
  · rw [List.map_map, List.map_map]
    refine List.map_congr_left fun x _ => ?_
    simp only [Function.comp]
    split <;> rfl
  · simp
theorem put_dU (u : List (Int × Int)) (k v : Int) : putD (dU u) (.int k) (.int v) = dU (setU u k v) := by
  unfold dU
  rw [put_dI, set_dU]
theorem setU_mem {u : List (Int × Int)} {k v : Int} {x : Int × Int} : x ∈ setU u k v ↔ if x.1 = k then x.2 = v else x ∈ u := by
  obtain ⟨a, b⟩ := x
  unfold setU
  split
  · rename_i h
    rw [List.any_eq_true] at h
    obtain ⟨y, hy, e⟩ := h
    have e := of_decide_eq_true e
    rw [List.mem_map]
    constructor
    · rintro ⟨z, hz, q⟩
      split at q
      · rename_i hzk
        cases q
        simp [hzk]
      · rename_i hzk
        cases q
        simp [hzk, hz]
    · intro q
      by_cases ha : a = k
      · subst ha
        simp at q
        subst q
        exact ⟨y, hy, by simp [e]⟩
      · simp [ha] at q
        exact ⟨(a, b), q, by simp [ha]⟩
  · rename_i h
    have hn : ∀ y, y ∈ u → y.1 ≠ k := fun y hy e => h (List.any_eq_true.mpr ⟨y, hy, by simp [e]⟩)
    rw [List.mem_append, List.mem_singleton]
    constructor
    · rintro (q | q)
      · have := hn _ q
        simp at this
        simp [this, q]
      · cases q; simp
    · intro q
      by_cases ha : a = k
      · subst ha
        simp at q
        subst q
        exact .inr rfl
      · simp [ha] at q
        exact .inl q
theorem setU_keys (u : List (Int × Int)) (k v : Int) : (setU u k v).map (·.1) = if (u.any fun x => decide (x.1 = k)) = true then u.map (·.1) else u.map (·.1) ++ [k] := by
  unfold setU
  split
  · rw [List.map_map]
    refine List.map_congr_left fun x _ => ?_
    simp only [Function.comp]
    split <;> rfl
  · simp
theorem setU_nodup {u : List (Int × Int)} {k v : Int} (h : (u.map (·.1)).Nodup) : ((setU u k v).map (·.1)).Nodup := by
  rw [setU_keys]
  split
  · exact h
  · rename_i hn
    rw [List.nodup_append]
    refine ⟨h, by simp, fun a ha b hb => ?_⟩
    rw [List.mem_singleton] at hb
    subst hb
    obtain ⟨y, hy, rfl⟩ := List.mem_map.mp ha
    intro e
    exact hn (List.any_eq_true.mpr ⟨y, hy, by simp [e]⟩)
theorem setU_len (u : List (Int × Int)) (k v : Int) : (setU u k v).length ≤ u.length + 1 := by
  have := congrArg List.length (setU_keys u k v)
  split at this <;> simp at this <;> omega
/-- what a dict holds at a key -/
def getU (u : List (Int × Int)) (k : Int) : Option Int := (u.find? fun x => decide (x.1 = k)).map (·.2)
theorem get_dU (u : List (Int × Int)) (k : Int) : getK (dU u) (.int k) = (getU u k).map .int := by
  unfold dU getU
  rw [get_dI]
  induction u with
  | nil => rfl
  | cons x u ih =>
    rw [List.map_cons, List.find?_cons]
    unfold getI
    by_cases e : x.1 = k
    · simp [e]
    · simp only [e, decide_false]
      rw [if_neg (by simpa using e)]
      exact ih
theorem getU_none {u : List (Int × Int)} {k : Int} : getU u k = none ↔ ∀ x, x ∈ u → x.1 ≠ k := by
  unfold getU
  simp
theorem getU_mem {u : List (Int × Int)} {k v : Int} (h : getU u k = some v) : (k, v) ∈ u := by
  unfold getU at h
  rw [Option.map_eq_some_iff] at h
  obtain ⟨x, hx, rfl⟩ := h
  have h1 := List.mem_of_find?_eq_some hx
  have h2 := List.find?_some hx
  have := of_decide_eq_true h2
  subst this
  exact h1
theorem len_dU (u : List (Int × Int)) : (dU u).length = u.length := by simp [dU, dI]
theorem items_dU (u : List (Int × Int)) : (dU u).map (fun kv => PyData.tuple [kv.1, kv.2]) = u.map pq := by
  unfold dU dI
  rw [List.map_map, List.map_map]; rfl
theorem okItems_dU (u : List (Int × Int)) : okItems (dU u) = true := by
  unfold okItems
  rw [items_dU, Bool.and_eq_true]
  constructor
  · unfold okAlike
    rw [List.all_eq_true]
    intro a ha
    rw [List.all_eq_true]
    intro b hb
    obtain ⟨x, _, rfl⟩ := List.mem_map.mp ha
    obtain ⟨y, _, rfl⟩ := List.mem_map.mp hb
    rfl
  · unfold dU dI
    rw [List.map_map, List.all_map, List.all_eq_true]
    intro x _
    rfl
theorem sortIt_dU (u : List (Int × Int)) : sortD ((dU u).map fun kv => PyData.tuple [kv.1, kv.2]) = (sortBy pq u).map pq := by
  rw [items_dU, sortD_by]
/-- what counts the members of a row -/
def Cnt (ts : List Int) (u : List (Int × Int)) : Prop := (u.map (·.1)).Nodup ∧ (∀ x, x ∈ u ↔ x.1 ∈ ts ∧ x.2 = (ts.count x.1 : Nat)) ∧ u.length ≤ ts.length
theorem Cnt.nil : Cnt [] [] := ⟨List.nodup_nil, fun x => by simp, Nat.le_refl _⟩
theorem Cnt.get {ts : List Int} {u : List (Int × Int)} (h : Cnt ts u) (t : Int) : (getU u t).getD 0 = (ts.count t : Nat) := by
  cases hg : getU u t with
  | none =>
    rw [getU_none] at hg
    have : t ∉ ts := fun hm => hg (t, (ts.count t : Nat)) ((h.2.1 _).mpr ⟨hm, rfl⟩) rfl
    rw [List.count_eq_zero_of_not_mem this]; rfl
  | some v => exact ((h.2.1 _).mp (getU_mem hg)).2
theorem Cnt.add {ts : List Int} {u : List (Int × Int)} (h : Cnt ts u) (t : Int) : Cnt (ts ++ [t]) (setU u t ((ts.count t : Nat) + 1)) := by
  refine ⟨setU_nodup h.1, fun x => ?_, ?_⟩
  · rw [setU_mem]
    by_cases e : x.1 = t
    · rw [if_pos e, e, List.count_append]
      simp
    · rw [if_neg e, h.2.1 x, List.count_append, List.mem_append, List.mem_singleton, List.count_eq_zero_of_not_mem (l := [t]) (by simpa using e)]
      simp [e]
  · have := setU_len u t ((ts.count t : Nat) + 1)
    have := h.2.2
    rw [List.length_append, List.length_singleton]
    omega
/-- pairs by ascending first parts -/
def ascP (u : List (Int × Int)) : Prop := (u.map (·.1)).Pairwise (· < ·)
theorem ascP_ext {u v : List (Int × Int)} (h1 : ascP u) (h2 : ascP v) (h : ∀ x, x ∈ u ↔ x ∈ v) : u = v := by
  unfold ascP at h1 h2
  rw [List.pairwise_map] at h1 h2
  induction u generalizing v with
  | nil =>
    cases v with
    | nil => rfl
    | cons y v => exact absurd ((h y).mpr List.mem_cons_self) (by simp)
  | cons x u ih =>
    cases v with
    | nil => exact absurd ((h x).mp List.mem_cons_self) (by simp)
    | cons y v =>
      rw [List.pairwise_cons] at h1 h2
      have e : x = y := by
        rcases List.mem_cons.mp ((h x).mp List.mem_cons_self) with z | z
        · exact z
        · rcases List.mem_cons.mp ((h y).mpr List.mem_cons_self) with w | w
          · exact w.symm
          · have := h2.1 x z; have := h1.1 y w; omega
      subst e
      rw [ih h1.2 h2.2 fun z => ?_]
      constructor
      · intro hz
        rcases List.mem_cons.mp ((h z).mp (List.mem_cons_of_mem _ hz)) with w | w
        · subst w; have := h1.1 z hz; omega
        · exact w
      · intro hz
        rcases List.mem_cons.mp ((h z).mpr (List.mem_cons_of_mem _ hz)) with w | w
        · subst w; have := h2.1 z hz; omega
        · exact w
theorem ascP_sort {u : List (Int × Int)} (h : (u.map (·.1)).Nodup) : ascP (sortBy pq u) := by
  have hp := sortBy_perm pq u
  have hn : ((sortBy pq u).map (·.1)).Nodup := (hp.map (·.1)).nodup_iff.mpr h
  have hw := sortBy_pw pq u
  unfold ascP
  rw [List.pairwise_map]
  rw [List.Nodup, List.pairwise_map] at hn
  refine (List.Pairwise.and hw hn).imp fun {a b} z => ?_
  obtain ⟨z1, z2⟩ := z
  rw [dLe_pq] at z1
  have := of_decide_eq_true z1
  omega
end SE

namespace SE
open PySem L2 RZ PySem.W
/-! ### data told by a function that keeps them apart -/
structure Inj {α : Type} [DecidableEq α] (f : α → D) (n : Nat) : Prop where
  s : ∀ a, shp n (f a) = true
  e : ∀ a b, PyData.eqv (f a) (f b) = decide (a = b)
section
variable {α β : Type} [DecidableEq α] [DecidableEq β] {f : α → D} {g : β → D} {n m : Nat}
theorem Inj.up (h : Inj f n) (hm : n ≤ m) : Inj f m := ⟨fun a => shp_up n m _ hm (h.s a), h.e⟩
theorem Inj.eqvAll (h : Inj f n) : ∀ xs ys : List α, PyData.eqvAll (xs.map f) (ys.map f) = decide (xs = ys)
  | [], [] => by simp [PyData.eqvAll]
  | [], _ :: _ => by simp [PyData.eqvAll]
  | _ :: _, [] => by simp [PyData.eqvAll]
  | x :: xs, y :: ys => by
    have := h.eqvAll xs ys
    simp only [List.map_cons, PyData.eqvAll, this, h.e]
    by_cases h1 : x = y <;> by_cases h2 : xs = ys <;> simp [h1, h2]
theorem Inj.shpAll (h : Inj f n) (xs : List α) : (xs.map f).all (shp n) = true := by
  rw [List.all_map, List.all_eq_true]
  exact fun a _ => h.s a
theorem Inj.list (h : Inj f n) : Inj (fun xs : List α => PyData.list (xs.map f)) (n + 1) := ⟨fun xs => h.shpAll xs, fun xs ys => by rw [PyData.eqv, h.eqvAll]⟩
theorem Inj.tuple (h : Inj f n) : Inj (fun xs : List α => PyData.tuple (xs.map f)) (n + 1) := ⟨fun xs => h.shpAll xs, fun xs ys => by rw [PyData.eqv, h.eqvAll]⟩
theorem Inj.pair (h : Inj f n) (k : Inj g n) : Inj (fun x : α × β => PyData.tuple [f x.1, g x.2]) (n + 1) := ⟨fun x => by
  show (shp n (f x.1) && (shp n (g x.2) && true)) = true
  rw [h.s, k.s]; rfl, fun x y => by
  obtain ⟨a, b⟩ := x
  obtain ⟨c, d⟩ := y
  simp only [PyData.eqv, PyData.eqvAll, h.e, k.e, Bool.and_true]
  by_cases h1 : a = c <;> by_cases h2 : b = d <;> simp [h1, h2]⟩
theorem Inj.int : Inj PyData.int 1 := ⟨fun _ => rfl, fun a b => eqv_i a b⟩
theorem Inj.bool : Inj PyData.bool 1 := ⟨fun _ => rfl, fun a b => by cases a <;> cases b <;> simp [PyData.eqv]⟩
theorem Inj.ints : Inj (fun xs : List Int => PyData.list (xs.map PyData.int)) 2 := Inj.int.list
theorem Inj.pq : Inj SE.pq 2 := Inj.int.pair Inj.int
/-- none or a number -/
def oD : Option Int → D
  | none => .none
  | some g => .int g
@[simp] theorem oD_n : oD none = .none := rfl
@[simp] theorem oD_s (i : Int) : oD (some i) = .int i := rfl
theorem Inj.opt : Inj oD 1 := ⟨fun a => by cases a <;> rfl, fun a b => by cases a <;> cases b <;> simp [oD, PyData.eqv] <;> rw [Bool.eq_iff_iff] <;> simp⟩
theorem Inj.eqD (h : Inj f n) (hn : n ≤ 64) (a b : α) : eqD (f a) (f b) = some (decide (a = b)) := by rw [eqD_shp n hn (h.s a) (h.s b), h.e]
theorem Inj.eqL (h : Inj f n) (hn : n + 1 ≤ 64) (xs ys : List α) : SE.eqD (.list (xs.map f)) (.list (ys.map f)) = some (decide (xs = ys)) := h.list.eqD hn xs ys
theorem Inj.inO (h : Inj f n) (hn : n + 1 ≤ 64) {p o : O} {ys : List α} {x : α} (hp : p.d = some (f x)) (ho : o.l = some (ys.map f)) : inO p o = some (decide (x ∈ ys)) := by
  unfold SE.inO
  rw [ho]
  have h1 : SeqAt.shaped (f x) = true := shp_ok n (h.s x) (by omega)
  have h2 : SeqAt.shaped (.list (ys.map f)) = true := shp_ok (n + 1) (h.list.s ys) hn
  simp only [hp, h1, h2, Bool.and_self, if_true]
  congr 1
  clear h2 ho hp
  induction ys with
  | nil => simp
  | cons y ys ih =>
    rw [List.map_cons, List.any_cons, ih, h.e]
    by_cases hx : y = x
    · subst hx; simp
    · have hx' : ¬ x = y := fun z => hx z.symm
      simp [hx, hx']
theorem Inj.isin (h : Inj f n) (hn : n + 1 ≤ 64) {p o : O} {ys : List α} {x : α} (hp : p.d = some (f x)) (ho : o.l = some (ys.map f)) : oIn p o = .ok (.val (.bool (decide (x ∈ ys)))) := by rw [oIn_eq, h.inO hn hp ho]; rfl
theorem Inj.notin (h : Inj f n) (hn : n + 1 ≤ 64) {p o : O} {ys : List α} {x : α} (hp : p.d = some (f x)) (ho : o.l = some (ys.map f)) : oNotIn p o = .ok (.val (.bool (!decide (x ∈ ys)))) := by rw [oNotIn_eq, h.inO hn hp ho]; rfl
theorem Inj.isin_t (h : Inj f n) (hn : n + 1 ≤ 64) {p o : O} {ys : List α} {x : α} (hp : p.d = some (f x)) (ho : o.l = some (ys.map f)) (hx : x ∈ ys) : oIn p o = .ok (.val (.bool true)) := by rw [h.isin hn hp ho]; simp [hx]
theorem Inj.isin_f (h : Inj f n) (hn : n + 1 ≤ 64) {p o : O} {ys : List α} {x : α} (hp : p.d = some (f x)) (ho : o.l = some (ys.map f)) (hx : x ∉ ys) : oIn p o = .ok (.val (.bool false)) := by rw [h.isin hn hp ho]; simp [hx]
theorem Inj.notin_t (h : Inj f n) (hn : n + 1 ≤ 64) {p o : O} {ys : List α} {x : α} (hp : p.d = some (f x)) (ho : o.l = some (ys.map f)) (hx : x ∉ ys) : oNotIn p o = .ok (.val (.bool true)) := by rw [h.notin hn hp ho]; simp [hx]
theorem Inj.notin_f (h : Inj f n) (hn : n + 1 ≤ 64) {p o : O} {ys : List α} {x : α} (hp : p.d = some (f x)) (ho : o.l = some (ys.map f)) (hx : x ∈ ys) : oNotIn p o = .ok (.val (.bool false)) := by rw [h.notin hn hp ho]; simp [hx]
end
/-! ### lists of lists in order -/
theorem alike_ii : ∀ a b : List Int, alikeAll (a.map PyData.int) (b.map PyData.int) = true
  | [], [] => by simp [alikeAll]
  | [], _ :: _ => by simp [alikeAll]
  | _ :: _, [] => by simp [alikeAll]
  | x :: a, y :: b => by
    have := alike_ii a b
    simp [alikeAll, alike, this]
theorem depth_ii : ∀ xs : List Int, PyData.depthAll (xs.map PyData.int) ≤ 1
  | [] => by simp [PyData.depthAll]
  | x :: xs => by
    have := depth_ii xs
    simp [PyData.depthAll, PyData.depth]
    omega
abbrev lD (xs : List Int) : D := .list (xs.map .int)
theorem okSort_lD (xs : List (List Int)) : okSort (xs.map lD) = true := by
  unfold okSort
  simp only [Bool.and_eq_true, Bool.or_eq_true, List.all_eq_true, Nat.ble_eq, List.mem_map]
  refine ⟨⟨?_, .inr ?_⟩, ?_⟩
  · rintro _ ⟨a, _, rfl⟩ _ ⟨b, _, rfl⟩
    simp [alike, alike_ii]
  · rintro _ ⟨a, _, rfl⟩; rfl
  · rintro _ ⟨a, _, rfl⟩
    have := depth_ii a
    simp [PyData.depth]
    omega
theorem sortX_lD (xs : List (List Int)) {o : O} (ho : o.l = some (xs.map lD)) : oSortX o = .ok (.own ((sortBy lD xs).map lD)) := sortX_of lD xs ho (okSort_lD xs) (fun a i z => by cases z)
theorem dLe_lD_hd {a b : Int} {as bs : List Int} (h : dLe (lD (a :: as)) (lD (b :: bs)) = true) : a ≤ b := by
  unfold dLe at h
  rw [PySem.W.dataLe_eq] at h
  have e9 : PySem.W.dataLt (lD (b :: bs)) (lD (a :: as)) = decide ((b :: bs) < (a :: as)) := by rw [PySem.W.dataLt_list]; exact PySem.W.dataLt_ints (b :: bs) (a :: as)
  have h' : (!PySem.W.dataLt (lD (b :: bs)) (lD (a :: as))) = true := h
  rw [e9] at h'
  have h2 : ¬ (b :: bs) < (a :: as) := by simpa using h'
  by_cases hab : a ≤ b
  · exact hab
  · exact absurd (List.Lex.rel (by omega)) h2
/-! ### the place of a number in a list -/
def ixOf (x : Int) (R : List Int) : Nat := (R.takeWhile fun y => y != x).length
theorem idx_of (x : Int) : ∀ (R : List Int) (k : Nat), x ∈ R → idxD (.int x) k (R.map .int) = some (k + ixOf x R)
  | [], _, h => by cases h
  | y :: R, k, h => by
    rw [List.map_cons]
    by_cases e : y = x
    · subst e
      simp [idxD, PyData.eqv, ixOf, List.takeWhile_cons]
    · have a2 : (y != x) = true := by simpa using e
      have hx : x ∈ R := by rcases List.mem_cons.mp h with z | z; exact absurd z.symm e; exact z
      have ih := idx_of x R (k + 1) hx
      have e2 : ixOf x (y :: R) = ixOf x R + 1 := by unfold ixOf; rw [List.takeWhile_cons, a2, if_pos rfl, List.length_cons]
      have e3 : PyData.eqv (.int y) (.int x) = false := by simp [PyData.eqv, e]
      unfold idxD
      rw [e3, if_neg (by decide), ih, e2]
      congr 1; omega
theorem index_of {o : O} {R : List Int} (ho : o.l = some (R.map .int)) {x : Int} (h : x ∈ R) : oIndex o (.val (.int x)) = .ok (.val (.int (ixOf x R))) := by
  unfold oIndex
  have h1 : SeqAt.shaped (.int x) = true := rfl
  have h2 := shp_ok 2 (shp_ints R) (by decide)
  simp only [ho, od_v, h1, h2, Bool.and_self, if_true, idx_of x R 0 h, Nat.zero_add]
theorem ixOf_split (x : Int) : ∀ (R : List Int), x ∈ R → R = R.take (ixOf x R) ++ x :: R.drop (ixOf x R + 1) ∧ R.drop (ixOf x R) = x :: R.drop (ixOf x R + 1)
  | [], h => by cases h
  | y :: R, h => by
    by_cases e : y = x
    · subst e
      simp [ixOf, List.takeWhile_cons]
    · have a2 : (y != x) = true := by simpa using e
      have hx : x ∈ R := by rcases List.mem_cons.mp h with z | z; exact absurd z.symm e; exact z
      have e2 : ixOf x (y :: R) = ixOf x R + 1 := by unfold ixOf; rw [List.takeWhile_cons, a2, if_pos rfl, List.length_cons]
      obtain ⟨i1, i2⟩ := ixOf_split x R hx
      rw [e2]
      refine ⟨?_, by simpa using i2⟩
      rw [List.take_succ_cons, List.drop_succ_cons, List.cons_append, ← i1]
theorem ixOf_zero {x : Int} {R : List Int} : ixOf x (x :: R) = 0 := by simp [ixOf, List.takeWhile_cons]
@[simp] theorem e_mMR {i : Nat} {a : Opd} {f : O → O → Res O} {env : List O} : mMR i a f env = if (env.getD i .un).l.isSome = true then m2 f (.pk i) a env else .stuck := rfl
/-! ### max(.., default=0) -/
theorem okMin_ints (ns : List Int) : okMin (ns.map PyData.int) = true := by
  unfold okMin
  have := depth_ii ns
  rw [okAlike_ints, Bool.true_and, Bool.and_eq_true, List.all_map, List.all_eq_true]
  exact ⟨fun x _ => by simp [PyData.plain], Nat.ble_eq_true_of_le (by omega)⟩
theorem foldl_max (a : Int) : ∀ ns : List Int, (ns.foldl max a = a ∨ ns.foldl max a ∈ ns) ∧ a ≤ ns.foldl max a ∧ ∀ n, n ∈ ns → n ≤ ns.foldl max a
  | [] => ⟨.inl rfl, Int.le_refl _, fun n h => by cases h⟩
  | x :: ns => by
    obtain ⟨h1, h2, h3⟩ := foldl_max (max a x) ns
    rw [List.foldl_cons]
    refine ⟨?_, by omega, fun n hn => ?_⟩
    · rcases h1 with h1 | h1
      · rw [h1]
        by_cases e : x ≤ a
        · exact .inl (by omega)
        · exact .inr (by rw [show max a x = x by omega]; exact List.mem_cons_self)
      · exact .inr (List.mem_cons_of_mem _ h1)
    · rcases List.mem_cons.mp hn with z | z
      · omega
      · exact h3 n z
theorem maxL_foldl {ns : List Int} : maxL (0 :: ns) = ns.foldl max 0 := by
  obtain ⟨h1, h2, h3⟩ := foldl_max 0 ns
  refine (maxL_is ?_ fun n hn => ?_).symm
  · rcases h1 with h1 | h1
    · rw [h1]; exact List.mem_cons_self
    · exact List.mem_cons_of_mem _ h1
  · rcases List.mem_cons.mp hn with z | z
    · omega
    · exact h3 n z
theorem maxDef_0 {o : O} {ns : List Int} (ho : o.l = some (ns.map .int)) (h0 : ∀ n, n ∈ ns → 0 ≤ n) : oMaxDef o (.val (.int 0)) = .ok (.val (.int (maxL (0 :: ns)))) := by
  unfold oMaxDef minDefF
  rw [ho, maxL_foldl]
  cases ns with
  | nil => rfl
  | cons x ns =>
    have hk := okMin_ints (x :: ns)
    rw [List.map_cons] at hk ⊢
    simp only [hk, if_true, PySem.W.maxD_ints, List.foldl_cons]
    rw [show max 0 x = x from by have := h0 x List.mem_cons_self; omega]
end SE

namespace SE
open PySem L2 RZ PySem.W
/-! ### comprehensions with two fors -/
theorem compL_acc {g : Bnd} {t : T} {elt : M} {vs : List Nat} {α : Type} (inj : α → D) (f : α → D) (env : Env) (xs : List α) (acc : List D) (hl : acc.length + xs.length ≤ 16777216)
    (st : ∀ x, x ∈ xs → ∃ e1 e2 e3, g (inj x) env = some e1 ∧ t e1 = .ok (true, e2) ∧ elt e2 = .ok (.val (f x), e3) ∧ wipeE e3 vs = env) :
    compL g t elt vs (xs.map inj) acc env = .ok (acc ++ xs.map f, env) := by
  have := compL_filA (g := g) (t := t) (elt := elt) (vs := vs) inj (fun _ => true) f env xs acc hl (fun x hx => by
    obtain ⟨e1, e2, e3, h1, h2, h3, h4⟩ := st x hx
    exact ⟨e1, e2, h1, h2, by rw [if_pos rfl]; exact ⟨e3, h3, h4⟩⟩)
  rw [List.filter_eq_self.mpr (fun _ _ => rfl)] at this
  exact this
theorem compL2_flat {g : Bnd} {t : T} {src1 : Src} {g1 : Bnd} {t1 : T} {elt : M} {vs vs1 : List Nat} {α : Type} (inj : α → D) (f : α → List D) (env : Env) : ∀ (xs : List α) (acc : List D),
    (∀ x, x ∈ xs → ∀ acc : List D, ∃ e1 e2 ds e3 e4, g (inj x) env = some e1 ∧ t e1 = .ok (true, e2) ∧ src1 e2 = .ok (ds, e3) ∧ (acc.length + (f x).length ≤ 16777216 → compL g1 t1 elt vs1 ds acc (wipeE e3 vs1) = .ok (acc ++ f x, e4)) ∧ wipeE e4 vs = env) →
    acc.length + (xs.flatMap f).length ≤ 16777216 → compL2 g t src1 g1 t1 elt vs vs1 (xs.map inj) acc env = .ok (acc ++ xs.flatMap f, env)
  | [], acc, _, _ => by simp [compL2]
  | x :: xs, acc, st, hl => by
    obtain ⟨e1, e2, ds, e3, e4, h1, h2, h3, h4, h5⟩ := st x List.mem_cons_self acc
    rw [List.flatMap_cons, List.length_append] at hl
    have h4 := h4 (by omega)
    have ih := compL2_flat (g := g) (t := t) (src1 := src1) (g1 := g1) (t1 := t1) (elt := elt) (vs := vs) (vs1 := vs1) inj f env xs (acc ++ f x) (fun y hy => st y (List.mem_cons_of_mem _ hy)) (by rw [List.length_append]; omega)
    rw [List.map_cons]
    unfold compL2
    rw [h1]
    simp [h2, h3, h4, h5, ih]
@[simp] theorem e_mComp2 {src : Src} {g : Bnd} {t : T} {src1 : Src} {g1 : Bnd} {t1 : T} {elt : M} {vs vs1 : List Nat} {env : Env} : mComp2 src g t src1 g1 t1 elt vs vs1 env = (src env).bind fun p => if vs.all (fun i => (p.2.getD i .un).soft) = true then (compL2 g t src1 g1 t1 elt vs vs1 p.1 [] (wipeE p.2 vs)).bind fun q => .ok (.own q.1, restE p.2 q.2 vs) else .stuck := rfl
theorem Inj.count {α : Type} [DecidableEq α] {f : α → D} {n : Nat} (h : Inj f n) (hn : n + 1 ≤ 64) {o p : O} {xs : List α} {x : α} (ho : o.l = some (xs.map f)) (hp : p.d = some (f x)) : oCountD o p = .ok (.val (.int ((xs.countP fun y => decide (y = x) : Nat) : Int))) := by
  unfold oCountD
  have h1 : SeqAt.shaped (f x) = true := shp_ok n (h.s x) (by omega)
  have h2 : SeqAt.shaped (.list (xs.map f)) = true := shp_ok (n + 1) (h.list.s xs) hn
  simp only [ho, hp, h1, h2, Bool.and_self, if_true]
  rw [List.countP_map]
  have : (fun z => PyData.eqv z (f x)) ∘ f = fun y => decide (y = x) := by
    funext y
    exact h.e y x
  rw [this]
theorem cut_ab {α : Type} (xs : List α) (a b : Nat) (hb : b ≤ xs.length) : cutD xs (some (a : Int)) (some (b : Int)) = (xs.drop a).take (b - a) := by
  unfold cutD
  rw [HT.sIx_nat, HT.sIx_nat, Nat.min_eq_left hb]
  by_cases h : a ≤ xs.length
  · rw [Nat.min_eq_left h]
  · rw [Nat.min_eq_right (by omega), List.drop_of_length_le (by omega), List.drop_of_length_le (by omega)]; simp
end SE

namespace SE
open PySem L2 RZ
/-! ### the loop over an own list, told by simp -/
def backH (i : Nat) (f : Env → SRes) (e : Env) : O → SRes
  | .pin false xs => f (e.set i (.own xs))
  | _ => .stuck
theorem backF_eq (i : Nat) (f : Env → SRes) (e : Env) : backF i f e = backH i f e (e.getD i .un) := by
  unfold backF backE backH
  split <;> rename_i h <;> split at h <;> simp_all
@[simp] theorem e_sForO {i : Nat} {g : Bnd} {body : S} {env : Env} : sForO i g body env = lendForF i g body env (env.getD i .un) := rfl
@[simp] theorem e_lendForF {i : Nat} {g : Bnd} {body : S} {env : Env} {xs : List D} : lendForF i g body env (.own xs) = backR i (forL g body xs (env.set i (.pin false xs))) := rfl
@[simp] theorem e_backN {i : Nat} {e : Env} : backR i (.next e) = backH i .next e (e.getD i .un) := backF_eq ..
@[simp] theorem e_backRt {i : Nat} {r : O} {e : Env} : backR i (.ret r e) = backH i (.ret r) e (e.getD i .un) := backF_eq ..
@[simp] theorem e_backH {i : Nat} {f : Env → SRes} {e : Env} {xs : List D} : backH i f e (.pin false xs) = f (e.set i (.own xs)) := rfl
@[simp] theorem e_srcRs {ma mb : M} {env : Env} : srcRs ma mb env = (pass [.m ma, .m mb] env).bind fun p => match p.1 with
  | [.val (.int i), .val (.int j)] => if small i = true ∧ small j = true then .ok (rngC i 2 ((j - i + 1) / 2).toNat, p.2) else .stuck
  | _ => .stuck := rfl
end SE

namespace SE
open PySem L2 RZ
/-! ### good texts -/
def okG (s : Str) : Bool := PyData.strOk s && Nat.ble s.length 1000
def GS := {s : Str // okG s = true}
instance : DecidableEq GS := inferInstanceAs (DecidableEq {s : Str // okG s = true})
theorem GS.len (s : GS) : s.1.length ≤ 1000 := by
  have := s.2
  unfold okG at this
  rw [Bool.and_eq_true, Nat.ble_eq] at this
  exact this.2
theorem GS.ok (s : GS) : PyData.strOk s.1 = true := by
  have := s.2
  unfold okG at this
  rw [Bool.and_eq_true] at this
  exact this.1
def gD (s : GS) : D := .str s.1
theorem gD_eqv (a b : GS) : PyData.eqv (gD a) (gD b) = decide (a = b) := by
  rw [Bool.eq_iff_iff]
  simp only [gD, PyData.eqv, decide_eq_true_eq, beq_iff_eq]
  exact Subtype.ext_iff.symm
theorem Inj.gs : Inj gD 1 := ⟨fun s => by simp only [gD, shp]; exact s.ok, gD_eqv⟩
theorem str_ext {a b : Str} (h : a.cps.toList = b.cps.toList) : a = b := by
  obtain ⟨a⟩ := a
  obtain ⟨b⟩ := b
  congr
  exact Array.toList_inj.mp h
theorem dLe_str (a b : Str) : dLe (.str a) (.str b) = !decide (b.cps.toList < a.cps.toList) := by
  unfold dLe
  rw [PySem.W.dataLe_eq]
  show (!PySem.W.dataLt (.str b) (.str a)) = _
  rw [PySem.W.dataLt_str]
theorem gD_anti {a b : GS} (h1 : dLe (gD a) (gD b) = true) (h2 : dLe (gD b) (gD a) = true) : a = b := by
  unfold gD at h1 h2
  rw [dLe_str] at h1 h2
  simp at h1 h2
  exact Subtype.ext (str_ext (List.le_antisymm h1 h2))
theorem gD_refl (a : GS) : dLe (gD a) (gD a) = true := by
  unfold gD
  rw [dLe_str]
  simp
/-! ### own dicts told by lists of pairs -/
section
variable {α β : Type} [DecidableEq α]
def dA (f : α → D) (g : β → D) (u : List (α × β)) : List (D × D) := u.map fun x => (f x.1, g x.2)
def getA (u : List (α × β)) (k : α) : Option β := (u.find? fun x => decide (x.1 = k)).map (·.2)
def setA (u : List (α × β)) (k : α) (v : β) : List (α × β) := if u.any (fun x => decide (x.1 = k)) = true then u.map (fun x => if x.1 = k then (x.1, v) else x) else u ++ [(k, v)]
variable {f : α → D} {g : β → D}
theorem has_dA (he : ∀ a b, PyData.eqv (f a) (f b) = decide (a = b)) (u : List (α × β)) (k : α) : hasK (dA f g u) (f k) = u.any fun x => decide (x.1 = k) := by
  unfold hasK dA
  rw [List.any_map]
  congr 1
  funext x
  exact he _ _
theorem put_dA (he : ∀ a b, PyData.eqv (f a) (f b) = decide (a = b)) (u : List (α × β)) (k : α) (v : β) : putD (dA f g u) (f k) (g v) = dA f g (setA u k v) := by
  unfold putD setA
  rw [has_dA he]
  split
  · unfold dA
    rw [List.map_map, List.map_map]
    refine List.map_congr_left fun x _ => ?_
    simp only [Function.comp, he]
    by_cases e : x.1 = k <;> simp [e]
  · unfold dA
    simp
theorem getK_dA (he : ∀ a b, PyData.eqv (f a) (f b) = decide (a = b)) (u : List (α × β)) (k : α) : getK (dA f g u) (f k) = (getA u k).map g := by
  unfold getA
  induction u with
  | nil => rfl
  | cons x u ih =>
    show (if PyData.eqv (f x.1) (f k) = true then _ else getK (dA f g u) (f k)) = _
    rw [he, List.find?_cons]
    by_cases e : x.1 = k
    · simp [e]
    · simp only [e, decide_false]
      rw [if_neg (by simp)]
      exact ih
theorem len_dA (u : List (α × β)) : (dA f g u).length = u.length := by simp [dA]
theorem getA_none {u : List (α × β)} {k : α} : getA u k = none ↔ ∀ x, x ∈ u → x.1 ≠ k := by unfold getA; simp
theorem getA_mem {u : List (α × β)} {k : α} {v : β} (h : getA u k = some v) : (k, v) ∈ u := by
  unfold getA at h
  rw [Option.map_eq_some_iff] at h
  obtain ⟨x, hx, rfl⟩ := h
  have h1 := List.mem_of_find?_eq_some hx
  have h2 := List.find?_some hx
  have := of_decide_eq_true h2
  subst this
  exact h1
theorem getA_cons (x : α × β) (u : List (α × β)) (k : α) : getA (x :: u) k = if x.1 = k then some x.2 else getA u k := by
  unfold getA
  rw [List.find?_cons]
  by_cases e : x.1 = k <;> simp [e]
theorem getA_of_mem {u : List (α × β)} (h : (u.map (·.1)).Nodup) {k : α} {v : β} (hm : (k, v) ∈ u) : getA u k = some v := by
  induction u with
  | nil => cases hm
  | cons x u ih =>
    rw [List.map_cons, List.nodup_cons] at h
    rw [getA_cons]
    rcases List.mem_cons.mp hm with e | hm
    · rw [← e, if_pos rfl]
    · by_cases e : x.1 = k
      · exact absurd (List.mem_map.mpr ⟨(k, v), hm, e.symm⟩) h.1
      · rw [if_neg e]; exact ih h.2 hm
theorem getA_app (u : List (α × β)) (x : α × β) (k : α) : getA (u ++ [x]) k = match getA u k with | some v => some v | none => if x.1 = k then some x.2 else none := by
  induction u with
  | nil => rw [List.nil_append, getA_cons]; rfl
  | cons y u ih =>
    rw [List.cons_append, getA_cons, getA_cons, ih]
    by_cases e : y.1 = k
    · rw [if_pos e, if_pos e]
    · rw [if_neg e, if_neg e]
theorem any_getA (u : List (α × β)) (k : α) : (u.any fun x => decide (x.1 = k)) = (getA u k).isSome := by
  unfold getA
  rw [Option.isSome_map, Bool.eq_iff_iff]
  simp
theorem getA_map (k : α) (v : β) (j : α) : ∀ u : List (α × β), getA (u.map fun x => if x.1 = k then (x.1, v) else x) j = if j = k then (getA u j).map (fun _ => v) else getA u j
  | [] => by simp [getA]
  | x :: u => by
    rw [List.map_cons, getA_cons, getA_cons, getA_map k v j u]
    by_cases e : x.1 = k
    · rw [if_pos e]
      by_cases e2 : x.1 = j
      · have : j = k := by rw [← e2, e]
        simp [this, e]
      · simp [e2]
    · rw [if_neg e]
      by_cases e2 : x.1 = j
      · have : ¬ j = k := fun z => e (e2.trans z)
        simp [e2, this]
      · simp [e2]
theorem get_setA (u : List (α × β)) (k : α) (v : β) (j : α) : getA (setA u k v) j = if j = k then some v else getA u j := by
  unfold setA
  by_cases h : (u.any fun x => decide (x.1 = k)) = true
  · rw [if_pos h, getA_map]
    by_cases e : j = k
    · subst e
      rw [if_pos rfl, if_pos rfl]
      rw [any_getA] at h
      obtain ⟨w, hw⟩ := Option.isSome_iff_exists.mp h
      rw [hw]; rfl
    · rw [if_neg e, if_neg e]
  · rw [if_neg h, getA_app]
    rw [any_getA] at h
    by_cases e : j = k
    · subst e
      rw [if_pos rfl]
      have : getA u j = none := by simpa using h
      rw [this]; simp
    · rw [if_neg e]
      cases getA u j with
      | some w => rfl
      | none => simp [show ¬ k = j from fun z => e z.symm]
theorem setA_keys (u : List (α × β)) (k : α) (v : β) : (setA u k v).map (·.1) = if (u.any fun x => decide (x.1 = k)) = true then u.map (·.1) else u.map (·.1) ++ [k] := by
  unfold setA
  split
  · rw [List.map_map]
    refine List.map_congr_left fun x _ => ?_
    simp only [Function.comp]
    split <;> rfl
  · simp
theorem setA_nodup {u : List (α × β)} {k : α} {v : β} (h : (u.map (·.1)).Nodup) : ((setA u k v).map (·.1)).Nodup := by
  rw [setA_keys]
  split
  · exact h
  · rename_i hk
    rw [List.nodup_append]
    refine ⟨h, by simp, ?_⟩
    intro a ha b hb z
    rw [List.mem_singleton.mp hb] at z
    subst z
    obtain ⟨x, hx, e⟩ := List.mem_map.mp ha
    exact hk (List.any_eq_true.mpr ⟨x, hx, decide_eq_true e⟩)
theorem setA_len (u : List (α × β)) (k : α) (v : β) : (setA u k v).length ≤ u.length + 1 := by
  unfold setA
  split <;> simp
theorem key_getA (u : List (α × β)) (k : α) : k ∈ u.map (·.1) ↔ (getA u k).isSome = true := by
  rw [← any_getA, List.any_eq_true, List.mem_map]
  constructor
  · rintro ⟨x, hx, rfl⟩; exact ⟨x, hx, decide_eq_true rfl⟩
  · rintro ⟨x, hx, e⟩; exact ⟨x, hx, of_decide_eq_true e⟩
end
/-! ### sorted is told by its members -/
theorem srt_uniq {α : Type} (f : α → D) {u v : List α} (anti : ∀ a b, a ∈ u → b ∈ v → dLe (f a) (f b) = true → dLe (f b) (f a) = true → a = b) (h1 : u.Pairwise fun a b => dLe (f a) (f b) = true) (h2 : v.Pairwise fun a b => dLe (f a) (f b) = true) (h : u.Perm v) : u = v :=
  h.eq_of_pairwise (fun a b ha hb z1 z2 => anti a b ha hb z1 z2) h1 h2
/-- text and number -/
def gi (x : GS × Int) : D := .tuple [gD x.1, .int x.2]
/-- number and text -/
def ig (x : Int × GS) : D := .tuple [.int x.1, gD x.2]
theorem Inj.gi : Inj SE.gi 2 := Inj.gs.pair Inj.int
theorem Inj.ig : Inj SE.ig 2 := Inj.int.pair Inj.gs
theorem dLe_int (a b : Int) : dLe (.int a) (.int b) = decide (a ≤ b) := by
  unfold dLe
  rw [PySem.W.dataLe_eq]
  show (!PySem.W.dataLt (.int b) (.int a)) = _
  rw [PySem.W.dataLt_int, Bool.eq_iff_iff]
  simp
theorem lt_le (d e : D) : PySem.W.dataLt d e = !dLe e d := by
  unfold dLe
  rw [PySem.W.dataLe_eq]
  show _ = !(!PySem.W.dataLt d e)
  rw [Bool.not_not]
theorem dLe_gi (x y : GS × Int) : dLe (gi x) (gi y) = if x.1 = y.1 then decide (x.2 ≤ y.2) else dLe (gD x.1) (gD y.1) := by
  have : dLe (gi x) (gi y) = !PySem.W.dataLt (gi y) (gi x) := by
    unfold dLe
    rw [PySem.W.dataLe_eq]; rfl
  rw [this]
  unfold gi
  rw [PySem.W.dataLt_pair (by simp [gD, PySem.W.alike]) (by simp [PySem.W.alike]), gD_eqv, eqv_i, lt_le, lt_le, dLe_int]
  by_cases e : x.1 = y.1
  · rw [if_pos e]
    by_cases f : x.2 = y.2
    · simp [e, f]
    · have f' : ¬ y.2 = x.2 := fun z => f z.symm
      simp [e, f']
  · have e' : ¬ y.1 = x.1 := fun z => e z.symm
    simp [e, e']
theorem dLe_ig (x y : Int × GS) : dLe (ig x) (ig y) = if x.1 = y.1 then dLe (gD x.2) (gD y.2) else decide (x.1 ≤ y.1) := by
  have : dLe (ig x) (ig y) = !PySem.W.dataLt (ig y) (ig x) := by
    unfold dLe
    rw [PySem.W.dataLe_eq]; rfl
  rw [this]
  unfold ig
  rw [PySem.W.dataLt_pair (by simp [PySem.W.alike]) (by simp [gD, PySem.W.alike]), gD_eqv, eqv_i, lt_le, lt_le, dLe_int]
  by_cases e : x.1 = y.1
  · rw [if_pos e]
    by_cases f : x.2 = y.2
    · simp [e, f, gD_refl]
    · have f' : ¬ y.2 = x.2 := fun z => f z.symm
      simp [e, f']
  · have e' : ¬ y.1 = x.1 := fun z => e z.symm
    simp [e, e']
theorem gi_anti {x y : GS × Int} (h1 : dLe (gi x) (gi y) = true) (h2 : dLe (gi y) (gi x) = true) : x = y := by
  rw [dLe_gi] at h1 h2
  by_cases e : x.1 = y.1
  · rw [if_pos e] at h1
    rw [if_pos e.symm] at h2
    have := of_decide_eq_true h1
    have := of_decide_eq_true h2
    exact Prod.ext e (by omega)
  · rw [if_neg e] at h1
    rw [if_neg fun z => e z.symm] at h2
    exact absurd (gD_anti h1 h2) e
theorem ig_anti {x y : Int × GS} (h1 : dLe (ig x) (ig y) = true) (h2 : dLe (ig y) (ig x) = true) : x = y := by
  rw [dLe_ig] at h1 h2
  by_cases e : x.1 = y.1
  · rw [if_pos e] at h1
    rw [if_pos e.symm] at h2
    exact Prod.ext e (gD_anti h1 h2)
  · rw [if_neg e] at h1
    rw [if_neg fun z => e z.symm] at h2
    have := of_decide_eq_true h1
    have := of_decide_eq_true h2
    omega
theorem sortX_ig (xs : List (Int × GS)) {o : O} (ho : o.l = some (xs.map ig)) : oSortX o = .ok (.own ((sortBy ig xs).map ig)) :=
  sortX_of ig xs ho (okSort_of ig xs (fun a b => by simp [ig, gD, PySem.W.alike, PySem.W.alikeAll]) (fun a => ⟨_, _, rfl⟩) (fun a => by simp [ig, gD, PyData.depth, PyData.depthAll])) (fun a i z => by cases z)
theorem sortBy_ig {xs ys : List (Int × GS)} (h : ys.Perm xs) (ha : (ys.map (·.1)).Pairwise (· < ·)) : sortBy ig xs = ys := by
  refine srt_uniq ig (fun a b _ _ => ig_anti) (sortBy_pw ig xs) ?_ ((sortBy_perm ig xs).trans h.symm)
  rw [List.pairwise_map] at ha
  refine ha.imp fun {a b} z => ?_
  rw [dLe_ig, if_neg (by omega)]
  exact decide_eq_true (by omega)
/-- the keys of a dict, ascending -/
def ksA (u : List (GS × Int)) : List GS := sortBy gD (u.map (·.1))
theorem sortK_dA (u : List (GS × Int)) : oSortDK (.dct false (dA gD PyData.int u)) = .ok (.own ((ksA u).map gD)) := by
  have e : (dA gD PyData.int u).map (·.1) = (u.map (·.1)).map gD := by unfold dA; rw [List.map_map, List.map_map]; rfl
  rw [e_sortDK, e, if_pos, sortD_by]; rfl
  unfold okAlike
  rw [List.all_eq_true]
  intro a ha
  rw [List.all_eq_true]
  intro b hb
  obtain ⟨x, _, rfl⟩ := List.mem_map.mp ha
  obtain ⟨y, _, rfl⟩ := List.mem_map.mp hb
  simp [gD, PySem.W.alike]
theorem ksA_eq {u v : List (GS × Int)} (h1 : (u.map (·.1)).Nodup) (h2 : (v.map (·.1)).Nodup) (h : ∀ k, k ∈ u.map (·.1) ↔ k ∈ v.map (·.1)) : ksA u = ksA v := by
  refine srt_uniq gD (fun a b _ _ => gD_anti) (sortBy_pw gD _) (sortBy_pw gD _) ?_
  exact (sortBy_perm gD _).trans (((List.perm_ext_iff_of_nodup h1 h2).mpr h).trans (sortBy_perm gD _).symm)
/-- what the sorted items are -/
def itA (u : List (GS × Int)) : List (GS × Int) := (ksA u).map fun k => (k, (getA u k).getD 0)
theorem itA_perm {u : List (GS × Int)} (h : (u.map (·.1)).Nodup) : (itA u).Perm u := by
  have e : (u.map (·.1)).map (fun k => (k, (getA u k).getD 0)) = u := by
    rw [List.map_map]
    conv => rhs; rw [← List.map_id u]
    refine List.map_congr_left fun x hx => ?_
    have := getA_of_mem h (k := x.1) (v := x.2) hx
    simp [this]
  have := (sortBy_perm gD (u.map (·.1))).map fun k => (k, (getA u k).getD 0)
  rw [e] at this
  exact this
theorem sortIt_dA {u : List (GS × Int)} (h : (u.map (·.1)).Nodup) : okItems (dA gD PyData.int u) = true ∧ sortD ((dA gD PyData.int u).map fun kv => PyData.tuple [kv.1, kv.2]) = (itA u).map gi := by
  have e : (dA gD PyData.int u).map (fun kv => PyData.tuple [kv.1, kv.2]) = u.map gi := by unfold dA; rw [List.map_map]; rfl
  constructor
  · unfold okItems
    rw [e, Bool.and_eq_true]
    constructor
    · unfold okAlike
      rw [List.all_eq_true]
      intro a ha
      rw [List.all_eq_true]
      intro b hb
      obtain ⟨x, _, rfl⟩ := List.mem_map.mp ha
      obtain ⟨y, _, rfl⟩ := List.mem_map.mp hb
      simp [gi, gD, PySem.W.alike, PySem.W.alikeAll]
    · unfold dA
      rw [List.all_map, List.all_eq_true]
      intro x _
      rfl
  · rw [e, sortD_by]
    congr 1
    refine srt_uniq gi (fun a b _ _ => gi_anti) (sortBy_pw gi _) ?_ ((sortBy_perm gi _).trans (itA_perm h).symm)
    unfold itA
    rw [List.pairwise_map]
    have p1 := sortBy_pw gD (u.map (·.1))
    have p2 : (ksA u).Nodup := (sortBy_perm gD (u.map fun x : GS × Int => x.1)).nodup_iff.mpr h
    refine (p1.and (List.nodup_iff_pairwise_ne.mp p2)).imp fun {a b} ⟨z1, z2⟩ => ?_
    rw [dLe_gi, if_neg z2]
    exact z1
theorem itA_eq {u v : List (GS × Int)} (h1 : (u.map (·.1)).Nodup) (h2 : (v.map (·.1)).Nodup) (h : ∀ k, getA u k = getA v k) : itA u = itA v := by
  unfold itA
  rw [ksA_eq h1 h2 (fun k => by rw [key_getA, key_getA, h])]
  refine List.map_congr_left fun k _ => ?_
  rw [h]
end SE

namespace SE
open PySem L2 RZ
/-! ### min and max of data told by an order -/
section
variable {α : Type} (f : α → D) (r : α → α → Prop) [DecidableRel r]
theorem minD_fold (hr : ∀ x y, PySem.W.dataLt (f x) (f y) = decide (r x y)) : ∀ (ys : List α) (a : α), PySem.W.minD (f a) (ys.map f) = f (ys.foldl (fun a y => if r y a then y else a) a) := by
  intro ys
  unfold PySem.W.minD
  induction ys with
  | nil => intro a; rfl
  | cons y ys ih =>
    intro a
    rw [List.map_cons, List.foldl_cons, List.foldl_cons, hr]
    by_cases h : r y a
    · rw [if_pos h, if_pos (by simpa using h)]; exact ih y
    · rw [if_neg h, if_neg (by simpa using h)]; exact ih a
theorem maxD_fold (hr : ∀ x y, PySem.W.dataLt (f x) (f y) = decide (r x y)) : ∀ (ys : List α) (a : α), PySem.W.maxD (f a) (ys.map f) = f (ys.foldl (fun a y => if r a y then y else a) a) := by
  intro ys
  unfold PySem.W.maxD
  induction ys with
  | nil => intro a; rfl
  | cons y ys ih =>
    intro a
    rw [List.map_cons, List.foldl_cons, List.foldl_cons, hr]
    by_cases h : r a y
    · rw [if_pos h, if_pos (by simpa using h)]; exact ih y
    · rw [if_neg h, if_neg (by simpa using h)]; exact ih a
theorem fold_least (asy : ∀ a b, r a b → ¬ r b a) (tr : ∀ a b c, ¬ r b a → ¬ r c b → ¬ r c a) (xs : List α) : ∀ a : α, let m := xs.foldl (fun a y => if r y a then y else a) a; m ∈ a :: xs ∧ ∀ c, c ∈ a :: xs → ¬ r c m := by
  induction xs with
  | nil => intro a; exact ⟨by simp, fun c hc => by rw [List.mem_singleton.mp hc]; exact fun z => asy _ _ z z⟩
  | cons y xs ih =>
    intro a
    simp only [List.foldl_cons]
    obtain ⟨h1, h2⟩ := ih (if r y a then y else a)
    by_cases e : r y a
    · simp only [if_pos e] at h1 h2 ⊢
      refine ⟨List.mem_cons_of_mem _ h1, fun c hc => ?_⟩
      rcases List.mem_cons.mp hc with rfl | hc
      · exact tr _ _ _ (h2 y (by simp)) (asy _ _ e)
      · exact h2 c hc
    · simp only [if_neg e] at h1 h2 ⊢
      refine ⟨?_, fun c hc => ?_⟩
      · rcases List.mem_cons.mp h1 with z | z
        · rw [z]; simp
        · simp [z]
      rcases List.mem_cons.mp hc with rfl | hc
      · exact h2 _ (by simp)
      · rcases List.mem_cons.mp hc with rfl | hc
        · exact tr _ _ _ (h2 a (by simp)) e
        · exact h2 c (by simp [hc])
end
theorem okMin_of {α : Type} (f : α → D) (xs : List α) (h1 : ∀ a b, PySem.W.alike (f a) (f b) = true) (h2 : ∀ a, f a ≠ .none) (h3 : ∀ a, (f a).plain = true) (h4 : ∀ a, (f a).depth ≤ 40) : okMin (xs.map f) = true := by
  have dp : ∀ zs : List α, PyData.depthAll (zs.map f) ≤ 50 := by
    intro zs
    induction zs with
    | nil => simp [PyData.depthAll]
    | cons z zs ih =>
      have := h4 z
      simp only [List.map_cons, PyData.depthAll]
      omega
  unfold okMin
  rw [Bool.and_eq_true, Bool.and_eq_true]
  refine ⟨⟨?_, ?_⟩, Nat.ble_eq_true_of_le (dp xs)⟩
  · unfold okAlike
    rw [List.all_eq_true]
    intro a ha
    rw [List.all_eq_true]
    intro b hb
    obtain ⟨x, _, rfl⟩ := List.mem_map.mp ha
    obtain ⟨y, _, rfl⟩ := List.mem_map.mp hb
    exact h1 x y
  · rw [List.all_eq_true]
    intro d hd
    obtain ⟨z, _, rfl⟩ := List.mem_map.mp hd
    have := h2 z
    rw [h3, Bool.and_true]
    split
    · rename_i e; exact absurd e this
    · rfl
theorem minX_of {α : Type} (f : α → D) (r : α → α → Prop) [DecidableRel r] (hr : ∀ x y, PySem.W.dataLt (f x) (f y) = decide (r x y)) (asy : ∀ a b, r a b → ¬ r b a) (tr : ∀ a b c, ¬ r b a → ¬ r c b → ¬ r c a)
    (hok : ∀ xs : List α, okMin (xs.map f) = true) {xs : List α} {m : α} {o : O} (ho : o.l = some (xs.map f)) (hm : m ∈ xs) (h : ∀ c, c ∈ xs → ¬ r c m) (anti : ∀ c, c ∈ xs → ¬ r m c → c = m) : oMinX o = .ok (.val (f m)) := by
  match xs, ho, hm, h, anti with
  | a :: ys, ho, hm, h, anti =>
    have e : oMinX o = (if okMin ((a :: ys).map f) = true then Res.ok (O.val (PySem.W.minD (f a) (ys.map f))) else Res.stuck) := by
      unfold oMinX minF
      rw [ho]
      rfl
    rw [e, if_pos (hok _), minD_fold f r hr]
    obtain ⟨h1, h2⟩ := fold_least r asy tr ys a
    rw [anti _ h1 (h2 m hm)]
theorem maxX_of {α : Type} (f : α → D) (r : α → α → Prop) [DecidableRel r] (hr : ∀ x y, PySem.W.dataLt (f x) (f y) = decide (r x y)) (asy : ∀ a b, r a b → ¬ r b a) (tr : ∀ a b c, ¬ r b a → ¬ r c b → ¬ r c a)
    (hok : ∀ xs : List α, okMin (xs.map f) = true) {xs : List α} {m : α} {o : O} (ho : o.l = some (xs.map f)) (hm : m ∈ xs) (h : ∀ c, c ∈ xs → ¬ r m c) (anti : ∀ c, c ∈ xs → ¬ r c m → c = m) : oMaxX o = .ok (.val (f m)) := by
  match xs, ho, hm, h, anti with
  | a :: ys, ho, hm, h, anti =>
    have e : oMaxX o = (if okMin ((a :: ys).map f) = true then Res.ok (O.val (PySem.W.maxD (f a) (ys.map f))) else Res.stuck) := by
      unfold oMaxX minF
      rw [ho]
      rfl
    rw [e, if_pos (hok _), maxD_fold f r hr]
    obtain ⟨h1, h2⟩ := fold_least (fun a b => r b a) (fun a b z => asy _ _ z) (fun a b c z1 z2 => tr c b a z2 z1) ys a
    rw [anti _ h1 (h2 m hm)]
theorem okMin_int (xs : List Int) : okMin (xs.map PyData.int) = true := okMin_ints xs
theorem minX_int {xs : List Int} {m : Int} {o : O} (ho : o.l = some (xs.map .int)) (hm : m ∈ xs) (h : ∀ c, c ∈ xs → m ≤ c) : oMinX o = .ok (.val (.int m)) :=
  minX_of PyData.int (fun a b => a < b) (fun x y => PySem.W.dataLt_int x y) (fun a b z => by omega) (fun a b c z1 z2 => by omega) okMin_int ho hm (fun c hc => by have := h c hc; omega) (fun c hc z => by have := h c hc; omega)
theorem maxX_int {xs : List Int} {m : Int} {o : O} (ho : o.l = some (xs.map .int)) (hm : m ∈ xs) (h : ∀ c, c ∈ xs → c ≤ m) : oMaxX o = .ok (.val (.int m)) :=
  maxX_of PyData.int (fun a b => a < b) (fun x y => PySem.W.dataLt_int x y) (fun a b z => by omega) (fun a b c z1 z2 => by omega) okMin_int ho hm (fun c hc => by have := h c hc; omega) (fun c hc z => by have := h c hc; omega)
/-- the order of pairs of whole numbers -/
def pLt (x y : Int × Int) : Prop := x.1 < y.1 ∨ (x.1 = y.1 ∧ x.2 < y.2)
instance : DecidableRel pLt := fun x y => inferInstanceAs (Decidable (x.1 < y.1 ∨ (x.1 = y.1 ∧ x.2 < y.2)))
theorem dataLt_pq (x y : Int × Int) : PySem.W.dataLt (pq x) (pq y) = decide (pLt x y) := by
  unfold pq
  rw [PySem.W.dataLt_pair (by simp [PySem.W.alike]) (by simp [PySem.W.alike]), eqv_i, eqv_i, PySem.W.dataLt_int, PySem.W.dataLt_int]
  unfold pLt
  by_cases e : x.1 = y.1
  · by_cases f : x.2 = y.2
    · simp [e, f]
    · simp [e, f]
  · simp [e]
theorem okMin_pq (xs : List (Int × Int)) : okMin (xs.map pq) = true :=
  okMin_of pq xs (fun a b => by simp [pq, PySem.W.alike, PySem.W.alikeAll]) (fun a => by simp [pq]) (fun a => by simp [pq, PyData.plain, PyData.plainAll]) (fun a => by simp [pq, PyData.depth, PyData.depthAll])
theorem minX_pq {xs : List (Int × Int)} {m : Int × Int} {o : O} (ho : o.l = some (xs.map pq)) (hm : m ∈ xs) (h : ∀ c, c ∈ xs → m.1 < c.1 ∨ (m.1 = c.1 ∧ m.2 ≤ c.2)) : oMinX o = .ok (.val (pq m)) :=
  minX_of pq pLt dataLt_pq (fun a b z => by unfold pLt at *; omega) (fun a b c z1 z2 => by unfold pLt at *; omega) okMin_pq ho hm (fun c hc => by have := h c hc; unfold pLt; omega) (fun c hc z => by have := h c hc; unfold pLt at z; exact Prod.ext (by omega) (by omega))
theorem maxX_pq {xs : List (Int × Int)} {m : Int × Int} {o : O} (ho : o.l = some (xs.map pq)) (hm : m ∈ xs) (h : ∀ c, c ∈ xs → c.1 < m.1 ∨ (m.1 = c.1 ∧ c.2 ≤ m.2)) : oMaxX o = .ok (.val (pq m)) :=
  maxX_of pq pLt dataLt_pq (fun a b z => by unfold pLt at *; omega) (fun a b c z1 z2 => by unfold pLt at *; omega) okMin_pq ho hm (fun c hc => by have := h c hc; unfold pLt; omega) (fun c hc z => by have := h c hc; unfold pLt at z; exact Prod.ext (by omega) (by omega))
/-! ### texts put together and cut -/
@[simp] theorem sl_s {z : Str} {a b : Option Int} : oSl a b (.val (.str z)) = if z.length ≤ 16777216 then .ok (.val (.str (cutS z a b))) else .stuck := rfl
theorem okG_app {a b : Str} (ha : okG a = true) (hb : okG b = true) (h : a.length + b.length ≤ 1000) : okG (a ++ b) = true ∧ (a ++ b).length = a.length + b.length := by
  have hl : (a ++ b).length = a.length + b.length := by
    show (a.cps ++ b.cps).size = a.cps.size + b.cps.size
    simp
  refine ⟨?_, hl⟩
  unfold okG at *
  rw [Bool.and_eq_true, Nat.ble_eq] at *
  refine ⟨?_, by omega⟩
  have h1 := ha.1
  have h2 := hb.1
  unfold PyData.strOk at *
  show (a.cps ++ b.cps).all _ = true
  rw [Array.all_append, h1, h2]; rfl
theorem cutS_list (z : Str) (lo hi : Option Int) : (cutS z lo hi).cps.toList = (z.cps.toList.drop (HT.sIx z.length 0 lo)).take (HT.sIx z.length z.length hi - HT.sIx z.length 0 lo) := rfl
theorem okG_cut {z : Str} (h : okG z = true) (lo hi : Option Int) : okG (cutS z lo hi) = true ∧ (cutS z lo hi).length ≤ z.length - HT.sIx z.length 0 lo ∧ (cutS z lo hi).length ≤ HT.sIx z.length z.length hi - HT.sIx z.length 0 lo := by
  have e := cutS_list z lo hi
  have zl : z.cps.toList.length = z.length := Array.length_toList
  have hl : (cutS z lo hi).length = ((z.cps.toList.drop (HT.sIx z.length 0 lo)).take (HT.sIx z.length z.length hi - HT.sIx z.length 0 lo)).length := by
    rw [← e]; exact Array.length_toList.symm
  rw [List.length_take, List.length_drop, zl] at hl
  refine ⟨?_, by omega, by omega⟩
  unfold okG at *
  rw [Bool.and_eq_true, Nat.ble_eq] at *
  refine ⟨?_, by omega⟩
  have h1 := h.1
  unfold PyData.strOk at *
  rw [← Array.all_toList] at *
  rw [e, List.all_eq_true]
  intro c hc
  rw [List.all_eq_true] at h1
  exact h1 c (List.mem_of_mem_drop (List.mem_of_mem_take hc))
end SE

namespace SE
open PySem L2 RZ
open TL (tl mk_tl tl_mk tl_append ext_tl len_tl joinL map_tl_inj)
/-! ### texts as rows of signs -/
abbrev mkS (l : List Nat) : Str := ⟨l.toArray⟩
theorem len_mkS (l : List Nat) : (mkS l).length = l.length := by rw [len_tl, tl_mk]
theorem app_mkS (a b : List Nat) : mkS a ++ mkS b = mkS (a ++ b) := ext_tl (by rw [tl_append, tl_mk, tl_mk, tl_mk])
theorem len_appS (a b : Str) : (a ++ b).length = a.length + b.length := by rw [len_tl, tl_append, List.length_append, ← len_tl, ← len_tl]
/-- cut at each c -/
def sp (c : Nat) : List Nat → List (List Nat)
  | [] => [[]]
  | x :: r => if x = c then [] :: sp c r else match sp c r with
    | [] => [[x]]
    | h :: t => (x :: h) :: t
theorem sp_ne (c : Nat) : ∀ l, sp c l ≠ []
  | [] => by simp [sp]
  | x :: r => by
    unfold sp
    split
    · simp
    · split <;> simp
theorem spl_sp (c : Nat) : ∀ (l acc : List Nat), TL.spl [c] 0 acc l = match sp c l with
    | [] => [acc]
    | h :: t => (acc ++ h) :: t
  | [], acc => by simp [TL.spl_nil, sp]
  | x :: r, acc => by
    by_cases e : x = c
    · subst e
      rw [TL.spl_hit (by simp [TL.pre])]
      rw [show [x].length - 1 = 0 from rfl, spl_sp x r []]
      rw [show sp x (x :: r) = [] :: sp x r from if_pos rfl]
      cases q : sp x r with
      | nil => exact absurd q (sp_ne x r)
      | cons h t => simp
    · rw [TL.spl_miss (by simp [TL.pre]; exact e), spl_sp c r (acc ++ [x])]
      rw [show sp c (x :: r) = (match sp c r with | [] => [[x]] | h :: t => (x :: h) :: t) from if_neg e]
      cases q : sp c r with
      | nil => rfl
      | cons h t => simp
theorem split_sp {y : Str} {c : Nat} (ey : tl y = [c]) (hc : c < 256) (s : Str) : Txt.split s y = (sp c (tl s)).map mkS := by
  refine map_tl_inj ?_
  rw [TL.split_spl _ y (by rw [ey]; simp) (TL.kind_ok (by
    have : y.cps.toList = [c] := ey
    rw [← Array.all_toList, this]
    simpa using hc)), ey, spl_sp, List.map_map]
  rw [show (tl ∘ mkS : List Nat → List Nat) = id from funext fun l => tl_mk l, List.map_id]
  cases q : sp c (tl s) with
  | nil => exact absurd q (sp_ne c _)
  | cons h t => rfl
theorem sp_app (c : Nat) : ∀ (u v : List Nat), sp c (u ++ c :: v) = sp c u ++ sp c v
  | [], v => by rw [List.nil_append, show sp c (c :: v) = [] :: sp c v from if_pos rfl]; rfl
  | x :: u, v => by
    have ih := sp_app c u v
    rw [List.cons_append]
    by_cases e : x = c
    · rw [show sp c (x :: (u ++ c :: v)) = [] :: sp c (u ++ c :: v) from if_pos e, ih, show sp c (x :: u) = [] :: sp c u from if_pos e]
      rfl
    · rw [show sp c (x :: (u ++ c :: v)) = (match sp c (u ++ c :: v) with | [] => [[x]] | h :: t => (x :: h) :: t) from if_neg e, ih,
        show sp c (x :: u) = (match sp c u with | [] => [[x]] | h :: t => (x :: h) :: t) from if_neg e]
      cases q : sp c u with
      | nil => exact absurd q (sp_ne c u)
      | cons h t => rfl
theorem sp_free {c : Nat} : ∀ {l : List Nat}, c ∉ l → sp c l = [l]
  | [], _ => rfl
  | x :: r, h => by
    rw [List.mem_cons, not_or] at h
    rw [show sp c (x :: r) = (match sp c r with | [] => [[x]] | h :: t => (x :: h) :: t) from if_neg (fun e => h.1 e.symm), sp_free h.2]
theorem joinL_cons2 (c : Nat) (p : List Nat) {r : List (List Nat)} (h : r ≠ []) : joinL [c] (p :: r) = p ++ c :: joinL [c] r := by
  cases r with
  | nil => exact absurd rfl h
  | cons q r => rfl
theorem join_sp (c : Nat) : ∀ l, joinL [c] (sp c l) = l
  | [] => rfl
  | x :: r => by
    have ih := join_sp c r
    by_cases e : x = c
    · rw [show sp c (x :: r) = [] :: sp c r from if_pos e, joinL_cons2 c [] (sp_ne c r), ih, e]; rfl
    · rw [show sp c (x :: r) = (match sp c r with | [] => [[x]] | h :: t => (x :: h) :: t) from if_neg e]
      cases q : sp c r with
      | nil => exact absurd q (sp_ne c r)
      | cons h t =>
        rw [q] at ih
        cases t with
        | nil => rw [show joinL [c] [h] = h from rfl] at ih; rw [ih]; rfl
        | cons w t => rw [joinL_cons2 c h (by simp)] at ih; rw [joinL_cons2 c _ (by simp), List.cons_append, ih]
theorem sp_inj {c : Nat} {a b : List Nat} (h : sp c a = sp c b) : a = b := by rw [← join_sp c a, h, join_sp]
theorem sp_no {c : Nat} : ∀ {l w : List Nat}, w ∈ sp c l → c ∉ w
  | [], w, h => by rw [show sp c [] = [[]] from rfl, List.mem_singleton] at h; subst h; simp
  | x :: r, w, h => by
    by_cases e : x = c
    · rw [show sp c (x :: r) = [] :: sp c r from if_pos e] at h
      rcases List.mem_cons.mp h with rfl | h
      · simp
      · exact sp_no h
    · rw [show sp c (x :: r) = (match sp c r with | [] => [[x]] | h :: t => (x :: h) :: t) from if_neg e] at h
      cases q : sp c r with
      | nil => exact absurd q (sp_ne c r)
      | cons g t =>
        rw [q] at h
        rcases List.mem_cons.mp h with rfl | h
        · have := sp_no (c := c) (l := r) (w := g) (by rw [q]; exact List.mem_cons_self)
          rw [List.mem_cons, not_or]
          exact ⟨fun z => e z.symm, this⟩
        · exact sp_no (c := c) (l := r) (by rw [q]; exact List.mem_cons_of_mem _ h)
theorem sp_join {c : Nat} : ∀ {ws : List (List Nat)}, ws ≠ [] → (∀ w, w ∈ ws → c ∉ w) → sp c (joinL [c] ws) = ws
  | [], h, _ => absurd rfl h
  | [w], _, h => sp_free (h w List.mem_cons_self)
  | w :: v :: r, _, h => by
    rw [joinL_cons2 c w (by simp), sp_app, sp_free (h w List.mem_cons_self), sp_join (by simp) (fun z hz => h z (List.mem_cons_of_mem _ hz))]
    rfl
theorem sp_tot (c : Nat) : ∀ l, ((sp c l).map List.length).sum ≤ l.length
  | [] => by simp [sp]
  | x :: r => by
    have ih := sp_tot c r
    by_cases e : x = c
    · rw [show sp c (x :: r) = [] :: sp c r from if_pos e]
      simp; omega
    · rw [show sp c (x :: r) = (match sp c r with | [] => [[x]] | h :: t => (x :: h) :: t) from if_neg e]
      cases q : sp c r with
      | nil => simp
      | cons h t => rw [q] at ih; simp at ih ⊢; omega
theorem sp_len (c : Nat) : ∀ l, (sp c l).length ≤ l.length + 1
  | [] => by simp [sp]
  | x :: r => by
    have ih := sp_len c r
    by_cases e : x = c
    · rw [show sp c (x :: r) = [] :: sp c r from if_pos e]
      simp; omega
    · rw [show sp c (x :: r) = (match sp c r with | [] => [[x]] | h :: t => (x :: h) :: t) from if_neg e]
      cases q : sp c r with
      | nil => simp
      | cons h t => rw [q] at ih; simp at ih ⊢; omega
theorem sp_mem {c : Nat} : ∀ {l w : List Nat} {x : Nat}, w ∈ sp c l → x ∈ w → x ∈ l
  | [], w, x, h, hx => by rw [show sp c [] = [[]] from rfl, List.mem_singleton] at h; subst h; cases hx
  | y :: r, w, x, h, hx => by
    by_cases e : y = c
    · rw [show sp c (y :: r) = [] :: sp c r from if_pos e] at h
      rcases List.mem_cons.mp h with rfl | h
      · cases hx
      · exact List.mem_cons_of_mem _ (sp_mem h hx)
    · rw [show sp c (y :: r) = (match sp c r with | [] => [[y]] | h :: t => (y :: h) :: t) from if_neg e] at h
      cases q : sp c r with
      | nil => exact absurd q (sp_ne c r)
      | cons g t =>
        rw [q] at h
        rcases List.mem_cons.mp h with rfl | h
        · rcases List.mem_cons.mp hx with rfl | hx
          · exact List.mem_cons_self
          · exact List.mem_cons_of_mem _ (sp_mem (c := c) (l := r) (by rw [q]; exact List.mem_cons_self) hx)
        · exact List.mem_cons_of_mem _ (sp_mem (c := c) (l := r) (by rw [q]; exact List.mem_cons_of_mem _ h) hx)
/-! ### beginnings and ends -/
theorem starts_iff (x y : Str) : Txt.startswith x y = true ↔ ∃ v, tl x = tl y ++ v := by
  unfold Txt.startswith
  rw [StrLaws.subAt_eq, Bool.and_eq_true, decide_eq_true_eq, beq_iff_eq, List.drop_zero]
  have hx := len_tl x
  have hy := len_tl y
  constructor
  · rintro ⟨h1, h2⟩
    refine ⟨(tl x).drop y.length, ?_⟩
    rw [show tl y = (tl x).take y.length from h2.symm, List.take_append_drop]
  · rintro ⟨v, h⟩
    refine ⟨?_, ?_⟩
    · rw [hx, hy, h, List.length_append]; omega
    · show (tl x).take y.length = tl y
      rw [h, hy, List.take_left]
theorem ends_iff (x y : Str) : Txt.endswith x y = true ↔ ∃ u, tl x = u ++ tl y := by
  unfold Txt.endswith
  rw [StrLaws.subAt_eq, Bool.and_eq_true, decide_eq_true_eq, beq_iff_eq]
  have hx := len_tl x
  have hy := len_tl y
  constructor
  · rintro ⟨h1, h2⟩
    refine ⟨(tl x).take (x.length - y.length), ?_⟩
    have h3 : ((tl x).drop (x.length - y.length)).take y.length = tl y := h2
    rw [List.take_of_length_le (by rw [List.length_drop]; omega)] at h3
    rw [← h3, List.take_append_drop]
  · rintro ⟨u, h⟩
    have hlen : x.length = u.length + y.length := by rw [hx, h, List.length_append, ← hy]
    refine ⟨by omega, ?_⟩
    show ((tl x).drop (x.length - y.length)).take y.length = tl y
    rw [show x.length - y.length = u.length by omega, h, List.drop_left, hy, List.take_length]
/-! ### texts that may be compared -/
theorem strOk_tl (s : Str) : PyData.strOk s = true ↔ ∀ c, c ∈ tl s → c < 0x110000 := by
  unfold PyData.strOk
  rw [← Array.all_toList, List.all_eq_true]
  simp
theorem eqv_strs : ∀ (xs ys : List Str), PyData.eqvAll (xs.map .str) (ys.map .str) = decide (xs = ys)
  | [], [] => rfl
  | [], y :: ys => rfl
  | x :: xs, [] => rfl
  | x :: xs, y :: ys => by
    rw [List.map_cons, List.map_cons, PyData.eqvAll, eqv_strs xs ys]
    have : PyData.eqv (.str x) (.str y) = decide (x = y) := by
      rw [Bool.eq_iff_iff]
      simp [PyData.eqv]
    rw [this]
    by_cases h : x = y <;> by_cases h2 : xs = ys <;> simp [h, h2]
theorem eq_strs {xs ys : List Str} (h1 : ∀ x, x ∈ xs → PyData.strOk x = true) (h2 : ∀ y, y ∈ ys → PyData.strOk y = true) : eqD (.list (xs.map .str)) (.list (ys.map .str)) = some (decide (xs = ys)) := by
  have k : ∀ zs : List Str, (∀ x, x ∈ zs → PyData.strOk x = true) → shp 2 (.list (zs.map .str)) = true := fun zs h => by
    show (zs.map PyData.str).all (shp 1) = true
    rw [List.all_map, List.all_eq_true]
    exact fun x hx => h x hx
  rw [eqD_shp 2 (by decide) (k xs h1) (k ys h2), PyData.eqv, eqv_strs]
end SE

namespace K
open PySem L2 RZ SE
def top (i : Nat) : Stmt := PySem.Challenge.pw_storedfresh_k66_notes_that_are_sent.main.body.getD i (.Pass ⟨0, 0, 0, 0⟩)
abbrev k_MOST_NAMES : D := (.int 4)
/-- what the head tells of the names of the text -/
structure Txt (K : PySem.W.Frag) (mg : Str → Option Value) (c_StoreError : Addr) (c_BadRing : Addr) (c_BadNote : Addr) (c_BadSeen : Addr) : Prop where
  g_StoreError : mg "StoreError" = some (.ref c_StoreError)
  g_BadRing : mg "BadRing" = some (.ref c_BadRing)
  g_BadNote : mg "BadNote" = some (.ref c_BadNote)
  g_BadSeen : mg "BadSeen" = some (.ref c_BadSeen)
  ef_BadNote : ExcF K c_BadNote
  xf_BadNote : XfC K c_BadNote
  no_BadNote_at : PySem.W.findIn K (.ref c_BadNote) "at" = some none
  kt_BadNote_StoreError : PySem.W.kitOne K (.ref c_BadNote) (.ref c_StoreError) = some true
  xm_BadNote_StoreError : PySem.W.exmOne K (.ref c_BadNote) (.ref c_StoreError) = some true
  kt_BadNote_BadRing : PySem.W.kitOne K (.ref c_BadNote) (.ref c_BadRing) = some false
  xm_BadNote_BadRing : PySem.W.exmOne K (.ref c_BadNote) (.ref c_BadRing) = some false
  kt_BadNote_BadNote : PySem.W.kitOne K (.ref c_BadNote) (.ref c_BadNote) = some true
  xm_BadNote_BadNote : PySem.W.exmOne K (.ref c_BadNote) (.ref c_BadNote) = some true
  kt_BadNote_BadSeen : PySem.W.kitOne K (.ref c_BadNote) (.ref c_BadSeen) = some false
  xm_BadNote_BadSeen : PySem.W.exmOne K (.ref c_BadNote) (.ref c_BadSeen) = some false
  kt_BadNote_ValueError : PySem.W.kitOne K (.ref c_BadNote) (.type "ValueError") = some true
  b_isinstance : mg "isinstance" = none
  b_str : mg "str" = none
  b_len : mg "len" = none
  b_all : mg "all" = none
  b_enumerate : mg "enumerate" = none
  b_sorted : mg "sorted" = none
  b_list : mg "list" = none
  b_int : mg "int" = none
  b_abs : mg "abs" = none
  b_bool : mg "bool" = none
  b_range : mg "range" = none
  k_MOST_NAMES : Kon mg "MOST_NAMES" k_MOST_NAMES
section
variable {P : Program} {w : World} {K : PySem.W.Frag} {mg : Str → Option Value} {base : Heap} {c_StoreError : Addr} {c_BadRing : Addr} {c_BadNote : Addr} {c_BadSeen : Addr}
abbrev sis_name : Stmt := top 6
abbrev N_is_name : List Str := ["value", "letter"]
def s_is_name : S := sSeq (sIf (tOrS (tNotS (t1 (.m (m1 (oIsi "str") (.pk 0))))) (tNotS (tb (mChain oLe oLe (mC (.int 1)) (m1 oLen (.pk 0)) (mC (.int 8)))))) (sRet (mC (.bool false))) (sNop))
  (sRet (m1 oAll (.m (mComp (srcM (mV 0)) (bName 1) (tTrue) (m2 oInS (.pk 1) (.m (mC (.str "abcdefghijklmnopqrstuvwxyz")))) [1]))))
def f_is_name : Fn := fBody 2 [] s_is_name
theorem sc_is_name : FnScope N_is_name ["value"] (defScope sis_name) := ⟨rfl, rfl, rfl, by decide +kernel, rfl, by decide +kernel, by decide +kernel⟩
theorem cal_is_name (T : Txt K mg c_StoreError c_BadRing c_BadNote c_BadSeen) (F : FunAt K mg "is_name" sis_name) : Cal P w K mg base "is_name" 1 1 [] f_is_name := by
  refine cal_mk (N := N_is_name) (ps := ["value"]) (k := 0) F sc_is_name rfl (fun _ _ _ _ _ _ us hl => match us, hl with | [_], _ => rfl) (fun f cdv A outer s0 H E hr => ?_)
  have nd := sc_is_name.nd
  exact rs_cons (rs_if (PW.pt (rt_or (rt_not (rt_val (r_isi (T := "str") (by decide) T.b_isinstance rfl T.b_str (by decide +kernel) (pv 0)) (fun _ => rfl))) (rt_or1 (rt_not (rt_chain op_le sem_le op_le sem_le (r_int) (r_c1 call_len sem_len rfl T.b_len (by decide +kernel) (pv 0)) (r_int) (by with_unfolding_all rfl)))))) (rs_one (rs_ret (r_bl))) (rs_nil))
    (rs_one (rs_ret (r_c1 (cr_all rfl) sem_all rfl T.b_all (by decide +kernel) (r_comp (own := [("letter", 1)]) (sl := [1]) rfl nd (ri_m (r_v (pv 0))) (blkOk_by (own := [("letter", 1)]) (N := N_is_name) (sc := defScope sis_name) (by decide +kernel)) (by decide) (fun _ _ _ _ _ => rg_name (i := 1) (sl := [1]) (by decide) nd rfl (Or.inl rfl)) (fun _ _ _ _ _ => pts0) (fun _ _ _ _ _ => r_cmp op_in_str sem_inS (pv 1) (r_str) (by rfl))))))
abbrev sis_sent : Stmt := top 12
abbrev N_is_sent : List Str := ["note", "host", "path", "note_host", "note_path", "whole"]
def s_is_sent : S := sSeq (sUnp (bTup [bName 3, bName 4, bName 5]) (frz (mV 0)))
  (sSeq (sIf (tAndS (tb (m2 oNe (.pk 1) (.pk 3))) (tNotS (tAndS (t1 (.pk 5)) (t1 (.m (mSM (mV 1) [(.m (m2 oAdd (.m (mC (.str "."))) (.pk 3)))] oEnds)))))) (sRet (mC (.bool false))) (sNop))
  (sRet (mOr (m2 oEq (.pk 2) (.pk 4)) (mOr (m2 oEq (.pk 4) (.m (mC (.str "/")))) (mSM (mV 2) [(.m (m2 oAdd (.pk 4) (.m (mC (.str "/")))))] oStarts)))))
def f_is_sent : Fn := fBody 6 [] s_is_sent
theorem sc_is_sent : FnScope N_is_sent ["note", "host", "path"] (defScope sis_sent) := ⟨rfl, rfl, rfl, by decide +kernel, rfl, by decide +kernel, by decide +kernel⟩
theorem cal_is_sent (T : Txt K mg c_StoreError c_BadRing c_BadNote c_BadSeen) (F : FunAt K mg "is_sent" sis_sent) : Cal P w K mg base "is_sent" 1 3 [] f_is_sent := by
  refine cal_mk (N := N_is_sent) (ps := ["note", "host", "path"]) (k := 0) F sc_is_sent rfl (fun _ _ _ _ _ _ us hl => match us, hl with | [_, _, _], _ => rfl) (fun f cdv A outer s0 H E hr => ?_)
  have nd := sc_is_sent.nd
  exact rs_cons (rs_unp (r_v (pv 0)) (rg_tup rfl (rgs_cons (rg_name (i := 3) (sl := [3, 4, 5]) (by decide) nd rfl (Or.inl rfl)) (rgs_cons (rg_name (i := 4) (sl := [3, 4, 5]) (by decide) nd rfl (Or.inl rfl)) (rgs_cons (rg_name (i := 5) (sl := [3, 4, 5]) (by decide) nd rfl (Or.inl rfl)) (rgs_nil))))))
    (rs_cons (rs_if (PW.pt (rt_and (rt_cmp (op_neA hr.units) sem_ne (pv 1) (pv 3) (nomark _)) (rt_and1 (rt_not (PW.pt (rt_and (rt_val (pv 5) (fun _ => rfl)) (rt_and1 (rt_val (r_sm (obs := [(.m (m2 oAdd (.m (mC (.str "."))) (.pk 3)))]) PySem.F.slot_str_endswith PySem.F.type_str_endswith mt_endswith sem_ends (r_v (pv 1)) (pa_cons ((r_bin op_addA sem_add (r_str) (pv 3))) (pa_nil))) (fun _ => rfl))))))))) (rs_one (rs_ret (r_bl))) (rs_nil))
    (rs_one (rs_ret (r_or (r_cmp (op_eqA hr.units) sem_eq (pv 2) (pv 4) (nomark _)) (r_or (r_cmp (op_eqA hr.units) sem_eq (pv 4) (r_str) (nomark _)) (r_one (r_sm (obs := [(.m (m2 oAdd (.pk 4) (.m (mC (.str "/")))))]) PySem.F.slot_str_startswith PySem.F.type_str_startswith mt_startswith sem_starts (r_v (pv 2)) (pa_cons ((r_bin op_addA sem_add (pv 4) (r_str))) (pa_nil)))))))))
abbrev s_law_feed : Stmt := top 15
abbrev N__law_feed : List Str := ["script"]
def s__law_feed : S := sRet (mLst [.m (frz (m1 oList (.pk 0))), .m (mC (.int 0)), .m (mC (.int 0)), .m (mC (.int 1))])
def f__law_feed : Fn := fBody 1 [] s__law_feed
theorem sc__law_feed : FnScope N__law_feed ["script"] (defScope s_law_feed) := ⟨rfl, rfl, rfl, by decide +kernel, rfl, by decide +kernel, by decide +kernel⟩
theorem cal__law_feed (T : Txt K mg c_StoreError c_BadRing c_BadNote c_BadSeen) (F : FunAt K mg "_law_feed" s_law_feed) : Cal P w K mg base "_law_feed" 1 1 [] f__law_feed := by
  refine cal_mk (N := N__law_feed) (ps := ["script"]) (k := 0) F sc__law_feed rfl (fun _ _ _ _ _ _ us hl => match us, hl with | [_], _ => rfl) (fun f cdv A outer s0 H E hr => ?_)
  have nd := sc__law_feed.nd
  exact rs_one (rs_ret (r_lst (os := [.m (frz (m1 oList (.pk 0))), .m (mC (.int 0)), .m (mC (.int 0)), .m (mC (.int 1))]) (pa_cons (r_frz (r_t1 call_list_of sem_list rfl T.b_list (by decide +kernel) (pv 0))) (pa_cons (r_int) (pa_cons (r_int) (pa_cons (r_int) (pa_nil))))) (by decide)))
abbrev s_law_draw : Stmt := top 16
abbrev N__law_draw : List Str := ["feed", "many", "cell", "told", "mixed"]
def s__law_draw : S := sSeq (sIf (tAndS (tb (m2 oEq (.m (m2 oIx (.pk 0) (.m (mC (.int 2))))) (.m (mC (.int 0))))) (tb (m2 oLt (.m (m2 oIx (.pk 0) (.m (mC (.int 1))))) (.m (m1 oLen (.m (m2 oIx (.pk 0) (.m (mC (.int 0)))))))))) (sSeq (sSet 2 (m1 oAbs (.m (m1 oInt (.m (m2 oIx (.m (m2 oIx (.pk 0) (.m (mC (.int 0))))) (.m (m2 oIx (.pk 0) (.m (mC (.int 1)))))))))))
  (sSeq (sAugIx 0 (mC (.int 1)) oAddS (mC (.int 1)))
  (sIf (tb (m2 oGe (.pk 2) (.m (m2 oPow (.m (mC (.int 10))) (.m (mC (.int 18))))))) (sSetIx 0 (mC (.int 2)) (mV 2)) (sSetIx 0 (mC (.int 3)) (m2 oMod (.m (m1 oInt (.m (m2 oAdd (.m (m2 oAdd (.m (m2 oMul (.m (m2 oIx (.pk 0) (.m (mC (.int 3))))) (.m (mC (.int 48271))))) (.m (m2 oMul (.pk 2) (.m (mC (.int 69621))))))) (.m (m2 oIx (.pk 0) (.m (mC (.int 1))))))))) (.m (mC (.int 2147483647)))))))) (sNop))
  (sSeq (sIf (tb (m2 oGt (.m (m2 oIx (.pk 0) (.m (mC (.int 2))))) (.m (mC (.int 0))))) (sSeq (sSet 3 (m2 oMod (.m (m1 oInt (.m (m2 oIx (.pk 0) (.m (mC (.int 2))))))) (.pk 1)))
  (sSeq (sSetIx 0 (mC (.int 2)) (m2 oDiv (.m (m2 oIx (.pk 0) (.m (mC (.int 2))))) (.pk 1)))
  (sRet (mMv 3)))) (sNop))
  (sSeq (sSetIx 0 (mC (.int 3)) (m2 oMod (.m (m1 oInt (.m (m2 oAdd (.m (m2 oMul (.m (m2 oIx (.pk 0) (.m (mC (.int 3))))) (.m (mC (.int 16807))))) (.m (mC (.int 12345))))))) (.m (mC (.int 2147483647)))))
  (sSeq (sSet 4 (m2 oMod (.m (m1 oInt (.m (m2 oAdd (.m (m2 oMul (.m (m2 oIx (.pk 0) (.m (mC (.int 3))))) (.m (m2 oIx (.pk 0) (.m (mC (.int 3))))))) (.m (m2 oIx (.pk 0) (.m (mC (.int 3))))))))) (.m (mC (.int 2147483629)))))
  (sRet (m2 oMod (.m (m2 oDiv (.pk 4) (.m (mC (.int 11))))) (.pk 1))))))
def f__law_draw : Fn := fBody 5 [0] s__law_draw
theorem sc__law_draw : FnScope N__law_draw ["feed", "many"] (defScope s_law_draw) := ⟨rfl, rfl, rfl, by decide +kernel, rfl, by decide +kernel, by decide +kernel⟩
theorem cal__law_draw (T : Txt K mg c_StoreError c_BadRing c_BadNote c_BadSeen) (F : FunAt K mg "_law_draw" s_law_draw) : Cal P w K mg base "_law_draw" 1 2 [0] f__law_draw := by
  refine cal_mk (N := N__law_draw) (ps := ["feed", "many"]) (k := 0) F sc__law_draw rfl (fun _ _ _ _ _ _ us hl => match us, hl with | [_, _], _ => rfl) (fun f cdv A outer s0 H E hr => ?_)
  have nd := sc__law_draw.nd
  exact rs_cons (rs_if (PW.pt (rt_and (rt_cmp (op_eqA hr.units) sem_eq (r_ix ix_seq sem_ix (pv 0) (r_int) (fun _ _ => rfl)) (r_int) (nomark _)) (rt_and1 (rt_cmp op_lt sem_lt (r_ix ix_seq sem_ix (pv 0) (r_int) (fun _ _ => rfl)) (r_c1 call_len sem_len rfl T.b_len (by decide +kernel) (r_ix ix_seq sem_ix (pv 0) (r_int) (fun _ _ => rfl))) (nomark _))))) (rs_cons (rs_set (i := 2) nd rfl (Or.inl rfl) (r_c1 call_abs sem_abs rfl T.b_abs (by decide +kernel) (r_t1 call_int1 sem_int rfl T.b_int (by decide +kernel) (r_ix ix_seq sem_ix (r_ix ix_seq sem_ix (pv 0) (r_int) (fun _ _ => rfl)) (r_ix ix_seq sem_ix (pv 0) (r_int) (fun _ _ => rfl)) (fun _ _ => rfl)))))
    (rs_cons (rs_augIx (i := 0) (pv 0) (r_int) iop_addS sem_addS (r_int))
    (rs_one (rs_if (rt_cmp op_ge sem_ge (pv 2) (r_bin op_pow sem_pow (r_int) (r_int)) (nomark _)) (rs_one (rs_setIx (i := 0) (pv 0) (r_int) (r_v (pv 2)))) (rs_one (rs_setIx (i := 0) (pv 0) (r_int) (r_bin op_mod sem_mod (r_t1 call_int1 sem_int rfl T.b_int (by decide +kernel) (r_bin op_addA sem_add (r_bin op_addA sem_add (r_bin op_mulA sem_mul (r_ix ix_seq sem_ix (pv 0) (r_int) (fun _ _ => rfl)) (r_int)) (r_bin op_mulA sem_mul (pv 2) (r_int))) (r_ix ix_seq sem_ix (pv 0) (r_int) (fun _ _ => rfl)))) (r_int)))))))) (rs_nil))
    (rs_cons (rs_if (rt_cmp op_gt sem_gt (r_ix ix_seq sem_ix (pv 0) (r_int) (fun _ _ => rfl)) (r_int) (nomark _)) (rs_cons (rs_set (i := 3) nd rfl (Or.inl rfl) (r_bin op_mod sem_mod (r_t1 call_int1 sem_int rfl T.b_int (by decide +kernel) (r_ix ix_seq sem_ix (pv 0) (r_int) (fun _ _ => rfl))) (pv 1)))
    (rs_cons (rs_setIx (i := 0) (pv 0) (r_int) (r_bin op_fdivW sem_div (r_ix ix_seq sem_ix (pv 0) (r_int) (fun _ _ => rfl)) (pv 1)))
    (rs_one (rs_ret (r_mv (pv 3)))))) (rs_nil))
    (rs_cons (rs_setIx (i := 0) (pv 0) (r_int) (r_bin op_mod sem_mod (r_t1 call_int1 sem_int rfl T.b_int (by decide +kernel) (r_bin op_addA sem_add (r_bin op_mulA sem_mul (r_ix ix_seq sem_ix (pv 0) (r_int) (fun _ _ => rfl)) (r_int)) (r_int))) (r_int)))
    (rs_cons (rs_set (i := 4) nd rfl (Or.inl rfl) (r_bin op_mod sem_mod (r_t1 call_int1 sem_int rfl T.b_int (by decide +kernel) (r_bin op_addA sem_add (r_bin op_mulA sem_mul (r_ix ix_seq sem_ix (pv 0) (r_int) (fun _ _ => rfl)) (r_ix ix_seq sem_ix (pv 0) (r_int) (fun _ _ => rfl))) (r_ix ix_seq sem_ix (pv 0) (r_int) (fun _ _ => rfl)))) (r_int)))
    (rs_one (rs_ret (r_bin op_mod sem_mod (r_bin op_fdivW sem_div (pv 4) (r_int)) (pv 1)))))))
abbrev s_law_whole : Stmt := top 17
abbrev N__law_whole : List Str := ["value"]
def s__law_whole : S := sRet (mAnd (m1 (oIsi "int") (.pk 0)) (m1 oNot (.m (m1 (oIsi "bool") (.pk 0)))))
def f__law_whole : Fn := fBody 1 [] s__law_whole
theorem sc__law_whole : FnScope N__law_whole ["value"] (defScope s_law_whole) := ⟨rfl, rfl, rfl, by decide +kernel, rfl, by decide +kernel, by decide +kernel⟩
theorem cal__law_whole (T : Txt K mg c_StoreError c_BadRing c_BadNote c_BadSeen) (F : FunAt K mg "_law_whole" s_law_whole) : Cal P w K mg base "_law_whole" 1 1 [] f__law_whole := by
  refine cal_mk (N := N__law_whole) (ps := ["value"]) (k := 0) F sc__law_whole rfl (fun _ _ _ _ _ _ us hl => match us, hl with | [_], _ => rfl) (fun f cdv A outer s0 H E hr => ?_)
  have nd := sc__law_whole.nd
  exact rs_one (rs_ret (r_and (r_isi (T := "int") (by decide) T.b_isinstance rfl T.b_int (by decide +kernel) (pv 0)) (r_one (r_not (r_isi (T := "bool") (by decide) T.b_isinstance rfl T.b_bool (by decide +kernel) (pv 0))))))
theorem calH__law_whole (T : Txt K mg c_StoreError c_BadRing c_BadNote c_BadSeen) (F : FunAt K mg "_law_whole" s_law_whole) : CalH P w K mg base "_law_whole" 1 1 [] f__law_whole := by
  refine calH_mk (N := N__law_whole) (ps := ["value"]) (k := 0) F sc__law_whole rfl (fun _ _ _ _ _ _ us hl => match us, hl with | [_], _ => rfl) (fun f cdv A outer s0 H E p => ?_)
  have nd := sc__law_whole.nd
  exact rs_one (rs_ret (r_and (r_isi (T := "int") (by decide) T.b_isinstance rfl T.b_int (by decide +kernel) (pv 0)) (r_one (r_not (r_isi (T := "bool") (by decide) T.b_isinstance rfl T.b_bool (by decide +kernel) (pv 0))))))
abbrev s_law_yes : Stmt := top 18
abbrev N__law_yes : List Str := ["told", "due"]
def s__law_yes : S := sRet (mAnd (m1 (oIsi "bool") (.pk 0)) (m2 oEq (.pk 0) (.pk 1)))
def f__law_yes : Fn := fBody 2 [] s__law_yes
theorem sc__law_yes : FnScope N__law_yes ["told", "due"] (defScope s_law_yes) := ⟨rfl, rfl, rfl, by decide +kernel, rfl, by decide +kernel, by decide +kernel⟩
theorem cal__law_yes (T : Txt K mg c_StoreError c_BadRing c_BadNote c_BadSeen) (F : FunAt K mg "_law_yes" s_law_yes) : Cal P w K mg base "_law_yes" 1 2 [] f__law_yes := by
  refine cal_mk (N := N__law_yes) (ps := ["told", "due"]) (k := 0) F sc__law_yes rfl (fun _ _ _ _ _ _ us hl => match us, hl with | [_, _], _ => rfl) (fun f cdv A outer s0 H E hr => ?_)
  have nd := sc__law_yes.nd
  exact rs_one (rs_ret (r_and (r_isi (T := "bool") (by decide) T.b_isinstance rfl T.b_bool (by decide +kernel) (pv 0)) (r_one (r_cmp (op_eqA hr.units) sem_eq (pv 0) (pv 1) (nomark _)))))
abbrev s_law_path : Stmt := top 21
abbrev N__law_path : List Str := ["words"]
def s__law_path : S := sRet (m2 oAdd (.m (mC (.str "/"))) (.m (mSM (mC (.str "/")) [(.pk 0)] oJoin)))
def f__law_path : Fn := fBody 1 [] s__law_path
theorem sc__law_path : FnScope N__law_path ["words"] (defScope s_law_path) := ⟨rfl, rfl, rfl, by decide +kernel, rfl, by decide +kernel, by decide +kernel⟩
theorem cal__law_path (T : Txt K mg c_StoreError c_BadRing c_BadNote c_BadSeen) (F : FunAt K mg "_law_path" s_law_path) : Cal P w K mg base "_law_path" 1 1 [] f__law_path := by
  refine cal_mk (N := N__law_path) (ps := ["words"]) (k := 0) F sc__law_path rfl (fun _ _ _ _ _ _ us hl => match us, hl with | [_], _ => rfl) (fun f cdv A outer s0 H E hr => ?_)
  have nd := sc__law_path.nd
  exact rs_one (rs_ret (r_bin op_addA sem_add (r_str) (r_sm (obs := [(.pk 0)]) PySem.F.slot_str_join PySem.F.type_str_join mt_join sem_join (r_str) (pa_cons ((pv 0)) (pa_nil)))))
abbrev s_law_goes : Stmt := top 22
abbrev N__law_goes : List Str := ["note", "host", "path", "names", "asked", "parts"]
def s__law_goes : S := sSeq (sSet 3 (mSM (m2 oIx (.pk 0) (.m (mC (.int 0)))) [(.m (mC (.str ".")))] oSplit))
  (sSeq (sSet 4 (mSM (mV 1) [(.m (mC (.str ".")))] oSplit))
  (sSeq (sIf (tOrS (tb (m2 oLt (.m (m1 oLen (.pk 4))) (.m (m1 oLen (.pk 3))))) (tb (m2 oNe (.m (mSlL (.pk 4) (.m (m2 oSub (.m (m1 oLen (.pk 4))) (.m (m1 oLen (.pk 3))))))) (.pk 3)))) (sRet (mC (.bool false))) (sNop))
  (sSeq (sIf (tAndS (tb (m2 oGt (.m (m1 oLen (.pk 4))) (.m (m1 oLen (.pk 3))))) (tNotS (t1 (.m (m2 oIx (.pk 0) (.m (mC (.int 2)))))))) (sRet (mC (.bool false))) (sNop))
  (sSeq (sIf (tb (m2 oEq (.m (m2 oIx (.pk 0) (.m (mC (.int 1))))) (.m (mC (.str "/"))))) (sRet (mC (.bool true))) (sNop))
  (sSeq (sSet 5 (mSM (m2 oIx (.pk 0) (.m (mC (.int 1)))) [(.m (mC (.str "/")))] oSplit))
  (sRet (m2 oEq (.m (mSlH (.m (mSM (mV 2) [(.m (mC (.str "/")))] oSplit)) (.m (m1 oLen (.pk 5))))) (.pk 5))))))))
def f__law_goes : Fn := fBody 6 [] s__law_goes
theorem sc__law_goes : FnScope N__law_goes ["note", "host", "path"] (defScope s_law_goes) := ⟨rfl, rfl, rfl, by decide +kernel, rfl, by decide +kernel, by decide +kernel⟩
theorem cal__law_goes (T : Txt K mg c_StoreError c_BadRing c_BadNote c_BadSeen) (F : FunAt K mg "_law_goes" s_law_goes) : Cal P w K mg base "_law_goes" 1 3 [] f__law_goes := by
  refine cal_mk (N := N__law_goes) (ps := ["note", "host", "path"]) (k := 0) F sc__law_goes rfl (fun _ _ _ _ _ _ us hl => match us, hl with | [_, _, _], _ => rfl) (fun f cdv A outer s0 H E hr => ?_)
  have nd := sc__law_goes.nd
  exact rs_cons (rs_set (i := 3) nd rfl (Or.inl rfl) (r_sm (obs := [(.m (mC (.str ".")))]) PySem.F.slot_str_split PySem.F.type_str_split mt_split sem_split (r_ix ix_seq sem_ix (pv 0) (r_int) (fun _ _ => rfl)) (pa_cons ((r_str)) (pa_nil))))
    (rs_cons (rs_set (i := 4) nd rfl (Or.inl rfl) (r_sm (obs := [(.m (mC (.str ".")))]) PySem.F.slot_str_split PySem.F.type_str_split mt_split sem_split (r_v (pv 1)) (pa_cons ((r_str)) (pa_nil))))
    (rs_cons (rs_if (PW.pt (rt_or (rt_cmp op_lt sem_lt (r_c1 call_len sem_len rfl T.b_len (by decide +kernel) (pv 4)) (r_c1 call_len sem_len rfl T.b_len (by decide +kernel) (pv 3)) (nomark _)) (rt_or1 (rt_cmp (op_neA hr.units) sem_ne (r_slL (pv 4) (r_bin op_sub sem_sub (r_c1 call_len sem_len rfl T.b_len (by decide +kernel) (pv 4)) (r_c1 call_len sem_len rfl T.b_len (by decide +kernel) (pv 3)))) (pv 3) (nomark _))))) (rs_one (rs_ret (r_bl))) (rs_nil))
    (rs_cons (rs_if (PW.pt (rt_and (rt_cmp op_gt sem_gt (r_c1 call_len sem_len rfl T.b_len (by decide +kernel) (pv 4)) (r_c1 call_len sem_len rfl T.b_len (by decide +kernel) (pv 3)) (nomark _)) (rt_and1 (rt_not (rt_val (r_ix ix_seq sem_ix (pv 0) (r_int) (fun _ _ => rfl)) (fun _ => rfl)))))) (rs_one (rs_ret (r_bl))) (rs_nil))
    (rs_cons (rs_if (rt_cmp (op_eqA hr.units) sem_eq (r_ix ix_seq sem_ix (pv 0) (r_int) (fun _ _ => rfl)) (r_str) (nomark _)) (rs_one (rs_ret (r_bl))) (rs_nil))
    (rs_cons (rs_set (i := 5) nd rfl (Or.inl rfl) (r_sm (obs := [(.m (mC (.str "/")))]) PySem.F.slot_str_split PySem.F.type_str_split mt_split sem_split (r_ix ix_seq sem_ix (pv 0) (r_int) (fun _ _ => rfl)) (pa_cons ((r_str)) (pa_nil))))
    (rs_one (rs_ret (r_cmp (op_eqA hr.units) sem_eq (r_slH (r_sm (obs := [(.m (mC (.str "/")))]) PySem.F.slot_str_split PySem.F.type_str_split mt_split sem_split (r_v (pv 2)) (pa_cons ((r_str)) (pa_nil))) (r_c1 call_len sem_len rfl T.b_len (by decide +kernel) (pv 5))) (pv 5) (nomark _)))))))))
abbrev s_law_is_names : Stmt := top 26
abbrev N__law_is_names : List Str := ["text", "sign", "names", "name", "letter"]
def s__law_is_names : S := sSeq (sSet 2 (mSM (mV 0) [(.pk 1)] oSplit))
  (sSeq (sIf (tb (m2 oGt (.m (m1 oLen (.pk 2))) (.m (mC (.int 4))))) (sRet (mC (.bool false))) (sNop))
  (sSeq (sFor (srcM (mV 2)) (bName 3) (sSeq (sIf (tOrS (tb (m2 oLt (.m (m1 oLen (.pk 3))) (.m (mC (.int 1))))) (tb (m2 oGt (.m (m1 oLen (.pk 3))) (.m (mC (.int 8)))))) (sRet (mC (.bool false))) (sNop))
  (sFor (srcM (mV 3)) (bName 4) (sIf (tb (m2 oNotInS (.pk 4) (.m (mC (.str "abcdefghijklmnopqrstuvwxyz"))))) (sRet (mC (.bool false))) (sNop)))))
  (sRet (mC (.bool true)))))
def f__law_is_names : Fn := fBody 5 [] s__law_is_names
theorem sc__law_is_names : FnScope N__law_is_names ["text", "sign"] (defScope s_law_is_names) := ⟨rfl, rfl, rfl, by decide +kernel, rfl, by decide +kernel, by decide +kernel⟩
theorem cal__law_is_names (T : Txt K mg c_StoreError c_BadRing c_BadNote c_BadSeen) (F : FunAt K mg "_law_is_names" s_law_is_names) : Cal P w K mg base "_law_is_names" 1 2 [] f__law_is_names := by
  refine cal_mk (N := N__law_is_names) (ps := ["text", "sign"]) (k := 0) F sc__law_is_names rfl (fun _ _ _ _ _ _ us hl => match us, hl with | [_, _], _ => rfl) (fun f cdv A outer s0 H E hr => ?_)
  have nd := sc__law_is_names.nd
  exact rs_cons (rs_set (i := 2) nd rfl (Or.inl rfl) (r_sm (obs := [(.pk 1)]) PySem.F.slot_str_split PySem.F.type_str_split mt_split sem_split (r_v (pv 0)) (pa_cons ((pv 1)) (pa_nil))))
    (rs_cons (rs_if (rt_cmp op_gt sem_gt (r_c1 call_len sem_len rfl T.b_len (by decide +kernel) (pv 2)) (r_int) (nomark _)) (rs_one (rs_ret (r_bl))) (rs_nil))
    (rs_cons (rs_for PassesOwn.never rfl (ri_m (r_v (pv 2))) (rg_name (i := 3) (sl := [3]) (by decide) nd rfl (Or.inl rfl)) (rs_cons (rs_if (PW.pt (rt_or (rt_cmp op_lt sem_lt (r_c1 call_len sem_len rfl T.b_len (by decide +kernel) (pv 3)) (r_int) (nomark _)) (rt_or1 (rt_cmp op_gt sem_gt (r_c1 call_len sem_len rfl T.b_len (by decide +kernel) (pv 3)) (r_int) (nomark _))))) (rs_one (rs_ret (r_bl))) (rs_nil))
    (rs_one (rs_for PassesOwn.never rfl (ri_m (r_v (pv 3))) (rg_name (i := 4) (sl := [4]) (by decide) nd rfl (Or.inl rfl)) (rs_one (rs_if (rt_cmp op_notin_str sem_notInS (pv 4) (r_str) (by rfl)) (rs_one (rs_ret (r_bl))) (rs_nil)))))))
    (rs_one (rs_ret (r_bl)))))
abbrev sare_names : Stmt := top 9
abbrev N_are_names : List Str := ["words", "word"]
def s_are_names : S := sRet (mAnd (mChain oLe oLe (mC (.int 1)) (m1 oLen (.pk 0)) (mC k_MOST_NAMES)) (m1 oAll (.m (mComp (srcM (mV 0)) (bName 1) (tTrue) (frz (mCall f_is_name [.v (mV 1)])) [1]))))
def f_are_names : Fn := fBody 2 [] s_are_names
theorem sc_are_names : FnScope N_are_names ["words"] (defScope sare_names) := ⟨rfl, rfl, rfl, by decide +kernel, rfl, by decide +kernel, by decide +kernel⟩
theorem cal_are_names (T : Txt K mg c_StoreError c_BadRing c_BadNote c_BadSeen) (F : FunAt K mg "are_names" sare_names) (C_is_name : Cal P w K mg base "is_name" 1 1 [] f_is_name) : Cal P w K mg base "are_names" 2 1 [] f_are_names := by
  refine cal_mk (N := N_are_names) (ps := ["words"]) (k := 1) F sc_are_names rfl (fun _ _ _ _ _ _ us hl => match us, hl with | [_], _ => rfl) (fun f cdv A outer s0 H E hr => ?_)
  have nd := sc_are_names.nd
  exact rs_one (rs_ret (r_and (r_chain op_le sem_le op_le sem_le (r_int) (r_c1 call_len sem_len rfl T.b_len (by decide +kernel) (pv 0)) (r_glob rfl T.k_MOST_NAMES) (by with_unfolding_all rfl)) (r_one (r_c1 (cr_all rfl) sem_all rfl T.b_all (by decide +kernel) (r_comp (own := [("word", 1)]) (sl := [1]) rfl nd (ri_m (r_v (pv 0))) (blkOk_by (own := [("word", 1)]) (N := N_are_names) (sc := defScope sare_names) (by decide +kernel)) (by decide) (fun _ _ _ _ _ => rg_name (i := 1) (sl := [1]) (by decide) nd rfl (Or.inl rfl)) (fun _ _ _ _ _ => pts0) (fun _ _ _ _ _ => r_frz (r_callC (args := [.v (mV 1)]) C_is_name hr (by omega) (pa_cons (r_frz (r_v (pv 1))) (pa_nil)) rfl rfl (by decide))))))))
abbrev ssent_along : Stmt := top 13
abbrev N_sent_along : List Str := ["notes", "host", "path", "sent", "at", "note", "_"]
def s_sent_along : S := sSeq (sSet 3 (mComp (srcEn (mV 0)) (bTup [bName 4, bName 5]) (t1 (.m (mCall f_is_sent [.v (mV 5), .v (mV 1), .v (mV 2)]))) (mTup [.m (m1 oNeg (.m (m1 oLen (.m (m2 oIx (.pk 5) (.m (mC (.int 1)))))))), .m (mV 4)]) [4, 5]))
  (sRet (mComp (srcM (m1 oSortX (.pk 3))) (bTup [bName 6, bName 4]) (tTrue) (mV 4) [6, 4]))
def f_sent_along : Fn := fBody 7 [] s_sent_along
theorem sc_sent_along : FnScope N_sent_along ["notes", "host", "path"] (defScope ssent_along) := ⟨rfl, rfl, rfl, by decide +kernel, rfl, by decide +kernel, by decide +kernel⟩
theorem cal_sent_along (T : Txt K mg c_StoreError c_BadRing c_BadNote c_BadSeen) (F : FunAt K mg "sent_along" ssent_along) (C_is_sent : Cal P w K mg base "is_sent" 1 3 [] f_is_sent) : Cal P w K mg base "sent_along" 2 3 [] f_sent_along := by
  refine cal_mk (N := N_sent_along) (ps := ["notes", "host", "path"]) (k := 1) F sc_sent_along rfl (fun _ _ _ _ _ _ us hl => match us, hl with | [_, _, _], _ => rfl) (fun f cdv A outer s0 H E hr => ?_)
  have nd := sc_sent_along.nd
  exact rs_cons (rs_setLc (own := [("at", 4), ("note", 5)]) (sl := [4, 5]) (i := 3) rfl nd rfl rfl (sw_true rfl rfl rfl (by decide +kernel)) (ri_en T.b_enumerate (r_v (pv 0))) (blkOk_by (own := [("at", 4), ("note", 5)]) (N := N_sent_along) (sc := defScope ssent_along) (by decide +kernel)) (by decide) (fun _ _ _ _ _ => rg_tup rfl (rgs_cons (rg_name (i := 4) (sl := [4, 5]) (by decide) nd rfl (Or.inl rfl)) (rgs_cons (rg_name (i := 5) (sl := [4, 5]) (by decide) nd rfl (Or.inl rfl)) (rgs_nil)))) (fun _ _ _ _ _ => pts1 (rt_val (r_callC (args := [.v (mV 5), .v (mV 1), .v (mV 2)]) C_is_sent hr (by omega) (pa_cons (r_frz (r_v (pv 5))) (pa_cons (r_frz (r_v (pv 1))) (pa_cons (r_frz (r_v (pv 2))) (pa_nil)))) rfl rfl (by decide)) (fun _ => rfl))) (fun _ _ _ _ _ => r_tup (os := [.m (m1 oNeg (.m (m1 oLen (.m (m2 oIx (.pk 5) (.m (mC (.int 1)))))))), .m (mV 4)]) (pa_cons (r_un un_neg sem_neg (r_c1 call_len sem_len rfl T.b_len (by decide +kernel) (r_ix ix_seq sem_ix (pv 5) (r_int) (fun _ _ => rfl)))) (pa_cons (r_v (pv 4)) (pa_nil))) (by decide)))
    (rs_one (rs_ret (r_comp (own := [("_", 6), ("at", 4)]) (sl := [6, 4]) rfl nd (ri_m (r_c1 (cr_sortX (hu65 hr)) sem_sortX rfl T.b_sorted (by decide +kernel) (pv 3))) (blkOk_by (own := [("_", 6), ("at", 4)]) (N := N_sent_along) (sc := defScope ssent_along) (by decide +kernel)) (by decide) (fun _ _ _ _ _ => rg_tup rfl (rgs_cons (rg_name (i := 6) (sl := [6, 4]) (by decide) nd rfl (Or.inl rfl)) (rgs_cons (rg_name (i := 4) (sl := [6, 4]) (by decide) nd rfl (Or.inl rfl)) (rgs_nil)))) (fun _ _ _ _ _ => pts0) (fun _ _ _ _ _ => r_v (pv 4)))))
abbrev s_law_word : Stmt := top 19
abbrev N__law_word : List Str := ["feed", "letters", "k"]
def s__law_word : S := sSeq (sIf (tb (m2 oEq (.m (mCall f__law_draw [.io 0, .v (mC (.int 6))])) (.m (mC (.int 0))))) (sSeq (sSet 1 (mC (.str "abcdefghijklmnopqrstuvwxyz")))
  (sRet (mSM (mC (.str "")) [(.m (mComp (srcR1 (m2 oAdd (.m (mC (.int 1))) (.m (mCall f__law_draw [.io 0, .v (mC (.int 8))])))) (bName 2) (tTrue) (m2 oIx (.pk 1) (.m (mCall f__law_draw [.io 0, .v (mC (.int 26))]))) [2]))] oJoin))) (sNop))
  (sRet (m2 oIx (.m (mLst [.m (mC (.str "a")), .m (mC (.str "b")), .m (mC (.str "ab")), .m (mC (.str "aa")), .m (mC (.str "b"))])) (.m (mCall f__law_draw [.io 0, .v (mC (.int 5))]))))
def f__law_word : Fn := fBody 3 [0] s__law_word
theorem sc__law_word : FnScope N__law_word ["feed"] (defScope s_law_word) := ⟨rfl, rfl, rfl, by decide +kernel, rfl, by decide +kernel, by decide +kernel⟩
theorem cal__law_word (T : Txt K mg c_StoreError c_BadRing c_BadNote c_BadSeen) (F : FunAt K mg "_law_word" s_law_word) (C__law_draw : Cal P w K mg base "_law_draw" 1 2 [0] f__law_draw) : Cal P w K mg base "_law_word" 2 1 [0] f__law_word := by
  refine cal_mk (N := N__law_word) (ps := ["feed"]) (k := 1) F sc__law_word rfl (fun _ _ _ _ _ _ us hl => match us, hl with | [_], _ => rfl) (fun f cdv A outer s0 H E hr => ?_)
  have nd := sc__law_word.nd
  exact rs_cons (rs_if (rt_cmp (op_eqA hr.units) sem_eq (r_callC (args := [.io 0, .v (mC (.int 6))]) C__law_draw hr (by omega) (pa_cons (pv 0) (pa_cons (r_frz (r_int)) (pa_nil))) rfl rfl (by decide)) (r_int) (nomark _)) (rs_cons (rs_set (i := 1) nd rfl (Or.inr rfl) (r_str))
    (rs_one (rs_ret (r_sm (obs := [(.m (mComp (srcR1 (m2 oAdd (.m (mC (.int 1))) (.m (mCall f__law_draw [.io 0, .v (mC (.int 8))])))) (bName 2) (tTrue) (m2 oIx (.pk 1) (.m (mCall f__law_draw [.io 0, .v (mC (.int 26))]))) [2]))]) PySem.F.slot_str_join PySem.F.type_str_join mt_join sem_join (r_str) (pa_cons ((r_comp (own := [("k", 2)]) (sl := [2]) rfl nd (ri_r1 T.b_range (r_bin op_addA sem_add (r_int) (r_callC (args := [.io 0, .v (mC (.int 8))]) C__law_draw hr (by omega) (pa_cons (pv 0) (pa_cons (r_frz (r_int)) (pa_nil))) rfl rfl (by decide)))) (blkOk_by (own := [("k", 2)]) (N := N__law_word) (sc := defScope s_law_word) (by decide +kernel)) (by decide) (fun _ _ _ _ _ => rg_name (i := 2) (sl := [2]) (by decide) nd rfl (Or.inl rfl)) (fun _ _ _ _ _ => pts0) (fun _ _ _ _ _ => r_ix ix_seq sem_ix (pv 1) (r_callC (args := [.io 0, .v (mC (.int 26))]) C__law_draw hr (by omega) (pa_cons (pv 0) (pa_cons (r_frz (r_int)) (pa_nil))) rfl rfl (by decide)) (fun _ _ => rfl)))) (pa_nil)))))) (rs_nil))
    (rs_one (rs_ret (r_ix ix_seq sem_ix (r_lst (os := [.m (mC (.str "a")), .m (mC (.str "b")), .m (mC (.str "ab")), .m (mC (.str "aa")), .m (mC (.str "b"))]) (pa_cons (r_str) (pa_cons (r_str) (pa_cons (r_str) (pa_cons (r_str) (pa_cons (r_str) (pa_nil)))))) (by decide)) (r_callC (args := [.io 0, .v (mC (.int 5))]) C__law_draw hr (by omega) (pa_cons (pv 0) (pa_cons (r_frz (r_int)) (pa_nil))) rfl rfl (by decide)) (fun _ _ => rfl))))
abbrev s_law_due_fault : Stmt := top 27
abbrev N__law_due_fault : List Str := ["note"]
def s__law_due_fault : S := sSeq (sIf (tNotS (t1 (.m (mCall f__law_is_names [.v (m2 oIx (.pk 0) (.m (mC (.int 0)))), .v (mC (.str "."))])))) (sRet (mLst [.m (mC (.str "refused")), .m (mC (.int 0))])) (sNop))
  (sSeq (sIf (tAndS (tb (m2 oNe (.m (m2 oIx (.pk 0) (.m (mC (.int 1))))) (.m (mC (.str "/"))))) (tOrS (tb (m2 oNe (.m (mSlH (.m (m2 oIx (.pk 0) (.m (mC (.int 1))))) (.m (mC (.int 1))))) (.m (mC (.str "/"))))) (tNotS (t1 (.m (mCall f__law_is_names [.v (mSlL (.m (m2 oIx (.pk 0) (.m (mC (.int 1))))) (.m (mC (.int 1)))), .v (mC (.str "/"))])))))) (sRet (mLst [.m (mC (.str "refused")), .m (mC (.int 1))])) (sNop))
  (sRet (mLst [.m (mC (.str "let")), .m (mC .none)])))
def f__law_due_fault : Fn := fBody 1 [] s__law_due_fault
theorem sc__law_due_fault : FnScope N__law_due_fault ["note"] (defScope s_law_due_fault) := ⟨rfl, rfl, rfl, by decide +kernel, rfl, by decide +kernel, by decide +kernel⟩
theorem cal__law_due_fault (T : Txt K mg c_StoreError c_BadRing c_BadNote c_BadSeen) (F : FunAt K mg "_law_due_fault" s_law_due_fault) (C__law_is_names : Cal P w K mg base "_law_is_names" 1 2 [] f__law_is_names) : Cal P w K mg base "_law_due_fault" 2 1 [] f__law_due_fault := by
  refine cal_mk (N := N__law_due_fault) (ps := ["note"]) (k := 1) F sc__law_due_fault rfl (fun _ _ _ _ _ _ us hl => match us, hl with | [_], _ => rfl) (fun f cdv A outer s0 H E hr => ?_)
  have nd := sc__law_due_fault.nd
  exact rs_cons (rs_if (rt_not (rt_val (r_callC (args := [.v (m2 oIx (.pk 0) (.m (mC (.int 0)))), .v (mC (.str "."))]) C__law_is_names hr (by omega) (pa_cons (r_frz (r_ix ix_seq sem_ix (pv 0) (r_int) (fun _ _ => rfl))) (pa_cons (r_frz (r_str)) (pa_nil))) rfl rfl (by decide)) (fun _ => rfl))) (rs_one (rs_ret (r_lst (os := [.m (mC (.str "refused")), .m (mC (.int 0))]) (pa_cons (r_str) (pa_cons (r_int) (pa_nil))) (by decide)))) (rs_nil))
    (rs_cons (rs_if (PW.pt (rt_and (rt_cmp (op_neA hr.units) sem_ne (r_ix ix_seq sem_ix (pv 0) (r_int) (fun _ _ => rfl)) (r_str) (nomark _)) (rt_and1 (PW.pt (rt_or (rt_cmp (op_neA hr.units) sem_ne (r_slH (r_ix ix_seq sem_ix (pv 0) (r_int) (fun _ _ => rfl)) (r_int)) (r_str) (nomark _)) (rt_or1 (rt_not (rt_val (r_callC (args := [.v (mSlL (.m (m2 oIx (.pk 0) (.m (mC (.int 1))))) (.m (mC (.int 1)))), .v (mC (.str "/"))]) C__law_is_names hr (by omega) (pa_cons (r_frz (r_slL (r_ix ix_seq sem_ix (pv 0) (r_int) (fun _ _ => rfl)) (r_int))) (pa_cons (r_frz (r_str)) (pa_nil))) rfl rfl (by decide)) (fun _ => rfl))))))))) (rs_one (rs_ret (r_lst (os := [.m (mC (.str "refused")), .m (mC (.int 1))]) (pa_cons (r_str) (pa_cons (r_int) (pa_nil))) (by decide)))) (rs_nil))
    (rs_one (rs_ret (r_lst (os := [.m (mC (.str "let")), .m (mC .none)]) (pa_cons (r_str) (pa_cons (r_non) (pa_nil))) (by decide)))))
abbrev sis_path : Stmt := top 10
abbrev N_is_path : List Str := ["path"]
def s_is_path : S := sRet (mOr (m2 oEq (.pk 0) (.m (mC (.str "/")))) (mAnd (m2 oEq (.m (mSlH (.pk 0) (.m (mC (.int 1))))) (.m (mC (.str "/")))) (mCall f_are_names [.v (mSM (mSlL (.pk 0) (.m (mC (.int 1)))) [(.m (mC (.str "/")))] oSplit)])))
def f_is_path : Fn := fBody 1 [] s_is_path
theorem sc_is_path : FnScope N_is_path ["path"] (defScope sis_path) := ⟨rfl, rfl, rfl, by decide +kernel, rfl, by decide +kernel, by decide +kernel⟩
theorem cal_is_path (T : Txt K mg c_StoreError c_BadRing c_BadNote c_BadSeen) (F : FunAt K mg "is_path" sis_path) (C_are_names : Cal P w K mg base "are_names" 2 1 [] f_are_names) : Cal P w K mg base "is_path" 3 1 [] f_is_path := by
  refine cal_mk (N := N_is_path) (ps := ["path"]) (k := 2) F sc_is_path rfl (fun _ _ _ _ _ _ us hl => match us, hl with | [_], _ => rfl) (fun f cdv A outer s0 H E hr => ?_)
  have nd := sc_is_path.nd
  exact rs_one (rs_ret (r_or (r_cmp (op_eqA hr.units) sem_eq (pv 0) (r_str) (nomark _)) (r_one (r_and (r_cmp (op_eqA hr.units) sem_eq (r_slH (pv 0) (r_int)) (r_str) (nomark _)) (r_one (r_callC (args := [.v (mSM (mSlL (.pk 0) (.m (mC (.int 1)))) [(.m (mC (.str "/")))] oSplit)]) C_are_names hr (by omega) (pa_cons (r_frz (r_sm (obs := [(.m (mC (.str "/")))]) PySem.F.slot_str_split PySem.F.type_str_split mt_split sem_split (r_slL (pv 0) (r_int)) (pa_cons ((r_str)) (pa_nil)))) (pa_nil)) rfl rfl (by decide)))))))
abbrev s_law_words : Stmt := top 20
abbrev N__law_words : List Str := ["feed", "most", "k"]
def s__law_words : S := sRet (mComp (srcR1 (m2 oAdd (.m (mC (.int 1))) (.m (mCall f__law_draw [.io 0, .v (mV 1)])))) (bName 2) (tTrue) (frz (mCall f__law_word [.io 0])) [2])
def f__law_words : Fn := fBody 3 [0] s__law_words
theorem sc__law_words : FnScope N__law_words ["feed", "most"] (defScope s_law_words) := ⟨rfl, rfl, rfl, by decide +kernel, rfl, by decide +kernel, by decide +kernel⟩
theorem cal__law_words (T : Txt K mg c_StoreError c_BadRing c_BadNote c_BadSeen) (F : FunAt K mg "_law_words" s_law_words) (C__law_draw : Cal P w K mg base "_law_draw" 1 2 [0] f__law_draw) (C__law_word : Cal P w K mg base "_law_word" 2 1 [0] f__law_word) : Cal P w K mg base "_law_words" 3 2 [0] f__law_words := by
  refine cal_mk (N := N__law_words) (ps := ["feed", "most"]) (k := 2) F sc__law_words rfl (fun _ _ _ _ _ _ us hl => match us, hl with | [_, _], _ => rfl) (fun f cdv A outer s0 H E hr => ?_)
  have nd := sc__law_words.nd
  exact rs_one (rs_ret (r_comp (own := [("k", 2)]) (sl := [2]) rfl nd (ri_r1 T.b_range (r_bin op_addA sem_add (r_int) (r_callC (args := [.io 0, .v (mV 1)]) C__law_draw hr (by omega) (pa_cons (pv 0) (pa_cons (r_frz (r_v (pv 1))) (pa_nil))) rfl rfl (by decide)))) (blkOk_by (own := [("k", 2)]) (N := N__law_words) (sc := defScope s_law_words) (by decide +kernel)) (by decide) (fun _ _ _ _ _ => rg_name (i := 2) (sl := [2]) (by decide) nd rfl (Or.inl rfl)) (fun _ _ _ _ _ => pts0) (fun _ _ _ _ _ => r_frz (r_callC (args := [.io 0]) C__law_word hr (by omega) (pa_cons (pv 0) (pa_nil)) rfl rfl (by decide)))))
abbrev s_law_sent_right : Stmt := top 30
abbrev N__law_sent_right : List Str := ["notes", "host", "path", "handed", "told", "due", "at", "note"]
def s__law_sent_right : S := sSeq (sSet 3 (m1 oList (.pk 0)))
  (sSeq (sSet 4 (mCall f_sent_along [.v (mV 3), .v (mV 1), .v (mV 2)]))
  (sSeq (sSet 5 (m1 oSortX (.m (mComp (srcR1 (m1 oLen (.pk 0))) (bName 6) (t1 (.m (mCall f__law_goes [.v (m2 oIx (.pk 0) (.pk 6)), .v (mV 1), .v (mV 2)]))) (mTup [.m (m1 oNeg (.m (m1 oLen (.m (m2 oIx (.m (m2 oIx (.pk 0) (.pk 6))) (.m (mC (.int 1)))))))), .m (mV 6)]) [6]))))
  (sSeq (sIf (tOrS (tNotS (t1 (.m (m1 (oIsi "list") (.pk 4))))) (tOrS (tb (m2 oNe (.m (m1 oLen (.pk 4))) (.m (m1 oLen (.pk 5))))) (tb (m2 oNe (.pk 3) (.pk 0))))) (sRet (mC (.bool false))) (sNop))
  (sSeq (sFor (srcR1 (m1 oLen (.pk 5))) (bName 6) (sIf (tOrS (tNotS (t1 (.m (mCall f__law_whole [.v (m2 oIx (.pk 4) (.pk 6))])))) (tb (m2 oNe (.m (m2 oIx (.pk 4) (.pk 6))) (.m (m2 oIx (.m (m2 oIx (.pk 5) (.pk 6))) (.m (mC (.int 1)))))))) (sRet (mC (.bool false))) (sNop)))
  (sSeq (sFor (srcM (mV 0)) (bName 7) (sIf (tNotS (t1 (.m (mCall f__law_yes [.v (mCall f_is_sent [.v (mV 7), .v (mV 1), .v (mV 2)]), .v (mCall f__law_goes [.v (mV 7), .v (mV 1), .v (mV 2)])])))) (sRet (mC (.bool false))) (sNop)))
  (sRet (mC (.bool true))))))))
def f__law_sent_right : Fn := fBody 8 [] s__law_sent_right
theorem sc__law_sent_right : FnScope N__law_sent_right ["notes", "host", "path"] (defScope s_law_sent_right) := ⟨rfl, rfl, rfl, by decide +kernel, rfl, by decide +kernel, by decide +kernel⟩
theorem cal__law_sent_right (T : Txt K mg c_StoreError c_BadRing c_BadNote c_BadSeen) (F : FunAt K mg "_law_sent_right" s_law_sent_right) (C_sent_along : Cal P w K mg base "sent_along" 2 3 [] f_sent_along) (C__law_goes : Cal P w K mg base "_law_goes" 1 3 [] f__law_goes) (C__law_whole : Cal P w K mg base "_law_whole" 1 1 [] f__law_whole) (C__law_yes : Cal P w K mg base "_law_yes" 1 2 [] f__law_yes) (C_is_sent : Cal P w K mg base "is_sent" 1 3 [] f_is_sent) : Cal P w K mg base "_law_sent_right" 3 3 [] f__law_sent_right := by
  refine cal_mk (N := N__law_sent_right) (ps := ["notes", "host", "path"]) (k := 2) F sc__law_sent_right rfl (fun _ _ _ _ _ _ us hl => match us, hl with | [_, _, _], _ => rfl) (fun f cdv A outer s0 H E hr => ?_)
  have nd := sc__law_sent_right.nd
  exact rs_cons (rs_set (i := 3) nd rfl (Or.inl rfl) (r_t1 call_list_of sem_list rfl T.b_list (by decide +kernel) (pv 0)))
    (rs_cons (rs_set (i := 4) nd rfl (Or.inl rfl) (r_callC (args := [.v (mV 3), .v (mV 1), .v (mV 2)]) C_sent_along hr (by omega) (pa_cons (r_frz (r_v (pv 3))) (pa_cons (r_frz (r_v (pv 1))) (pa_cons (r_frz (r_v (pv 2))) (pa_nil)))) rfl rfl (by decide)))
    (rs_cons (rs_set (i := 5) nd rfl (Or.inl rfl) (r_c1 (cr_sortX (hu65 hr)) sem_sortX rfl T.b_sorted (by decide +kernel) (r_comp (own := [("at", 6)]) (sl := [6]) rfl nd (ri_r1 T.b_range (r_c1 call_len sem_len rfl T.b_len (by decide +kernel) (pv 0))) (blkOk_by (own := [("at", 6)]) (N := N__law_sent_right) (sc := defScope s_law_sent_right) (by decide +kernel)) (by decide) (fun _ _ _ _ _ => rg_name (i := 6) (sl := [6]) (by decide) nd rfl (Or.inl rfl)) (fun _ _ _ _ _ => pts1 (rt_val (r_callC (args := [.v (m2 oIx (.pk 0) (.pk 6)), .v (mV 1), .v (mV 2)]) C__law_goes hr (by omega) (pa_cons (r_frz (r_ix ix_seq sem_ix (pv 0) (pv 6) (fun _ _ => rfl))) (pa_cons (r_frz (r_v (pv 1))) (pa_cons (r_frz (r_v (pv 2))) (pa_nil)))) rfl rfl (by decide)) (fun _ => rfl))) (fun _ _ _ _ _ => r_tup (os := [.m (m1 oNeg (.m (m1 oLen (.m (m2 oIx (.m (m2 oIx (.pk 0) (.pk 6))) (.m (mC (.int 1)))))))), .m (mV 6)]) (pa_cons (r_un un_neg sem_neg (r_c1 call_len sem_len rfl T.b_len (by decide +kernel) (r_ix ix_seq sem_ix (r_ix ix_seq sem_ix (pv 0) (pv 6) (fun _ _ => rfl)) (r_int) (fun _ _ => rfl)))) (pa_cons (r_v (pv 6)) (pa_nil))) (by decide)))))
    (rs_cons (rs_if (PW.pt (rt_or (rt_not (rt_val (r_isi (T := "list") (by decide) T.b_isinstance rfl T.b_list (by decide +kernel) (pv 4)) (fun _ => rfl))) (rt_or (rt_cmp (op_neA hr.units) sem_ne (r_c1 call_len sem_len rfl T.b_len (by decide +kernel) (pv 4)) (r_c1 call_len sem_len rfl T.b_len (by decide +kernel) (pv 5)) (nomark _)) (rt_or1 (rt_cmp (op_neA hr.units) sem_ne (pv 3) (pv 0) (nomark _)))))) (rs_one (rs_ret (r_bl))) (rs_nil))
    (rs_cons (rs_for PassesOwn.never rfl (ri_r1 T.b_range (r_c1 call_len sem_len rfl T.b_len (by decide +kernel) (pv 5))) (rg_name (i := 6) (sl := [6]) (by decide) nd rfl (Or.inl rfl)) (rs_one (rs_if (PW.pt (rt_or (rt_not (rt_val (r_callC (args := [.v (m2 oIx (.pk 4) (.pk 6))]) C__law_whole hr (by omega) (pa_cons (r_frz (r_ix ix_seq sem_ix (pv 4) (pv 6) (fun _ _ => rfl))) (pa_nil)) rfl rfl (by decide)) (fun _ => rfl))) (rt_or1 (rt_cmp (op_neA hr.units) sem_ne (r_ix ix_seq sem_ix (pv 4) (pv 6) (fun _ _ => rfl)) (r_ix ix_seq sem_ix (r_ix ix_seq sem_ix (pv 5) (pv 6) (fun _ _ => rfl)) (r_int) (fun _ _ => rfl)) (nomark _))))) (rs_one (rs_ret (r_bl))) (rs_nil))))
    (rs_cons (rs_for PassesOwn.never rfl (ri_m (r_v (pv 0))) (rg_name (i := 7) (sl := [7]) (by decide) nd rfl (Or.inl rfl)) (rs_one (rs_if (rt_not (rt_val (r_callC (args := [.v (mCall f_is_sent [.v (mV 7), .v (mV 1), .v (mV 2)]), .v (mCall f__law_goes [.v (mV 7), .v (mV 1), .v (mV 2)])]) C__law_yes hr (by omega) (pa_cons (r_frz (r_callC (args := [.v (mV 7), .v (mV 1), .v (mV 2)]) C_is_sent hr (by omega) (pa_cons (r_frz (r_v (pv 7))) (pa_cons (r_frz (r_v (pv 1))) (pa_cons (r_frz (r_v (pv 2))) (pa_nil)))) rfl rfl (by decide))) (pa_cons (r_frz (r_callC (args := [.v (mV 7), .v (mV 1), .v (mV 2)]) C__law_goes hr (by omega) (pa_cons (r_frz (r_v (pv 7))) (pa_cons (r_frz (r_v (pv 1))) (pa_cons (r_frz (r_v (pv 2))) (pa_nil)))) rfl rfl (by decide))) (pa_nil))) rfl rfl (by decide)) (fun _ => rfl))) (rs_one (rs_ret (r_bl))) (rs_nil))))
    (rs_one (rs_ret (r_bl))))))))
abbrev scheck_note : Stmt := top 11
abbrev N_check_note : List Str := ["note"]
def s_check_note : S := sSeq (sIf (tNotS (t1 (.m (mCall f_are_names [.v (mSM (m2 oIx (.pk 0) (.m (mC (.int 0)))) [(.m (mC (.str ".")))] oSplit)])))) (sRaise "BadNote" ["at"] [.m (mC (.int 0))]) (sNop))
  (sIf (tNotS (t1 (.m (mCall f_is_path [.v (m2 oIx (.pk 0) (.m (mC (.int 1))))])))) (sRaise "BadNote" ["at"] [.m (mC (.int 1))]) (sNop))
def f_check_note : Fn := fBody 1 [] s_check_note
theorem sc_check_note : FnScope N_check_note ["note"] (defScope scheck_note) := ⟨rfl, rfl, rfl, by decide +kernel, rfl, by decide +kernel, by decide +kernel⟩
theorem cal_check_note (T : Txt K mg c_StoreError c_BadRing c_BadNote c_BadSeen) (F : FunAt K mg "check_note" scheck_note) (C_are_names : Cal P w K mg base "are_names" 2 1 [] f_are_names) (C_is_path : Cal P w K mg base "is_path" 3 1 [] f_is_path) (X_BadNote : ClsX P w K mg base "BadNote" ["at"]) : CalX P w K mg base "check_note" 4 1 f_check_note := by
  refine calX_mk (N := N_check_note) (ps := ["note"]) (k := 3) F sc_check_note rfl (fun _ _ _ _ _ _ us hl => match us, hl with | [_], _ => rfl) (fun f cdv A outer s0 H E hr => ?_)
  have nd := sc_check_note.nd
  have tk := L2N.takes_of (X := cxOf (L2N.CX P w) P w K mg base N_check_note "check_note" (defScope scheck_note) f cdv A outer s0 H E) (E := E) rfl rfl rfl rfl
  have hp : PassesOwn _ _ _ (cxOf (L2N.CX P w) P w K mg base N_check_note "check_note" (defScope scheck_note) f cdv A outer s0 H E).xe := passes_of (X := cxOf (L2N.CX P w) P w K mg base N_check_note "check_note" (defScope scheck_note) f cdv A outer s0 H E) rfl
  exact rs_cons (rs_if (rt_not (rt_val (r_callC (args := [.v (mSM (m2 oIx (.pk 0) (.m (mC (.int 0)))) [(.m (mC (.str ".")))] oSplit)]) C_are_names hr (by omega) (pa_cons (r_frz (r_sm (obs := [(.m (mC (.str ".")))]) PySem.F.slot_str_split PySem.F.type_str_split mt_split sem_split (r_ix ix_seq sem_ix (pv 0) (r_int) (fun _ _ => rfl)) (pa_cons ((r_str)) (pa_nil)))) (pa_nil)) rfl rfl (by decide)) (fun _ => rfl))) (rs_one (rs_raise (names := ["at"]) (os := [.m (mC (.int 0))]) X_BadNote hr (by omega) rfl tk (pa_cons (r_int) (pa_nil)))) (rs_nil))
    (rs_one (rs_if (rt_not (rt_val (r_callC (args := [.v (m2 oIx (.pk 0) (.m (mC (.int 1))))]) C_is_path hr (by omega) (pa_cons (r_frz (r_ix ix_seq sem_ix (pv 0) (r_int) (fun _ _ => rfl))) (pa_nil)) rfl rfl (by decide)) (fun _ => rfl))) (rs_one (rs_raise (names := ["at"]) (os := [.m (mC (.int 1))]) X_BadNote hr (by omega) rfl tk (pa_cons (r_int) (pa_nil)))) (rs_nil)))
abbrev s_law_note : Stmt := top 23
abbrev N__law_note : List Str := ["feed", "words", "path"]
def s__law_note : S := sSeq (sSet 1 (mCall f__law_words [.io 0, .v (mC (.int 4))]))
  (sSeq (sSet 2 (mC (.str "/")))
  (sSeq (sIf (tb (m2 oGt (.m (mCall f__law_draw [.io 0, .v (mC (.int 4))])) (.m (mC (.int 0))))) (sSet 2 (mCall f__law_path [.v (mCall f__law_words [.io 0, .v (mC (.int 4))])])) (sNop))
  (sRet (mTup [.m (frz (mSM (mC (.str ".")) [(.pk 1)] oJoin)), .m (mV 2), .m (m2 oEq (.m (mCall f__law_draw [.io 0, .v (mC (.int 2))])) (.m (mC (.int 0))))]))))
def f__law_note : Fn := fBody 3 [0] s__law_note
theorem sc__law_note : FnScope N__law_note ["feed"] (defScope s_law_note) := ⟨rfl, rfl, rfl, by decide +kernel, rfl, by decide +kernel, by decide +kernel⟩
theorem cal__law_note (T : Txt K mg c_StoreError c_BadRing c_BadNote c_BadSeen) (F : FunAt K mg "_law_note" s_law_note) (C__law_words : Cal P w K mg base "_law_words" 3 2 [0] f__law_words) (C__law_draw : Cal P w K mg base "_law_draw" 1 2 [0] f__law_draw) (C__law_path : Cal P w K mg base "_law_path" 1 1 [] f__law_path) : Cal P w K mg base "_law_note" 4 1 [0] f__law_note := by
  refine cal_mk (N := N__law_note) (ps := ["feed"]) (k := 3) F sc__law_note rfl (fun _ _ _ _ _ _ us hl => match us, hl with | [_], _ => rfl) (fun f cdv A outer s0 H E hr => ?_)
  have nd := sc__law_note.nd
  exact rs_cons (rs_set (i := 1) nd rfl (Or.inl rfl) (r_callC (args := [.io 0, .v (mC (.int 4))]) C__law_words hr (by omega) (pa_cons (pv 0) (pa_cons (r_frz (r_int)) (pa_nil))) rfl rfl (by decide)))
    (rs_cons (rs_set (i := 2) nd rfl (Or.inl rfl) (r_str))
    (rs_cons (rs_if (rt_cmp op_gt sem_gt (r_callC (args := [.io 0, .v (mC (.int 4))]) C__law_draw hr (by omega) (pa_cons (pv 0) (pa_cons (r_frz (r_int)) (pa_nil))) rfl rfl (by decide)) (r_int) (nomark _)) (rs_one (rs_set (i := 2) nd rfl (Or.inl rfl) (r_callC (args := [.v (mCall f__law_words [.io 0, .v (mC (.int 4))])]) C__law_path hr (by omega) (pa_cons (r_frz (r_callC (args := [.io 0, .v (mC (.int 4))]) C__law_words hr (by omega) (pa_cons (pv 0) (pa_cons (r_frz (r_int)) (pa_nil))) rfl rfl (by decide))) (pa_nil)) rfl rfl (by decide)))) (rs_nil))
    (rs_one (rs_ret (r_tup (os := [.m (frz (mSM (mC (.str ".")) [(.pk 1)] oJoin)), .m (mV 2), .m (m2 oEq (.m (mCall f__law_draw [.io 0, .v (mC (.int 2))])) (.m (mC (.int 0))))]) (pa_cons (r_frz (r_sm (obs := [(.pk 1)]) PySem.F.slot_str_join PySem.F.type_str_join mt_join sem_join (r_str) (pa_cons ((pv 1)) (pa_nil)))) (pa_cons (r_v (pv 2)) (pa_cons (r_cmp (op_eqA hr.units) sem_eq (r_callC (args := [.io 0, .v (mC (.int 2))]) C__law_draw hr (by omega) (pa_cons (pv 0) (pa_cons (r_frz (r_int)) (pa_nil))) rfl rfl (by decide)) (r_int) (nomark _)) (pa_nil)))) (by decide))))))
abbrev s_law_hosts : Stmt := top 24
abbrev N__law_hosts : List Str := ["feed", "host", "names", "hosts"]
def s__law_hosts : S := sSeq (sSet 2 (mSM (mV 1) [(.m (mC (.str ".")))] oSplit))
  (sSeq (sSet 3 (mLst [.m (mV 1), .m (m2 oIx (.pk 2) (.m (m2 oSub (.m (m1 oLen (.pk 2))) (.m (mC (.int 1)))))), .m (frz (mSM (mC (.str ".")) [(.m (mCall f__law_words [.io 0, .v (mC (.int 4))]))] oJoin))]))
  (sSeq (sIf (tb (m2 oLt (.m (m1 oLen (.pk 2))) (.m (mC (.int 4))))) (sSeq (sExpr (mMeth 3 [.m (frz (m2 oAdd (.m (m2 oAdd (.m (mCall f__law_word [.io 0])) (.m (mC (.str "."))))) (.pk 1)))] fAppend))
  (sExpr (mMeth 3 [.m (frz (m2 oAdd (.m (m2 oAdd (.pk 1) (.m (mC (.str "."))))) (.m (mCall f__law_word [.io 0]))))] fAppend))) (sNop))
  (sSeq (sIf (tb (m2 oGt (.m (m1 oLen (.pk 2))) (.m (mC (.int 1))))) (sExpr (mMeth 3 [.m (frz (mSM (mC (.str ".")) [(.m (mSlL (.pk 2) (.m (mC (.int 1)))))] oJoin))] fAppend)) (sNop))
  (sSeq (sIf (tb (m2 oLt (.m (m1 oLen (.m (m2 oIx (.pk 2) (.m (mC (.int 0))))))) (.m (mC (.int 8))))) (sExpr (mMeth 3 [.m (frz (m2 oAdd (.m (mC (.str "a"))) (.pk 1)))] fAppend)) (sNop))
  (sRet (mMv 3))))))
def f__law_hosts : Fn := fBody 4 [0] s__law_hosts
theorem sc__law_hosts : FnScope N__law_hosts ["feed", "host"] (defScope s_law_hosts) := ⟨rfl, rfl, rfl, by decide +kernel, rfl, by decide +kernel, by decide +kernel⟩
theorem cal__law_hosts (T : Txt K mg c_StoreError c_BadRing c_BadNote c_BadSeen) (F : FunAt K mg "_law_hosts" s_law_hosts) (C__law_words : Cal P w K mg base "_law_words" 3 2 [0] f__law_words) (C__law_word : Cal P w K mg base "_law_word" 2 1 [0] f__law_word) : Cal P w K mg base "_law_hosts" 4 2 [0] f__law_hosts := by
  refine cal_mk (N := N__law_hosts) (ps := ["feed", "host"]) (k := 3) F sc__law_hosts rfl (fun _ _ _ _ _ _ us hl => match us, hl with | [_, _], _ => rfl) (fun f cdv A outer s0 H E hr => ?_)
  have nd := sc__law_hosts.nd
  exact rs_cons (rs_set (i := 2) nd rfl (Or.inl rfl) (r_sm (obs := [(.m (mC (.str ".")))]) PySem.F.slot_str_split PySem.F.type_str_split mt_split sem_split (r_v (pv 1)) (pa_cons ((r_str)) (pa_nil))))
    (rs_cons (rs_set (i := 3) nd rfl (Or.inl rfl) (r_lst (os := [.m (mV 1), .m (m2 oIx (.pk 2) (.m (m2 oSub (.m (m1 oLen (.pk 2))) (.m (mC (.int 1)))))), .m (frz (mSM (mC (.str ".")) [(.m (mCall f__law_words [.io 0, .v (mC (.int 4))]))] oJoin))]) (pa_cons (r_v (pv 1)) (pa_cons (r_ix ix_seq sem_ix (pv 2) (r_bin op_sub sem_sub (r_c1 call_len sem_len rfl T.b_len (by decide +kernel) (pv 2)) (r_int)) (fun _ _ => rfl)) (pa_cons (r_frz (r_sm (obs := [(.m (mCall f__law_words [.io 0, .v (mC (.int 4))]))]) PySem.F.slot_str_join PySem.F.type_str_join mt_join sem_join (r_str) (pa_cons ((r_callC (args := [.io 0, .v (mC (.int 4))]) C__law_words hr (by omega) (pa_cons (pv 0) (pa_cons (r_frz (r_int)) (pa_nil))) rfl rfl (by decide))) (pa_nil)))) (pa_nil)))) (by decide)))
    (rs_cons (rs_if (rt_cmp op_lt sem_lt (r_c1 call_len sem_len rfl T.b_len (by decide +kernel) (pv 2)) (r_int) (nomark _)) (rs_cons (rs_expr (r_meth (os := [.m (frz (m2 oAdd (.m (m2 oAdd (.m (mCall f__law_word [.io 0])) (.m (mC (.str "."))))) (.pk 1)))]) PySem.F.slot_list_append PySem.F.type_list_append mt_append ms_append (pv 3) (pa_cons (r_frz (r_bin op_addA sem_add (r_bin op_addA sem_add (r_callC (args := [.io 0]) C__law_word hr (by omega) (pa_cons (pv 0) (pa_nil)) rfl rfl (by decide)) (r_str)) (pv 1))) (pa_nil))))
    (rs_one (rs_expr (r_meth (os := [.m (frz (m2 oAdd (.m (m2 oAdd (.pk 1) (.m (mC (.str "."))))) (.m (mCall f__law_word [.io 0]))))]) PySem.F.slot_list_append PySem.F.type_list_append mt_append ms_append (pv 3) (pa_cons (r_frz (r_bin op_addA sem_add (r_bin op_addA sem_add (pv 1) (r_str)) (r_callC (args := [.io 0]) C__law_word hr (by omega) (pa_cons (pv 0) (pa_nil)) rfl rfl (by decide)))) (pa_nil)))))) (rs_nil))
    (rs_cons (rs_if (rt_cmp op_gt sem_gt (r_c1 call_len sem_len rfl T.b_len (by decide +kernel) (pv 2)) (r_int) (nomark _)) (rs_one (rs_expr (r_meth (os := [.m (frz (mSM (mC (.str ".")) [(.m (mSlL (.pk 2) (.m (mC (.int 1)))))] oJoin))]) PySem.F.slot_list_append PySem.F.type_list_append mt_append ms_append (pv 3) (pa_cons (r_frz (r_sm (obs := [(.m (mSlL (.pk 2) (.m (mC (.int 1)))))]) PySem.F.slot_str_join PySem.F.type_str_join mt_join sem_join (r_str) (pa_cons ((r_slL (pv 2) (r_int))) (pa_nil)))) (pa_nil))))) (rs_nil))
    (rs_cons (rs_if (rt_cmp op_lt sem_lt (r_c1 call_len sem_len rfl T.b_len (by decide +kernel) (r_ix ix_seq sem_ix (pv 2) (r_int) (fun _ _ => rfl))) (r_int) (nomark _)) (rs_one (rs_expr (r_meth (os := [.m (frz (m2 oAdd (.m (mC (.str "a"))) (.pk 1)))]) PySem.F.slot_list_append PySem.F.type_list_append mt_append ms_append (pv 3) (pa_cons (r_frz (r_bin op_addA sem_add (r_str) (pv 1))) (pa_nil))))) (rs_nil))
    (rs_one (rs_ret (r_mv (pv 3))))))))
abbrev s_law_paths : Stmt := top 25
abbrev N__law_paths : List Str := ["feed", "path", "paths", "names"]
def s__law_paths : S := sSeq (sSet 2 (mLst [.m (mV 1), .m (mC (.str "/")), .m (frz (mCall f__law_path [.v (mCall f__law_words [.io 0, .v (mC (.int 4))])]))]))
  (sSeq (sSet 3 (mSM (mV 1) [(.m (mC (.str "/")))] oSplit))
  (sSeq (sIf (tAndS (tb (m2 oNe (.pk 1) (.m (mC (.str "/"))))) (tb (m2 oLt (.m (m1 oLen (.pk 3))) (.m (mC (.int 5)))))) (sExpr (mMeth 2 [.m (frz (m2 oAdd (.m (m2 oAdd (.pk 1) (.m (mC (.str "/"))))) (.m (mCall f__law_word [.io 0]))))] fAppend)) (sNop))
  (sSeq (sIf (tAndS (tb (m2 oNe (.pk 1) (.m (mC (.str "/"))))) (tb (m2 oLt (.m (m1 oLen (.m (m2 oIx (.pk 3) (.m (m2 oSub (.m (m1 oLen (.pk 3))) (.m (mC (.int 1))))))))) (.m (mC (.int 8)))))) (sExpr (mMeth 2 [.m (frz (m2 oAdd (.pk 1) (.m (mC (.str "a")))))] fAppend)) (sNop))
  (sSeq (sIf (tb (m2 oGt (.m (m1 oLen (.pk 3))) (.m (mC (.int 2))))) (sExpr (mMeth 2 [.m (frz (mSM (mC (.str "/")) [(.m (mSlH (.pk 3) (.m (m2 oSub (.m (m1 oLen (.pk 3))) (.m (mC (.int 1)))))))] oJoin))] fAppend)) (sNop))
  (sRet (mMv 2))))))
def f__law_paths : Fn := fBody 4 [0] s__law_paths
theorem sc__law_paths : FnScope N__law_paths ["feed", "path"] (defScope s_law_paths) := ⟨rfl, rfl, rfl, by decide +kernel, rfl, by decide +kernel, by decide +kernel⟩
theorem cal__law_paths (T : Txt K mg c_StoreError c_BadRing c_BadNote c_BadSeen) (F : FunAt K mg "_law_paths" s_law_paths) (C__law_path : Cal P w K mg base "_law_path" 1 1 [] f__law_path) (C__law_words : Cal P w K mg base "_law_words" 3 2 [0] f__law_words) (C__law_word : Cal P w K mg base "_law_word" 2 1 [0] f__law_word) : Cal P w K mg base "_law_paths" 4 2 [0] f__law_paths := by
  refine cal_mk (N := N__law_paths) (ps := ["feed", "path"]) (k := 3) F sc__law_paths rfl (fun _ _ _ _ _ _ us hl => match us, hl with | [_, _], _ => rfl) (fun f cdv A outer s0 H E hr => ?_)
  have nd := sc__law_paths.nd
  exact rs_cons (rs_set (i := 2) nd rfl (Or.inl rfl) (r_lst (os := [.m (mV 1), .m (mC (.str "/")), .m (frz (mCall f__law_path [.v (mCall f__law_words [.io 0, .v (mC (.int 4))])]))]) (pa_cons (r_v (pv 1)) (pa_cons (r_str) (pa_cons (r_frz (r_callC (args := [.v (mCall f__law_words [.io 0, .v (mC (.int 4))])]) C__law_path hr (by omega) (pa_cons (r_frz (r_callC (args := [.io 0, .v (mC (.int 4))]) C__law_words hr (by omega) (pa_cons (pv 0) (pa_cons (r_frz (r_int)) (pa_nil))) rfl rfl (by decide))) (pa_nil)) rfl rfl (by decide))) (pa_nil)))) (by decide)))
    (rs_cons (rs_set (i := 3) nd rfl (Or.inl rfl) (r_sm (obs := [(.m (mC (.str "/")))]) PySem.F.slot_str_split PySem.F.type_str_split mt_split sem_split (r_v (pv 1)) (pa_cons ((r_str)) (pa_nil))))
    (rs_cons (rs_if (PW.pt (rt_and (rt_cmp (op_neA hr.units) sem_ne (pv 1) (r_str) (nomark _)) (rt_and1 (rt_cmp op_lt sem_lt (r_c1 call_len sem_len rfl T.b_len (by decide +kernel) (pv 3)) (r_int) (nomark _))))) (rs_one (rs_expr (r_meth (os := [.m (frz (m2 oAdd (.m (m2 oAdd (.pk 1) (.m (mC (.str "/"))))) (.m (mCall f__law_word [.io 0]))))]) PySem.F.slot_list_append PySem.F.type_list_append mt_append ms_append (pv 2) (pa_cons (r_frz (r_bin op_addA sem_add (r_bin op_addA sem_add (pv 1) (r_str)) (r_callC (args := [.io 0]) C__law_word hr (by omega) (pa_cons (pv 0) (pa_nil)) rfl rfl (by decide)))) (pa_nil))))) (rs_nil))
    (rs_cons (rs_if (PW.pt (rt_and (rt_cmp (op_neA hr.units) sem_ne (pv 1) (r_str) (nomark _)) (rt_and1 (rt_cmp op_lt sem_lt (r_c1 call_len sem_len rfl T.b_len (by decide +kernel) (r_ix ix_seq sem_ix (pv 3) (r_bin op_sub sem_sub (r_c1 call_len sem_len rfl T.b_len (by decide +kernel) (pv 3)) (r_int)) (fun _ _ => rfl))) (r_int) (nomark _))))) (rs_one (rs_expr (r_meth (os := [.m (frz (m2 oAdd (.pk 1) (.m (mC (.str "a")))))]) PySem.F.slot_list_append PySem.F.type_list_append mt_append ms_append (pv 2) (pa_cons (r_frz (r_bin op_addA sem_add (pv 1) (r_str))) (pa_nil))))) (rs_nil))
    (rs_cons (rs_if (rt_cmp op_gt sem_gt (r_c1 call_len sem_len rfl T.b_len (by decide +kernel) (pv 3)) (r_int) (nomark _)) (rs_one (rs_expr (r_meth (os := [.m (frz (mSM (mC (.str "/")) [(.m (mSlH (.pk 3) (.m (m2 oSub (.m (m1 oLen (.pk 3))) (.m (mC (.int 1)))))))] oJoin))]) PySem.F.slot_list_append PySem.F.type_list_append mt_append ms_append (pv 2) (pa_cons (r_frz (r_sm (obs := [(.m (mSlH (.pk 3) (.m (m2 oSub (.m (m1 oLen (.pk 3))) (.m (mC (.int 1)))))))]) PySem.F.slot_str_join PySem.F.type_str_join mt_join sem_join (r_str) (pa_cons ((r_slH (pv 3) (r_bin op_sub sem_sub (r_c1 call_len sem_len rfl T.b_len (by decide +kernel) (pv 3)) (r_int)))) (pa_nil)))) (pa_nil))))) (rs_nil))
    (rs_one (rs_ret (r_mv (pv 2))))))))
abbrev s_law_fault : Stmt := top 28
abbrev N__law_fault : List Str := ["note", "told", "e"]
def s__law_fault : S := sSeq (sSet 1 (mC (.int 0)))
  (sSeq (sTry [("BadNote", true)] 2 (sSetX 1 f_check_note [.v (mV 0)]) (sSeq (sIf (tOrS (tNotS (t1 (.m (mIsE 2 [("BadNote", true)])))) (tOrS (t1 (.m (mIsE 2 [("BadNote", false)]))) (t1 (.m (mIsE 2 [("BadNote", false)]))))) (sRet (mLst [.m (mC (.str "other")), .m (mC .none)])) (sNop))
  (sSeq (sIf (tNotS (t1 (.m (mCall f__law_whole [.v (mFld 2 "at" ["BadNote"])])))) (sRet (mLst [.m (mC (.str "other")), .m (mC .none)])) (sNop))
  (sRet (mLst [.m (mC (.str "refused")), .m (mFld 2 "at" ["BadNote"])])))))
  (sSeq (sIf (tb (m2 oIs (.pk 1) (.m (mC .none)))) (sRet (mLst [.m (mC (.str "let")), .m (mC .none)])) (sNop))
  (sRet (mLst [.m (mC (.str "other")), .m (mC .none)]))))
def f__law_fault : Fn := fBody 3 [] s__law_fault
theorem sc__law_fault : FnScope N__law_fault ["note"] (defScope s_law_fault) := ⟨rfl, rfl, rfl, by decide +kernel, rfl, by decide +kernel, by decide +kernel⟩
theorem cal__law_fault (T : Txt K mg c_StoreError c_BadRing c_BadNote c_BadSeen) (F : FunAt K mg "_law_fault" s_law_fault) (C_check_note : CalX P w K mg base "check_note" 4 1 f_check_note) (CH__law_whole : CalH P w K mg base "_law_whole" 1 1 [] f__law_whole) : Cal P w K mg base "_law_fault" 5 1 [] f__law_fault := by
  refine cal_mk (N := N__law_fault) (ps := ["note"]) (k := 4) F sc__law_fault rfl (fun _ _ _ _ _ _ us hl => match us, hl with | [_], _ => rfl) (fun f cdv A outer s0 H E hr => ?_)
  have nd := sc__law_fault.nd
  exact rs_cons (rs_set (i := 1) nd rfl (Or.inl rfl) (r_int))
    (rs_cons (rs_try (known := [("BadNote", true)]) (i := 2) rfl rfl nd rfl rfl ⟨rfl, by decide, Or.inl T.g_StoreError⟩ takes0N (look_cons T.g_BadNote T.xm_BadNote_StoreError (look_nil)) (fun W pn xe tk hp => rs_one (rs_setX (i := 1) (args := [.v (mV 0)]) C_check_note (hr.mono (by omega)) tk (pa_cons (r_frz (by exact r_v (pv 0))) (pa_nil)) nd rfl (Or.inl rfl) rfl)) (fun a oe cls d pn hz hf hh => rs_cons (rs_if (PW.pt (rt_or (rt_not (rt_val (r_isE (known := [("BadNote", true)]) (look_cons T.g_BadNote ⟨T.ef_BadNote, T.kt_BadNote_BadNote⟩ (look_nil)) hz hf T.b_isinstance (pv 2) (pe_glob (v := .ref c_BadNote) rfl T.g_BadNote rfl) (fun u h => h)) (fun _ => rfl))) (rt_or (rt_val (r_isE (known := [("BadNote", false)]) (look_cons T.g_BadNote ⟨T.ef_BadNote, T.kt_BadNote_BadRing⟩ (look_nil)) hz hf T.b_isinstance (pv 2) (pe_glob (v := .ref c_BadRing) rfl T.g_BadRing rfl) (fun u h => h)) (fun _ => rfl)) (rt_or1 (rt_val (r_isE (known := [("BadNote", false)]) (look_cons T.g_BadNote ⟨T.ef_BadNote, T.kt_BadNote_BadSeen⟩ (look_nil)) hz hf T.b_isinstance (pv 2) (pe_glob (v := .ref c_BadSeen) rfl T.g_BadSeen rfl) (fun u h => h)) (fun _ => rfl)))))) (rs_one (rs_ret (r_lst (os := [.m (mC (.str "other")), .m (mC .none)]) (pa_cons (r_str) (pa_cons (r_non) (pa_nil))) (by decide)))) (rs_nil))
    (rs_cons (rs_if (rt_not (rt_val (r_callH (args := [.v (mFld 2 "at" ["BadNote"])]) CH__law_whole (L2H.roomH_mark hr _) (by omega) hh (pa_cons (r_frz (r_fld (known := ["BadNote"]) (mem_cons T.g_BadNote ⟨T.no_BadNote_at, T.xf_BadNote⟩ (mem_nil)) hz hf (pv 2))) (pa_nil)) rfl rfl (by decide)) (fun _ => rfl))) (rs_one (rs_ret (r_lst (os := [.m (mC (.str "other")), .m (mC .none)]) (pa_cons (r_str) (pa_cons (r_non) (pa_nil))) (by decide)))) (rs_nil))
    (rs_one (rs_ret (r_lst (os := [.m (mC (.str "refused")), .m (mFld 2 "at" ["BadNote"])]) (pa_cons (r_str) (pa_cons (r_fld (known := ["BadNote"]) (mem_cons T.g_BadNote ⟨T.no_BadNote_at, T.xf_BadNote⟩ (mem_nil)) hz hf (pv 2)) (pa_nil))) (by decide)))))))
    (rs_cons (rs_if (rt_cmp op_isC sem_is (pv 1) (r_non) (nomark _)) (rs_one (rs_ret (r_lst (os := [.m (mC (.str "let")), .m (mC .none)]) (pa_cons (r_str) (pa_cons (r_non) (pa_nil))) (by decide)))) (rs_nil))
    (rs_one (rs_ret (r_lst (os := [.m (mC (.str "other")), .m (mC .none)]) (pa_cons (r_str) (pa_cons (r_non) (pa_nil))) (by decide))))))
abbrev s_law_faults_right : Stmt := top 29
abbrev N__law_faults_right : List Str := ["feed", "note", "hosts", "paths", "host", "one", "path"]
def s__law_faults_right : S := sSeq (sSet 2 (mLst [.m (m2 oIx (.pk 1) (.m (mC (.int 0)))), .m (mC (.str "")), .m (mC (.str ".")), .m (mC (.str "a.")), .m (mC (.str ".a")), .m (mC (.str "a..b")), .m (mC (.str "a.b.c.d")), .m (mC (.str "a.b.c.d.e")), .m (mC (.str "abcdefgh")), .m (mC (.str "abcdefghi")), .m (mC (.str "A")), .m (mC (.str "a/b")), .m (mC (.str "a b")), .m (mC (.str "a1"))]))
  (sSeq (sSet 3 (mLst [.m (m2 oIx (.pk 1) (.m (mC (.int 1)))), .m (mC (.str "")), .m (mC (.str "/")), .m (mC (.str "//")), .m (mC (.str "a")), .m (mC (.str "/a/")), .m (mC (.str "/a//b")), .m (mC (.str "/a/b/c/d")), .m (mC (.str "/a/b/c/d/e")), .m (mC (.str "/abcdefgh")), .m (mC (.str "/abcdefghi")), .m (mC (.str "/A")), .m (mC (.str "/a.b"))]))
  (sSeq (sFor (srcM (mV 2)) (bName 4) (sSeq (sSet 5 (mTup [.m (mV 4), .m (m2 oIx (.pk 3) (.m (mCall f__law_draw [.io 0, .v (m1 oLen (.pk 3))]))), .m (m2 oIx (.pk 1) (.m (mC (.int 2))))]))
  (sIf (tOrS (tb (m2 oNe (.m (mCall f__law_fault [.v (mV 5)])) (.m (mCall f__law_due_fault [.v (mV 5)])))) (tb (m2 oNe (.m (mCall f__law_fault [.v (mTup [.m (mV 4), .m (mC (.str "/")), .m (mC (.bool true))])])) (.m (mCall f__law_due_fault [.v (mTup [.m (mV 4), .m (mC (.str "/")), .m (mC (.bool true))])]))))) (sRet (mC (.bool false))) (sNop))))
  (sSeq (sFor (srcM (mV 3)) (bName 6) (sSeq (sSet 5 (mTup [.m (m2 oIx (.pk 1) (.m (mC (.int 0)))), .m (mV 6), .m (m2 oIx (.pk 1) (.m (mC (.int 2))))]))
  (sIf (tb (m2 oNe (.m (mCall f__law_fault [.v (mV 5)])) (.m (mCall f__law_due_fault [.v (mV 5)])))) (sRet (mC (.bool false))) (sNop))))
  (sRet (mC (.bool true))))))
def f__law_faults_right : Fn := fBody 7 [0] s__law_faults_right
theorem sc__law_faults_right : FnScope N__law_faults_right ["feed", "note"] (defScope s_law_faults_right) := ⟨rfl, rfl, rfl, by decide +kernel, rfl, by decide +kernel, by decide +kernel⟩
theorem cal__law_faults_right (T : Txt K mg c_StoreError c_BadRing c_BadNote c_BadSeen) (F : FunAt K mg "_law_faults_right" s_law_faults_right) (C__law_draw : Cal P w K mg base "_law_draw" 1 2 [0] f__law_draw) (C__law_fault : Cal P w K mg base "_law_fault" 5 1 [] f__law_fault) (C__law_due_fault : Cal P w K mg base "_law_due_fault" 2 1 [] f__law_due_fault) : Cal P w K mg base "_law_faults_right" 6 2 [0] f__law_faults_right := by
  refine cal_mk (N := N__law_faults_right) (ps := ["feed", "note"]) (k := 5) F sc__law_faults_right rfl (fun _ _ _ _ _ _ us hl => match us, hl with | [_, _], _ => rfl) (fun f cdv A outer s0 H E hr => ?_)
  have nd := sc__law_faults_right.nd
  exact rs_cons (rs_set (i := 2) nd rfl (Or.inl rfl) (r_lst (os := [.m (m2 oIx (.pk 1) (.m (mC (.int 0)))), .m (mC (.str "")), .m (mC (.str ".")), .m (mC (.str "a.")), .m (mC (.str ".a")), .m (mC (.str "a..b")), .m (mC (.str "a.b.c.d")), .m (mC (.str "a.b.c.d.e")), .m (mC (.str "abcdefgh")), .m (mC (.str "abcdefghi")), .m (mC (.str "A")), .m (mC (.str "a/b")), .m (mC (.str "a b")), .m (mC (.str "a1"))]) (pa_cons (r_ix ix_seq sem_ix (pv 1) (r_int) (fun _ _ => rfl)) (pa_cons (r_str) (pa_cons (r_str) (pa_cons (r_str) (pa_cons (r_str) (pa_cons (r_str) (pa_cons (r_str) (pa_cons (r_str) (pa_cons (r_str) (pa_cons (r_str) (pa_cons (r_str) (pa_cons (r_str) (pa_cons (r_str) (pa_cons (r_str) (pa_nil))))))))))))))) (by decide)))
    (rs_cons (rs_set (i := 3) nd rfl (Or.inl rfl) (r_lst (os := [.m (m2 oIx (.pk 1) (.m (mC (.int 1)))), .m (mC (.str "")), .m (mC (.str "/")), .m (mC (.str "//")), .m (mC (.str "a")), .m (mC (.str "/a/")), .m (mC (.str "/a//b")), .m (mC (.str "/a/b/c/d")), .m (mC (.str "/a/b/c/d/e")), .m (mC (.str "/abcdefgh")), .m (mC (.str "/abcdefghi")), .m (mC (.str "/A")), .m (mC (.str "/a.b"))]) (pa_cons (r_ix ix_seq sem_ix (pv 1) (r_int) (fun _ _ => rfl)) (pa_cons (r_str) (pa_cons (r_str) (pa_cons (r_str) (pa_cons (r_str) (pa_cons (r_str) (pa_cons (r_str) (pa_cons (r_str) (pa_cons (r_str) (pa_cons (r_str) (pa_cons (r_str) (pa_cons (r_str) (pa_cons (r_str) (pa_nil)))))))))))))) (by decide)))
    (rs_cons (rs_for PassesOwn.never rfl (ri_m (r_v (pv 2))) (rg_name (i := 4) (sl := [4]) (by decide) nd rfl (Or.inl rfl)) (rs_cons (rs_set (i := 5) nd rfl (Or.inl rfl) (r_tup (os := [.m (mV 4), .m (m2 oIx (.pk 3) (.m (mCall f__law_draw [.io 0, .v (m1 oLen (.pk 3))]))), .m (m2 oIx (.pk 1) (.m (mC (.int 2))))]) (pa_cons (r_v (pv 4)) (pa_cons (r_ix ix_seq sem_ix (pv 3) (r_callC (args := [.io 0, .v (m1 oLen (.pk 3))]) C__law_draw hr (by omega) (pa_cons (pv 0) (pa_cons (r_frz (r_c1 call_len sem_len rfl T.b_len (by decide +kernel) (pv 3))) (pa_nil))) rfl rfl (by decide)) (fun _ _ => rfl)) (pa_cons (r_ix ix_seq sem_ix (pv 1) (r_int) (fun _ _ => rfl)) (pa_nil)))) (by decide)))
    (rs_one (rs_if (PW.pt (rt_or (rt_cmp (op_neA hr.units) sem_ne (r_callC (args := [.v (mV 5)]) C__law_fault hr (by omega) (pa_cons (r_frz (r_v (pv 5))) (pa_nil)) rfl rfl (by decide)) (r_callC (args := [.v (mV 5)]) C__law_due_fault hr (by omega) (pa_cons (r_frz (r_v (pv 5))) (pa_nil)) rfl rfl (by decide)) (nomark _)) (rt_or1 (rt_cmp (op_neA hr.units) sem_ne (r_callC (args := [.v (mTup [.m (mV 4), .m (mC (.str "/")), .m (mC (.bool true))])]) C__law_fault hr (by omega) (pa_cons (r_frz (r_tup (os := [.m (mV 4), .m (mC (.str "/")), .m (mC (.bool true))]) (pa_cons (r_v (pv 4)) (pa_cons (r_str) (pa_cons (r_bl) (pa_nil)))) (by decide))) (pa_nil)) rfl rfl (by decide)) (r_callC (args := [.v (mTup [.m (mV 4), .m (mC (.str "/")), .m (mC (.bool true))])]) C__law_due_fault hr (by omega) (pa_cons (r_frz (r_tup (os := [.m (mV 4), .m (mC (.str "/")), .m (mC (.bool true))]) (pa_cons (r_v (pv 4)) (pa_cons (r_str) (pa_cons (r_bl) (pa_nil)))) (by decide))) (pa_nil)) rfl rfl (by decide)) (nomark _))))) (rs_one (rs_ret (r_bl))) (rs_nil)))))
    (rs_cons (rs_for PassesOwn.never rfl (ri_m (r_v (pv 3))) (rg_name (i := 6) (sl := [6]) (by decide) nd rfl (Or.inl rfl)) (rs_cons (rs_set (i := 5) nd rfl (Or.inl rfl) (r_tup (os := [.m (m2 oIx (.pk 1) (.m (mC (.int 0)))), .m (mV 6), .m (m2 oIx (.pk 1) (.m (mC (.int 2))))]) (pa_cons (r_ix ix_seq sem_ix (pv 1) (r_int) (fun _ _ => rfl)) (pa_cons (r_v (pv 6)) (pa_cons (r_ix ix_seq sem_ix (pv 1) (r_int) (fun _ _ => rfl)) (pa_nil)))) (by decide)))
    (rs_one (rs_if (rt_cmp (op_neA hr.units) sem_ne (r_callC (args := [.v (mV 5)]) C__law_fault hr (by omega) (pa_cons (r_frz (r_v (pv 5))) (pa_nil)) rfl rfl (by decide)) (r_callC (args := [.v (mV 5)]) C__law_due_fault hr (by omega) (pa_cons (r_frz (r_v (pv 5))) (pa_nil)) rfl rfl (by decide)) (nomark _)) (rs_one (rs_ret (r_bl))) (rs_nil)))))
    (rs_one (rs_ret (r_bl))))))
abbrev slaw : Stmt := top 31
abbrev N_law : List Str := ["script", "feed", "notes", "note", "hosts", "paths", "near", "host", "path", "one", "turn", "k"]
def s_law : S := sSeq (sSet 1 (mCall f__law_feed [.sc 0]))
  (sSeq (sSet 2 (mComp (srcR1 (mCall f__law_draw [.io 1, .v (mC (.int 13))])) (bName 11) (tTrue) (frz (mCall f__law_note [.io 1])) [11]))
  (sSeq (sSet 3 (mCall f__law_note [.io 1]))
  (sSeq (sIf (tNotS (t1 (.m (mCall f__law_faults_right [.io 1, .v (mV 3)])))) (sRet (mC (.bool false))) (sNop))
  (sSeq (sSet 4 (mCall f__law_hosts [.io 1, .v (m2 oIx (.pk 3) (.m (mC (.int 0))))]))
  (sSeq (sSet 5 (mCall f__law_paths [.io 1, .v (m2 oIx (.pk 3) (.m (mC (.int 1))))]))
  (sSeq (sSet 6 (mLst [.m (mV 3), .m (mTup [.m (m2 oIx (.pk 3) (.m (mC (.int 0)))), .m (m2 oIx (.pk 3) (.m (mC (.int 1)))), .m (m1 oNot (.m (m2 oIx (.pk 3) (.m (mC (.int 2))))))])]))
  (sSeq (sSet 6 (m2 oAdd (.pk 6) (.m (mLst [.m (mTup [.m (m2 oIx (.pk 4) (.m (m2 oSub (.m (m1 oLen (.pk 4))) (.m (mC (.int 1)))))), .m (m2 oIx (.pk 3) (.m (mC (.int 1)))), .m (mC (.bool true))]), .m (mTup [.m (m2 oIx (.pk 3) (.m (mC (.int 0)))), .m (m2 oIx (.pk 5) (.m (m2 oSub (.m (m1 oLen (.pk 5))) (.m (mC (.int 1)))))), .m (m2 oIx (.pk 3) (.m (mC (.int 2))))])]))))
  (sSeq (sFor (srcM (mV 4)) (bName 7) (sSeq (sFor (srcM (mV 5)) (bName 8) (sFor (srcM (mV 6)) (bName 9) (sIf (tNotS (t1 (.m (mCall f__law_yes [.v (mCall f_is_sent [.v (mV 9), .v (mV 7), .v (mV 8)]), .v (mCall f__law_goes [.v (mV 9), .v (mV 7), .v (mV 8)])])))) (sRet (mC (.bool false))) (sNop))))
  (sIf (tNotS (t1 (.m (mCall f__law_sent_right [.v (m2 oAdd (.pk 6) (.m (mSlH (.pk 2) (.m (mC (.int 8)))))), .v (mV 7), .v (m2 oIx (.pk 5) (.m (mCall f__law_draw [.io 1, .v (m1 oLen (.pk 5))])))])))) (sRet (mC (.bool false))) (sNop))))
  (sSeq (sFor (srcR1 (mC (.int 3))) (bName 10) (sSeq (sSet 7 (mSM (mC (.str ".")) [(.m (mCall f__law_words [.io 1, .v (mC (.int 4))]))] oJoin))
  (sIf (tNotS (t1 (.m (mCall f__law_sent_right [.v (mV 2), .v (mV 7), .v (mCall f__law_path [.v (mCall f__law_words [.io 1, .v (mC (.int 4))])])])))) (sRet (mC (.bool false))) (sNop))))
  (sRet (mAnd (m2 oIs (.m (mCall f_is_sent [.v (mV 3), .v (m2 oIx (.pk 3) (.m (mC (.int 0)))), .v (m2 oIx (.pk 3) (.m (mC (.int 1))))])) (.m (mC (.bool true)))) (m2 oEq (.m (mCall f_sent_along [.v (mLst [.m (mV 3), .m (mV 3)]), .v (m2 oIx (.pk 3) (.m (mC (.int 0)))), .v (m2 oIx (.pk 3) (.m (mC (.int 1))))])) (.m (mLst [.m (mC (.int 0)), .m (mC (.int 1))]))))))))))))))
def f_law : Fn := fBody 12 [] s_law
theorem sc_law : FnScope N_law ["script"] (defScope slaw) := ⟨rfl, rfl, rfl, by decide +kernel, rfl, by decide +kernel, by decide +kernel⟩
theorem cal_law (T : Txt K mg c_StoreError c_BadRing c_BadNote c_BadSeen) {f : Addr} {fd : FuncData} (F : Fun K "law" "law" slaw f fd) (C__law_feed : Cal P w K mg base "_law_feed" 1 1 [] f__law_feed) (C__law_draw : Cal P w K mg base "_law_draw" 1 2 [0] f__law_draw) (C__law_note : Cal P w K mg base "_law_note" 4 1 [0] f__law_note) (C__law_faults_right : Cal P w K mg base "_law_faults_right" 6 2 [0] f__law_faults_right) (C__law_hosts : Cal P w K mg base "_law_hosts" 4 2 [0] f__law_hosts) (C__law_paths : Cal P w K mg base "_law_paths" 4 2 [0] f__law_paths) (C__law_yes : Cal P w K mg base "_law_yes" 1 2 [] f__law_yes) (C_is_sent : Cal P w K mg base "is_sent" 1 3 [] f_is_sent) (C__law_goes : Cal P w K mg base "_law_goes" 1 3 [] f__law_goes) (C__law_sent_right : Cal P w K mg base "_law_sent_right" 3 3 [] f__law_sent_right) (C__law_words : Cal P w K mg base "_law_words" 3 2 [0] f__law_words) (C__law_path : Cal P w K mg base "_law_path" 1 1 [] f__law_path) (C_sent_along : Cal P w K mg base "sent_along" 2 3 [] f_sent_along) : FnOk P w K mg base CX0 7 f fd ["script"] (spM K 1 [] f_law) := by
  refine law_mk (N := N_law) (ps := ["script"]) (k := 6) F sc_law rfl (fun f cdv A outer s0 H E hr => ?_)
  have nd := sc_law.nd
  exact rs_cons (rs_set (i := 1) nd rfl (Or.inr rfl) (r_callC (args := [.sc 0]) C__law_feed hr (by omega) (pa_cons (pv 0) (pa_nil)) rfl rfl (by decide)))
    (rs_cons (rs_setLc (own := [("k", 11)]) (sl := [11]) (i := 2) rfl nd rfl rfl (sw_true rfl rfl rfl (by decide +kernel)) (ri_r1 T.b_range (r_callC (args := [.io 1, .v (mC (.int 13))]) C__law_draw hr (by omega) (pa_cons (pv 1) (pa_cons (r_frz (r_int)) (pa_nil))) rfl rfl (by decide))) (blkOk_by (own := [("k", 11)]) (N := N_law) (sc := defScope slaw) (by decide +kernel)) (by decide) (fun _ _ _ _ _ => rg_name (i := 11) (sl := [11]) (by decide) nd rfl (Or.inl rfl)) (fun _ _ _ _ _ => pts0) (fun _ _ _ _ _ => r_frz (r_callC (args := [.io 1]) C__law_note hr (by omega) (pa_cons (pv 1) (pa_nil)) rfl rfl (by decide))))
    (rs_cons (rs_set (i := 3) nd rfl (Or.inl rfl) (r_callC (args := [.io 1]) C__law_note hr (by omega) (pa_cons (pv 1) (pa_nil)) rfl rfl (by decide)))
    (rs_cons (rs_if (rt_not (rt_val (r_callC (args := [.io 1, .v (mV 3)]) C__law_faults_right hr (by omega) (pa_cons (pv 1) (pa_cons (r_frz (r_v (pv 3))) (pa_nil))) rfl rfl (by decide)) (fun _ => rfl))) (rs_one (rs_ret (r_bl))) (rs_nil))
    (rs_cons (rs_set (i := 4) nd rfl (Or.inl rfl) (r_callC (args := [.io 1, .v (m2 oIx (.pk 3) (.m (mC (.int 0))))]) C__law_hosts hr (by omega) (pa_cons (pv 1) (pa_cons (r_frz (r_ix ix_seq sem_ix (pv 3) (r_int) (fun _ _ => rfl))) (pa_nil))) rfl rfl (by decide)))
    (rs_cons (rs_set (i := 5) nd rfl (Or.inl rfl) (r_callC (args := [.io 1, .v (m2 oIx (.pk 3) (.m (mC (.int 1))))]) C__law_paths hr (by omega) (pa_cons (pv 1) (pa_cons (r_frz (r_ix ix_seq sem_ix (pv 3) (r_int) (fun _ _ => rfl))) (pa_nil))) rfl rfl (by decide)))
    (rs_cons (rs_set (i := 6) nd rfl (Or.inl rfl) (r_lst (os := [.m (mV 3), .m (mTup [.m (m2 oIx (.pk 3) (.m (mC (.int 0)))), .m (m2 oIx (.pk 3) (.m (mC (.int 1)))), .m (m1 oNot (.m (m2 oIx (.pk 3) (.m (mC (.int 2))))))])]) (pa_cons (r_v (pv 3)) (pa_cons (r_tup (os := [.m (m2 oIx (.pk 3) (.m (mC (.int 0)))), .m (m2 oIx (.pk 3) (.m (mC (.int 1)))), .m (m1 oNot (.m (m2 oIx (.pk 3) (.m (mC (.int 2))))))]) (pa_cons (r_ix ix_seq sem_ix (pv 3) (r_int) (fun _ _ => rfl)) (pa_cons (r_ix ix_seq sem_ix (pv 3) (r_int) (fun _ _ => rfl)) (pa_cons (r_not (r_ix ix_seq sem_ix (pv 3) (r_int) (fun _ _ => rfl))) (pa_nil)))) (by decide)) (pa_nil))) (by decide)))
    (rs_cons (rs_set (i := 6) nd rfl (Or.inl rfl) (r_bin op_addA sem_add (pv 6) (r_lst (os := [.m (mTup [.m (m2 oIx (.pk 4) (.m (m2 oSub (.m (m1 oLen (.pk 4))) (.m (mC (.int 1)))))), .m (m2 oIx (.pk 3) (.m (mC (.int 1)))), .m (mC (.bool true))]), .m (mTup [.m (m2 oIx (.pk 3) (.m (mC (.int 0)))), .m (m2 oIx (.pk 5) (.m (m2 oSub (.m (m1 oLen (.pk 5))) (.m (mC (.int 1)))))), .m (m2 oIx (.pk 3) (.m (mC (.int 2))))])]) (pa_cons (r_tup (os := [.m (m2 oIx (.pk 4) (.m (m2 oSub (.m (m1 oLen (.pk 4))) (.m (mC (.int 1)))))), .m (m2 oIx (.pk 3) (.m (mC (.int 1)))), .m (mC (.bool true))]) (pa_cons (r_ix ix_seq sem_ix (pv 4) (r_bin op_sub sem_sub (r_c1 call_len sem_len rfl T.b_len (by decide +kernel) (pv 4)) (r_int)) (fun _ _ => rfl)) (pa_cons (r_ix ix_seq sem_ix (pv 3) (r_int) (fun _ _ => rfl)) (pa_cons (r_bl) (pa_nil)))) (by decide)) (pa_cons (r_tup (os := [.m (m2 oIx (.pk 3) (.m (mC (.int 0)))), .m (m2 oIx (.pk 5) (.m (m2 oSub (.m (m1 oLen (.pk 5))) (.m (mC (.int 1)))))), .m (m2 oIx (.pk 3) (.m (mC (.int 2))))]) (pa_cons (r_ix ix_seq sem_ix (pv 3) (r_int) (fun _ _ => rfl)) (pa_cons (r_ix ix_seq sem_ix (pv 5) (r_bin op_sub sem_sub (r_c1 call_len sem_len rfl T.b_len (by decide +kernel) (pv 5)) (r_int)) (fun _ _ => rfl)) (pa_cons (r_ix ix_seq sem_ix (pv 3) (r_int) (fun _ _ => rfl)) (pa_nil)))) (by decide)) (pa_nil))) (by decide))))
    (rs_cons (rs_for PassesOwn.never rfl (ri_m (r_v (pv 4))) (rg_name (i := 7) (sl := [7]) (by decide) nd rfl (Or.inl rfl)) (rs_cons (rs_for PassesOwn.never rfl (ri_m (r_v (pv 5))) (rg_name (i := 8) (sl := [8]) (by decide) nd rfl (Or.inl rfl)) (rs_one (rs_for PassesOwn.never rfl (ri_m (r_v (pv 6))) (rg_name (i := 9) (sl := [9]) (by decide) nd rfl (Or.inl rfl)) (rs_one (rs_if (rt_not (rt_val (r_callC (args := [.v (mCall f_is_sent [.v (mV 9), .v (mV 7), .v (mV 8)]), .v (mCall f__law_goes [.v (mV 9), .v (mV 7), .v (mV 8)])]) C__law_yes hr (by omega) (pa_cons (r_frz (r_callC (args := [.v (mV 9), .v (mV 7), .v (mV 8)]) C_is_sent hr (by omega) (pa_cons (r_frz (r_v (pv 9))) (pa_cons (r_frz (r_v (pv 7))) (pa_cons (r_frz (r_v (pv 8))) (pa_nil)))) rfl rfl (by decide))) (pa_cons (r_frz (r_callC (args := [.v (mV 9), .v (mV 7), .v (mV 8)]) C__law_goes hr (by omega) (pa_cons (r_frz (r_v (pv 9))) (pa_cons (r_frz (r_v (pv 7))) (pa_cons (r_frz (r_v (pv 8))) (pa_nil)))) rfl rfl (by decide))) (pa_nil))) rfl rfl (by decide)) (fun _ => rfl))) (rs_one (rs_ret (r_bl))) (rs_nil))))))
    (rs_one (rs_if (rt_not (rt_val (r_callC (args := [.v (m2 oAdd (.pk 6) (.m (mSlH (.pk 2) (.m (mC (.int 8)))))), .v (mV 7), .v (m2 oIx (.pk 5) (.m (mCall f__law_draw [.io 1, .v (m1 oLen (.pk 5))])))]) C__law_sent_right hr (by omega) (pa_cons (r_frz (r_bin op_addA sem_add (pv 6) (r_slH (pv 2) (r_int)))) (pa_cons (r_frz (r_v (pv 7))) (pa_cons (r_frz (r_ix ix_seq sem_ix (pv 5) (r_callC (args := [.io 1, .v (m1 oLen (.pk 5))]) C__law_draw hr (by omega) (pa_cons (pv 1) (pa_cons (r_frz (r_c1 call_len sem_len rfl T.b_len (by decide +kernel) (pv 5))) (pa_nil))) rfl rfl (by decide)) (fun _ _ => rfl))) (pa_nil)))) rfl rfl (by decide)) (fun _ => rfl))) (rs_one (rs_ret (r_bl))) (rs_nil)))))
    (rs_cons (rs_for PassesOwn.never rfl (ri_r1 T.b_range (r_int)) (rg_name (i := 10) (sl := [10]) (by decide) nd rfl (Or.inl rfl)) (rs_cons (rs_set (i := 7) nd rfl (Or.inl rfl) (r_sm (obs := [(.m (mCall f__law_words [.io 1, .v (mC (.int 4))]))]) PySem.F.slot_str_join PySem.F.type_str_join mt_join sem_join (r_str) (pa_cons ((r_callC (args := [.io 1, .v (mC (.int 4))]) C__law_words hr (by omega) (pa_cons (pv 1) (pa_cons (r_frz (r_int)) (pa_nil))) rfl rfl (by decide))) (pa_nil))))
    (rs_one (rs_if (rt_not (rt_val (r_callC (args := [.v (mV 2), .v (mV 7), .v (mCall f__law_path [.v (mCall f__law_words [.io 1, .v (mC (.int 4))])])]) C__law_sent_right hr (by omega) (pa_cons (r_frz (r_v (pv 2))) (pa_cons (r_frz (r_v (pv 7))) (pa_cons (r_frz (r_callC (args := [.v (mCall f__law_words [.io 1, .v (mC (.int 4))])]) C__law_path hr (by omega) (pa_cons (r_frz (r_callC (args := [.io 1, .v (mC (.int 4))]) C__law_words hr (by omega) (pa_cons (pv 1) (pa_cons (r_frz (r_int)) (pa_nil))) rfl rfl (by decide))) (pa_nil)) rfl rfl (by decide))) (pa_nil)))) rfl rfl (by decide)) (fun _ => rfl))) (rs_one (rs_ret (r_bl))) (rs_nil)))))
    (rs_one (rs_ret (r_and (r_cmp op_isC sem_is (r_callC (args := [.v (mV 3), .v (m2 oIx (.pk 3) (.m (mC (.int 0)))), .v (m2 oIx (.pk 3) (.m (mC (.int 1))))]) C_is_sent hr (by omega) (pa_cons (r_frz (r_v (pv 3))) (pa_cons (r_frz (r_ix ix_seq sem_ix (pv 3) (r_int) (fun _ _ => rfl))) (pa_cons (r_frz (r_ix ix_seq sem_ix (pv 3) (r_int) (fun _ _ => rfl))) (pa_nil)))) rfl rfl (by decide)) (r_bl) (nomark _)) (r_one (r_cmp (op_eqA hr.units) sem_eq (r_callC (args := [.v (mLst [.m (mV 3), .m (mV 3)]), .v (m2 oIx (.pk 3) (.m (mC (.int 0)))), .v (m2 oIx (.pk 3) (.m (mC (.int 1))))]) C_sent_along hr (by omega) (pa_cons (r_frz (r_lst (os := [.m (mV 3), .m (mV 3)]) (pa_cons (r_v (pv 3)) (pa_cons (r_v (pv 3)) (pa_nil))) (by decide))) (pa_cons (r_frz (r_ix ix_seq sem_ix (pv 3) (r_int) (fun _ _ => rfl))) (pa_cons (r_frz (r_ix ix_seq sem_ix (pv 3) (r_int) (fun _ _ => rfl))) (pa_nil)))) rfl rfl (by decide)) (r_lst (os := [.m (mC (.int 0)), .m (mC (.int 1))]) (pa_cons (r_int) (pa_cons (r_int) (pa_nil))) (by decide)) (nomark _)))))))))))))))
end
end K

namespace K
open PySem L2 RZ SE
/-- the feed -/
structure Feed (xs : List D) : Prop where
  h : ∃ (ns : List Int) (a : Nat) (b c : Int), xs = [.list (ns.map .int), .int a, .int b, .int c] ∧ 0 ≤ b ∧ 0 ≤ c ∧ c < 2147483647
theorem feed_ok (ns : List Int) : ∃ fs, f__law_feed [.scr ns] = .ok (.own fs, []) ∧ Feed fs :=
  ⟨_, rfl, ⟨ns, 0, 0, 1, rfl, by decide, by decide, by decide⟩⟩
theorem draw_ok {fs : List D} (h : Feed fs) (m : Int) (h1 : 0 < m) (h2 : m ≤ 1000000000000) :
    ∃ t gs, f__law_draw [.pin true fs, .val (.int m)] = .ok (.val (.int t), [gs]) ∧ 0 ≤ t ∧ t < m ∧ Feed gs := by
  obtain ⟨ns, a, b, c, rfl, hb, hc, hd⟩ := h
  have md : ∀ x : Int, 0 ≤ x % m ∧ x % m < m := fun x => ⟨Int.emod_nonneg _ (by omega), Int.emod_lt_of_pos _ h1⟩
  have r : ∀ x : Int, small (x % 2147483647) = true := fun x => small_of (by omega) (by omega)
  have fd : ∀ (a : Nat) (b c : Int), 0 ≤ b → 0 ≤ c → c < 2147483647 → Feed [.list (ns.map .int), .int a, .int b, .int c] := fun a b c h1 h2 h3 => ⟨ns, a, b, c, rfl, h1, h2, h3⟩
  have dv : ∀ x : Int, 0 < x → 0 ≤ x / m := fun x hx => Int.ediv_nonneg (by omega) (by omega)
  have q : ∀ x : Int, 0 ≤ x % 2147483647 ∧ x % 2147483647 < 2147483647 := fun x => by omega
  have ca : ((a : Int) + 1) = ((a + 1 : Nat) : Int) := by omega
  by_cases hb0 : b = 0
  · subst hb0
    by_cases ha : a < ns.length
    · have e1 : atI (List.map PyData.int ns) (a : Int) = some (.int ns[a]) := by rw [atI_n]; simp [ha]
      simp [f__law_draw, s__law_draw, ha, e1, h1, h2, r]
      generalize (if ns[a] < 0 then -ns[a] else ns[a]) = cell
      by_cases hbig : 1000000000000000000 ≤ cell
      · have hpos : 0 < cell := by omega
        simp [hbig, h1, h2, hpos]
        exact ⟨_, _, ⟨rfl, rfl⟩, (md _).1, (md _).2, by rw [ca]; exact fd _ _ _ (dv _ hpos) hc hd⟩
      · simp [hbig, h1, h2, r]
        exact ⟨_, _, ⟨rfl, rfl⟩, (md _).1, (md _).2, by rw [ca]; exact fd _ _ _ (by decide) (q _).1 (q _).2⟩
    · simp [f__law_draw, s__law_draw, ha, h1, h2, r]
      exact ⟨_, _, ⟨rfl, rfl⟩, (md _).1, (md _).2, fd _ _ _ (by decide) (q _).1 (q _).2⟩
  · have hpos : 0 < b := by omega
    simp [f__law_draw, s__law_draw, hb0, h1, h2, hpos]
    exact ⟨_, _, ⟨rfl, rfl⟩, (md _).1, (md _).2, fd _ _ _ (dv _ hpos) hc hd⟩
end K

namespace K
open PySem L2 RZ SE
open TL (tl mk_tl tl_mk tl_append ext_tl len_tl joinL)
/-! ### names -/
def abc : Str := "abcdefghijklmnopqrstuvwxyz"
def lt1 (c : Nat) : Bool := hasS ⟨#[c]⟩ abc
def okW (w : Str) : Bool := decide (1 ≤ w.length ∧ w.length ≤ 8) && (tl w).all lt1
def okNs (ws : List Str) : Bool := decide (1 ≤ ws.length ∧ ws.length ≤ 4) && ws.all okW
def dot (s : Str) : List Str := (sp 46 (tl s)).map mkS
def sla (s : Str) : List Str := (sp 47 (tl s)).map mkS
theorem tl_dot : tl (Str.ofString ".") = [46] := by decide +kernel
theorem tl_sla : tl (Str.ofString "/") = [47] := by decide +kernel
theorem split_dot (s : Str) : Txt.split s (Str.ofString ".") = dot s := split_sp tl_dot (by decide) s
theorem split_sla (s : Str) : Txt.split s (Str.ofString "/") = sla s := split_sp tl_sla (by decide) s
theorem chars_tl (z : Str) : chars z = (tl z).map fun c => PyData.str ⟨#[c]⟩ := rfl
theorem is_name_ok (w : Str) (hw : w.length ≤ 1000) : f_is_name [.val (.str w)] = .ok (.val (.bool (okW w)), []) := by
  have hl := len_tl w
  have hc : compL (bName 1) tTrue (m2 oInS (.pk 1) (.m (mC (.str "abcdefghijklmnopqrstuvwxyz")))) [1] (chars w) [] [.val (.str w), .un] = .ok ((tl w).map (fun c => PyData.bool (lt1 c)), [.val (.str w), .un]) := by
    rw [chars_tl]
    refine compL_mapT (fun c => PyData.str ⟨#[c]⟩) (fun c => PyData.bool (lt1 c)) _ _ (by omega) (fun c hc => ?_)
    exact ⟨[.val (.str w), .val (.str ⟨#[c]⟩)], [.val (.str w), .val (.str ⟨#[c]⟩)], [.val (.str w), .val (.str ⟨#[c]⟩)], by simp, rfl, rfl, rfl⟩
  have ha := e_all_map lt1 (tl w)
  have hsm : small (w.length : Int) = true := small_nat (by omega)
  have hz : w.length ≤ 16777216 := by omega
  unfold okW
  generalize (tl w).map (fun c => PyData.bool (lt1 c)) = Q at *
  generalize (tl w).all lt1 = b at *
  by_cases h1 : 1 ≤ w.length
  · have i1 : (1 : Int) ≤ (w.length : Int) := by omega
    by_cases h2 : w.length ≤ 8
    · have i2 : (w.length : Int) ≤ 8 := by omega
      simp -implicitDefEqProofs [f_is_name, s_is_name, hz, hsm, h1, h2, i1, i2, hc, ha]
    · have i2 : ¬ (w.length : Int) ≤ 8 := by omega
      simp -implicitDefEqProofs [f_is_name, s_is_name, hz, hsm, h1, h2, i1, i2]
  · have i1 : ¬ (1 : Int) ≤ (w.length : Int) := by omega
    simp -implicitDefEqProofs [f_is_name, s_is_name, hz, hsm, h1, i1]
theorem are_names_ok (ws : List Str) (hl : ws.length ≤ 1000) (hw : ∀ w, w ∈ ws → w.length ≤ 1000) : f_are_names [.val (.list (ws.map .str))] = .ok (.val (.bool (okNs ws)), []) := by
  have hc : compL (bName 1) tTrue (frz (mCall f_is_name [.v (mV 1)])) [1] (ws.map .str) [] [.val (.list (ws.map .str)), .un] = .ok (ws.map (fun w => PyData.bool (okW w)), [.val (.list (ws.map .str)), .un]) := by
    have key := compL_mapT (g := bName 1) (t := tTrue) (elt := frz (mCall f_is_name [.v (mV 1)])) (vs := [1]) PyData.str (fun w => PyData.bool (okW w)) ws [.val (.list (ws.map .str)), .un] (by omega) (fun w h => by
      have h1 := is_name_ok w (hw w h)
      generalize ws.map PyData.str = X
      exact ⟨[.val (.list X), .val (.str w)], [.val (.list X), .val (.str w)], [.val (.list X), .val (.str w)], by simp, rfl, by simp -implicitDefEqProofs [h1], rfl⟩)
    exact key
  have ha := e_all_map okW ws
  have hm : k_MOST_NAMES = .int 4 := rfl
  have hsm : small (ws.length : Int) = true := small_nat (by omega)
  have hln : (ws.map PyData.str).length = ws.length := List.length_map _
  unfold okNs
  generalize ws.map (fun w => PyData.bool (okW w)) = Q at *
  generalize ws.map PyData.str = X at *
  generalize ws.all okW = b at *
  by_cases h1 : 1 ≤ ws.length
  · have i1 : (1 : Int) ≤ (ws.length : Int) := by omega
    by_cases h2 : ws.length ≤ 4
    · have i2 : (ws.length : Int) ≤ 4 := by omega
      simp -implicitDefEqProofs [f_are_names, s_are_names, hm, hln, hsm, h1, h2, i1, i2, hc, ha]
    · have i2 : ¬ (ws.length : Int) ≤ 4 := by omega
      simp -implicitDefEqProofs [f_are_names, s_are_names, hm, hln, hsm, h1, h2, i1, i2]
  · have i1 : ¬ (1 : Int) ≤ (ws.length : Int) := by omega
    simp -implicitDefEqProofs [f_are_names, s_are_names, hm, hln, hsm, h1, i1]
/-! ### parts -/
theorem le_sumN : ∀ {l : List Nat} {x : Nat}, x ∈ l → x ≤ l.sum
  | y :: r, x, h => by
    rw [List.sum_cons]
    rcases List.mem_cons.mp h with rfl | h
    · omega
    · have := le_sumN h; omega
theorem sp_bound {c : Nat} {s : Str} {n : Nat} (h : s.length ≤ n) : ((sp c (tl s)).map mkS).length ≤ n + 1 ∧ ∀ w, w ∈ (sp c (tl s)).map mkS → w.length ≤ n := by
  have hl := len_tl s
  refine ⟨?_, fun w hw => ?_⟩
  · rw [List.length_map]
    have := sp_len c (tl s)
    omega
  · obtain ⟨l, h1, rfl⟩ := List.mem_map.mp hw
    rw [len_mkS]
    have h2 := sp_tot c (tl s)
    have h3 : l.length ≤ ((sp c (tl s)).map List.length).sum := le_sumN (List.mem_map.mpr ⟨l, h1, rfl⟩)
    omega
theorem dot_bound {s : Str} {n : Nat} (h : s.length ≤ n) : (dot s).length ≤ n + 1 ∧ ∀ w, w ∈ dot s → w.length ≤ n := sp_bound h
theorem sla_bound {s : Str} {n : Nat} (h : s.length ≤ n) : (sla s).length ≤ n + 1 ∧ ∀ w, w ∈ sla s → w.length ≤ n := sp_bound h
theorem dot_pos (s : Str) : 1 ≤ (dot s).length := by
  unfold dot
  rw [List.length_map]
  exact List.length_pos_iff.mpr (sp_ne 46 _)
theorem sla_pos (s : Str) : 1 ≤ (sla s).length := by
  unfold sla
  rw [List.length_map]
  exact List.length_pos_iff.mpr (sp_ne 47 _)
def okP (p : Str) : Bool := (p == Str.ofString "/") || ((cutS p none (some 1) == Str.ofString "/") && okNs (sla (cutS p (some 1) none)))
theorem is_path_ok (p : Str) (hp : p.length ≤ 900) : f_is_path [.val (.str p)] = .ok (.val (.bool (okP p)), []) := by
  have hz : p.length ≤ 16777216 := by omega
  have hc : (cutS p (some 1) none).length ≤ p.length := cutS_length p _ _
  have hb := sla_bound (s := cutS p (some 1) none) (n := 900) (by omega)
  have h1 := are_names_ok (sla (cutS p (some 1) none)) (by omega) (fun w hw => by have := hb.2 w hw; omega)
  have hs := split_sla (cutS p (some 1) none)
  have hz2 : (cutS p (some 1) none).length + 2 ≤ 16777216 := by omega
  have hy : ((Str.ofString "/").length == 0) = false := by decide +kernel
  have hg := e_gSplit hy hz2
  rw [hs] at hg
  unfold okP
  generalize okNs (sla (cutS p (some 1) none)) = b at *
  generalize (sla (cutS p (some 1) none)).map PyData.str = X at *
  by_cases e1 : p = Str.ofString "/"
  · simp -implicitDefEqProofs [f_is_path, s_is_path, hz, e1]
  · by_cases e2 : cutS p none (some 1) = Str.ofString "/"
    · simp -implicitDefEqProofs [f_is_path, s_is_path, hz, e1, e2, hg, h1]
    · have f1 : (p == Str.ofString "/") = false := by simpa using e1
      have f2 : (cutS p none (some 1) == Str.ofString "/") = false := by simpa using e2
      simp -implicitDefEqProofs [f_is_path, s_is_path, hz, e1, e2, f1, f2]
/-- what a note is: its host, its path, whether whole -/
abbrev nD (n : Str × Str × Bool) : D := .tuple [.str n.1, .str n.2.1, .bool n.2.2]
def noteO (h p : Str) : Option Int := if okNs (dot h) = true then if okP p = true then none else some 1 else some 0
theorem e_raise {c : Str} {names : List Str} {os : List Opd} {env : List O} : sRaise c names os env = ofRes (pass os env) fun p => (match allV p.1 with
  | some ds => if ds.length = names.length then .exc ⟨c, (names.zip ds).reverse⟩ p.2 else .stuck
  | none => .stuck) := rfl
def ckR : Option Int → Res (O × List (List D))
  | some k => .exc ⟨"BadNote", [("at", .int k)]⟩
  | none => .ok (.val .none, [])
theorem gS_dot {s : Str} (h : s.length ≤ 900) : gSplit s (Str.ofString ".") = .ok (.own ((dot s).map .str)) := by
  rw [e_gSplit (by decide +kernel) (by omega), split_dot]
theorem gS_sla {s : Str} (h : s.length ≤ 900) : gSplit s (Str.ofString "/") = .ok (.own ((sla s).map .str)) := by
  rw [e_gSplit (by decide +kernel) (by omega), split_sla]
theorem check_ok (h p : Str) (b : Bool) (hh : h.length ≤ 900) (hp : p.length ≤ 900) : f_check_note [.val (nD (h, p, b))] = ckR (noteO h p) := by
  have hd := dot_bound (s := h) (n := 900) hh
  have h1 := are_names_ok (dot h) (by omega) (fun w hw => by have := hd.2 w hw; omega)
  have h2 := is_path_ok p hp
  have hg := gS_dot hh
  unfold noteO
  generalize okNs (dot h) = b1 at *
  generalize okP p = b2 at *
  generalize (dot h).map PyData.str = X at *
  cases b1 <;> cases b2 <;> simp -implicitDefEqProofs [f_check_note, s_check_note, ckR, hg, h1, h2, e_raise]
abbrev _law_is_names_b1 : S := (sIf (tb (m2 oNotInS (.pk 4) (.m (mC (.str "abcdefghijklmnopqrstuvwxyz"))))) (sRet (mC (.bool false))) (sNop))
abbrev _law_is_names_b0 : S := (sSeq (sIf (tOrS (tb (m2 oLt (.m (m1 oLen (.pk 3))) (.m (mC (.int 1))))) (tb (m2 oGt (.m (m1 oLen (.pk 3))) (.m (mC (.int 8)))))) (sRet (mC (.bool false))) (sNop)) (sFor (srcM (mV 3)) (bName 4) _law_is_names_b1))
theorem _law_is_names_cut : s__law_is_names = (sSeq (sSet 2 (mSM (mV 0) [(.pk 1)] oSplit))
  (sSeq (sIf (tb (m2 oGt (.m (m1 oLen (.pk 2))) (.m (mC (.int 4))))) (sRet (mC (.bool false))) (sNop))
  (sSeq (sFor (srcM (mV 2)) (bName 3) _law_is_names_b0)
  (sRet (mC (.bool true)))))) := rfl
def badC : D → Bool
  | .str z => !hasS z abc
  | _ => false
def badW : D → Bool
  | .str z => !okW z
  | _ => false
/-- one name of the law's loop -/
theorem names_step (x0 x1 : O) (x2 : O) (w : Str) (hw : w.length ≤ 900) (x4 : O) (p4 : x4.pinned = false) :
    if okW w = true then ∃ y4, _law_is_names_b0 [x0, x1, x2, .val (.str w), x4] = .next [x0, x1, x2, .val (.str w), y4] ∧ y4.pinned = false else ∃ e2, _law_is_names_b0 [x0, x1, x2, .val (.str w), x4] = .ret (.val (.bool false)) e2 := by
  have hsm : small (w.length : Int) = true := small_nat (by omega)
  have hz : w.length ≤ 16777216 := by omega
  have hany := forL_any (g := bName 4) (body := _law_is_names_b1) (fun e => ∃ y4, e = [x0, x1, x2, .val (.str w), y4] ∧ y4.pinned = false) badC (.val (.bool false)) (chars w) [x0, x1, x2, .val (.str w), x4] ⟨_, rfl, p4⟩ (fun d hd e he => by
    obtain ⟨y4, rfl, q4⟩ := he
    rw [chars_tl] at hd
    obtain ⟨c, hc, rfl⟩ := List.mem_map.mp hd
    refine ⟨[x0, x1, x2, .val (.str w), .val (.str ⟨#[c]⟩)], by simp [q4], ?_⟩
    have e1 : hasS ⟨#[c]⟩ abc = lt1 c := rfl
    have e2 : oNotInS (.val (.str ⟨#[c]⟩)) (.val (.str "abcdefghijklmnopqrstuvwxyz")) = .ok (.val (.bool (!lt1 c))) := rfl
    simp only [badC, e1]
    cases hl : lt1 c
    · rw [hl] at e2
      rw [if_pos (by rfl)]
      exact ⟨[x0, x1, x2, .val (.str w), .val (.str ⟨#[c]⟩)], by simp -implicitDefEqProofs [e2]⟩
    · rw [hl] at e2
      rw [if_neg (by decide)]
      have st : _law_is_names_b1 [x0, x1, x2, .val (.str w), .val (.str ⟨#[c]⟩)] = .next [x0, x1, x2, .val (.str w), .val (.str ⟨#[c]⟩)] := by simp -implicitDefEqProofs [e2]
      rw [st]
      exact ⟨_, rfl, rfl⟩)
  have hany2 : ((chars w).any badC) = !(tl w).all lt1 := by
    rw [chars_tl, List.any_map]
    show ((tl w).any fun c => !lt1 c) = _
    induction tl w with
    | nil => rfl
    | cons x r ih => rw [List.any_cons, List.all_cons, ih, Bool.not_and]
  rw [hany2] at hany
  unfold okW
  by_cases h1 : 1 ≤ w.length
  · have i1 : ¬ (w.length : Int) < 1 := by omega
    by_cases h2 : w.length ≤ 8
    · have i2 : ¬ (8 : Int) < (w.length : Int) := by omega
      cases ha : (tl w).all lt1
      · rw [ha, if_pos (by rfl)] at hany
        obtain ⟨e', hany⟩ := hany
        rw [if_neg (by simp)]
        refine ⟨e', ?_⟩
        simp -implicitDefEqProofs [hz, hsm, h1, h2, i1, i2, hany]
      · rw [ha, if_neg (by decide)] at hany
        obtain ⟨e', hany, y4, rfl, q4⟩ := hany
        rw [if_pos (by simp [h1, h2])]
        refine ⟨y4, ?_, q4⟩
        simp -implicitDefEqProofs [hz, hsm, h1, h2, i1, i2, hany]
    · have i2 : (8 : Int) < (w.length : Int) := by omega
      rw [if_neg (by simp [h2])]
      exact ⟨[x0, x1, x2, .val (.str w), x4], by simp -implicitDefEqProofs [hz, hsm, h1, h2, i1, i2]⟩
  · have i1 : (w.length : Int) < 1 := by omega
    rw [if_neg (by simp [h1])]
    exact ⟨[x0, x1, x2, .val (.str w), x4], by simp -implicitDefEqProofs [hz, hsm, h1, i1]⟩
theorem any_not {α : Type} (f : α → Bool) : ∀ ws : List α, (ws.any fun w => !f w) = !ws.all f
  | [] => rfl
  | x :: r => by rw [List.any_cons, List.all_cons, Bool.not_and, any_not f r]
theorem names_ok (t : Str) (y : Str) (ws : List Str) (hw : ∀ w, w ∈ ws → w.length ≤ 900) (h1 : 1 ≤ ws.length) (hl : ws.length ≤ 1000) (hg : gSplit t y = .ok (.own (ws.map .str))) : f__law_is_names [.val (.str t), .val (.str y)] = .ok (.val (.bool (okNs ws)), []) := by
  have hln : (ws.map PyData.str).length = ws.length := List.length_map _
  have hsm : small (ws.length : Int) = true := small_nat (by omega)
  rw [show f__law_is_names = fBody 5 [] s__law_is_names from rfl, _law_is_names_cut]
  by_cases h4 : ws.length ≤ 4
  · have i4 : ¬ (4 : Int) < (ws.length : Int) := by omega
    have hany := forL_any (g := bName 3) (body := _law_is_names_b0) (fun e => ∃ y3 y4, e = [.val (.str t), .val (.str y), .val (.list (ws.map .str)), y3, y4] ∧ y3.pinned = false ∧ y4.pinned = false) badW (.val (.bool false)) (ws.map .str) [.val (.str t), .val (.str y), .val (.list (ws.map .str)), .un, .un] ⟨_, _, rfl, rfl, rfl⟩ (fun d hd e he => by
      obtain ⟨y3, y4, rfl, q3, q4⟩ := he
      obtain ⟨w, hwm, rfl⟩ := List.mem_map.mp hd
      refine ⟨[.val (.str t), .val (.str y), .val (.list (ws.map .str)), .val (.str w), y4], by
        generalize ws.map PyData.str = X
        simp [q3], ?_⟩
      have st := names_step (.val (.str t)) (.val (.str y)) (.val (.list (ws.map .str))) w (hw w hwm) y4 q4
      cases ho : okW w
      · rw [if_pos (by simp [badW, ho])]
        rw [ho, if_neg (by decide)] at st
        exact st
      · rw [if_neg (by simp [badW, ho])]
        rw [ho, if_pos rfl] at st
        obtain ⟨z4, st, r4⟩ := st
        rw [st]
        exact ⟨_, _, rfl, rfl, r4⟩)
    have hany2 : ((ws.map PyData.str).any badW) = !ws.all okW := by
      rw [List.any_map]
      show (ws.any fun w => !okW w) = _
      exact (any_not okW ws)
    rw [hany2] at hany
    have ho : okNs ws = ws.all okW := by unfold okNs; simp [h4, h1]
    rw [ho]
    generalize ws.map PyData.str = X at *
    generalize _law_is_names_b0 = b0 at *
    cases ha : ws.all okW
    · rw [ha, if_pos (by rfl)] at hany
      obtain ⟨e', hany⟩ := hany
      simp -implicitDefEqProofs [hg, hln, hsm, i4, hany]
    · rw [ha, if_neg (by decide)] at hany
      obtain ⟨e', hany, y3, y4, rfl, q3, q4⟩ := hany
      simp -implicitDefEqProofs [hg, hln, hsm, i4, hany]
  · have i4 : (4 : Int) < (ws.length : Int) := by omega
    have : okNs ws = false := by unfold okNs; simp [h4]
    rw [this]
    generalize ws.map PyData.str = X at *
    generalize _law_is_names_b0 = b0 at *
    simp -implicitDefEqProofs [hg, hln, hsm, i4]
theorem due_ok (h p : Str) (b : Bool) (hh : h.length ≤ 900) (hp : p.length ≤ 900) : f__law_due_fault [.val (nD (h, p, b))] = .ok (.own (match noteO h p with | some k => [.str "refused", .int k] | none => [.str "let", .none]), []) := by
  have hd := dot_bound (s := h) (n := 900) hh
  have h1 := names_ok h (Str.ofString ".") (dot h) hd.2 (dot_pos h) (by omega) (gS_dot hh)
  have hc : (cutS p (some 1) none).length ≤ p.length := cutS_length p _ _
  have hb := sla_bound (s := cutS p (some 1) none) (n := 900) (by omega)
  have h2 := names_ok (cutS p (some 1) none) (Str.ofString "/") (sla (cutS p (some 1) none)) hb.2 (sla_pos _) (by omega) (gS_sla (by omega))
  have hz : p.length ≤ 16777216 := by omega
  unfold noteO okP
  cases b1 : okNs (dot h)
  · rw [b1] at h1
    simp -implicitDefEqProofs [f__law_due_fault, s__law_due_fault, h1]
  · rw [b1] at h1
    by_cases e1 : p = Str.ofString "/"
    · simp -implicitDefEqProofs [f__law_due_fault, s__law_due_fault, h1, hz, e1]
    · have f1 : (p == Str.ofString "/") = false := by simpa using e1
      by_cases e2 : cutS p none (some 1) = Str.ofString "/"
      · have f2 : (cutS p none (some 1) == Str.ofString "/") = true := by simpa using e2
        cases b2 : okNs (sla (cutS p (some 1) none)) <;> rw [b2] at h2 <;> simp -implicitDefEqProofs [f__law_due_fault, s__law_due_fault, h1, hz, e1, e2, f1, f2, h2]
      · have f2 : (cutS p none (some 1) == Str.ofString "/") = false := by simpa using e2
        simp -implicitDefEqProofs [f__law_due_fault, s__law_due_fault, h1, hz, e1, e2, f1, f2]
theorem lwhole (i : Int) : f__law_whole [.val (.int i)] = .ok (.val (.bool true), []) := by
  simp [f__law_whole, s__law_whole]
theorem fault_ok (h p : Str) (b : Bool) (hh : h.length ≤ 900) (hp : p.length ≤ 900) : f__law_fault [.val (nD (h, p, b))] = .ok (.own (match noteO h p with | some k => [.str "refused", .int k] | none => [.str "let", .none]), []) := by
  have hc := check_ok h p b hh hp
  have hw := fun k => lwhole k
  generalize nD (h, p, b) = X at *
  cases q : noteO h p with
  | none =>
    rw [q] at hc
    simp only [ckR] at *
    simp -implicitDefEqProofs [f__law_fault, s__law_fault, sTry, sSetX, callX, hc]
  | some k =>
    rw [q] at hc
    simp only [ckR] at *
    simp -implicitDefEqProofs [f__law_fault, s__law_fault, sTry, sSetX, callX, hc, endX, chkX, mIsE, mFld, O.isX, hw]
end K

namespace K
open PySem L2 RZ SE
open TL (tl mk_tl tl_mk tl_append ext_tl len_tl joinL)
/-! ### where a note is sent -/
def hostB (h : Str) (b : Bool) (host : Str) : Bool := (host == h) || (b && Txt.endswith host (Str.ofString "." ++ h))
def pathB (p path : Str) : Bool := (path == p) || ((p == Str.ofString "/") || Txt.startswith path (p ++ Str.ofString "/"))
def sentB (h p : Str) (b : Bool) (host path : Str) : Bool := hostB h b host && pathB p path
theorem is_sent_ok (h p host path : Str) (b : Bool) (hh : h.length ≤ 900) (hp : p.length ≤ 900) : f_is_sent [.val (nD (h, p, b)), .val (.str host), .val (.str path)] = .ok (.val (.bool (sentB h p b host path)), []) := by
  have l1 : (Str.ofString ".").length = 1 := by decide +kernel
  have l2 : (Str.ofString "/").length = 1 := by decide +kernel
  have z1 : 1 + h.length ≤ 16777216 := by omega
  have z2 : p.length ≤ 16777215 := by omega
  have f : ∀ x y : Str, (x == y) = decide (x = y) := fun x y => by rw [Bool.eq_iff_iff]; simp
  unfold sentB hostB pathB
  cases e0 : Txt.startswith path (p ++ Str.ofString "/") <;> cases b <;> cases e1 : Txt.endswith host (Str.ofString "." ++ h) <;> by_cases e2 : host = h <;> by_cases e3 : path = p <;> by_cases e4 : p = Str.ofString "/" <;> simp -implicitDefEqProofs [f_is_sent, s_is_sent, nD, l1, l2, z1, z2, e0, e1, e2, e3, e4, f]
theorem joinL_app (c : Nat) : ∀ {u v : List (List Nat)}, u ≠ [] → v ≠ [] → joinL [c] (u ++ v) = joinL [c] u ++ c :: joinL [c] v
  | [], _, h, _ => absurd rfl h
  | [w], v, _, h => joinL_cons2 c w h
  | w :: x :: u, v, _, h => by
    rw [List.cons_append, joinL_cons2 c w (by simp), joinL_app c (by simp) h, joinL_cons2 c w (by simp), List.append_assoc]
    rfl
theorem map_mkS_inj {a b : List (List Nat)} (h : a.map mkS = b.map mkS) : a = b := by
  have := congrArg (List.map tl) h
  rw [List.map_map, List.map_map, show (tl ∘ mkS : List Nat → List Nat) = id from funext fun l => tl_mk l, List.map_id, List.map_id] at this
  exact this
theorem host_suffix (h host : Str) : ((dot h).length ≤ (dot host).length ∧ (dot host).drop ((dot host).length - (dot h).length) = dot h) ↔ (host = h ∨ Txt.endswith host (Str.ofString "." ++ h) = true) := by
  rw [ends_iff, tl_append, tl_dot]
  unfold dot
  rw [List.length_map, List.length_map, ← List.map_drop]
  constructor
  · rintro ⟨h1, h2⟩
    have h3 := map_mkS_inj h2
    have h4 := List.take_append_drop ((sp 46 (tl host)).length - (sp 46 (tl h)).length) (sp 46 (tl host))
    rw [h3] at h4
    by_cases hu : (sp 46 (tl host)).take ((sp 46 (tl host)).length - (sp 46 (tl h)).length) = []
    · rw [hu, List.nil_append] at h4
      exact .inl (ext_tl (sp_inj h4.symm))
    · right
      refine ⟨joinL [46] ((sp 46 (tl host)).take ((sp 46 (tl host)).length - (sp 46 (tl h)).length)), ?_⟩
      have := join_sp 46 (tl host)
      rw [← h4, joinL_app 46 hu (sp_ne 46 _), join_sp] at this
      exact this.symm
  · rintro (rfl | ⟨u, hu⟩)
    · simp
    · rw [hu, show u ++ ([46] ++ tl h) = u ++ 46 :: tl h from rfl, sp_app]
      refine ⟨by rw [List.length_append]; omega, ?_⟩
      rw [List.length_append, Nat.add_sub_cancel, List.drop_left]
theorem host_len {h host : Str} (hs : (dot host).drop ((dot host).length - (dot h).length) = dot h) (he : (dot host).length = (dot h).length) : host = h := by
  rw [he, Nat.sub_self, List.drop_zero] at hs
  unfold dot at hs
  exact ext_tl (sp_inj (map_mkS_inj hs))
theorem host_long {h host : Str} (he : Txt.endswith host (Str.ofString "." ++ h) = true) : (dot h).length < (dot host).length := by
  rw [ends_iff, tl_append, tl_dot] at he
  obtain ⟨u, hu⟩ := he
  unfold dot
  rw [List.length_map, List.length_map, hu, show u ++ ([46] ++ tl h) = u ++ 46 :: tl h from rfl, sp_app, List.length_append]
  have := List.length_pos_iff.mpr (sp_ne 46 u)
  omega
theorem path_prefix (p path : Str) : (sla path).take (sla p).length = sla p ↔ (path = p ∨ Txt.startswith path (p ++ Str.ofString "/") = true) := by
  rw [starts_iff, tl_append, tl_sla]
  unfold sla
  rw [List.length_map, ← List.map_take]
  constructor
  · intro h2
    have h3 := map_mkS_inj h2
    have h4 := List.take_append_drop (sp 47 (tl p)).length (sp 47 (tl path))
    rw [h3] at h4
    by_cases hu : (sp 47 (tl path)).drop (sp 47 (tl p)).length = []
    · rw [hu, List.append_nil] at h4
      exact .inl (ext_tl (sp_inj h4.symm))
    · right
      refine ⟨joinL [47] ((sp 47 (tl path)).drop (sp 47 (tl p)).length), ?_⟩
      have := join_sp 47 (tl path)
      rw [← h4, joinL_app 47 (sp_ne 47 _) hu, join_sp] at this
      rw [List.append_assoc]
      exact this.symm
  · rintro (rfl | ⟨v, hv⟩)
    · simp
    · rw [hv, show tl p ++ [47] ++ v = tl p ++ 47 :: v by rw [List.append_assoc]; rfl, sp_app, List.take_left]
theorem dot_strOk {s : Str} (h : PyData.strOk s = true) : ∀ w, w ∈ dot s → PyData.strOk w = true := fun w hw => by
  obtain ⟨l, hl, rfl⟩ := List.mem_map.mp hw
  rw [strOk_tl, tl_mk]
  exact fun c hc => (strOk_tl s).mp h c (sp_mem hl hc)
theorem sla_strOk {s : Str} (h : PyData.strOk s = true) : ∀ w, w ∈ sla s → PyData.strOk w = true := fun w hw => by
  obtain ⟨l, hl, rfl⟩ := List.mem_map.mp hw
  rw [strOk_tl, tl_mk]
  exact fun c hc => (strOk_tl s).mp h c (sp_mem hl hc)
/-- a text of the law -/
structure TX (n : Nat) (s : Str) : Prop where
  l : s.length ≤ n
  k : PyData.strOk s = true
theorem goes_ok (h p host path : Str) (b : Bool) (th : TX 900 h) (tp : TX 900 p) (tho : TX 900 host) (tpa : TX 900 path) : f__law_goes [.val (nD (h, p, b)), .val (.str host), .val (.str path)] = .ok (.val (.bool (sentB h p b host path)), []) := by
  have g1 := gS_dot th.l
  have g2 := gS_dot tho.l
  have g3 := gS_sla tp.l
  have g4 := gS_sla tpa.l
  have l1 := dot_bound th.l
  have l2 := dot_bound tho.l
  have l3 := sla_bound tp.l
  have l4 := sla_bound tpa.l
  have s1 : small ((dot h).length : Int) = true := small_nat (by omega)
  have s2 : small ((dot host).length : Int) = true := small_nat (by omega)
  have s3 : small ((sla p).length : Int) = true := small_nat (by omega)
  have f : ∀ x y : Str, (x == y) = decide (x = y) := fun x y => by rw [Bool.eq_iff_iff]; simp
  have hs := host_suffix h host
  have hp := path_prefix p path
  have hle := @host_len h host
  have hlo := @host_long h host
  have q1 := eq_strs (xs := (dot host).drop ((dot host).length - (dot h).length)) (ys := dot h) (fun x hx => dot_strOk tho.k x (List.mem_of_mem_drop hx)) (dot_strOk th.k)
  have q2 := eq_strs (xs := (sla path).take (sla p).length) (ys := sla p) (fun x hx => sla_strOk tpa.k x (List.mem_of_mem_take hx)) (sla_strOk tp.k)
  have n1 : ((dot h).map PyData.str).length = (dot h).length := List.length_map _
  have n2 : ((dot host).map PyData.str).length = (dot host).length := List.length_map _
  have n3 : ((sla p).map PyData.str).length = (sla p).length := List.length_map _
  have pb : pathB p path = (decide (p = Str.ofString "/") || decide ((sla path).take (sla p).length = sla p)) := by
    unfold pathB
    rw [f, f, Bool.eq_iff_iff]
    simp only [Bool.or_eq_true, decide_eq_true_eq]
    rw [hp]
    constructor
    · rintro (h | h | h)
      · exact .inr (.inl h)
      · exact .inl h
      · exact .inr (.inr h)
    · rintro (h | h | h)
      · exact .inr (.inl h)
      · exact .inl h
      · exact .inr (.inr h)
  unfold sentB
  rw [pb]
  by_cases hlt : (dot host).length < (dot h).length
  · have hb : hostB h b host = false := by
      unfold hostB
      rw [Bool.eq_false_iff]
      intro z
      have : host = h ∨ Txt.endswith host (Str.ofString "." ++ h) = true := by
        simp only [Bool.or_eq_true, Bool.and_eq_true, beq_iff_eq] at z
        rcases z with z | z
        · exact .inl z
        · exact .inr z.2
      have := hs.mpr this
      omega
    have i1 : ((dot host).length : Int) < ((dot h).length : Int) := by omega
    rw [hb]
    generalize (dot h).map PyData.str = X1 at *
    generalize (dot host).map PyData.str = X2 at *
    simp -implicitDefEqProofs [f__law_goes, s__law_goes, nD, g1, g2, n1, n2, s1, s2, i1]
  · have i1 : ¬ ((dot host).length : Int) < ((dot h).length : Int) := by omega
    have ct : cutD ((dot host).map PyData.str) (some (((dot host).length : Int) - ((dot h).length : Int))) none = ((dot host).drop ((dot host).length - (dot h).length)).map PyData.str := by
      rw [show ((dot host).length : Int) - ((dot h).length : Int) = (((dot host).length - (dot h).length : Nat) : Int) by omega, cut_lo, List.map_drop]
    have ct2 : cutD ((sla path).map PyData.str) none (some ((sla p).length : Int)) = ((sla path).take (sla p).length).map PyData.str := by
      rw [cut_hi, List.map_take]
    have sd : small (((dot host).length : Int) - ((dot h).length : Int)) = true := small_of (by omega) (by omega)
    by_cases hsu : (dot host).drop ((dot host).length - (dot h).length) = dot h
    · by_cases hgt : (dot h).length < (dot host).length
      · have i2 : ((dot h).length : Int) < ((dot host).length : Int) := by omega
        have hb : hostB h b host = b := by
          have he : Txt.endswith host (Str.ofString "." ++ h) = true := by
            rcases hs.mp ⟨by omega, hsu⟩ with z | z
            · subst z; omega
            · exact z
          have hne : ¬ host = h := fun z => by subst z; omega
          unfold hostB
          rw [he, f, decide_eq_false hne]
          simp
        rw [hb]
        rw [decide_eq_true hsu] at q1
        generalize decide ((sla path).take (sla p).length = sla p) = b2 at *
        generalize ((dot host).drop ((dot host).length - (dot h).length)).map PyData.str = X6 at *
        generalize ((sla path).take (sla p).length).map PyData.str = X5 at *
        generalize (dot h).map PyData.str = X1 at *
        generalize (dot host).map PyData.str = X2 at *
        generalize (sla p).map PyData.str = X3 at *
        generalize (sla path).map PyData.str = X4 at *
        cases b
        · simp -implicitDefEqProofs [f__law_goes, s__law_goes, nD, g1, g2, n1, n2, s1, s2, i1, i2, ct, sd, q1]
        · by_cases e4 : p = Str.ofString "/"
          · simp -implicitDefEqProofs [f__law_goes, s__law_goes, nD, g1, g2, n1, n2, s1, s2, i1, i2, ct, sd, q1, e4]
          · simp -implicitDefEqProofs [f__law_goes, s__law_goes, nD, g1, g2, g3, g4, n1, n2, n3, s1, s2, s3, i1, i2, ct, ct2, sd, q1, q2, e4]
      · have i2 : ¬ ((dot h).length : Int) < ((dot host).length : Int) := by omega
        have hb : hostB h b host = true := by
          have := hle hsu (by omega)
          unfold hostB
          rw [f, decide_eq_true this]
          rfl
        rw [hb]
        rw [decide_eq_true hsu] at q1
        generalize decide ((sla path).take (sla p).length = sla p) = b2 at *
        generalize ((dot host).drop ((dot host).length - (dot h).length)).map PyData.str = X6 at *
        generalize ((sla path).take (sla p).length).map PyData.str = X5 at *
        generalize (dot h).map PyData.str = X1 at *
        generalize (dot host).map PyData.str = X2 at *
        generalize (sla p).map PyData.str = X3 at *
        generalize (sla path).map PyData.str = X4 at *
        by_cases e4 : p = Str.ofString "/"
        · simp -implicitDefEqProofs [f__law_goes, s__law_goes, nD, g1, g2, n1, n2, s1, s2, i1, i2, ct, sd, q1, e4]
        · simp -implicitDefEqProofs [f__law_goes, s__law_goes, nD, g1, g2, g3, g4, n1, n2, n3, s1, s2, s3, i1, i2, ct, ct2, sd, q1, q2, e4]
    · have hb : hostB h b host = false := by
        unfold hostB
        rw [Bool.eq_false_iff]
        intro z
        have : host = h ∨ Txt.endswith host (Str.ofString "." ++ h) = true := by
          simp only [Bool.or_eq_true, Bool.and_eq_true, beq_iff_eq] at z
          rcases z with z | z
          · exact .inl z
          · exact .inr z.2
        exact hsu (hs.mpr this).2
      rw [hb]
      rw [decide_eq_false hsu] at q1
      generalize ((dot host).drop ((dot host).length - (dot h).length)).map PyData.str = X5 at *
      generalize (dot h).map PyData.str = X1 at *
      generalize (dot host).map PyData.str = X2 at *
      simp -implicitDefEqProofs [f__law_goes, s__law_goes, nD, g1, g2, n1, n2, s1, s2, i1, ct, sd, q1]
end K

namespace K
open PySem L2 RZ SE
open TL (tl mk_tl tl_mk tl_append ext_tl len_tl joinL)
/-! ### texts drawn -/
theorem TX.mono {m n : Nat} {s : Str} (h : TX m s) (hmn : m ≤ n) : TX n s := ⟨by have := h.l; omega, h.k⟩
theorem TX.app {m n : Nat} {a b : Str} (ha : TX m a) (hb : TX n b) : TX (m + n) (a ++ b) := by
  refine ⟨by have := ha.l; have := hb.l; rw [len_appS]; omega, ?_⟩
  rw [strOk_tl, tl_append]
  intro c hc
  rcases List.mem_append.mp hc with hc | hc
  · exact (strOk_tl a).mp ha.k c hc
  · exact (strOk_tl b).mp hb.k c hc
theorem TX.join {m n : Nat} {y : Str} (hy : TX m y) : ∀ {ys : List Str}, (∀ x, x ∈ ys → TX n x) → TX ((n + m) * ys.length) (Txt.join y ys) := by
  have key : ∀ {ys : List Str}, (∀ x, x ∈ ys → TX n x) → TX ((n + m) * ys.length) (Str.join y ys) := by
    intro ys
    induction ys with
    | nil => intro _; exact ⟨Nat.zero_le _, by rw [strOk_tl]; intro c hc; cases hc⟩
    | cons x r ih =>
      intro h
      cases r with
      | nil => exact (h x List.mem_cons_self).mono (by simp)
      | cons z r =>
        have h2 := ih (fun w hw => h w (List.mem_cons_of_mem _ hw))
        have h1 := ((h x List.mem_cons_self).app hy).app h2
        show TX _ (x ++ y ++ Str.join y (z :: r))
        refine h1.mono ?_
        rw [List.length_cons (a := x), Nat.mul_succ]
        omega
  intro ys h
  rw [TL.join_eq]
  exact key h
theorem tx_dot : TX 1 (Str.ofString ".") := ⟨by decide +kernel, by decide +kernel⟩
theorem tx_sla : TX 1 (Str.ofString "/") := ⟨by decide +kernel, by decide +kernel⟩
theorem tx_nil : TX 0 (Str.ofString "") := ⟨by decide +kernel, by decide +kernel⟩
theorem tx_parts {c n : Nat} {s : Str} (h : TX n s) : ∀ w, w ∈ (sp c (tl s)).map mkS → TX n w := fun w hw => by
  obtain ⟨l, hl, rfl⟩ := List.mem_map.mp hw
  refine ⟨(sp_bound h.l).2 _ hw, ?_⟩
  rw [strOk_tl, tl_mk]
  exact fun c hc => (strOk_tl s).mp h.k c (sp_mem hl hc)
theorem all2_strs {P : Str → Prop} : ∀ {ds rs : List D}, All2 (fun _ r => ∃ s, r = PyData.str s ∧ P s) ds rs → ∃ ys : List Str, rs = ys.map .str ∧ ys.length = ds.length ∧ ∀ y, y ∈ ys → P y
  | _, _, .nil => ⟨[], rfl, rfl, fun y h => by cases h⟩
  | _, _, .cons h t => by
    obtain ⟨s, rfl, hp⟩ := h
    obtain ⟨ys, rfl, hl, hy⟩ := all2_strs t
    exact ⟨s :: ys, rfl, by simp [hl], fun y hy2 => by
      rcases List.mem_cons.mp hy2 with rfl | hy2
      · exact hp
      · exact hy y hy2⟩
theorem word_ok {fs : List D} (hf : Feed fs) : ∃ w gs, f__law_word [.pin true fs] = .ok (.val (.str w), [gs]) ∧ Feed gs ∧ TX 8 w := by
  obtain ⟨d1, g1, c1, u1, u2, f1⟩ := draw_ok hf 6 (by decide) (by decide)
  by_cases hd : d1 = 0
  · subst hd
    obtain ⟨d2, g2, c2, w1, w2, f2⟩ := draw_ok f1 8 (by decide) (by decide)
    obtain ⟨k, rfl⟩ : ∃ k : Nat, d2 = (k : Int) := ⟨d2.toNat, by omega⟩
    obtain ⟨rs, e', hc, ha, gs, rfl, hfs⟩ := compL_inv (g := bName 2) (t := tTrue) (elt := m2 oIx (.pk 1) (.m (mCall f__law_draw [.io 0, .v (mC (.int 26))]))) (vs := [2]) (fun e => ∃ gs, e = [.pin true gs, .val (.str "abcdefghijklmnopqrstuvwxyz"), .un] ∧ Feed gs) (fun _ r => ∃ s, r = PyData.str s ∧ TX 1 s) (rng 0 (1 + k)) [] [.pin true g2, .val (.str "abcdefghijklmnopqrstuvwxyz"), .un] ⟨_, rfl, f2⟩ (by rw [rngN]; simp; omega) (fun d hd e he => by
      obtain ⟨gs, rfl, hfs⟩ := he
      obtain ⟨d3, g3, c3, z1, z2, f3⟩ := draw_ok hfs 26 (by decide) (by decide)
      obtain ⟨j, rfl⟩ : ∃ j : Nat, d3 = (j : Int) := ⟨d3.toNat, by omega⟩
      have hj : j < 26 := by omega
      obtain ⟨c, hc, hcl⟩ : ∃ c, atI (Str.ofString "abcdefghijklmnopqrstuvwxyz").cps.toList (j : Int) = some c ∧ c < 0x110000 := by
        have : ∀ j : Fin 26, ∃ c, atI (Str.ofString "abcdefghijklmnopqrstuvwxyz").cps.toList ((j : Nat) : Int) = some c ∧ c < 0x110000 := fun j => by
          have h1 : ((atI (Str.ofString "abcdefghijklmnopqrstuvwxyz").cps.toList ((j : Nat) : Int)).any fun c => decide (c < 0x110000)) = true := by
            revert j
            decide +kernel
          cases q : atI (Str.ofString "abcdefghijklmnopqrstuvwxyz").cps.toList ((j : Nat) : Int) with
          | none => rw [q] at h1; cases h1
          | some c => rw [q] at h1; exact ⟨c, rfl, of_decide_eq_true h1⟩
        exact this ⟨j, hj⟩
      have hlen : (Str.ofString "abcdefghijklmnopqrstuvwxyz").length ≤ 16777216 := by decide +kernel
      have hix : oIx (.val (.str "abcdefghijklmnopqrstuvwxyz")) (.val (.int (j : Int))) = .ok (.val (.str ⟨#[c]⟩)) := by
        unfold oIx
        simp only [hc]
        rw [if_pos hlen]
      refine ⟨[.pin true gs, .val (.str "abcdefghijklmnopqrstuvwxyz"), .val d], [.pin true gs, .val (.str "abcdefghijklmnopqrstuvwxyz"), .val d], [.pin true g3, .val (.str "abcdefghijklmnopqrstuvwxyz"), .val d], .str ⟨#[c]⟩, by simp, rfl, by simp -implicitDefEqProofs [c3, hix], ⟨_, rfl, ⟨Nat.le_refl _, ?_⟩⟩, ⟨g3, rfl, f3⟩⟩
      rw [strOk_tl]
      intro x hx
      rw [show tl ⟨#[c]⟩ = [c] from rfl, List.mem_singleton] at hx
      omega)
    obtain ⟨ys, rfl, hyl, hyt⟩ := all2_strs ha
    have hyl2 : ys.length ≤ 8 := by rw [hyl, rngN]; simp; omega
    have hj := TX.join tx_nil hyt
    have hs : strsOf (ys.map PyData.str) = some ys := strsOf_map ys
    have hsum : (ys.map (·.length)).sum + ys.length * (Str.ofString "").length ≤ 16777216 := by
      have h0 : (Str.ofString "").length = 0 := by decide +kernel
      rw [h0]
      have : ∀ zs : List Str, (∀ x, x ∈ zs → TX 1 x) → (zs.map (·.length)).sum ≤ zs.length := by
        intro zs
        induction zs with
        | nil => intro _; simp
        | cons z zs ih =>
          intro h
          have h1 := (h z List.mem_cons_self).l
          have h2 := ih (fun w hw => h w (List.mem_cons_of_mem _ hw))
          simp
          omega
      have := this ys hyt
      omega
    have s1 : small (1 + (k : Int)) = true := small_of (by omega) (by omega)
    have hrg : (1 + (k : Int)).toNat = 1 + k := by omega
    rw [List.nil_append] at hc
    refine ⟨_, gs, ?_, hfs, hj.mono (by omega)⟩
    generalize ys.map PyData.str = X at *
    have hjo : oJoin (Str.ofString "") [.own X] = .ok (.val (.str (Txt.join (Str.ofString "") ys))) := by
      rw [e_oJoin]
      show joinO _ ((some X).bind strsOf) = _
      rw [Option.bind_some, hs, e_joinO, if_pos hsum]
    simp -implicitDefEqProofs [f__law_word, s__law_word, c1, c2, hc, s1, hrg, hjo, -e_oJoin]
  · obtain ⟨d2, g2, c2, w1, w2, f2⟩ := draw_ok f1 5 (by decide) (by decide)
    have hw : ∃ w : Str, atI [PyData.str "a", .str "b", .str "ab", .str "aa", .str "b"] d2 = some (.str w) ∧ TX 8 w := by
      rcases (show d2 = 0 ∨ d2 = 1 ∨ d2 = 2 ∨ d2 = 3 ∨ d2 = 4 by omega) with rfl | rfl | rfl | rfl | rfl <;> exact ⟨_, rfl, ⟨by decide +kernel, by decide +kernel⟩⟩
    obtain ⟨w, hat, ht⟩ := hw
    refine ⟨w, g2, ?_, f2, ht⟩
    simp -implicitDefEqProofs [f__law_word, s__law_word, c1, c2, hd, hat]
theorem words_ok {fs : List D} (hf : Feed fs) (m : Int) (h1 : 1 ≤ m) (h2 : m ≤ 13) : ∃ (ys : List Str) (gs : List D), f__law_words [.pin true fs, .val (.int m)] = .ok (.own (ys.map .str), [gs]) ∧ Feed gs ∧ 1 ≤ ys.length ∧ (ys.length : Int) ≤ m ∧ ∀ y, y ∈ ys → TX 8 y := by
  obtain ⟨d2, g2, c2, w1, w2, f2⟩ := draw_ok hf m (by omega) (by omega)
  obtain ⟨k, rfl⟩ : ∃ k : Nat, d2 = (k : Int) := ⟨d2.toNat, by omega⟩
  obtain ⟨rs, e', hc, ha, gs, rfl, hfs⟩ := compL_inv (g := bName 2) (t := tTrue) (elt := frz (mCall f__law_word [.io 0])) (vs := [2]) (fun e => ∃ gs, e = [.pin true gs, .val (.int m), .un] ∧ Feed gs) (fun _ r => ∃ s, r = PyData.str s ∧ TX 8 s) (rng 0 (1 + k)) [] [.pin true g2, .val (.int m), .un] ⟨_, rfl, f2⟩ (by rw [rngN]; simp; omega) (fun d hd e he => by
    obtain ⟨gs, rfl, hfs⟩ := he
    obtain ⟨w, g3, c3, f3, tx⟩ := word_ok hfs
    exact ⟨[.pin true gs, .val (.int m), .val d], [.pin true gs, .val (.int m), .val d], [.pin true g3, .val (.int m), .val d], .str w, by simp, rfl, by simp -implicitDefEqProofs [c3], ⟨_, rfl, tx⟩, ⟨g3, rfl, f3⟩⟩)
  obtain ⟨ys, rfl, hyl, hyt⟩ := all2_strs ha
  rw [rngN] at hyl
  simp at hyl
  have s1 : small (1 + (k : Int)) = true := small_of (by omega) (by omega)
  have hrg : (1 + (k : Int)).toNat = 1 + k := by omega
  rw [List.nil_append] at hc
  refine ⟨ys, gs, ?_, hfs, by omega, by omega, hyt⟩
  generalize ys.map PyData.str = X at *
  simp -implicitDefEqProofs [f__law_words, s__law_words, c2, hc, s1, hrg]
theorem join_o {y : Str} {ys : List Str} (hy : y.length ≤ 1) (hl : ys.length ≤ 1000) (ht : ∀ x, x ∈ ys → TX 900 x) {o : O} (ho : o.l = some (ys.map .str)) : oJoin y [o] = .ok (.val (.str (Txt.join y ys))) := by
  rw [e_oJoin, ho, Option.bind_some, strsOf_map, e_joinO, if_pos]
  have : ∀ zs : List Str, (∀ x, x ∈ zs → TX 900 x) → (zs.map (·.length)).sum ≤ 900 * zs.length := by
    intro zs
    induction zs with
    | nil => intro _; simp
    | cons z zs ih =>
      intro h
      have h1 := (h z List.mem_cons_self).l
      have h2 := ih (fun w hw => h w (List.mem_cons_of_mem _ hw))
      simp
      omega
  have h1 := this ys ht
  have h2 : ys.length * y.length ≤ ys.length * 1 := Nat.mul_le_mul_left _ hy
  omega
theorem path_ok (ys : List Str) (hl : ys.length ≤ 13) (ht : ∀ y, y ∈ ys → TX 8 y) : ∃ p, f__law_path [.val (.list (ys.map .str))] = .ok (.val (.str p), []) ∧ TX 120 p := by
  have h1 := join_o (y := Str.ofString "/") (ys := ys) (by decide +kernel) (by omega) (fun x hx => (ht x hx).mono (by decide)) (o := .val (.list (ys.map .str))) rfl
  have h2 := TX.join tx_sla ht
  have h3 : TX 120 (Str.ofString "/" ++ Txt.join (Str.ofString "/") ys) := (tx_sla.app h2).mono (by have : (8 + 1) * ys.length ≤ (8 + 1) * 13 := Nat.mul_le_mul_left _ hl; omega)
  have l1 : (Str.ofString "/").length = 1 := by decide +kernel
  have l2 : 1 + (Txt.join (Str.ofString "/") ys).length ≤ 16777216 := by
    have := h2.l
    have : (8 + 1) * ys.length ≤ (8 + 1) * 13 := Nat.mul_le_mul_left _ hl
    omega
  refine ⟨_, ?_, h3⟩
  generalize ys.map PyData.str = X at *
  simp -implicitDefEqProofs [f__law_path, s__law_path, h1, l1, l2, -e_oJoin]
theorem note_ok {fs : List D} (hf : Feed fs) : ∃ (h p : Str) (b : Bool) (gs : List D), f__law_note [.pin true fs] = .ok (.val (nD (h, p, b)), [gs]) ∧ Feed gs ∧ TX 120 h ∧ TX 120 p := by
  obtain ⟨ys, g1, c1, f1, y1, y2, y3⟩ := words_ok hf 4 (by decide) (by decide)
  obtain ⟨d2, g2, c2, w1, w2, f2⟩ := draw_ok f1 4 (by decide) (by decide)
  have hj := join_o (y := Str.ofString ".") (ys := ys) (by decide +kernel) (by omega) (fun x hx => (y3 x hx).mono (by decide)) (o := .own (ys.map .str)) rfl
  have ht : TX 120 (Txt.join (Str.ofString ".") ys) := (TX.join tx_dot y3).mono (by have : (8 + 1) * ys.length ≤ (8 + 1) * 4 := Nat.mul_le_mul_left _ (by omega); omega)
  generalize Txt.join (Str.ofString ".") ys = h at *
  by_cases hd : 0 < d2
  · obtain ⟨zs, g3, c3, f3, z1, z2, z3⟩ := words_ok f2 4 (by decide) (by decide)
    obtain ⟨p, c4, tp⟩ := path_ok zs (by omega) z3
    obtain ⟨d5, g5, c5, v1, v2, f5⟩ := draw_ok f3 2 (by decide) (by decide)
    refine ⟨h, p, (d5 == 0), g5, ?_, f5, ht, tp⟩
    generalize ys.map PyData.str = X at *
    generalize zs.map PyData.str = Z at *
    simp -implicitDefEqProofs [f__law_note, s__law_note, nD, c1, c2, hd, c3, c4, c5, hj, -e_oJoin]
  · obtain ⟨d5, g5, c5, v1, v2, f5⟩ := draw_ok f2 2 (by decide) (by decide)
    refine ⟨h, Str.ofString "/", (d5 == 0), g5, ?_, f5, ht, tx_sla.mono (by decide)⟩
    generalize ys.map PyData.str = X at *
    simp -implicitDefEqProofs [f__law_note, s__law_note, nD, c1, c2, hd, c5, hj, -e_oJoin]
end K

namespace K
open PySem L2 RZ SE
open TL (tl mk_tl tl_mk tl_append ext_tl len_tl joinL)
theorem get_str {ys : List Str} {k : Nat} (h : k < ys.length) : ∃ w, w ∈ ys ∧ atI (ys.map PyData.str) (k : Int) = some (PyData.str w) := by
  refine ⟨ys[k], List.getElem_mem h, ?_⟩
  rw [SE.atI_n, List.getElem?_map, List.getElem?_eq_getElem h]; rfl
theorem tx_a : TX 1 (Str.ofString "a") := ⟨by decide +kernel, by decide +kernel⟩
/-- texts of the law in a list -/
def TXs (n : Nat) (ys : List Str) : Prop := ∀ y, y ∈ ys → TX n y
theorem TXs.app {n : Nat} {a b : List Str} (h1 : TXs n a) (h2 : TXs n b) : TXs n (a ++ b) := fun y hy => by
  rcases List.mem_append.mp hy with hy | hy
  · exact h1 y hy
  · exact h2 y hy
theorem TXs.one {n : Nat} {y : Str} (h : TX n y) : TXs n [y] := fun z hz => by rw [List.mem_singleton] at hz; subst hz; exact h
abbrev hosts_t1 : S := (sSeq (sIf (tb (m2 oLt (.m (m1 oLen (.pk 2))) (.m (mC (.int 4))))) (sSeq (sExpr (mMeth 3 [.m (frz (m2 oAdd (.m (m2 oAdd (.m (mCall f__law_word [.io 0])) (.m (mC (.str "."))))) (.pk 1)))] fAppend)) (sExpr (mMeth 3 [.m (frz (m2 oAdd (.m (m2 oAdd (.pk 1) (.m (mC (.str "."))))) (.m (mCall f__law_word [.io 0]))))] fAppend))) (sNop)) (sNop))
abbrev hosts_s1 : S := (sIf (tb (m2 oLt (.m (m1 oLen (.pk 2))) (.m (mC (.int 4))))) (sSeq (sExpr (mMeth 3 [.m (frz (m2 oAdd (.m (m2 oAdd (.m (mCall f__law_word [.io 0])) (.m (mC (.str "."))))) (.pk 1)))] fAppend)) (sExpr (mMeth 3 [.m (frz (m2 oAdd (.m (m2 oAdd (.pk 1) (.m (mC (.str "."))))) (.m (mCall f__law_word [.io 0]))))] fAppend))) (sNop))
abbrev hosts_s2 : S := (sIf (tb (m2 oGt (.m (m1 oLen (.pk 2))) (.m (mC (.int 1))))) (sExpr (mMeth 3 [.m (frz (mSM (mC (.str ".")) [(.m (mSlL (.pk 2) (.m (mC (.int 1)))))] oJoin))] fAppend)) (sNop))
abbrev hosts_s3 : S := (sIf (tb (m2 oLt (.m (m1 oLen (.m (m2 oIx (.pk 2) (.m (mC (.int 0))))))) (.m (mC (.int 8))))) (sExpr (mMeth 3 [.m (frz (m2 oAdd (.m (mC (.str "a"))) (.pk 1)))] fAppend)) (sNop))
abbrev hosts_m : M := (mLst [.m (mV 1), .m (m2 oIx (.pk 2) (.m (m2 oSub (.m (m1 oLen (.pk 2))) (.m (mC (.int 1)))))), .m (frz (mSM (mC (.str ".")) [(.m (mCall f__law_words [.io 0, .v (mC (.int 4))]))] oJoin))])
theorem _law_hosts_cut : s__law_hosts = (sSeq (sSet 2 (mSM (mV 1) [(.m (mC (.str ".")))] oSplit))
  (sSeq (sSet 3 hosts_m)
  (sSeq hosts_s1
  (sSeq hosts_s2
  (sSeq hosts_s3
  (sRet (mMv 3))))))) := rfl
theorem h_s1 {fs : List D} (hf : Feed fs) (h : Str) (th : TX 300 h) (N : List Str) (hN : N.length ≤ 1000) (L : List Str) (hL : L.length ≤ 20) (tL : TXs 900 L) : ∃ (gs : List D) (L2 : List Str), hosts_s1 [.pin true fs, .val (.str h), .own (N.map .str), .own (L.map .str)] = .next [.pin true gs, .val (.str h), .own (N.map .str), .own (L2.map .str)] ∧ Feed gs ∧ L.length ≤ L2.length ∧ L2.length ≤ L.length + 2 ∧ TXs 900 L2 := by
  have hn : (N.map PyData.str).length = N.length := List.length_map _
  have hll : (L.map PyData.str).length = L.length := List.length_map _
  have hsm : small (N.length : Int) = true := small_nat (by omega)
  by_cases h4 : N.length < 4
  · obtain ⟨w1, g1, c1, f1, t1⟩ := word_ok hf
    obtain ⟨w2, g2, c2, f2, t2⟩ := word_ok f1
    have i4 : (N.length : Int) < 4 := by omega
    have z0 : (Str.ofString ".").length = 1 := by decide +kernel
    have z1 : w1.length + 1 ≤ 16777216 := by have := t1.l; omega
    have z2 : (w1 ++ Str.ofString ".").length + h.length ≤ 16777216 := by rw [len_appS, z0]; have := t1.l; have := th.l; omega
    have z3 : h.length + 1 ≤ 16777216 := by have := th.l; omega
    have z4 : (h ++ Str.ofString ".").length + w2.length ≤ 16777216 := by rw [len_appS, z0]; have := t2.l; have := th.l; omega
    have z5 : L.length < 16777216 := by omega
    have z6 : L.length + 1 < 16777216 := by omega
    refine ⟨g2, (L ++ [w1 ++ Str.ofString "." ++ h]) ++ [h ++ Str.ofString "." ++ w2], ?_, f2, by simp, by simp, (tL.app (TXs.one (((t1.app tx_dot).app th).mono (by decide)))).app (TXs.one (((th.app tx_dot).app t2).mono (by decide)))⟩
    rw [List.map_append, List.map_append]
    generalize N.map PyData.str = X at *
    generalize L.map PyData.str = Y at *
    simp -implicitDefEqProofs [hn, hsm, i4, c1, c2, z0, z1, z2, z3, z4, hll, z5, z6]
  · have i4 : ¬ (N.length : Int) < 4 := by omega
    refine ⟨fs, L, ?_, hf, Nat.le_refl _, by omega, tL⟩
    generalize N.map PyData.str = X at *
    generalize L.map PyData.str = Y at *
    simp -implicitDefEqProofs [hn, hsm, i4]
theorem join_part {c : Nat} {y : Str} (hy : tl y = [c]) {s : Str} {n : Nat} (h : TX n s) {U V : List (List Nat)} (hs : sp c (tl s) = U ++ V) : TX n (Txt.join y (U.map mkS)) ∧ TX n (Txt.join y (V.map mkS)) := by
  have tj : ∀ W : List (List Nat), tl (Txt.join y (W.map mkS)) = joinL [c] W := fun W => by
    rw [TL.join_eq, TL.tl_join, hy, List.map_map, show (tl ∘ mkS : List Nat → List Nat) = id from funext fun l => tl_mk l, List.map_id]
  have key : ∀ W : List (List Nat), (joinL [c] W).length ≤ (tl s).length → (∀ x, x ∈ joinL [c] W → x ∈ tl s) → TX n (Txt.join y (W.map mkS)) := fun W h1 h2 => by
    refine ⟨?_, ?_⟩
    · rw [len_tl, tj]
      have := h.l
      rw [len_tl] at this
      omega
    · rw [strOk_tl, tj]
      exact fun x hx => (strOk_tl s).mp h.k x (h2 x hx)
  have hall := join_sp c (tl s)
  rw [hs] at hall
  by_cases hu : U = []
  · subst hu
    rw [List.nil_append] at hall
    exact ⟨key [] (Nat.zero_le _) (fun x hx => by cases hx), key V (by rw [hall]; exact Nat.le_refl _) (fun x hx => by rw [hall] at hx; exact hx)⟩
  · by_cases hv : V = []
    · subst hv
      rw [List.append_nil] at hall
      exact ⟨key U (by rw [hall]; exact Nat.le_refl _) (fun x hx => by rw [hall] at hx; exact hx), key [] (Nat.zero_le _) (fun x hx => by cases hx)⟩
    · rw [joinL_app c hu hv] at hall
      refine ⟨key U ?_ (fun x hx => ?_), key V ?_ (fun x hx => ?_)⟩
      · rw [← hall, List.length_append]; omega
      · rw [← hall, List.mem_append]; exact .inl hx
      · rw [← hall, List.length_append, List.length_cons]; omega
      · rw [← hall, List.mem_append]; exact .inr (List.mem_cons_of_mem _ hx)
theorem h_s2 (x0 x1 : O) (h : Str) (th : TX 300 h) (L : List Str) (hL : L.length ≤ 20) (tL : TXs 900 L) : ∃ (L2 : List Str), hosts_s2 [x0, x1, .own ((dot h).map .str), .own (L.map .str)] = .next [x0, x1, .own ((dot h).map .str), .own (L2.map .str)] ∧ L.length ≤ L2.length ∧ L2.length ≤ L.length + 1 ∧ TXs 900 L2 := by
  have hn : ((dot h).map PyData.str).length = (dot h).length := List.length_map _
  have hll : (L.map PyData.str).length = L.length := List.length_map _
  have hb := dot_bound th.l
  have hsm : small ((dot h).length : Int) = true := small_nat (by omega)
  by_cases h4 : 1 < (dot h).length
  · have i4 : (1 : Int) < ((dot h).length : Int) := by omega
    have ct : cutD ((dot h).map PyData.str) (some 1) none = ((dot h).drop 1).map PyData.str := by
      rw [show (1 : Int) = ((1 : Nat) : Int) from rfl, cut_lo, List.map_drop]
    have hj := join_o (y := Str.ofString ".") (ys := (dot h).drop 1) (by decide +kernel) (by rw [List.length_drop]; omega) (fun x hx => (tx_parts (c := 46) th x (List.mem_of_mem_drop hx)).mono (by decide)) (o := .own (((dot h).drop 1).map .str)) rfl
    have tj := (join_part tl_dot th (U := (sp 46 (tl h)).take 1) (V := (sp 46 (tl h)).drop 1) (List.take_append_drop _ _).symm).2
    rw [List.map_drop] at tj
    have z5 : L.length < 16777216 := by omega
    refine ⟨L ++ [Txt.join (Str.ofString ".") ((dot h).drop 1)], ?_, by simp, by simp, tL.app (TXs.one (tj.mono (by decide)))⟩
    rw [List.map_append]
    clear tj hb
    generalize Txt.join (Str.ofString ".") ((dot h).drop 1) = J at *
    generalize ((dot h).drop 1).map PyData.str = X1 at *
    generalize (dot h).map PyData.str = X at *
    generalize L.map PyData.str = Y at *
    simp -implicitDefEqProofs [hn, hsm, i4, ct, hj, hll, z5, -e_oJoin]
  · have i4 : ¬ (1 : Int) < ((dot h).length : Int) := by omega
    refine ⟨L, ?_, Nat.le_refl _, by omega, tL⟩
    generalize (dot h).map PyData.str = X at *
    generalize L.map PyData.str = Y at *
    simp -implicitDefEqProofs [hn, hsm, i4]
theorem h_s3 (x0 : O) (h : Str) (th : TX 300 h) (N : List Str) (hN : 1 ≤ N.length) (tN : TXs 300 N) (L : List Str) (hL : L.length ≤ 20) (tL : TXs 900 L) : ∃ (L2 : List Str), hosts_s3 [x0, .val (.str h), .own (N.map .str), .own (L.map .str)] = .next [x0, .val (.str h), .own (N.map .str), .own (L2.map .str)] ∧ L.length ≤ L2.length ∧ L2.length ≤ L.length + 1 ∧ TXs 900 L2 := by
  have hll : (L.map PyData.str).length = L.length := List.length_map _
  obtain ⟨w, hw, ha⟩ := get_str (ys := N) (k := 0) (by omega)
  have tw := tN w hw
  have hsm : small (w.length : Int) = true := small_nat (by have := tw.l; omega)
  rw [SE.atI_n] at ha
  by_cases h4 : w.length < 8
  · have i4 : (w.length : Int) < 8 := by omega
    have z0 : (Str.ofString "a").length = 1 := by decide +kernel
    have z1 : 1 + h.length ≤ 16777216 := by have := th.l; omega
    have z5 : L.length < 16777216 := by omega
    have z7 : w.length ≤ 16777216 := by omega
    refine ⟨L ++ [Str.ofString "a" ++ h], ?_, by simp, by simp, tL.app (TXs.one ((tx_a.app th).mono (by decide)))⟩
    rw [List.map_append]
    generalize N.map PyData.str = X at *
    generalize L.map PyData.str = Y at *
    simp -implicitDefEqProofs [ha, hsm, i4, z0, z1, hll, z5, z7]
  · have i4 : ¬ (w.length : Int) < 8 := by omega
    have z7 : w.length ≤ 16777216 := by have := tw.l; omega
    refine ⟨L, ?_, Nat.le_refl _, by omega, tL⟩
    generalize N.map PyData.str = X at *
    generalize L.map PyData.str = Y at *
    simp -implicitDefEqProofs [ha, hsm, i4, z7]
theorem hosts_ok {fs : List D} (hf : Feed fs) (h : Str) (th : TX 120 h) : ∃ (L : List Str) (gs : List D), f__law_hosts [.pin true fs, .val (.str h)] = .ok (.own (L.map .str), [gs]) ∧ Feed gs ∧ 1 ≤ L.length ∧ L.length ≤ 20 ∧ TXs 900 L := by
  have tN : TXs 300 (dot h) := fun w hw => (tx_parts (c := 46) th w hw).mono (by decide)
  have hb := dot_bound th.l
  have hpos := dot_pos h
  obtain ⟨w, hw, ha⟩ := get_str (ys := dot h) (k := (dot h).length - 1) (by omega)
  have tw := tN w hw
  obtain ⟨ys, g1, c1, f1, y1, y2, y3⟩ := words_ok hf 4 (by decide) (by decide)
  have hj := join_o (y := Str.ofString ".") (ys := ys) (by decide +kernel) (by omega) (fun x hx => (y3 x hx).mono (by decide)) (o := .own (ys.map .str)) rfl
  have tj : TX 120 (Txt.join (Str.ofString ".") ys) := (TX.join tx_dot y3).mono (by have : (8 + 1) * ys.length ≤ (8 + 1) * 4 := Nat.mul_le_mul_left _ (by omega); omega)
  have t0 : TXs 900 [h, w, Txt.join (Str.ofString ".") ys] := fun x hx => by
    simp only [List.mem_cons, List.not_mem_nil, or_false] at hx
    rcases hx with rfl | rfl | rfl
    · exact th.mono (by decide)
    · exact tw.mono (by decide)
    · exact tj.mono (by decide)
  obtain ⟨g2, L1, s1, f2, l1, l1', t1⟩ := h_s1 f1 h (th.mono (by decide)) (dot h) (by omega) [h, w, Txt.join (Str.ofString ".") ys] (by simp) t0
  simp only [List.length_cons, List.length_nil] at l1 l1'
  obtain ⟨L2, s2, l2, l2', t2⟩ := h_s2 (.pin true g2) (.val (.str h)) h (th.mono (by decide)) L1 (by omega) t1
  obtain ⟨L3, s3, l3, l3', t3⟩ := h_s3 (.pin true g2) h (th.mono (by decide)) (dot h) hpos tN L2 (by omega) t2
  refine ⟨L3, g2, ?_, f2, by omega, by omega, t3⟩
  have hg := gS_dot (s := h) (by have := th.l; omega)
  have hn : ((dot h).map PyData.str).length = (dot h).length := List.length_map _
  have hsm : small ((dot h).length : Int) = true := small_nat (by omega)
  rw [show (((dot h).length - 1 : Nat) : Int) = ((dot h).length : Int) - 1 by omega] at ha
  rw [show f__law_hosts = fBody 4 [0] s__law_hosts from rfl, _law_hosts_cut]
  simp only [List.map_cons, List.map_nil] at s1
  generalize hosts_s1 = q1 at *
  generalize hosts_s2 = q2 at *
  generalize hosts_s3 = q3 at *
  generalize Txt.join (Str.ofString ".") ys = J at *
  generalize ys.map PyData.str = Y at *
  generalize (dot h).map PyData.str = X at *
  generalize L1.map PyData.str = Y1 at *
  generalize L2.map PyData.str = Y2 at *
  generalize L3.map PyData.str = Y3 at *
  simp -implicitDefEqProofs [hg, hn, hsm, ha, c1, hj, s1, s2, s3, -e_oJoin]
end K

namespace K
open PySem L2 RZ SE
open TL (tl mk_tl tl_mk tl_append ext_tl len_tl joinL)
abbrev paths_m : M := (mLst [.m (mV 1), .m (mC (.str "/")), .m (frz (mCall f__law_path [.v (mCall f__law_words [.io 0, .v (mC (.int 4))])]))])
abbrev paths_s1 : S := (sIf (tAndS (tb (m2 oNe (.pk 1) (.m (mC (.str "/"))))) (tb (m2 oLt (.m (m1 oLen (.pk 3))) (.m (mC (.int 5)))))) (sExpr (mMeth 2 [.m (frz (m2 oAdd (.m (m2 oAdd (.pk 1) (.m (mC (.str "/"))))) (.m (mCall f__law_word [.io 0]))))] fAppend)) (sNop))
abbrev paths_s2 : S := (sIf (tAndS (tb (m2 oNe (.pk 1) (.m (mC (.str "/"))))) (tb (m2 oLt (.m (m1 oLen (.m (m2 oIx (.pk 3) (.m (m2 oSub (.m (m1 oLen (.pk 3))) (.m (mC (.int 1))))))))) (.m (mC (.int 8)))))) (sExpr (mMeth 2 [.m (frz (m2 oAdd (.pk 1) (.m (mC (.str "a")))))] fAppend)) (sNop))
abbrev paths_s3 : S := (sIf (tb (m2 oGt (.m (m1 oLen (.pk 3))) (.m (mC (.int 2))))) (sExpr (mMeth 2 [.m (frz (mSM (mC (.str "/")) [(.m (mSlH (.pk 3) (.m (m2 oSub (.m (m1 oLen (.pk 3))) (.m (mC (.int 1)))))))] oJoin))] fAppend)) (sNop))
theorem _law_paths_cut : s__law_paths = (sSeq (sSet 2 paths_m)
  (sSeq (sSet 3 (mSM (mV 1) [(.m (mC (.str "/")))] oSplit))
  (sSeq paths_s1
  (sSeq paths_s2
  (sSeq paths_s3
  (sRet (mMv 2))))))) := rfl
theorem p_s1 {fs : List D} (hf : Feed fs) (p : Str) (tp : TX 300 p) (N : List Str) (hN : N.length ≤ 1000) (L : List Str) (hL : L.length ≤ 20) (tL : TXs 900 L) : ∃ (gs : List D) (L2 : List Str), paths_s1 [.pin true fs, .val (.str p), .own (L.map .str), .own (N.map .str)] = .next [.pin true gs, .val (.str p), .own (L2.map .str), .own (N.map .str)] ∧ Feed gs ∧ L.length ≤ L2.length ∧ L2.length ≤ L.length + 1 ∧ TXs 900 L2 := by
  have hn : (N.map PyData.str).length = N.length := List.length_map _
  have hll : (L.map PyData.str).length = L.length := List.length_map _
  have hsm : small (N.length : Int) = true := small_nat (by omega)
  have f : ∀ x y : Str, (x == y) = decide (x = y) := fun x y => by rw [Bool.eq_iff_iff]; simp
  by_cases e : p = Str.ofString "/"
  · refine ⟨fs, L, ?_, hf, Nat.le_refl _, by omega, tL⟩
    generalize N.map PyData.str = X at *
    generalize L.map PyData.str = Y at *
    simp -implicitDefEqProofs [e]
  · by_cases h4 : N.length < 5
    · obtain ⟨w1, g1, c1, f1, t1⟩ := word_ok hf
      have i4 : (N.length : Int) < 5 := by omega
      have z0 : (Str.ofString "/").length = 1 := by decide +kernel
      have z3 : p.length + 1 ≤ 16777216 := by have := tp.l; omega
      have z4 : (p ++ Str.ofString "/").length + w1.length ≤ 16777216 := by rw [len_appS, z0]; have := t1.l; have := tp.l; omega
      have z5 : L.length < 16777216 := by omega
      refine ⟨g1, L ++ [p ++ Str.ofString "/" ++ w1], ?_, f1, by simp, by simp, tL.app (TXs.one (((tp.app tx_sla).app t1).mono (by decide)))⟩
      rw [List.map_append]
      generalize N.map PyData.str = X at *
      generalize L.map PyData.str = Y at *
      simp -implicitDefEqProofs [hn, hsm, i4, c1, z0, z3, z4, hll, z5, e, f]
    · have i4 : ¬ (N.length : Int) < 5 := by omega
      refine ⟨fs, L, ?_, hf, Nat.le_refl _, by omega, tL⟩
      generalize N.map PyData.str = X at *
      generalize L.map PyData.str = Y at *
      simp -implicitDefEqProofs [hn, hsm, i4, e, f]
theorem p_s2 (x0 : O) (p : Str) (tp : TX 300 p) (N : List Str) (hN : 1 ≤ N.length) (hN2 : N.length ≤ 1000) (tN : TXs 300 N) (L : List Str) (hL : L.length ≤ 20) (tL : TXs 900 L) : ∃ (L2 : List Str), paths_s2 [x0, .val (.str p), .own (L.map .str), .own (N.map .str)] = .next [x0, .val (.str p), .own (L2.map .str), .own (N.map .str)] ∧ L.length ≤ L2.length ∧ L2.length ≤ L.length + 1 ∧ TXs 900 L2 := by
  have hn : (N.map PyData.str).length = N.length := List.length_map _
  have hll : (L.map PyData.str).length = L.length := List.length_map _
  have hsn : small (N.length : Int) = true := small_nat (by omega)
  have f : ∀ x y : Str, (x == y) = decide (x = y) := fun x y => by rw [Bool.eq_iff_iff]; simp
  obtain ⟨w, hw, ha⟩ := get_str (ys := N) (k := N.length - 1) (by omega)
  have tw := tN w hw
  have hsm : small (w.length : Int) = true := small_nat (by have := tw.l; omega)
  have z7 : w.length ≤ 16777216 := by have := tw.l; omega
  rw [show ((N.length - 1 : Nat) : Int) = (N.length : Int) - 1 by omega] at ha
  by_cases e : p = Str.ofString "/"
  · refine ⟨L, ?_, Nat.le_refl _, by omega, tL⟩
    generalize N.map PyData.str = X at *
    generalize L.map PyData.str = Y at *
    simp -implicitDefEqProofs [e]
  · by_cases h4 : w.length < 8
    · have i4 : (w.length : Int) < 8 := by omega
      have z0 : (Str.ofString "a").length = 1 := by decide +kernel
      have z1 : p.length + 1 ≤ 16777216 := by have := tp.l; omega
      have z5 : L.length < 16777216 := by omega
      refine ⟨L ++ [p ++ Str.ofString "a"], ?_, by simp, by simp, tL.app (TXs.one ((tp.app tx_a).mono (by decide)))⟩
      rw [List.map_append]
      generalize N.map PyData.str = X at *
      generalize L.map PyData.str = Y at *
      simp -implicitDefEqProofs [ha, hsm, i4, z0, z1, hll, z5, z7, hn, hsn, e, f]
    · have i4 : ¬ (w.length : Int) < 8 := by omega
      refine ⟨L, ?_, Nat.le_refl _, by omega, tL⟩
      generalize N.map PyData.str = X at *
      generalize L.map PyData.str = Y at *
      simp -implicitDefEqProofs [ha, hsm, i4, z7, hn, hsn, e, f]
theorem p_s3 (x0 x1 : O) (p : Str) (tp : TX 300 p) (L : List Str) (hL : L.length ≤ 20) (tL : TXs 900 L) : ∃ (L2 : List Str), paths_s3 [x0, x1, .own (L.map .str), .own ((sla p).map .str)] = .next [x0, x1, .own (L2.map .str), .own ((sla p).map .str)] ∧ L.length ≤ L2.length ∧ L2.length ≤ L.length + 1 ∧ TXs 900 L2 := by
  have hn : ((sla p).map PyData.str).length = (sla p).length := List.length_map _
  have hll : (L.map PyData.str).length = L.length := List.length_map _
  have hb := sla_bound tp.l
  have hsm : small ((sla p).length : Int) = true := small_nat (by omega)
  by_cases h4 : 2 < (sla p).length
  · have i4 : (2 : Int) < ((sla p).length : Int) := by omega
    have ct : cutD ((sla p).map PyData.str) none (some (((sla p).length : Int) - 1)) = ((sla p).take ((sla p).length - 1)).map PyData.str := by
      rw [show ((sla p).length : Int) - 1 = (((sla p).length - 1 : Nat) : Int) by omega, cut_hi, List.map_take]
    have hj := join_o (y := Str.ofString "/") (ys := (sla p).take ((sla p).length - 1)) (by decide +kernel) (by rw [List.length_take]; omega) (fun x hx => (tx_parts (c := 47) tp x (List.mem_of_mem_take hx)).mono (by decide)) (o := .own (((sla p).take ((sla p).length - 1)).map .str)) rfl
    have tj := (join_part tl_sla tp (U := (sp 47 (tl p)).take ((sla p).length - 1)) (V := (sp 47 (tl p)).drop ((sla p).length - 1)) (List.take_append_drop _ _).symm).1
    rw [List.map_take] at tj
    have z5 : L.length < 16777216 := by omega
    refine ⟨L ++ [Txt.join (Str.ofString "/") ((sla p).take ((sla p).length - 1))], ?_, by simp, by simp, tL.app (TXs.one (tj.mono (by decide)))⟩
    rw [List.map_append]
    clear tj hb
    generalize Txt.join (Str.ofString "/") ((sla p).take ((sla p).length - 1)) = J at *
    generalize ((sla p).take ((sla p).length - 1)).map PyData.str = X1 at *
    generalize (sla p).map PyData.str = X at *
    generalize L.map PyData.str = Y at *
    simp -implicitDefEqProofs [hn, hsm, i4, ct, hj, hll, z5, -e_oJoin]
  · have i4 : ¬ (2 : Int) < ((sla p).length : Int) := by omega
    refine ⟨L, ?_, Nat.le_refl _, by omega, tL⟩
    generalize (sla p).map PyData.str = X at *
    generalize L.map PyData.str = Y at *
    simp -implicitDefEqProofs [hn, hsm, i4]
theorem paths_ok {fs : List D} (hf : Feed fs) (p : Str) (tp : TX 120 p) : ∃ (L : List Str) (gs : List D), f__law_paths [.pin true fs, .val (.str p)] = .ok (.own (L.map .str), [gs]) ∧ Feed gs ∧ 1 ≤ L.length ∧ L.length ≤ 20 ∧ TXs 900 L := by
  have tN : TXs 300 (sla p) := fun w hw => (tx_parts (c := 47) tp w hw).mono (by decide)
  have hb := sla_bound tp.l
  have hpos := sla_pos p
  obtain ⟨ys, g1, c1, f1, y1, y2, y3⟩ := words_ok hf 4 (by decide) (by decide)
  obtain ⟨q, c2, tq⟩ := path_ok ys (by omega) y3
  have t0 : TXs 900 [p, Str.ofString "/", q] := fun x hx => by
    simp only [List.mem_cons, List.not_mem_nil, or_false] at hx
    rcases hx with rfl | rfl | rfl
    · exact tp.mono (by decide)
    · exact tx_sla.mono (by decide)
    · exact tq.mono (by decide)
  obtain ⟨g2, L1, s1, f2, l1, l1', t1⟩ := p_s1 f1 p (tp.mono (by decide)) (sla p) (by omega) [p, Str.ofString "/", q] (by simp) t0
  simp only [List.length_cons, List.length_nil] at l1 l1'
  obtain ⟨L2, s2, l2, l2', t2⟩ := p_s2 (.pin true g2) p (tp.mono (by decide)) (sla p) hpos (by omega) tN L1 (by omega) t1
  obtain ⟨L3, s3, l3, l3', t3⟩ := p_s3 (.pin true g2) (.val (.str p)) p (tp.mono (by decide)) L2 (by omega) t2
  refine ⟨L3, g2, ?_, f2, by omega, by omega, t3⟩
  have hg := gS_sla (s := p) (by have := tp.l; omega)
  rw [show f__law_paths = fBody 4 [0] s__law_paths from rfl, _law_paths_cut]
  simp only [List.map_cons, List.map_nil] at s1
  generalize paths_s1 = q1 at *
  generalize paths_s2 = q2 at *
  generalize paths_s3 = q3 at *
  generalize ys.map PyData.str = Y at *
  generalize (sla p).map PyData.str = X at *
  generalize L1.map PyData.str = Y1 at *
  generalize L2.map PyData.str = Y2 at *
  generalize L3.map PyData.str = Y3 at *
  simp -implicitDefEqProofs [hg, c1, c2, s1, s2, s3]
end K

namespace K
open PySem L2 RZ SE
open TL (tl mk_tl tl_mk tl_append ext_tl len_tl joinL)
/-! ### notes -/
abbrev NT := Str × Str × Bool
abbrev NL (ns : List NT) : D := .list (ns.map nD)
def NX (n : NT) : Prop := TX 900 n.1 ∧ TX 900 n.2.1
def ge (ns : List NT) (k : Nat) : NT := ns.getD k ((Str.ofString "", Str.ofString "", false))
theorem shp_nD {n : NT} (h : NX n) : shp 2 (nD n) = true := by
  have h1 := h.1.k
  have h2 := h.2.k
  simp [nD, shp, h1, h2]
theorem eq_NL {ns : List NT} (h : ∀ n, n ∈ ns → NX n) : eqD (NL ns) (NL ns) = some true := eqD_self 3 (by decide) (by
  show (ns.map nD).all (shp 2) = true
  rw [List.all_map, List.all_eq_true]
  exact fun n hn => shp_nD (h n hn))
theorem ge_mem {ns : List NT} {k : Nat} (h : k < ns.length) : ge ns k ∈ ns := by
  unfold ge
  rw [List.getD_eq_getElem?_getD, List.getElem?_eq_getElem h]
  exact List.getElem_mem h
theorem at_N {ns : List NT} {k : Nat} (h : k < ns.length) : atI (ns.map nD) (k : Int) = some (nD (ge ns k)) := by
  rw [SE.atI_n, List.getElem?_map, List.getElem?_eq_getElem h]
  unfold ge
  rw [List.getD_eq_getElem?_getD, List.getElem?_eq_getElem h]; rfl
theorem enum_rng {α : Type} (f : α → D) : ∀ (xs : List α) (j : Nat), enumFrom j (xs.map f) = (List.range xs.length).map fun k => PyData.tuple [.int ((j + k : Nat) : Int), (xs.map f).getD k .none]
  | [], j => rfl
  | x :: xs, j => by
    rw [List.map_cons, enumFrom, enum_rng f xs (j + 1), List.length_cons, List.range_succ_eq_map, List.map_cons, List.map_map]
    congr 1
    refine List.map_congr_left fun k _ => ?_
    simp only [Function.comp, Nat.succ_eq_add_one, List.getD_cons_succ]
    rw [show j + 1 + k = j + (k + 1) by omega]
theorem enum_N (ns : List NT) : enumFrom 0 (ns.map nD) = (List.range ns.length).map fun k : Nat => PyData.tuple [.int (k : Int), nD (ge ns k)] := by
  rw [enum_rng]
  refine List.map_congr_left fun k hk => ?_
  have hk := List.mem_range.mp hk
  rw [Nat.zero_add]
  unfold ge
  rw [List.getD_eq_getElem?_getD, List.getD_eq_getElem?_getD, List.getElem?_map, List.getElem?_eq_getElem hk]
  rfl
def stB (host path : Str) (n : NT) : Bool := sentB n.1 n.2.1 n.2.2 host path
/-- the length of its path, its place -/
def zk (ns : List NT) (k : Nat) : Int × Int := (-((ge ns k).2.1.length : Int), (k : Int))
def zs (ns : List NT) (host path : Str) : List (Int × Int) := ((List.range ns.length).filter fun k => stB host path (ge ns k)).map (zk ns)
def so (ns : List NT) (host path : Str) : List (Int × Int) := sortBy pq (zs ns host path)
theorem sent_ok (n : NT) (host path : Str) (h : NX n) : f_is_sent [.val (nD n), .val (.str host), .val (.str path)] = .ok (.val (.bool (stB host path n)), []) := by
  obtain ⟨a, b, c⟩ := n
  exact is_sent_ok a b host path c h.1.l h.2.l
theorem lgoes_ok (n : NT) (host path : Str) (h : NX n) (th : TX 900 host) (tp : TX 900 path) : f__law_goes [.val (nD n), .val (.str host), .val (.str path)] = .ok (.val (.bool (stB host path n)), []) := by
  obtain ⟨a, b, c⟩ := n
  exact goes_ok a b host path c h.1 h.2 th tp
theorem so_len (ns : List NT) (host path : Str) : (so ns host path).length ≤ ns.length := by
  unfold so zs
  rw [(sortBy_perm pq _).length_eq, List.length_map]
  have := List.length_filter_le (fun k => stB host path (ge ns k)) (List.range ns.length)
  simpa using this
theorem along_ok (ns : List NT) (hl : ns.length ≤ 900) (hx : ∀ n, n ∈ ns → NX n) (host path : Str) : f_sent_along [.val (NL ns), .val (.str host), .val (.str path)] = .ok (.own ((so ns host path).map fun z => PyData.int z.2), []) := by
  have hc : compL (bTup [bName 4, bName 5]) (t1 (.m (mCall f_is_sent [.v (mV 5), .v (mV 1), .v (mV 2)]))) (mTup [.m (m1 oNeg (.m (m1 oLen (.m (m2 oIx (.pk 5) (.m (mC (.int 1)))))))), .m (mV 4)]) [4, 5] (enumFrom 0 (ns.map nD)) [] [.val (NL ns), .val (.str host), .val (.str path), .un, .un, .un, .un] = .ok ((zs ns host path).map pq, [.val (NL ns), .val (.str host), .val (.str path), .un, .un, .un, .un]) := by
    rw [enum_N]
    unfold zs
    rw [List.map_map]
    refine compL_filT (fun k : Nat => PyData.tuple [.int (k : Int), nD (ge ns k)]) (fun k => stB host path (ge ns k)) (pq ∘ zk ns) _ _ (by simp; omega) (fun k hk => ?_)
    have hk := List.mem_range.mp hk
    have hm := hx _ (ge_mem hk)
    have h1 := sent_ok (ge ns k) host path hm
    have hpl := hm.2.l
    have hsm : small ((ge ns k).2.1.length : Int) = true := small_nat (by omega)
    have hz : (ge ns k).2.1.length ≤ 16777216 := by omega
    simp only [Function.comp, zk, pq]
    generalize stB host path (ge ns k) = b at *
    simp only [NL]
    generalize ns.map nD = X at *
    generalize ge ns k = n at *
    obtain ⟨n1, n2, n3⟩ := n
    refine ⟨[.val (.list X), .val (.str host), .val (.str path), .un, .val (.int (k : Int)), .val (nD (n1, n2, n3)), .un], [.val (.list X), .val (.str host), .val (.str path), .un, .val (.int (k : Int)), .val (nD (n1, n2, n3)), .un], by simp, ?_, ?_⟩
    · generalize nD (n1, n2, n3) = d at *
      simp -implicitDefEqProofs [h1]
    · split
      · refine ⟨[.val (.list X), .val (.str host), .val (.str path), .un, .val (.int (k : Int)), .val (nD (n1, n2, n3)), .un], ?_, rfl⟩
        simp -implicitDefEqProofs [nD, hsm, hz] at hsm hz ⊢
        try simp -implicitDefEqProofs [hsm, hz]
      · rfl
  have hs := sortX_pq (zs ns host path) (o := .own ((zs ns host path).map pq)) rfl
  have hc2 : ∀ x3 : O, compL (bTup [bName 6, bName 4]) tTrue (mV 4) [6, 4] ((so ns host path).map pq) [] [.val (NL ns), .val (.str host), .val (.str path), x3, .un, .un, .un] = .ok ((so ns host path).map (fun z => PyData.int z.2), [.val (NL ns), .val (.str host), .val (.str path), x3, .un, .un, .un]) := fun x3 => by
    have hlz := so_len ns host path
    refine compL_mapT pq (fun z => PyData.int z.2) _ _ (by omega) (fun z hz => ?_)
    simp only [NL]
    generalize ns.map nD = X at *
    exact ⟨[.val (.list X), .val (.str host), .val (.str path), x3, .val (.int z.2), .un, .val (.int z.1)], [.val (.list X), .val (.str host), .val (.str path), x3, .val (.int z.2), .un, .val (.int z.1)], [.val (.list X), .val (.str host), .val (.str path), x3, .val (.int z.2), .un, .val (.int z.1)], by simp [pq], rfl, by simp, rfl⟩
  rw [show sortBy pq (zs ns host path) = so ns host path from rfl] at hs
  generalize (so ns host path).map pq = Q1 at *
  generalize (so ns host path).map (fun z => PyData.int z.2) = Q2 at *
  generalize (zs ns host path).map pq = Q0 at *
  simp only [NL] at *
  generalize ns.map nD = X at *
  simp -implicitDefEqProofs [f_sent_along, s_sent_along, hc, hs, hc2]
abbrev _law_sent_right_b0 : S := (sIf (tOrS (tNotS (t1 (.m (mCall f__law_whole [.v (m2 oIx (.pk 4) (.pk 6))])))) (tb (m2 oNe (.m (m2 oIx (.pk 4) (.pk 6))) (.m (m2 oIx (.m (m2 oIx (.pk 5) (.pk 6))) (.m (mC (.int 1)))))))) (sRet (mC (.bool false))) (sNop))
abbrev _law_sent_right_b1 : S := (sIf (tNotS (t1 (.m (mCall f__law_yes [.v (mCall f_is_sent [.v (mV 7), .v (mV 1), .v (mV 2)]), .v (mCall f__law_goes [.v (mV 7), .v (mV 1), .v (mV 2)])])))) (sRet (mC (.bool false))) (sNop))
abbrev sr_c : M := (m1 oSortX (.m (mComp (srcR1 (m1 oLen (.pk 0))) (bName 6) (t1 (.m (mCall f__law_goes [.v (m2 oIx (.pk 0) (.pk 6)), .v (mV 1), .v (mV 2)]))) (mTup [.m (m1 oNeg (.m (m1 oLen (.m (m2 oIx (.m (m2 oIx (.pk 0) (.pk 6))) (.m (mC (.int 1)))))))), .m (mV 6)]) [6])))
theorem _law_sent_right_cut : s__law_sent_right = (sSeq (sSet 3 (m1 oList (.pk 0)))
  (sSeq (sSet 4 (mCall f_sent_along [.v (mV 3), .v (mV 1), .v (mV 2)]))
  (sSeq (sSet 5 sr_c)
  (sSeq (sIf (tOrS (tNotS (t1 (.m (m1 (oIsi "list") (.pk 4))))) (tOrS (tb (m2 oNe (.m (m1 oLen (.pk 4))) (.m (m1 oLen (.pk 5))))) (tb (m2 oNe (.pk 3) (.pk 0))))) (sRet (mC (.bool false))) (sNop))
  (sSeq (sFor (srcR1 (m1 oLen (.pk 5))) (bName 6) _law_sent_right_b0)
  (sSeq (sFor (srcM (mV 0)) (bName 7) _law_sent_right_b1)
  (sRet (mC (.bool true))))))))) := rfl
theorem lwhole2 (i : Int) : f__law_whole [.val (.int i)] = .ok (.val (.bool true), []) := lwhole i
theorem lyes (b : Bool) : f__law_yes [.val (.bool b), .val (.bool b)] = .ok (.val (.bool true), []) := by cases b <;> rfl
theorem right_ok (ns : List NT) (hl : ns.length ≤ 900) (hx : ∀ n, n ∈ ns → NX n) (host path : Str) (th : TX 900 host) (tp : TX 900 path) : f__law_sent_right [.val (NL ns), .val (.str host), .val (.str path)] = .ok (.val (.bool true), []) := by
  have h1 := along_ok ns hl hx host path
  have hlen : (ns.map nD).length = ns.length := List.length_map _
  have hsm : small (ns.length : Int) = true := small_nat (by omega)
  have hc : ∀ x3 x4 : O, compL (bName 6) (t1 (.m (mCall f__law_goes [.v (m2 oIx (.pk 0) (.pk 6)), .v (mV 1), .v (mV 2)]))) (mTup [.m (m1 oNeg (.m (m1 oLen (.m (m2 oIx (.m (m2 oIx (.pk 0) (.pk 6))) (.m (mC (.int 1)))))))), .m (mV 6)]) [6] (rng 0 ns.length) [] [.val (NL ns), .val (.str host), .val (.str path), x3, x4, .un, .un, .un] = .ok ((zs ns host path).map pq, [.val (NL ns), .val (.str host), .val (.str path), x3, x4, .un, .un, .un]) := fun x3 x4 => by
    rw [rngN]
    unfold zs
    rw [List.map_map]
    refine compL_filT (fun k : Nat => PyData.int (k : Int)) (fun k => stB host path (ge ns k)) (pq ∘ zk ns) _ _ (by simp; omega) (fun k hk => ?_)
    have hk := List.mem_range.mp hk
    have hm := hx _ (ge_mem hk)
    have ha := at_N hk
    have h1 := lgoes_ok (ge ns k) host path hm th tp
    have hpl := hm.2.l
    have hsm : small ((ge ns k).2.1.length : Int) = true := small_nat (by omega)
    have hz : (ge ns k).2.1.length ≤ 16777216 := by omega
    simp only [Function.comp, zk, pq]
    generalize stB host path (ge ns k) = b at *
    simp only [NL]
    generalize ns.map nD = X at *
    generalize ge ns k = n at *
    obtain ⟨n1, n2, n3⟩ := n
    refine ⟨[.val (.list X), .val (.str host), .val (.str path), x3, x4, .un, .val (.int (k : Int)), .un], [.val (.list X), .val (.str host), .val (.str path), x3, x4, .un, .val (.int (k : Int)), .un], by simp, ?_, ?_⟩
    · generalize nD (n1, n2, n3) = d at *
      simp -implicitDefEqProofs [h1, ha]
    · split
      · refine ⟨[.val (.list X), .val (.str host), .val (.str path), x3, x4, .un, .val (.int (k : Int)), .un], ?_, rfl⟩
        simp -implicitDefEqProofs only [] at hsm hz
        have hsm2 : small (n2.length : Int) = true := hsm
        have hz2 : n2.length ≤ 16777216 := hz
        rw [show nD (n1, n2, n3) = .tuple [.str n1, .str n2, .bool n3] from rfl] at ha
        simp -implicitDefEqProofs [ha, hsm2, hz2]
      · rfl
  have hs := sortX_pq (zs ns host path) (o := .own ((zs ns host path).map pq)) rfl
  rw [show sortBy pq (zs ns host path) = so ns host path from rfl] at hs
  have heq := eq_NL hx
  have hsl := so_len ns host path
  have hl4 : ((so ns host path).map fun z => PyData.int z.2).length = (so ns host path).length := List.length_map _
  have hl5 : ((so ns host path).map pq).length = (so ns host path).length := List.length_map _
  have hss : small ((so ns host path).length : Int) = true := small_nat (by omega)
  obtain ⟨e', c1, x6, rfl, p6⟩ := forL_rng (g := bName 6) (body := _law_sent_right_b0) (fun k e => ∃ x6 : O, e = [.val (NL ns), .val (.str host), .val (.str path), .val (NL ns), .own ((so ns host path).map fun z => PyData.int z.2), .own ((so ns host path).map pq), x6, .un] ∧ x6.pinned = false) (so ns host path).length [.val (NL ns), .val (.str host), .val (.str path), .val (NL ns), .own ((so ns host path).map fun z => PyData.int z.2), .own ((so ns host path).map pq), .un, .un] ⟨_, rfl, rfl⟩ (fun k hk e he => by
    obtain ⟨x6, rfl, p6⟩ := he
    have a1 : atI ((so ns host path).map fun z => PyData.int z.2) (k : Int) = some (.int ((so ns host path)[k]).2) := by
      rw [SE.atI_n, List.getElem?_map, List.getElem?_eq_getElem hk]; rfl
    have a2 : atI ((so ns host path).map pq) (k : Int) = some (.tuple [.int ((so ns host path)[k]).1, .int ((so ns host path)[k]).2]) := by
      rw [SE.atI_n, List.getElem?_map, List.getElem?_eq_getElem hk]; rfl
    have w := lwhole ((so ns host path)[k]).2
    generalize ((so ns host path)[k]).1 = z1 at *
    generalize ((so ns host path)[k]).2 = z2 at *
    generalize (so ns host path).map (fun z => PyData.int z.2) = Q1 at *
    generalize (so ns host path).map pq = Q2 at *
    simp only [NL] at *
    generalize ns.map nD = X at *
    refine ⟨[.val (.list X), .val (.str host), .val (.str path), .val (.list X), .own Q1, .own Q2, .val (.int (k : Int)), .un], by simp [p6], ?_⟩
    have st : _law_sent_right_b0 [.val (.list X), .val (.str host), .val (.str path), .val (.list X), .own Q1, .own Q2, .val (.int (k : Int)), .un] = .next [.val (.list X), .val (.str host), .val (.str path), .val (.list X), .own Q1, .own Q2, .val (.int (k : Int)), .un] := by
      simp -implicitDefEqProofs [a1, a2, w]
    rw [st]
    exact ⟨_, rfl, rfl⟩)
  obtain ⟨e', c2, x7, rfl, p7⟩ := forL_map (g := bName 7) (body := _law_sent_right_b1) nD (fun p e => ∃ x7 : O, e = [.val (NL ns), .val (.str host), .val (.str path), .val (NL ns), .own ((so ns host path).map fun z => PyData.int z.2), .own ((so ns host path).map pq), x6, x7] ∧ x7.pinned = false) ns [.val (NL ns), .val (.str host), .val (.str path), .val (NL ns), .own ((so ns host path).map fun z => PyData.int z.2), .own ((so ns host path).map pq), x6, .un] ⟨_, rfl, rfl⟩ (fun p n s hd e he => by
    obtain ⟨x7, rfl, p7⟩ := he
    have hm := hx n (by rw [hd]; simp)
    have h1 := sent_ok n host path hm
    have h2 := lgoes_ok n host path hm th tp
    have h3 := lyes (stB host path n)
    generalize stB host path n = b at *
    generalize (so ns host path).map (fun z => PyData.int z.2) = Q1 at *
    generalize (so ns host path).map pq = Q2 at *
    simp only [NL] at *
    generalize ns.map nD = X at *
    refine ⟨[.val (.list X), .val (.str host), .val (.str path), .val (.list X), .own Q1, .own Q2, x6, .val (nD n)], by simp [p7], ?_⟩
    have st : _law_sent_right_b1 [.val (.list X), .val (.str host), .val (.str path), .val (.list X), .own Q1, .own Q2, x6, .val (nD n)] = .next [.val (.list X), .val (.str host), .val (.str path), .val (.list X), .own Q1, .own Q2, x6, .val (nD n)] := by
      generalize nD n = d at *
      simp -implicitDefEqProofs [h1, h2, h3]
    rw [st]
    exact ⟨_, rfl, rfl⟩)
  have hcc : sr_c [.val (NL ns), .val (.str host), .val (.str path), .val (NL ns), .own ((so ns host path).map fun z => PyData.int z.2), .un, .un, .un] = .ok (.own ((so ns host path).map pq), [.val (NL ns), .val (.str host), .val (.str path), .val (NL ns), .own ((so ns host path).map fun z => PyData.int z.2), .un, .un, .un]) := by
    clear c1 c2 heq h1
    generalize (so ns host path).map (fun z => PyData.int z.2) = Q1 at *
    generalize (so ns host path).map pq = Q2 at *
    generalize (zs ns host path).map pq = Q0 at *
    simp only [NL] at *
    generalize ns.map nD = X at *
    simp -implicitDefEqProofs [hlen, hsm, hc, hs]
  rw [show f__law_sent_right = fBody 8 [] s__law_sent_right from rfl, _law_sent_right_cut]
  generalize _law_sent_right_b0 = b0 at *
  generalize _law_sent_right_b1 = b1 at *
  generalize sr_c = sr at *
  clear hc hs
  generalize (so ns host path).map (fun z => PyData.int z.2) = Q1 at *
  generalize (so ns host path).map pq = Q2 at *
  simp only [NL] at *
  generalize ns.map nD = X at *
  simp -implicitDefEqProofs [h1, hcc, hl4, hl5, hss, heq, c1, c2]
end K

namespace K
open PySem L2 RZ SE
open TL (tl mk_tl tl_mk tl_append ext_tl len_tl joinL)
def hs0 (h : Str) : List Str := [h, "", ".", "a.", ".a", "a..b", "a.b.c.d", "a.b.c.d.e", "abcdefgh", "abcdefghi", "A", "a/b", "a b", "a1"]
def ps0 (p : Str) : List Str := [p, "", "/", "//", "a", "/a/", "/a//b", "/a/b/c/d", "/a/b/c/d/e", "/abcdefgh", "/abcdefghi", "/A", "/a.b"]
theorem hs0_x {h : Str} (th : TX 900 h) : TXs 900 (hs0 h) := fun y hy => by
  unfold hs0 at hy
  rcases List.mem_cons.mp hy with rfl | hy
  · exact th
  · have : ∀ z, z ∈ (["", ".", "a.", ".a", "a..b", "a.b.c.d", "a.b.c.d.e", "abcdefgh", "abcdefghi", "A", "a/b", "a b", "a1"] : List Str) → (decide (z.length ≤ 900) && PyData.strOk z) = true := by
      rw [← List.all_eq_true]
      decide +kernel
    have := this y hy
    rw [Bool.and_eq_true, decide_eq_true_eq] at this
    exact ⟨this.1, this.2⟩
theorem ps0_x {p : Str} (tp : TX 900 p) : TXs 900 (ps0 p) := fun y hy => by
  unfold ps0 at hy
  rcases List.mem_cons.mp hy with rfl | hy
  · exact tp
  · have : ∀ z, z ∈ (["", "/", "//", "a", "/a/", "/a//b", "/a/b/c/d", "/a/b/c/d/e", "/abcdefgh", "/abcdefghi", "/A", "/a.b"] : List Str) → (decide (z.length ≤ 900) && PyData.strOk z) = true := by
      rw [← List.all_eq_true]
      decide +kernel
    have := this y hy
    rw [Bool.and_eq_true, decide_eq_true_eq] at this
    exact ⟨this.1, this.2⟩
def outN (o : Option Int) : List D := match o with | some k => [.str "refused", .int k] | none => [.str "let", .none]
theorem fault2 (h p : Str) (b : Bool) (th : TX 900 h) (tp : TX 900 p) : f__law_fault [.val (nD (h, p, b))] = .ok (.own (outN (noteO h p)), []) := by
  rw [fault_ok h p b th.l tp.l]
  cases noteO h p <;> rfl
theorem due2 (h p : Str) (b : Bool) (th : TX 900 h) (tp : TX 900 p) : f__law_due_fault [.val (nD (h, p, b))] = .ok (.own (outN (noteO h p)), []) := by
  rw [due_ok h p b th.l tp.l]
  cases noteO h p <;> rfl
theorem eq_out (o : Option Int) : eqD (.list (outN o)) (.list (outN o)) = some true := by
  cases o with
  | none => decide +kernel
  | some k =>
    refine eqD_self 3 (by decide) ?_
    have : PyData.strOk (Str.ofString "refused") = true := by decide +kernel
    simp [outN, shp, this]
abbrev _law_faults_right_b0 : S := (sSeq (sSet 5 (mTup [.m (mV 4), .m (m2 oIx (.pk 3) (.m (mCall f__law_draw [.io 0, .v (m1 oLen (.pk 3))]))), .m (m2 oIx (.pk 1) (.m (mC (.int 2))))])) (sIf (tOrS (tb (m2 oNe (.m (mCall f__law_fault [.v (mV 5)])) (.m (mCall f__law_due_fault [.v (mV 5)])))) (tb (m2 oNe (.m (mCall f__law_fault [.v (mTup [.m (mV 4), .m (mC (.str "/")), .m (mC (.bool true))])])) (.m (mCall f__law_due_fault [.v (mTup [.m (mV 4), .m (mC (.str "/")), .m (mC (.bool true))])]))))) (sRet (mC (.bool false))) (sNop)))
abbrev _law_faults_right_b1 : S := (sSeq (sSet 5 (mTup [.m (m2 oIx (.pk 1) (.m (mC (.int 0)))), .m (mV 6), .m (m2 oIx (.pk 1) (.m (mC (.int 2))))])) (sIf (tb (m2 oNe (.m (mCall f__law_fault [.v (mV 5)])) (.m (mCall f__law_due_fault [.v (mV 5)])))) (sRet (mC (.bool false))) (sNop)))
abbrev fr_h : M := (mLst [.m (m2 oIx (.pk 1) (.m (mC (.int 0)))), .m (mC (.str "")), .m (mC (.str ".")), .m (mC (.str "a.")), .m (mC (.str ".a")), .m (mC (.str "a..b")), .m (mC (.str "a.b.c.d")), .m (mC (.str "a.b.c.d.e")), .m (mC (.str "abcdefgh")), .m (mC (.str "abcdefghi")), .m (mC (.str "A")), .m (mC (.str "a/b")), .m (mC (.str "a b")), .m (mC (.str "a1"))])
abbrev fr_p : M := (mLst [.m (m2 oIx (.pk 1) (.m (mC (.int 1)))), .m (mC (.str "")), .m (mC (.str "/")), .m (mC (.str "//")), .m (mC (.str "a")), .m (mC (.str "/a/")), .m (mC (.str "/a//b")), .m (mC (.str "/a/b/c/d")), .m (mC (.str "/a/b/c/d/e")), .m (mC (.str "/abcdefgh")), .m (mC (.str "/abcdefghi")), .m (mC (.str "/A")), .m (mC (.str "/a.b"))])
theorem _law_faults_right_cut : s__law_faults_right = (sSeq (sSet 2 fr_h)
  (sSeq (sSet 3 fr_p)
  (sSeq (sFor (srcM (mV 2)) (bName 4) _law_faults_right_b0)
  (sSeq (sFor (srcM (mV 3)) (bName 6) _law_faults_right_b1)
  (sRet (mC (.bool true))))))) := rfl
theorem f_s0 {fs : List D} (hf : Feed fs) (h p g : Str) (b : Bool) (tp : TX 900 p) (tg : TX 900 g) (x2 x5 : O) (p5 : x5.pinned = false) : ∃ (gs : List D) (y5 : O), _law_faults_right_b0 [.pin true fs, .val (nD (h, p, b)), x2, .own ((ps0 p).map .str), .val (.str g), x5, .un] = .next [.pin true gs, .val (nD (h, p, b)), x2, .own ((ps0 p).map .str), .val (.str g), y5, .un] ∧ Feed gs ∧ y5.pinned = false := by
  have hl : (ps0 p).length = 13 := rfl
  obtain ⟨d, g1, c1, u1, u2, f1⟩ := draw_ok hf 13 (by decide) (by decide)
  obtain ⟨k, rfl⟩ : ∃ k : Nat, d = (k : Int) := ⟨d.toNat, by omega⟩
  obtain ⟨q, hq, ha⟩ := get_str (ys := ps0 p) (k := k) (by omega)
  have tq := ps0_x tp q hq
  have e1 := fault2 g q b tg tq
  have e2 := due2 g q b tg tq
  have e3 := fault2 g (Str.ofString "/") true tg (tx_sla.mono (by decide))
  have e4 := due2 g (Str.ofString "/") true tg (tx_sla.mono (by decide))
  have e5 := eq_out (noteO g q)
  have e6 := eq_out (noteO g (Str.ofString "/"))
  have hln : ((ps0 p).map PyData.str).length = 13 := rfl
  refine ⟨g1, .val (nD (g, q, b)), ?_, f1, rfl⟩
  generalize outN (noteO g q) = o1 at *
  generalize outN (noteO g (Str.ofString "/")) = o2 at *
  generalize (ps0 p).map PyData.str = X at *
  simp only [nD] at *
  simp -implicitDefEqProofs [p5, c1, ha, hln, e1, e2, e3, e4, e5, e6]
theorem f_s1 (h p g : Str) (b : Bool) (th : TX 900 h) (tg : TX 900 g) (x0 x2 x3 x4 x5 : O) (p5 : x5.pinned = false) : ∃ (y5 : O), _law_faults_right_b1 [x0, .val (nD (h, p, b)), x2, x3, x4, x5, .val (.str g)] = .next [x0, .val (nD (h, p, b)), x2, x3, x4, y5, .val (.str g)] ∧ y5.pinned = false := by
  have e1 := fault2 h g b th tg
  have e2 := due2 h g b th tg
  have e5 := eq_out (noteO h g)
  refine ⟨.val (nD (h, g, b)), ?_, rfl⟩
  generalize outN (noteO h g) = o1 at *
  simp only [nD] at *
  simp -implicitDefEqProofs [p5, e1, e2, e5]
theorem faults_ok {fs : List D} (hf : Feed fs) (h p : Str) (b : Bool) (th : TX 900 h) (tp : TX 900 p) : ∃ gs, f__law_faults_right [.pin true fs, .val (nD (h, p, b))] = .ok (.val (.bool true), [gs]) ∧ Feed gs := by
  have hh : fr_h [.pin true fs, .val (nD (h, p, b)), .un, .un, .un, .un, .un] = .ok (.own ((hs0 h).map .str), [.pin true fs, .val (nD (h, p, b)), .un, .un, .un, .un, .un]) := by
    unfold hs0
    simp
  have hp : fr_p [.pin true fs, .val (nD (h, p, b)), .own ((hs0 h).map .str), .un, .un, .un, .un] = .ok (.own ((ps0 p).map .str), [.pin true fs, .val (nD (h, p, b)), .own ((hs0 h).map .str), .un, .un, .un, .un]) := by
    generalize (hs0 h).map PyData.str = Y
    unfold ps0
    simp
  obtain ⟨e', c1, gs, x4, x5, rfl, hfs, p4, p5⟩ := forL_map (g := bName 4) (body := _law_faults_right_b0) PyData.str (fun q e => ∃ (gs : List D) (x4 x5 : O), e = [.pin true gs, .val (nD (h, p, b)), .val (.list ((hs0 h).map .str)), .own ((ps0 p).map .str), x4, x5, .un] ∧ Feed gs ∧ x4.pinned = false ∧ x5.pinned = false) (hs0 h) [.pin true fs, .val (nD (h, p, b)), .val (.list ((hs0 h).map .str)), .own ((ps0 p).map .str), .un, .un, .un] ⟨_, _, _, rfl, hf, rfl, rfl⟩ (fun q g s hd e he => by
    obtain ⟨gs, x4, x5, rfl, hfs, p4, p5⟩ := he
    obtain ⟨g2, y5, st, f2, q5⟩ := f_s0 hfs h p g b tp (hs0_x th g (by rw [hd]; simp)) (.val (.list ((hs0 h).map .str))) x5 p5
    refine ⟨[.pin true gs, .val (nD (h, p, b)), .val (.list ((hs0 h).map .str)), .own ((ps0 p).map .str), .val (.str g), x5, .un], ?_, ?_⟩
    · generalize (ps0 p).map PyData.str = Y
      generalize (hs0 h).map PyData.str = Y2
      simp [p4]
    · rw [st]
      exact ⟨_, _, _, rfl, f2, rfl, q5⟩)
  obtain ⟨e', c2, z5, z6, rfl, q5, q6⟩ := forL_map (g := bName 6) (body := _law_faults_right_b1) PyData.str (fun q e => ∃ (x5 x6 : O), e = [.pin true gs, .val (nD (h, p, b)), .val (.list ((hs0 h).map .str)), .val (.list ((ps0 p).map .str)), x4, x5, x6] ∧ x5.pinned = false ∧ x6.pinned = false) (ps0 p) [.pin true gs, .val (nD (h, p, b)), .val (.list ((hs0 h).map .str)), .val (.list ((ps0 p).map .str)), x4, x5, .un] ⟨_, _, rfl, p5, rfl⟩ (fun q g s hd e he => by
    obtain ⟨x5, x6, rfl, p5, p6⟩ := he
    obtain ⟨y5, st, q5⟩ := f_s1 h p g b th (ps0_x tp g (by rw [hd]; simp)) (.pin true gs) (.val (.list ((hs0 h).map .str))) (.val (.list ((ps0 p).map .str))) x4 x5 p5
    refine ⟨[.pin true gs, .val (nD (h, p, b)), .val (.list ((hs0 h).map .str)), .val (.list ((ps0 p).map .str)), x4, x5, .val (.str g)], ?_, ?_⟩
    · generalize (ps0 p).map PyData.str = Y
      generalize (hs0 h).map PyData.str = Y2
      simp [p6]
    · rw [st]
      exact ⟨_, _, rfl, q5, rfl⟩)
  refine ⟨gs, ?_, hfs⟩
  rw [show f__law_faults_right = fBody 7 [0] s__law_faults_right from rfl, _law_faults_right_cut]
  generalize _law_faults_right_b0 = b0 at *
  generalize _law_faults_right_b1 = b1 at *
  generalize fr_h = fh at *
  generalize fr_p = fp at *
  generalize nD (h, p, b) = d at *
  generalize (ps0 p).map PyData.str = Y at *
  generalize (hs0 h).map PyData.str = Y2 at *
  simp -implicitDefEqProofs [hh, hp, c1, c2]
end K

namespace K
open PySem L2 RZ SE
open TL (tl mk_tl tl_mk tl_append ext_tl len_tl joinL)
abbrev law_b2 : S := (sIf (tNotS (t1 (.m (mCall f__law_yes [.v (mCall f_is_sent [.v (mV 9), .v (mV 7), .v (mV 8)]), .v (mCall f__law_goes [.v (mV 9), .v (mV 7), .v (mV 8)])])))) (sRet (mC (.bool false))) (sNop))
abbrev law_b1 : S := (sFor (srcM (mV 6)) (bName 9) law_b2)
abbrev law_q : S := (sIf (tNotS (t1 (.m (mCall f__law_sent_right [.v (m2 oAdd (.pk 6) (.m (mSlH (.pk 2) (.m (mC (.int 8)))))), .v (mV 7), .v (m2 oIx (.pk 5) (.m (mCall f__law_draw [.io 1, .v (m1 oLen (.pk 5))])))])))) (sRet (mC (.bool false))) (sNop))
abbrev law_b0 : S := (sSeq (sFor (srcM (mV 5)) (bName 8) law_b1) law_q)
abbrev law_b3 : S := (sSeq (sSet 7 (mSM (mC (.str ".")) [(.m (mCall f__law_words [.io 1, .v (mC (.int 4))]))] oJoin)) (sIf (tNotS (t1 (.m (mCall f__law_sent_right [.v (mV 2), .v (mV 7), .v (mCall f__law_path [.v (mCall f__law_words [.io 1, .v (mC (.int 4))])])])))) (sRet (mC (.bool false))) (sNop)))
abbrev law_c : M := (mComp (srcR1 (mCall f__law_draw [.io 1, .v (mC (.int 13))])) (bName 11) (tTrue) (frz (mCall f__law_note [.io 1])) [11])
abbrev law_e : S := (sRet (mAnd (m2 oIs (.m (mCall f_is_sent [.v (mV 3), .v (m2 oIx (.pk 3) (.m (mC (.int 0)))), .v (m2 oIx (.pk 3) (.m (mC (.int 1))))])) (.m (mC (.bool true)))) (m2 oEq (.m (mCall f_sent_along [.v (mLst [.m (mV 3), .m (mV 3)]), .v (m2 oIx (.pk 3) (.m (mC (.int 0)))), .v (m2 oIx (.pk 3) (.m (mC (.int 1))))])) (.m (mLst [.m (mC (.int 0)), .m (mC (.int 1))])))))
abbrev law_n1 : M := (mLst [.m (mV 3), .m (mTup [.m (m2 oIx (.pk 3) (.m (mC (.int 0)))), .m (m2 oIx (.pk 3) (.m (mC (.int 1)))), .m (m1 oNot (.m (m2 oIx (.pk 3) (.m (mC (.int 2))))))])])
abbrev law_n2 : M := (m2 oAdd (.pk 6) (.m (mLst [.m (mTup [.m (m2 oIx (.pk 4) (.m (m2 oSub (.m (m1 oLen (.pk 4))) (.m (mC (.int 1)))))), .m (m2 oIx (.pk 3) (.m (mC (.int 1)))), .m (mC (.bool true))]), .m (mTup [.m (m2 oIx (.pk 3) (.m (mC (.int 0)))), .m (m2 oIx (.pk 5) (.m (m2 oSub (.m (m1 oLen (.pk 5))) (.m (mC (.int 1)))))), .m (m2 oIx (.pk 3) (.m (mC (.int 2))))])])))
theorem law_cut : s_law = (sSeq (sSet 1 (mCall f__law_feed [.sc 0]))
  (sSeq (sSet 2 law_c)
  (sSeq (sSet 3 (mCall f__law_note [.io 1]))
  (sSeq (sIf (tNotS (t1 (.m (mCall f__law_faults_right [.io 1, .v (mV 3)])))) (sRet (mC (.bool false))) (sNop))
  (sSeq (sSet 4 (mCall f__law_hosts [.io 1, .v (m2 oIx (.pk 3) (.m (mC (.int 0))))]))
  (sSeq (sSet 5 (mCall f__law_paths [.io 1, .v (m2 oIx (.pk 3) (.m (mC (.int 1))))]))
  (sSeq (sSet 6 law_n1)
  (sSeq (sSet 6 law_n2)
  (sSeq (sFor (srcM (mV 4)) (bName 7) law_b0)
  (sSeq (sFor (srcR1 (mC (.int 3))) (bName 10) law_b3)
  law_e)))))))))) := rfl
theorem all2_of {α : Type} {f : α → D} {P : α → Prop} : ∀ {ds rs : List D}, All2 (fun _ r => ∃ s, r = f s ∧ P s) ds rs → ∃ ys : List α, rs = ys.map f ∧ ys.length = ds.length ∧ ∀ y, y ∈ ys → P y
  | _, _, .nil => ⟨[], rfl, rfl, fun y h => by cases h⟩
  | _, _, .cons h t => by
    obtain ⟨s, rfl, hp⟩ := h
    obtain ⟨ys, rfl, hl, hy⟩ := all2_of t
    exact ⟨s :: ys, rfl, by simp [hl], fun y hy2 => by
      rcases List.mem_cons.mp hy2 with rfl | hy2
      · exact hp
      · exact hy y hy2⟩
theorem notes_ok {fs : List D} (hf : Feed fs) (x0 : O) : ∃ (ns : List NT) (gs : List D), law_c [x0, .own fs, .un, .un, .un, .un, .un, .un, .un, .un, .un, .un] = .ok (.own (ns.map nD), [x0, .own gs, .un, .un, .un, .un, .un, .un, .un, .un, .un, .un]) ∧ Feed gs ∧ ns.length ≤ 13 ∧ ∀ n, n ∈ ns → NX n := by
  obtain ⟨d2, g2, c2, w1, w2, f2⟩ := draw_ok hf 13 (by decide) (by decide)
  obtain ⟨k, rfl⟩ : ∃ k : Nat, d2 = (k : Int) := ⟨d2.toNat, by omega⟩
  obtain ⟨rs, e', hc, ha, gs, rfl, hfs⟩ := compL_inv (g := bName 11) (t := tTrue) (elt := frz (mCall f__law_note [.io 1])) (vs := [11]) (fun e => ∃ gs, e = [x0, .own gs, .un, .un, .un, .un, .un, .un, .un, .un, .un, .un] ∧ Feed gs) (fun _ r => ∃ s : NT, r = nD s ∧ NX s) (rng 0 k) [] [x0, .own g2, .un, .un, .un, .un, .un, .un, .un, .un, .un, .un] ⟨_, rfl, f2⟩ (by rw [rngN]; simp; omega) (fun d hd e he => by
    obtain ⟨gs, rfl, hfs⟩ := he
    obtain ⟨h, p, b, g3, c3, f3, t1, t2⟩ := note_ok hfs
    refine ⟨[x0, .own gs, .un, .un, .un, .un, .un, .un, .un, .un, .un, .val d], [x0, .own gs, .un, .un, .un, .un, .un, .un, .un, .un, .un, .val d], [x0, .own g3, .un, .un, .un, .un, .un, .un, .un, .un, .un, .val d], nD (h, p, b), by simp, rfl, ?_, ⟨_, rfl, t1.mono (by decide), t2.mono (by decide)⟩, ⟨g3, rfl, f3⟩⟩
    generalize nD (h, p, b) = z at *
    simp -implicitDefEqProofs [c3])
  obtain ⟨ys, rfl, hyl, hyt⟩ := all2_of ha
  rw [rngN] at hyl
  simp at hyl
  have s1 : small (k : Int) = true := small_of (by omega) (by omega)
  rw [List.nil_append] at hc
  refine ⟨ys, gs, ?_, hfs, by omega, hyt⟩
  generalize ys.map nD = X at *
  simp -implicitDefEqProofs [c2, hc, s1]
theorem l_b2 (n : NT) (hn : NX n) (host path : Str) (th : TX 900 host) (tp : TX 900 path) (x0 x1 x2 x3 x4 x5 x6 x10 x11 : O) : law_b2 [x0, x1, x2, x3, x4, x5, x6, .val (.str host), .val (.str path), .val (nD n), x10, x11] = .next [x0, x1, x2, x3, x4, x5, x6, .val (.str host), .val (.str path), .val (nD n), x10, x11] := by
  have h1 := sent_ok n host path hn
  have h2 := lgoes_ok n host path hn th tp
  have h3 := lyes (stB host path n)
  generalize stB host path n = b at *
  generalize nD n = d at *
  simp -implicitDefEqProofs [h1, h2, h3]
theorem l_b1 (N : List NT) (hn : ∀ n, n ∈ N → NX n) (host path : Str) (th : TX 900 host) (tp : TX 900 path) (x0 x1 x2 x3 x4 x5 x6 x9 x10 x11 : O) (h6 : x6 = .own (N.map nD) ∨ x6 = .val (NL N)) (p9 : x9.pinned = false) : ∃ y9 : O, law_b1 [x0, x1, x2, x3, x4, x5, x6, .val (.str host), .val (.str path), x9, x10, x11] = .next [x0, x1, x2, x3, x4, x5, .val (NL N), .val (.str host), .val (.str path), y9, x10, x11] ∧ y9.pinned = false := by
  obtain ⟨e', c1, y9, rfl, q9⟩ := forL_map (g := bName 9) (body := law_b2) nD (fun p e => ∃ y9 : O, e = [x0, x1, x2, x3, x4, x5, .val (NL N), .val (.str host), .val (.str path), y9, x10, x11] ∧ y9.pinned = false) N [x0, x1, x2, x3, x4, x5, .val (NL N), .val (.str host), .val (.str path), x9, x10, x11] ⟨_, rfl, p9⟩ (fun p n s hd e he => by
    obtain ⟨y9, rfl, q9⟩ := he
    refine ⟨[x0, x1, x2, x3, x4, x5, .val (NL N), .val (.str host), .val (.str path), .val (nD n), x10, x11], ?_, ?_⟩
    · simp only [NL]
      generalize N.map nD = Y
      simp [q9]
    · rw [l_b2 n (hn n (by rw [hd]; simp)) host path th tp]
      exact ⟨_, rfl, rfl⟩)
  refine ⟨y9, ?_, q9⟩
  unfold law_b1
  generalize law_b2 = b2 at *
  simp only [NL] at *
  generalize N.map nD = Y at *
  rcases h6 with rfl | rfl <;> simp -implicitDefEqProofs [c1]
theorem l_b0 {fs : List D} (hf : Feed fs) (ns : List NT) (hns : ns.length ≤ 13) (hnx : ∀ n, n ∈ ns → NX n) (P : List Str) (hP1 : 1 ≤ P.length) (hP2 : P.length ≤ 20) (tP : TXs 900 P) (N : List NT) (hNl : N.length ≤ 10) (hn : ∀ n, n ∈ N → NX n) (host : Str) (th : TX 900 host) (x0 x3 x4 x5 x6 x8 x9 x10 x11 : O) (h5 : x5 = .own (P.map .str) ∨ x5 = .val (.list (P.map .str))) (h6 : x6 = .own (N.map nD) ∨ x6 = .val (NL N)) (p8 : x8.pinned = false) (p9 : x9.pinned = false) :
    ∃ (gs : List D) (y6 y8 y9 : O), law_b0 [x0, .own fs, .own (ns.map nD), x3, x4, x5, x6, .val (.str host), x8, x9, x10, x11] = .next [x0, .own gs, .own (ns.map nD), x3, x4, .val (.list (P.map .str)), y6, .val (.str host), y8, y9, x10, x11] ∧ Feed gs ∧ (y6 = .own (N.map nD) ∨ y6 = .val (NL N)) ∧ y8.pinned = false ∧ y9.pinned = false := by
  obtain ⟨e', c1, y6, y8, y9, rfl, q6, q8, q9⟩ := forL_map (g := bName 8) (body := law_b1) PyData.str (fun p e => ∃ y6 y8 y9 : O, e = [x0, .own fs, .own (ns.map nD), x3, x4, .val (.list (P.map .str)), y6, .val (.str host), y8, y9, x10, x11] ∧ (y6 = .own (N.map nD) ∨ y6 = .val (NL N)) ∧ y8.pinned = false ∧ y9.pinned = false) P [x0, .own fs, .own (ns.map nD), x3, x4, .val (.list (P.map .str)), x6, .val (.str host), x8, x9, x10, x11] ⟨_, _, _, rfl, h6, p8, p9⟩ (fun p q s hd e he => by
    obtain ⟨y6, y8, y9, rfl, q6, q8, q9⟩ := he
    obtain ⟨z9, st, r9⟩ := l_b1 N hn host q th (tP q (by rw [hd]; simp)) x0 (.own fs) (.own (ns.map nD)) x3 x4 (.val (.list (P.map .str))) y6 y9 x10 x11 q6 q9
    refine ⟨[x0, .own fs, .own (ns.map nD), x3, x4, .val (.list (P.map .str)), y6, .val (.str host), .val (.str q), y9, x10, x11], ?_, ?_⟩
    · generalize ns.map nD = Y
      generalize P.map PyData.str = Z
      simp [q8]
    · rw [st]
      exact ⟨_, _, _, rfl, .inr rfl, rfl, r9⟩)
  obtain ⟨d, g2, c2, u1, u2, f2⟩ := draw_ok hf (P.length : Int) (by omega) (by omega)
  obtain ⟨k, rfl⟩ : ∃ k : Nat, d = (k : Int) := ⟨d.toNat, by omega⟩
  obtain ⟨q, hq, ha⟩ := get_str (ys := P) (k := k) (by omega)
  have hr := right_ok (N ++ ns.take 8) (by rw [List.length_append, List.length_take]; omega) (fun n h => by
    rcases List.mem_append.mp h with h | h
    · exact hn n h
    · exact hnx n (List.mem_of_mem_take h)) host q th (tP q hq)
  have hln : (P.map PyData.str).length = P.length := List.length_map _
  have hsm : small (P.length : Int) = true := small_nat (by omega)
  have ct : cutD (ns.map nD) none (some 8) = (ns.take 8).map nD := by
    rw [show (8 : Int) = ((8 : Nat) : Int) from rfl, cut_hi, List.map_take]
  have hz : (N.map nD).length + ((ns.take 8).map nD).length ≤ 16777216 := by
    rw [List.length_map, List.length_map, List.length_take]; omega
  have hz1 : (N.map nD).length + (min 8 ns.length) ≤ 16777216 := by
    rw [List.length_map]; omega
  refine ⟨g2, y6, y8, y9, ?_, f2, q6, q8, q9⟩
  have hq2 : law_q [x0, .own fs, .own (ns.map nD), x3, x4, .val (.list (P.map .str)), y6, .val (.str host), y8, y9, x10, x11] = .next [x0, .own g2, .own (ns.map nD), x3, x4, .val (.list (P.map .str)), y6, .val (.str host), y8, y9, x10, x11] := by
    clear c1 hz1
    simp only [NL, List.map_append] at *
    generalize (ns.take 8).map nD = Y8 at *
    generalize ns.map nD = Y at *
    generalize P.map PyData.str = Z at *
    generalize N.map nD = W at *
    rcases q6 with rfl | rfl <;> simp -implicitDefEqProofs [c2, ha, hr, hln, hsm, ct, hz]
  unfold law_b0
  generalize law_b1 = b1 at *
  generalize law_q = lq at *
  simp only [NL] at *
  generalize ns.map nD = Y at *
  generalize P.map PyData.str = Z at *
  generalize N.map nD = W at *
  rcases h5 with rfl | rfl <;> simp -implicitDefEqProofs [c1, hq2]
end K

namespace K
open PySem L2 RZ SE
open TL (tl mk_tl tl_mk tl_append ext_tl len_tl joinL)
theorem l_b3 {fs : List D} (hf : Feed fs) (ns : List NT) (hns : ns.length ≤ 13) (hnx : ∀ n, n ∈ ns → NX n) (x0 x2 x3 x4 x5 x6 x7 x8 x9 x10 x11 : O) (h2 : x2 = .own (ns.map nD) ∨ x2 = .val (NL ns)) (p7 : x7.pinned = false) :
    ∃ (gs : List D) (y7 : O), law_b3 [x0, .own fs, x2, x3, x4, x5, x6, x7, x8, x9, x10, x11] = .next [x0, .own gs, .val (NL ns), x3, x4, x5, x6, y7, x8, x9, x10, x11] ∧ Feed gs ∧ y7.pinned = false := by
  obtain ⟨ys, g1, c1, f1, y1, y2, y3⟩ := words_ok hf 4 (by decide) (by decide)
  have hj := join_o (y := Str.ofString ".") (ys := ys) (by decide +kernel) (by omega) (fun x hx => (y3 x hx).mono (by decide)) (o := .own (ys.map .str)) rfl
  have tj : TX 900 (Txt.join (Str.ofString ".") ys) := (TX.join tx_dot y3).mono (by have : (8 + 1) * ys.length ≤ (8 + 1) * 4 := Nat.mul_le_mul_left _ (by omega); omega)
  obtain ⟨zs, g2, c2, f2, z1, z2, z3⟩ := words_ok f1 4 (by decide) (by decide)
  obtain ⟨q, c3, tq⟩ := path_ok zs (by omega) z3
  have hr := right_ok ns (by omega) hnx (Txt.join (Str.ofString ".") ys) q tj (tq.mono (by decide))
  refine ⟨g2, .val (.str (Txt.join (Str.ofString ".") ys)), ?_, f2, rfl⟩
  generalize Txt.join (Str.ofString ".") ys = J at *
  simp only [NL] at *
  generalize ns.map nD = Y at *
  generalize ys.map PyData.str = Z at *
  generalize zs.map PyData.str = W at *
  rcases h2 with rfl | rfl <;> simp -implicitDefEqProofs [c1, c2, c3, hj, hr, p7, -e_oJoin]
theorem l_e (n : NT) (hn : NX n) (x0 x1 x2 x4 x5 x6 x7 x8 x9 x10 x11 : O) : ∃ e2, law_e [x0, x1, x2, .val (nD n), x4, x5, x6, x7, x8, x9, x10, x11] = .ret (.val (.bool true)) e2 := by
  have hb : stB n.1 n.2.1 n = true := by
    unfold stB sentB hostB pathB
    simp
  have h1 := sent_ok n n.1 n.2.1 hn
  rw [hb] at h1
  have h2 := along_ok [n, n] (by simp) (fun m hm => by
    simp only [List.mem_cons, List.not_mem_nil, or_false, or_self] at hm
    rw [hm]; exact hn) n.1 n.2.1
  have hz : zs [n, n] n.1 n.2.1 = [(-(n.2.1.length : Int), 0), (-(n.2.1.length : Int), 1)] := by
    unfold zs
    have e0 : ge [n, n] 0 = n := rfl
    have e1 : ge [n, n] 1 = n := rfl
    rw [show List.range [n, n].length = [0, 1] from rfl]
    simp [e0, e1, hb, zk]
  have hs : so [n, n] n.1 n.2.1 = [(-(n.2.1.length : Int), 0), (-(n.2.1.length : Int), 1)] := by
    unfold so sortBy
    rw [hz]
    refine List.mergeSort_of_pairwise ?_
    simp [dLe_pq]
  rw [hs] at h2
  have q : eqD (.list [.int 0, .int 1]) (.list [.int 0, .int 1]) = some true := by decide +kernel
  simp only [List.map_cons, List.map_nil, NL] at h2
  obtain ⟨n1, n2, n3⟩ := n
  simp only [nD] at *
  simp -implicitDefEqProofs [h1, h2, q]
theorem law_ok (ns : List Int) (hns : ns.length ≤ 63) : f_law [.scr ns] = .ok (.val (.bool true), []) := by
  obtain ⟨fs, cf, hf⟩ := feed_ok ns
  obtain ⟨N, g1, c1, f1, l1, x1⟩ := notes_ok hf (.scr ns)
  obtain ⟨h, p, b, g2, c2, f2, th, tp⟩ := note_ok f1
  obtain ⟨g3, c3, f3⟩ := faults_ok f2 h p b (th.mono (by decide)) (tp.mono (by decide))
  obtain ⟨H, g4, c4, f4, h41, h42, tH⟩ := hosts_ok f3 h th
  obtain ⟨P, g5, c5, f5, h51, h52, tP⟩ := paths_ok f4 p tp
  obtain ⟨hl, hlm, hla⟩ := get_str (ys := H) (k := H.length - 1) (by omega)
  obtain ⟨pl, plm, pla⟩ := get_str (ys := P) (k := P.length - 1) (by omega)
  rw [show ((H.length - 1 : Nat) : Int) = (H.length : Int) - 1 by omega] at hla
  rw [show ((P.length - 1 : Nat) : Int) = (P.length : Int) - 1 by omega] at pla
  have hHl : (H.map PyData.str).length = H.length := List.length_map _
  have hPl : (P.map PyData.str).length = P.length := List.length_map _
  have sH : small (H.length : Int) = true := small_nat (by omega)
  have sP : small (P.length : Int) = true := small_nat (by omega)
  have hn1 : law_n1 [.scr ns, .own g5, .own (N.map nD), .val (nD (h, p, b)), .own (H.map .str), .own (P.map .str), .un, .un, .un, .un, .un, .un] = .ok (.own [nD (h, p, b), nD (h, p, !b)], [.scr ns, .own g5, .own (N.map nD), .val (nD (h, p, b)), .own (H.map .str), .own (P.map .str), .un, .un, .un, .un, .un, .un]) := by
    generalize N.map nD = X at *
    generalize H.map PyData.str = Y at *
    generalize P.map PyData.str = Z at *
    simp [nD]
  have hn2 : law_n2 [.scr ns, .own g5, .own (N.map nD), .val (nD (h, p, b)), .own (H.map .str), .own (P.map .str), .own [nD (h, p, b), nD (h, p, !b)], .un, .un, .un, .un, .un] = .ok (.own ([(h, p, b), (h, p, !b), (hl, p, true), (h, pl, b)].map nD), [.scr ns, .own g5, .own (N.map nD), .val (nD (h, p, b)), .own (H.map .str), .own (P.map .str), .own [nD (h, p, b), nD (h, p, !b)], .un, .un, .un, .un, .un]) := by
    generalize N.map nD = X at *
    generalize H.map PyData.str = Y at *
    generalize P.map PyData.str = Z at *
    simp -implicitDefEqProofs [nD, hla, pla, hHl, hPl, sH, sP]
  have hnear : ∀ n, n ∈ [(h, p, b), (h, p, !b), (hl, p, true), (h, pl, b)] → NX n := fun n hn => by
    have th2 : TX 900 h := th.mono (by decide)
    have tp2 : TX 900 p := tp.mono (by decide)
    simp only [List.mem_cons, List.not_mem_nil, or_false] at hn
    rcases hn with rfl | rfl | rfl | rfl
    · exact ⟨th2, tp2⟩
    · exact ⟨th2, tp2⟩
    · exact ⟨tH hl hlm, tp2⟩
    · exact ⟨th2, tP pl plm⟩
  obtain ⟨e', c6, g6, x5, x6, x7, x8, x9, rfl, f6, h5, h6, p7, p8, p9⟩ := forL_map (g := bName 7) (body := law_b0) PyData.str (fun q e => ∃ (gs : List D) (x5 x6 x7 x8 x9 : O), e = [.scr ns, .own gs, .own (N.map nD), .val (nD (h, p, b)), .val (.list (H.map .str)), x5, x6, x7, x8, x9, .un, .un] ∧ Feed gs ∧ (x5 = .own (P.map .str) ∨ x5 = .val (.list (P.map .str))) ∧ (x6 = .own ([(h, p, b), (h, p, !b), (hl, p, true), (h, pl, b)].map nD) ∨ x6 = .val (NL [(h, p, b), (h, p, !b), (hl, p, true), (h, pl, b)])) ∧ x7.pinned = false ∧ x8.pinned = false ∧ x9.pinned = false) H [.scr ns, .own g5, .own (N.map nD), .val (nD (h, p, b)), .val (.list (H.map .str)), .own (P.map .str), .own ([(h, p, b), (h, p, !b), (hl, p, true), (h, pl, b)].map nD), .un, .un, .un, .un, .un] ⟨_, _, _, _, _, _, rfl, f5, .inl rfl, .inl rfl, rfl, rfl, rfl⟩ (fun q host s hd e he => by
    obtain ⟨gs, x5, x6, x7, x8, x9, rfl, hfs, h5, h6, p7, p8, p9⟩ := he
    obtain ⟨g7, y6, y8, y9, st, f7, r6, r8, r9⟩ := l_b0 hfs N l1 x1 P h51 h52 tP _ (by simp) hnear host (tH host (by rw [hd]; simp)) (.scr ns) (.val (nD (h, p, b))) (.val (.list (H.map .str))) x5 x6 x8 x9 .un .un h5 h6 p8 p9
    refine ⟨[.scr ns, .own gs, .own (N.map nD), .val (nD (h, p, b)), .val (.list (H.map .str)), x5, x6, .val (.str host), x8, x9, .un, .un], ?_, ?_⟩
    · generalize N.map nD = X at *
      generalize H.map PyData.str = Y at *
      generalize nD (h, p, b) = d at *
      simp [p7]
    · rw [st]
      exact ⟨_, _, _, _, _, _, rfl, f7, .inr rfl, r6, rfl, r8, r9⟩)
  obtain ⟨e', c7, g8, x2, y7, y10, rfl, f8, h2, q7, q10⟩ := forL_rng (g := bName 10) (body := law_b3) (fun k e => ∃ (gs : List D) (x2 y7 y10 : O), e = [.scr ns, .own gs, x2, .val (nD (h, p, b)), .val (.list (H.map .str)), x5, x6, y7, x8, x9, y10, .un] ∧ Feed gs ∧ (x2 = .own (N.map nD) ∨ x2 = .val (NL N)) ∧ y7.pinned = false ∧ y10.pinned = false) 3 [.scr ns, .own g6, .own (N.map nD), .val (nD (h, p, b)), .val (.list (H.map .str)), x5, x6, x7, x8, x9, .un, .un] ⟨_, _, _, _, rfl, f6, .inl rfl, p7, rfl⟩ (fun k hk e he => by
    obtain ⟨gs, x2, y7, y10, rfl, hfs, h2, q7, q10⟩ := he
    obtain ⟨g9, z7, st, f9, r7⟩ := l_b3 hfs N l1 x1 (.scr ns) x2 (.val (nD (h, p, b))) (.val (.list (H.map .str))) x5 x6 y7 x8 x9 (.val (.int (k : Int))) .un h2 q7
    refine ⟨[.scr ns, .own gs, x2, .val (nD (h, p, b)), .val (.list (H.map .str)), x5, x6, y7, x8, x9, .val (.int (k : Int)), .un], ?_, ?_⟩
    · generalize nD (h, p, b) = d at *
      generalize H.map PyData.str = Y at *
      simp [q10]
    · rw [st]
      exact ⟨_, _, _, _, rfl, f9, .inr rfl, r7, rfl⟩)
  obtain ⟨e2, he⟩ := l_e (h, p, b) ⟨th.mono (by decide), tp.mono (by decide)⟩ (.scr ns) (.own g8) x2 (.val (.list (H.map .str))) x5 x6 y7 x8 x9 y10 .un
  rw [show f_law = fBody 12 [] s_law from rfl, law_cut]
  have hix0 : oIx (.val (nD (h, p, b))) (.val (.int 0)) = .ok (.val (.str h)) := by simp [nD]
  have hix1 : oIx (.val (nD (h, p, b))) (.val (.int 1)) = .ok (.val (.str p)) := by simp [nD]
  generalize law_c = lc at *
  generalize law_b0 = b0 at *
  generalize law_b3 = b3 at *
  generalize law_e = le at *
  generalize law_n1 = n1 at *
  generalize law_n2 = n2 at *
  clear hnear h6 x1
  generalize [(h, p, b), (h, p, !b), (hl, p, true), (h, pl, b)].map nD = NN at *
  generalize [nD (h, p, b), nD (h, p, !b)] = NN0 at *
  generalize nD (h, p, b) = d at *
  generalize N.map nD = X at *
  generalize H.map PyData.str = Y at *
  generalize P.map PyData.str = Z at *
  simp -implicitDefEqProofs [cf, c1, c2, c3, c4, c5, hix0, hix1, hn1, hn2, c6, c7, he]
end K

namespace K
open PySem L2 RZ SE
abbrev sI_BadNote : Stmt := inClass (top 3) 0
theorem scI_BadNote : FnScope ["self", "at"] ["self", "at"] (defScope sI_BadNote) := ⟨rfl, rfl, rfl, by decide +kernel, rfl, by decide +kernel, by decide +kernel⟩
theorem all_mk {l : PySem.W.OpenLaw} {w : World} {K : PySem.W.Frag} {h : Heap} {mg : Str → Option Value} {fa f0 f1 f2 f3 f4 f5 f6 f7 f8 f9 f10 f11 f12 f13 f14 f15 f16 f17 f18 f19 f20 f21 f22 c_StoreError c_BadRing c_BadNote c_BadSeen fi_BadNote : Addr} (X : K.In h) (G : h.Ns mainGlobals mg) (hfa : mg "law" = some (.ref fa))
    {od0 an0 od1 an1 od2 an2 od3 an3 od4 an4 od5 an5 od6 an6 od7 an7 od8 an8 od9 an9 od10 an10 od11 an11 od12 an12 od13 an13 od14 an14 od15 an15 od16 an16 od17 an17 od18 an18 od19 an19 od20 an20 od21 an21 od22 an22 : Option Addr} {sl0 sl1 sl2 sl3 sl4 sl5 sl6 sl7 sl8 sl9 sl10 sl11 sl12 sl13 sl14 sl15 sl16 sl17 sl18 sl19 sl20 sl21 sl22 : Array (Option Value)} {oc0 kV0 dc0 pm0 cd0 ct0 oc1 kV1 dc1 pm1 cd1 ct1 oc2 kV2 dc2 pm2 cd2 ct2 oc3 kV3 dc3 pm3 cd3 ct3 oc4 kV4 dc4 pm4 cd4 ct4 oc5 kV5 dc5 pm5 cd5 ct5 oc6 kV6 dc6 pm6 cd6 ct6 oc7 kV7 dc7 pm7 cd7 ct7 oc8 kV8 dc8 pm8 cd8 ct8 oc9 kV9 dc9 pm9 cd9 ct9 oc10 kV10 dc10 pm10 cd10 ct10 oc11 kV11 dc11 pm11 cd11 ct11 oc12 kV12 dc12 pm12 cd12 ct12 oc13 kV13 dc13 pm13 cd13 ct13 oc14 kV14 dc14 pm14 cd14 ct14 oc15 kV15 dc15 pm15 cd15 ct15 oc16 kV16 dc16 pm16 cd16 ct16 oc17 kV17 dc17 pm17 cd17 ct17 oc18 kV18 dc18 pm18 cd18 ct18 oc19 kV19 dc19 pm19 cd19 ct19 oc20 kV20 dc20 pm20 cd20 ct20 oc21 kV21 dc21 pm21 cd21 ct21 oc22 kV22 dc22 pm22 cd22 ct22 : Value}
    {nm_BadNote q_BadNote : Str} {N_BadNote : Addr} {bs_BadNote : List Value} {sn_BadNote : List Str} {sub_BadNote : List Value} {ab_BadNote : Bool} {col_BadNote : Option Bool} {dd_BadNote od_BadNote an_BadNote : Option Addr} {m0_BadNote m1_BadNote m2_BadNote m3_BadNote m5_BadNote : Option Value} {oc_BadNote kV_BadNote dc_BadNote pm_BadNote cd_BadNote ct_BadNote : Value} {sl_BadNote : Array (Option Value)}
    {q0t : Tok}
    (a0 : PySem.W.nsIn K mainGlobals "is_name" = some (some (.ref f0)))
    (l0 : K.lookup f0 = some ⟨oc0, od0, .func (PySem.W.fnOf "is_name" "is_name" (defArgs sis_name) (defBody sis_name) (defScope sis_name) .none kV0 dc0 pm0 an0 cd0 ct0), sl0⟩)
    (c0 : PySem.W.codeIn K cd0 "is_name" = true)
    (k0 : PySem.W.keepIn K (.ref f0) = true)
    (a1 : PySem.W.nsIn K mainGlobals "are_names" = some (some (.ref f1)))
    (l1 : K.lookup f1 = some ⟨oc1, od1, .func (PySem.W.fnOf "are_names" "are_names" (defArgs sare_names) (defBody sare_names) (defScope sare_names) .none kV1 dc1 pm1 an1 cd1 ct1), sl1⟩)
    (c1 : PySem.W.codeIn K cd1 "are_names" = true)
    (k1 : PySem.W.keepIn K (.ref f1) = true)
    (a2 : PySem.W.nsIn K mainGlobals "is_path" = some (some (.ref f2)))
    (l2 : K.lookup f2 = some ⟨oc2, od2, .func (PySem.W.fnOf "is_path" "is_path" (defArgs sis_path) (defBody sis_path) (defScope sis_path) .none kV2 dc2 pm2 an2 cd2 ct2), sl2⟩)
    (c2 : PySem.W.codeIn K cd2 "is_path" = true)
    (k2 : PySem.W.keepIn K (.ref f2) = true)
    (a3 : PySem.W.nsIn K mainGlobals "check_note" = some (some (.ref f3)))
    (l3 : K.lookup f3 = some ⟨oc3, od3, .func (PySem.W.fnOf "check_note" "check_note" (defArgs scheck_note) (defBody scheck_note) (defScope scheck_note) .none kV3 dc3 pm3 an3 cd3 ct3), sl3⟩)
    (c3 : PySem.W.codeIn K cd3 "check_note" = true)
    (k3 : PySem.W.keepIn K (.ref f3) = true)
    (a4 : PySem.W.nsIn K mainGlobals "is_sent" = some (some (.ref f4)))
    (l4 : K.lookup f4 = some ⟨oc4, od4, .func (PySem.W.fnOf "is_sent" "is_sent" (defArgs sis_sent) (defBody sis_sent) (defScope sis_sent) .none kV4 dc4 pm4 an4 cd4 ct4), sl4⟩)
    (c4 : PySem.W.codeIn K cd4 "is_sent" = true)
    (k4 : PySem.W.keepIn K (.ref f4) = true)
    (a5 : PySem.W.nsIn K mainGlobals "sent_along" = some (some (.ref f5)))
    (l5 : K.lookup f5 = some ⟨oc5, od5, .func (PySem.W.fnOf "sent_along" "sent_along" (defArgs ssent_along) (defBody ssent_along) (defScope ssent_along) .none kV5 dc5 pm5 an5 cd5 ct5), sl5⟩)
    (c5 : PySem.W.codeIn K cd5 "sent_along" = true)
    (k5 : PySem.W.keepIn K (.ref f5) = true)
    (a6 : PySem.W.nsIn K mainGlobals "_law_feed" = some (some (.ref f6)))
    (l6 : K.lookup f6 = some ⟨oc6, od6, .func (PySem.W.fnOf "_law_feed" "_law_feed" (defArgs s_law_feed) (defBody s_law_feed) (defScope s_law_feed) .none kV6 dc6 pm6 an6 cd6 ct6), sl6⟩)
    (c6 : PySem.W.codeIn K cd6 "_law_feed" = true)
    (k6 : PySem.W.keepIn K (.ref f6) = true)
    (a7 : PySem.W.nsIn K mainGlobals "_law_draw" = some (some (.ref f7)))
    (l7 : K.lookup f7 = some ⟨oc7, od7, .func (PySem.W.fnOf "_law_draw" "_law_draw" (defArgs s_law_draw) (defBody s_law_draw) (defScope s_law_draw) .none kV7 dc7 pm7 an7 cd7 ct7), sl7⟩)
    (c7 : PySem.W.codeIn K cd7 "_law_draw" = true)
    (k7 : PySem.W.keepIn K (.ref f7) = true)
    (a8 : PySem.W.nsIn K mainGlobals "_law_whole" = some (some (.ref f8)))
    (l8 : K.lookup f8 = some ⟨oc8, od8, .func (PySem.W.fnOf "_law_whole" "_law_whole" (defArgs s_law_whole) (defBody s_law_whole) (defScope s_law_whole) .none kV8 dc8 pm8 an8 cd8 ct8), sl8⟩)
    (c8 : PySem.W.codeIn K cd8 "_law_whole" = true)
    (k8 : PySem.W.keepIn K (.ref f8) = true)
    (a9 : PySem.W.nsIn K mainGlobals "_law_yes" = some (some (.ref f9)))
    (l9 : K.lookup f9 = some ⟨oc9, od9, .func (PySem.W.fnOf "_law_yes" "_law_yes" (defArgs s_law_yes) (defBody s_law_yes) (defScope s_law_yes) .none kV9 dc9 pm9 an9 cd9 ct9), sl9⟩)
    (c9 : PySem.W.codeIn K cd9 "_law_yes" = true)
    (k9 : PySem.W.keepIn K (.ref f9) = true)
    (a10 : PySem.W.nsIn K mainGlobals "_law_word" = some (some (.ref f10)))
    (l10 : K.lookup f10 = some ⟨oc10, od10, .func (PySem.W.fnOf "_law_word" "_law_word" (defArgs s_law_word) (defBody s_law_word) (defScope s_law_word) .none kV10 dc10 pm10 an10 cd10 ct10), sl10⟩)
    (c10 : PySem.W.codeIn K cd10 "_law_word" = true)
    (k10 : PySem.W.keepIn K (.ref f10) = true)
    (a11 : PySem.W.nsIn K mainGlobals "_law_words" = some (some (.ref f11)))
    (l11 : K.lookup f11 = some ⟨oc11, od11, .func (PySem.W.fnOf "_law_words" "_law_words" (defArgs s_law_words) (defBody s_law_words) (defScope s_law_words) .none kV11 dc11 pm11 an11 cd11 ct11), sl11⟩)
    (c11 : PySem.W.codeIn K cd11 "_law_words" = true)
    (k11 : PySem.W.keepIn K (.ref f11) = true)
    (a12 : PySem.W.nsIn K mainGlobals "_law_path" = some (some (.ref f12)))
    (l12 : K.lookup f12 = some ⟨oc12, od12, .func (PySem.W.fnOf "_law_path" "_law_path" (defArgs s_law_path) (defBody s_law_path) (defScope s_law_path) .none kV12 dc12 pm12 an12 cd12 ct12), sl12⟩)
    (c12 : PySem.W.codeIn K cd12 "_law_path" = true)
    (k12 : PySem.W.keepIn K (.ref f12) = true)
    (a13 : PySem.W.nsIn K mainGlobals "_law_goes" = some (some (.ref f13)))
    (l13 : K.lookup f13 = some ⟨oc13, od13, .func (PySem.W.fnOf "_law_goes" "_law_goes" (defArgs s_law_goes) (defBody s_law_goes) (defScope s_law_goes) .none kV13 dc13 pm13 an13 cd13 ct13), sl13⟩)
    (c13 : PySem.W.codeIn K cd13 "_law_goes" = true)
    (k13 : PySem.W.keepIn K (.ref f13) = true)
    (a14 : PySem.W.nsIn K mainGlobals "_law_note" = some (some (.ref f14)))
    (l14 : K.lookup f14 = some ⟨oc14, od14, .func (PySem.W.fnOf "_law_note" "_law_note" (defArgs s_law_note) (defBody s_law_note) (defScope s_law_note) .none kV14 dc14 pm14 an14 cd14 ct14), sl14⟩)
    (c14 : PySem.W.codeIn K cd14 "_law_note" = true)
    (k14 : PySem.W.keepIn K (.ref f14) = true)
    (a15 : PySem.W.nsIn K mainGlobals "_law_hosts" = some (some (.ref f15)))
    (l15 : K.lookup f15 = some ⟨oc15, od15, .func (PySem.W.fnOf "_law_hosts" "_law_hosts" (defArgs s_law_hosts) (defBody s_law_hosts) (defScope s_law_hosts) .none kV15 dc15 pm15 an15 cd15 ct15), sl15⟩)
    (c15 : PySem.W.codeIn K cd15 "_law_hosts" = true)
    (k15 : PySem.W.keepIn K (.ref f15) = true)
    (a16 : PySem.W.nsIn K mainGlobals "_law_paths" = some (some (.ref f16)))
    (l16 : K.lookup f16 = some ⟨oc16, od16, .func (PySem.W.fnOf "_law_paths" "_law_paths" (defArgs s_law_paths) (defBody s_law_paths) (defScope s_law_paths) .none kV16 dc16 pm16 an16 cd16 ct16), sl16⟩)
    (c16 : PySem.W.codeIn K cd16 "_law_paths" = true)
    (k16 : PySem.W.keepIn K (.ref f16) = true)
    (a17 : PySem.W.nsIn K mainGlobals "_law_is_names" = some (some (.ref f17)))
    (l17 : K.lookup f17 = some ⟨oc17, od17, .func (PySem.W.fnOf "_law_is_names" "_law_is_names" (defArgs s_law_is_names) (defBody s_law_is_names) (defScope s_law_is_names) .none kV17 dc17 pm17 an17 cd17 ct17), sl17⟩)
    (c17 : PySem.W.codeIn K cd17 "_law_is_names" = true)
    (k17 : PySem.W.keepIn K (.ref f17) = true)
    (a18 : PySem.W.nsIn K mainGlobals "_law_due_fault" = some (some (.ref f18)))
    (l18 : K.lookup f18 = some ⟨oc18, od18, .func (PySem.W.fnOf "_law_due_fault" "_law_due_fault" (defArgs s_law_due_fault) (defBody s_law_due_fault) (defScope s_law_due_fault) .none kV18 dc18 pm18 an18 cd18 ct18), sl18⟩)
    (c18 : PySem.W.codeIn K cd18 "_law_due_fault" = true)
    (k18 : PySem.W.keepIn K (.ref f18) = true)
    (a19 : PySem.W.nsIn K mainGlobals "_law_fault" = some (some (.ref f19)))
    (l19 : K.lookup f19 = some ⟨oc19, od19, .func (PySem.W.fnOf "_law_fault" "_law_fault" (defArgs s_law_fault) (defBody s_law_fault) (defScope s_law_fault) .none kV19 dc19 pm19 an19 cd19 ct19), sl19⟩)
    (c19 : PySem.W.codeIn K cd19 "_law_fault" = true)
    (k19 : PySem.W.keepIn K (.ref f19) = true)
    (a20 : PySem.W.nsIn K mainGlobals "_law_faults_right" = some (some (.ref f20)))
    (l20 : K.lookup f20 = some ⟨oc20, od20, .func (PySem.W.fnOf "_law_faults_right" "_law_faults_right" (defArgs s_law_faults_right) (defBody s_law_faults_right) (defScope s_law_faults_right) .none kV20 dc20 pm20 an20 cd20 ct20), sl20⟩)
    (c20 : PySem.W.codeIn K cd20 "_law_faults_right" = true)
    (k20 : PySem.W.keepIn K (.ref f20) = true)
    (a21 : PySem.W.nsIn K mainGlobals "_law_sent_right" = some (some (.ref f21)))
    (l21 : K.lookup f21 = some ⟨oc21, od21, .func (PySem.W.fnOf "_law_sent_right" "_law_sent_right" (defArgs s_law_sent_right) (defBody s_law_sent_right) (defScope s_law_sent_right) .none kV21 dc21 pm21 an21 cd21 ct21), sl21⟩)
    (c21 : PySem.W.codeIn K cd21 "_law_sent_right" = true)
    (k21 : PySem.W.keepIn K (.ref f21) = true)
    (a22 : PySem.W.nsIn K mainGlobals "law" = some (some (.ref f22)))
    (l22 : K.lookup f22 = some ⟨oc22, od22, .func (PySem.W.fnOf "law" "law" (defArgs slaw) (defBody slaw) (defScope slaw) .none kV22 dc22 pm22 an22 cd22 ct22), sl22⟩)
    (c22 : PySem.W.codeIn K cd22 "law" = true)
    (k22 : PySem.W.keepIn K (.ref f22) = true)
    (z0 : PySem.W.nsIn K mainGlobals "isinstance" = some none)
    (z1 : PySem.W.nsIn K mainGlobals "str" = some none)
    (z2 : PySem.W.nsIn K mainGlobals "len" = some none)
    (z3 : PySem.W.nsIn K mainGlobals "all" = some none)
    (z4 : PySem.W.nsIn K mainGlobals "enumerate" = some none)
    (z5 : PySem.W.nsIn K mainGlobals "sorted" = some none)
    (z6 : PySem.W.nsIn K mainGlobals "list" = some none)
    (z7 : PySem.W.nsIn K mainGlobals "int" = some none)
    (z8 : PySem.W.nsIn K mainGlobals "abs" = some none)
    (z9 : PySem.W.nsIn K mainGlobals "bool" = some none)
    (z10 : PySem.W.nsIn K mainGlobals "range" = some none)
    (q0 : PySem.W.nsIn K mainGlobals "MOST_NAMES" = some (some (.int 4 q0t)))
    (ac_StoreError : PySem.W.nsIn K mainGlobals "StoreError" = some (some (.ref c_StoreError)))
    (ac_BadRing : PySem.W.nsIn K mainGlobals "BadRing" = some (some (.ref c_BadRing)))
    (ac_BadNote : PySem.W.nsIn K mainGlobals "BadNote" = some (some (.ref c_BadNote)))
    (ac_BadSeen : PySem.W.nsIn K mainGlobals "BadSeen" = some (some (.ref c_BadSeen)))
    (hn : PySem.W.specialIn K (.builtin "object.__class__") "__get__" = some (some (.builtin "getset_descriptor.__get__")))
    (ht : PySem.W.takesIn K (.builtin "object.__class__") = some true)
    (xL_BadNote : K.lookup c_BadNote = some (excClassObj nm_BadNote q_BadNote c_BadNote N_BadNote bs_BadNote [.ref c_StoreError, .type "ValueError", .type "Exception", .type "BaseException", .type "object"] true sn_BadNote sub_BadNote ab_BadNote col_BadNote dd_BadNote m0_BadNote m1_BadNote m2_BadNote m3_BadNote m5_BadNote "ValueError.__new__"))
    (sa_BadNote : PySem.W.findIn K (.ref c_BadNote) "__setattr__" = some (some (.builtin "object.__setattr__")))
    (ga_BadNote : PySem.W.findIn K (.ref c_BadNote) "__getattribute__" = some (some (.builtin "BaseException.__getattribute__")))
    (gg_BadNote : PySem.W.findIn K (.ref c_BadNote) "__getattr__" = some none)
    (eC_BadNote : PySem.W.subIn K (.ref c_BadNote) (.type "BaseException") = some true)
    (tC_BadNote : PySem.W.typeIn K (.ref c_BadNote) = some (.type "type"))
    (hC_BadNote : PySem.W.hasDictIn K c_BadNote = true)
    (iC_BadNote : (PySem.W.clsIn K c_BadNote).isSome = true)
    (kC_BadNote : PySem.W.keepIn K (.ref c_BadNote) = true)
    (ha_BadNote : PySem.W.findIn K (.ref c_BadNote) "__class__" = some (some (.builtin "object.__class__")))
    (hm_BadNote : PySem.W.mroIn K c_BadNote (.type "object") = some true)
    (ai_BadNote : PySem.W.findIn K (.ref c_BadNote) "__init__" = some (some (.ref fi_BadNote)))
    (ti_BadNote : PySem.W.typeIn K (.ref fi_BadNote) = some (.type "function"))
    (li_BadNote : K.lookup fi_BadNote = some ⟨oc_BadNote, od_BadNote, .func (PySem.W.fnOf "__init__" "BadNote.__init__" (defArgs sI_BadNote) (defBody sI_BadNote) (defScope sI_BadNote) .none kV_BadNote dc_BadNote pm_BadNote an_BadNote cd_BadNote ct_BadNote), sl_BadNote⟩)
    (ci_BadNote : PySem.W.codeIn K cd_BadNote "BadNote.__init__" = true)
    (ki_BadNote : PySem.W.keepIn K (.ref fi_BadNote) = true)
    (no_BadNote_at : PySem.W.findIn K (.ref c_BadNote) "at" = some none)
    (kt_BadNote_StoreError : PySem.W.kitOne K (.ref c_BadNote) (.ref c_StoreError) = some true)
    (xm_BadNote_StoreError : PySem.W.exmOne K (.ref c_BadNote) (.ref c_StoreError) = some true)
    (kt_BadNote_BadRing : PySem.W.kitOne K (.ref c_BadNote) (.ref c_BadRing) = some false)
    (xm_BadNote_BadRing : PySem.W.exmOne K (.ref c_BadNote) (.ref c_BadRing) = some false)
    (kt_BadNote_BadNote : PySem.W.kitOne K (.ref c_BadNote) (.ref c_BadNote) = some true)
    (xm_BadNote_BadNote : PySem.W.exmOne K (.ref c_BadNote) (.ref c_BadNote) = some true)
    (kt_BadNote_BadSeen : PySem.W.kitOne K (.ref c_BadNote) (.ref c_BadSeen) = some false)
    (xm_BadNote_BadSeen : PySem.W.exmOne K (.ref c_BadNote) (.ref c_BadSeen) = some false)
    (kt_BadNote_ValueError : PySem.W.kitOne K (.ref c_BadNote) (.type "ValueError") = some true)
    : ∃ fd : FuncData, (∀ (s : Shared) (v : Value), BindsTo s fd ⟨[v], []⟩ [("script", v)]) ∧ ∀ base : Heap, K.In base → base.Ns mainGlobals mg → FnOk l.prog w K mg base CX0 7 fa fd ["script"] (spLaw K) := by
  have e := hfa.symm.trans (PySem.W.mg_of X G a22)
  cases e
  have T : Txt K mg c_StoreError c_BadRing c_BadNote c_BadSeen := ⟨PySem.W.mg_of X G ac_StoreError, PySem.W.mg_of X G ac_BadRing, PySem.W.mg_of X G ac_BadNote, PySem.W.mg_of X G ac_BadSeen, ⟨ga_BadNote, gg_BadNote, eC_BadNote, hC_BadNote, ha_BadNote, hn, ht, hm_BadNote, iC_BadNote⟩, ⟨ga_BadNote, gg_BadNote, eC_BadNote, hC_BadNote⟩, no_BadNote_at, kt_BadNote_StoreError, xm_BadNote_StoreError, kt_BadNote_BadRing, xm_BadNote_BadRing, kt_BadNote_BadNote, xm_BadNote_BadNote, kt_BadNote_BadSeen, xm_BadNote_BadSeen, kt_BadNote_ValueError, PySem.W.mg_none_of X G z0, PySem.W.mg_none_of X G z1, PySem.W.mg_none_of X G z2, PySem.W.mg_none_of X G z3, PySem.W.mg_none_of X G z4, PySem.W.mg_none_of X G z5, PySem.W.mg_none_of X G z6, PySem.W.mg_none_of X G z7, PySem.W.mg_none_of X G z8, PySem.W.mg_none_of X G z9, PySem.W.mg_none_of X G z10, kon_i (PySem.W.mg_of X G q0)⟩
  refine ⟨PySem.W.fnOf "law" "law" (defArgs slaw) (defBody slaw) (defScope slaw) .none kV22 dc22 pm22 an22 cd22 ct22, fun s v => .of_eq rfl, fun base _ _ => ?_⟩
  have O_BadNote : OexC K c_BadNote := { cls := ⟨_, _, _, _, _, _, _, _, _, _, _, _, _, _, _, xL_BadNote, rfl⟩, sa := sa_BadNote, exC := eC_BadNote, tyC := tC_BadNote, kC := kC_BadNote }
  have FI_BadNote := fun_mk (st := sI_BadNote) li_BadNote ci_BadNote ki_BadNote
  have X_BadNote : ClsX l.prog w K mg base "BadNote" ["at"] := ⟨c_BadNote, fi_BadNote, _, PySem.W.mg_of X G ac_BadNote, O_BadNote, ai_BadNote, ti_BadNote, init1 FI_BadNote scI_BadNote O_BadNote no_BadNote_at (fun cdv A outer s0 H E => pss_one (ps_ost (pv 0) (pv 1))), FI_BadNote.binds (fun _ _ _ _ _ _ us hl => match us, hl with | [_, _], _ => rfl)⟩
  have C_is_name := cal_is_name (P := l.prog) (w := w) (base := base) T (funAt_mk X G a0 l0 c0 k0) 
  have C_is_sent := cal_is_sent (P := l.prog) (w := w) (base := base) T (funAt_mk X G a4 l4 c4 k4) 
  have C__law_feed := cal__law_feed (P := l.prog) (w := w) (base := base) T (funAt_mk X G a6 l6 c6 k6) 
  have C__law_draw := cal__law_draw (P := l.prog) (w := w) (base := base) T (funAt_mk X G a7 l7 c7 k7) 
  have C__law_whole := cal__law_whole (P := l.prog) (w := w) (base := base) T (funAt_mk X G a8 l8 c8 k8) 
  have CH__law_whole := calH__law_whole (P := l.prog) (w := w) (base := base) T (funAt_mk X G a8 l8 c8 k8)
  have C__law_yes := cal__law_yes (P := l.prog) (w := w) (base := base) T (funAt_mk X G a9 l9 c9 k9) 
  have C__law_path := cal__law_path (P := l.prog) (w := w) (base := base) T (funAt_mk X G a12 l12 c12 k12) 
  have C__law_goes := cal__law_goes (P := l.prog) (w := w) (base := base) T (funAt_mk X G a13 l13 c13 k13) 
  have C__law_is_names := cal__law_is_names (P := l.prog) (w := w) (base := base) T (funAt_mk X G a17 l17 c17 k17) 
  have C_are_names := cal_are_names (P := l.prog) (w := w) (base := base) T (funAt_mk X G a1 l1 c1 k1) C_is_name
  have C_sent_along := cal_sent_along (P := l.prog) (w := w) (base := base) T (funAt_mk X G a5 l5 c5 k5) C_is_sent
  have C__law_word := cal__law_word (P := l.prog) (w := w) (base := base) T (funAt_mk X G a10 l10 c10 k10) C__law_draw
  have C__law_due_fault := cal__law_due_fault (P := l.prog) (w := w) (base := base) T (funAt_mk X G a18 l18 c18 k18) C__law_is_names
  have C_is_path := cal_is_path (P := l.prog) (w := w) (base := base) T (funAt_mk X G a2 l2 c2 k2) C_are_names
  have C__law_words := cal__law_words (P := l.prog) (w := w) (base := base) T (funAt_mk X G a11 l11 c11 k11) C__law_draw C__law_word
  have C__law_sent_right := cal__law_sent_right (P := l.prog) (w := w) (base := base) T (funAt_mk X G a21 l21 c21 k21) C_sent_along C__law_goes C__law_whole C__law_yes C_is_sent
  have C_check_note := cal_check_note (P := l.prog) (w := w) (base := base) T (funAt_mk X G a3 l3 c3 k3) C_are_names C_is_path X_BadNote
  have C__law_note := cal__law_note (P := l.prog) (w := w) (base := base) T (funAt_mk X G a14 l14 c14 k14) C__law_words C__law_draw C__law_path
  have C__law_hosts := cal__law_hosts (P := l.prog) (w := w) (base := base) T (funAt_mk X G a15 l15 c15 k15) C__law_words C__law_word
  have C__law_paths := cal__law_paths (P := l.prog) (w := w) (base := base) T (funAt_mk X G a16 l16 c16 k16) C__law_path C__law_words C__law_word
  have C__law_fault := cal__law_fault (P := l.prog) (w := w) (base := base) T (funAt_mk X G a19 l19 c19 k19) C_check_note CH__law_whole
  have C__law_faults_right := cal__law_faults_right (P := l.prog) (w := w) (base := base) T (funAt_mk X G a20 l20 c20 k20) C__law_draw C__law_fault C__law_due_fault
  exact (cal_law T (fun_mk (st := slaw) l22 c22 k22) C__law_feed C__law_draw C__law_note C__law_faults_right C__law_hosts C__law_paths C__law_yes C_is_sent C__law_goes C__law_sent_right C__law_words C__law_path C_sent_along).imp (law_sp law_ok)
end K
open PySem PySem.W PyProof.Rows in
set_option maxRecDepth 100000 in
set_option maxHeartbeats 0 in
theorem PySem.Challenge.cw_storedfresh_k66_notes_that_are_sent_holds : PySem.Challenge.rw_storedfresh_k66_notes_that_are_sent.Holds := by
  w_on; o_law; k_head; (case hw => w_witness2)
  k_fill
  refine SE.walk (l := PySem.Challenge.rw_storedfresh_k66_notes_that_are_sent) (k := 7) ⟨rfl, by decide, by decide⟩ rfl rfl (fun w h Y => PySem.W.kIn_of Y) ?F
  case F =>
    intro w mg fa h KX G hmg
    refine' K.all_mk KX G hmg ?a0 ?l0 ?c0 ?k0 ?a1 ?l1 ?c1 ?k1 ?a2 ?l2 ?c2 ?k2 ?a3 ?l3 ?c3 ?k3 ?a4 ?l4 ?c4 ?k4 ?a5 ?l5 ?c5 ?k5 ?a6 ?l6 ?c6 ?k6 ?a7 ?l7 ?c7 ?k7 ?a8 ?l8 ?c8 ?k8 ?a9 ?l9 ?c9 ?k9 ?a10 ?l10 ?c10 ?k10 ?a11 ?l11 ?c11 ?k11 ?a12 ?l12 ?c12 ?k12 ?a13 ?l13 ?c13 ?k13 ?a14 ?l14 ?c14 ?k14 ?a15 ?l15 ?c15 ?k15 ?a16 ?l16 ?c16 ?k16 ?a17 ?l17 ?c17 ?k17 ?a18 ?l18 ?c18 ?k18 ?a19 ?l19 ?c19 ?k19 ?a20 ?l20 ?c20 ?k20 ?a21 ?l21 ?c21 ?k21 ?a22 ?l22 ?c22 ?k22 ?z0 ?z1 ?z2 ?z3 ?z4 ?z5 ?z6 ?z7 ?z8 ?z9 ?z10 ?q0 ?ac_StoreError ?ac_BadRing ?ac_BadNote ?ac_BadSeen ?hn ?ht ?xL_BadNote ?sa_BadNote ?ga_BadNote ?gg_BadNote ?eC_BadNote ?tC_BadNote ?hC_BadNote ?iC_BadNote ?kC_BadNote ?ha_BadNote ?hm_BadNote ?ai_BadNote ?ti_BadNote ?li_BadNote ?ci_BadNote ?ki_BadNote ?no_BadNote_at ?kt_BadNote_StoreError ?xm_BadNote_StoreError ?kt_BadNote_BadRing ?xm_BadNote_BadRing ?kt_BadNote_BadNote ?xm_BadNote_BadNote ?kt_BadNote_BadSeen ?xm_BadNote_BadSeen ?kt_BadNote_ValueError
    (case a0 => k_is)
    (case l0 => k_is)
    (case c0 => k_is)
    (case k0 => k_is)
    (case a1 => k_is)
    (case l1 => k_is)
    (case c1 => k_is)
    (case k1 => k_is)
    (case a2 => k_is)
    (case l2 => k_is)
    (case c2 => k_is)
    (case k2 => k_is)
    (case a3 => k_is)
    (case l3 => k_is)
    (case c3 => k_is)
    (case k3 => k_is)
    (case a4 => k_is)
    (case l4 => k_is)
    (case c4 => k_is)
    (case k4 => k_is)
    (case a5 => k_is)
    (case l5 => k_is)
    (case c5 => k_is)
    (case k5 => k_is)
    (case a6 => k_is)
    (case l6 => k_is)
    (case c6 => k_is)
    (case k6 => k_is)
    (case a7 => k_is)
    (case l7 => k_is)
    (case c7 => k_is)
    (case k7 => k_is)
    (case a8 => k_is)
    (case l8 => k_is)
    (case c8 => k_is)
    (case k8 => k_is)
    (case a9 => k_is)
    (case l9 => k_is)
    (case c9 => k_is)
    (case k9 => k_is)
    (case a10 => k_is)
    (case l10 => k_is)
    (case c10 => k_is)
    (case k10 => k_is)
    (case a11 => k_is)
    (case l11 => k_is)
    (case c11 => k_is)
    (case k11 => k_is)
    (case a12 => k_is)
    (case l12 => k_is)
    (case c12 => k_is)
    (case k12 => k_is)
    (case a13 => k_is)
    (case l13 => k_is)
    (case c13 => k_is)
    (case k13 => k_is)
    (case a14 => k_is)
    (case l14 => k_is)
    (case c14 => k_is)
    (case k14 => k_is)
    (case a15 => k_is)
    (case l15 => k_is)
    (case c15 => k_is)
    (case k15 => k_is)
    (case a16 => k_is)
    (case l16 => k_is)
    (case c16 => k_is)
    (case k16 => k_is)
    (case a17 => k_is)
    (case l17 => k_is)
    (case c17 => k_is)
    (case k17 => k_is)
    (case a18 => k_is)
    (case l18 => k_is)
    (case c18 => k_is)
    (case k18 => k_is)
    (case a19 => k_is)
    (case l19 => k_is)
    (case c19 => k_is)
    (case k19 => k_is)
    (case a20 => k_is)
    (case l20 => k_is)
    (case c20 => k_is)
    (case k20 => k_is)
    (case a21 => k_is)
    (case l21 => k_is)
    (case c21 => k_is)
    (case k21 => k_is)
    (case a22 => k_is)
    (case l22 => k_is)
    (case c22 => k_is)
    (case k22 => k_is)
    (case z0 => k_is)
    (case z1 => k_is)
    (case z2 => k_is)
    (case z3 => k_is)
    (case z4 => k_is)
    (case z5 => k_is)
    (case z6 => k_is)
    (case z7 => k_is)
    (case z8 => k_is)
    (case z9 => k_is)
    (case z10 => k_is)
    (case q0 => k_is)
    (case ac_StoreError => k_is)
    (case ac_BadRing => k_is)
    (case ac_BadNote => k_is)
    (case ac_BadSeen => k_is)
    (case hn => k_is)
    (case ht => k_is)
    (case xL_BadNote => k_is)
    (case sa_BadNote => first | k_is | rfl)
    (case ga_BadNote => first | k_is | rfl)
    (case gg_BadNote => first | k_is | rfl)
    (case eC_BadNote => first | k_is | rfl)
    (case tC_BadNote => first | k_is | rfl)
    (case hC_BadNote => first | k_is | rfl)
    (case iC_BadNote => first | k_is | rfl)
    (case kC_BadNote => first | k_is | rfl)
    (case ha_BadNote => first | k_is | rfl)
    (case hm_BadNote => first | k_is | rfl)
    (case ai_BadNote => first | k_is | rfl)
    (case ti_BadNote => first | k_is | rfl)
    (case li_BadNote => first | k_is | rfl)
    (case ci_BadNote => first | k_is | rfl)
    (case ki_BadNote => first | k_is | rfl)
    (case no_BadNote_at => k_is)
    (case kt_BadNote_StoreError => first | k_is | rfl)
    (case xm_BadNote_StoreError => first | k_is | rfl)
    (case kt_BadNote_BadRing => first | k_is | rfl)
    (case xm_BadNote_BadRing => first | k_is | rfl)
    (case kt_BadNote_BadNote => first | k_is | rfl)
    (case xm_BadNote_BadNote => first | k_is | rfl)
    (case kt_BadNote_BadSeen => first | k_is | rfl)
    (case xm_BadNote_BadSeen => first | k_is | rfl)
    (case kt_BadNote_ValueError => first | k_is | rfl)

